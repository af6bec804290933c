import PyProof.Rows.All
import Wide.All
import OpenK.AllK
import Wide.FinOn
import PySem.Challenge.RW_oncecoin_k15_moves_coins_and_looks
import HandS.ForMost
import HandS.StrMore
import HandS.ForExc
import HandS.Lambda
import HandS.Comp
import HandS.Walk
import HandS.Zip
import HandS.NoneIn
import HandS.Deep
import HandS.TupAny
import HandS.Defaults
import HandS.More
import HandS.Codes
import HandS.IsInst
import HandS.TupLen
import HandS.RaiseMore
import HandS.Small
import HandS.Style
import HandS.Conv
import KE.SortUse
import HandS.MakeKwOnly
import HandS.DictComp
import HandS.Dict
import HandS.WordsExc
import HandS.HeadHook1
import HandS.HeadHook2
import HandS.HeadHook3
import HandS.HeadEnd
import HandS.HeadHook4
import HandS.EndBits
import HandS.EndTab
import HandS.NestedK
import HandS.Head0
import HandS.Head1
import HandS.Head2
import KE.KStateDown
section
set_option Elab.async false
set_option linter.all false
/-! EvA: values, heap, results, operators of the evaluator. -/
namespace Ev
open PySem (Str)

/-- a written text -/
def lit (s : String) : Str := ⟨(s.toList.map Char.toNat).toArray⟩

inductive Val where
  | non | bl (b : Bool) | int (i : Int) | str (s : Str)
  | tup (l : List Val)
  /-- a list that nobody changes any more -/
  | lst (l : List Val)
  /-- a written tuple of the top -/
  | ktp (l : List Val)
  /-- the script's list -/
  | scr (l : List Val)
  /-- an object of the heap -/
  | ref (n : Nat)
  /-- a global: a def, a class, a table -/
  | gl (x : String)
  deriving Inhabited

mutual
def Val.beq : Val → Val → Bool
  | .non, .non => true
  | .bl a, .bl b => a == b
  | .int a, .int b => a == b
  | .str a, .str b => a == b
  | .tup a, .tup b => Val.beqs a b
  | .lst a, .lst b => Val.beqs a b
  | .ktp a, .ktp b => Val.beqs a b
  | .scr a, .scr b => Val.beqs a b
  | .ref a, .ref b => a == b
  | .gl a, .gl b => a == b
  | _, _ => false
def Val.beqs : List Val → List Val → Bool
  | [], [] => true
  | x :: xs, y :: ys => Val.beq x y && Val.beqs xs ys
  | _, _ => false
end
mutual
theorem Val.beq_iff : ∀ (a b : Val), Val.beq a b = true ↔ a = b
  | .non, b => by cases b <;> simp [Val.beq]
  | .bl x, b => by cases b <;> simp [Val.beq]
  | .int x, b => by cases b <;> simp [Val.beq]
  | .str x, b => by cases b <;> simp [Val.beq]
  | .tup x, b => by cases b <;> simp [Val.beq, Val.beqs_iff x]
  | .lst x, b => by cases b <;> simp [Val.beq, Val.beqs_iff x]
  | .ktp x, b => by cases b <;> simp [Val.beq, Val.beqs_iff x]
  | .scr x, b => by cases b <;> simp [Val.beq, Val.beqs_iff x]
  | .ref x, b => by cases b <;> simp [Val.beq]
  | .gl x, b => by cases b <;> simp [Val.beq]
theorem Val.beqs_iff : ∀ (a b : List Val), Val.beqs a b = true ↔ a = b
  | [], b => by cases b <;> simp [Val.beqs]
  | x :: xs, b => by cases b <;> simp [Val.beqs, Val.beq_iff x, Val.beqs_iff xs]
end
instance : DecidableEq Val := fun a b => decidable_of_iff _ (Val.beq_iff a b)

inductive EObj where
  | list (l : List Val)
  /-- t: the keys are tuples -/
  | dict (t : Bool) (l : List (Val × Val))
  | inst (c : String) (fs : List (String × Val))
  deriving DecidableEq, Inhabited

abbrev EHeap := List EObj
abbrev EEnv := List (Option Val)

inductive R (α : Type) where
  | ok (a : α) (h : EHeap)
  | exc (c : String) (fs : List (String × Val)) (h : EHeap)
  | no
abbrev M (α : Type) := EHeap → R α
def M.pure {α : Type} (a : α) : M α := fun h => .ok a h
def R.bind {α β : Type} (r : R α) (f : α → M β) : R β := match r with
  | .ok a h => f a h
  | .exc c fs h => .exc c fs h
  | .no => .no
def M.bind {α β : Type} (x : M α) (f : α → M β) : M β := fun h => (x h).bind f
instance : Monad M where
  pure := M.pure
  bind := M.bind
def stuck {α : Type} : M α := fun _ => .no
def guardM (b : Bool) : M Unit := fun h => if b = true then .ok () h else .no
def ofOpt {α : Type} (o : Option α) : M α := fun h => match o with
  | some a => .ok a h
  | none => .no

@[simp] theorem R.bind_ok {α β : Type} (a : α) (h : EHeap) (f : α → M β) : (R.ok a h).bind f = f a h := rfl
@[simp] theorem R.bind_exc {α β : Type} (c : String) (fs : List (String × Val)) (h : EHeap) (f : α → M β) : (R.exc c fs h : R α).bind f = .exc c fs h := rfl
@[simp] theorem R.bind_no {α β : Type} (f : α → M β) : (R.no : R α).bind f = .no := rfl
@[simp] theorem M.bind_at {α β : Type} (x : M α) (f : α → M β) (h : EHeap) : (x >>= f) h = (x h).bind f := rfl
@[simp] theorem M.pure_at {α : Type} (a : α) (h : EHeap) : (Pure.pure a : M α) h = .ok a h := rfl
@[simp] theorem stuck_at {α : Type} (h : EHeap) : (stuck : M α) h = .no := rfl
theorem guard_at (b : Bool) (h : EHeap) : guardM b h = if b = true then .ok () h else .no := rfl
@[simp] theorem guard_tt (h : EHeap) : guardM true h = .ok () h := rfl
@[simp] theorem guard_ff (h : EHeap) : guardM false h = .no := rfl
@[simp] theorem ofOpt_some {α : Type} (a : α) (h : EHeap) : ofOpt (some a) h = .ok a h := rfl
@[simp] theorem ofOpt_none {α : Type} (h : EHeap) : ofOpt (none : Option α) h = .no := rfl

/-! ### sizes -/
def most : Nat := 16777216

/-! ### no reference within -/
mutual
def noRef : Val → Bool
  | .ref _ => false
  | .tup l => noRefs l
  | .lst l => noRefs l
  | .ktp l => noRefs l
  | .scr l => noRefs l
  | _ => true
def noRefs : List Val → Bool
  | [] => true
  | x :: xs => noRef x && noRefs xs
end
theorem noRefs_iff : ∀ l : List Val, noRefs l = true ↔ ∀ x ∈ l, noRef x = true
  | [] => by simp [noRefs]
  | x :: xs => by simp [noRefs, noRefs_iff xs]
def EObj.noRef : EObj → Bool
  | .list l => noRefs l
  | .dict _ l => l.all fun p => Ev.noRef p.1 && Ev.noRef p.2
  | .inst _ fs => fs.all fun p => Ev.noRef p.2

/-! ### == and < -/
mutual
/-- Python's ==, of data (a list of the heap is read off it ahead) -/
def eqv : Val → Val → Bool
  | .non, .non => true
  | .bl a, .bl b => a == b
  | .bl a, .int j => (if a then 1 else 0) == j
  | .int i, .bl b => i == (if b then 1 else 0)
  | .int i, .int j => i == j
  | .str x, .str y => x == y
  | .lst xs, .lst ys => eqvs xs ys
  | .tup xs, .tup ys => eqvs xs ys
  | _, _ => false
def eqvs : List Val → List Val → Bool
  | [], [] => true
  | x :: xs, y :: ys => eqv x y && eqvs xs ys
  | _, _ => false
end
mutual
/-- data: no references, no globals; d: tuples and lists within one another at most -/
def isData (d : Nat) : Val → Bool
  | .ref _ => false
  | .gl _ => false
  | .ktp _ => false
  | .scr _ => false
  | .tup l => match d with
    | 0 => false
    | d + 1 => areData d l
  | .lst l => match d with
    | 0 => false
    | d + 1 => areData d l
  | _ => true
def areData (d : Nat) : List Val → Bool
  | [] => true
  | x :: xs => isData d x && areData d xs
end
def cmpL : List Nat → List Nat → Ordering
  | [], [] => .eq
  | [], _ :: _ => .lt
  | _ :: _, [] => .gt
  | x :: xs, y :: ys => if x < y then .lt else if y < x then .gt else cmpL xs ys
mutual
/-- the order of ints, texts, tuples; other things are alike or not to be compared -/
def cmpV : Val → Val → Option Ordering
  | .int i, .int j => some (if i < j then .lt else if j < i then .gt else .eq)
  | .str x, .str y => some (cmpL x.cps.toList y.cps.toList)
  | .tup xs, .tup ys => cmpVs xs ys
  | .non, .non => some .eq
  | .bl a, .bl b => if a = b then some .eq else none
  | _, _ => none
def cmpVs : List Val → List Val → Option Ordering
  | [], [] => some .eq
  | [], _ :: _ => some .lt
  | _ :: _, [] => some .gt
  | x :: xs, y :: ys => match cmpV x y with
    | some .eq => cmpVs xs ys
    | r => r
end

/-! ### the heap -/
/-- what a sequence holds -/
def seqOf (h : EHeap) : Val → Option (List Val)
  | .tup l => some l
  | .ktp l => some l
  | .lst l => some l
  | .ref n => match h[n]? with
    | some (.list l) => some l
    | _ => none
  | _ => none
def listOf (h : EHeap) : Val → Option (List Val)
  | .lst l => some l
  | .ref n => match h[n]? with
    | some (.list l) => some l
    | _ => none
  | _ => none
mutual
/-- data with the lists of the heap read -/
def deep (h : EHeap) (d : Nat) : Val → Option Val
  | .ref n => match h[n]? with
    | some (.list l) => match d with
      | 0 => none
      | d + 1 => if areData d l = true then some (.lst l) else none
    | _ => none
  | v => if isData d v = true then some v else none
end
def alloc (o : EObj) : M Val := fun h => .ok (.ref h.length) (h ++ [o])
def getObj (n : Nat) : M EObj := fun h => match h[n]? with
  | some o => .ok o h
  | none => .no
def setObj (n : Nat) (o : EObj) : M Unit := fun h => .ok () (h.set n o)

/-! ### operators -/
inductive BOp | add | sub | mul | fdiv | mod | pow
  deriving DecidableEq
inductive COp | eq | ne | lt | le | gt | ge | isin | notin
  deriving DecidableEq
def small (i : Int) : Bool := i.natAbs < 18446744073709551616

def addV : Val → Val → M Val
  | .int i, .int j => pure (.int (i + j))
  | .str x, .str y => do
    guardM (x.length + y.length ≤ most)
    pure (.str (x ++ y))
  | .tup xs, .tup ys => do
    guardM (xs.length + ys.length ≤ most)
    pure (.tup (xs ++ ys))
  | _, _ => stuck
def binV : BOp → Val → Val → M Val
  | .add, x, y => addV x y
  | .sub, .int i, .int j => pure (.int (i - j))
  | .mul, .int i, .int j => do
    guardM (small i || small j)
    pure (.int (i * j))
  | .fdiv, .int i, .int j => do
    guardM (decide (0 < j ∧ j < 1073741824))
    pure (.int (i / j))
  | .mod, .int i, .int j => do
    guardM (decide (0 < j))
    pure (.int (i % j))
  | .pow, .int i, .int j => do
    guardM (decide (0 ≤ j ∧ j ≤ 1000000) && small i)
    pure (.int (i ^ j.toNat))
  | _, _, _ => stuck
def intsOf : List Val → Option (List Int)
  | [] => some []
  | .int i :: r => (intsOf r).map (i :: ·)
  | _ :: _ => none
def lexI : List Int → List Int → Bool
  | [], [] => false
  | [], _ :: _ => true
  | _ :: _, [] => false
  | x :: xs, y :: ys => if x = y then lexI xs ys else decide (x < y)
def ltV : Val → Val → M Bool
  | .int i, .int j => pure (decide (i < j))
  | .str x, .str y => pure (cmpL x.cps.toList y.cps.toList == .lt)
  | .tup xs, .tup ys => match intsOf xs, intsOf ys with
    | some a, some b => pure (lexI a b)
    | _, _ => stuck
  | _, _ => stuck
/-- texts: is x within y -/
def inStr (x y : Str) : Bool := !(PySem.Builtin.Str.occurrences y x 0 y.length 1).isEmpty
def dictGet (l : List (Val × Val)) (k : Val) : Option Val := (l.find? fun p => decide (p.1 = k)).map (·.2)
def dictPut (l : List (Val × Val)) (k v : Val) : List (Val × Val) :=
  if (l.any fun p => decide (p.1 = k)) = true then l.map fun p => if p.1 = k then (p.1, v) else p else l ++ [(k, v)]
def dictDrop (l : List (Val × Val)) (k : Val) : List (Val × Val) := l.filter fun p => decide (p.1 ≠ k)
/-- may stand as a key (t: in a dict of tuples) -/
def isKey0 : Val → Bool
  | .int _ => true
  | .str _ => true
  | _ => false
def isKey (t : Bool) (k : Val) : Bool := match t, k with
  | false, k => isKey0 k
  | true, .tup l => l.all isKey0
  | true, _ => false
def flatE : Val → Bool
  | .non => true
  | .bl _ => true
  | .int _ => true
  | .str _ => true
  | _ => false
/-- tables of the top: a global's pairs, by texts -/
abbrev Tabs := String → Option (List (Str × Val))
def memV (T : Tabs) (x y : Val) : M Bool := fun h => match y with
  | .str z => match x with
    | .str w => .ok (inStr w z) h
    | _ => .no
  | .gl g => match T g, x with
    | some t, .str w => .ok ((t.lookup w).isSome) h
    | _, _ => .no
  | .ref n => match h[n]? with
    | some (.dict t l) => if isKey t x = true then .ok ((dictGet l x).isSome) h else .no
    | some (.list l) => match deep h 20 x with
      | some d => if areData 20 l = true then .ok (l.any fun z => eqv z d) h else .no
      | none => .no
    | _ => .no
  | .tup l => if flatE x = true ∧ l.all flatE = true then .ok (l.any fun z => eqv z x) h else .no
  | .ktp l => if flatE x = true ∧ l.all flatE = true then .ok (l.any fun z => eqv z x) h else .no
  | .lst l => if isData 20 x = true ∧ areData 20 l = true then .ok (l.any fun z => eqv z x) h else .no
  | _ => .no
def eqM (x y : Val) : M Bool := fun h => match deep h 20 x, deep h 20 y with
  | some a, some b => .ok (eqv a b) h
  | _, _ => .no
def cmpM (T : Tabs) : COp → Val → Val → M Bool
  | .eq, x, y => eqM x y
  | .ne, x, y => do return !(← eqM x y)
  | .lt, x, y => ltV x y
  | .gt, .int i, .int j => pure (decide (j < i))
  | .gt, .str x, .str y => pure (cmpL y.cps.toList x.cps.toList == .lt)
  | .le, .int i, .int j => pure (decide (i ≤ j))
  | .ge, .int i, .int j => pure (decide (j ≤ i))
  | .le, .str x, .str y => pure (cmpL y.cps.toList x.cps.toList != .lt)
  | .isin, x, y => memV T x y
  | .notin, x, y => do return !(← memV T x y)
  | _, _, _ => stuck
/-- an index, as Python counts -/
def ixOf (n : Nat) (i : Int) : Option Nat := if 0 ≤ i then (if i < n then some i.toNat else none) else if -(n : Int) ≤ i then some (i + n).toNat else none
def idxV (T : Tabs) (o i : Val) : M Val := fun h => match o, i with
  | .str z, .int k => match (ixOf z.length k).bind fun j => z.cps[j]? with
    | some c => .ok (.str ⟨#[c]⟩) h
    | none => .no
  | .gl g, .str k => match (T g).bind fun t => t.lookup k with
    | some v => .ok v h
    | none => .no
  | .ref n, k => match h[n]? with
    | some (.dict t l) => if isKey t k = true then (match dictGet l k with
      | some v => .ok v h
      | none => .no) else .no
    | some (.list l) => match k with
      | .int j => match (ixOf l.length j).bind fun j => l[j]? with
        | some v => .ok v h
        | none => .no
      | _ => .no
    | _ => .no
  | .tup l, .int k => match (ixOf l.length k).bind fun j => l[j]? with
    | some v => .ok v h
    | none => .no
  | .ktp l, .int k => match (ixOf l.length k).bind fun j => l[j]? with
    | some v => .ok v h
    | none => .no
  | .lst l, .int k => match (ixOf l.length k).bind fun j => l[j]? with
    | some v => .ok v h
    | none => .no
  | .scr l, .int k => match (ixOf l.length k).bind fun j => l[j]? with
    | some v => .ok v h
    | none => .no
  | _, _ => .no
/-- the bounds of a slice -/
def cutIx (n dflt : Nat) : Option Int → Nat
  | none => dflt
  | some i => if i < 0 then (i + n).toNat else min i.toNat n
def cutL {α : Type} (xs : List α) (lo hi : Option Int) : List α :=
  (xs.drop (cutIx xs.length 0 lo)).take (cutIx xs.length xs.length hi - cutIx xs.length 0 lo)
/-- slices of texts, tuples, lists (a list that stays) -/
def sliceV (o : Val) (lo hi : Option Int) : M Val := fun h => match o with
  | .str z => .ok (.str ⟨(cutL z.cps.toList lo hi).toArray⟩) h
  | .tup l => .ok (.tup (cutL l lo hi)) h
  | o => match listOf h o with
    | some l => .ok (.lst (cutL l lo hi)) h
    | none => .no
def truthV (h : EHeap) : Val → Option Bool
  | .non => some false
  | .bl b => some b
  | .int i => some (i != 0)
  | .str s => some (s.length != 0)
  | .tup l => some (!l.isEmpty)
  | .lst l => some (!l.isEmpty)
  | .ktp l => some (!l.isEmpty)
  | .scr _ => none
  | .ref n => match h[n]? with
    | some (.list l) => some (!l.isEmpty)
    | some (.dict false l) => some (!l.isEmpty)
    | _ => none
  | .gl _ => none
def setIdx (o i v : Val) : M Unit := fun h => match o with
  | .ref n => match h[n]? with
    | some (.dict t l) => if isKey t i = true ∧ l.length < most then .ok () (h.set n (.dict t (dictPut l i v))) else .no
    | some (.list l) => match i with
      | .int k => match ixOf l.length k with
        | some j => .ok () (h.set n (.list (l.set j v)))
        | none => .no
      | _ => .no
    | _ => .no
  | _ => .no
def fldGet (fs : List (String × Val)) (f : String) : Option Val := fs.lookup f
def fldPut (fs : List (String × Val)) (f : String) (v : Val) : List (String × Val) := match fs with
  | [] => [(f, v)]
  | (g, w) :: r => if g = f then (g, v) :: r else (g, w) :: fldPut r f v
/-- F C f: f is a field of the instances of C, no name of the class -/
abbrev Flds := String → String → Bool
def attrV (F : Flds) (o : Val) (f : String) : M Val := fun h => match o with
  | .ref n => match h[n]? with
    | some (.inst C fs) => if F C f = true then (match fldGet fs f with
      | some v => .ok v h
      | none => .no) else .no
    | _ => .no
  | _ => .no
def setAttr (F : Flds) (o : Val) (f : String) (v : Val) : M Unit := fun h => match o with
  | .ref n => match h[n]? with
    | some (.inst c fs) => if F c f = true ∧ fs.length < 900 then .ok () (h.set n (.inst c (fldPut fs f v))) else .no
    | _ => .no
  | _ => .no
end Ev

end
section
set_option Elab.async false
set_option linter.all false
/-! EvB: the IR and its evaluator. -/
namespace Ev
open PySem (Str)

/-- a target of names: nm, or a row of targets -/
inductive Tg where
  | nm (i : Nat) | nil | cons (t ts : Tg)
  deriving DecidableEq
/-- functions of values -/
inductive Prim where
  | len | abs | min2 | max2 | int1 | str1 | sum | tuple1 | all1 | any1
  deriving DecidableEq
/-- functions that make a new list -/
inductive FPrim where
  | sorted | sortedK0 | list1 | cat | split1
  deriving DecidableEq
/-- methods of built-in types -/
inductive PM where
  | find | rfind | partition | join | lstrip1 | get1 | get2 | append | extend | pop0 | pop1 | reverse | remove | clear | index | count
  deriving DecidableEq

inductive Ex where
  | var (i : Nat)
  | cst (v : Val)
  | glob (x : String)
  | tup (es : Ex)
  /-- a new list (below: F..) as a value that stays, as an object -/
  | fz (f : Ex) | bx (f : Ex)
  /-- a new dict {}, {k: v, ..} (t: its keys are tuples) -/
  | dict (t : Bool) (ks vs : Ex)
  /-- {k: v for ..} -/
  | dcomp (t : Bool) (k v : Ex) (tg : Tg) (it : Ex) (c : Ex) (own : List Nat)
  | nil | cons (e es : Ex)
  | bin (o : BOp) (a b : Ex)
  | neg (a : Ex)
  | cmp (o : COp) (a b : Ex)
  | chain (o p : COp) (a b c : Ex)
  /-- a is None (n: is not) -/
  | isN (n : Bool) (a : Ex)
  | and_ (a b : Ex) | or_ (a b : Ex) | not_ (a : Ex)
  | ite (c a b : Ex)
  | attr (a : Ex) (f : String)
  | prop (a : Ex) (f : String)
  | idx (a b : Ex)
  | slc (a lo hi : Ex)
  | nop
  /-- what no run comes to -/
  | dead
  | srev (a : Ex)
  | call (f : String) (es : Ex)
  | callV (i : Nat) (es : Ex)
  /-- a call with keywords: the values of the keywords behind the places; src: for each parameter the place among all these, or a default -/
  | callK (f : String) (es : Ex) (ks : List String) (kes : Ex) (src : List (Nat ⊕ Val))
  | prim (p : Prim) (es : Ex)
  | isi (a : Ex) (ts : List String)
  | pm (m : PM) (o : Ex) (es : Ex)
  | meth (o : Ex) (m : String) (es : Ex)
  | methK (o : Ex) (m : String) (es : Ex) (ks : List String) (kes : Ex) (src : List (Nat ⊕ Val))
  | lenO (a : Ex)
  /-- a class called; i: its __init__ (with keywords: the values of the keyword-only parameters, all of them) -/
  | make (c i : String) (es : Ex)
  | makeK (c i : String) (es : Ex) (ks : List String) (kes : Ex)
  | fstr (es : Ex)
  /-- of the exception at hand: a field, isinstance -/
  | exFld (i : Nat) (f : String) | exIsi (i : Nat) (cs : List String)
  -- new lists
  | fdisp (es : Ex)
  | fcomp (elt : Ex) (tg : Tg) (it : Ex) (c : Ex) (own : List Nat)
  | fslc (a lo hi : Ex)
  | fprim (p : FPrim) (es : Ex)
  -- what a for walks
  | itV (a : Ex) | itRange (es : Ex) | itEnum (a : Ex) | itZip (a b : Ex) | itItems (a : Ex) | itValues (a : Ex) | itIter (a : Ex)

inductive Sx where
  | dead
  | skip | seq (a b : Sx)
  | ex (e : Ex)
  | asg (t : Tg) (e : Ex)
  | par (is : List Nat) (es : Ex)
  | asgI (o i e : Ex)
  | asgF (o : Ex) (f : String) (e : Ex)
  | augN (i : Nat) (op : BOp) (e : Ex)
  | augF (o : Ex) (f : String) (op : BOp) (e : Ex)
  | ret (e : Ex) | retN
  | ite (c : Ex) (a b : Sx)
  | for_ (t : Tg) (it : Ex) (b : Sx)
  | while_ (c : Ex) (b : Sx)
  | brk | cont
  | raise (c : String) (fs : List String) (es : Ex)
  | try_ (b : Sx) (c : String) (i : Nat) (s : Sx)
  | del (o i : Ex)

inductive Ctl where
  | nx (env : EEnv) | rt (v : Val) | bk (env : EEnv) | ct (env : EEnv)

structure ECtx where
  call : String → List Val → M Val
  tabs : Tabs
  glob : String → Option Val
  meth : String → String → Option String
  sub : String → String → Bool
  fld : Flds
  has : String → Bool
  fuel : Nat
  cur : Option (String × List (String × Val))

abbrev Lk := Option (Nat × EObj)
def lkOk (lk : Lk) (h : EHeap) : Bool := match lk with
  | none => true
  | some (n, o) => decide (h[n]? = some o)
def chk (lk : Lk) : M Unit := fun h => if lkOk lk h = true then .ok () h else .no
@[simp] theorem chk_none (h : EHeap) : chk none h = .ok () h := rfl
theorem chk_some (n : Nat) (o : EObj) (h : EHeap) : chk (some (n, o)) h = if h[n]? = some o then .ok () h else .no := by
  unfold chk lkOk
  by_cases q : h[n]? = some o <;> simp [q]

mutual
def bindTg : Tg → Val → EEnv → Option EEnv
  | .nm i, v, env => some (env.set i (some v))
  | .nil, v, env => match v with
    | .tup [] => some env
    | _ => none
  | .cons t ts, v, env => match v with
    | .tup (x :: xs) => (bindTg t x env).bind fun e => bindTgs ts xs e
    | .lst (x :: xs) => (bindTg t x env).bind fun e => bindTgs ts xs e
    | .ktp (x :: xs) => (bindTg t x env).bind fun e => bindTgs ts xs e
    | _ => none
def bindTgs : Tg → List Val → EEnv → Option EEnv
  | .nm _, _, _ => none
  | .nil, l, env => match l with
    | [] => some env
    | _ :: _ => none
  | .cons t ts, l, env => match l with
    | x :: xs => (bindTg t x env).bind fun e => bindTgs ts xs e
    | [] => none
end
def wipeE (env : EEnv) : List Nat → EEnv
  | [] => env
  | v :: vs => (wipeE env vs).set v none

/-- within a comprehension nothing is raised -/
def quiet {α : Type} (x : M α) : M α := fun h => match x h with
  | .exc _ _ _ => .no
  | r => r
@[simp] theorem quiet_ok {α : Type} {x : M α} {h h' : EHeap} {a : α} (e : x h = .ok a h') : quiet x h = .ok a h' := by
  unfold quiet; rw [e]

def compLoop (lk : Lk) (bind : Val → Option EEnv) (cond : EEnv → M Bool) (elt : EEnv → M Val) : List Val → M (List Val)
  | [] => do
    chk lk
    pure []
  | v :: vs => do
    chk lk
    let env ← ofOpt (bind v)
    let b ← cond env
    if b = true then do
      let x ← elt env
      let r ← compLoop lk bind cond elt vs
      pure (x :: r)
    else compLoop lk bind cond elt vs
/-- an item goes into a dict -/
def putD (o i v : Val) : M Unit := fun h => match o with
  | .ref n => match h[n]? with
    | some (.dict t l) => if isKey t i = true ∧ l.length < most then .ok () (h.set n (.dict t (dictPut l i v))) else .no
    | _ => .no
  | _ => .no
/-- {k: v for ..}: the items go into d -/
def dcLoop (lk : Lk) (bind : Val → Option EEnv) (cond : EEnv → M Bool) (key val : EEnv → M Val) (d : Val) : List Val → M Unit
  | [] => chk lk
  | v :: vs => do
    chk lk
    let env ← ofOpt (bind v)
    let b ← cond env
    if b = true then do
      let x ← key env
      let y ← val env
      putD d x y
      dcLoop lk bind cond key val d vs
    else dcLoop lk bind cond key val d vs
/-- the written keys of a display -/
def constsOf : Ex → Option (List Val)
  | .nil => some []
  | .cons (.cst v) es => (constsOf es).map (v :: ·)
  | _ => none
/-- a dict stands empty -/
def emptyD (d : Val) : M Unit := fun h => match d with
  | .ref n => if h[n]? = some (.dict false []) then .ok () h else .no
  | _ => .no
def fillD (d : Val) (l : List (Val × Val)) : M Val := fun h => match d with
  | .ref n => .ok d (h.set n (.dict false (l.foldl (fun e p => dictPut e p.1 p.2) [])))
  | _ => .no
def forLoop (lk : Lk) (bind : Val → EEnv → Option EEnv) (body : EEnv → M Ctl) : List Val → EEnv → M Ctl
  | [], env => do
    chk lk
    pure (.nx env)
  | v :: vs, env => do
    chk lk
    let env ← ofOpt (bind v env)
    match ← body env with
    | .nx env => forLoop lk bind body vs env
    | .ct env => forLoop lk bind body vs env
    | .bk env => pure (.nx env)
    | .rt v => pure (.rt v)
def whileLoop (cond : EEnv → M Bool) (body : EEnv → M Ctl) : Nat → EEnv → M Ctl
  | 0, _ => stuck
  | n + 1, env => do
    let b ← cond env
    if b = true then
      match ← body env with
      | .nx env => whileLoop cond body n env
      | .ct env => whileLoop cond body n env
      | .bk env => pure (.nx env)
      | .rt v => pure (.rt v)
    else pure (.nx env)

/-! ### functions of values -/
def sumInts : List Val → Option Int
  | [] => some 0
  | .int i :: r => (sumInts r).map (i + ·)
  | _ :: _ => none
def boolsOf : List Val → Option (List Bool)
  | [] => some []
  | .bl b :: r => (boolsOf r).map (b :: ·)
  | _ :: _ => none
def strsOf : List Val → Option (List Str)
  | [] => some []
  | .str b :: r => (strsOf r).map (b :: ·)
  | _ :: _ => none
def isKind (h : EHeap) (x : Val) (t : String) : Option Bool := match x with
  | .non => some (t == "NoneType")
  | .bl _ => some (t == "bool" || t == "int")
  | .int _ => some (t == "int")
  | .str _ => some (t == "str")
  | .tup _ => some (t == "tuple")
  | .lst _ => some (t == "list")
  | .ktp _ => none
  | .scr _ => none
  | .ref n => match h[n]? with
    | some (.list _) => some (t == "list")
    | some (.dict _ _) => some (t == "dict")
    | _ => none
  | .gl _ => none
def isiV (x : Val) (ts : List String) : M Bool := fun h => match ts.mapM (isKind h x) with
  | some bs => .ok (bs.any id) h
  | none => .no
/-- a text as the model takes it -/
def okText (s : Str) : Bool := decide (s.length ≤ most) && PySem.PyData.strOk s
def primV : Prim → List Val → M Val
  | .len, [x] => fun h => match x with
    | .str s => .ok (.int s.length) h
    | .ref n => match h[n]? with
      | some (.list l) => .ok (.int l.length) h
      | some (.dict _ l) => .ok (.int l.length) h
      | _ => .no
    | .tup l => .ok (.int l.length) h
    | .lst l => .ok (.int l.length) h
    | .ktp l => .ok (.int l.length) h
    | .scr l => .ok (.int l.length) h
    | _ => .no
  | .abs, [.int i] => pure (.int (if i < 0 then -i else i))
  | .min2, [.int i, .int j] => pure (.int (if j < i then j else i))
  | .max2, [.int i, .int j] => pure (.int (if j > i then j else i))
  | .int1, [.int i] => pure (.int i)
  | .int1, [.bl k] => pure (.int (if k then 1 else 0))
  | .int1, [.str s] => fun h => match PySem.intText? s with
    | some n => if s.length ≤ 640 then .ok (.int n) h else .no
    | none => .no
  | .str1, [.int i] => do
    guardM (small i && okText (toString i))
    pure (.str (toString i))
  | .str1, [.str s] => pure (.str s)
  | .sum, [x] => fun h => match (listOf h x).bind sumInts with
    | some n => .ok (.int n) h
    | none => .no
  | .tuple1, [x] => fun h => match x with
    | .ktp _ => .no
    | .scr _ => .no
    | x => match seqOf h x with
      | some l => .ok (.tup l) h
      | none => .no
  | .all1, [x] => fun h => match (listOf h x).bind boolsOf with
    | some l => .ok (.bl (l.all id)) h
    | none => .no
  | .any1, [x] => fun h => match (listOf h x).bind boolsOf with
    | some l => .ok (.bl (l.any id)) h
    | none => .no
  | _, _ => stuck
/-- all items can be compared with one another -/
def comparable (l : List Val) : Bool := l.all fun x => l.all fun y => (cmpV x y).isSome
def leV (x y : Val) : Bool := cmpV x y != some .gt
def sortV (l : List Val) : List Val := l.mergeSort leV
def tagV : Val → Nat
  | .int _ => 1
  | .str _ => 2
  | .tup _ => 3
  | _ => 0
def tagF : Val → Nat
  | .tup (x :: _) => tagV x
  | _ => 0
/-- Python's sort comes through: two of them can always be compared, and they are ints, texts, or tuples that begin alike -/
def sortable (l : List Val) : Bool := comparable l && (l.all (fun x => tagV x == 1) || l.all (fun x => tagV x == 2) || l.all (fun x => tagF x == 1) || l.all (fun x => tagF x == 2) || l.all (fun x => tagF x == 3)) && areData 20 l
def head0 : Val → Option Val
  | .tup (x :: _) => some x
  | _ => none
def leK (x y : Val) : Bool := match head0 x, head0 y with
  | some a, some b => leV a b
  | _, _ => true
def keyed (l : List Val) : Option (List Val) := l.mapM head0
def fprimV : FPrim → List Val → M (List Val)
  | .sorted, [x] => fun h => match x with
    | .ref n => match h[n]? with
      | some (.list l) => if sortable l = true then .ok (sortV l) h else .no
      | _ => .no
    | .lst l => if sortable l = true then .ok (sortV l) h else .no
    | _ => .no
  | .sortedK0, [x] => fun h => match listOf h x with
    | some l => match keyed l with
      | some ks => if sortable ks = true then .ok (l.mergeSort leK) h else .no
      | none => .no
    | none => .no
  | .list1, [x] => fun h => match x with
    | .ref n => match h[n]? with
      | some (.list l) => .ok l h
      | some (.dict _ l) => if l.length ≤ most then .ok (l.map (·.1)) h else .no
      | _ => .no
    | .lst l => .ok l h
    | .tup l => .ok l h
    | .scr l => .ok l h
    | _ => .no
  | .cat, [x, y] => fun h => match listOf h x, listOf h y with
    | some l, some m => if l.length + m.length ≤ most then .ok (l ++ m) h else .no
    | _, _ => .no
  | .split1, [.str a, .str b] => do
    guardM (b.length != 0 && decide (a.length + 2 ≤ most))
    pure ((PySem.Txt.split a b).map .str)
  | _, _ => stuck
def pmV : PM → Val → List Val → M Val
  | .find, .str a, [.str b] => pure (.int (PySem.Txt.find a b))
  | .rfind, .str a, [.str b] => pure (.int (PySem.Txt.rfind a b))
  | .partition, .str a, [.str b] => do
    guardM (b.length != 0)
    let p := PySem.Txt.partition a b
    pure (.tup [.str p.1, .str p.2.1, .str p.2.2])
  | .join, .str a, [x] => fun h => match (seqOf h x).bind strsOf with
    | some ys => if (ys.map (·.length)).sum + ys.length * a.length ≤ most then .ok (.str (PySem.Txt.join a ys)) h else .no
    | none => .no
  | .lstrip1, .str a, [.str b] => pure (.str (PySem.Txt.lstripChars a b))
  | .get1, .ref n, [k] => fun h => match h[n]? with
    | some (.dict t l) => if isKey t k = true then .ok ((dictGet l k).getD .non) h else .no
    | _ => .no
  | .get2, .ref n, [k, d] => fun h => match h[n]? with
    | some (.dict t l) => if isKey t k = true then .ok ((dictGet l k).getD d) h else .no
    | _ => .no
  | .append, .ref n, [v] => fun h => match h[n]? with
    | some (.list l) => if l.length < most then .ok .non (h.set n (.list (l ++ [v]))) else .no
    | _ => .no
  | .extend, .ref n, [x] => fun h => match h[n]?, listOf h x with
    | some (.list l), some m => if l.length + m.length ≤ most then .ok .non (h.set n (.list (l ++ m))) else .no
    | _, _ => .no
  | .pop0, .ref n, [] => fun h => match h[n]? with
    | some (.list l) => match l.getLast? with
      | some v => .ok v (h.set n (.list l.dropLast))
      | none => .no
    | _ => .no
  | .pop1, .ref n, [k] => fun h => match h[n]?, k with
    | some (.list l), .int i => match ixOf l.length i with
      | some j => match l[j]? with
        | some v => .ok v (h.set n (.list (l.eraseIdx j)))
        | none => .no
      | none => .no
    | _, _ => .no
  | .reverse, .ref n, [] => fun h => match h[n]? with
    | some (.list l) => .ok .non (h.set n (.list l.reverse))
    | _ => .no
  | .clear, .ref n, [] => fun h => match h[n]? with
    | some (.list _) => .ok .non (h.set n (.list []))
    | _ => .no
  | _, _, _ => stuck
def strCat : List Val → Option Str
  | [] => some ⟨#[]⟩
  | .str s :: r => (strCat r).map (s ++ ·)
  | _ :: _ => none
/-- the text of a part of an f-string -/
def fmtV : Val → Option Val
  | .str s => some (.str s)
  | .int i => if small i = true ∧ okText (toString i) = true then some (.str (toString i)) else none
  | _ => none
def rangeL (lo : Int) (n : Nat) : List Val := (List.range n).map fun (k : Nat) => .int (lo + (k : Int))
/-- the arguments in the parameters' order -/
def arrange (src : List (Nat ⊕ Val)) (vs : List Val) : Option (List Val) := src.mapM fun s => match s with
  | .inl i => vs[i]?
  | .inr d => some d
def chars (s : Str) : List Val := s.cps.toList.map fun c => .str ⟨#[c]⟩
def exFld (c : ECtx) (f : String) : M Val := match c.cur with
  | some (_, fs) => ofOpt (fs.lookup f)
  | none => stuck
def methKey (c : ECtx) (o : Val) (m : String) : M String := fun h => match o with
  | .ref n => match h[n]? with
    | some (.inst C fs) => if (fldGet fs m).isSome = true then .no else match c.meth C m with
      | some k => .ok k h
      | none => .no
    | _ => .no
  | _ => .no
def pairsOf : List Val → Option (List (Val × Val))
  | [] => some []
  | .tup [a, b] :: r => (pairsOf r).map ((a, b) :: ·)
  | _ :: _ => none
def optInt : Val → Option (Option Int)
  | .int i => some (some i)
  | _ => none

/-- the receiver is of the method's type -/
def recvOk (m : PM) (h : EHeap) (x : Val) : Bool := match m with
  | .find | .rfind | .partition | .join | .lstrip1 => (match x with
    | .str _ => true
    | _ => false)
  | .get1 | .get2 => (match x with
    | .ref n => (match h[n]? with
      | some (.dict _ _) => true
      | _ => false)
    | _ => false)
  | _ => (match x with
    | .ref n => (match h[n]? with
      | some (.list _) => true
      | _ => false)
    | _ => false)
def recv (m : PM) (x : Val) : M Unit := fun h => if recvOk m h x = true then .ok () h else .no
/-- <, ≤ of ints -/
def ordI : COp → Val → Val → M Bool
  | .lt, .int i, .int j => pure (decide (i < j))
  | .le, .int i, .int j => pure (decide (i ≤ j))
  | _, _, _ => stuck
/-- what an expression is, as a value, a test, a slice's part, a list of values, what a for walks -/
structure Bun where
  e : M Val
  t : M Bool
  o : M (Option Int)
  l : M (List Val)
  i : M (List Val × Lk)
def truthM (m : M Val) : M Bool := do
  let v ← m
  fun h => ofOpt (truthV h v) h
def bE (m : M Val) : Bun := ⟨m, truthM m, do ofOpt (optInt (← m)), stuck, stuck⟩
def bT (m : M Val) (t : M Bool) : Bun := ⟨m, t, stuck, stuck, stuck⟩
def bL (m : M (List Val)) : Bun := ⟨stuck, stuck, stuck, m, stuck⟩
def bI (m : M (List Val × Lk)) : Bun := ⟨stuck, stuck, stuck, stuck, m⟩
def isNop : Ex → Bool
  | .nop => true
  | _ => false
def ev (c : ECtx) : Ex → EEnv → Bun
  | .var i, env => bE (ofOpt (env[i]?.getD none))
  | .cst v, _ => bE (pure v)
  | .glob x, _ => bE (ofOpt (c.glob x))
  | .tup es, env => bE (do return .tup (← (ev c es env).l))
  | .fz f, env => bE (do return .lst (← (ev c f env).l))
  | .bx f, env => bE (do alloc (.list (← (ev c f env).l)))
  | .dict t ks vs, env => bE (match constsOf ks with
    | some [] => alloc (.dict t [])
    | some (k :: r) => do
      let d ← alloc (.dict false [])
      let b ← (ev c vs env).l
      guardM (!t && decide ((k :: r).length = b.length))
      emptyD d
      fillD d ((k :: r).zip b)
    | none => stuck)
  | .dcomp t k v tg it cd own, env => bE (do
    let (vs, lk) ← (ev c it env).i
    let d ← alloc (.dict t [])
    quiet (dcLoop lk (fun v => bindTg tg v (wipeE env own)) (fun e => if isNop cd = true then pure true else (ev c cd e).t) (fun e => (ev c k e).e) (fun e => (ev c v e).e) d vs)
    pure d)
  | .bin o a b, env => bE (do binV o (← (ev c a env).e) (← (ev c b env).e))
  | .neg a, env => bE (do match ← (ev c a env).e with
    | .int i => pure (.int (-i))
    | _ => stuck)
  | .cmp o a b, env => bE (do return .bl (← cmpM c.tabs o (← (ev c a env).e) (← (ev c b env).e)))
  | .chain o p a b d, env => bE (do
    let x ← (ev c a env).e
    let y ← (ev c b env).e
    if ← ordI o x y then do
      return .bl (← ordI p y (← (ev c d env).e))
    else pure (.bl false))
  | .isN n a, env => bE (do return .bl (decide ((← (ev c a env).e) = .non) != n))
  | .and_ a b, env => bT (do match ← (ev c a env).e with
    | .bl true => (ev c b env).e
    | .bl false => pure (.bl false)
    | _ => stuck) (do if ← (ev c a env).t then (ev c b env).t else pure false)
  | .or_ a b, env => bT (do match ← (ev c a env).e with
    | .bl true => pure (.bl true)
    | .bl false => (ev c b env).e
    | _ => stuck) (do if ← (ev c a env).t then pure true else (ev c b env).t)
  | .not_ a, env => bT (do return .bl !(← truthM (ev c a env).e)) (do return !(← (ev c a env).t))
  | .ite t a b, env => ⟨do if ← (ev c t env).t then (ev c a env).e else (ev c b env).e, do if ← (ev c t env).t then (ev c a env).t else (ev c b env).t,
    do ofOpt (optInt (← (do if ← (ev c t env).t then (ev c a env).e else (ev c b env).e))), stuck, stuck⟩
  | .attr a f, env => bE (do attrV c.fld (← (ev c a env).e) f)
  | .prop a f, env => bE (do
    let o ← (ev c a env).e
    c.call (← methKey c o f) [o])
  | .idx a b, env => bE (do idxV c.tabs (← (ev c a env).e) (← (ev c b env).e))
  | .slc a lo hi, env => bE (do sliceV (← (ev c a env).e) (← (ev c lo env).o) (← (ev c hi env).o))
  | .srev a, env => bE (do match ← (ev c a env).e with
    | .str s => pure (.str ⟨s.cps.toList.reverse.toArray⟩)
    | _ => stuck)
  | .call f es, env => bE (do c.call f (← (ev c es env).l))
  | .callV i es, env => bE (do match ← ofOpt (env[i]?.getD none) with
    | .gl f => if c.has f = true then (do c.call f (← (ev c es env).l)) else stuck
    | _ => stuck)
  | .callK f es _ kes src, env => bE (do
    let vs ← (ev c es env).l
    let ws ← (ev c kes env).l
    c.call f (← ofOpt (arrange src (vs ++ ws))))
  | .prim p es, env => bE (do primV p (← (ev c es env).l))
  | .isi a ts, env => bE (do return .bl (← isiV (← (ev c a env).e) ts))
  | .pm m o es, env => bE (do
    let x ← (ev c o env).e
    recv m x
    pmV m x (← (ev c es env).l))
  | .meth o m es, env => bE (do
    let x ← (ev c o env).e
    let k ← methKey c x m
    c.call k (x :: (← (ev c es env).l)))
  | .methK o m es _ kes src, env => bE (do
    let x ← (ev c o env).e
    let k ← methKey c x m
    let vs ← (ev c es env).l
    let ws ← (ev c kes env).l
    c.call k (← ofOpt (arrange src (x :: (vs ++ ws)))))
  | .lenO a, env => bE (do
    let o ← (ev c a env).e
    match ← c.call (← methKey c o "__len__") [o] with
    | .int i => if 0 ≤ i then pure (.int i) else stuck
    | _ => stuck)
  | .make k i es, env => bE (do
    let vs ← (ev c es env).l
    let o ← alloc (.inst k [])
    match ← c.call i (o :: vs) with
    | .non => pure o
    | _ => stuck)
  | .makeK k i es _ kes, env => bE (do
    let vs ← (ev c es env).l
    let ws ← (ev c kes env).l
    let o ← alloc (.inst k [])
    match ← c.call i (o :: (vs ++ ws)) with
    | .non => pure o
    | _ => stuck)
  | .fstr es, env => bE (do
    let vs ← (ev c es env).l
    match (vs.mapM fmtV).bind strCat with
    | some s => do
      guardM (s.length ≤ most)
      pure (.str s)
    | none => stuck)
  | .exFld _ f, _ => bE (exFld c f)
  | .exIsi _ cs, _ => bE (match c.cur with
    | some (d, _) => pure (.bl (cs.any fun k => c.sub d k))
    | none => stuck)
  | .dead, _ => ⟨stuck, stuck, stuck, stuck, stuck⟩
  | .nop, _ => ⟨stuck, stuck, pure none, stuck, stuck⟩
  | .nil, _ => bL (pure [])
  | .cons e es, env => bL (do
    let v ← (ev c e env).e
    return v :: (← (ev c es env).l))
  | .fdisp es, env => bL ((ev c es env).l)
  | .fcomp elt tg it cd own, env => bL (do
    let (vs, lk) ← (ev c it env).i
    quiet (compLoop lk (fun v => bindTg tg v (wipeE env own)) (fun e => if isNop cd = true then pure true else (ev c cd e).t) (fun e => (ev c elt e).e) vs))
  | .fslc a lo hi, env => bL (do
    let o ← (ev c a env).e
    let l ← (fun h => ofOpt (listOf h o) h)
    let lo ← (ev c lo env).o
    let hi ← (ev c hi env).o
    pure (cutL l lo hi))
  | .fprim p es, env => bL (do fprimV p (← (ev c es env).l))
  | .itV a, env => bI (do
    let v ← (ev c a env).e
    fun h => match v with
      | .tup l => .ok (l, none) h
      | .ktp l => .ok (l, none) h
      | .scr l => .ok (l, none) h
      | .lst l => .ok (l, none) h
      | .str s => .ok (chars s, none) h
      | .ref n => match h[n]? with
        | some (.list l) => .ok (l, some (n, .list l)) h
        | _ => .no
      | _ => .no)
  | .itRange es, env => bI (do match ← (ev c es env).l with
    | [.int n] => do
      guardM (decide (n.toNat ≤ most) && decide (-4611686018427387904 ≤ n))
      pure (rangeL 0 n.toNat, none)
    | [.int m, .int n] => do
      guardM (decide ((n - m).toNat ≤ most) && decide (-4611686018427387904 ≤ m ∧ m < 4611686018427387904 ∧ -4611686018427387904 ≤ n ∧ n < 4611686018427387904))
      pure (rangeL m (n - m).toNat, none)
    | _ => stuck)
  | .itEnum a, env => bI (do
    let v ← (ev c a env).e
    fun h => match v with
      | .lst l => .ok ((rangeL 0 l.length).zipWith (fun i x => .tup [i, x]) l, none) h
      | .ref n => match h[n]? with
        | some (.list l) => .ok ((rangeL 0 l.length).zipWith (fun i x => .tup [i, x]) l, some (n, .list l)) h
        | _ => .no
      | _ => .no)
  | .itZip a b, env => bI (do
    let v ← (ev c a env).e
    let w ← (ev c b env).e
    match v, w with
    | .tup l, .tup m => pure (l.zipWith (fun x y => .tup [x, y]) m, none)
    | .tup l, .ktp m => pure (l.zipWith (fun x y => .tup [x, y]) m, none)
    | .lst l, .lst m => pure (l.zipWith (fun x y => .tup [x, y]) m, none)
    | _, _ => stuck)
  | .itItems _, _ => bI stuck
  | .itValues _, _ => bI stuck
  | .itIter _, _ => bI stuck
def evE (c : ECtx) (e : Ex) (env : EEnv) : M Val := (ev c e env).e
def evT (c : ECtx) (e : Ex) (env : EEnv) : M Bool := (ev c e env).t
def evO (c : ECtx) (e : Ex) (env : EEnv) : M (Option Int) := (ev c e env).o
def evL (c : ECtx) (e : Ex) (env : EEnv) : M (List Val) := (ev c e env).l
def evI (c : ECtx) (e : Ex) (env : EEnv) : M (List Val × Lk) := (ev c e env).i

/-- op= -/
def augV : BOp → Val → Val → M Val
  | .add, .int i, .int j => pure (.int (i + j))
  | .sub, .int i, .int j => pure (.int (i - j))
  | _, _, _ => stuck
def clsM (o : Val) : M String := fun h => match o with
  | .ref n => match h[n]? with
    | some (.inst C _) => .ok C h
    | _ => .no
  | _ => .no
def evS (c : ECtx) : Sx → EEnv → M Ctl
  | .dead, _ => stuck
  | .skip, env => pure (.nx env)
  | .seq a b, env => do match ← evS c a env with
    | .nx env => evS c b env
    | r => pure r
  | .ex e, env => do
    let _ ← evE c e env
    pure (.nx env)
  | .asg t e, env => do
    let v ← evE c e env
    return .nx (← ofOpt (bindTg t v env))
  | .par is es, env => do
    let vs ← evL c es env
    if vs.length = is.length then pure (.nx ((is.zip vs).foldl (fun e p => e.set p.1 (some p.2)) env)) else stuck
  | .asgI o i e, env => do
    let v ← evE c e env
    let x ← evE c o env
    let k ← evE c i env
    setIdx x k v
    pure (.nx env)
  | .asgF o f e, env => do
    let v ← evE c e env
    let x ← evE c o env
    setAttr c.fld x f v
    pure (.nx env)
  | .augN i op e, env => do
    let x ← ofOpt (env[i]?.getD none)
    let v ← evE c e env
    return .nx (env.set i (some (← augV op x v)))
  | .augF o f op e, env => do
    let x ← evE c o env
    let w ← attrV c.fld x f
    let k ← clsM x
    let v ← evE c e env
    let z ← augV op w v
    let k2 ← clsM x
    guardM (k == k2)
    setAttr c.fld x f z
    pure (.nx env)
  | .ret e, env => do return .rt (← evE c e env)
  | .retN, _ => pure (.rt .non)
  | .ite t a b, env => do if ← evT c t env then evS c a env else evS c b env
  | .for_ t it b, env => do
    let (vs, lk) ← evI c it env
    forLoop lk (bindTg t) (fun e => evS c b e) vs env
  | .while_ t b, env => whileLoop (fun e => evT c t e) (fun e => evS c b e) c.fuel env
  | .brk, env => pure (.bk env)
  | .cont, env => pure (.ct env)
  | .raise k fs es, env => do
    let vs ← evL c es env
    fun h => .exc k (fs.zip vs) h
  | .try_ b k i s, env => fun h => match evS c b env h with
    | .exc d fs h' => if c.sub d k = true then (match evS { c with cur := some (d, fs) } s (env.set i none) h' with
        | .ok r h2 => .ok r h2
        | _ => .no) else .no
    | r => r
  | .del o i, env => do
    let x ← evE c o env
    let k ← evE c i env
    fun h => match x with
      | .ref n => match h[n]? with
        | some (.dict false l) => if isKey0 k = true ∧ (dictGet l k).isSome = true then .ok (.nx env) (h.set n (.dict false (dictDrop l k))) else .no
        | _ => .no
      | _ => .no

/-! ### defs -/
/-- what a call leaves: raw, all that was made; mut ps, only what the objects at ps have become (an argument's place, the way from it by fields); no reference to what is dropped -/
inductive Keep where
  | raw | mut (ps : List (Nat × List String))
structure FnDef where
  params : Nat
  slots : Nat
  keep : Keep
  body : Sx
/-- a value that outlives its new lists -/
def fzV (h : EHeap) (n : Nat) : Val → Option Val
  | .ref m => if n ≤ m then (match h[m]? with
    | some (.list l) => if noRefs l = true then some (.lst l) else none
    | _ => none) else some (.ref m)
  | v => if noRef v = true then some v else none
def wayFrom (h : EHeap) : List String → Val → Option Nat
  | [], .ref a => some a
  | f :: r, .ref a => match h[a]? with
    | some (.inst _ fs) => (fldGet fs f).bind (wayFrom h r)
    | _ => none
  | _, _ => none
def wayTo (h : EHeap) (args : List Val) (p : Nat × List String) : Option Nat := (args[p.1]?).bind (wayFrom h p.2)
def setAll (h' : EHeap) (h : EHeap) : List Nat → EHeap
  | [] => h
  | a :: r => setAll h' (h.set a (h'[a]?.getD default)) r
def allOk (n : Nat) (h' : EHeap) (as : List Nat) : Bool := as.all fun a => decide (a < n) && (h'[a]?.getD default).noRef
def finOk (k : Keep) (args : List Val) (h : EHeap) (v : Val) (h' : EHeap) : R Val := match k with
  | .raw => .ok v h'
  | .mut ps => match ps.mapM (wayTo h args) with
    | some as => if allOk h.length h' as = true ∧ h'.take h.length = setAll h' h as then (match fzV h' h.length v with
        | some w => .ok w (setAll h' h as)
        | none => .no) else .no
    | none => .no
def initEnv (n : Nat) (args : List Val) : EEnv := args.map some ++ List.replicate (n - args.length) none
structure Cfg where
  fn : String → Option FnDef
  tabs : Tabs
  glob : String → Option Val
  meth : String → String → Option String
  sub : String → String → Bool
  fld : Flds
  /-- defs of parameters by their places alone -/
  plain : String → Bool
  /-- the top's defs that are called -/
  tops : String → Bool
  fuel : Nat
def Cfg.ctx (g : Cfg) (call : String → List Val → M Val) : ECtx := ⟨call, g.tabs, g.glob, g.meth, g.sub, g.fld, g.tops, g.fuel, none⟩
/-- the i-th argument may be changed while the body runs; what is raised leaves all as it is (raw) -/
def runDef (c : ECtx) (d : FnDef) (args : List Val) : M Val := fun h =>
  if args.length = d.params then (match evS c d.body (initEnv d.slots args) h with
    | .ok (.rt v) h' => finOk d.keep args h v h'
    | .ok (.nx _) h' => finOk d.keep args h .non h'
    | .ok _ _ => .no
    | .exc k fs h' => .exc k fs h'
    | .no => .no) else .no
def run (g : Cfg) : Nat → String → List Val → M Val
  | 0, _, _ => stuck
  | n + 1, f, args => match g.fn f with
    | some d => runDef (g.ctx (run g n)) d args
    | none => stuck
end Ev

end
section
set_option Elab.async false
set_option linter.all false
set_option maxRecDepth 100000
/-! SimA: what the evaluator's values and heap say of the model's. -/
namespace Sim
open PySem PySem.Spec PyProof.Rows L2 Ev

/-- the world: the written part, the module's names, the addresses of the globals by name -/
structure Wd where
  P : Program
  w : World
  K : PySem.W.Frag
  mg : Str → Option Value
  base : PySem.Heap
  cfg : Cfg
  adr : String → Addr
  fadr : String → Addr
  fdat : String → FuncData
  fps : String → List Str
  /-- the defs of the module, the built-ins, the classes that are used -/
  top : String → Bool
  bi : String → Bool
  isC : String → String → Bool
  /-- keyword-only parameters -/
  kwo : String → Option (Nat × List Str)
  /-- tables of code objects, by the names of their lambdas -/
  lamT : List (Addr × Str)

/-- a text as the model takes it -/
structure sOk (s : Str) : Prop where
  len : s.length ≤ most
  ok : PyData.strOk s = true
mutual
inductive RV (D : Wd) (G : Hp) (ρ : List Addr) : Val → V → Prop
  | non : RV D G ρ .non .non
  | bl (b : Bool) : RV D G ρ (.bl b) (.bl b)
  | int (i : Int) : RV D G ρ (.int i) (.int i)
  | str (s : Str) : sOk s → RV D G ρ (.str s) (.str s)
  | tup {a : Addr} {l : List Val} {xs : List V} : G a = some (.tup xs) → l.length ≤ most → RVs D G ρ l xs → RV D G ρ (.tup l) (.ref a)
  | ktp {a : Addr} {l : List Val} {xs : List V} : SqT D.K (fun _ => none) a xs → l.length ≤ most → RVs D G ρ l xs → RV D G ρ (.ktp l) (.ref a)
  | scr {a : Addr} {l : List Val} {xs : List V} : (Rd G a (.lst xs) ∨ SqL D.K (fun _ => none) a xs) → l.length ≤ most → RVs D G ρ l xs → RV D G ρ (.scr l) (.ref a)
  | lst {a : Addr} {l : List Val} {xs : List V} : G a = some (.lst xs) → l.length ≤ most → RVs D G ρ l xs → RV D G ρ (.lst l) (.ref a)
  | ref {n : Nat} {a : Addr} : ρ[n]? = some a → RV D G ρ (.ref n) (.ref a)
  | gl (x : String) : D.mg (lit x) = some (.ref (D.adr x)) → RV D G ρ (.gl x) (.ref (D.adr x))
inductive RVs (D : Wd) (G : Hp) (ρ : List Addr) : List Val → List V → Prop
  | nil : RVs D G ρ [] []
  | cons {v : Val} {vs : List Val} {x : V} {xs : List V} : RV D G ρ v x → RVs D G ρ vs xs → RVs D G ρ (v :: vs) (x :: xs)
end

/-- more is frozen, more is made -/
structure Ext (G : Hp) (ρ : List Addr) (G' : Hp) (ρ' : List Addr) : Prop where
  g : ∀ a o, G a = some o → G' a = some o
  r : ρ <+: ρ'
theorem Ext.refl {G : Hp} {ρ : List Addr} : Ext G ρ G ρ := ⟨fun _ _ h => h, List.prefix_rfl⟩
theorem Ext.trans {G G1 G2 : Hp} {ρ ρ1 ρ2 : List Addr} (a : Ext G ρ G1 ρ1) (b : Ext G1 ρ1 G2 ρ2) : Ext G ρ G2 ρ2 := ⟨fun c o h => b.g c o (a.g c o h), a.r.trans b.r⟩

section
variable {D : Wd} {G G' : Hp} {ρ ρ' : List Addr}
theorem Rd_mono {H H' : Hp} {a : Addr} {u : HO} (e : ∀ a o, H a = some o → H' a = some o) (h : Rd H a u) : Rd H' a u := by
  rcases h with h | ⟨o, h⟩
  · exact .inl (e _ _ h)
  · exact .inr ⟨o, e _ _ h⟩
theorem SqT_mono {K : PySem.W.Frag} {H H' : Hp} {a : Addr} {xs : List V} (e : ∀ a o, H a = some o → H' a = some o) (h : SqT K H a xs) : SqT K H' a xs := by
  rcases h with h | h
  · exact .inl (Rd_mono e h)
  · exact .inr h
theorem SqL_mono {K : PySem.W.Frag} {H H' : Hp} {a : Addr} {xs : List V} (e : ∀ a o, H a = some o → H' a = some o) (h : SqL K H a xs) : SqL K H' a xs := by
  rcases h with h | h
  · exact .inl (Rd_mono e h)
  · exact .inr h
theorem pre_get {ρ ρ' : List Addr} (h : ρ <+: ρ') {n : Nat} {a : Addr} (e : ρ[n]? = some a) : ρ'[n]? = some a := by
  obtain ⟨t, rfl⟩ := h
  have hn : n < ρ.length := (List.getElem?_eq_some_iff.mp e).1
  rw [List.getElem?_append_left hn]
  exact e
mutual
theorem RV.mono (x : Ext G ρ G' ρ') : ∀ {v : Val} {u : V}, RV D G ρ v u → RV D G' ρ' v u
  | _, _, .non => .non
  | _, _, .bl b => .bl b
  | _, _, .int i => .int i
  | _, _, .str s h => .str s h
  | _, _, .tup h l r => .tup (x.g _ _ h) l (RVs.mono x r)
  | _, _, .ktp h l r => .ktp h l (RVs.mono x r)
  | _, _, .scr h l r => .scr (h.imp (fun z => z.imp (fun z => x.g _ _ z) fun ⟨o, z⟩ => ⟨o, x.g _ _ z⟩) id) l (RVs.mono x r)
  | _, _, .lst h l r => .lst (x.g _ _ h) l (RVs.mono x r)
  | _, _, .ref h => .ref (pre_get x.r h)
  | _, _, .gl y h => .gl y h
theorem RVs.mono (x : Ext G ρ G' ρ') : ∀ {l : List Val} {us : List V}, RVs D G ρ l us → RVs D G' ρ' l us
  | _, _, .nil => .nil
  | _, _, .cons a b => .cons (RV.mono x a) (RVs.mono x b)
end
theorem RVs.length : ∀ {l : List Val} {us : List V}, RVs D G ρ l us → us.length = l.length
  | _, _, .nil => rfl
  | _, _, .cons _ b => by simp [RVs.length b]
theorem RVs.get : ∀ {l : List Val} {us : List V}, RVs D G ρ l us → ∀ {i : Nat} {v : Val}, l[i]? = some v → ∃ u, us[i]? = some u ∧ RV D G ρ v u
  | _, _, .nil, i, v, e => by simp at e
  | _, _, .cons a b, i, v, e => by
    cases i with
    | zero => simp at e; subst e; exact ⟨_, by simp, a⟩
    | succ i =>
      obtain ⟨u, h1, h2⟩ := RVs.get b (i := i) (by simpa using e)
      exact ⟨u, by simpa using h1, h2⟩
theorem RVs.get' : ∀ {l : List Val} {us : List V}, RVs D G ρ l us → ∀ {i : Nat} {u : V}, us[i]? = some u → ∃ v, l[i]? = some v ∧ RV D G ρ v u
  | _, _, .nil, i, v, e => by simp at e
  | _, _, .cons a b, i, v, e => by
    cases i with
    | zero => simp at e; subst e; exact ⟨_, by simp, a⟩
    | succ i =>
      obtain ⟨u, h1, h2⟩ := RVs.get' b (i := i) (by simpa using e)
      exact ⟨u, by simpa using h1, h2⟩
theorem RVs.append : ∀ {l m : List Val} {us ws : List V}, RVs D G ρ l us → RVs D G ρ m ws → RVs D G ρ (l ++ m) (us ++ ws)
  | _, _, _, _, .nil, h => h
  | _, _, _, _, .cons a b, h => .cons a (RVs.append b h)
theorem RVs.take (n : Nat) : ∀ {l : List Val} {us : List V}, RVs D G ρ l us → RVs D G ρ (l.take n) (us.take n) := by
  induction n with
  | zero => intro l us _; simp; exact .nil
  | succ n ih =>
    intro l us h
    cases h with
    | nil => simp; exact .nil
    | cons a b => simp; exact .cons a (ih b)
theorem RVs.drop (n : Nat) : ∀ {l : List Val} {us : List V}, RVs D G ρ l us → RVs D G ρ (l.drop n) (us.drop n) := by
  induction n with
  | zero => intro l us h; simpa using h
  | succ n ih =>
    intro l us h
    cases h with
    | nil => simp; exact .nil
    | cons a b => simp; exact ih b
theorem RVs.set {v : Val} {u : V} (r : RV D G ρ v u) : ∀ {l : List Val} {us : List V} (i : Nat), RVs D G ρ l us → RVs D G ρ (l.set i v) (us.set i u)
  | _, _, _, .nil => .nil
  | _, _, 0, .cons _ b => .cons r b
  | _, _, i + 1, .cons a b => .cons a (RVs.set r i b)
theorem RVs.reverse : ∀ {l : List Val} {us : List V}, RVs D G ρ l us → RVs D G ρ l.reverse us.reverse
  | _, _, .nil => .nil
  | _, _, .cons a b => by
    simp only [List.reverse_cons]
    exact RVs.append (RVs.reverse b) (.cons a .nil)
theorem RVs.dropLast {l : List Val} {us : List V} (h : RVs D G ρ l us) : RVs D G ρ l.dropLast us.dropLast := by
  rw [List.dropLast_eq_take, List.dropLast_eq_take, h.length]
  exact h.take _
theorem RVs.erase {l : List Val} {us : List V} (h : RVs D G ρ l us) (i : Nat) : RVs D G ρ (l.eraseIdx i) (us.eraseIdx i) := by
  rw [List.eraseIdx_eq_take_drop_succ, List.eraseIdx_eq_take_drop_succ]
  exact (h.take _).append (h.drop _)

/-! ### keys -/
def keyOf : Val → Option Key
  | .int i => some (.inl i)
  | .str s => some (.inr s)
  | _ => none
def keysOf : Val → Option (List Key)
  | .tup l => l.mapM keyOf
  | _ => none
def strOk : Val → Prop
  | .str s => sOk s
  | .tup l => l.length ≤ most ∧ ∀ s, Val.str s ∈ l → sOk s
  | _ => True
/-- what a heap object says of a tracked one -/
inductive RO (D : Wd) (G : Hp) (ρ : List Addr) : EObj → HO → Prop
  | list {l : List Val} {xs : List V} : RVs D G ρ l xs → l.length ≤ most → RO D G ρ (.list l) (.lst xs)
  | dictK {l : List (Val × Val)} {kvs : List (Key × V)} : Paired (fun (p : Val × Val) (q : Key × V) => keyOf p.1 = some q.1 ∧ strOk p.1 ∧ RV D G ρ p.2 q.2) l kvs → RO D G ρ (.dict false l) (.dK kvs)
  | dictT {l : List (Val × Val)} {kvs : List (List Key × V)} : Paired (fun (p : Val × Val) (q : List Key × V) => keysOf p.1 = some q.1 ∧ strOk p.1 ∧ RV D G ρ p.2 q.2) l kvs → RO D G ρ (.dict true l) (.dT kvs)
  | inst {c : String} {dx : Addr} {fs : List (String × Val)} {gs : List (Str × V)} : Paired (fun (p : String × Val) (q : Str × V) => lit p.1 = q.1 ∧ RV D G ρ p.2 q.2) fs gs → RO D G ρ (.inst c fs) (.ins (D.adr c) dx gs)
theorem Paired.mono {α β : Type} {F F' : α → β → Prop} (h : ∀ a b, F a b → F' a b) : ∀ {l : List α} {m : List β}, Paired F l m → Paired F' l m
  | _, _, .nil => .nil
  | _, _, .cons a b => .cons (h _ _ a) (Paired.mono h b)
theorem RO.mono (x : Ext G ρ G' ρ') {o : EObj} {u : HO} (h : RO D G ρ o u) : RO D G' ρ' o u := by
  cases h with
  | list a b => exact .list (a.mono x) b
  | dictK a => exact .dictK (a.mono fun _ _ h => ⟨h.1, h.2.1, h.2.2.mono x⟩)
  | dictT a => exact .dictT (a.mono fun _ _ h => ⟨h.1, h.2.1, h.2.2.mono x⟩)
  | inst a => exact .inst (a.mono fun _ _ h => ⟨h.1, h.2.mono x⟩)
/-- no frozen thing -/
def HO.soft : HO → Bool
  | .tup _ => false
  | .frz _ _ => false
  | _ => true

/-- what is held fast for a while (a list that is being made) is wrapped twice -/
def unpin : HO → HO
  | .frz _ (.frz _ (.lst l)) => .lst l
  | o => o
/-- a written tuple, the script -/
theorem ktp_seq {K : PySem.W.Frag} {H : Hp} {a : Addr} {xs : List V} (sub : ∀ a o, G a = some o → H a = some (unpin o)) (h : SqT K (fun _ => none) a xs) : SqL K H a xs ∨ SqT K H a xs :=
  .inr (SqT_mono (fun _ _ z => by cases z) h)
theorem scr_seq {K : PySem.W.Frag} {H : Hp} {a : Addr} {xs : List V} (sub : ∀ a o, G a = some o → H a = some (unpin o)) (h : Rd G a (.lst xs) ∨ SqL K (fun _ => none) a xs) : SqL K H a xs := by
  rcases h with (h | ⟨o, h⟩) | h
  · exact .inl (.inl (sub _ _ h))
  · exact .inl (.inr ⟨o, sub _ _ h⟩)
  · exact SqL_mono (fun _ _ z => by cases z) h
/-- neither a table nor a code object -/
def bareH : Option HO → Prop
  | some (.tbl _) => False
  | some (.ext _) => False
  | _ => True
theorem tabs_upd {T : List (Addr × Str)} {H : Hp} {p : Addr} {o : HO} (t : LamX.Tabs T H) (hp : bareH (H p)) : LamX.Tabs T (upd H p o) := by
  intro q hq
  obtain ⟨ps, h1, h2, h3⟩ := t q hq
  have ne : ∀ {b : Addr} {u : HO}, H b = some u → ((∃ z, u = .tbl z) ∨ ∃ z, u = .ext z) → b ≠ p := fun {b u} e hu z => by
    subst z
    rw [e] at hp
    rcases hu with ⟨z, rfl⟩ | ⟨z, rfl⟩ <;> exact hp
  refine ⟨ps, by rw [upd_ne (ne h1 (.inl ⟨_, rfl⟩))]; exact h1, h2, fun pos cv hc => ?_⟩
  obtain ⟨c, e1, e2⟩ := h3 pos cv hc
  exact ⟨c, e1, by rw [upd_ne (ne e2 (.inr ⟨_, rfl⟩))]; exact e2⟩
theorem bare_upd {G : Hp} {p : Addr} {o : HO} (g : ∀ a, bareH (G a)) (ho : bareH (some o)) : ∀ a, bareH (upd G p o a) := fun a => by
  by_cases q : a = p
  · subst q; rw [upd_same]; exact ho
  · rw [upd_ne q]; exact g a
theorem bare_none {H : Hp} {p : Addr} (np : H p = none) : bareH (H p) := by rw [np]; trivial
structure RH (D : Wd) (G : Hp) (ρ : List Addr) (h : EHeap) (H : Hp) : Prop where
  sub : ∀ a o, G a = some o → H a = some (unpin o)
  tabs : LamX.Tabs D.lamT H
  gb : ∀ a, bareH (G a)
  len : ρ.length = h.length
  nd : ρ.Nodup
  out : ∀ a ∈ ρ, G a = none
  obj : ∀ (n : Nat) (a : Addr) (o : EObj), ρ[n]? = some a → h[n]? = some o → ∃ u, H a = some u ∧ RO D G ρ o u

variable {h h' : EHeap} {H H' : Hp}
theorem RH.at_ (x : RH D G ρ h H) {n : Nat} {a : Addr} (e : ρ[n]? = some a) : ∃ o u, h[n]? = some o ∧ H a = some u ∧ RO D G ρ o u := by
  have hn : n < ρ.length := (List.getElem?_eq_some_iff.mp e).1
  rw [x.len] at hn
  obtain ⟨u, h1, h2⟩ := x.obj n a h[n] e (by simp [hn])
  exact ⟨h[n], u, by simp [hn], h1, h2⟩
/-- a thing laid anew that is frozen from now on -/
theorem RH.freeze (x : RH D G ρ h H) {p : Addr} {o : HO} (np : H p = none) (ho : unpin o = o := by rfl) (hb : bareH (some o) := by trivial) : RH D (upd G p o) ρ h (upd H p o) ∧ Ext G ρ (upd G p o) ρ := by
  have gp : G p = none := by
    cases q : G p with
    | none => rfl
    | some z => rw [x.sub p z q] at np; cases np
  have e : Ext G ρ (upd G p o) ρ := ⟨fun a z hz => by
    rw [upd_ne (ne_of_none hz gp)]
    exact hz, List.prefix_rfl⟩
  refine ⟨⟨fun a z hz => ?_, tabs_upd x.tabs (bare_none np), bare_upd x.gb hb, x.len, x.nd, fun a ha => ?_, fun n a b h1 h2 => ?_⟩, e⟩
  · by_cases q : a = p
    · subst q
      rw [upd_same] at hz ⊢
      cases hz
      rw [ho]
    · rw [upd_ne q] at hz ⊢
      exact x.sub a z hz
  · obtain ⟨n, hn⟩ := List.getElem?_of_mem ha
    obtain ⟨b, u, _, h2, _⟩ := x.at_ hn
    rw [upd_ne (ne_of_none h2 np)]
    exact x.out a ha
  · obtain ⟨u, h3, h4⟩ := x.obj n a b h1 h2
    exact ⟨u, by rw [upd_ne (ne_of_none h3 np)]; exact h3, h4.mono e⟩
/-- a new object of the heap -/
theorem RH.alloc (x : RH D G ρ h H) {p : Addr} {o : EObj} {u : HO} (np : H p = none) (r : RO D G (ρ ++ [p]) o u) : RH D G (ρ ++ [p]) (h ++ [o]) (upd H p u) ∧ Ext G ρ G (ρ ++ [p]) := by
  have e : Ext G ρ G (ρ ++ [p]) := ⟨fun _ _ h => h, List.prefix_append _ _⟩
  have gp : G p = none := by
    cases q : G p with
    | none => rfl
    | some z => rw [x.sub p z q] at np; cases np
  have nm : p ∉ ρ := fun hm => by
    obtain ⟨n, hn⟩ := List.getElem?_of_mem hm
    obtain ⟨b, v, _, h2, _⟩ := x.at_ hn
    rw [h2] at np; cases np
  refine ⟨⟨fun a z hz => ?_, tabs_upd x.tabs (bare_none np), x.gb, by simp [x.len], ?_, fun a ha => ?_, fun n a b h1 h2 => ?_⟩, e⟩
  · rw [upd_ne (ne_of_none hz gp)]
    exact x.sub a z hz
  · rw [List.nodup_append]
    refine ⟨x.nd, by simp, fun a ha b hb q => ?_⟩
    simp at hb
    subst hb
    subst q
    exact nm ha
  · rcases List.mem_append.mp ha with ha | ha
    · exact x.out a ha
    · simp at ha; subst ha; exact gp
  · by_cases q : n < ρ.length
    · rw [List.getElem?_append_left q] at h1
      rw [List.getElem?_append_left (by rw [← x.len]; exact q)] at h2
      obtain ⟨v, h3, h4⟩ := x.obj n a b h1 h2
      exact ⟨v, by rw [upd_ne (ne_of_none h3 np)]; exact h3, h4.mono e⟩
    · have hl := x.len
      have hn : n < (ρ ++ [p]).length := (List.getElem?_eq_some_iff.mp h1).1
      simp at hn
      have en : n = ρ.length := by omega
      subst en
      simp at h1
      subst h1
      rw [hl] at h2
      simp at h2
      subst h2
      exact ⟨u, upd_same, r⟩
/-- an object of the heap is changed -/
theorem RO.bare {o : EObj} {u : HO} (r : RO D G ρ o u) : bareH (some u) := by cases r <;> trivial
theorem RH.put (x : RH D G ρ h H) {n : Nat} {a : Addr} {o : EObj} {u : HO} (e : ρ[n]? = some a) (r : RO D G ρ o u) : RH D G ρ (h.set n o) (upd H a u) := by
  have ga : G a = none := x.out a (List.mem_of_getElem? e)
  obtain ⟨o0, u0, _, hu0, r0⟩ := x.at_ e
  refine ⟨fun b z hz => ?_, tabs_upd x.tabs (by rw [hu0]; exact r0.bare), x.gb, by simp [x.len], x.nd, x.out, fun m b q h1 h2 => ?_⟩
  · rw [upd_ne (ne_of_none hz ga)]
    exact x.sub b z hz
  · by_cases hm : m = n
    · subst hm
      rw [e] at h1
      cases h1
      have hlt : m < h.length := by rw [← x.len]; exact (List.getElem?_eq_some_iff.mp e).1
      rw [List.getElem?_set_self hlt] at h2
      cases h2
      exact ⟨u, upd_same, r⟩
    · rw [List.getElem?_set_ne (Ne.symm hm)] at h2
      obtain ⟨v, h3, h4⟩ := x.obj m b q h1 h2
      have ne : b ≠ a := fun z => by
        subst z
        have := (List.getElem?_inj (l := ρ) (i := m) (j := n) ((List.getElem?_eq_some_iff.mp h1).1) x.nd).mp (by rw [h1, e])
        exact hm this
      exact ⟨v, by rw [upd_ne ne]; exact h3, h4⟩

/-! ### held fast for a while -/
/-- o at p, held fast -/
def pin (o : HO) : HO := .frz default (.frz default o)
/-- what reading can use -/
def usable : HO → Bool
  | .frz _ (.frz _ _) => false
  | _ => true
mutual
theorem RV.monoV (g : ∀ a o, usable o = true → G a = some o → G' a = some o) (r : ρ <+: ρ') : ∀ {v : Val} {u : V}, RV D G ρ v u → RV D G' ρ' v u
  | _, _, .non => .non
  | _, _, .bl b => .bl b
  | _, _, .int i => .int i
  | _, _, .str s h => .str s h
  | _, _, .tup h l q => .tup (g _ _ rfl h) l (RVs.monoV g r q)
  | _, _, .ktp h l q => .ktp h l (RVs.monoV g r q)
  | _, _, .scr h l q => .scr (h.imp (fun z => z.imp (fun z => g _ _ rfl z) fun ⟨o, z⟩ => ⟨o, g _ _ rfl z⟩) id) l (RVs.monoV g r q)
  | _, _, .lst h l q => .lst (g _ _ rfl h) l (RVs.monoV g r q)
  | _, _, .ref h => .ref (pre_get r h)
  | _, _, .gl y h => .gl y h
theorem RVs.monoV (g : ∀ a o, usable o = true → G a = some o → G' a = some o) (r : ρ <+: ρ') : ∀ {l : List Val} {us : List V}, RVs D G ρ l us → RVs D G' ρ' l us
  | _, _, .nil => .nil
  | _, _, .cons a b => .cons (RV.monoV g r a) (RVs.monoV g r b)
end
theorem RO.monoV (g : ∀ a o, usable o = true → G a = some o → G' a = some o) (r : ρ <+: ρ') {o : EObj} {u : HO} (h : RO D G ρ o u) : RO D G' ρ' o u := by
  cases h with
  | list a b => exact .list (a.monoV g r) b
  | dictK a => exact .dictK (a.mono fun _ _ h => ⟨h.1, h.2.1, h.2.2.monoV g r⟩)
  | dictT a => exact .dictT (a.mono fun _ _ h => ⟨h.1, h.2.1, h.2.2.monoV g r⟩)
  | inst a => exact .inst (a.mono fun _ _ h => ⟨h.1, h.2.monoV g r⟩)
theorem repin_g {p : Addr} {o o' : HO} (gp : G p = some (pin o)) : ∀ a z, usable z = true → G a = some z → upd G p o' a = some z := fun a z hu hz => by
  by_cases q : a = p
  · subst q
    rw [gp] at hz
    cases hz
    cases hu
  · rw [upd_ne q]; exact hz
theorem RH.out_pin (x : RH D G ρ h H) {p : Addr} {o : HO} (gp : G p = some o) : p ∉ ρ := fun hm => by
  rw [x.out p hm] at gp; cases gp
/-- a new thing, held fast -/
theorem RH.hold (x : RH D G ρ h H) {p : Addr} {o : HO} (np : H p = none) (hp : unpin (pin o) = o := by rfl) : RH D (upd G p (pin o)) ρ h (upd H p o) ∧ Ext G ρ (upd G p (pin o)) ρ := by
  have gp : G p = none := by
    cases q : G p with
    | none => rfl
    | some z => rw [x.sub p z q] at np; cases np
  have e : Ext G ρ (upd G p (pin o)) ρ := ⟨fun a z hz => by
    rw [upd_ne (ne_of_none hz gp)]
    exact hz, List.prefix_rfl⟩
  refine ⟨⟨fun a z hz => ?_, tabs_upd x.tabs (bare_none np), bare_upd x.gb trivial, x.len, x.nd, fun a ha => ?_, fun n a b h1 h2 => ?_⟩, e⟩
  · by_cases q : a = p
    · subst q
      rw [upd_same] at hz ⊢
      cases hz
      rw [hp]
    · rw [upd_ne q] at hz ⊢
      exact x.sub a z hz
  · obtain ⟨n, hn⟩ := List.getElem?_of_mem ha
    obtain ⟨b, u, _, h2, _⟩ := x.at_ hn
    rw [upd_ne (ne_of_none h2 np)]
    exact x.out a ha
  · obtain ⟨u, h3, h4⟩ := x.obj n a b h1 h2
    exact ⟨u, by rw [upd_ne (ne_of_none h3 np)]; exact h3, h4.mono e⟩
/-- what is held fast becomes another -/
theorem unpin_bare : ∀ o : HO, bareH (some (unpin (pin o))) := by
  intro o
  cases o <;> trivial
theorem RH.rehold (x : RH D G ρ h H) {p : Addr} {o o' z : HO} (gp : G p = some (pin o)) (hz : unpin z = o') (hb : bareH (some z) := by trivial) : RH D (upd G p z) ρ h (upd H p o') := by
  have np := x.out_pin gp
  refine ⟨fun a w hw => ?_, tabs_upd x.tabs (by rw [x.sub p _ gp]; exact unpin_bare o), bare_upd x.gb hb, x.len, x.nd, fun a ha => ?_, fun n a b h1 h2 => ?_⟩
  · by_cases q : a = p
    · subst q
      rw [upd_same] at hw ⊢
      cases hw
      rw [hz]
    · rw [upd_ne q] at hw ⊢
      exact x.sub a w hw
  · rw [upd_ne (fun q : a = p => np (by rw [← q]; exact ha))]
    exact x.out a ha
  · obtain ⟨u, h3, h4⟩ := x.obj n a b h1 h2
    exact ⟨u, by rw [upd_ne (fun q : a = p => np (by rw [← q]; exact List.mem_of_getElem? h1))]; exact h3, h4.monoV (repin_g gp) List.prefix_rfl⟩
/-- seen from ahead of the holding -/
theorem Ext.rehold {p : Addr} {z : HO} (e : Ext G ρ G' ρ') (gp : G p = none) : Ext G ρ (upd G' p z) ρ' := ⟨fun a w hw => by
  rw [upd_ne (ne_of_none hw gp)]
  exact e.g a w hw, e.r⟩
theorem RH.gnone (x : RH D G ρ h H) {p : Addr} (np : H p = none) : G p = none := by
  cases q : G p with
  | none => rfl
  | some z => rw [x.sub p z q] at np; cases np
end
end Sim

end
section
set_option Elab.async false
set_option linter.all false
set_option maxRecDepth 100000
/-! SimB: readings by the evaluator; their joining. -/
namespace Sim
open PySem PySem.Spec PyProof.Rows L2 Ev

/-- the fields of an exception -/
abbrev FR (D : Wd) (G : Hp) (ρ : List Addr) : List (String × Val) → List (Str × V) → Prop := Paired fun (p : String × Val) (q : Str × V) => lit p.1 = q.1 ∧ RV D G ρ p.2 q.2
def Exc (D : Wd) (E : XK) (G : Hp) (ρ : List Addr) (c : String) (fs : List (String × Val)) (h' : EHeap) : Prop :=
  ∀ G' ρ' H' d gs, Ext G ρ G' ρ' → RH D G' ρ' h' H' → H' d = some (.xd gs) → FR D G' ρ' fs gs → E (.ref (D.adr c)) (some d) H'
theorem Exc.mono {D : Wd} {E : XK} {G G1 : Hp} {ρ ρ1 : List Addr} {c : String} {fs : List (String × Val)} {h' : EHeap} (e : Ext G ρ G1 ρ1) (x : Exc D E G ρ c fs h') : Exc D E G1 ρ1 c fs h' :=
  fun G' ρ' H' d gs e' => x G' ρ' H' d gs (e.trans e')

/-- a result of the evaluator brings what is wanted -/
def OkG {α β : Type} (D : Wd) (E : XK) (rel : Hp → List Addr → α → β → Prop) (G : Hp) (ρ : List Addr) (r : R α) (Q : β → Hp → Prop) : Prop := match r with
  | .ok v h' => ∀ G' ρ' H' y, Ext G ρ G' ρ' → RH D G' ρ' h' H' → rel G' ρ' v y → Q y H'
  | .exc c fs h' => Exc D E G ρ c fs h'
  | .no => False
abbrev relV (D : Wd) : Hp → List Addr → Val → V → Prop := fun G ρ v x => RV D G ρ v x
abbrev relL (D : Wd) : Hp → List Addr → List Val → List V → Prop := fun G ρ v x => RVs D G ρ v x
abbrev relI {α : Type} : Hp → List Addr → α → α → Prop := fun _ _ a b => a = b
abbrev OkV (D : Wd) (E : XK) (G : Hp) (ρ : List Addr) (r : R Val) (Q : VK) : Prop := OkG D E (relV D) G ρ r Q

theorem OkG.mono {α β : Type} {D : Wd} {E : XK} {rel : Hp → List Addr → α → β → Prop} {G G1 : Hp} {ρ ρ1 : List Addr} {r : R α} {Q : β → Hp → Prop} (e : Ext G ρ G1 ρ1) (x : OkG D E rel G ρ r Q) : OkG D E rel G1 ρ1 r Q := by
  cases r with
  | ok v h => exact fun G' ρ' H' y e' => x G' ρ' H' y (e.trans e')
  | exc c fs h => exact Exc.mono e x
  | no => exact x
theorem OkG.imp {α β : Type} {D : Wd} {E : XK} {rel : Hp → List Addr → α → β → Prop} {G : Hp} {ρ : List Addr} {r : R α} {Q Q' : β → Hp → Prop} (x : OkG D E rel G ρ r Q) (f : ∀ y H, Q y H → Q' y H) : OkG D E rel G ρ r Q' := by
  cases r with
  | ok v h => exact fun G' ρ' H' y e' a b => f _ _ (x G' ρ' H' y e' a b)
  | exc c fs h => exact x
  | no => exact x

/-- the frame's values -/
structure REnv (D : Wd) (G : Hp) (ρ : List Addr) (env : EEnv) (σ : L2.St) : Prop where
  len : env.length = σ.length
  get : ∀ (i : Nat) (v : Val), env[i]? = some (some v) → ∃ x, σ[i]? = some (some x) ∧ RV D G ρ v x
theorem REnv.mono {D : Wd} {G G1 : Hp} {ρ ρ1 : List Addr} {env : EEnv} {σ : L2.St} (e : Ext G ρ G1 ρ1) (x : REnv D G ρ env σ) : REnv D G1 ρ1 env σ :=
  ⟨x.len, fun i v h => let ⟨y, a, b⟩ := x.get i v h; ⟨y, a, b.mono e⟩⟩
theorem REnv.set {D : Wd} {G : Hp} {ρ : List Addr} {env : EEnv} {σ : L2.St} (x : REnv D G ρ env σ) (i : Nat) {v : Val} {u : V} (r : RV D G ρ v u) : REnv D G ρ (env.set i (some v)) (σ.set i (some u)) := by
  refine ⟨by simp [x.len], fun j w h => ?_⟩
  by_cases hj : i = j
  · subst hj
    by_cases hl : i < env.length
    · rw [List.getElem?_set_self hl] at h
      cases h
      exact ⟨u, by rw [List.getElem?_set_self (by rw [← x.len]; exact hl)], r⟩
    · rw [List.getElem?_eq_none (by simp; omega)] at h
      cases h
  · rw [List.getElem?_set_ne hj] at h
    obtain ⟨y, a, b⟩ := x.get j w h
    exact ⟨y, by rw [List.getElem?_set_ne hj]; exact a, b⟩
theorem REnv.unset {D : Wd} {G : Hp} {ρ : List Addr} {env : EEnv} {σ : L2.St} (x : REnv D G ρ env σ) (i : Nat) (o : Option V) : REnv D G ρ (env.set i none) (σ.set i o) := by
  refine ⟨by simp [x.len], fun j w h => ?_⟩
  by_cases hj : i = j
  · subst hj
    by_cases hl : i < env.length
    · rw [List.getElem?_set_self hl] at h
      cases h
    · rw [List.getElem?_eq_none (by simp; omega)] at h
      cases h
  · rw [List.getElem?_set_ne hj] at h
    obtain ⟨y, a, b⟩ := x.get j w h
    exact ⟨y, by rw [List.getElem?_set_ne hj]; exact a, b⟩

/-- a reading: the evaluator's m at some frame and heap that are so -/
def tG {α β : Type} (D : Wd) (E : XK) (rel : Hp → List Addr → α → β → Prop) (m : EEnv → M α) : L2.St → Hp → (β → Hp → Prop) → Prop := fun σ H Q =>
  ∃ G ρ env h, RH D G ρ h H ∧ REnv D G ρ env σ ∧ OkG D E rel G ρ (m env h) Q
abbrev tE (D : Wd) (E : XK) (c : ECtx) (e : Ex) : TE := tG D E (relV D) (evE c e)
abbrev tT (D : Wd) (E : XK) (c : ECtx) (e : Ex) : TT := tG D E relI (evT c e)
abbrev tA (D : Wd) (E : XK) (c : ECtx) (e : Ex) : TA := tG D E (relL D) (evL c e)

theorem tG_bind {α β γ δ : Type} {D : Wd} {E : XK} {rel : Hp → List Addr → α → β → Prop} {rel2 : Hp → List Addr → γ → δ → Prop} {G : Hp} {ρ : List Addr} {h : EHeap} {H : Hp} {env : EEnv} {σ : L2.St}
    {m : EEnv → M α} {k : α → M γ} {Q : δ → Hp → Prop} {P : β → Hp → Prop} (x : RH D G ρ h H) (re : REnv D G ρ env σ) (hq : OkG D E rel2 G ρ ((m env h).bind k) Q)
    (hp : ∀ G1 ρ1 H1 y v h1, Ext G ρ G1 ρ1 → RH D G1 ρ1 h1 H1 → rel G1 ρ1 v y → OkG D E rel2 G1 ρ1 (k v h1) Q → P y H1) : tG D E rel m σ H P := by
  refine ⟨G, ρ, env, h, x, re, ?_⟩
  cases q : m env h with
  | ok v h1 =>
    rw [q] at hq
    exact fun G1 ρ1 H1 y e1 x1 r1 => hp G1 ρ1 H1 y v h1 e1 x1 r1 (OkG.mono e1 hq)
  | exc c fs h1 =>
    rw [q] at hq
    exact hq
  | no =>
    rw [q] at hq
    exact hq
theorem PE.imp {X : Cx} {e : Expr} {t t' : TE} (h : PE X e t) (f : ∀ σ H Q, t' σ H Q → t σ H Q) : PE X e t' := ⟨fun pins s σ H Q I q => h.run pins s σ H Q I (f σ H Q q)⟩
theorem PT.imp {X : Cx} {e : Expr} {t t' : TT} (h : PT X e t) (f : ∀ σ H Q, t' σ H Q → t σ H Q) : PT X e t' := ⟨fun pins s σ H Q I q => h.run pins s σ H Q I (f σ H Q q)⟩
theorem PW.imp {X : Cx} {e : Expr} {t t' : TT} (h : PW X e t) (f : ∀ σ H Q, t' σ H Q → t σ H Q) : PW X e t' := ⟨fun w pins s σ H Q I q => h.run w pins s σ H Q I (f σ H Q q)⟩
theorem PA.imp {X : Cx} {es : List Expr} {t t' : TA} (h : PA X es t) (f : ∀ σ H Q, t' σ H Q → t σ H Q) : PA X es t' := ⟨fun p pins s σ H Q I q => h.run p pins s σ H Q I (f σ H Q q)⟩
theorem PS.imp {X : Cx} {st : Stmt} {t t' : TS} (h : PS X st t) (f : ∀ d σ H, t' d σ H → t d σ H) : PS X st t' := ⟨fun pins s σ H d I q => h.run pins s σ H d I (f d σ H q)⟩
theorem PSs.imp {X : Cx} {st : List Stmt} {t t' : TS} (h : PSs X st t) (f : ∀ d σ H, t' d σ H → t d σ H) : PSs X st t' := ⟨fun pins s σ H d I q => h.run pins s σ H d I (f d σ H q)⟩

/-! ### statements -/
def OkS (D : Wd) (E : XK) (G : Hp) (ρ : List Addr) (r : R Ctl) (d : Ends) : Prop := match r with
  | .ok (.nx env) h' => ∀ G' ρ' H' σ', Ext G ρ G' ρ' → RH D G' ρ' h' H' → REnv D G' ρ' env σ' → d.nx σ' H'
  | .ok (.bk env) h' => ∀ G' ρ' H' σ', Ext G ρ G' ρ' → RH D G' ρ' h' H' → REnv D G' ρ' env σ' → d.bk σ' H'
  | .ok (.ct env) h' => ∀ G' ρ' H' σ', Ext G ρ G' ρ' → RH D G' ρ' h' H' → REnv D G' ρ' env σ' → d.ct σ' H'
  | .ok (.rt v) h' => ∀ G' ρ' H' y, Ext G ρ G' ρ' → RH D G' ρ' h' H' → RV D G' ρ' v y → d.rt y H'
  | .exc c fs h' => Exc D E G ρ c fs h'
  | .no => False
theorem OkS.mono {D : Wd} {E : XK} {G G1 : Hp} {ρ ρ1 : List Addr} {r : R Ctl} {d : Ends} (e : Ext G ρ G1 ρ1) (x : OkS D E G ρ r d) : OkS D E G1 ρ1 r d := by
  cases r with
  | ok c h => cases c <;> exact fun G' ρ' H' y e' => x G' ρ' H' y (e.trans e')
  | exc c fs h => exact Exc.mono e x
  | no => exact x
def tS (D : Wd) (E : XK) (m : EEnv → M Ctl) : TS := fun d σ H => ∃ G ρ env h, RH D G ρ h H ∧ REnv D G ρ env σ ∧ OkS D E G ρ (m env h) d
theorem tG_bindS {α β : Type} {D : Wd} {E : XK} {rel : Hp → List Addr → α → β → Prop} {G : Hp} {ρ : List Addr} {h : EHeap} {H : Hp} {env : EEnv} {σ : L2.St}
    {m : EEnv → M α} {k : α → M Ctl} {d : Ends} {P : β → Hp → Prop} (x : RH D G ρ h H) (re : REnv D G ρ env σ) (hq : OkS D E G ρ ((m env h).bind k) d)
    (hp : ∀ G1 ρ1 H1 y v h1, Ext G ρ G1 ρ1 → RH D G1 ρ1 h1 H1 → rel G1 ρ1 v y → OkS D E G1 ρ1 (k v h1) d → P y H1) : tG D E rel m σ H P := by
  refine ⟨G, ρ, env, h, x, re, ?_⟩
  cases q : m env h with
  | ok v h1 =>
    rw [q] at hq
    exact fun G1 ρ1 H1 y e1 x1 r1 => hp G1 ρ1 H1 y v h1 e1 x1 r1 (OkS.mono e1 hq)
  | exc c fs h1 =>
    rw [q] at hq
    exact hq
  | no =>
    rw [q] at hq
    exact hq

/-! ### the context -/
structure XOk (D : Wd) (E : XK) (k : Nat) (N : List Str) (sc : Scope) (X : Cx) : Prop where
  hP : X.prog = D.P
  hw : X.w = D.w
  hK : X.K = D.K
  hmg : X.mg = D.mg
  hb : X.base = D.base
  hN : X.N = N
  hsc : X.env.scope = sc
  calm : X.calm = true
  nd : X.N.Nodup
  room1 : Room (k + 1) X.A
  takes : Takes X (fun c d _ H => E c d H)
  lam : N.contains (lit "<lambda>") = true → ∃ c P, X.env.code = .ref c ∧ LamX.TabB X.base X.mg c P ∧ (P, X.env.qual ++ "<lambda>") ∈ D.lamT ∧ ∀ p ∈ D.lamT, p.1 = P → p.2 = X.env.qual ++ "<lambda>"
theorem XOk.room {D : Wd} {E : XK} {k : Nat} {N : List Str} {sc : Scope} {X : Cx} (h : XOk D E k N sc X) : Room k X.A := h.room1.mono (Nat.le_succ k)
/-- what a call of the def f promises at n -/
def spF (D : Wd) (n : Nat) (f : String) : Sp := fun vs H Q E => ∃ G ρ h args, RH D G ρ h H ∧ RVs D G ρ args vs ∧ OkV D E G ρ (run D.cfg n f args h) Q
end Sim

end
section
set_option Elab.async false
set_option linter.all false
set_option maxRecDepth 100000
/-! SimC: the matcher: IR and trees. -/
namespace Sim
open PySem PySem.Spec PyProof.Rows L2 Ev

/-! ### trees by their forms -/
def asName : Expr → Option Str
  | .Name x _ => some x
  | _ => none
def asConst : Expr → Option Const
  | .Constant c _ _ => some c
  | _ => none
def asTup : Expr → Option (List Expr)
  | .Tuple es _ _ => some es
  | _ => none
def asLst : Expr → Option (List Expr)
  | .List es _ => some es
  | _ => none
def asBin : Expr → Option (Expr × Operator × Expr)
  | .BinOp a o b _ => some (a, o, b)
  | _ => none
def asUn : Expr → Option (UnaryOp × Expr)
  | .UnaryOp o a _ => some (o, a)
  | _ => none
def asCmp1 : Expr → Option (Expr × CmpOp × Expr)
  | .Compare a [o] [b] _ => some (a, o, b)
  | _ => none
def asCmp2 : Expr → Option (Expr × CmpOp × CmpOp × Expr × Expr)
  | .Compare a [o, p] [b, c] _ => some (a, o, p, b, c)
  | _ => none
def asIf : Expr → Option (Expr × Expr × Expr)
  | .IfExp c a b _ => some (c, a, b)
  | _ => none
def asAttr : Expr → Option (Expr × Str)
  | .Attribute a f _ => some (a, f)
  | _ => none
def asSub : Expr → Option (Expr × Expr)
  | .Subscript a b _ => some (a, b)
  | _ => none
def asSlice : Expr → Option (Option Expr × Option Expr × Option Expr)
  | .Slice l u s _ => some (l, u, s)
  | _ => none
/-- a call without keywords -/
def asCall : Expr → Option (Expr × List Expr)
  | .Call f es [] _ => some (f, es)
  | _ => none
/-- o.m(..) on one line, without keywords -/
def asMeth : Expr → Option (Expr × Str × List Expr)
  | .Call (.Attribute o m ap) es [] cp => if ap.endLine == cp.line then some (o, m, es) else none
  | _ => none
theorem asName_eq {e : Expr} {x : Str} (h : asName e = some x) : ∃ p, e = .Name x p := by
  cases e <;> (cases h <;> exact ⟨_, rfl⟩)
theorem asConst_eq {e : Expr} {x : Const} (h : asConst e = some x) : ∃ k p, e = .Constant x k p := by
  cases e <;> (cases h <;> exact ⟨_, _, rfl⟩)
theorem asTup_eq {e : Expr} {x} (h : asTup e = some x) : ∃ k p, e = .Tuple x k p := by
  cases e <;> (cases h <;> exact ⟨_, _, rfl⟩)
theorem asLst_eq {e : Expr} {x} (h : asLst e = some x) : ∃ p, e = .List x p := by
  cases e <;> (cases h <;> exact ⟨_, rfl⟩)
theorem asBin_eq {e : Expr} {a o b} (h : asBin e = some (a, o, b)) : ∃ p, e = .BinOp a o b p := by
  cases e <;> (cases h <;> exact ⟨_, rfl⟩)
theorem asUn_eq {e : Expr} {o a} (h : asUn e = some (o, a)) : ∃ p, e = .UnaryOp o a p := by
  cases e <;> (cases h <;> exact ⟨_, rfl⟩)
theorem asCmp1_eq {e : Expr} {a o b} (h : asCmp1 e = some (a, o, b)) : ∃ p, e = .Compare a [o] [b] p := by
  unfold asCmp1 at h
  split at h
  · cases h; exact ⟨_, rfl⟩
  · cases h
theorem asCmp2_eq {e : Expr} {a o q b c} (h : asCmp2 e = some (a, o, q, b, c)) : ∃ p, e = .Compare a [o, q] [b, c] p := by
  unfold asCmp2 at h
  split at h
  · cases h; exact ⟨_, rfl⟩
  · cases h
theorem asIf_eq {e : Expr} {a b c} (h : asIf e = some (a, b, c)) : ∃ p, e = .IfExp a b c p := by
  cases e <;> (cases h <;> exact ⟨_, rfl⟩)
theorem asAttr_eq {e : Expr} {a f} (h : asAttr e = some (a, f)) : ∃ p, e = .Attribute a f p := by
  cases e <;> (cases h <;> exact ⟨_, rfl⟩)
theorem asSub_eq {e : Expr} {a f} (h : asSub e = some (a, f)) : ∃ p, e = .Subscript a f p := by
  cases e <;> (cases h <;> exact ⟨_, rfl⟩)
theorem asSlice_eq {e : Expr} {a b c} (h : asSlice e = some (a, b, c)) : ∃ p, e = .Slice a b c p := by
  cases e <;> (cases h <;> exact ⟨_, rfl⟩)
theorem asCall_eq {e : Expr} {f es} (h : asCall e = some (f, es)) : ∃ p, e = .Call f es [] p := by
  unfold asCall at h
  split at h
  · cases h; exact ⟨_, rfl⟩
  · cases h
theorem asMeth_eq {e : Expr} {o m es} (h : asMeth e = some (o, m, es)) : ∃ ap cp, e = .Call (.Attribute o m ap) es [] cp ∧ (ap.endLine == cp.line) = true := by
  unfold asMeth at h
  split at h
  · split at h
    · cases h; exact ⟨_, _, rfl, by assumption⟩
    · cases h
  · cases h

/-! ### names -/
def visB (sc : Scope) (x : Str) : Bool := match sc.names.lookup x with
  | some .local => true
  | some .cell => true
  | some .free => true
  | _ => false
def locB (sc : Scope) (x : Str) : Bool := match sc.names.lookup x with
  | some .local => true
  | some .cell => true
  | _ => false
def glB (sc : Scope) (x : Str) : Bool := match sc.names.lookup x with
  | some .globalImplicit => true
  | _ => false
theorem visB_ok {sc : Scope} {x : Str} (h : visB sc x = true) : Vis sc x := by
  unfold visB at h
  unfold Vis
  revert h
  cases sc.names.lookup x with
  | none => intro h; cases h
  | some k => cases k <;> intro h <;> simp at h ⊢
theorem locB_ok {sc : Scope} {x : Str} (h : locB sc x = true) : L2.Loc sc x := by
  unfold locB at h
  unfold L2.Loc
  revert h
  cases sc.names.lookup x with
  | none => intro h; cases h
  | some k => cases k <;> intro h <;> simp at h ⊢
theorem glB_ok {sc : Scope} {x : Str} (h : glB sc x = true) : sc.names.lookup x = some .globalImplicit := by
  unfold glB at h
  revert h
  cases sc.names.lookup x with
  | none => intro h; cases h
  | some k => cases k <;> intro h <;> simp at h ⊢
def okName (x : Str) : Bool := !(x == ("__debug__" : Str)) && !(x == ("__classdict__" : Str)) && !(x == ("__name__" : Str))
theorem okName_d {x : Str} (h : okName x = true) : (x == ("__debug__" : Str)) = false := by
  unfold okName at h; simp only [Bool.and_eq_true, Bool.not_eq_true'] at h; exact h.1.1
theorem okName_c {x : Str} (h : okName x = true) : (x == ("__classdict__" : Str)) = false := by
  unfold okName at h; simp only [Bool.and_eq_true, Bool.not_eq_true'] at h; exact h.1.2
theorem okName_n {x : Str} (h : okName x = true) : x ≠ "__name__" := by
  unfold okName at h; simp only [Bool.and_eq_true, Bool.not_eq_true'] at h
  intro q; rw [q] at h; exact absurd h.2 (by decide)

def bopOf : BOp → Operator
  | .add => .Add | .sub => .Sub | .mul => .Mult | .fdiv => .FloorDiv | .mod => .Mod | .pow => .Pow
def copOf : COp → CmpOp
  | .eq => .Eq | .ne => .NotEq | .lt => .Lt | .le => .LtE | .gt => .Gt | .ge => .GtE | .isin => .In | .notin => .NotIn
def notStar : Expr → Bool
  | .Starred _ _ => false
  | _ => true
theorem star_of {e : Expr} (h : notStar e = true) (es : List Expr) (env : PySem.Env) : starEach (e :: es) env = (false, eval e env) :: starEach es env := by
  cases e <;> first | rfl | cases h
/-- forms whose truth is plain -/
def plainT : Expr → Bool
  | .UnaryOp .Not _ _ => false
  | .BoolOp _ _ _ => false
  | .IfExp _ _ _ _ => false
  | .Compare _ _ _ _ => false
  | _ => true
theorem plainT_ok {e : Expr} (h : plainT e = true) (env : PySem.Env) (whole : Sem Value) : isTrue e env whole = (do let v ← whole; standAt e.pos; holding [v] (truthy v)) := by
  cases e with
  | UnaryOp o a p => cases o <;> first | rfl | cases h
  | _ => first | rfl | cases h
/-- no set display behind in -/
def notSet : Expr → Bool
  | .Set _ _ _ => false
  | _ => true
theorem notSet_ok {e : Expr} (h : notSet e = true) (op : CmpOp) : behindInMarks op e = false := by
  cases e <;> first | rfl | cases h
def notSlice : Expr → Bool
  | .Slice _ _ _ _ => false
  | _ => true
theorem notSlice_ok {e : Expr} (h : notSlice e = true) : PlainIx e := fun o i => by
  cases e <;> first | rfl | cases h
/-- not a bare call (of super) -/
def notSuper : Expr → Bool
  | .Call (.Name _ _) [] [] _ => false
  | _ => true
theorem notSuper_ok {e : Expr} (h : notSuper e = true) (f : Str) (env : PySem.Env) (whole : Sem Value) : attributeBase e f env whole = whole := by
  unfold attributeBase
  split
  · cases h
  · rfl

/-- parameters by their places alone -/
def plainParams (p : Arguments) : Bool := p.posonlyargs.isEmpty && p.vararg.isNone && p.kwonlyargs.isEmpty && p.kwarg.isNone
/-- lambda x: x[0] -/
def lamK0 (e : Expr) : Bool := match e with
  | .Lambda params body scope _ => plainParams params && params.defaults.isEmpty && params.kw_defaults.isEmpty && (match body with
    | .Subscript (.Name x _) (.Constant (.int 0) _ _) _ => decide (params.args.map (·.arg) = [x]) && okName x && decide (scope.names = [(x, .local)]) && decide (scope.kind = .function) && !scope.isCoroutine && !scope.isGenerator
    | _ => false)
  | _ => false
/-- key=lambda x: x[0] -/
def kwK0 (k : Keyword) : Bool := k.arg == some (lit "key") && lamK0 k.value
/-! ### the matcher -/
/-- what it asks of the world: module defs, built-ins, classes -/
structure Tx where
  top : String → Bool
  bi : String → Bool
  isC : String → String → Bool
  kwo : String → Option (Nat × List Str)
/-- a comprehension's names as the block sees them -/
def relS (scope sc : Scope) : Scope :=
  { scope with names := scope.names.map fun (n, k) => if (k == .free && sc.kind == .function && sc.names.lookup n == some .cell) then (n, .cell) else (n, k) }
theorem relS_eq (scope : Scope) (env : PySem.Env) : relabel scope env = relS scope env.scope := rfl
def ownOf (N : List Str) (own : List Nat) : List (Str × Nat) := own.map fun i => (N[i]?.getD (lit ""), i)
theorem ownOf_snd (N : List Str) (own : List Nat) : (ownOf N own).map (·.2) = own := by
  unfold ownOf
  rw [List.map_map]
  simp [Function.comp_def]
def isLoc (sc : Scope) (x : Str) : Bool := match sc.names.lookup x with
  | some .local => true
  | _ => false
theorem isLoc_ok {sc : Scope} {x : Str} (h : isLoc sc x = true) : sc.names.lookup x = some .local := by
  unfold isLoc at h
  split at h
  · assumption
  · cases h
def tgSlots : Tg → List Nat
  | .nm i => [i]
  | .nil => []
  | .cons t ts => tgSlots t ++ tgSlots ts
def isTup : Expr → Bool
  | .Tuple _ _ _ => true
  | _ => false
/-- targets: p, where names may be stored -/
def matchT (N : List Str) (p : Str → Bool) : Tg → Expr → Bool
  | .nm i, e => match asName e with
    | some x => N[i]? == some x && p x
    | none => false
  | .nil, _ => false
  | .cons t ts, e => match asTup e with
    | some l => (match l with
      | x :: r => matchT N p t x && matchTs ts r
      | [] => false)
    | none => false
where matchTs : Tg → List Expr → Bool
  | .nil, l => l.isEmpty
  | .cons t ts, l => (match l with
    | x :: r => matchT N p t x && matchTs ts r
    | [] => false)
  | .nm _, _ => false
def primName : Prim → String
  | .len => "len" | .abs => "abs" | .min2 => "min" | .max2 => "max" | .int1 => "int" | .str1 => "str" | .sum => "sum" | .tuple1 => "tuple" | .all1 => "all" | .any1 => "any"
def fprimName : FPrim → String
  | .sorted => "sorted" | .sortedK0 => "sorted" | .list1 => "list" | .cat => "" | .split1 => ""
def pmName : PM → String
  | .find => "find" | .rfind => "rfind" | .partition => "partition" | .join => "join" | .lstrip1 => "lstrip" | .get1 => "get" | .get2 => "get" | .append => "append" | .extend => "extend" | .pop0 => "pop" | .pop1 => "pop"
  | .reverse => "reverse" | .remove => "remove" | .clear => "clear" | .index => "index" | .count => "count"
/-- the methods that are covered -/
def pmOk (n : Nat) : PM → Bool
  | .find => true | .rfind => true | .get1 => n == 1 | .get2 => n == 2 | .append => true | .extend => true | .pop0 => true | .pop1 => true | .reverse => true | .clear => true
  | _ => false
/-- the expressions of a list -/
def elems : Ex → List Ex
  | .cons e es => e :: elems es
  | _ => []
def elen : Ex → Nat
  | .cons _ es => elen es + 1
  | _ => 0
variable (tx : Tx) (N : List Str)
def matchB (sc : Scope) (x : String) (f : Expr) : Bool := match asName f with
  | some y => lit x == y && glB sc y && okName y && tx.bi x
  | none => false
mutual
def matchE (sc : Scope) : Ex → Expr → Bool
  | .var i, ee => match asName ee with
    | some x => N[i]? == some x && visB sc x && okName x
    | none => false
  | .cst v, ee => match asConst ee with
    | some c => (match v, c with
      | .non, .none => true
      | .bl b, .bool b' => b == b'
      | .int i, .int j => i == j
      | .str s, .str t => s == t && decide (s.length ≤ most) && PyData.strOk s
      | _, _ => false)
    | none => false
  | .dead, _ => true
  | .glob x, ee => match asName ee with
    | some y => lit x == y && glB sc y && okName y
    | none => false
  | .tup es, ee => match asTup ee with
    | some l => decide (l.length ≤ 1000) && matchL sc es l
    | none => false
  | .fz f, ee => matchF sc f ee
  | .bx f, ee => matchF sc f ee
  | .bin o a b, ee => match asBin ee with
    | some (x, p, y) => p == bopOf o && matchE sc a x && matchE sc b y
    | none => false
  | .neg a, ee => match asUn ee with
    | some (o, x) => o == .USub && matchE sc a x
    | none => false
  | .cmp o a b, ee => match asCmp1 ee with
    | some (x, p, y) => p == copOf o && notSet y && matchE sc a x && matchE sc b y
    | none => false
  | .chain o p a b d, ee => match asCmp2 ee with
    | some (x, q, r, y, z) => q == copOf o && r == copOf p && notSet z && (o == .le || o == .lt) && (p == .le || p == .lt) && matchE sc a x && matchE sc b y && matchE sc d z
    | none => false
  | .isN n a, ee => match asCmp1 ee with
    | some (x, p, y) => p == (if n then .IsNot else .Is) && asConst y == some .none && matchE sc a x
    | none => false
  | .and_ a b, ee => match ee with
    | .BoolOp .And (x :: y :: r) _ => matchE sc a x && (match r with
      | [] => matchE sc b y
      | _ :: _ => matchB2 sc .And b (y :: r))
    | _ => false
  | .or_ a b, ee => match ee with
    | .BoolOp .Or (x :: y :: r) _ => matchE sc a x && (match r with
      | [] => matchE sc b y
      | _ :: _ => matchB2 sc .Or b (y :: r))
    | _ => false
  | .not_ a, ee => match asUn ee with
    | some (o, x) => o == .Not && matchE sc a x
    | none => false
  | .ite t a b, ee => match asIf ee with
    | some (x, y, z) => matchE sc t x && matchE sc a y && matchE sc b z
    | none => false
  | .attr a f, ee => match asAttr ee with
    | some (x, g) => lit f == g && notSuper x && matchE sc a x
    | none => false
  | .idx a b, ee => match asSub ee with
    | some (x, y) => notSlice y && matchE sc a x && matchE sc b y
    | none => false
  | .slc a lo hi, ee => match asSub ee with
    | some (x, y) => (match asSlice y with
      | some (l, u, s) => s.isNone && matchE sc a x && (match l with
        | none => isNop lo
        | some z => !isNop lo && matchE sc lo z) && (match u with
        | none => isNop hi
        | some z => !isNop hi && matchE sc hi z)
      | none => false)
    | none => false
  | .call f es, ee => match asCall ee with
    | some (g, l) => (match asName g with
      | some y => lit f == y && glB sc y && okName y && tx.top f && matchL sc es l
      | none => false)
    | none => false
  | .callV i es, ee => match asCall ee with
    | some (g, l) => (match asName g with
      | some y => N[i]? == some y && visB sc y && okName y && !l.isEmpty && matchL sc es l
      | none => false)
    | none => false
  | .prim p es, ee => match asCall ee with
    | some (g, l) => matchB tx sc (primName p) g && !l.isEmpty && matchL sc es l
    | none => false
  | .isi a ts, ee => match asCall ee with
    | some (g, [x, t]) => matchB tx sc "isinstance" g && notStar x && notStar t && matchE sc a x && (match ts with
      | [k] => (match asName t with
        | some y => lit k == y && glB sc y && okName y && tx.bi k && (["int", "bool", "str", "tuple", "list"].contains k)
        | none => false)
      | _ => false)
    | _ => false
  | .pm m o es, ee => match asMeth ee with
    | some (x, n, l) => lit (pmName m) == n && pmOk l.length m && notSuper x && decide (l.length < 20) && matchE sc o x && matchL sc es l
    | none => false
  | .meth o m es, ee => match asMeth ee with
    | some (x, n, l) => lit m == n && notSuper x && decide (l.length < 20) && matchE sc o x && matchL sc es l
    | none => false
  | .make c i es, ee => match asCall ee with
    | some (g, l) => (match asName g with
      | some y => lit c == y && glB sc y && okName y && tx.isC c i && (tx.kwo i).isNone && matchL sc es l
      | none => false)
    | none => false
  | .makeK c i es ks kes, ee => match ee with
    | .Call g l [kw] _ => (match asName g with
      | some y => lit c == y && glB sc y && okName y && tx.isC c i && decide (tx.kwo i = some (l.length + 1, ks.map lit)) && decide (some kw.arg = (ks.map fun k => some (lit k)).head?) && decide (ks.length = 1) && matchL sc es l && matchL sc kes [kw.value]
      | none => false)
    | _ => false
  | .dict t ks vs, ee => match ee with
    | .Dict keys values _ => (match keys with
      | [] => (match ks, vs with
        | .nil, .nil => values.isEmpty
        | _, _ => false)
      | _ :: _ => !t && decide (keys.length ≤ 15) && decide (keys.length = values.length) && matchK sc ks keys && matchL sc vs values)
    | _ => false
  | .dcomp _ k v t it cd own, ee => match ee with
    | .DictComp x y [g] scope _ => g.is_async == 0 && blkC N sc scope (ownOf N own) && matchT N (isLoc (relS scope sc)) t g.target && (tgSlots t).all (fun i => own.contains i) && notSet g.iter && matchI sc it g.target g.iter
        && (match g.ifs with
          | [] => isNop cd
          | [c] => !isNop cd && matchE (relS scope sc) cd c
          | _ => false) && matchE (relS scope sc) k x && matchE (relS scope sc) v y
    | _ => false
  | .srev a, ee => match asSub ee with
    | some (x, y) => (match asSlice y with
      | some (none, none, some z) => (match z with
        | .UnaryOp .USub (.Constant (.int 1) _ _) _ => matchE sc a x
        | _ => false)
      | _ => false)
    | none => false
  | _, _ => false
/-- an expression list -/
def matchL (sc : Scope) : Ex → List Expr → Bool
  | .nil, l => l.isEmpty
  | .cons e es, l => match l with
    | x :: r => notStar x && matchE sc e x && matchL sc es r
    | [] => false
  | _, _ => false
/-- the written keys of a display -/
def matchK (sc : Scope) : Ex → List (Option Expr) → Bool
  | .nil, l => l.isEmpty
  | .cons e es, l => match l with
    | some x :: r => (match e with
      | .cst v => isKey0 v
      | _ => false) && matchE sc e x && matchK sc es r
    | _ => false
  | _, _ => false
/-- the rest of a and .., a or .. -/
def matchB2 (sc : Scope) (op : BoolOp) : Ex → List Expr → Bool
  | .and_ a b, l => match l with
    | x :: y :: r => op == .And && matchE sc a x && (match r with
      | [] => matchE sc b y
      | _ :: _ => matchB2 sc op b (y :: r))
    | _ => false
  | .or_ a b, l => match l with
    | x :: y :: r => op == .Or && matchE sc a x && (match r with
      | [] => matchE sc b y
      | _ :: _ => matchB2 sc op b (y :: r))
    | _ => false
  | _, _ => false
/-- a new list -/
def matchF (sc : Scope) : Ex → Expr → Bool
  | .fdisp es, ee => match asLst ee with
    | some l => decide (l.length ≤ 1000) && matchL sc es l
    | none => false
  | .fcomp elt t it cd own, ee => match ee with
    | .ListComp x [g] scope _ => g.is_async == 0 && blkC N sc scope (ownOf N own) && matchT N (isLoc (relS scope sc)) t g.target && (tgSlots t).all (fun i => own.contains i) && notSet g.iter && matchI sc it g.target g.iter
        && (match g.ifs with
          | [] => isNop cd
          | [c] => !isNop cd && matchE (relS scope sc) cd c
          | _ => false) && matchE (relS scope sc) elt x
    | _ => false
  | .fprim p es, ee => match ee with
    | .Call g l kws _ => (match p, l, kws with
      | .sorted, [_], [] => matchB tx sc "sorted" g && matchL sc es l
      | .list1, [_], [] => matchB tx sc "list" g && matchL sc es l
      | .sortedK0, [_], [k] => matchB tx sc "sorted" g && matchL sc es l && N.contains (lit "<lambda>") && kwK0 k
      | _, _, _ => false)
    | .BinOp x .Add y _ => (match p, es with
      | .cat, .cons a (.cons b .nil) => matchE sc a x && matchE sc b y
      | _, _ => false)
    | _ => false
  | _, _ => false
/-- what a for walks (behind its target) -/
def matchI (sc : Scope) : Ex → Expr → Expr → Bool
  | .itV a, _, ee => matchE sc a ee
  | .itRange es, _, ee => match asCall ee with
    | some (g, l) => matchB tx sc "range" g && (l.length == 1 || l.length == 2) && matchL sc es l
    | none => false
  | .itZip a b, t, ee => isTup t && (match asCall ee with
    | some (g, [x, y]) => matchB tx sc "zip" g && notStar x && notStar y && matchE sc a x && matchE sc b y
    | _ => false)
  | .itEnum a, t, ee => isTup t && (match asCall ee with
    | some (g, [x]) => matchB tx sc "enumerate" g && notStar x && matchE sc a x
    | _ => false)
  | _, _, _ => false
end
end Sim

end
section
set_option Elab.async false
set_option linter.all false
set_option maxRecDepth 100000
/-! SimD: values: what the operators of the evaluator say of the model's. -/
namespace Sim
open PySem PySem.Spec PyProof.Rows L2 Ev

theorem lit_inj {a b : String} (h : lit a = lit b) : a = b := by
  unfold lit at h
  have h1 : (a.toList.map Char.toNat).toArray = (b.toList.map Char.toNat).toArray := congrArg Str.cps h
  have h2 : a.toList.map Char.toNat = b.toList.map Char.toNat := by simpa using h1
  have h3 : a.toList = b.toList := by
    have inj : ∀ (l m : List Char), l.map Char.toNat = m.map Char.toNat → l = m := by
      intro l
      induction l with
      | nil => intro m hm; cases m with
        | nil => rfl
        | cons y ys => simp at hm
      | cons x xs ih => intro m hm; cases m with
        | nil => simp at hm
        | cons y ys =>
          simp at hm
          obtain ⟨e1, e2⟩ := hm
          have : x = y := Char.toNat_inj.mp e1
          rw [this, ih ys e2]
    exact inj _ _ h2
  exact String.toList_inj.mp h3
theorem most_line : most = sizeLine := by decide +kernel

/-! ### data -/
mutual
def toD : Val → PyData
  | .non => .none
  | .bl b => .bool b
  | .int i => .int i
  | .str s => .str s
  | .tup l => .tuple (toDs l)
  | .lst l => .list (toDs l)
  | .ktp _ => .none
  | .scr _ => .none
  | .ref _ => .none
  | .gl _ => .none
def toDs : List Val → List PyData
  | [] => []
  | x :: xs => toD x :: toDs xs
end
mutual
theorem eqv_toD : ∀ (a b : Val) (d e : Nat), isData d a = true → isData e b = true → PyData.eqv (toD a) (toD b) = eqv a b
  | a, b, d, e, ha, hb => by
    cases a <;> cases b <;> first
      | (simp [isData] at ha; done)
      | (simp [isData] at hb; done)
      | (simp only [toD, PyData.eqv, eqv]; done)
      | (rename_i l m
         cases d with
         | zero => simp [isData] at ha
         | succ d =>
           cases e with
           | zero => simp [isData] at hb
           | succ e =>
             simp only [isData] at ha hb
             simp only [toD, PyData.eqv, eqv]
             exact eqvs_toD l m d e ha hb)
theorem eqvs_toD : ∀ (a b : List Val) (d e : Nat), areData d a = true → areData e b = true → PyData.eqvAll (toDs a) (toDs b) = eqvs a b
  | [], [], _, _, _, _ => by simp [toDs, PyData.eqvAll, eqvs]
  | [], _ :: _, _, _, _, _ => by simp [toDs, PyData.eqvAll, eqvs]
  | _ :: _, [], _, _, _, _ => by simp [toDs, PyData.eqvAll, eqvs]
  | x :: xs, y :: ys, d, e, ha, hb => by
    simp only [areData, Bool.and_eq_true] at ha hb
    simp only [toDs, PyData.eqvAll, eqvs]
    rw [eqv_toD x y d e ha.1 hb.1, eqvs_toD xs ys d e ha.2 hb.2]
end
section
variable {D : Wd} {G : Hp} {ρ : List Addr} {h : EHeap} {H : Hp}
mutual
theorem dp_of (hg : ∀ a o, G a = some o → H a = some (unpin o)) : ∀ {v : Val} {u : V} {d : Nat}, isData d v = true → RV D G ρ v u → Dp D.K H u (toD v) ∧ PyData.canLay0 (toD v) = true ∧ (toD v).depth ≤ d
  | .non, _, d, hd, r => by cases r; exact ⟨.non, rfl, by simp [toD, PyData.depth]⟩
  | .bl b, _, d, hd, r => by cases r; exact ⟨.bl b, rfl, by simp [toD, PyData.depth]⟩
  | .int b, _, d, hd, r => by cases r; exact ⟨.int b, rfl, by simp [toD, PyData.depth]⟩
  | .str b, _, d, hd, r => by
    cases r with
    | str _ hl => exact ⟨.str b, by simp only [toD, PyData.canLay0]; exact hl.ok, by simp [toD, PyData.depth]⟩
  | .tup l, _, d, hd, r => by
    cases d with
    | zero => simp [isData] at hd
    | succ d =>
      simp only [isData] at hd
      cases r with
      | tup s hl q =>
        obtain ⟨h1, h2, h3⟩ := dps_of hg hd q
        exact ⟨.tup (.inl (.inl (hg _ _ s))) h1, by simpa [toD, PyData.canLay0] using h2, by simp only [toD, PyData.depth]; omega⟩
  | .lst l, _, d, hd, r => by
    cases d with
    | zero => simp [isData] at hd
    | succ d =>
      simp only [isData] at hd
      cases r with
      | lst s hl q =>
        obtain ⟨h1, h2, h3⟩ := dps_of hg hd q
        exact ⟨.lst (.inl (.inl (hg _ _ s))) h1, by simpa [toD, PyData.canLay0] using h2, by simp only [toD, PyData.depth]; omega⟩
  | .ref _, _, _, hd, _ => by simp [isData] at hd
  | .ktp _, _, _, hd, _ => by simp [isData] at hd
  | .scr _, _, _, hd, _ => by simp [isData] at hd
  | .gl _, _, _, hd, _ => by simp [isData] at hd
theorem dps_of (hg : ∀ a o, G a = some o → H a = some (unpin o)) : ∀ {v : List Val} {u : List V} {d : Nat}, areData d v = true → RVs D G ρ v u → DpAll D.K H u (toDs v) ∧ PyData.canLayAll0 (toDs v) = true ∧ PyData.depthAll (toDs v) ≤ d
  | [], _, d, hd, r => by cases r; exact ⟨.nil, rfl, by simp [toDs, PyData.depthAll]⟩
  | x :: xs, _, d, hd, r => by
    simp only [areData, Bool.and_eq_true] at hd
    cases r with
    | cons r1 r2 =>
      obtain ⟨h1, h2, h3⟩ := dp_of hg hd.1 r1
      obtain ⟨h4, h5, h6⟩ := dps_of hg hd.2 r2
      exact ⟨.cons h1 h4, by simp [toDs, PyData.canLayAll0, h2, h5], by simp only [toDs, PyData.depthAll]; omega⟩
end
/-- data, the lists of the heap read -/
theorem deep_of (x : RH D G ρ h H) {v w : Val} {u : V} (e : deep h 20 v = some w) (r : RV D G ρ v u) : isData 21 w = true ∧ Dp D.K H u (toD w) ∧ SeqAt.shaped (toD w) = true := by
  have key : ∀ {d : Nat}, isData d v = true → d ≤ 21 → w = v → isData 21 w = true ∧ Dp D.K H u (toD w) ∧ SeqAt.shaped (toD w) = true := by
    intro d hd hle ew
    subst ew
    have h21 : isData 21 w = true := by
      have mono : ∀ (d e : Nat), d ≤ e → ∀ z, isData d z = true → isData e z = true := by
        intro d
        induction d with
        | zero => intro e _ z hz; cases z <;> simp [isData] at hz ⊢
        | succ d ih =>
          intro e he z hz
          cases e with
          | zero => omega
          | succ e =>
            have all : ∀ l, areData d l = true → areData e l = true := by
              intro l
              induction l with
              | nil => simp [areData]
              | cons y ys ihl =>
                simp only [areData, Bool.and_eq_true]
                exact fun q => ⟨ih e (by omega) y q.1, ihl q.2⟩
            cases z <;> simp [isData] at hz ⊢ <;> exact all _ hz
      exact mono d 21 hle w hd
    obtain ⟨a, b, c⟩ := dp_of x.sub h21 r
    exact ⟨h21, a, by unfold SeqAt.shaped; simp [b]; omega⟩
  cases v with
  | ref n =>
    simp only [deep] at e
    cases q : h[n]? with
    | none => rw [q] at e; cases e
    | some o =>
      rw [q] at e
      cases o with
      | list l =>
        simp only at e
        split at e
        · rename_i hd
          cases e
          cases r with
          | ref hr =>
            obtain ⟨u, h1, h2⟩ := x.obj n _ _ hr q
            cases h2 with
            | list r2 hl =>
              obtain ⟨a, b, c⟩ := dps_of x.sub hd r2
              refine ⟨?_, .lst (.inl (.inl h1)) a, ?_⟩
              · show areData 20 l = true
                have : ∀ l : List Val, areData 19 l = true → areData 20 l = true := by
                  intro l
                  have mono : ∀ (d e : Nat), d ≤ e → ∀ z, isData d z = true → isData e z = true := by
                    intro d
                    induction d with
                    | zero => intro e _ z hz; cases z <;> simp [isData] at hz ⊢
                    | succ d ih =>
                      intro e he z hz
                      cases e with
                      | zero => omega
                      | succ e =>
                        have all : ∀ l, areData d l = true → areData e l = true := by
                          intro l
                          induction l with
                          | nil => simp [areData]
                          | cons y ys ihl =>
                            simp only [areData, Bool.and_eq_true]
                            exact fun q => ⟨ih e (by omega) y q.1, ihl q.2⟩
                        cases z <;> simp [isData] at hz ⊢ <;> exact all _ hz
                  induction l with
                  | nil => simp [areData]
                  | cons y ys ihl =>
                    simp only [areData, Bool.and_eq_true]
                    exact fun q => ⟨mono 19 20 (by omega) y q.1, ihl q.2⟩
                exact this l hd
              · unfold SeqAt.shaped
                simp [toD, PyData.canLay0, b, PyData.depth]
                omega
        · cases e
      | dict t l => cases e
      | inst c f => cases e
  | _ =>
    simp only [deep] at e
    split at e
    · rename_i hd
      cases e
      exact key hd (by omega) rfl
    · cases e
end
end Sim

end
section
set_option Elab.async false
set_option linter.all false
set_option maxRecDepth 100000
/-! SimE: expressions. -/
namespace Sim
open PySem PySem.Spec PyProof.Rows L2 Ev

/-- the context of a body that runs at n + 1 -/
abbrev cx (D : Wd) (n : Nat) : ECtx := D.cfg.ctx (run D.cfg n)
abbrev txOf (D : Wd) : Tx := ⟨D.top, D.bi, D.isC, D.kwo⟩
/-- what is known of the world -/
structure Stat (D : Wd) : Prop where
  glob : ∀ x v, D.cfg.glob x = some v → ∃ u V, D.mg (lit x) = some u ∧ RelV V u ∧ ∀ G ρ, RV D G ρ v V
  bi : ∀ x, D.bi x = true → D.mg (lit x) = none
  top : ∀ f, D.top f = true → D.cfg.plain f = true ∧ D.mg (lit f) = some (.ref (D.fadr f)) ∧ PySem.W.keepIn D.K (.ref (D.fadr f)) = true ∧ D.adr f = D.fadr f
  bind : ∀ f d, D.cfg.fn f = some d → D.cfg.plain f = true → Binds D.K (D.fdat f) (D.fps f) []
  plain : ∀ f, D.cfg.plain f = true → ∃ d, D.cfg.fn f = some d
  fld : ∀ C f, D.cfg.fld C f = true → Cls D.K (D.adr C) ∧ NoAttr D.K (D.adr C) (lit f)
  tops : ∀ f, D.cfg.tops f = true → D.top f = true
  meth : ∀ C m key, D.cfg.meth C m = some key → D.cfg.plain key = true ∧ Cls D.K (D.adr C) ∧ Meth D.K (D.adr C) (lit m) (D.fadr key)
  mkr : ∀ C i, D.isC C i = true → D.mg (lit C) = some (.ref (D.adr C)) ∧ Mk D.K (D.adr C) (D.fadr i) ∧ ∃ d, D.cfg.fn i = some d
  kwb : ∀ f m ks, D.kwo f = some (m, ks) → m + ks.length = (D.fps f).length ∧ ∀ (us ws : List Value), us.length = m → ws.length = ks.length → bindArgs (D.fdat f) ⟨us, ks.zip ws⟩ = pure ((D.fps f).zip (us ++ ws))
  mkb : ∀ C i, D.isC C i = true → D.cfg.plain i = true ∨ ∃ q, D.kwo i = some q
/-- the tables of the top, by texts -/
structure Tab (D : Wd) : Prop where
  tab : ∀ g t, D.cfg.tabs g = some t → ∃ es m, KDict D.K D.w (D.adr g) es m ∧ (∀ z : Str, (t.lookup z = none → PySem.W.nsIn D.K (D.adr g) z = some none) ∧
    ∀ v, t.lookup z = some v → ∃ u V, PySem.W.nsIn D.K (D.adr g) z = some (some u) ∧ RelV V u ∧ ∀ G ρ, RV D G ρ v V)
/-- the defs at n keep what they promise -/
def FnsOk (D : Wd) (n k : Nat) : Prop := ∀ f d, D.cfg.fn f = some d → FnOk D.P D.w D.K D.mg D.base (L2.CX D.P D.w) k (D.fadr f) (D.fdat f) (D.fps f) (spF D n f)

def SimE (D : Wd) (n k : Nat) (e : Ex) : Prop := ∀ E N sc X ee, XOk D E k N sc X → matchE (txOf D) N sc e ee = true → PE X ee (tE D E (cx D n) e)
def SimT (D : Wd) (n k : Nat) (e : Ex) : Prop := ∀ E N sc X ee, XOk D E k N sc X → matchE (txOf D) N sc e ee = true → PT X ee (tT D E (cx D n) e)
def SimL (D : Wd) (n k : Nat) (e : Ex) : Prop := ∀ E N sc X l, XOk D E k N sc X → matchL (txOf D) N sc e l = true → PA X l (tA D E (cx D n) e)

section
variable {D : Wd} {n k : Nat} {E : XK} {N : List Str} {sc : Scope} {X : Cx} {ee : Expr}

theorem REnv.at_ {G : Hp} {ρ : List Addr} {env : EEnv} {σ : L2.St} (re : REnv D G ρ env σ) {i : Nat} {v : Val} (e : env[i]?.getD none = some v) : ∃ x, σ[i]? = some (some x) ∧ RV D G ρ v x := by
  refine re.get i v ?_
  cases q : env[i]? with
  | none => rw [q] at e; cases e
  | some o => rw [q] at e; exact congrArg some e

/-- a value that is known -/
theorem tE_const {m : EEnv → M Val} {V : V} (f : ∀ (G : Hp) (ρ : List Addr) (env : EEnv) (h : EHeap) (σ : L2.St) (Q : VK) (H : Hp), RH D G ρ h H → REnv D G ρ env σ → OkV D E G ρ (m env h) Q → Q V H) (σ : L2.St) (H : Hp) (Q : VK)
    (q : tG D E (relV D) m σ H Q) : tC V σ H Q := by
  obtain ⟨G, ρ, env, h, x, re, q⟩ := q
  exact f G ρ env h σ Q H x re q

theorem sim_var (i : Nat) : SimE D n k (.var i) := by
  intro E N sc X ee hX hm
  simp only [matchE] at hm
  split at hm
  · rename_i x hx
    obtain ⟨p, rfl⟩ := asName_eq hx
    simp only [Bool.and_eq_true, beq_iff_eq] at hm
    refine PE.imp (pe_var (i := i) (by rw [hX.hN]; exact hm.1.1) (by rw [hX.hsc]; exact visB_ok hm.1.2) (okName_d hm.2) (okName_c hm.2)) fun σ H Q q => ?_
    obtain ⟨G, ρ, env, h, x, re, q⟩ := q
    have e1 : evE (cx D n) (.var i) env h = ofOpt (env[i]?.getD none) h := rfl
    rw [e1] at q
    cases hq : env[i]?.getD none with
    | none => rw [hq] at q; exact q.elim
    | some v =>
      rw [hq] at q
      obtain ⟨y, h1, h2⟩ := re.at_ hq
      exact ⟨y, h1, q G ρ H y Ext.refl x h2⟩
  · cases hm
theorem sim_cst (v : Val) : SimE D n k (.cst v) := by
  intro E N sc X ee hX hm
  simp only [matchE] at hm
  split at hm
  · rename_i c hc
    obtain ⟨j, p, rfl⟩ := asConst_eq hc
    split at hm
    · exact PE.imp pe_non (tE_const fun G ρ env h σ Q H x re q => q G ρ H _ Ext.refl x .non)
    · rename_i b b'
      have e : b = b' := by simpa using hm
      subst e
      exact PE.imp pe_bl (tE_const fun G ρ env h σ Q H x re q => q G ρ H _ Ext.refl x (.bl _))
    · rename_i b b'
      have e : b = b' := by simpa using hm
      subst e
      exact PE.imp pe_int (tE_const fun G ρ env h σ Q H x re q => q G ρ H _ Ext.refl x (.int _))
    · rename_i b b'
      simp only [Bool.and_eq_true, beq_iff_eq, decide_eq_true_eq] at hm
      obtain ⟨⟨e, h1⟩, h2⟩ := hm
      subst e
      exact PE.imp pe_str (tE_const fun G ρ env h σ Q H x re q => q G ρ H _ Ext.refl x (.str _ ⟨h1, h2⟩))
    · cases hm
  · cases hm
theorem sim_glob (S : Stat D) (x : String) : SimE D n k (.glob x) := by
  intro E N sc X ee hX hm
  simp only [matchE] at hm
  split at hm
  · rename_i y hy
    obtain ⟨p, rfl⟩ := asName_eq hy
    simp only [Bool.and_eq_true, beq_iff_eq] at hm
    obtain ⟨⟨e, h1⟩, h2⟩ := hm
    subst e
    cases hg : D.cfg.glob x with
    | none =>
      refine ⟨fun pins s σ H Q I q => ?_⟩
      obtain ⟨G, ρ, env, h, x', re, q⟩ := q
      have e1 : evE (cx D n) (.glob x) env h = ofOpt (D.cfg.glob x) h := rfl
      rw [e1, hg] at q
      exact q.elim
    | some v =>
      obtain ⟨u, V, hu, hr, hv⟩ := S.glob x v hg
      refine PE.imp (pe_glob (v := V) (u := u) (by show X.env.scope.names.lookup (lit x) = _; rw [hX.hsc]; exact glB_ok h1) (by rw [hX.hmg]; exact hu) hr (okName_d h2)) (tE_const fun G ρ env h σ Q H x' re q => ?_)
      have e1 : evE (cx D n) (.glob x) env h = ofOpt (D.cfg.glob x) h := rfl
      rw [e1, hg] at q
      exact q G ρ H V Ext.refl x' (hv G ρ)
  · cases hm

/-! ### lists of expressions -/
theorem sim_nil : SimL D n k .nil := by
  intro E N sc X l hX hm
  simp only [matchL, List.isEmpty_iff] at hm
  subst hm
  refine PA.imp pa_nil fun σ H Q q => ?_
  obtain ⟨G, ρ, env, h, x, re, q⟩ := q
  exact q G ρ H [] Ext.refl x .nil
theorem sim_cons {e es : Ex} (ha : SimE D n k e) (hr : SimL D n k es) : SimL D n k (.cons e es) := by
  intro E N sc X l hX hm
  simp only [matchL] at hm
  split at hm
  · rename_i x r
    simp only [Bool.and_eq_true] at hm
    obtain ⟨⟨h1, h2⟩, h3⟩ := hm
    refine PA.imp (pa_cons (ha E N sc X x hX h2) (hr E N sc X r hX h3) (star_of h1 _ _)) fun σ H Q q => ?_
    obtain ⟨G, ρ, env, h, x, re, q⟩ := q
    refine tG_bind x re q fun G1 ρ1 H1 y v h1 e1 x1 r1 q1 => ?_
    refine tG_bind x1 (re.mono e1) q1 fun G2 ρ2 H2 ys vs h2 e2 x2 r2 q2 => ?_
    exact q2 G2 ρ2 H2 _ Ext.refl x2 (.cons (r1.mono e2) r2)
  · cases hm
theorem evL_len (c : ECtx) : ∀ (e : Ex) (env : EEnv) (h h' : EHeap) (vs : List Val) (l : List Expr) (tx : Tx) (N : List Str) (sc : Scope), matchL tx N sc e l = true → evL c e env h = .ok vs h' → vs.length = l.length := by
  intro e
  induction e with
  | nil =>
    intro env h h' vs l tx N sc hm he
    simp only [matchL, List.isEmpty_iff] at hm
    subst hm
    have e1 : evL c .nil env h = .ok [] h := rfl
    rw [e1] at he
    cases he
    rfl
  | cons a b iha ihb =>
    intro env h h' vs l tx N sc hm he
    simp only [matchL] at hm
    split at hm
    · rename_i x r
      simp only [Bool.and_eq_true] at hm
      have e1 : evL c (.cons a b) env h = (evE c a env h).bind fun v h1 => (evL c b env h1).bind fun vs h2 => .ok (v :: vs) h2 := rfl
      rw [e1] at he
      cases q : evE c a env h with
      | ok v h1 =>
        rw [q] at he
        simp only [R.bind_ok] at he
        cases q2 : evL c b env h1 with
        | ok ws h2 =>
          rw [q2] at he
          simp only [R.bind_ok] at he
          cases he
          simp [ihb env h1 _ ws r tx N sc hm.2 q2]
        | exc _ _ _ => rw [q2] at he; cases he
        | no => rw [q2] at he; cases he
      | exc _ _ _ => rw [q] at he; cases he
      | no => rw [q] at he; cases he
    · cases hm
  | _ => intro env h h' vs l tx N sc hm he; simp [matchL] at hm

/-! ### tuples, new lists -/
theorem thousand : ∀ {m : Nat}, m ≤ 1000 → m ≤ sizeLine := fun h => Nat.le_trans h (by decide +kernel)
theorem thousand' : ∀ {m : Nat}, m ≤ 1000 → m ≤ most := fun h => Nat.le_trans h (by decide +kernel)
theorem sim_tup {es : Ex} (hes : SimL D n k es) : SimE D n k (.tup es) := by
  intro E N sc X ee hX hm
  simp only [matchE] at hm
  split at hm
  · rename_i l hl
    obtain ⟨j, p, rfl⟩ := asTup_eq hl
    simp only [Bool.and_eq_true, decide_eq_true_eq] at hm
    refine PE.imp (pe_tup (hes E N sc X l hX hm.2)) fun σ H Q q => ?_
    obtain ⟨G, ρ, env, h, x, re, q⟩ := q
    cases qe : evL (cx D n) es env h with
    | ok vs0 h0 =>
      have hlen := evL_len (cx D n) es env h h0 vs0 l (txOf D) N sc hm.2 qe
      refine ⟨G, ρ, env, h, x, re, ?_⟩
      show OkG D E (relL D) G ρ (evL (cx D n) es env h) _
      have q' : OkV D E G ρ ((evL (cx D n) es env h).bind fun vs h2 => .ok (.tup vs) h2) Q := q
      rw [qe] at q' ⊢
      intro G1 ρ1 H1 ys e1 x1 r1
      have hys : ys.length ≤ 1000 := by rw [r1.length, hlen]; exact hm.1
      refine ⟨thousand hys, fun p np => ?_⟩
      obtain ⟨x2, e2⟩ := x1.freeze (o := .tup ys) np
      exact q' _ _ _ _ (e1.trans e2) x2 (.tup upd_same (by rw [hlen]; exact thousand' hm.1) (r1.mono e2))
    | exc c fs h0 =>
      refine ⟨G, ρ, env, h, x, re, ?_⟩
      show OkG D E (relL D) G ρ (evL (cx D n) es env h) _
      have q' : OkV D E G ρ ((evL (cx D n) es env h).bind fun vs h2 => .ok (.tup vs) h2) Q := q
      rw [qe] at q' ⊢
      exact q'
    | no =>
      have q' : OkV D E G ρ ((evL (cx D n) es env h).bind fun vs h2 => .ok (.tup vs) h2) Q := q
      rw [qe] at q'
      exact q'.elim
  · cases hm
/-- a new list is laid: what is wanted of it -/
def tF (D : Wd) (E : XK) (m : EEnv → M (List Val)) : TE := fun σ H Q => ∃ G ρ env h, RH D G ρ h H ∧ REnv D G ρ env σ ∧ (match m env h with
  | .ok vs h' => ∀ G' ρ' H' ys p, Ext G ρ G' ρ' → RH D G' ρ' h' H' → RVs D G' ρ' vs ys → vs.length ≤ most → H' p = none → Q (.ref p) (upd H' p (.lst ys))
  | .exc c fs h' => Exc D E G ρ c fs h'
  | .no => False)
def SimF (D : Wd) (n k : Nat) (e : Ex) : Prop := ∀ E N sc X ee, XOk D E k N sc X → matchF (txOf D) N sc e ee = true → PE X ee (tF D E (evL (cx D n) e))
theorem sim_fz {f : Ex} (hf : SimF D n k f) : SimE D n k (.fz f) := by
  intro E N sc X ee hX hm
  simp only [matchE] at hm
  refine PE.imp (hf E N sc X ee hX hm) fun σ H Q q => ?_
  obtain ⟨G, ρ, env, h, x, re, q⟩ := q
  refine ⟨G, ρ, env, h, x, re, ?_⟩
  have q' : OkV D E G ρ ((evL (cx D n) f env h).bind fun vs h2 => .ok (.lst vs) h2) Q := q
  cases qe : evL (cx D n) f env h with
  | ok vs h0 =>
    rw [qe] at q'
    intro G1 ρ1 H1 ys p e1 x1 r1 hl np
    obtain ⟨x2, e2⟩ := x1.freeze (o := .lst ys) np
    exact q' _ _ _ _ (e1.trans e2) x2 (.lst upd_same hl (r1.mono e2))
  | exc c fs h0 => rw [qe] at q'; exact q'
  | no => rw [qe] at q'; exact q'
theorem sim_bx {f : Ex} (hf : SimF D n k f) : SimE D n k (.bx f) := by
  intro E N sc X ee hX hm
  simp only [matchE] at hm
  refine PE.imp (hf E N sc X ee hX hm) fun σ H Q q => ?_
  obtain ⟨G, ρ, env, h, x, re, q⟩ := q
  refine ⟨G, ρ, env, h, x, re, ?_⟩
  have q' : OkV D E G ρ ((evL (cx D n) f env h).bind fun vs h2 => alloc (.list vs) h2) Q := q
  cases qe : evL (cx D n) f env h with
  | ok vs h0 =>
    rw [qe] at q'
    intro G1 ρ1 H1 ys p e1 x1 r1 hl np
    have e0 : Ext G1 ρ1 G1 (ρ1 ++ [p]) := ⟨fun _ _ h => h, List.prefix_append _ _⟩
    obtain ⟨x2, e2⟩ := x1.alloc (o := .list vs) (u := .lst ys) np (.list (r1.mono e0) hl)
    refine q' _ _ _ _ (e1.trans e2) x2 (.ref ?_)
    rw [← x1.len]
    simp
  | exc c fs h0 => rw [qe] at q'; exact q'
  | no => rw [qe] at q'; exact q'
theorem sim_fdisp {es : Ex} (hes : SimL D n k es) : SimF D n k (.fdisp es) := by
  intro E N sc X ee hX hm
  simp only [matchF] at hm
  split at hm
  · rename_i l hl
    obtain ⟨p, rfl⟩ := asLst_eq hl
    simp only [Bool.and_eq_true, decide_eq_true_eq] at hm
    refine PE.imp (pe_lst (hes E N sc X l hX hm.2)) fun σ H Q q => ?_
    obtain ⟨G, ρ, env, h, x, re, q⟩ := q
    refine ⟨G, ρ, env, h, x, re, ?_⟩
    have e1 : evL (cx D n) (.fdisp es) env h = evL (cx D n) es env h := rfl
    rw [e1] at q
    show OkG D E (relL D) G ρ (evL (cx D n) es env h) _
    cases qe : evL (cx D n) es env h with
    | ok vs0 h0 =>
      have hlen := evL_len (cx D n) es env h h0 vs0 l (txOf D) N sc hm.2 qe
      rw [qe] at q
      intro G1 ρ1 H1 ys e1 x1 r1
      have hys : ys.length ≤ 1000 := by rw [r1.length, hlen]; exact hm.1
      exact ⟨thousand hys, fun p np => q G1 ρ1 H1 ys p e1 x1 r1 (by rw [hlen]; exact thousand' hm.1) np⟩
    | exc c fs h0 => rw [qe] at q; exact q
    | no => rw [qe] at q; exact q
  · cases hm
end
end Sim

end
section
set_option Elab.async false
set_option linter.all false
set_option maxRecDepth 100000
/-! SimF: operators, comparisons, tests. -/
namespace Sim
open PySem PySem.Spec PyProof.Rows L2 Ev

section
variable {D : Wd} {n k : Nat} {E : XK} {N : List Str} {sc : Scope} {X : Cx} {ee : Expr} {G : Hp} {ρ : List Addr} {h : EHeap} {H : Hp}

theorem sOk_app {a b : Str} (ha : sOk a) (hb : sOk b) (hl : a.length + b.length ≤ most) : sOk (a ++ b) := by
  obtain ⟨a⟩ := a
  obtain ⟨b⟩ := b
  have e : (({ cps := a } : Str) ++ ({ cps := b } : Str)) = ({ cps := a ++ b } : Str) := rfl
  rw [e]
  refine ⟨?_, ?_⟩
  · show (a ++ b).size ≤ most
    rw [Array.size_append]
    exact hl
  · have h1 := ha.ok
    have h2 := hb.ok
    unfold PyData.strOk at h1 h2 ⊢
    simp only [Array.all_append, Bool.and_eq_true]
    exact ⟨h1, h2⟩
theorem small_ok {i : Int} (h : small i = true) : -(2 ^ 64) < i ∧ i < 2 ^ 64 := by
  unfold small at h
  simp only [decide_eq_true_eq] at h
  omega

/-- an operator on values: its rule is met where the evaluator gives a result -/
def OpSim (D : Wd) (E : XK) (f : Val → Val → M Val) (r : R2) : Prop := ∀ G ρ h H x y X Y Q, RH D G ρ h H → RV D G ρ x X → RV D G ρ y Y → OkV D E G ρ (f x y h) Q → r X Y H Q
theorem sim_op {a b : Ex} {x y : Expr} {op : Operator} {r : R2} {f : Val → Val → M Val} {pos : Pos} (ho : OpR X (binaryOp op) r) (hs : OpSim D E f r) (hx : PE X x (tE D E (cx D n) a)) (hy : PE X y (tE D E (cx D n) b)) :
    PE X (.BinOp x op y pos) (tG D E (relV D) fun env => do f (← evE (cx D n) a env) (← evE (cx D n) b env)) := by
  refine PE.imp (pe_op ho hx hy) fun σ H Q q => ?_
  obtain ⟨G, ρ, env, h, x, re, q⟩ := q
  refine tG_bind x re q fun G1 ρ1 H1 y v h1 e1 x1 r1 q1 => ?_
  refine tG_bind x1 (re.mono e1) q1 fun G2 ρ2 H2 z w h2 e2 x2 r2 q2 => ?_
  exact hs G2 ρ2 h2 H2 v w y z Q x2 (r1.mono e2) r2 q2

theorem add_sim : OpSim D E addV (fun x y H Q => (rI0 (fun i j => .int (i + j)) x y H Q ∨ (∃ i j, x = .str i ∧ y = .str j ∧ i.length + j.length ≤ sizeLine ∧ Q (.str (i ++ j)) H)) ∨ rCatA D.K x y H Q) := by
  intro G ρ h H x y X Y Q xh rx ry q
  cases rx with
  | int i =>
    cases ry with
    | int j => exact .inl (.inl ⟨i, j, rfl, rfl, q G ρ H _ Ext.refl xh (.int _)⟩)
    | _ => exact q.elim
  | str i hi =>
    cases ry with
    | str j hj =>
      have q' : OkV D E G ρ ((guardM (decide (i.length + j.length ≤ most)) h).bind fun _ h2 => .ok (.str (i ++ j)) h2) Q := q
      rw [guard_at] at q'
      split at q'
      · rename_i hl
        have hl' := of_decide_eq_true hl
        exact .inl (.inr ⟨i, j, rfl, rfl, by rw [← most_line]; exact hl', q' G ρ H _ Ext.refl xh (.str _ (sOk_app hi hj hl'))⟩)
      · exact q'.elim
    | _ => exact q.elim
  | tup s hl rs =>
    rename_i a l us
    cases ry with
    | tup t hm rt =>
      rename_i b m ws
      have q' : OkV D E G ρ ((guardM (decide (l.length + m.length ≤ most)) h).bind fun _ h2 => .ok (.tup (l ++ m)) h2) Q := q
      rw [guard_at] at q'
      split at q'
      · rename_i hlm
        have hl' := of_decide_eq_true hlm
        have e1 := rs.length
        have e2 := rt.length
        refine .inr ⟨a, b, us, ws, rfl, rfl, .inl (.inl (xh.sub _ _ s)), .inl (.inl (xh.sub _ _ t)), by rw [e1, e2, ← most_line]; exact hl', fun eu => ?_, fun _ ew => ?_, fun _ _ p np => ?_⟩
        · rw [eu] at rs
          cases rs
          exact q' G ρ H _ Ext.refl xh (.tup t hm rt)
        · rw [ew] at rt
          cases rt
          rw [List.append_nil] at q'
          exact q' G ρ H _ Ext.refl xh (.tup s hl rs)
        · obtain ⟨x2, e⟩ := xh.freeze (o := .tup (us ++ ws)) np
          exact q' _ _ _ _ e x2 (.tup upd_same (by rw [List.length_append]; exact hl') ((rs.append rt).mono e))
      · exact q'.elim
    | _ => exact q.elim
  | _ => cases ry <;> exact q.elim
theorem sub_sim : OpSim D E (binV .sub) (rI0 fun i j => .int (i - j)) := by
  intro G ρ h H x y X Y Q xh rx ry q
  cases rx with
  | int i =>
    cases ry with
    | int j => exact ⟨i, j, rfl, rfl, q G ρ H _ Ext.refl xh (.int _)⟩
    | _ => exact q.elim
  | _ => cases ry <;> exact q.elim
theorem mul_sim : OpSim D E (binV .mul) (rI CMul fun i j => .int (i * j)) := by
  intro G ρ h H x y X Y Q xh rx ry q
  cases rx with
  | int i =>
    cases ry with
    | int j =>
      have q' : OkV D E G ρ ((guardM (small i || small j) h).bind fun _ h2 => .ok (.int (i * j)) h2) Q := q
      rw [guard_at] at q'
      split at q'
      · rename_i hs
        refine ⟨i, j, rfl, rfl, ?_, q' G ρ H _ Ext.refl xh (.int _)⟩
        rcases Bool.or_eq_true_iff.mp hs with z | z
        · exact .inl (small_ok z)
        · exact .inr (small_ok z)
      · exact q'.elim
    | _ => exact q.elim
  | _ => cases ry <;> exact q.elim
theorem fdiv_sim : OpSim D E (binV .fdiv) (rI CDiv fun i j => .int (i / j)) := by
  intro G ρ h H x y X Y Q xh rx ry q
  cases rx with
  | int i =>
    cases ry with
    | int j =>
      have q' : OkV D E G ρ ((guardM (decide (0 < j ∧ j < 1073741824)) h).bind fun _ h2 => .ok (.int (i / j)) h2) Q := q
      rw [guard_at] at q'
      split at q'
      · rename_i hs
        have hs' := of_decide_eq_true hs
        exact ⟨i, j, rfl, rfl, hs', q' G ρ H _ Ext.refl xh (.int _)⟩
      · exact q'.elim
    | _ => exact q.elim
  | _ => cases ry <;> exact q.elim
theorem mod_sim : OpSim D E (binV .mod) (rI (fun _ j => 0 < j) fun i j => .int (i % j)) := by
  intro G ρ h H x y X Y Q xh rx ry q
  cases rx with
  | int i =>
    cases ry with
    | int j =>
      have q' : OkV D E G ρ ((guardM (decide (0 < j)) h).bind fun _ h2 => .ok (.int (i % j)) h2) Q := q
      rw [guard_at] at q'
      split at q'
      · rename_i hs
        have hs' := of_decide_eq_true hs
        exact ⟨i, j, rfl, rfl, hs', q' G ρ H _ Ext.refl xh (.int _)⟩
      · exact q'.elim
    | _ => exact q.elim
  | _ => cases ry <;> exact q.elim
theorem pow_sim : OpSim D E (binV .pow) (rI CPow fun i j => .int (i ^ j.toNat)) := by
  intro G ρ h H x y X Y Q xh rx ry q
  cases rx with
  | int i =>
    cases ry with
    | int j =>
      have q' : OkV D E G ρ ((guardM (decide (0 ≤ j ∧ j ≤ 1000000) && small i) h).bind fun _ h2 => .ok (.int (i ^ j.toNat)) h2) Q := q
      rw [guard_at] at q'
      split at q'
      · rename_i hs
        obtain ⟨h1, h2⟩ := Bool.and_eq_true_iff.mp hs
        have h1' := of_decide_eq_true h1
        have h3 : i.natAbs < 2 ^ 64 := by
          unfold small at h2
          have := of_decide_eq_true h2
          omega
        exact ⟨i, j, rfl, rfl, ⟨h1'.1, h1'.2, h3⟩, q' G ρ H _ Ext.refl xh (.int _)⟩
      · exact q'.elim
    | _ => exact q.elim
  | _ => cases ry <;> exact q.elim
theorem sim_bin (o : BOp) {a b : Ex} (ha : SimE D n k a) (hb : SimE D n k b) : SimE D n k (.bin o a b) := by
  intro E N sc X ee hX hm
  simp only [matchE] at hm
  split at hm
  · rename_i x p y hxy
    obtain ⟨pos, rfl⟩ := asBin_eq hxy
    simp only [Bool.and_eq_true, beq_iff_eq] at hm
    obtain ⟨⟨ep, hx⟩, hy⟩ := hm
    subst ep
    have px := ha E N sc X x hX hx
    have py := hb E N sc X y hX hy
    have hK := hX.hK
    cases o with
    | add => exact sim_op (X := X) (op := .Add) ((op_add.or op_add_str).or op_catA) (by rw [hK]; exact add_sim) px py
    | sub => exact sim_op (X := X) (op := .Sub) op_sub sub_sim px py
    | mul => exact sim_op (X := X) (op := .Mult) op_mul mul_sim px py
    | fdiv => exact sim_op (X := X) (op := .FloorDiv) op_fdiv fdiv_sim px py
    | mod => exact sim_op (X := X) (op := .Mod) op_mod mod_sim px py
    | pow => exact sim_op (X := X) (op := .Pow) op_pow pow_sim px py
  · cases hm
theorem sim_neg {a : Ex} (ha : SimE D n k a) : SimE D n k (.neg a) := by
  intro E N sc X ee hX hm
  simp only [matchE] at hm
  split at hm
  · rename_i o x hxy
    obtain ⟨pos, rfl⟩ := asUn_eq hxy
    simp only [Bool.and_eq_true, beq_iff_eq] at hm
    obtain ⟨ep, hx⟩ := hm
    subst ep
    refine PE.imp (pe_un un_neg (ha E N sc X x hX hx)) fun σ H Q q => ?_
    obtain ⟨G, ρ, env, h, x, re, q⟩ := q
    refine tG_bind x re q fun G1 ρ1 H1 y v h1 e1 x1 r1 q1 => ?_
    cases r1 with
    | int i => exact ⟨i, rfl, q1 G1 ρ1 H1 _ Ext.refl x1 (.int _)⟩
    | _ => exact q1.elim
  · cases hm

/-! ### comparisons -/
/-- a comparison on values -/
def CmpSim (D : Wd) (E : XK) (f : Val → Val → M Bool) (r : R2) : Prop := ∀ G ρ h H x y X Y (Q : VK), RH D G ρ h H → RV D G ρ x X → RV D G ρ y Y → OkG D E relI G ρ (f x y h) (fun b H => Q (.bl b) H) → r X Y H Q
theorem pc_op {x y : Expr} {op : CmpOp} {r : R2} {tx ty : TE} (ho : OpR X (compareOp op) r) (hx : PE X x tx) (hy : PE X y ty) : PC X op x y (tOp r tx ty) :=
  ⟨fun pins s σ H Q I h => binT hx hy I h fun v u s2 x y H2 I2 rx ry q => ho pins s2 σ H2 x y v u Q I2 rx ry q⟩
theorem PC.imp {x y : Expr} {op : CmpOp} {t t' : TE} (h : PC X op x y t) (f : ∀ σ H Q, t' σ H Q → t σ H Q) : PC X op x y t' := ⟨fun pins s σ H Q I q => h.run pins s σ H Q I (f σ H Q q)⟩
/-- the rule by what the evaluator finds -/
theorem PC.cases {x y : Expr} {op : CmpOp} {t : TE} (f : ∀ σ H Q, t σ H Q → ∃ t', PC X op x y t' ∧ t' σ H Q) : PC X op x y t := ⟨fun pins s σ H Q I q => let ⟨_, a, b⟩ := f σ H Q q; a.run pins s σ H Q I b⟩
theorem PE.cases {x : Expr} {t : TE} (f : ∀ σ H Q, t σ H Q → ∃ t', PE X x t' ∧ t' σ H Q) : PE X x t := ⟨fun pins s σ H Q I q => let ⟨_, a, b⟩ := f σ H Q q; a.run pins s σ H Q I b⟩
theorem PT.cases {x : Expr} {t : TT} (f : ∀ σ H Q, t σ H Q → ∃ t', PT X x t' ∧ t' σ H Q) : PT X x t := ⟨fun pins s σ H Q I q => let ⟨_, a, b⟩ := f σ H Q q; a.run pins s σ H Q I b⟩
/-- a comparison as the evaluator has it -/
abbrev mCmp (D : Wd) (n : Nat) (f : Val → Val → M Bool) (a b : Ex) : EEnv → M Val := fun env => do return .bl (← f (← evE (cx D n) a env) (← evE (cx D n) b env))
theorem cmp_of {a b : Ex} {r : R2} {f : Val → Val → M Bool} (hs : CmpSim D E f r) {σ : L2.St} {H : Hp} {Q : VK} (q : tG D E (relV D) (mCmp D n f a b) σ H Q) : tOp r (tE D E (cx D n) a) (tE D E (cx D n) b) σ H Q := by
  obtain ⟨G, ρ, env, h, x, re, q⟩ := q
  refine tG_bind x re q fun G1 ρ1 H1 y v h1 e1 x1 r1 q1 => ?_
  refine tG_bind x1 (re.mono e1) q1 fun G2 ρ2 H2 z w h2 e2 x2 r2 q2 => ?_
  refine hs G2 ρ2 h2 H2 v w y z Q x2 (r1.mono e2) r2 ?_
  have q3 : OkV D E G2 ρ2 ((f v w h2).bind fun b h3 => .ok (.bl b) h3) Q := q2
  cases qf : f v w h2 with
  | ok b h3 =>
    rw [qf] at q3
    intro G3 ρ3 H3 b' e3 x3 eb
    have eb' : b = b' := eb
    subst eb'
    exact q3 G3 ρ3 H3 _ e3 x3 (.bl _)
  | exc c fs h3 => rw [qf] at q3; exact q3
  | no => rw [qf] at q3; exact q3
theorem sim_cmpop {a b : Ex} {x y : Expr} {op : CmpOp} {r : R2} {f : Val → Val → M Bool} (ho : OpR X (compareOp op) r) (hs : CmpSim D E f r) (hx : PE X x (tE D E (cx D n) a)) (hy : PE X y (tE D E (cx D n) b)) :
    PC X op x y (tG D E (relV D) (mCmp D n f a b)) := PC.imp (pc_op ho hx hy) fun σ H Q q => cmp_of hs q
theorem eq_sim : CmpSim D E eqM (rEqD D.K) := by
  intro G ρ h H x y X Y Q xh rx ry q
  unfold eqM at q
  cases q1 : deep h 20 x with
  | none => rw [q1] at q; exact q.elim
  | some v =>
    cases q2 : deep h 20 y with
    | none => rw [q1, q2] at q; exact q.elim
    | some w =>
      rw [q1, q2] at q
      obtain ⟨a1, a2, a3⟩ := deep_of xh q1 rx
      obtain ⟨b1, b2, b3⟩ := deep_of xh q2 ry
      refine ⟨_, _, a2, b2, a3, b3, ?_⟩
      rw [eqv_toD v w 21 21 a1 b1]
      exact q G ρ H _ Ext.refl xh rfl
theorem ne_sim : CmpSim D E (fun x y => do return !(← eqM x y)) (rNeD D.K) := by
  intro G ρ h H x y X Y Q xh rx ry q
  have q' : OkG D E relI G ρ ((eqM x y h).bind fun b h2 => .ok (!b) h2) (fun b H => Q (.bl b) H) := q
  unfold eqM at q'
  cases q1 : deep h 20 x with
  | none => rw [q1] at q'; exact q'.elim
  | some v =>
    cases q2 : deep h 20 y with
    | none => rw [q1, q2] at q'; exact q'.elim
    | some w =>
      rw [q1, q2] at q'
      obtain ⟨a1, a2, a3⟩ := deep_of xh q1 rx
      obtain ⟨b1, b2, b3⟩ := deep_of xh q2 ry
      refine ⟨_, _, a2, b2, a3, b3, ?_⟩
      rw [eqv_toD v w 21 21 a1 b1]
      exact q' G ρ H _ Ext.refl xh rfl
theorem cmpL_lt : ∀ a b : List Nat, decide (a < b) = (cmpL a b == .lt)
  | [], [] => by decide
  | [], y :: ys => by simp [cmpL]
  | x :: xs, [] => by simp [cmpL]
  | x :: xs, y :: ys => by
    have ih := cmpL_lt xs ys
    unfold cmpL
    by_cases h1 : x < y
    · simp [h1, List.cons_lt_cons_iff]
    · by_cases h2 : y < x
      · have h3 : x ≠ y := by omega
        simp [h1, h2, h3, List.cons_lt_cons_iff]
      · have h3 : x = y := by omega
        subst h3
        simp only [h1, if_false, List.cons_lt_cons_iff, false_or, true_and]
        exact ih
theorem cmpL_swap : ∀ a b : List Nat, cmpL b a = (cmpL a b).swap
  | [], [] => rfl
  | [], _ :: _ => rfl
  | _ :: _, [] => rfl
  | x :: xs, y :: ys => by
    unfold cmpL
    by_cases h1 : x < y
    · have : ¬ y < x := by omega
      simp [h1, this, Ordering.swap]
    · by_cases h2 : y < x
      · simp [h1, h2, Ordering.swap]
      · simp [h1, h2, cmpL_swap xs ys]
theorem ints_of : ∀ {l : List Val} {us : List V} {is : List Int}, intsOf l = some is → RVs D G ρ l us → us = is.map V.int
  | [], _, is, e, r => by
    cases r
    simp [intsOf] at e
    subst e
    rfl
  | x :: xs, _, is, e, r => by
    cases r with
    | cons r1 r2 =>
      cases r1 with
      | int i =>
        simp only [intsOf] at e
        cases q : intsOf xs with
        | none => rw [q] at e; cases e
        | some js =>
          rw [q] at e
          cases e
          rw [ints_of q r2]
          rfl
      | _ => simp [intsOf] at e
theorem lexI_eq : ∀ a b : List Int, lexI a b = HT.lexLt a b
  | [], [] => rfl
  | [], _ :: _ => rfl
  | _ :: _, [] => rfl
  | x :: xs, y :: ys => by
    unfold lexI
    rw [HT.lexLt_cons, lexI_eq xs ys]
/-- < of ints, texts and tuples of ints -/
theorem lt_sim : CmpSim D E ltV (fun x y H Q => (rI0 (fun i j => .bl (decide (i < j))) x y H Q ∨ ∃ i j, x = .str i ∧ y = .str j ∧ Q (.bl (decide (i.cps.toList < j.cps.toList))) H) ∨ rLtT D.K x y H Q) := by
  intro G ρ h H x y X Y Q xh rx ry q
  cases rx with
  | int i =>
    cases ry with
    | int j => exact .inl (.inl ⟨i, j, rfl, rfl, q G ρ H _ Ext.refl xh rfl⟩)
    | _ => exact q.elim
  | str i hi =>
    cases ry with
    | str j hj => exact .inl (.inr ⟨i, j, rfl, rfl, by rw [cmpL_lt]; exact q G ρ H _ Ext.refl xh rfl⟩)
    | _ => exact q.elim
  | tup s hl rs =>
    rename_i a l us
    cases ry with
    | tup t hm rt =>
      rename_i b m ws
      simp only [ltV] at q
      cases q1 : intsOf l with
      | none => rw [q1] at q; exact q.elim
      | some is =>
        cases q2 : intsOf m with
        | none => rw [q1, q2] at q; exact q.elim
        | some js =>
          rw [q1, q2] at q
          have e1 := ints_of q1 rs
          have e2 := ints_of q2 rt
          subst e1
          subst e2
          exact .inr ⟨a, b, is, js, rfl, rfl, .inl (.inl (xh.sub _ _ s)), .inl (.inl (xh.sub _ _ t)), by rw [← lexI_eq]; exact q G ρ H _ Ext.refl xh rfl⟩
    | _ => exact q.elim
  | _ => cases ry <;> exact q.elim
theorem gt_sim (T : Tabs) : CmpSim D E (cmpM T .gt) (fun x y H Q => rI0 (fun i j => .bl (decide (j < i))) x y H Q ∨ ∃ i j, x = .str i ∧ y = .str j ∧ Q (.bl (decide (j.cps.toList < i.cps.toList))) H) := by
  intro G ρ h H x y X Y Q xh rx ry q
  cases rx with
  | int i =>
    cases ry with
    | int j => exact .inl ⟨i, j, rfl, rfl, q G ρ H _ Ext.refl xh rfl⟩
    | _ => exact q.elim
  | str i hi =>
    cases ry with
    | str j hj => exact .inr ⟨i, j, rfl, rfl, by rw [cmpL_lt]; exact q G ρ H _ Ext.refl xh rfl⟩
    | _ => exact q.elim
  | _ => cases ry <;> exact q.elim
theorem le_sim (T : Tabs) : CmpSim D E (cmpM T .le) (fun x y H Q => rI0 (fun i j => .bl (decide (i ≤ j))) x y H Q ∨ ∃ i j, x = .str i ∧ y = .str j ∧ Q (.bl (!decide (j.cps.toList < i.cps.toList))) H) := by
  intro G ρ h H x y X Y Q xh rx ry q
  cases rx with
  | int i =>
    cases ry with
    | int j => exact .inl ⟨i, j, rfl, rfl, q G ρ H _ Ext.refl xh rfl⟩
    | _ => exact q.elim
  | str i hi =>
    cases ry with
    | str j hj => exact .inr ⟨i, j, rfl, rfl, by rw [cmpL_lt]; exact q G ρ H _ Ext.refl xh rfl⟩
    | _ => exact q.elim
  | _ => cases ry <;> exact q.elim
theorem ge_sim (T : Tabs) : CmpSim D E (cmpM T .ge) (rI0 fun i j => .bl (decide (j ≤ i))) := by
  intro G ρ h H x y X Y Q xh rx ry q
  cases rx with
  | int i =>
    cases ry with
    | int j => exact ⟨i, j, rfl, rfl, q G ρ H _ Ext.refl xh rfl⟩
    | _ => exact q.elim
  | _ => cases ry <;> exact q.elim

/-! ### in, not in -/
theorem eqv_flat {v w : Val} {x y : V} (hv : flatE v = true) (hw : flatE w = true) (rv : RV D G ρ v x) (rw' : RV D G ρ w y) : flatV x = true ∧ flatV y = true ∧ eqV x y = eqv v w := by
  cases rv <;> first | (cases hv; done) | (cases rw' <;> first | (cases hw; done) | (refine ⟨rfl, rfl, ?_⟩; simp [eqV, eqv]))
theorem any_flat {v : Val} {x : V} (hv : flatE v = true) (rv : RV D G ρ v x) : ∀ {l : List Val} {us : List V}, l.all flatE = true → RVs D G ρ l us → us.all flatV = true ∧ (us.any fun y => eqV y x) = (l.any fun z => eqv z v)
  | [], _, _, r => by cases r; exact ⟨rfl, rfl⟩
  | z :: zs, _, hl, r => by
    cases r with
    | cons r1 r2 =>
      simp only [List.all_cons, Bool.and_eq_true] at hl
      obtain ⟨a1, a2, a3⟩ := eqv_flat hl.1 hv r1 rv
      obtain ⟨b1, b2⟩ := any_flat hv rv hl.2 r2
      exact ⟨by simp [a1, b1], by simp [a3, b2]⟩
theorem flat_of {v : Val} {x : V} (hv : flatE v = true) (rv : RV D G ρ v x) : flatV x = true := by
  cases rv <;> first | (cases hv; done) | rfl
theorem eqv_toD_any : ∀ (l : List Val) (x : Val) (d e : Nat), areData d l = true → isData e x = true → ((toDs l).any fun z => PyData.eqv z (toD x)) = l.any fun z => eqv z x
  | [], _, _, _, _, _ => rfl
  | y :: ys, x, d, e, hl, hx => by
    simp only [areData, Bool.and_eq_true] at hl
    simp only [toDs, List.any_cons]
    rw [eqv_toD y x d e hl.1 hx, eqv_toD_any ys x d e hl.2 hx]
theorem key_rel {v : Val} {x : V} (h : isKey0 v = true) (r : RV D G ρ v x) : ∃ k, keyOf v = some k ∧ x = kV k := by
  cases r <;> first | (cases h; done) | exact ⟨_, rfl, rfl⟩
theorem keys_rel : ∀ {l : List Val} {us : List V}, l.all isKey0 = true → RVs D G ρ l us → ∃ ks, l.mapM keyOf = some ks ∧ us = ks.map kV
  | [], _, _, r => by cases r; exact ⟨[], rfl, rfl⟩
  | z :: zs, _, hl, r => by
    cases r with
    | cons r1 r2 =>
      simp only [List.all_cons, Bool.and_eq_true] at hl
      obtain ⟨k, h1, h2⟩ := key_rel hl.1 r1
      obtain ⟨ks, h3, h4⟩ := keys_rel hl.2 r2
      exact ⟨k :: ks, by simp [List.mapM_cons, h1, h3], by simp [h2, h4]⟩
theorem keyOf_inj {a b : Val} {k : Key} (ha : keyOf a = some k) (hb : keyOf b = some k) : a = b := by
  cases a <;> cases b <;> simp [keyOf] at ha hb <;> first | (subst ha; simp at hb; subst hb; rfl) | (subst ha; simp at hb)
theorem keyOf_key {a : Val} {k : Key} (h : keyOf a = some k) : isKey0 a = true := by
  cases a <;> simp [keyOf] at h <;> rfl
theorem mapM_keyOf_inj : ∀ {l m : List Val} {ks : List Key}, l.mapM keyOf = some ks → m.mapM keyOf = some ks → l = m
  | [], m, ks, h1, h2 => by
    simp at h1
    subst h1
    cases m with
    | nil => rfl
    | cons y ys =>
      simp only [List.mapM_cons] at h2
      cases q1 : keyOf y with
      | none => rw [q1] at h2; cases h2
      | some k =>
        cases q2 : ys.mapM keyOf with
        | none => rw [q1, q2] at h2; cases h2
        | some ks => rw [q1, q2] at h2; cases h2
  | x :: xs, m, ks, h1, h2 => by
    simp only [List.mapM_cons] at h1
    cases q1 : keyOf x with
    | none => rw [q1] at h1; cases h1
    | some k =>
      cases q2 : xs.mapM keyOf with
      | none => rw [q1, q2] at h1; cases h1
      | some ks' =>
        rw [q1, q2] at h1
        cases h1
        cases m with
        | nil => simp at h2
        | cons y ys =>
          simp only [List.mapM_cons] at h2
          cases q3 : keyOf y with
          | none => rw [q3] at h2; cases h2
          | some k2 =>
            cases q4 : ys.mapM keyOf with
            | none => rw [q3, q4] at h2; cases h2
            | some ks2 =>
              rw [q3, q4] at h2
              injection h2 with h2
              injection h2 with e1 e2
              subst e1
              subst e2
              rw [keyOf_inj q1 q3, mapM_keyOf_inj q2 q4]
theorem keysOf_inj {a b : Val} {k : List Key} (ha : keysOf a = some k) (hb : keysOf b = some k) : a = b := by
  cases a <;> cases b <;> simp only [keysOf] at ha hb <;> first | (cases ha; done) | (cases hb; done) | (rw [mapM_keyOf_inj ha hb])
/-- what a dict holds, by both -/
theorem find_rel {κ : Type} [DecidableEq κ] {kf : Val → Option κ} (inj : ∀ {a b : Val} {k : κ}, kf a = some k → kf b = some k → a = b) {S : Val → Prop} : ∀ {l : List (Val × Val)} {kvs : List (κ × V)} {key : Val} {kk : κ},
    Paired (fun (p : Val × Val) (q : κ × V) => kf p.1 = some q.1 ∧ S p.1 ∧ RV D G ρ p.2 q.2) l kvs → kf key = some kk →
      (match Ev.dictGet l key, valV kvs kk with
        | some v, some x => RV D G ρ v x
        | none, none => True
        | _, _ => False)
  | _, _, key, kk, .nil, _ => trivial
  | _, _, key, kk, .cons (a := p) (b := q) (l₁ := l) (l₂ := m) r t, e => by
    have ih := find_rel inj t e
    by_cases h : p.1 = key
    · have hq : q.1 = kk := by
        have := r.1
        rw [h, e] at this
        exact (Option.some.inj this).symm
      have e1 : Ev.dictGet (p :: l) key = some p.2 := by simp [Ev.dictGet, List.find?_cons, h]
      have e2 : valV (q :: m) kk = some q.2 := by simp [valV, List.find?_cons, hq]
      rw [e1, e2]
      exact r.2.2
    · have hq : ¬ q.1 = kk := fun z => h (inj (r.1.trans (by rw [z])) e)
      have e1 : Ev.dictGet (p :: l) key = Ev.dictGet l key := by simp [Ev.dictGet, List.find?_cons, h]
      have e2 : valV (q :: m) kk = valV m kk := by simp [valV, List.find?_cons, hq]
      rw [e1, e2]
      exact ih
/-- a dict of the heap asked for a key -/
theorem dget_rel (x : RH D G ρ h H) {m : Nat} {a : Addr} {t : Bool} {l : List (Val × Val)} {key : Val} {y : V} (ra : ρ[m]? = some a) (hm : h[m]? = some (.dict t l)) (hk : isKey t key = true) (ry : RV D G ρ key y) :
    ∃ o, DGet H a y o ∧ (match Ev.dictGet l key, o with
        | some v, some x => RV D G ρ v x
        | none, none => True
        | _, _ => False) := by
  obtain ⟨u, h1, h2⟩ := x.obj m a _ ra hm
  cases h2 with
  | dictK r =>
    obtain ⟨k, e1, e2⟩ := key_rel hk ry
    subst e2
    exact ⟨_, .inl ⟨_, k, .inl h1, rfl, rfl⟩, find_rel keyOf_inj r e1⟩
  | dictT r =>
    cases ry with
    | tup s hl rs =>
      obtain ⟨ks, e1, e2⟩ := keys_rel (by simpa [isKey] using hk) rs
      subst e2
      exact ⟨_, .inr ⟨_, ks, _, .inl h1, rfl, x.sub _ _ s, rfl⟩, find_rel keysOf_inj r (by simpa [keysOf] using e1)⟩
    | _ => simp [isKey] at hk
end
end Sim

end
section
set_option Elab.async false
set_option linter.all false
set_option maxRecDepth 100000
/-! SimG: comparisons, tests, subscripts. -/
namespace Sim
open PySem PySem.Spec PyProof.Rows L2 Ev

section
variable {D : Wd} {n k : Nat} {E : XK} {N : List Str} {sc : Scope} {X : Cx} {ee : Expr} {G : Hp} {ρ : List Addr} {h : EHeap} {H : Hp}

theorem XOk.hu (hX : XOk D E k N sc X) : X.A.units + 64 < cLine := hX.room.units
theorem XOk.hu65 (hX : XOk D E k N sc X) : X.A.units + 65 < cLine := by have := hX.room.un; omega
theorem XOk.hu1 (hX : XOk D E k N sc X) : X.A.units + 1 < cLine := by have := hX.hu; omega

/-- what a container is: 0 a text, list, tuple; 1 a dict; 2 a table of the top -/
def boxKind (h : EHeap) : Val → Nat
  | .gl _ => 2
  | .ref n => match h[n]? with
    | some (.dict _ _) => 1
    | _ => 0
  | _ => 0
inductive Mem (D : Wd) (H : Hp) : Nat → V → V → Bool → Prop
  | str {i j : Str} : Mem D H 0 (.str i) (.str j) (!(Builtin.Str.occurrences j i 0 j.length 1).isEmpty)
  | flat {x : V} {p : Addr} {xs : List V} {b : Bool} : (SqL D.K H p xs ∨ SqT D.K H p xs) → flatV x = true → xs.all flatV = true → inV x xs = b → Mem D H 0 x (.ref p) b
  | deep {x y : V} {d : PyData} {ds : List PyData} {b : Bool} : Dp D.K H x d → Dp D.K H y (.list ds) → SeqAt.shaped d = true → SeqAt.shaped (.list ds) = true → (ds.any fun z => PyData.eqv z d) = b → Mem D H 0 x y b
  | dict {x : V} {a : Addr} {o : Option V} : DGet H a x o → Mem D H 1 x (.ref a) o.isSome
theorem mem_sim {T : Tabs} {x y : Val} {X Y : V} {r : R Bool} (xh : RH D G ρ h H) (rx : RV D G ρ x X) (ry : RV D G ρ y Y) (hk : boxKind h y ≠ 2) (e : memV T x y h = r) : r = .no ∨ ∃ b, r = .ok b h ∧ Mem D H (boxKind h y) X Y b := by
  subst e
  cases ry with
  | str z hz =>
    cases rx with
    | str w hw => exact .inr ⟨_, rfl, .str⟩
    | _ => exact .inl rfl
  | tup s hl rs =>
    simp only [memV]
    split
    · rename_i hc
      obtain ⟨a1, a2⟩ := any_flat hc.1 rx hc.2 rs
      exact .inr ⟨_, rfl, .flat (.inr (.inl (.inl (xh.sub _ _ s)))) (flat_of hc.1 rx) a1 a2⟩
    · exact .inl rfl
  | ktp s hl rs =>
    simp only [memV]
    split
    · rename_i hc
      obtain ⟨a1, a2⟩ := any_flat hc.1 rx hc.2 rs
      exact .inr ⟨_, rfl, .flat (ktp_seq xh.sub s) (flat_of hc.1 rx) a1 a2⟩
    · exact .inl rfl
  | lst s hl rs =>
    simp only [memV]
    split
    · rename_i hc
      obtain ⟨a1, a2, a3⟩ := dp_of xh.sub hc.1 rx
      obtain ⟨b1, b2, b3⟩ := dps_of xh.sub hc.2 rs
      refine .inr ⟨_, rfl, .deep a1 (.lst (.inl (.inl (xh.sub _ _ s))) b1) (by unfold SeqAt.shaped; simp [a2]; omega) (by unfold SeqAt.shaped; simp [PyData.canLay0, PyData.depth, b2]; omega) (eqv_toD_any _ _ 20 20 hc.2 hc.1)⟩
    · exact .inl rfl
  | ref hr =>
    rename_i m a
    obtain ⟨o, u, h1, h2, h3⟩ := xh.at_ hr
    cases o with
    | list l =>
      cases h3 with
      | list rl hl =>
        simp only [memV, h1, boxKind]
        cases q1 : deep h 20 x with
        | none => exact .inl rfl
        | some d =>
          simp only
          split
          · rename_i hc
            obtain ⟨a1, a2, a3⟩ := deep_of xh q1 rx
            obtain ⟨b1, b2, b3⟩ := dps_of xh.sub hc rl
            exact .inr ⟨_, rfl, .deep a2 (.lst (.inl (.inl h2)) b1) a3 (by unfold SeqAt.shaped; simp [PyData.canLay0, PyData.depth, b2]; omega) (eqv_toD_any _ _ 20 21 hc a1)⟩
          · exact .inl rfl
    | dict t l =>
      simp only [memV, h1, boxKind]
      split
      · rename_i hc
        obtain ⟨o, d1, d2⟩ := dget_rel xh hr h1 hc rx
        refine .inr ⟨_, rfl, ?_⟩
        have e : (Ev.dictGet l x).isSome = o.isSome := by
          revert d2
          cases Ev.dictGet l x <;> cases o <;> simp
        rw [e]
        exact .dict d1
      · exact .inl rfl
    | inst c f => exact .inl (by simp only [memV, h1])
  | gl g hg => exact absurd rfl hk
  | _ => exact .inl (by cases rx <;> rfl)
theorem op_inDict (hu : X.A.units + 1 < cLine) : OpR X (compareOp .In) (fun y x H Q => ∃ a o, x = .ref a ∧ DGet H a y o ∧ Q (.bl o.isSome) H) := by
  intro pins s σ H y x v u Q I ry rx q
  obtain ⟨a, o, rfl, g, q⟩ := q
  obtain rfl : u = Value.ref a := rx
  exact d_in hu I g ry fun s3 I3 => ⟨.bl o.isSome, H, I3, rfl, q⟩
theorem op_notInDict (hu : X.A.units + 1 < cLine) : OpR X (compareOp .NotIn) (fun y x H Q => ∃ a o, x = .ref a ∧ DGet H a y o ∧ Q (.bl (!o.isSome)) H) := by
  intro pins s σ H y x v u Q I ry rx q
  obtain ⟨a, o, rfl, g, q⟩ := q
  obtain rfl : u = Value.ref a := rx
  exact d_notIn hu I g ry fun s3 I3 => ⟨.bl (!o.isSome), H, I3, rfl, q⟩
theorem op_inTab : OpR X (compareOp .In) (fun x y H Q => ∃ d es m, KDict X.K X.w d es m ∧ ∃ (z : Str) (r : Option Value), x = .str z ∧ y = .ref d ∧ PySem.W.nsIn X.K d z = some r ∧ Q (.bl r.isSome) H) := by
  intro pins s σ H x y v u Q I rx ry q
  obtain ⟨d, es, m, kd, q⟩ := q
  exact op_in_kd kd pins s σ H x y v u Q I rx ry q
theorem op_notInTab : OpR X (compareOp .NotIn) (fun x y H Q => ∃ d es m, KDict X.K X.w d es m ∧ ∃ (z : Str) (r : Option Value), x = .str z ∧ y = .ref d ∧ PySem.W.nsIn X.K d z = some r ∧ Q (.bl (!r.isSome)) H) := by
  intro pins s σ H x y v u Q I rx ry q
  obtain ⟨d, es, m, kd, q⟩ := q
  exact op_notIn_kd kd pins s σ H x y v u Q I rx ry q
/-- the rules of in, together -/
def rMem (K : PySem.W.Frag) (w : World) (neg : Bool) : R2 := fun x y H Q => ((((∃ i j, x = .str i ∧ y = .str j ∧ Q (.bl (if neg then !(!(Builtin.Str.occurrences j i 0 j.length 1).isEmpty) else !(Builtin.Str.occurrences j i 0 j.length 1).isEmpty)) H) ∨ rIn K neg x y H Q) ∨
  (∃ d ds, Dp K H x d ∧ Dp K H y (.list ds) ∧ SeqAt.shaped d = true ∧ SeqAt.shaped (.list ds) = true ∧ Q (.bl (if neg then !(ds.any fun z => PyData.eqv z d) else ds.any fun z => PyData.eqv z d)) H)) ∨
  (∃ a o, y = .ref a ∧ DGet H a x o ∧ Q (.bl (if neg then !o.isSome else o.isSome)) H)) ∨
  (∃ d es m, KDict K w d es m ∧ ∃ (z : Str) (r : Option Value), x = .str z ∧ y = .ref d ∧ PySem.W.nsIn K d z = some r ∧ Q (.bl (if neg then !r.isSome else r.isSome)) H)
theorem op_mem (hX : XOk D E k N sc X) : OpR X (compareOp .In) (rMem X.K X.w false) := (((op_in_str.or op_in_seq).or (op_inD hX.hu65)).or (op_inDict hX.hu1)).or op_inTab
theorem op_notMem (hX : XOk D E k N sc X) : OpR X (compareOp .NotIn) (rMem X.K X.w true) := (((op_notin_str.or op_notIn_seq).or (op_notInD hX.hu65)).or (op_notInDict hX.hu1)).or op_notInTab
theorem mem_rule (S : Tab D) (neg : Bool) {x y : Val} {X Y : V} {Q : VK} (xh : RH D G ρ h H) (rx : RV D G ρ x X) (ry : RV D G ρ y Y)
    (q : OkG D E relI G ρ ((memV D.cfg.tabs x y h).bind fun b h2 => .ok (if neg then !b else b) h2) (fun b H => Q (.bl b) H)) : rMem D.K D.w neg X Y H Q := by
  by_cases hk : boxKind h y = 2
  · -- a table
    cases ry with
    | gl g hg =>
      cases rx with
      | str z hz =>
        simp only [memV] at q
        cases ht : D.cfg.tabs g with
        | none => rw [ht] at q; exact q.elim
        | some t =>
          rw [ht] at q
          obtain ⟨es, m, kd, f⟩ := S.tab g t ht
          refine .inr ⟨_, es, m, kd, z, ?_⟩
          cases hl : t.lookup z with
          | none =>
            refine ⟨none, rfl, rfl, (f z).1 hl, ?_⟩
            have := q G ρ H _ Ext.refl xh rfl
            rw [hl] at this
            exact this
          | some v =>
            obtain ⟨u, V, h1, h2, h3⟩ := (f z).2 v hl
            refine ⟨some u, rfl, rfl, h1, ?_⟩
            have := q G ρ H _ Ext.refl xh rfl
            rw [hl] at this
            exact this
      | _ => simp only [memV] at q; cases ht : D.cfg.tabs g <;> (rw [ht] at q; exact q.elim)
    | ref hr =>
      simp only [boxKind] at hk
      split at hk <;> cases hk
    | _ => cases hk
  · rcases mem_sim (T := D.cfg.tabs) xh rx ry hk rfl with e | ⟨b, e, m⟩
    · rw [e] at q; exact q.elim
    · rw [e] at q
      have q' : Q (.bl (if neg then !b else b)) H := q G ρ H _ Ext.refl xh rfl
      generalize boxKind h y = d at m
      cases m with
      | str => exact .inl (.inl (.inl (.inl ⟨_, _, rfl, rfl, q'⟩)))
      | flat a1 a2 a3 a4 => exact .inl (.inl (.inl (.inr ⟨_, _, rfl, a1, a2, a3, by rw [a4]; exact q'⟩)))
      | deep a1 a2 a3 a4 a5 => exact .inl (.inl (.inr ⟨_, _, a1, a2, a3, a4, by rw [a5]; exact q'⟩))
      | dict g => exact .inl (.inr ⟨_, _, rfl, g, q'⟩)
theorem in_sim (S : Tab D) : CmpSim D E (memV D.cfg.tabs) (rMem D.K D.w false) := fun G ρ h H x y X Y Q xh rx ry q => mem_rule S false xh rx ry (by
  cases e : memV D.cfg.tabs x y h with
  | ok b h2 => rw [e] at q; exact q
  | exc c fs h2 => rw [e] at q; exact q
  | no => rw [e] at q; exact q)
theorem notin_sim (S : Tab D) : CmpSim D E (fun x y => do return !(← memV D.cfg.tabs x y)) (rMem D.K D.w true) := fun G ρ h H x y X Y Q xh rx ry q => mem_rule S true xh rx ry q
/-- every comparison -/
def SimC (D : Wd) (n k : Nat) (o : COp) (a b : Ex) : Prop := ∀ E N sc X x y, XOk D E k N sc X → matchE (txOf D) N sc a x = true → matchE (txOf D) N sc b y = true → PC X (copOf o) x y (tG D E (relV D) (mCmp D n (cmpM D.cfg.tabs o) a b))
theorem sim_cmp0 (S : Tab D) (o : COp) {a b : Ex} (ha : SimE D n k a) (hb : SimE D n k b) : SimC D n k o a b := by
  intro E N sc X x y hX mx my
  have px := ha E N sc X x hX mx
  have py := hb E N sc X y hX my
  have hK := hX.hK
  have hw := hX.hw
  cases o with
  | eq => exact sim_cmpop (X := X) (op := .Eq) (op_eqD hX.hu) (by rw [hK]; exact eq_sim) px py
  | ne => exact sim_cmpop (X := X) (op := .NotEq) (op_neD hX.hu) (by rw [hK]; exact ne_sim) px py
  | lt => exact sim_cmpop (X := X) (op := .Lt) ((op_lt.or op_lt_str).or (op_ltT (by have := hX.hu; omega))) (by rw [hK]; exact lt_sim) px py
  | gt => exact sim_cmpop (X := X) (op := .Gt) (op_gt.or op_gt_str) (gt_sim _) px py
  | le => exact sim_cmpop (X := X) (op := .LtE) (op_le.or op_le_str) (le_sim _) px py
  | ge => exact sim_cmpop (X := X) (op := .GtE) op_ge (ge_sim _) px py
  | isin => exact sim_cmpop (X := X) (op := .In) (op_mem hX) (by rw [hK, hw]; exact in_sim S) px py
  | notin => exact sim_cmpop (X := X) (op := .NotIn) (op_notMem hX) (by rw [hK, hw]; exact notin_sim S) px py

/-! ### values of truth -/
/-- where a value is a bool, the test is it -/
theorem pt_of_bl {e : Ex} (h : PT X ee (tB (tE D E (cx D n) e))) (ht : ∀ env, (ev (cx D n) e env).t = truthM (ev (cx D n) e env).e) (hb : ∀ env h v h', evE (cx D n) e env h = .ok v h' → ∃ b, v = .bl b) : PT X ee (tT D E (cx D n) e) := by
  refine PT.imp h fun σ H Q q => ?_
  obtain ⟨G, ρ, env, h, x, re, q⟩ := q
  have q' : OkG D E relI G ρ ((evE (cx D n) e env h).bind fun v h1 => ofOpt (truthV h1 v) h1) Q := by
    have : evT (cx D n) e env = truthM (ev (cx D n) e env).e := ht env
    have q0 : OkG D E relI G ρ (evT (cx D n) e env h) Q := q
    rw [this] at q0
    exact q0
  refine ⟨G, ρ, env, h, x, re, ?_⟩
  show OkG D E (relV D) G ρ (evE (cx D n) e env h) _
  cases qe : evE (cx D n) e env h with
  | ok v h1 =>
    rw [qe] at q'
    obtain ⟨b, rfl⟩ := hb env h v h1 qe
    intro G1 ρ1 H1 y e1 x1 r1
    cases r1
    exact ⟨b, rfl, q' G1 ρ1 H1 b e1 x1 rfl⟩
  | exc c fs h1 => rw [qe] at q'; exact q'
  | no => rw [qe] at q'; exact q'
/-- a plain form: its truth -/
theorem tru_rel {v : Val} {x : V} {b : Bool} (xh : RH D G ρ h H) (r : RV D G ρ v x) (e : truthV h v = some b) : TruV D.K x H b := by
  cases r with
  | non => simp only [truthV, Option.some.injEq] at e; exact e.symm
  | bl c => simp only [truthV, Option.some.injEq] at e; exact e.symm
  | int i => simp only [truthV, Option.some.injEq] at e; exact e.symm
  | str s hs =>
    simp only [truthV, Option.some.injEq] at e
    refine ⟨by rw [← most_line]; exact hs.len, ?_⟩
    rw [← e]
    cases q : s.length with
    | zero => rfl
    | succ m => simp [bne]; omega
  | tup s hl rs =>
    simp only [truthV, Option.some.injEq] at e
    refine .inr (.inl ⟨_, .inl (.inl (xh.sub _ _ s)), ?_⟩)
    rw [← e]
    cases rs <;> rfl
  | ktp s hl rs =>
    simp only [truthV, Option.some.injEq] at e
    rcases ktp_seq xh.sub s with s | s
    · refine .inl ⟨_, s, ?_⟩
      rw [← e]
      cases rs <;> rfl
    · refine .inr (.inl ⟨_, s, ?_⟩)
      rw [← e]
      cases rs <;> rfl
  | scr s hl rs => cases e
  | lst s hl rs =>
    simp only [truthV, Option.some.injEq] at e
    refine .inl ⟨_, .inl (.inl (xh.sub _ _ s)), ?_⟩
    rw [← e]
    cases rs <;> rfl
  | ref hr =>
    rename_i m a
    obtain ⟨o, u, h1, h2, h3⟩ := xh.at_ hr
    simp only [truthV, h1] at e
    cases h3 with
    | list rl hl =>
      simp only [Option.some.injEq] at e
      refine .inl ⟨_, .inl (.inl h2), ?_⟩
      rw [← e]
      cases rl <;> rfl
    | dictK r =>
      simp only [Option.some.injEq] at e
      refine .inr (.inr ⟨_, h2, ?_⟩)
      rw [← e]
      cases r <;> rfl
    | dictT r => cases e
    | inst _ => cases e
  | gl g hg => cases e
/-- the truth of a plain form -/
theorem pt_plain {e : Ex} (h : PE X ee (tE D E (cx D n) e)) (hK : X.K = D.K) (hp : plainT ee = true) (ht : ∀ env, (ev (cx D n) e env).t = truthM (ev (cx D n) e env).e) : PT X ee (tT D E (cx D n) e) := by
  refine PT.imp (pt_truth h (plainT_ok hp _)) fun σ H Q q => ?_
  obtain ⟨G, ρ, env, h, x, re, q⟩ := q
  have q' : OkG D E relI G ρ ((evE (cx D n) e env h).bind fun v h1 => ofOpt (truthV h1 v) h1) Q := by
    have : evT (cx D n) e env = truthM (ev (cx D n) e env).e := ht env
    have q0 : OkG D E relI G ρ (evT (cx D n) e env h) Q := q
    rw [this] at q0
    exact q0
  refine ⟨G, ρ, env, h, x, re, ?_⟩
  show OkG D E (relV D) G ρ (evE (cx D n) e env h) _
  cases qe : evE (cx D n) e env h with
  | ok v h1 =>
    rw [qe] at q'
    intro G1 ρ1 H1 y e1 x1 r1
    cases qt : truthV h1 v with
    | none => simp only [R.bind_ok, qt] at q'; exact q'.elim
    | some b =>
      simp only [R.bind_ok, qt] at q'
      exact ⟨b, by rw [hK]; exact tru_rel x1 r1 qt, q' G1 ρ1 H1 b e1 x1 rfl⟩
  | exc c fs h1 => rw [qe] at q'; exact q'
  | no => rw [qe] at q'; exact q'

/-! ### cmp, is None, chains -/
theorem mCmp_bl {f : Val → Val → M Bool} {a b : Ex} {env : EEnv} {h h' : EHeap} {v : Val} (e : mCmp D n f a b env h = .ok v h') : ∃ c, v = .bl c := by
  have e' : (evE (cx D n) a env h).bind (fun x h1 => (evE (cx D n) b env h1).bind fun y h2 => (f x y h2).bind fun c h3 => .ok (.bl c) h3) = .ok v h' := e
  cases q1 : evE (cx D n) a env h with
  | ok x h1 =>
    simp only [q1, R.bind_ok] at e'
    cases q2 : evE (cx D n) b env h1 with
    | ok y h2 =>
      simp only [q2, R.bind_ok] at e'
      cases q3 : f x y h2 with
      | ok c h3 => simp only [q3, R.bind_ok] at e'; cases e'; exact ⟨c, rfl⟩
      | exc _ _ _ => rw [q3] at e'; cases e'
      | no => rw [q3] at e'; cases e'
    | exc _ _ _ => rw [q2] at e'; cases e'
    | no => rw [q2] at e'; cases e'
  | exc _ _ _ => rw [q1] at e'; cases e'
  | no => rw [q1] at e'; cases e'
theorem sim_cmp (S : Tab D) (o : COp) {a b : Ex} (ha : SimE D n k a) (hb : SimE D n k b) : SimE D n k (.cmp o a b) ∧ SimT D n k (.cmp o a b) := by
  have key : ∀ E N sc X ee, XOk D E k N sc X → matchE (txOf D) N sc (.cmp o a b) ee = true → PE X ee (tE D E (cx D n) (.cmp o a b)) ∧ PT X ee (tB (tE D E (cx D n) (.cmp o a b))) := by
    intro E N sc X ee hX hm
    simp only [matchE] at hm
    split at hm
    · rename_i x p y hxy
      obtain ⟨pos, rfl⟩ := asCmp1_eq hxy
      simp only [Bool.and_eq_true, beq_iff_eq] at hm
      obtain ⟨⟨⟨ep, hns⟩, hx⟩, hy⟩ := hm
      subst ep
      have pc := sim_cmp0 (n := n) (k := k) S o ha hb E N sc X x y hX hx hy
      exact ⟨pe_cmp pc (notSet_ok hns _), pt_cmp pc (notSet_ok hns _)⟩
    · cases hm
  exact ⟨fun E N sc X ee hX hm => (key E N sc X ee hX hm).1, fun E N sc X ee hX hm => pt_of_bl (key E N sc X ee hX hm).2 (fun _ => rfl) fun env h v h' e => mCmp_bl e⟩
theorem sim_isN (nn : Bool) {a : Ex} (ha : SimE D n k a) : SimE D n k (.isN nn a) ∧ SimT D n k (.isN nn a) := by
  have key : ∀ E N sc X ee, XOk D E k N sc X → matchE (txOf D) N sc (.isN nn a) ee = true → PE X ee (tE D E (cx D n) (.isN nn a)) ∧ PT X ee (tB (tE D E (cx D n) (.isN nn a))) := by
    intro E N sc X ee hX hm
    simp only [matchE] at hm
    split at hm
    · rename_i x p y hxy
      obtain ⟨pos, rfl⟩ := asCmp1_eq hxy
      simp only [Bool.and_eq_true, beq_iff_eq] at hm
      obtain ⟨⟨ep, hy⟩, hx⟩ := hm
      obtain ⟨j, p2, rfl⟩ := asConst_eq hy
      have px := ha E N sc X x hX hx
      subst ep
      cases nn with
      | true =>
        have pc : PC X .IsNot x (.Constant .none j p2) (tE D E (cx D n) (.isN true a)) := PC.imp (pc_notN px) fun σ H Q q => by
          obtain ⟨G, ρ, env, h, x, re, q⟩ := q
          refine tG_bind x re q fun G1 ρ1 H1 y v h1 e1 x1 r1 q1 => ?_
          have e : (!decide (y = .non)) = (decide (v = .non) != true) := by
            have : decide (y = .non) = decide (v = .non) := by cases r1 <;> simp
            rw [this]; cases decide (v = .non) <;> rfl
          rw [e]
          exact q1 G1 ρ1 H1 _ Ext.refl x1 (.bl _)
        exact ⟨pe_cmp pc rfl, pt_cmp pc rfl⟩
      | false =>
        have pc : PC X .Is x (.Constant .none j p2) (tE D E (cx D n) (.isN false a)) := PC.imp (pc_isN px) fun σ H Q q => by
          obtain ⟨G, ρ, env, h, x, re, q⟩ := q
          refine tG_bind x re q fun G1 ρ1 H1 y v h1 e1 x1 r1 q1 => ?_
          have e : decide (y = .non) = (decide (v = .non) != false) := by
            have : decide (y = .non) = decide (v = .non) := by cases r1 <;> simp
            rw [this]; cases decide (v = .non) <;> rfl
          rw [e]
          exact q1 G1 ρ1 H1 _ Ext.refl x1 (.bl _)
        exact ⟨pe_cmp pc rfl, pt_cmp pc rfl⟩
    · cases hm
  refine ⟨fun E N sc X ee hX hm => (key E N sc X ee hX hm).1, fun E N sc X ee hX hm => pt_of_bl (key E N sc X ee hX hm).2 (fun _ => rfl) fun env h v h' e => ?_⟩
  have e' : (evE (cx D n) a env h).bind (fun x h1 => .ok (.bl (decide (x = .non) != nn)) h1) = .ok v h' := e
  cases q1 : evE (cx D n) a env h with
  | ok x h1 => simp only [q1, R.bind_ok] at e'; cases e'; exact ⟨_, rfl⟩
  | exc _ _ _ => rw [q1] at e'; cases e'
  | no => rw [q1] at e'; cases e'

/-! ### and, or, not, if else -/
/-- a row of and, or -/
def SimB (D : Wd) (n k : Nat) (e : Ex) : Prop := ∀ E N sc X op l pos, XOk D E k N sc X → matchB2 (txOf D) N sc op e l = true → PE X (.BoolOp op l pos) (tE D E (cx D n) e) ∧ PW X (.BoolOp op l pos) (tT D E (cx D n) e)
theorem ok_iteB {α β : Type} {rel : Hp → List Addr → α → β → Prop} {c : Bool} {Q : β → Hp → Prop} {m m' : R α} : OkG D E rel G ρ (if c = true then m else m') Q ↔ (if c = true then OkG D E rel G ρ m Q else OkG D E rel G ρ m' Q) := by
  cases c <;> simp
/-- and by values, by tests -/
theorem and_step {a b : Ex} {x : Expr} {l : List Expr} {y : Expr} {pos : Pos} (hx : PE X x (tE D E (cx D n) a)) (hxt : PT X x (tT D E (cx D n) a)) (hr : PE X (.BoolOp .And (y :: l) pos) (tE D E (cx D n) b) ∧ PW X (.BoolOp .And (y :: l) pos) (tT D E (cx D n) b)) :
    PE X (.BoolOp .And (x :: y :: l) pos) (tE D E (cx D n) (.and_ a b)) ∧ PW X (.BoolOp .And (x :: y :: l) pos) (tT D E (cx D n) (.and_ a b)) := by
  refine ⟨PE.imp (pe_and hx hr.1) fun σ H Q q => ?_, PW.imp (pw_and hxt hr.2) fun σ H Q q => ?_⟩
  · obtain ⟨G, ρ, env, h, xh, re, q⟩ := q
    refine tG_bind xh re q fun G1 ρ1 H1 y v h1 e1 x1 r1 q1 => ?_
    cases r1 with
    | bl c =>
      cases c with
      | true => exact ⟨true, rfl, iteT ⟨G1, ρ1, env, h1, x1, re.mono e1, q1⟩⟩
      | false => exact ⟨false, rfl, iteF (q1 G1 ρ1 H1 _ Ext.refl x1 (.bl _))⟩
    | _ => exact q1.elim
  · obtain ⟨G, ρ, env, h, xh, re, q⟩ := q
    have q' : OkG D E relI G ρ ((evT (cx D n) a env h).bind fun c h1 => if c = true then evT (cx D n) b env h1 else .ok false h1) Q := by
      have e : evT (cx D n) (.and_ a b) env h = (evT (cx D n) a env h).bind fun c h1 => if c = true then evT (cx D n) b env h1 else .ok false h1 := by
        show ((ev (cx D n) a env).t h).bind _ = _
        congr 1
        funext c h1
        cases c <;> rfl
      rw [← e]
      exact q
    refine tG_bind xh re q' fun G1 ρ1 H1 y v h1 e1 x1 r1 q1 => ?_
    have r1' : v = y := r1
    subst r1'
    cases v with
    | true => exact iteT ⟨G1, ρ1, env, h1, x1, re.mono e1, q1⟩
    | false => exact iteF (q1 G1 ρ1 H1 _ Ext.refl x1 rfl)
theorem or_step {a b : Ex} {x : Expr} {l : List Expr} {y : Expr} {pos : Pos} (hx : PE X x (tE D E (cx D n) a)) (hxt : PT X x (tT D E (cx D n) a)) (hr : PE X (.BoolOp .Or (y :: l) pos) (tE D E (cx D n) b) ∧ PW X (.BoolOp .Or (y :: l) pos) (tT D E (cx D n) b)) :
    PE X (.BoolOp .Or (x :: y :: l) pos) (tE D E (cx D n) (.or_ a b)) ∧ PW X (.BoolOp .Or (x :: y :: l) pos) (tT D E (cx D n) (.or_ a b)) := by
  refine ⟨PE.imp (pe_or hx hr.1) fun σ H Q q => ?_, PW.imp (pw_or hxt hr.2) fun σ H Q q => ?_⟩
  · obtain ⟨G, ρ, env, h, xh, re, q⟩ := q
    refine tG_bind xh re q fun G1 ρ1 H1 y v h1 e1 x1 r1 q1 => ?_
    cases r1 with
    | bl c =>
      cases c with
      | true => exact ⟨true, rfl, iteT (q1 G1 ρ1 H1 _ Ext.refl x1 (.bl _))⟩
      | false => exact ⟨false, rfl, iteF ⟨G1, ρ1, env, h1, x1, re.mono e1, q1⟩⟩
    | _ => exact q1.elim
  · obtain ⟨G, ρ, env, h, xh, re, q⟩ := q
    have q' : OkG D E relI G ρ ((evT (cx D n) a env h).bind fun c h1 => if c = true then .ok true h1 else evT (cx D n) b env h1) Q := by
      have e : evT (cx D n) (.or_ a b) env h = (evT (cx D n) a env h).bind fun c h1 => if c = true then .ok true h1 else evT (cx D n) b env h1 := by
        show ((ev (cx D n) a env).t h).bind _ = _
        congr 1
        funext c h1
        cases c <;> rfl
      rw [← e]
      exact q
    refine tG_bind xh re q' fun G1 ρ1 H1 y v h1 e1 x1 r1 q1 => ?_
    have r1' : v = y := r1
    subst r1'
    cases v with
    | true => exact iteT (q1 G1 ρ1 H1 _ Ext.refl x1 rfl)
    | false => exact iteF ⟨G1, ρ1, env, h1, x1, re.mono e1, q1⟩
theorem row_tail {op : BoolOp} {b : Ex} {y : Expr} {r : List Expr} {pos : Pos} (hX : XOk D E k N sc X) (hb : SimE D n k b) (hbt : SimT D n k b) (hbb : SimB D n k b)
    (hm : (match r with
      | [] => matchE (txOf D) N sc b y
      | _ :: _ => matchB2 (txOf D) N sc op b (y :: r)) = true) : PE X (.BoolOp op (y :: r) pos) (tE D E (cx D n) b) ∧ PW X (.BoolOp op (y :: r) pos) (tT D E (cx D n) b) := by
  cases r with
  | nil =>
    refine ⟨pe_one (hb E N sc X y hX hm), ?_⟩
    cases op with
    | And => exact pw_and1 (hbt E N sc X y hX hm)
    | Or => exact pw_or1 (hbt E N sc X y hX hm)
  | cons z r => exact hbb E N sc X op (y :: z :: r) pos hX hm
theorem sim_and {a b : Ex} (ha : SimE D n k a) (hat : SimT D n k a) (hb : SimE D n k b) (hbt : SimT D n k b) (hbb : SimB D n k b) : SimE D n k (.and_ a b) ∧ SimT D n k (.and_ a b) ∧ SimB D n k (.and_ a b) := by
  have key : ∀ E N sc X ee, XOk D E k N sc X → matchE (txOf D) N sc (.and_ a b) ee = true → PE X ee (tE D E (cx D n) (.and_ a b)) ∧ PW X ee (tT D E (cx D n) (.and_ a b)) := by
    intro E N sc X ee hX hm
    simp only [matchE] at hm
    split at hm
    · simp only [Bool.and_eq_true] at hm
      exact and_step (ha E N sc X _ hX hm.1) (hat E N sc X _ hX hm.1) (row_tail hX hb hbt hbb hm.2)
    · cases hm
  refine ⟨fun E N sc X ee hX hm => (key E N sc X ee hX hm).1, fun E N sc X ee hX hm => (key E N sc X ee hX hm).2.pt, fun E N sc X op l pos hX hm => ?_⟩
  simp only [matchB2] at hm
  split at hm
  · simp only [Bool.and_eq_true, beq_iff_eq] at hm
    obtain ⟨⟨e, h1⟩, h2⟩ := hm
    subst e
    exact and_step (ha E N sc X _ hX h1) (hat E N sc X _ hX h1) (row_tail hX hb hbt hbb h2)
  · cases hm
theorem sim_or {a b : Ex} (ha : SimE D n k a) (hat : SimT D n k a) (hb : SimE D n k b) (hbt : SimT D n k b) (hbb : SimB D n k b) : SimE D n k (.or_ a b) ∧ SimT D n k (.or_ a b) ∧ SimB D n k (.or_ a b) := by
  have key : ∀ E N sc X ee, XOk D E k N sc X → matchE (txOf D) N sc (.or_ a b) ee = true → PE X ee (tE D E (cx D n) (.or_ a b)) ∧ PW X ee (tT D E (cx D n) (.or_ a b)) := by
    intro E N sc X ee hX hm
    simp only [matchE] at hm
    split at hm
    · simp only [Bool.and_eq_true] at hm
      exact or_step (ha E N sc X _ hX hm.1) (hat E N sc X _ hX hm.1) (row_tail hX hb hbt hbb hm.2)
    · cases hm
  refine ⟨fun E N sc X ee hX hm => (key E N sc X ee hX hm).1, fun E N sc X ee hX hm => (key E N sc X ee hX hm).2.pt, fun E N sc X op l pos hX hm => ?_⟩
  simp only [matchB2] at hm
  split at hm
  · simp only [Bool.and_eq_true, beq_iff_eq] at hm
    obtain ⟨⟨e, h1⟩, h2⟩ := hm
    subst e
    exact or_step (ha E N sc X _ hX h1) (hat E N sc X _ hX h1) (row_tail hX hb hbt hbb h2)
  · cases hm
theorem sim_not {a : Ex} (ha : SimE D n k a) (hat : SimT D n k a) : SimE D n k (.not_ a) ∧ SimT D n k (.not_ a) := by
  have key : ∀ E N sc X ee, XOk D E k N sc X → matchE (txOf D) N sc (.not_ a) ee = true → ∃ x pos, ee = .UnaryOp .Not x pos ∧ PE X x (tE D E (cx D n) a) ∧ PT X x (tT D E (cx D n) a) := by
    intro E N sc X ee hX hm
    simp only [matchE] at hm
    split at hm
    · rename_i o x hxy
      obtain ⟨pos, rfl⟩ := asUn_eq hxy
      simp only [Bool.and_eq_true, beq_iff_eq] at hm
      obtain ⟨ep, hx⟩ := hm
      subst ep
      exact ⟨x, pos, rfl, ha E N sc X x hX hx, hat E N sc X x hX hx⟩
    · cases hm
  refine ⟨fun E N sc X ee hX hm => ?_, fun E N sc X ee hX hm => ?_⟩
  · obtain ⟨x, pos, rfl, px, _⟩ := key E N sc X ee hX hm
    refine PE.imp (t := fun σ H Q => tE D E (cx D n) a σ H fun x H1 => ∃ b, TruV X.K x H1 b ∧ Q (.bl (!b)) H1) ⟨fun pins s σ H Q I hq => ?_⟩ fun σ H Q q => ?_
    · exact UnaryOp_ (thn (px.run pins s σ H _ I hq) fun v s1 ⟨x, H1, I1, r1, b, tb, q1⟩ => not_of (thn (tru_ok pins s1 σ H1 x v (fun c H2 => Q (.bl (!c)) H2) I1 r1 ⟨b, tb, q1⟩) fun c s2 ⟨H2, I2, q2⟩ => ⟨.bl (!c), H2, I2, rfl, q2⟩))
    · obtain ⟨G, ρ, env, h, xh, re, q⟩ := q
      have q' : OkV D E G ρ ((evE (cx D n) a env h).bind fun v h1 => ((fun h => ofOpt (truthV h v) h) h1).bind fun b h2 => .ok (.bl (!b)) h2) Q := by
        have e : evE (cx D n) (.not_ a) env h = (evE (cx D n) a env h).bind fun v h1 => ((fun h => ofOpt (truthV h v) h) h1).bind fun b h2 => .ok (.bl (!b)) h2 := by
          show ((truthM (ev (cx D n) a env).e) h).bind _ = _
          show (((ev (cx D n) a env).e h).bind _).bind _ = _
          show _ = ((ev (cx D n) a env).e h).bind _
          cases (ev (cx D n) a env).e h <;> rfl
        rw [← e]
        exact q
      refine tG_bind xh re q' fun G1 ρ1 H1 y v h1 e1 x1 r1 q1 => ?_
      cases qt : truthV h1 v with
      | none => simp only [qt, ofOpt_none, R.bind_no] at q1; exact q1.elim
      | some b =>
        simp only [qt, ofOpt_some, R.bind_ok] at q1
        exact ⟨b, by rw [hX.hK]; exact tru_rel x1 r1 qt, q1 G1 ρ1 H1 _ Ext.refl x1 (.bl _)⟩
  · obtain ⟨x, pos, rfl, _, px⟩ := key E N sc X ee hX hm
    refine PT.imp (pt_not px) fun σ H Q q => ?_
    obtain ⟨G, ρ, env, h, xh, re, q⟩ := q
    refine tG_bind xh re q fun G1 ρ1 H1 y v h1 e1 x1 r1 q1 => ?_
    have r1' : v = y := r1
    subst r1'
    exact q1 G1 ρ1 H1 _ Ext.refl x1 rfl
theorem sim_ite {c a b : Ex} (hct : SimT D n k c) (ha : SimE D n k a) (hb : SimE D n k b) : SimE D n k (.ite c a b) := by
  intro E N sc X ee hX hm
  simp only [matchE] at hm
  split at hm
  · rename_i x y z hxy
    obtain ⟨pos, rfl⟩ := asIf_eq hxy
    simp only [Bool.and_eq_true] at hm
    obtain ⟨⟨h1, h2⟩, h3⟩ := hm
    refine PE.imp (pe_ifExp (hct E N sc X x hX h1) (ha E N sc X y hX h2) (hb E N sc X z hX h3)) fun σ H Q q => ?_
    obtain ⟨G, ρ, env, h, xh, re, q⟩ := q
    refine tG_bind xh re q fun G1 ρ1 H1 y v h1 e1 x1 r1 q1 => ?_
    have r1' : v = y := r1
    subst r1'
    cases v with
    | true => exact iteT ⟨G1, ρ1, env, h1, x1, re.mono e1, q1⟩
    | false => exact iteF ⟨G1, ρ1, env, h1, x1, re.mono e1, q1⟩
  · cases hm
end
end Sim

end
section
set_option Elab.async false
set_option linter.all false
set_option maxRecDepth 100000
/-! SimH: chains, subscripts, slices, fields, calls. -/
namespace Sim
open PySem PySem.Spec PyProof.Rows L2 Ev

section
variable {D : Wd} {n k : Nat} {E : XK} {N : List Str} {sc : Scope} {X : Cx} {ee : Expr} {G : Hp} {ρ : List Addr} {h : EHeap} {H : Hp}

/-! ### chains -/
def rOrd (o : COp) : R2 := rI0 fun i j => .bl (match o with | .lt => decide (i < j) | _ => decide (i ≤ j))
theorem op_ord (o : COp) (ho : (o == .le || o == .lt) = true) : OpR X (compareOp (copOf o)) (rOrd o) := by
  cases o <;> first | exact op_lt | exact op_le | (simp at ho)
theorem ord_sim (o : COp) : CmpSim D E (ordI o) (rOrd o) := by
  intro G ρ h H x y X Y Q xh rx ry q
  cases o <;> first
    | exact q.elim
    | (cases rx with
       | int i =>
         cases ry with
         | int j => exact ⟨i, j, rfl, rfl, q G ρ H _ Ext.refl xh rfl⟩
         | _ => exact q.elim
       | _ => exact q.elim)
theorem sim_chain (o p : COp) {a b d : Ex} (ha : SimE D n k a) (hb : SimE D n k b) (hd : SimE D n k d) : SimE D n k (.chain o p a b d) ∧ SimT D n k (.chain o p a b d) := by
  have rd : ∀ {X : Cx} {E : XK} {x y z : Expr} {σ : L2.St} {H : Hp} {Q : VK}, tE D E (cx D n) (.chain o p a b d) σ H Q → tChain (rOrd o) (rOrd p) (tE D E (cx D n) a) (tE D E (cx D n) b) (tE D E (cx D n) d) σ H Q := by
    intro X E x y z σ H Q q
    obtain ⟨G, ρ, env, h, xh, re, q⟩ := q
    refine tG_bind xh re q fun G1 ρ1 H1 y1 v h1 e1 x1 r1 q1 => ?_
    refine tG_bind x1 (re.mono e1) q1 fun G2 ρ2 H2 z1 w h2 e2 x2 r2 q2 => ?_
    refine ord_sim (E := E) o G2 ρ2 h2 H2 v w y1 z1 _ x2 (r1.mono e2) r2 ?_
    have q3 : OkV D E G2 ρ2 ((ordI o v w h2).bind fun c h3 => (if c = true then (do return .bl (← ordI p w (← evE (cx D n) d env)) : M Val) else pure (.bl false)) h3) Q := q2
    cases qf : ordI o v w h2 with
    | ok c h3 =>
      rw [qf] at q3
      intro G3 ρ3 H3 c' e3 x3 ec
      have ec' : c = c' := ec
      subst ec'
      refine ⟨c, rfl, ?_⟩
      cases c with
      | true =>
        refine iteT ?_
        have q4 : OkV D E G3 ρ3 ((evE (cx D n) d env h3).bind fun u h4 => (ordI p w u h4).bind fun c h5 => .ok (.bl c) h5) Q := OkG.mono e3 q3
        refine tG_bind x3 ((re.mono e1).mono (e2.trans e3)) q4 fun G4 ρ4 H4 y4 u h4 e4 x4 r4 q5 => ?_
        refine ord_sim (E := E) p G4 ρ4 h4 H4 w u z1 y4 _ x4 (r2.mono (e3.trans e4)) r4 ?_
        cases qg : ordI p w u h4 with
        | ok c h5 =>
          rw [qg] at q5
          intro G5 ρ5 H5 c' e5 x5 ec
          have ec' : c = c' := ec
          subst ec'
          exact q5 G5 ρ5 H5 _ e5 x5 (.bl _)
        | exc _ _ _ => rw [qg] at q5; exact q5
        | no => rw [qg] at q5; exact q5
      | false => exact iteF (q3 G3 ρ3 H3 _ e3 x3 (.bl _))
    | exc _ _ _ => rw [qf] at q3; exact q3
    | no => rw [qf] at q3; exact q3
  have key : ∀ E N sc X ee, XOk D E k N sc X → matchE (txOf D) N sc (.chain o p a b d) ee = true → PE X ee (tE D E (cx D n) (.chain o p a b d)) ∧ PT X ee (tB (tE D E (cx D n) (.chain o p a b d))) := by
    intro E N sc X ee hX hm
    simp only [matchE] at hm
    split at hm
    · rename_i x q r y z hxy
      obtain ⟨pos, rfl⟩ := asCmp2_eq hxy
      simp only [Bool.and_eq_true, beq_iff_eq] at hm
      obtain ⟨⟨⟨⟨⟨⟨⟨eq, er⟩, hns⟩, ho⟩, hp⟩, hx⟩, hy⟩, hz⟩ := hm
      subst eq
      subst er
      have hl : lastMarks [copOf o, copOf p] [y, z] = false := notSet_ok hns _
      have px := ha E N sc X x hX hx
      have py := hb E N sc X y hX hy
      have pz := hd E N sc X z hX hz
      exact ⟨PE.imp (pe_chain (op_ord o ho) (op_ord p hp) px py pz hl) fun σ H Q q => rd (X := X) (x := x) (y := y) (z := z) q, PT.imp (pt_chain (op_ord o ho) (op_ord p hp) px py pz hl) fun σ H Q q => rd (X := X) (x := x) (y := y) (z := z) q⟩
    · cases hm
  refine ⟨fun E N sc X ee hX hm => (key E N sc X ee hX hm).1, fun E N sc X ee hX hm => pt_of_bl (key E N sc X ee hX hm).2 (fun _ => rfl) fun env h v h' e => ?_⟩
  have e' : (evE (cx D n) a env h).bind (fun x h1 => (evE (cx D n) b env h1).bind fun y h2 => (ordI o x y h2).bind fun c h3 => (if c = true then (do return .bl (← ordI p y (← evE (cx D n) d env)) : M Val) else pure (.bl false)) h3) = .ok v h' := e
  cases q1 : evE (cx D n) a env h with
  | ok x h1 =>
    simp only [q1, R.bind_ok] at e'
    cases q2 : evE (cx D n) b env h1 with
    | ok y h2 =>
      simp only [q2, R.bind_ok] at e'
      cases q3 : ordI o x y h2 with
      | ok c h3 =>
        simp only [q3, R.bind_ok] at e'
        cases c with
        | false => simp at e'; exact ⟨false, e'.1.symm⟩
        | true =>
          simp at e'
          cases q4 : evE (cx D n) d env h3 with
          | ok u h4 =>
            simp only [q4, R.bind_ok] at e'
            cases q5 : ordI p y u h4 with
            | ok c h5 => simp only [M.bind_at, M.pure_at, q5, R.bind_ok] at e'; cases e'; exact ⟨_, rfl⟩
            | exc _ _ _ => simp only [M.bind_at, q5, R.bind_exc] at e'; cases e'
            | no => simp only [M.bind_at, q5, R.bind_no] at e'; cases e'
          | exc _ _ _ => rw [q4] at e'; cases e'
          | no => rw [q4] at e'; cases e'
      | exc _ _ _ => rw [q3] at e'; cases e'
      | no => rw [q3] at e'; cases e'
    | exc _ _ _ => rw [q2] at e'; cases e'
    | no => rw [q2] at e'; cases e'
  | exc _ _ _ => rw [q1] at e'; cases e'
  | no => rw [q1] at e'; cases e'

/-! ### subscripts -/
theorem ix_dict (hu : X.A.units + 1 < cLine) : IxR X (fun x y H Q => ∃ a v, x = .ref a ∧ DGet H a y (some v) ∧ Q v H) := by
  intro value slice pins s σ H x y v u Q I rx ry q hs
  obtain ⟨a, w, rfl, g, q⟩ := q
  obtain rfl : v = Value.ref a := rx
  exact tail_any (dict_typeIs I g) PySem.F.slot_dict_getitem.lookup (d_getItem hu I g ry fun w' s' I' r' => ⟨w, H, I', r', q⟩) hs
theorem atI_ix {α : Type} (f : List V) (i : Int) : atI f i = (Ev.ixOf f.length i).bind fun j => f[j]? := rfl
theorem ix_rel {l : List Val} {us : List V} (r : RVs D G ρ l us) {i : Int} {v : Val} (e : ((Ev.ixOf l.length i).bind fun j => l[j]?) = some v) : ∃ u, atI us i = some u ∧ RV D G ρ v u := by
  cases q : Ev.ixOf l.length i with
  | none => rw [q] at e; cases e
  | some j =>
    rw [q] at e
    obtain ⟨u, h1, h2⟩ := r.get e
    refine ⟨u, ?_, h2⟩
    show (Ev.ixOf us.length i).bind _ = _
    rw [r.length, q]
    exact h1
theorem sOk_one {s : Str} (hs : sOk s) {i : Nat} {c : Nat} (e : s.cps[i]? = some c) : sOk ⟨#[c]⟩ := by
  refine ⟨by show 1 ≤ most; decide, ?_⟩
  have h1 := hs.ok
  unfold PyData.strOk at h1 ⊢
  have hc : c ∈ s.cps := Array.mem_of_getElem? e
  have h2 := (Array.all_eq_true_iff_forall_mem.mp h1) c hc
  simpa using h2
def rIdx (K : PySem.W.Frag) (w : World) : R2 := fun x y H Q => ((rIx K x y H Q) ∨ (∃ a v, x = .ref a ∧ DGet H a y (some v) ∧ Q v H)) ∨ rIxD K w x y H Q
theorem ix_all (hX : XOk D E k N sc X) : IxR X (rIdx X.K X.w) := (ix_seq.or (ix_dict hX.hu1)).or ix_kdict
theorem idx_sim (S : Tab D) : OpSim D E (idxV D.cfg.tabs) (rIdx D.K D.w) := by
  intro G ρ h H x y X Y Q xh rx ry q
  cases rx with
  | str z hz =>
    cases ry with
    | int i =>
      simp only [idxV] at q
      cases e : (Ev.ixOf z.length i).bind fun j => z.cps[j]? with
      | none => rw [e] at q; exact q.elim
      | some c =>
        rw [e] at q
        refine .inl (.inl (.inr (.inr ⟨z, i, c, rfl, rfl, by rw [← most_line]; exact hz.len, ?_, q G ρ H _ Ext.refl xh (.str _ ?_)⟩)))
        · show (Ev.ixOf z.cps.toList.length i).bind _ = _
          have el : z.cps.toList.length = z.length := by simp [Str.length]
          rw [el]
          cases e2 : Ev.ixOf z.length i with
          | none => rw [e2] at e; cases e
          | some j => rw [e2] at e; simpa using e
        · cases e2 : Ev.ixOf z.length i with
          | none => rw [e2] at e; cases e
          | some j => rw [e2] at e; exact sOk_one hz e
    | _ => exact q.elim
  | gl g hg =>
    cases ry with
    | str z hz =>
      simp only [idxV] at q
      cases ht : D.cfg.tabs g with
      | none => rw [ht] at q; exact q.elim
      | some t =>
        rw [ht] at q
        simp only [Option.bind_some] at q
        obtain ⟨es, m, kd, f⟩ := S.tab g t ht
        cases hl : t.lookup z with
        | none => rw [hl] at q; exact q.elim
        | some v =>
          rw [hl] at q
          obtain ⟨u, V, h1, h2, h3⟩ := (f z).2 v hl
          exact .inr ⟨_, z, V, rfl, rfl, ⟨es, m, u, kd.at_, kd.lit, h1, h2⟩, q G ρ H V Ext.refl xh (h3 G ρ)⟩
    | _ => simp only [idxV] at q; exact q.elim
  | ref hr =>
    rename_i m a
    obtain ⟨o, u, h1, h2, h3⟩ := xh.at_ hr
    simp only [idxV, h1] at q
    cases o with
    | dict t l =>
      simp only at q
      split at q
      · rename_i hc
        obtain ⟨o, d1, d2⟩ := dget_rel xh hr h1 hc ry
        cases e : Ev.dictGet l y with
        | none => rw [e] at q; exact q.elim
        | some v =>
          rw [e] at q d2
          cases o with
          | none => exact d2.elim
          | some w => exact .inl (.inr ⟨a, w, rfl, d1, q G ρ H w Ext.refl xh d2⟩)
      · exact q.elim
    | list l =>
      cases h3 with
      | list rl hl =>
        cases ry with
        | int i =>
          simp only at q
          cases e : (Ev.ixOf l.length i).bind fun j => l[j]? with
          | none => rw [e] at q; exact q.elim
          | some v =>
            rw [e] at q
            obtain ⟨w, w1, w2⟩ := ix_rel rl e
            exact .inl (.inl (.inl ⟨a, _, i, w, rfl, rfl, .inl (.inl h2), w1, q G ρ H w Ext.refl xh w2⟩))
        | _ => exact q.elim
    | inst c f => exact q.elim
  | tup s hl rs =>
    cases ry with
    | int i =>
      simp only [idxV] at q
      rename_i l us
      cases e : (Ev.ixOf l.length i).bind fun j => l[j]? with
      | none => rw [e] at q; exact q.elim
      | some v =>
        rw [e] at q
        obtain ⟨w, w1, w2⟩ := ix_rel rs e
        exact .inl (.inl (.inr (.inl ⟨_, _, i, w, rfl, rfl, .inl (.inl (xh.sub _ _ s)), w1, q G ρ H w Ext.refl xh w2⟩)))
    | _ => exact q.elim
  | ktp s hl rs =>
    cases ry with
    | int i =>
      simp only [idxV] at q
      rename_i l us
      cases e : (Ev.ixOf l.length i).bind fun j => l[j]? with
      | none => rw [e] at q; exact q.elim
      | some v =>
        rw [e] at q
        obtain ⟨w, w1, w2⟩ := ix_rel rs e
        rcases ktp_seq xh.sub s with s | s
        · exact .inl (.inl (.inl ⟨_, _, i, w, rfl, rfl, s, w1, q G ρ H w Ext.refl xh w2⟩))
        · exact .inl (.inl (.inr (.inl ⟨_, _, i, w, rfl, rfl, s, w1, q G ρ H w Ext.refl xh w2⟩)))
    | _ => exact q.elim
  | scr s hl rs =>
    cases ry with
    | int i =>
      simp only [idxV] at q
      rename_i l us
      cases e : (Ev.ixOf l.length i).bind fun j => l[j]? with
      | none => rw [e] at q; exact q.elim
      | some v =>
        rw [e] at q
        obtain ⟨w, w1, w2⟩ := ix_rel rs e
        exact .inl (.inl (.inl ⟨_, _, i, w, rfl, rfl, scr_seq xh.sub s, w1, q G ρ H w Ext.refl xh w2⟩))
    | _ => exact q.elim
  | lst s hl rs =>
    cases ry with
    | int i =>
      simp only [idxV] at q
      rename_i l us
      cases e : (Ev.ixOf l.length i).bind fun j => l[j]? with
      | none => rw [e] at q; exact q.elim
      | some v =>
        rw [e] at q
        obtain ⟨w, w1, w2⟩ := ix_rel rs e
        exact .inl (.inl (.inl ⟨_, _, i, w, rfl, rfl, .inl (.inl (xh.sub _ _ s)), w1, q G ρ H w Ext.refl xh w2⟩))
    | _ => exact q.elim
  | _ => cases ry <;> exact q.elim
theorem sim_idx (S : Tab D) {a b : Ex} (ha : SimE D n k a) (hb : SimE D n k b) : SimE D n k (.idx a b) := by
  intro E N sc X ee hX hm
  simp only [matchE] at hm
  split at hm
  · rename_i x y hxy
    obtain ⟨pos, rfl⟩ := asSub_eq hxy
    simp only [Bool.and_eq_true] at hm
    obtain ⟨⟨h0, hx⟩, hy⟩ := hm
    refine PE.imp (pe_ix (ix_all hX) (ha E N sc X x hX hx) (hb E N sc X y hX hy) (notSlice_ok h0)) fun σ H Q q => ?_
    obtain ⟨G, ρ, env, h, xh, re, q⟩ := q
    refine tG_bind xh re q fun G1 ρ1 H1 y1 v h1 e1 x1 r1 q1 => ?_
    refine tG_bind x1 (re.mono e1) q1 fun G2 ρ2 H2 z1 w h2 e2 x2 r2 q2 => ?_
    rw [hX.hK, hX.hw]
    exact idx_sim S G2 ρ2 h2 H2 v w y1 z1 Q x2 (r1.mono e2) r2 q2
  · cases hm
end
end Sim

end
section
set_option Elab.async false
set_option linter.all false
set_option maxRecDepth 100000
/-! SimI: slices, fields, calls. -/
namespace Sim
open PySem PySem.Spec PyProof.Rows L2 Ev

section
variable {D : Wd} {n k : Nat} {E : XK} {N : List Str} {sc : Scope} {X : Cx} {ee : Expr} {G : Hp} {ρ : List Addr} {h : EHeap} {H : Hp}

/-! ### slices -/
abbrev tO (D : Wd) (E : XK) (c : ECtx) (e : Ex) : L2.St → Hp → (Option Int → Hp → Prop) → Prop := tG D E relI (evO c e)
theorem PO.imp {e : Option Expr} {t t' : TO} (h : PO X e t) (f : ∀ σ H Q, t' σ H Q → t σ H Q) : PO X e t' := ⟨fun pins s σ H Q I q => h.run pins s σ H Q I (f σ H Q q)⟩
/-- all other forms than nop: a slice's part is an int -/
def plainO : Ex → Bool
  | .nop => false
  | .cons _ _ => false | .nil => false | .and_ _ _ => false | .or_ _ _ => false | .not_ _ => false
  | .fdisp _ => false | .fcomp _ _ _ _ _ => false | .fslc _ _ _ => false | .fprim _ _ => false
  | .itV _ => false | .itRange _ => false | .itEnum _ => false | .itZip _ _ => false | .itItems _ => false | .itValues _ => false | .itIter _ => false
  | _ => true
theorem evO_plain (c : ECtx) {e : Ex} (h : plainO e = true) (env : EEnv) (hp : EHeap) : evO c e env hp = (evE c e env hp).bind fun v h1 => ofOpt (optInt v) h1 := by
  cases e <;> first | (cases h; done) | rfl
theorem evO_other (c : ECtx) {e : Ex} (h : plainO e = false) (hn : isNop e = false) (env : EEnv) (hp : EHeap) : evO c e env hp = .no := by
  cases e <;> first | (cases h; done) | (cases hn; done) | rfl
theorem po_of {e : Ex} {o : Option Expr} (he : SimE D n k e) (hX : XOk D E k N sc X) (hm : (match o with
        | none => isNop e
        | some z => !isNop e && matchE (txOf D) N sc e z) = true) : PO X o (tO D E (cx D n) e) := by
  cases o with
  | none =>
    have en : e = .nop := by cases e <;> first | rfl | (cases hm; done)
    subst en
    refine PO.imp po_none fun σ H Q q => ?_
    obtain ⟨G, ρ, env, h, xh, re, q⟩ := q
    exact q G ρ H none Ext.refl xh rfl
  | some z =>
    simp only [Bool.and_eq_true, Bool.not_eq_true'] at hm
    refine PO.imp (po_some (he E N sc X z hX hm.2)) fun σ H Q q => ?_
    obtain ⟨G, ρ, env, h, xh, re, q⟩ := q
    cases hp : plainO e with
    | false =>
      have q' : OkG D E relI G ρ (evO (cx D n) e env h) Q := q
      rw [evO_other _ hp hm.1] at q'
      exact q'.elim
    | true =>
      have q' : OkG D E relI G ρ (evO (cx D n) e env h) Q := q
      rw [evO_plain _ hp] at q'
      refine tG_bind xh re q' fun G1 ρ1 H1 y v h1 e1 x1 r1 q1 => ?_
      cases r1 with
      | int i => exact ⟨i, rfl, q1 G1 ρ1 H1 _ Ext.refl x1 rfl⟩
      | _ => exact q1.elim
theorem sOk_sub {s : Str} (hs : sOk s) {l : List Nat} (hl : l.length ≤ s.length) (hm : ∀ c ∈ l, c ∈ s.cps.toList) : sOk ⟨l.toArray⟩ := by
  refine ⟨Nat.le_trans (by show l.toArray.size ≤ s.length; simpa using hl) hs.len, ?_⟩
  have h1 := hs.ok
  unfold PyData.strOk at h1 ⊢
  rw [Array.all_eq_true_iff_forall_mem] at h1 ⊢
  intro c hc
  exact h1 c (by simpa using hm c (by simpa using hc))
theorem cut_len {α : Type} (l : List α) (lo hi : Option Int) : (Ev.cutL l lo hi).length ≤ l.length := by
  unfold Ev.cutL
  rw [List.length_take, List.length_drop]
  omega
theorem cut_rel {l : List Val} {us : List V} (r : RVs D G ρ l us) (lo hi : Option Int) : RVs D G ρ (Ev.cutL l lo hi) (cutV us lo hi) := by
  have e : cutV us lo hi = (us.drop (Ev.cutIx us.length 0 lo)).take (Ev.cutIx us.length us.length hi - Ev.cutIx us.length 0 lo) := rfl
  rw [e, r.length]
  exact (r.drop _).take _
theorem cut_all {α : Type} (l : List α) (lo hi : Option Int) (h1 : Ev.cutIx l.length 0 lo = 0) (h2 : Ev.cutIx l.length l.length hi = l.length) : Ev.cutL l lo hi = l := by
  unfold Ev.cutL
  rw [h1, h2]
  simp
theorem slice_sim {x : Val} {X : V} {lo hi : Option Int} {Q : VK} (xh : RH D G ρ h H) (rx : RV D G ρ x X) (q : OkV D E G ρ (sliceV x lo hi h) Q) : (rSlS X lo hi H Q ∨ rSlA D.K X lo hi H Q) ∨ rSlL D.K X lo hi H Q := by
  cases rx with
  | str z hz =>
    refine .inl (.inl ⟨z, rfl, by rw [← most_line]; exact hz.len, ?_⟩)
    have e : cutS z lo hi = ⟨(Ev.cutL z.cps.toList lo hi).toArray⟩ := by
      unfold cutS Ev.cutL
      have el : z.length = z.cps.toList.length := by simp [Str.length]
      rw [el]
      rfl
    rw [e]
    refine q G ρ H _ Ext.refl xh (.str _ (sOk_sub hz ?_ fun c hc => ?_))
    · refine Nat.le_trans (cut_len _ _ _) ?_
      simp [Str.length]
    · exact List.mem_of_mem_drop (List.mem_of_mem_take hc)
  | tup s hl rs =>
    rename_i a l us
    refine .inl (.inr ⟨a, us, rfl, .inl (.inl (xh.sub _ _ s)), fun ⟨e1, e2⟩ => ?_, fun _ p np => ?_⟩)
    · rw [rs.length] at e1 e2
      have q' : OkV D E G ρ (.ok (.tup (Ev.cutL l lo hi)) h) Q := q
      rw [cut_all l lo hi e1 e2] at q'
      exact q' G ρ H _ Ext.refl xh (.tup s hl rs)
    · obtain ⟨x2, e⟩ := xh.freeze (o := .tup (cutV us lo hi)) np
      exact q _ _ _ _ e x2 (.tup upd_same (Nat.le_trans (cut_len _ _ _) hl) ((cut_rel rs lo hi).mono e))
  | lst s hl rs =>
    rename_i a l us
    refine .inr ⟨a, us, rfl, .inl (.inl (xh.sub _ _ s)), fun p np => ?_⟩
    obtain ⟨x2, e⟩ := xh.freeze (o := .lst (cutV us lo hi)) np
    exact q _ _ _ _ e x2 (.lst upd_same (Nat.le_trans (cut_len _ _ _) hl) ((cut_rel rs lo hi).mono e))
  | ref hr =>
    rename_i m a
    obtain ⟨o, u, h1, h2, h3⟩ := xh.at_ hr
    simp only [sliceV, Ev.listOf, h1] at q
    cases h3 with
    | list rl hl =>
      refine .inr ⟨a, _, rfl, .inl (.inl h2), fun p np => ?_⟩
      obtain ⟨x2, e⟩ := xh.freeze (o := .lst (cutV _ lo hi)) np
      exact q _ _ _ _ e x2 (.lst upd_same (Nat.le_trans (cut_len _ _ _) hl) ((cut_rel rl lo hi).mono e))
    | dictK _ => exact q.elim
    | dictT _ => exact q.elim
    | inst _ => exact q.elim
  | _ => exact q.elim
theorem sim_slc {a lo hi : Ex} (ha : SimE D n k a) (hlo : SimE D n k lo) (hhi : SimE D n k hi) : SimE D n k (.slc a lo hi) := by
  intro E N sc X ee hX hm
  simp only [matchE] at hm
  split at hm
  · rename_i x y hxy
    obtain ⟨pos, rfl⟩ := asSub_eq hxy
    split at hm
    · rename_i l u s hs
      obtain ⟨p2, rfl⟩ := asSlice_eq hs
      simp only [Bool.and_eq_true, Option.isNone_iff_eq_none] at hm
      obtain ⟨⟨⟨hs0, hx⟩, hl⟩, hu⟩ := hm
      subst hs0
      refine PE.imp (pe_slice ((sl_str.or sl_tupA).or sl_list) (ha E N sc X x hX hx) (po_of hlo hX hl) (po_of hhi hX hu)) fun σ H Q q => ?_
      obtain ⟨G, ρ, env, h, xh, re, q⟩ := q
      refine tG_bind xh re q fun G1 ρ1 H1 y1 v h1 e1 x1 r1 q1 => ?_
      refine tG_bind x1 (re.mono e1) q1 fun G2 ρ2 H2 z1 w h2 e2 x2 r2 q2 => ?_
      refine tG_bind x2 ((re.mono e1).mono e2) q2 fun G3 ρ3 H3 z2 w2 h3 e3 x3 r3 q3 => ?_
      have r2' : w = z1 := r2
      have r3' : w2 = z2 := r3
      subst r2'
      subst r3'
      rw [hX.hK]
      exact slice_sim x3 (r1.mono (e2.trans e3)) q3
    · cases hm
  · cases hm

/-! ### fields -/
theorem fs_rel : ∀ {fs : List (String × Val)} {gs : List (Str × V)}, Paired (fun (p : String × Val) (q : Str × V) => lit p.1 = q.1 ∧ RV D G ρ p.2 q.2) fs gs → ∀ f : String,
    (match fldGet fs f, gs.lookup (lit f) with
      | some v, some x => RV D G ρ v x
      | none, none => True
      | _, _ => False)
  | _, _, .nil, f => trivial
  | _, _, .cons (a := p) (b := q) (l₁ := l) (l₂ := m) r t, f => by
    have ih := fs_rel t f
    unfold fldGet at ih ⊢
    obtain ⟨p1, p2⟩ := p
    obtain ⟨q1, q2⟩ := q
    obtain ⟨r1, r2⟩ := r
    simp only [List.lookup_cons] at ih ⊢
    by_cases e : f = p1
    · subst e
      simp only at r1
      subst r1
      simp
      exact r2
    · have e2 : (f == p1) = false := by simpa using e
      have e3 : (lit f == q1) = false := by
        simp only at r1
        rw [← r1]
        simpa using fun z => e (lit_inj z)
      rw [e2, e3]
      exact ih
theorem sim_attr (S : Stat D) (f : String) {a : Ex} (ha : SimE D n k a) : SimE D n k (.attr a f) := by
  intro E N sc X ee hX hm
  simp only [matchE] at hm
  split at hm
  · rename_i x g hxy
    obtain ⟨pos, rfl⟩ := asAttr_eq hxy
    simp only [Bool.and_eq_true, beq_iff_eq] at hm
    obtain ⟨⟨eg, hs⟩, hx⟩ := hm
    subst eg
    refine PE.imp (pe_fld (ha E N sc X x hX hx) (notSuper_ok hs _ _ _)) fun σ H Q q => ?_
    obtain ⟨G, ρ, env, h, xh, re, q⟩ := q
    refine tG_bind xh re q fun G1 ρ1 H1 y1 v h1 e1 x1 r1 q1 => ?_
    cases r1 with
    | ref hr =>
      rename_i m a
      obtain ⟨o, u, g1, g2, g3⟩ := x1.at_ hr
      have q1' : OkV D E G1 ρ1 (attrV D.cfg.fld (.ref m) f h1) Q := q1
      simp only [attrV, g1] at q1'
      cases g3 with
      | inst rf =>
        simp only at q1'
        split at q1'
        · rename_i hf
          obtain ⟨c1, c2⟩ := S.fld _ f hf
          have fr := fs_rel rf f
          revert q1' fr
          cases fldGet _ f with
          | none => intro q1' fr; exact q1'.elim
          | some w =>
            intro q1' fr
            cases eg : List.lookup (lit f) _ with
            | none => rw [eg] at fr; exact fr.elim
            | some z =>
              rw [eg] at fr
              rw [hX.hK]
              exact ⟨a, _, _, _, z, rfl, g2, c1, c2, eg, q1' G1 ρ1 H1 z Ext.refl x1 fr⟩
        · exact q1'.elim
      | list _ _ => exact q1'.elim
      | dictK _ => exact q1'.elim
      | dictT _ => exact q1'.elim
    | _ => exact q1.elim
  · cases hm

/-! ### calls -/
theorem XOk.fn {f : String} {d : FnDef} (hX : XOk D E k N sc X) (F : FnsOk D n k) (hd : D.cfg.fn f = some d) : FnOk X.prog X.w X.K X.mg X.base (L2.CX X.prog X.w) k (D.fadr f) (D.fdat f) (D.fps f) (spF D n f) := by
  have h := F f d hd
  rw [hX.hP, hX.hw, hX.hK, hX.hmg, hX.hb]
  exact h
theorem XOk.pass (hX : XOk D E k N sc X) : Passes (L2.CX X.prog X.w) X E := passes_call hX.takes fun _ _ _ _ h => h
theorem run_none {f : String} (hn : D.cfg.fn f = none) (args : List Val) (h : EHeap) : run D.cfg n f args h = .no := by
  cases n with
  | zero => rfl
  | succ n => show (match D.cfg.fn f with | some d => _ | none => stuck) h = _; rw [hn]; rfl
theorem plainArgs : ∀ {es : Ex} {l : List Expr}, matchL (txOf D) N sc es l = true → ∀ env pos, (backTo pos (starEach l env)).any (·.1) = false
  | es, [], hm, env, pos => rfl
  | es, x :: r, hm, env, pos => by
    cases es with
    | cons a b =>
      simp only [matchL, Bool.and_eq_true] at hm
      rw [star_of hm.1.1]
      have ih := plainArgs hm.2 env pos
      simp only [backTo, List.map_cons, List.any_cons] at ih ⊢
      rw [ih]
      rfl
    | _ => simp [matchL] at hm
theorem sim_call (S : Stat D) (F : FnsOk D n k) (f : String) {es : Ex} (hes : SimL D n k es) : SimE D n k (.call f es) := by
  intro E N sc X ee hX hm
  simp only [matchE] at hm
  split at hm
  · rename_i g l hxy
    obtain ⟨pos, rfl⟩ := asCall_eq hxy
    split at hm
    · rename_i y hy
      obtain ⟨p, rfl⟩ := asName_eq hy
      simp only [Bool.and_eq_true, beq_iff_eq] at hm
      obtain ⟨⟨⟨⟨ey, hg⟩, ho⟩, ht⟩, hl⟩ := hm
      subst ey
      obtain ⟨hpl, m1, m2, m3⟩ := S.top f ht
      obtain ⟨d, hd⟩ := S.plain f hpl
      have hgl : Gl X (lit f) := by show X.env.scope.names.lookup _ = _; rw [hX.hsc]; exact glB_ok hg
      have hmg : X.mg (lit f) = some (.ref (D.fadr f)) := by rw [hX.hmg]; exact m1
      have hkp : PySem.W.keepIn X.K (.ref (D.fadr f)) = true := by rw [hX.hK]; exact m2
      have hb : Binds X.K (D.fdat f) (D.fps f) [] := by rw [hX.hK]; exact S.bind f d hd hpl
      have rd : ∀ σ H Q, tE D E (cx D n) (.call f es) σ H Q → tCall (spF D n f) [] E (tA D E (cx D n) es) σ H Q := by
        intro σ H Q q
        obtain ⟨G, ρ, env, h, xh, re, q⟩ := q
        refine tG_bind xh re q fun G1 ρ1 H1 y1 vs h1 e1 x1 r1 q1 => ?_
        exact ⟨G1, ρ1, h1, vs, x1, by rw [List.append_nil]; exact r1, q1⟩
      cases l with
      | nil =>
        refine PE.imp (pe_call0 (hX.fn F hd) hX.room hgl hmg hkp hb .nil hX.pass (okName_d ho)) fun σ H Q q => ?_
        obtain ⟨G, ρ, env, h, xh, re, q⟩ := rd σ H Q q
        cases es with
        | nil => exact q G ρ H [] Ext.refl xh .nil
        | _ => simp [matchL] at hl
      | cons x r =>
        have h1 : notStar x = true := by
          cases es <;> simp [matchL] at hl
          exact hl.1.1
        have h2 : ∀ pos, (backTo pos (starEach r X.env)).any (·.1) = false := fun pos => by
          cases es <;> simp [matchL] at hl
          exact plainArgs (D := D) (N := N) (sc := sc) hl.2 _ _
        exact PE.imp (pe_call (hX.fn F hd) hX.room hgl hmg hkp hb .nil hX.pass (hes E N sc X (x :: r) hX hl) (okName_d ho) (star_of h1 _ _) (h2 _)) rd
    · cases hm
  · cases hm
/-- a call of the def that a local name holds -/
theorem sim_callV (S : Stat D) (F : FnsOk D n k) (i : Nat) {es : Ex} (hes : SimL D n k es) : SimE D n k (.callV i es) := by
  intro E N sc X ee hX hm
  simp only [matchE] at hm
  split at hm
  · rename_i g l hxy
    obtain ⟨pos, rfl⟩ := asCall_eq hxy
    split at hm
    · rename_i y hy
      obtain ⟨p, rfl⟩ := asName_eq hy
      simp only [Bool.and_eq_true, beq_iff_eq, Bool.not_eq_true'] at hm
      obtain ⟨⟨⟨⟨hi, hv⟩, ho⟩, hne⟩, hl⟩ := hm
      cases l with
      | nil => cases hne
      | cons x r =>
        have h1 : notStar x = true := by
          cases es <;> simp [matchL] at hl
          exact hl.1.1
        have h2 : ∀ pos, (backTo pos (starEach r X.env)).any (·.1) = false := fun pos => by
          cases es <;> simp [matchL] at hl
          exact plainArgs (D := D) (N := N) (sc := sc) hl.2 _ _
        have pv := sim_var (D := D) (n := n) (k := k) i E N sc X (.Name y p) hX (by
          simp only [matchE, asName, Bool.and_eq_true, beq_iff_eq]
          exact ⟨⟨hi, hv⟩, ho⟩)
        have pa := hes E N sc X (x :: r) hX hl
        refine ⟨fun pins s σ H Q I q => ?_⟩
        obtain ⟨G, ρ, env, h, xh, re, q⟩ := q
        have q' : OkV D E G ρ ((evE (cx D n) (.var i) env h).bind fun v h1 => (match v with
          | .gl f => (if D.cfg.tops f = true then (do run D.cfg n f (← evL (cx D n) es env)) else stuck : M Val)
          | _ => stuck) h1) Q := q
        have st : tE D E (cx D n) (.var i) σ H (fun y1 H1 => ∃ G1 ρ1 v h1, RH D G1 ρ1 h1 H1 ∧ REnv D G1 ρ1 env σ ∧ RV D G1 ρ1 v y1 ∧ OkV D E G1 ρ1 ((match v with
          | .gl f => (if D.cfg.tops f = true then (do run D.cfg n f (← evL (cx D n) es env)) else stuck : M Val)
          | _ => stuck) h1) Q) := tG_bind xh re q' fun G1 ρ1 H1 y1 v h1 e1 x1 r1 q1 => ⟨G1, ρ1, v, h1, x1, re.mono e1, r1, q1⟩
        refine wpAny_Call_Name_kw (thn (pv.run pins s σ H _ I st) fun u s1 ⟨y1, H1, I1, ry, w⟩ => ?_)
        obtain ⟨G1, ρ1, v, h1', x1, re1, r1, q1⟩ := w
        cases r1 with
        | gl f hf =>
          simp only at q1
          split at q1
          · rename_i hs
            obtain ⟨hpl, _, hkp, ea⟩ := S.top f (S.tops f hs)
            obtain ⟨d, hd⟩ := S.plain f hpl
            obtain rfl : u = Value.ref (D.adr f) := ry
            rw [ea]
            refine PySem.W.callWith_K (h₀ := X.base) I1.ok.mod.kin (by rw [hX.hK]; exact hkp) (thn (pa.run pos pins s1 σ H1 _ I1 (tG_bind x1 re1 q1 fun G2 ρ2 H2 y2 vs h2 e2 x2 r2 q2 => (⟨G2, ρ2, h2, vs, x2, r2, q2⟩ : spF D n f y2 H2 Q E))) fun us s2 ⟨vs, H2, I2, r, q2⟩ => ⟨I2.kIn, ?_⟩) (star_of h1 _ _) (h2 _)
            exact run_fn (hX.fn F hd) hX.room (by rw [hX.hK]; exact S.bind f d hd hpl) .nil hX.pass I2 r (by rw [List.append_nil]; exact q2)
          · exact q1.elim
        | _ => exact q1.elim
    · cases hm
  · cases hm
theorem eval_meth {x : Expr} {m : Str} {ap cp : Pos} {l : List Expr} {env : PySem.Env} (hs : notSuper x = true) (hline : (ap.endLine == cp.line) = true) (hfew : methodCallForm l.length (backTo cp (starEach l env)) (backToKw cp (keywordEach [] env)) = true) :
    eval (.Call (.Attribute x m ap) l [] cp) env = (do
      let ov ← eval x env
      standAt ap.atName
      let (f, first) ← holding [ov] (getMethod ov m (do return (← importBound x env).getD true))
      callWith cp f first (backTo cp (starEach l env)) (backToKw cp (keywordEach [] env))) := by
  show (do
    let ov ← attributeBase x m env (eval x env)
    standAt ap.atName
    methodCall x m ap cp env ov (l.length + 0) (backTo cp (starEach l env)) (backToKw cp (keywordEach [] env))) = _
  rw [notSuper_ok hs]
  unfold methodCall calleeOf methodCallPos
  rw [Nat.add_zero, hfew]
  simp only [hline, Bool.not_true, Bool.false_or, if_true]
  rfl
theorem few_of {es : Ex} {l : List Expr} (hm : matchL (txOf D) N sc es l = true) (hl : l.length < 20) (env : PySem.Env) (pos : Pos) : methodCallForm l.length (backTo pos (starEach l env)) (backToKw pos (keywordEach [] env)) = true := by
  have h1 := plainArgs (D := D) hm env pos
  unfold methodCallForm
  have h2 : (backTo pos (starEach l env)).all (fun x => !x.1) = true := by
    rw [List.all_eq_not_any_not]
    simpa using h1
  rw [h2]
  simp [backToKw, keywordEach]
  omega
/-- o.m(..) -/
theorem sim_meth (S : Stat D) (F : FnsOk D n k) (m : String) {o es : Ex} (ho : SimE D n k o) (hes : SimL D n k es) : SimE D n k (.meth o m es) := by
  intro E N sc X ee hX hm
  simp only [matchE] at hm
  split at hm
  · rename_i x y l hxy
    obtain ⟨ap, cp, rfl, hline⟩ := asMeth_eq hxy
    simp only [Bool.and_eq_true, beq_iff_eq] at hm
    obtain ⟨⟨⟨⟨ey, hs⟩, hlen⟩, hx⟩, hl⟩ := hm
    subst ey
    have po := ho E N sc X x hX hx
    have pa := hes E N sc X l hX hl
    refine ⟨fun pins s σ H Q I q => ?_⟩
    obtain ⟨G, ρ, env, h, xh, re, q⟩ := q
    have q' : OkV D E G ρ ((evE (cx D n) o env h).bind fun v h1 => ((methKey (cx D n) v m h1).bind fun key h2 => (evL (cx D n) es env h2).bind fun vs h3 => run D.cfg n key (v :: vs) h3)) Q := q
    have st : tE D E (cx D n) o σ H (fun y1 H1 => ∃ G1 ρ1 v h1, RH D G1 ρ1 h1 H1 ∧ REnv D G1 ρ1 env σ ∧ RV D G1 ρ1 v y1 ∧ OkV D E G1 ρ1 ((methKey (cx D n) v m h1).bind fun key h2 => (evL (cx D n) es env h2).bind fun vs h3 => run D.cfg n key (v :: vs) h3) Q) :=
      tG_bind xh re q' fun G1 ρ1 H1 y1 v h1 e1 x1 r1 q1 => ⟨G1, ρ1, v, h1, x1, re.mono e1, r1, q1⟩
    refine PySem.W.methodCall_KW (thn (po.run pins s σ H _ I st) fun u s1 ⟨y1, H1, I1, ry, w⟩ => ?_) (eval_meth hs hline (few_of (D := D) hl (of_decide_eq_true hlen) _ _))
    obtain ⟨G1, ρ1, v, h1, x1, re1, r1, q1⟩ := w
    cases r1 with
    | ref hr =>
      rename_i j a
      obtain ⟨ob, uo, g1, g2, g3⟩ := x1.at_ hr
      obtain rfl : u = Value.ref a := ry
      simp only [methKey, g1] at q1
      cases g3 with
      | inst rf =>
        rename_i C dx fs gs
        simp only at q1
        split at q1
        · exact q1.elim
        · rename_i hnf
          cases hk : (cx D n).meth C m with
          | none => rw [hk] at q1; exact q1.elim
          | some key =>
            rw [hk] at q1
            simp only [R.bind_ok] at q1
            obtain ⟨hpl, c1, c2⟩ := S.meth C m key hk
            obtain ⟨d, hd⟩ := S.plain key hpl
            have hlk : gs.lookup (lit m) = none := by
              have fr := fs_rel rf m
              cases ef : fldGet fs m with
              | some z => rw [ef] at hnf; simp at hnf
              | none =>
                rw [ef] at fr
                cases eg : List.lookup (lit m) gs with
                | none => rfl
                | some z => rw [eg] at fr; exact fr.elim
            refine getmeth_ok I1 g2 (by rw [hX.hK]; exact c1) (by rw [hX.hK]; exact c2) hlk ?_
            have sa : tA D E (cx D n) es σ H1 (fun vs H2 => spF D n key (.ref a :: vs) H2 Q E) := tG_bind x1 re1 q1 fun G2 ρ2 H2 y2 vs h2 e2 x2 r2 q2 => ⟨G2, ρ2, h2, .ref j :: vs, x2, .cons (.ref (pre_get e2.r hr)) r2, q2⟩
            cases l with
            | nil =>
              refine PySem.W.callWith_K0 (first := [.ref a]) I1.kIn (by rw [hX.hK]; exact c2.kp) ?_
              obtain ⟨G2, ρ2, env2, h2, x2, re2, q2⟩ := sa
              have : spF D n key [.ref a] H1 Q E := by
                cases es with
                | nil => exact q2 G2 ρ2 H1 [] Ext.refl x2 .nil
                | _ => simp [matchL] at hl
              exact run_fn (us := [.ref a]) (vs := [.ref a]) (hX.fn F hd) hX.room (by rw [hX.hK]; exact S.bind key d hd hpl) .nil hX.pass I1 (.cons rfl .nil) (by rw [List.append_nil]; exact this)
            | cons x0 r0 =>
              have n1 : notStar x0 = true := by
                cases es <;> simp [matchL] at hl
                exact hl.1.1
              have n2 : ∀ pos, (backTo pos (starEach r0 X.env)).any (·.1) = false := fun pos => by
                cases es <;> simp [matchL] at hl
                exact plainArgs (D := D) (N := N) (sc := sc) hl.2 _ _
              refine PySem.W.callWith_K (first := [.ref a]) (h₀ := X.base) I1.ok.mod.kin (by rw [hX.hK]; exact c2.kp) (thn (pa.run cp pins s1 σ H1 _ I1 sa) fun us s2 ⟨vs, H2, I2, r, q2⟩ => ⟨I2.kIn, ?_⟩) (star_of n1 _ _) (n2 _)
              exact run_fn (us := .ref a :: us) (vs := .ref a :: vs) (hX.fn F hd) hX.room (by rw [hX.hK]; exact S.bind key d hd hpl) .nil hX.pass I2 (.cons rfl r) (by rw [List.append_nil]; exact q2)
      | list _ _ => exact q1.elim
      | dictK _ => exact q1.elim
      | dictT _ => exact q1.elim
    | _ => simp only [methKey] at q1; exact q1.elim
  · cases hm
end
end Sim

end
section
set_option Elab.async false
set_option linter.all false
set_option maxRecDepth 100000
/-! SimJ: built-in functions. -/
namespace Sim
open PySem PySem.Spec PyProof.Rows L2 Ev

section
variable {D : Wd} {n k : Nat} {E : XK} {N : List Str} {sc : Scope} {X : Cx} {ee : Expr} {G : Hp} {ρ : List Addr} {h : EHeap} {H : Hp}

def PrimSim (D : Wd) (E : XK) (f : List Val → M Val) (r : List V → Hp → VK → Prop) : Prop := ∀ G ρ h H args xs Q, RH D G ρ h H → RVs D G ρ args xs → OkV D E G ρ (f args h) Q → r xs H Q
theorem call_lenD : CallR X (.builtin "len") (fun xs H Q => ∃ a kvs, xs = [.ref a] ∧ H a = some (.dK kvs) ∧ Q (.int kvs.length) H) := by
  intro pins s σ H xs us Q I r q
  obtain ⟨a, kvs, rfl, e, q⟩ := q
  obtain ⟨u, rfl, rx⟩ := vals1 r
  obtain rfl : u = .ref a := rx
  exact d_len I (.inl e) fun t s' I' => ⟨.int kvs.length, H, I', ⟨t, rfl⟩, q⟩
def rLen4 (K : PySem.W.Frag) : List V → Hp → VK → Prop := fun xs H Q => ((∃ x m, xs = [x] ∧ LenV K x H m ∧ Q (.int m) H) ∨ (∃ a kvs, xs = [.ref a] ∧ H a = some (.dK kvs) ∧ Q (.int kvs.length) H)) ∨ rLenT xs H Q
theorem len_sim : PrimSim D E (primV .len) (rLen4 D.K) := by
  intro G ρ h H args xs Q xh r q
  cases r with
  | nil => exact q.elim
  | cons r1 r2 =>
    cases r2 with
    | cons _ _ => exact q.elim
    | nil =>
      cases r1 with
      | str s hs => exact .inl (.inl ⟨_, _, rfl, ⟨by rw [← most_line]; exact hs.len, rfl⟩, q G ρ H _ Ext.refl xh (.int _)⟩)
      | tup s hl rs =>
        refine .inl (.inl ⟨_, _, rfl, .inr ⟨_, .inl (.inl (xh.sub _ _ s)), rfl⟩, ?_⟩)
        rw [rs.length]
        exact q G ρ H _ Ext.refl xh (.int _)
      | ktp s hl rs =>
        rcases ktp_seq xh.sub s with s | s
        · refine .inl (.inl ⟨_, _, rfl, .inl ⟨_, s, rfl⟩, ?_⟩)
          rw [rs.length]
          exact q G ρ H _ Ext.refl xh (.int _)
        · refine .inl (.inl ⟨_, _, rfl, .inr ⟨_, s, rfl⟩, ?_⟩)
          rw [rs.length]
          exact q G ρ H _ Ext.refl xh (.int _)
      | scr s hl rs =>
        refine .inl (.inl ⟨_, _, rfl, .inl ⟨_, scr_seq xh.sub s, rfl⟩, ?_⟩)
        rw [rs.length]
        exact q G ρ H _ Ext.refl xh (.int _)
      | lst s hl rs =>
        refine .inl (.inl ⟨_, _, rfl, .inl ⟨_, .inl (.inl (xh.sub _ _ s)), rfl⟩, ?_⟩)
        rw [rs.length]
        exact q G ρ H _ Ext.refl xh (.int _)
      | ref hr =>
        obtain ⟨o, u, h1, h2, h3⟩ := xh.at_ hr
        simp only [primV, h1] at q
        cases h3 with
        | list rl hl =>
          refine .inl (.inl ⟨_, _, rfl, .inl ⟨_, .inl (.inl h2), rfl⟩, ?_⟩)
          rw [rl.length]
          exact q G ρ H _ Ext.refl xh (.int _)
        | dictK r =>
          refine .inl (.inr ⟨_, _, rfl, h2, ?_⟩)
          rw [← Paired.length r]
          exact q G ρ H _ Ext.refl xh (.int _)
        | dictT r =>
          refine .inr ⟨_, _, rfl, h2, ?_⟩
          rw [← Paired.length r]
          exact q G ρ H _ Ext.refl xh (.int _)
        | inst _ => exact q.elim
      | _ => exact q.elim
theorem abs_sim : PrimSim D E (primV .abs) (fun xs H Q => ∃ i, xs = [.int i] ∧ Q (.int (if i < 0 then -i else i)) H) := by
  intro G ρ h H args xs Q xh r q
  cases r with
  | nil => exact q.elim
  | cons r1 r2 =>
    cases r2 with
    | cons _ _ => cases r1 <;> exact q.elim
    | nil =>
      cases r1 with
      | int i => exact ⟨i, rfl, q G ρ H _ Ext.refl xh (.int _)⟩
      | _ => exact q.elim
theorem min_sim : PrimSim D E (primV .min2) (fun xs H Q => ∃ i j, xs = [.int i, .int j] ∧ Q (.int (if j < i then j else i)) H) := by
  intro G ρ h H args xs Q xh r q
  cases r with
  | nil => exact q.elim
  | cons r1 r2 =>
    cases r2 with
    | nil => cases r1 <;> exact q.elim
    | cons r3 r4 =>
      cases r4 with
      | cons _ _ => cases r1 <;> cases r3 <;> exact q.elim
      | nil =>
        cases r1 with
        | int i =>
          cases r3 with
          | int j => exact ⟨i, j, rfl, q G ρ H _ Ext.refl xh (.int _)⟩
          | _ => exact q.elim
        | _ => exact q.elim
theorem max_sim : PrimSim D E (primV .max2) (fun xs H Q => ∃ i j, xs = [.int i, .int j] ∧ Q (.int (if j > i then j else i)) H) := by
  intro G ρ h H args xs Q xh r q
  cases r with
  | nil => exact q.elim
  | cons r1 r2 =>
    cases r2 with
    | nil => cases r1 <;> exact q.elim
    | cons r3 r4 =>
      cases r4 with
      | cons _ _ => cases r1 <;> cases r3 <;> exact q.elim
      | nil =>
        cases r1 with
        | int i =>
          cases r3 with
          | int j => exact ⟨i, j, rfl, q G ρ H _ Ext.refl xh (.int _)⟩
          | _ => exact q.elim
        | _ => exact q.elim
theorem int_sim : PrimSim D E (primV .int1) (fun xs H Q => ((∃ i, xs = [.int i] ∧ Q (.int i) H) ∨ ∃ k, xs = [.bl k] ∧ Q (.int (if k then 1 else 0)) H) ∨ ∃ a n, xs = [.str a] ∧ PySem.intText? a = some n ∧ a.length ≤ 640 ∧ Q (.int n) H) := by
  intro G ρ h H args xs Q xh r q
  cases r with
  | nil => exact q.elim
  | cons r1 r2 =>
    cases r2 with
    | cons _ _ => cases r1 <;> exact q.elim
    | nil =>
      cases r1 with
      | int i => exact .inl (.inl ⟨i, rfl, q G ρ H _ Ext.refl xh (.int _)⟩)
      | bl i => exact .inl (.inr ⟨i, rfl, q G ρ H _ Ext.refl xh (.int _)⟩)
      | str s hs =>
        simp only [primV] at q
        cases e : PySem.intText? s with
        | none => rw [e] at q; exact q.elim
        | some m =>
          rw [e] at q
          simp only at q
          split at q
          · rename_i hl
            exact .inr ⟨s, m, rfl, e, hl, q G ρ H _ Ext.refl xh (.int _)⟩
          · exact q.elim
      | _ => exact q.elim
theorem sum_rel : ∀ {l : List Val} {us : List V} {m : Int}, sumInts l = some m → RVs D G ρ l us → ∃ ns : List Int, us = ns.map V.int ∧ ns.sum = m
  | [], _, m, e, r => by
    cases r
    simp [sumInts] at e
    exact ⟨[], rfl, by simpa using e⟩
  | x :: xs, _, m, e, r => by
    cases r with
    | cons r1 r2 =>
      cases r1 with
      | int i =>
        simp only [sumInts] at e
        cases q : sumInts xs with
        | none => rw [q] at e; cases e
        | some j =>
          rw [q] at e
          cases e
          obtain ⟨ns, h1, h2⟩ := sum_rel q r2
          exact ⟨i :: ns, by simp [h1], by simp [h2]⟩
      | _ => simp [sumInts] at e
theorem bools_rel : ∀ {l : List Val} {us : List V} {bs : List Bool}, boolsOf l = some bs → RVs D G ρ l us → us = bs.map V.bl
  | [], _, m, e, r => by
    cases r
    simp [boolsOf] at e
    subst e
    rfl
  | x :: xs, _, m, e, r => by
    cases r with
    | cons r1 r2 =>
      cases r1 with
      | bl i =>
        simp only [boolsOf] at e
        cases q : boolsOf xs with
        | none => rw [q] at e; cases e
        | some j =>
          rw [q] at e
          cases e
          rw [bools_rel q r2]
          rfl
      | _ => simp [boolsOf] at e
theorem strs_rel : ∀ {l : List Val} {us : List V} {bs : List Str}, strsOf l = some bs → RVs D G ρ l us → us = bs.map V.str ∧ ∀ s ∈ bs, sOk s
  | [], _, m, e, r => by
    cases r
    simp [strsOf] at e
    subst e
    exact ⟨rfl, by simp⟩
  | x :: xs, _, m, e, r => by
    cases r with
    | cons r1 r2 =>
      cases r1 with
      | str i hi =>
        simp only [strsOf] at e
        cases q : strsOf xs with
        | none => rw [q] at e; cases e
        | some j =>
          rw [q] at e
          cases e
          obtain ⟨h1, h2⟩ := strs_rel q r2
          exact ⟨by rw [h1]; rfl, by simp; exact ⟨hi, h2⟩⟩
      | _ => simp [strsOf] at e
/-- a list, where it is read -/
theorem list_rel {x : Val} {X : V} {l : List Val} (xh : RH D G ρ h H) (r : RV D G ρ x X) (e : Ev.listOf h x = some l) : ∃ a us, X = .ref a ∧ SqL D.K H a us ∧ RVs D G ρ l us ∧ l.length ≤ most := by
  cases r with
  | lst s hl rs =>
    simp only [Ev.listOf, Option.some.injEq] at e
    subst e
    exact ⟨_, _, rfl, .inl (.inl (xh.sub _ _ s)), rs, hl⟩
  | ref hr =>
    obtain ⟨o, u, h1, h2, h3⟩ := xh.at_ hr
    simp only [Ev.listOf, h1] at e
    cases h3 with
    | list rl hl =>
      simp only [Option.some.injEq] at e
      subst e
      exact ⟨_, _, rfl, .inl (.inl h2), rl, hl⟩
    | dictK _ => cases e
    | dictT _ => cases e
    | inst _ => cases e
  | _ => simp [Ev.listOf] at e
theorem sumP_sim : PrimSim D E (primV .sum) (rSum D.K) := by
  intro G ρ h H args xs Q xh r q
  cases r with
  | nil => exact q.elim
  | cons r1 r2 =>
    cases r2 with
    | cons _ _ => exact q.elim
    | nil =>
      simp only [primV] at q
      cases e : (Ev.listOf h _).bind sumInts with
      | none => rw [e] at q; exact q.elim
      | some m =>
        rw [e] at q
        cases e1 : Ev.listOf h _ with
        | none => rw [e1] at e; cases e
        | some l =>
          rw [e1] at e
          obtain ⟨a, us, rfl, s, rs, hl⟩ := list_rel xh r1 e1
          obtain ⟨ns, rfl, e3⟩ := sum_rel e rs
          exact ⟨a, ns, rfl, s, by rw [e3]; exact q G ρ H _ Ext.refl xh (.int _)⟩
theorem all_sim : PrimSim D E (primV .all1) (rAll D.K) := by
  intro G ρ h H args xs Q xh r q
  cases r with
  | nil => exact q.elim
  | cons r1 r2 =>
    cases r2 with
    | cons _ _ => exact q.elim
    | nil =>
      simp only [primV] at q
      cases e : (Ev.listOf h _).bind boolsOf with
      | none => rw [e] at q; exact q.elim
      | some m =>
        rw [e] at q
        cases e1 : Ev.listOf h _ with
        | none => rw [e1] at e; cases e
        | some l =>
          rw [e1] at e
          obtain ⟨a, us, rfl, s, rs, hl⟩ := list_rel xh r1 e1
          have e3 := bools_rel e rs
          subst e3
          exact ⟨a, m, rfl, s, q G ρ H _ Ext.refl xh (.bl _)⟩
theorem any_sim : PrimSim D E (primV .any1) (rAny D.K) := by
  intro G ρ h H args xs Q xh r q
  cases r with
  | nil => exact q.elim
  | cons r1 r2 =>
    cases r2 with
    | cons _ _ => exact q.elim
    | nil =>
      simp only [primV] at q
      cases e : (Ev.listOf h _).bind boolsOf with
      | none => rw [e] at q; exact q.elim
      | some m =>
        rw [e] at q
        cases e1 : Ev.listOf h _ with
        | none => rw [e1] at e; cases e
        | some l =>
          rw [e1] at e
          obtain ⟨a, us, rfl, s, rs, hl⟩ := list_rel xh r1 e1
          have e3 := bools_rel e rs
          subst e3
          exact ⟨a, m, rfl, s, q G ρ H _ Ext.refl xh (.bl _)⟩
theorem tuple_sim : PrimSim D E (primV .tuple1) (fun xs H Q => ∃ p ys, xs = [.ref p] ∧ ((SqL D.K H p ys ∧ ∀ l, H l = none → Q (.ref l) (upd H l (.tup ys))) ∨ (SqT D.K H p ys ∧ Q (.ref p) H))) := by
  intro G ρ h H args xs Q xh r q
  cases r with
  | nil => exact q.elim
  | cons r1 r2 =>
    cases r2 with
    | cons _ _ => exact q.elim
    | nil =>
      cases r1 with
      | tup s hl rs => exact ⟨_, _, rfl, .inr ⟨.inl (.inl (xh.sub _ _ s)), q G ρ H _ Ext.refl xh (.tup s hl rs)⟩⟩
      | lst s hl rs =>
        refine ⟨_, _, rfl, .inl ⟨.inl (.inl (xh.sub _ _ s)), fun p np => ?_⟩⟩
        obtain ⟨x2, e⟩ := xh.freeze (o := .tup _) np
        exact q _ _ _ _ e x2 (.tup upd_same hl (rs.mono e))
      | ref hr =>
        obtain ⟨o, u, h1, h2, h3⟩ := xh.at_ hr
        simp only [primV, seqOf, h1] at q
        cases h3 with
        | list rl hl =>
          refine ⟨_, _, rfl, .inl ⟨.inl (.inl h2), fun p np => ?_⟩⟩
          obtain ⟨x2, e⟩ := xh.freeze (o := .tup _) np
          exact q _ _ _ _ e x2 (.tup upd_same hl (rl.mono e))
        | dictK _ => exact q.elim
        | dictT _ => exact q.elim
        | inst _ => exact q.elim
      | _ => exact q.elim
/-- a text that was looked at -/
theorem sOk_of {s : Str} (h : okText s = true) : sOk s := by
  unfold okText at h
  simp only [Bool.and_eq_true, decide_eq_true_eq] at h
  exact ⟨h.1, h.2⟩
theorem str_sim : PrimSim D E (primV .str1) (fun xs H Q => (∃ i, xs = [.int i] ∧ i.natAbs.log2 < 1920 ∧ Q (.str (toString i)) H) ∨ ∃ a, xs = [.str a] ∧ Q (.str a) H) := by
  intro G ρ h H args xs Q xh r q
  cases r with
  | nil => exact q.elim
  | cons r1 r2 =>
    cases r2 with
    | cons _ _ => cases r1 <;> exact q.elim
    | nil =>
      cases r1 with
      | int i =>
        have q' : OkV D E G ρ ((guardM (small i && okText (toString i)) h).bind fun _ h2 => .ok (.str (toString i)) h2) Q := q
        rw [guard_at] at q'
        split at q'
        · rename_i hs
          simp only [Bool.and_eq_true] at hs
          obtain ⟨hs, hs2⟩ := hs
          refine .inl ⟨i, rfl, ?_, q' G ρ H _ Ext.refl xh (.str _ (sOk_of hs2))⟩
          unfold small at hs
          have h1 := of_decide_eq_true hs
          have h2 : i.natAbs < 2 ^ 64 := by omega
          by_cases z : i.natAbs = 0
          · rw [z]; decide
          · have := (Nat.log2_lt z).mpr h2
            omega
        · exact q'.elim
      | str s hs => exact .inr ⟨s, rfl, q G ρ H _ Ext.refl xh (.str _ hs)⟩
      | _ => exact q.elim

/-! ### joined -/
theorem bt_len : bootBuiltins (lit "len") = some (.builtin "len") := by decide +kernel
theorem bt_abs : bootBuiltins (lit "abs") = some (.builtin "abs") := by decide +kernel
theorem bt_min : bootBuiltins (lit "min") = some (.builtin "min") := by decide +kernel
theorem bt_max : bootBuiltins (lit "max") = some (.builtin "max") := by decide +kernel
theorem bt_sum : bootBuiltins (lit "sum") = some (.builtin "sum") := by decide +kernel
theorem bt_all : bootBuiltins (lit "all") = some (.builtin "all") := by decide +kernel
theorem bt_any : bootBuiltins (lit "any") = some (.builtin "any") := by decide +kernel
theorem bt_int : bootBuiltins (lit "int") = some (.type "int") := by decide +kernel
theorem bt_bool : bootBuiltins (lit "bool") = some (.type "bool") := by decide +kernel
theorem bt_str : bootBuiltins (lit "str") = some (.type "str") := by decide +kernel
theorem bt_tuple : bootBuiltins (lit "tuple") = some (.type "tuple") := by decide +kernel
theorem bt_list : bootBuiltins (lit "list") = some (.type "list") := by decide +kernel
theorem bt_sorted : bootBuiltins (lit "sorted") = some (.builtin "sorted") := by decide +kernel
theorem bt_isinstance : bootBuiltins (lit "isinstance") = some (.builtin "isinstance") := by decide +kernel
theorem bt_range : bootBuiltins (lit "range") = some (.type "range") := by decide +kernel
/-- a call of a built-in: the name -/
theorem matchB_ok (S : Stat D) (hX : XOk D E k N sc X) {x : String} {f : Expr} (hm : matchB (txOf D) sc x f = true) : ∃ p, f = .Name (lit x) p ∧ Gl X (lit x) ∧ X.mg (lit x) = none ∧ okName (lit x) = true := by
  unfold matchB at hm
  split at hm
  · rename_i y hy
    obtain ⟨p, rfl⟩ := asName_eq hy
    simp only [Bool.and_eq_true, beq_iff_eq] at hm
    obtain ⟨⟨⟨e, hg⟩, ho⟩, hb⟩ := hm
    subst e
    exact ⟨p, rfl, by show X.env.scope.names.lookup _ = _; rw [hX.hsc]; exact glB_ok hg, by rw [hX.hmg]; exact S.bi x hb, ho⟩
  · cases hm
theorem cons_parts {es : Ex} {x : Expr} {r : List Expr} (hl : matchL (txOf D) N sc es (x :: r) = true) : notStar x = true ∧ ∀ env pos, (backTo pos (starEach r env)).any (·.1) = false := by
  cases es <;> simp [matchL] at hl
  exact ⟨hl.1.1, fun env pos => plainArgs (D := D) (N := N) (sc := sc) hl.2 _ _⟩
/-- a built-in function called -/
theorem callB_of (S : Stat D) (hX : XOk D E k N sc X) {es : Ex} (hes : SimL D n k es) {nm : String} {id : String} {g : Expr} {l : List Expr} {pos : Pos} {r : List V → Hp → VK → Prop} {f : List Val → M Val} (hc : CallR X (.builtin id) r) (hs : PrimSim D E f r) (hb : bootBuiltins (lit nm) = some (.builtin id))
    (hm : matchB (txOf D) sc nm g = true) (hne : l.isEmpty = false) (hl : matchL (txOf D) N sc es l = true) : PE X (.Call g l [] pos) (tG D E (relV D) fun env => do f (← evL (cx D n) es env)) := by
  obtain ⟨p, rfl, h1, h2, h3⟩ := matchB_ok S hX hm
  cases l with
  | nil => cases hne
  | cons x r0 =>
    obtain ⟨n1, n2⟩ := cons_parts (D := D) hl
    refine PE.imp (pe_callB hc h1 h2 hb (hes E N sc X _ hX hl) (okName_n h3) (okName_d h3) (star_of n1 _ _) (n2 _ _)) fun σ H Q q => ?_
    obtain ⟨G, ρ, env, h, xh, re, q⟩ := q
    exact tG_bind xh re q fun G1 ρ1 H1 y1 vs h1 e1 x1 r1 q1 => hs G1 ρ1 h1 H1 vs y1 Q x1 r1 q1
theorem callT_of (S : Stat D) (hX : XOk D E k N sc X) {es : Ex} (hes : SimL D n k es) {nm : String} {id : String} {g : Expr} {l : List Expr} {pos : Pos} {r : List V → Hp → VK → Prop} {f : List Val → M Val} (hc : CallR X (.type id) r) (hs : PrimSim D E f r) (hb : bootBuiltins (lit nm) = some (.type id))
    (hm : matchB (txOf D) sc nm g = true) (hne : l.isEmpty = false) (hl : matchL (txOf D) N sc es l = true) : PE X (.Call g l [] pos) (tG D E (relV D) fun env => do f (← evL (cx D n) es env)) := by
  obtain ⟨p, rfl, h1, h2, h3⟩ := matchB_ok S hX hm
  cases l with
  | nil => cases hne
  | cons x r0 =>
    obtain ⟨n1, n2⟩ := cons_parts (D := D) hl
    refine PE.imp (pe_callTy hc h1 h2 hb (hes E N sc X _ hX hl) (okName_n h3) (okName_d h3) (star_of n1 _ _) (n2 _ _)) fun σ H Q q => ?_
    obtain ⟨G, ρ, env, h, xh, re, q⟩ := q
    exact tG_bind xh re q fun G1 ρ1 H1 y1 vs h1 e1 x1 r1 q1 => hs G1 ρ1 h1 H1 vs y1 Q x1 r1 q1
theorem sim_prim (S : Stat D) (p : Prim) {es : Ex} (hes : SimL D n k es) : SimE D n k (.prim p es) := by
  intro E N sc X ee hX hm
  simp only [matchE] at hm
  split at hm
  · rename_i g l hxy
    obtain ⟨pos, rfl⟩ := asCall_eq hxy
    simp only [Bool.and_eq_true, Bool.not_eq_true'] at hm
    obtain ⟨⟨hg, hne⟩, hl⟩ := hm
    have hK := hX.hK
    cases p with
    | len => exact callB_of S hX hes ((call_len.or call_lenD).or call_len_dT) (by rw [hK]; exact len_sim) bt_len hg hne hl
    | abs => exact callB_of S hX hes call_abs abs_sim bt_abs hg hne hl
    | min2 => exact callB_of S hX hes (call_min2 hX.calm) min_sim bt_min hg hne hl
    | max2 => exact callB_of S hX hes (call_max2 hX.calm) max_sim bt_max hg hne hl
    | int1 => exact callT_of S hX hes (call_int1.or call_int_str) int_sim bt_int hg hne hl
    | str1 => exact callT_of S hX hes (call_str_int.or SkE.call_str_str) str_sim bt_str hg hne hl
    | sum => exact callB_of S hX hes (cr_sum hX.calm) (by rw [hK]; exact sumP_sim) bt_sum hg hne hl
    | tuple1 => exact callT_of S hX hes call_tuple_of (by rw [hK]; exact tuple_sim) bt_tuple hg hne hl
    | all1 => exact callB_of S hX hes (cr_all hX.calm) (by rw [hK]; exact all_sim) bt_all hg hne hl
    | any1 => exact callB_of S hX hes (cr_any hX.calm) (by rw [hK]; exact any_sim) bt_any hg hne hl
  · cases hm

/-! ### isinstance -/
def kindOfV (h : EHeap) : Val → Option String
  | .non => some "NoneType"
  | .bl _ => some "bool"
  | .int _ => some "int"
  | .str _ => some "str"
  | .tup _ => some "tuple"
  | .ktp _ => none
  | .scr _ => none
  | .lst _ => some "list"
  | .ref n => match h[n]? with
    | some (.list _) => some "list"
    | some (.dict _ _) => some "dict"
    | _ => none
  | .gl _ => none
theorem kind_rel {v : Val} {x : V} {t : String} (xh : RH D G ρ h H) (r : RV D G ρ v x) (e : kindOfV h v = some t) : TyX D.K H x (.type t) := by
  cases r with
  | non => cases e; exact .base .non
  | bl b => cases e; exact .base (.bl b)
  | int i => cases e; exact .base (.int i)
  | str s hs => cases e; exact .base (.str s)
  | tup s hl rs => cases e; exact .base (.tup (xh.sub _ _ s))
  | ktp s hl rs =>
    cases e
  | scr s hl rs => cases e
  | lst s hl rs =>
    cases e
    exact .base (.lst (xh.sub _ _ s))
  | ref hr =>
    obtain ⟨o, u, h1, h2, h3⟩ := xh.at_ hr
    simp only [kindOfV, h1] at e
    cases h3 with
    | list _ _ => cases e; exact .base (.lst h2)
    | dictK _ => cases e; exact .base (.dK h2)
    | dictT _ => cases e; exact .base (.dT h2)
    | inst _ => cases e
  | gl g hg => cases e
theorem kit_all : ∀ a ∈ ["NoneType", "bool", "int", "str", "tuple", "list", "dict"], ∀ b ∈ ["int", "bool", "str", "tuple", "list"], kitB a b = some (a == b || (a == "bool" && b == "int")) := by decide +kernel
theorem isKind_of {v : Val} {b : String} {c : Bool} (e : isKind h v b = some c) (hb : b ∈ ["int", "bool", "str", "tuple", "list"]) : ∃ t, kindOfV h v = some t ∧ kitB t b = some c := by
  have key : ∀ t, t ∈ ["NoneType", "bool", "int", "str", "tuple", "list", "dict"] → kindOfV h v = some t → c = (t == b || (t == "bool" && b == "int")) → ∃ t, kindOfV h v = some t ∧ kitB t b = some c := fun t ht hk hc => ⟨t, hk, by rw [kit_all t ht b hb, hc]⟩
  have sy : ∀ (a : String), (b == a) = (a == b) := fun a => by
    by_cases z : a = b
    · subst z; rfl
    · have z' : ¬ b = a := fun q => z q.symm
      rw [beq_eq_false_iff_ne.mpr z, beq_eq_false_iff_ne.mpr z']
  cases v with
  | non => simp only [isKind, Option.some.injEq] at e; exact key "NoneType" (by decide) rfl (by rw [← e, sy]; simp)
  | bl _ => simp only [isKind, Option.some.injEq] at e; exact key "bool" (by decide) rfl (by rw [← e, sy]; simp)
  | int _ => simp only [isKind, Option.some.injEq] at e; exact key "int" (by decide) rfl (by rw [← e, sy]; simp)
  | str _ => simp only [isKind, Option.some.injEq] at e; exact key "str" (by decide) rfl (by rw [← e, sy]; simp)
  | tup _ => simp only [isKind, Option.some.injEq] at e; exact key "tuple" (by decide) rfl (by rw [← e, sy]; simp)
  | ktp _ => cases e
  | scr _ => cases e
  | lst _ => simp only [isKind, Option.some.injEq] at e; exact key "list" (by decide) rfl (by rw [← e, sy]; simp)
  | gl _ => cases e
  | ref m =>
    simp only [isKind] at e
    cases q : h[m]? with
    | none => rw [q] at e; cases e
    | some o =>
      rw [q] at e
      cases o with
      | list l =>
        have e' : some (b == "list") = some c := e
        exact key "list" (by decide) (by simp [kindOfV, q]) (by rw [← Option.some.inj e', sy]; simp)
      | dict t l =>
        have e' : some (b == "dict") = some c := e
        exact key "dict" (by decide) (by simp [kindOfV, q]) (by rw [← Option.some.inj e', sy]; simp)
      | inst c f => cases e
theorem bt_kind : ∀ b ∈ ["int", "bool", "str", "tuple", "list"], bootBuiltins (lit b) = some (.type b) := by decide +kernel
theorem sim_isi (S : Stat D) (ts : List String) {a : Ex} (ha : SimE D n k a) : SimE D n k (.isi a ts) := by
  intro E N sc X ee hX hm
  simp only [matchE] at hm
  split at hm
  · rename_i g x t hxy
    obtain ⟨pos, rfl⟩ := asCall_eq hxy
    simp only [Bool.and_eq_true] at hm
    obtain ⟨⟨⟨⟨hg, nx⟩, nt⟩, hx⟩, ht⟩ := hm
    split at ht
    · rename_i b
      split at ht
      · rename_i y hy
        obtain ⟨p2, rfl⟩ := asName_eq hy
        simp only [Bool.and_eq_true, beq_iff_eq, List.contains_iff_mem] at ht
        obtain ⟨⟨⟨⟨ey, hgl⟩, ho⟩, hbi⟩, hb⟩ := ht
        subst ey
        obtain ⟨p, rfl, g1, g2, g3⟩ := matchB_ok S hX hg
        have px := ha E N sc X x hX hx
        have pt : PE X (.Name (lit b) p2) (tC (.ty b)) := pe_bltn (v := .ty b) (by show X.env.scope.names.lookup _ = _; rw [hX.hsc]; exact glB_ok hgl) (by rw [hX.hmg]; exact S.bi b hbi) (bt_kind b hb) rfl (okName_n ho) (okName_d ho)
        have pa : PA X [x, .Name (lit b) p2] (tCons (tE D E (cx D n) a) (tCons (tC (.ty b)) tNil)) := pa_cons px (pa_cons pt pa_nil rfl) (star_of nx _ _)
        refine PE.imp (pe_callB call_isi g1 g2 bt_isinstance pa (okName_n g3) (okName_d g3) (star_of nx _ _) rfl) fun σ H Q q => ?_
        obtain ⟨G, ρ, env, h, xh, re, q⟩ := q
        refine tG_bind xh re q fun G1 ρ1 H1 y1 v h1 e1 x1 r1 q1 => ?_
        have q2 : OkV D E G1 ρ1 ((isiV v [b] h1).bind fun c h2 => .ok (.bl c) h2) Q := q1
        unfold isiV at q2
        cases ek : isKind h1 v b with
        | none => simp [List.mapM_cons, ek] at q2; exact q2.elim
        | some c =>
          simp [List.mapM_cons, ek] at q2
          obtain ⟨t, k1, k2⟩ := isKind_of ek hb
          rw [hX.hK]
          exact ⟨y1, .ty b, .type t, .type b, c, rfl, .ty b, kind_rel x1 r1 k1, kit_ty k2, q2 G1 ρ1 H1 _ Ext.refl x1 (.bl _)⟩
      · cases ht
    · cases ht
  · cases hm
end
end Sim

end
section
set_option Elab.async false
set_option linter.all false
set_option maxRecDepth 100000
/-! SimK: methods of built-in types. -/
namespace Sim
open PySem PySem.Spec PyProof.Rows L2 Ev

section
variable {D : Wd} {n k : Nat} {E : XK} {N : List Str} {sc : Scope} {X : Cx} {ee : Expr} {G : Hp} {ρ : List Addr} {h : EHeap} {H : Hp}

/-- a method by values: the receiver's type is T -/
def PmSim (D : Wd) (E : XK) (T : String) (m : PM) (r : V → List V → Hp → VK → Prop) : Prop := ∀ G ρ h H x args X xs Q, RH D G ρ h H → RV D G ρ x X → RVs D G ρ args xs → OkV D E G ρ (pmV m x args h) Q → r X xs H Q
/-- a method of one or more arguments -/
theorem pm_of (hX : XOk D E k N sc X) {o es : Ex} {m : PM} {x : Expr} {nm : Str} {l : List Expr} {ap cp : Pos} {T id : String} {r : V → List V → Hp → VK → Prop} (po : PE X x (tE D E (cx D n) o)) (hes : SimL D n k es)
    (pa : PlainAttrs T) (slot : Slot T nm id) (hty : typeOf (.builtin id) = pure (.type "method_descriptor")) (hm : MtR X id r) (hs : PmSim D E T m r)
    (ht : ∀ {G ρ h H v y}, RH D G ρ h H → RV D G ρ v y → recvOk m h v = true → tyV D.K T y H)
    (hsup : notSuper x = true) (hline : (ap.endLine == cp.line) = true) (hl : matchL (txOf D) N sc es l = true) (hlen : l.length < 20) : PE X (.Call (.Attribute x nm ap) l [] cp) (tE D E (cx D n) (.pm m o es)) := by
  have few := few_of (D := D) hl hlen X.env cp
  have rd : ∀ σ H Q, tE D E (cx D n) (.pm m o es) σ H Q → tE D E (cx D n) o σ H fun y1 H1 => tyV D.K T y1 H1 ∧ tA D E (cx D n) es σ H1 fun xs H2 => r y1 xs H2 Q := by
    intro σ H Q q
    obtain ⟨G, ρ, env, h, xh, re, q⟩ := q
    refine tG_bind xh re q fun G1 ρ1 H1 y1 v h1 e1 x1 r1 q1 => ?_
    have q2 : OkV D E G1 ρ1 ((recv m v h1).bind fun _ h2 => (evL (cx D n) es env h2).bind fun vs h3 => pmV m v vs h3) Q := q1
    unfold recv at q2
    split at q2
    · rename_i hr
      refine ⟨ht x1 r1 hr, tG_bind x1 (re.mono e1) q2 fun G2 ρ2 H2 ys vs h2 e2 x2 r2 q3 => ?_⟩
      exact hs G2 ρ2 h2 H2 v vs y1 ys Q x2 (r1.mono e2) r2 q3
    · exact q2.elim
  cases l with
  | nil =>
    refine PE.imp (pe_bm0 (r := r) pa slot hty hm po (notSuper_ok hsup _ _ _) hline) fun σ H Q q => ?_
    refine (show tE D E (cx D n) o σ H _ from ?_)
    obtain ⟨G, ρ, env, h, xh, re, q⟩ := rd σ H Q q
    refine ⟨G, ρ, env, h, xh, re, OkG.imp q fun y1 H1 ⟨a1, a2⟩ => ⟨by rw [hX.hK]; exact a1, ?_⟩⟩
    obtain ⟨G2, ρ2, env2, h2, x2, re2, q2⟩ := a2
    cases es with
    | nil => exact q2 G2 ρ2 H1 [] Ext.refl x2 .nil
    | _ => simp [matchL] at hl
  | cons e r0 =>
    obtain ⟨n1, n2⟩ := cons_parts (D := D) hl
    refine PE.imp (pe_bm (r := r) pa slot hty hm po (hes E N sc X _ hX hl) (notSuper_ok hsup _ _ _) few hline (star_of n1 _ _) (n2 _ _)) fun σ H Q q => ?_
    obtain ⟨G, ρ, env, h, xh, re, q⟩ := rd σ H Q q
    exact ⟨G, ρ, env, h, xh, re, OkG.imp q fun y1 H1 ⟨a1, a2⟩ => ⟨by rw [hX.hK]; exact a1, a2⟩⟩
theorem ty_list {m : PM} (hm : ∀ h x, recvOk m h x = true → ∃ j l, x = .ref j ∧ h[j]? = some (.list l)) {v : Val} {y : V} (xh : RH D G ρ h H) (r : RV D G ρ v y) (e : recvOk m h v = true) : tyV D.K "list" y H := by
  obtain ⟨j, l, rfl, hj⟩ := hm h v e
  cases r with
  | ref hr =>
    obtain ⟨u, h1, h2⟩ := xh.obj _ _ _ hr hj
    cases h2 with
    | list _ _ => exact .inl ⟨rfl, _, .inl (.inl h1)⟩
theorem recv_list (m : PM) (hm : ∀ h x, recvOk m h x = (match x with
    | .ref n => (match h[n]? with
      | some (.list _) => true
      | _ => false)
    | _ => false)) : ∀ h x, recvOk m h x = true → ∃ j l, x = .ref j ∧ h[j]? = some (.list l) := by
  intro h x e
  rw [hm] at e
  cases x with
  | ref j =>
    simp only at e
    cases q : h[j]? with
    | none => rw [q] at e; cases e
    | some o =>
      cases o with
      | list l => exact ⟨j, l, rfl, q⟩
      | _ => rw [q] at e; cases e
  | _ => cases e
/-- a list of the heap and its object -/
theorem list_at (xh : RH D G ρ h H) {j : Nat} {a : Addr} {l : List Val} (hr : ρ[j]? = some a) (hj : h[j]? = some (.list l)) : ∃ us, H a = some (.lst us) ∧ RVs D G ρ l us ∧ l.length ≤ most := by
  obtain ⟨u, h1, h2⟩ := xh.obj _ _ _ hr hj
  cases h2 with
  | list rl hl => exact ⟨_, h1, rl, hl⟩
theorem append_sim : PmSim D E "list" .append rAppend := by
  intro G ρ h H x args X xs Q xh rx ra q
  cases rx with
  | ref hr =>
    cases ra with
    | nil => exact q.elim
    | cons r1 r2 =>
      cases r2 with
      | cons _ _ => exact q.elim
      | nil =>
        rename_i j a v y
        simp only [pmV] at q
        cases hj : h[j]? with
        | none => rw [hj] at q; exact q.elim
        | some o =>
          rw [hj] at q
          cases o with
          | list l =>
            simp only at q
            split at q
            · rename_i hlt
              obtain ⟨us, h1, rl, hl⟩ := list_at xh hr hj
              refine ⟨a, us, y, rfl, rfl, h1, by rw [rl.length, ← most_line]; exact hlt, ?_⟩
              exact q G ρ _ _ Ext.refl (xh.put hr (.list (rl.append (.cons r1 .nil)) (by simp; exact hlt))) .non
            · exact q.elim
          | _ => exact q.elim
  | _ => cases ra <;> exact q.elim
theorem extend_sim : PmSim D E "list" .extend rExtend := by
  intro G ρ h H x args X xs Q xh rx ra q
  cases rx with
  | ref hr =>
    cases ra with
    | nil => exact q.elim
    | cons r1 r2 =>
      cases r2 with
      | cons _ _ => exact q.elim
      | nil =>
        rename_i j a v y
        simp only [pmV] at q
        cases hj : h[j]? with
        | none => rw [hj] at q; cases q2 : Ev.listOf h v <;> (rw [q2] at q; exact q.elim)
        | some o =>
          rw [hj] at q
          cases o with
          | list l =>
            cases q2 : Ev.listOf h v with
            | none => rw [q2] at q; exact q.elim
            | some m =>
              rw [q2] at q
              simp only at q
              split at q
              · rename_i hlt
                obtain ⟨us, h1, rl, hl⟩ := list_at xh hr hj
                have : ∃ b ws, y = .ref b ∧ H b = some (.lst ws) ∧ RVs D G ρ m ws := by
                  cases r1 with
                  | lst s hl rs =>
                    simp only [Ev.listOf, Option.some.injEq] at q2
                    subst q2
                    exact ⟨_, _, rfl, xh.sub _ _ s, rs⟩
                  | ref hr2 =>
                    rename_i j2 a2
                    simp only [Ev.listOf] at q2
                    cases hj2 : h[j2]? with
                    | none => rw [hj2] at q2; cases q2
                    | some o =>
                      rw [hj2] at q2
                      cases o with
                      | list l2 =>
                        simp only [Option.some.injEq] at q2
                        subst q2
                        obtain ⟨ws, g1, g2, _⟩ := list_at xh hr2 hj2
                        exact ⟨_, ws, rfl, g1, g2⟩
                      | _ => cases q2
                  | _ => simp [Ev.listOf] at q2
                obtain ⟨b, ws, rfl, hb, rm⟩ := this
                refine ⟨a, b, us, ws, rfl, rfl, h1, hb, by rw [rl.length, rm.length, ← most_line]; exact hlt, ?_⟩
                exact q G ρ _ _ Ext.refl (xh.put hr (.list (rl.append rm) (by simp; exact hlt))) .non
              · exact q.elim
          | _ => cases q2 : Ev.listOf h v <;> (rw [q2] at q; exact q.elim)
  | _ => cases ra <;> exact q.elim
theorem pop_sim : PmSim D E "list" .pop0 rPop := by
  intro G ρ h H x args X xs Q xh rx ra q
  cases rx with
  | ref hr =>
    cases ra with
    | cons r1 r2 => exact q.elim
    | nil =>
      rename_i j a
      simp only [pmV] at q
      cases hj : h[j]? with
      | none => rw [hj] at q; exact q.elim
      | some o =>
        rw [hj] at q
        cases o with
        | list l =>
          simp only at q
          cases hg : l.getLast? with
          | none => rw [hg] at q; exact q.elim
          | some v =>
            rw [hg] at q
            obtain ⟨us, h1, rl, hl⟩ := list_at xh hr hj
            rw [List.getLast?_eq_getElem?] at hg
            obtain ⟨u, g1, g2⟩ := rl.get hg
            refine ⟨a, us, u, rfl, rfl, h1, by rw [rl.length]; exact g1, ?_⟩
            exact q G ρ _ _ Ext.refl (xh.put hr (.list rl.dropLast (by simp; omega))) g2
        | _ => exact q.elim
  | _ => cases ra <;> exact q.elim
theorem seqIx (i : Int) (m : Nat) : seqIndex? i m = Ev.ixOf m i := by
  unfold seqIndex? Ev.ixOf
  by_cases h0 : 0 ≤ i
  · have h1 : ¬ i < 0 := by omega
    rw [if_neg h1, if_pos h0]
    by_cases h2 : i < (m : Int)
    · simp [h0, h2]
    · simp [h2]
  · have h1 : i < 0 := by omega
    rw [if_pos h1, if_neg h0]
    by_cases h2 : -(m : Int) ≤ i
    · have a1 : 0 ≤ i + (m : Int) := by omega
      have a2 : i + (m : Int) < m := by omega
      rw [if_pos h2]
      simp [a1, a2]
    · have a1 : ¬ 0 ≤ i + (m : Int) := by omega
      rw [if_neg h2]
      simp [a1]
theorem ix_bound {m t : Nat} {i : Int} (hg : Ev.ixOf m i = some t) : -(m : Int) ≤ i ∧ i < (m : Int) := by
  unfold Ev.ixOf at hg
  by_cases h0 : 0 ≤ i
  · rw [if_pos h0] at hg
    by_cases h1 : i < (m : Int)
    · omega
    · rw [if_neg h1] at hg; cases hg
  · rw [if_neg h0] at hg
    by_cases h1 : -(m : Int) ≤ i
    · omega
    · rw [if_neg h1] at hg; cases hg
theorem popAt_sim : PmSim D E "list" .pop1 rPopAt := by
  intro G ρ h H x args X xs Q xh rx ra q
  cases rx with
  | ref hr =>
    cases ra with
    | nil => exact q.elim
    | cons r1 r2 =>
      cases r2 with
      | cons _ _ => exact q.elim
      | nil =>
        rename_i j a v y
        simp only [pmV] at q
        cases hj : h[j]? with
        | none => rw [hj] at q; exact q.elim
        | some o =>
          rw [hj] at q
          cases o with
          | list l =>
            cases r1 with
            | int i =>
              simp only at q
              cases hg : Ev.ixOf l.length i with
              | none => rw [hg] at q; exact q.elim
              | some t =>
                rw [hg] at q
                simp only at q
                cases hv : l[t]? with
                | none => rw [hv] at q; exact q.elim
                | some w =>
                  rw [hv] at q
                  obtain ⟨us, h1, rl, hl⟩ := list_at xh hr hj
                  obtain ⟨u, g1, g2⟩ := rl.get hv
                  have hb := ix_bound hg
                  have hm : l.length ≤ 16777216 := hl
                  refine ⟨a, us, i, t, u, rfl, rfl, h1, by omega, by omega, by rw [seqIx, rl.length]; exact hg, g1, ?_⟩
                  exact q G ρ _ _ Ext.refl (xh.put hr (.list (rl.erase t) (Nat.le_trans (List.length_eraseIdx_le ..) hl))) g2
            | _ => exact q.elim
          | _ => exact q.elim
  | _ => cases ra <;> exact q.elim
theorem reverse_sim : PmSim D E "list" .reverse rReverse := by
  intro G ρ h H x args X xs Q xh rx ra q
  cases rx with
  | ref hr =>
    cases ra with
    | cons r1 r2 => exact q.elim
    | nil =>
      rename_i j a
      simp only [pmV] at q
      cases hj : h[j]? with
      | none => rw [hj] at q; exact q.elim
      | some o =>
        rw [hj] at q
        cases o with
        | list l =>
          obtain ⟨us, h1, rl, hl⟩ := list_at xh hr hj
          refine ⟨a, us, rfl, rfl, h1, ?_⟩
          exact q G ρ _ _ Ext.refl (xh.put hr (.list rl.reverse (by simpa using hl))) .non
        | _ => exact q.elim
  | _ => cases ra <;> exact q.elim
theorem clear_sim : PmSim D E "list" .clear rClear := by
  intro G ρ h H x args X xs Q xh rx ra q
  cases rx with
  | ref hr =>
    cases ra with
    | cons r1 r2 => exact q.elim
    | nil =>
      rename_i j a
      simp only [pmV] at q
      cases hj : h[j]? with
      | none => rw [hj] at q; exact q.elim
      | some o =>
        rw [hj] at q
        cases o with
        | list l =>
          obtain ⟨us, h1, rl, hl⟩ := list_at xh hr hj
          refine ⟨a, us, rfl, rfl, h1, ?_⟩
          exact q G ρ _ _ Ext.refl (xh.put hr (.list .nil (Nat.zero_le _))) .non
        | _ => exact q.elim
  | _ => cases ra <;> exact q.elim
end
end Sim

end
section
set_option Elab.async false
set_option linter.all false
set_option maxRecDepth 100000
/-! SimL: methods of built-in types, joined. -/
namespace Sim
open PySem PySem.Spec PyProof.Rows L2 Ev

section
variable {D : Wd} {n k : Nat} {E : XK} {N : List Str} {sc : Scope} {X : Cx} {ee : Expr} {G : Hp} {ρ : List Addr} {h : EHeap} {H : Hp}

theorem ty_str {m : PM} (hm : ∀ h x, recvOk m h x = true → ∃ s, x = .str s) {v : Val} {y : V} (xh : RH D G ρ h H) (r : RV D G ρ v y) (e : recvOk m h v = true) : tyV D.K "str" y H := by
  obtain ⟨s, rfl⟩ := hm h v e
  cases r with
  | str _ _ => rfl
theorem recv_str (m : PM) (hm : ∀ h x, recvOk m h x = (match x with
    | .str _ => true
    | _ => false)) : ∀ h x, recvOk m h x = true → ∃ s, x = .str s := by
  intro h x e
  rw [hm] at e
  cases x with
  | str s => exact ⟨s, rfl⟩
  | _ => cases e
theorem find_sim : PmSim D E "str" .find (fun x xs H Q => ∃ a b, x = .str a ∧ xs = [.str b] ∧ Q (.int (Txt.find a b)) H) := by
  intro G ρ h H x args X xs Q xh rx ra q
  cases rx with
  | str s hs =>
    cases ra with
    | nil => exact q.elim
    | cons r1 r2 =>
      cases r2 with
      | cons _ _ => cases r1 <;> exact q.elim
      | nil =>
        cases r1 with
        | str s2 hs2 => exact ⟨s, s2, rfl, rfl, q G ρ H _ Ext.refl xh (.int _)⟩
        | _ => exact q.elim
  | _ => cases ra <;> exact q.elim
theorem rfind_sim : PmSim D E "str" .rfind (fun x xs H Q => ∃ a b, x = .str a ∧ xs = [.str b] ∧ Q (.int (Txt.rfind a b)) H) := by
  intro G ρ h H x args X xs Q xh rx ra q
  cases rx with
  | str s hs =>
    cases ra with
    | nil => exact q.elim
    | cons r1 r2 =>
      cases r2 with
      | cons _ _ => cases r1 <;> exact q.elim
      | nil =>
        cases r1 with
        | str s2 hs2 => exact ⟨s, s2, rfl, rfl, q G ρ H _ Ext.refl xh (.int _)⟩
        | _ => exact q.elim
  | _ => cases ra <;> exact q.elim
/-- the receiver of get -/
theorem isD_key {m : PM} (hm : m = .get1 ∨ m = .get2) {v : Val} (e : recvOk m h v = true) : ∃ j t l, v = .ref j ∧ h[j]? = some (.dict t l) := by
  have e' : (match (generalizing := false) v with
    | .ref n => (match h[n]? with
      | some (.dict _ _) => true
      | _ => false)
    | _ => false) = true := by
    rcases hm with rfl | rfl <;> exact e
  clear e
  cases v with
  | ref j =>
    simp only at e'
    cases q : h[j]? with
    | none => rw [q] at e'; cases e'
    | some o =>
      rw [q] at e'
      cases o with
      | dict t l => exact ⟨j, t, l, rfl, q⟩
      | _ => cases e'
  | _ => cases e'
theorem isD_of {m : PM} (hm : m = .get1 ∨ m = .get2) {v : Val} {y : V} (xh : RH D G ρ h H) (r : RV D G ρ v y) (e : recvOk m h v = true) : ∃ j a, v = .ref j ∧ y = .ref a ∧ ρ[j]? = some a ∧ IsD H a := by
  obtain ⟨j, t, l, rfl, hj⟩ := isD_key hm e
  cases r with
  | ref hr =>
    obtain ⟨u, h1, h2⟩ := xh.obj _ _ _ hr hj
    refine ⟨j, _, rfl, rfl, hr, ?_⟩
    cases h2 with
    | dictK _ => exact .inl ⟨_, .inl h1⟩
    | dictT _ => exact .inr ⟨_, .inl h1⟩
theorem get_sim {j : Nat} {a : Addr} {kv : Val} {ky : V} {d : Val} {z : V} {Q : VK} (xh : RH D G ρ h H) (hr : ρ[j]? = some a) (rk : RV D G ρ kv ky) (rd : RV D G ρ d z)
    (q : OkV D E G ρ (match h[j]? with
      | some (.dict t l) => if isKey t kv = true then .ok ((dictGet l kv).getD d) h else .no
      | _ => .no) Q) : ∃ o, DGet H a ky o ∧ Q (o.getD z) H := by
  cases hj : h[j]? with
  | none => rw [hj] at q; exact q.elim
  | some o =>
    rw [hj] at q
    cases o with
    | dict t l =>
      simp only at q
      split at q
      · rename_i hk
        obtain ⟨o, h1, h2⟩ := dget_rel xh hr hj hk rk
        refine ⟨o, h1, ?_⟩
        cases e1 : Ev.dictGet l kv with
        | none =>
          rw [e1] at h2 q
          cases o with
          | none => exact q G ρ H _ Ext.refl xh rd
          | some _ => exact h2.elim
        | some w =>
          rw [e1] at h2 q
          cases o with
          | none => exact h2.elim
          | some u => exact q G ρ H _ Ext.refl xh h2
      · exact q.elim
    | _ => exact q.elim
theorem starEach1 {e : Expr} (h : notStar e = true) (env : PySem.Env) (pos : Pos) : backTo pos (starEach [e] env) = [(false, eval e env)] := by
  rw [star_of h]; rfl
theorem starEach2 {e f : Expr} (h : notStar e = true) (h' : notStar f = true) (env : PySem.Env) (pos : Pos) : backTo pos (starEach [e, f] env) = [(false, eval e env), (false, eval f env)] := by
  rw [star_of h, star_of h']; rfl
theorem get1_of (hX : XOk D E k N sc X) {o es : Ex} {x : Expr} {l : List Expr} {ap cp : Pos} (ho : SimE D n k o) (hx : matchE (txOf D) N sc o x = true) (hes : ∀ e es', es = .cons e es' → SimE D n k e)
    (hsup : notSuper x = true) (hline : (ap.endLine == cp.line) = true) (hl : matchL (txOf D) N sc es l = true) (hlen : l.length < 20) (h1 : l.length = 1) : PE X (.Call (.Attribute x (lit "get") ap) l [] cp) (tE D E (cx D n) (.pm .get1 o es)) := by
  have few := few_of (D := D) hl hlen X.env cp
  cases l with
  | nil => cases h1
  | cons y r =>
    cases r with
    | cons _ _ => simp at h1
    | nil =>
      cases es with
      | cons e es' =>
        simp only [matchL, Bool.and_eq_true] at hl
        cases es' with
        | nil =>
          refine PE.imp (pe_dget1 hX.hu1 (ho E N sc X x hX hx) (hes _ _ rfl E N sc X y hX hl.1.2) ⟨notSuper_ok hsup _ _ _, few, hline, starEach1 hl.1.1 _ _⟩) fun σ H Q q => ?_
          obtain ⟨G, ρ, env, h, xh, re, q⟩ := q
          refine tG_bind xh re q fun G1 ρ1 H1 y1 v h1 e1 x1 r1 q1 => ?_
          have q2 : OkV D E G1 ρ1 ((recv .get1 v h1).bind fun _ h2 => ((evE (cx D n) e env h2).bind fun w h3 => .ok [w] h3).bind fun vs h3 => pmV .get1 v vs h3) Q := q1
          unfold recv at q2
          split at q2
          · rename_i hr
            obtain ⟨j, a, rfl, rfl, hra, hd⟩ := isD_of (.inl rfl) x1 r1 hr
            refine ⟨a, rfl, hd, ?_⟩
            have q3 : OkV D E G1 ρ1 ((evE (cx D n) e env h1).bind fun w h3 => pmV .get1 (.ref j) [w] h3) Q := by
              revert q2
              simp only [R.bind_ok]
              cases evE (cx D n) e env h1 <;> exact fun z => z
            refine tG_bind x1 (re.mono e1) q3 fun G2 ρ2 H2 y2 w h2 e2 x2 r2 q4 => ?_
            exact get_sim x2 (pre_get e2.r hra) r2 .non q4
          · exact q2.elim
        | _ => simp [matchL] at hl
      | _ => simp [matchL] at hl
theorem get2_of (hX : XOk D E k N sc X) {o es : Ex} {x : Expr} {l : List Expr} {ap cp : Pos} (ho : SimE D n k o) (hx : matchE (txOf D) N sc o x = true) (hes : ∀ e f es', es = .cons e (.cons f es') → SimE D n k e ∧ SimE D n k f)
    (hsup : notSuper x = true) (hline : (ap.endLine == cp.line) = true) (hl : matchL (txOf D) N sc es l = true) (hlen : l.length < 20) (h1 : l.length = 2) : PE X (.Call (.Attribute x (lit "get") ap) l [] cp) (tE D E (cx D n) (.pm .get2 o es)) := by
  have few := few_of (D := D) hl hlen X.env cp
  cases l with
  | nil => cases h1
  | cons y r =>
    cases r with
    | nil => simp at h1
    | cons y' r' =>
      cases r' with
      | cons _ _ => simp at h1
      | nil =>
        cases es with
        | cons e es' =>
          simp only [matchL, Bool.and_eq_true] at hl
          cases es' with
          | cons f es'' =>
            simp only [matchL, Bool.and_eq_true] at hl
            cases es'' with
            | nil =>
              refine PE.imp (pe_dget2 hX.hu1 (ho E N sc X x hX hx) ((hes _ _ _ rfl).1 E N sc X y hX hl.1.2) ((hes _ _ _ rfl).2 E N sc X y' hX hl.2.1.2) ⟨notSuper_ok hsup _ _ _, few, hline, starEach2 hl.1.1 hl.2.1.1 _ _⟩) fun σ H Q q => ?_
              obtain ⟨G, ρ, env, h, xh, re, q⟩ := q
              refine tG_bind xh re q fun G1 ρ1 H1 y1 v h1 e1 x1 r1 q1 => ?_
              have q2 : OkV D E G1 ρ1 ((recv .get2 v h1).bind fun _ h2 => (evL (cx D n) (.cons e (.cons f .nil)) env h2).bind fun vs h3 => pmV .get2 v vs h3) Q := q1
              unfold recv at q2
              split at q2
              · rename_i hr
                obtain ⟨j, a, rfl, rfl, hra, hd⟩ := isD_of (.inr rfl) x1 r1 hr
                refine ⟨a, rfl, hd, ?_⟩
                have q3 : OkV D E G1 ρ1 ((evE (cx D n) e env h1).bind fun w h3 => (evE (cx D n) f env h3).bind fun w2 h4 => pmV .get2 (.ref j) [w, w2] h4) Q := by
                  have q2' : OkV D E G1 ρ1 (((evE (cx D n) e env h1).bind fun w h3 => ((evE (cx D n) f env h3).bind fun w2 h4 => .ok [w2] h4).bind fun ws h4 => .ok (w :: ws) h4).bind fun vs h3 => pmV .get2 (.ref j) vs h3) Q := q2
                  revert q2'
                  cases evE (cx D n) e env h1 with
                  | ok w h3 =>
                    simp only [R.bind_ok]
                    cases evE (cx D n) f env h3 <;> exact fun z => z
                  | exc _ _ _ => exact fun z => z
                  | no => exact fun z => z
                refine tG_bind x1 (re.mono e1) q3 fun G2 ρ2 H2 y2 w h2 e2 x2 r2 q4 => ?_
                refine tG_bind x2 ((re.mono e1).mono e2) q4 fun G3 ρ3 H3 y3 w2 h3 e3 x3 r3 q5 => ?_
                exact get_sim x3 (pre_get e3.r (pre_get e2.r hra)) (r2.mono e3) r3 q5
              · exact q2.elim
            | _ => simp [matchL] at hl
          | _ => simp [matchL] at hl
        | _ => simp [matchL] at hl
/-- a dict's get with other than the arguments that it takes: stuck behind the arguments -/
theorem sim_pm (m : PM) {o es : Ex} (ho : SimE D n k o) (hes : SimL D n k es) (h1 : ∀ e es', es = .cons e es' → SimE D n k e) (h2 : ∀ e f es', es = .cons e (.cons f es') → SimE D n k e ∧ SimE D n k f) : SimE D n k (.pm m o es) := by
  intro E N sc X ee hX hm
  simp only [matchE] at hm
  split at hm
  · rename_i x nm l hxy
    obtain ⟨ap, cp, rfl, hline⟩ := asMeth_eq hxy
    simp only [Bool.and_eq_true, beq_iff_eq, decide_eq_true_eq] at hm
    obtain ⟨⟨⟨⟨⟨en, hok⟩, hs⟩, hlen⟩, hx⟩, hl⟩ := hm
    subst en
    have po := ho E N sc X x hX hx
    have hK := hX.hK
    have lst : ∀ m' : PM, (∀ h x, recvOk m' h x = (match x with
      | .ref n => (match h[n]? with
        | some (.list _) => true
        | _ => false)
      | _ => false)) → ∀ {G : Hp} {ρ : List Addr} {h : EHeap} {H : Hp} {v : Val} {y : V}, RH D G ρ h H → RV D G ρ v y → recvOk m' h v = true → tyV D.K "list" y H := fun m' hm' _ _ _ _ _ _ xh r e => ty_list (recv_list m' hm') xh r e
    have stl : ∀ m' : PM, (∀ h x, recvOk m' h x = (match x with
      | .str _ => true
      | _ => false)) → ∀ {G : Hp} {ρ : List Addr} {h : EHeap} {H : Hp} {v : Val} {y : V}, RH D G ρ h H → RV D G ρ v y → recvOk m' h v = true → tyV D.K "str" y H := fun m' hm' _ _ _ _ _ _ xh r e => ty_str (recv_str m' hm') xh r e
    cases m with
    | append => exact pm_of hX po hes PySem.F.plainAttrs_list PySem.F.slot_list_append PySem.F.type_list_append mt_append append_sim (lst .append fun _ _ => rfl) hs hline hl hlen
    | extend => exact pm_of hX po hes PySem.F.plainAttrs_list PySem.F.slot_list_extend PySem.F.type_list_extend mt_extend extend_sim (lst .extend fun _ _ => rfl) hs hline hl hlen
    | pop0 => exact pm_of hX po hes PySem.F.plainAttrs_list PySem.F.slot_list_pop PySem.F.type_list_pop mt_pop pop_sim (lst .pop0 fun _ _ => rfl) hs hline hl hlen
    | pop1 => exact pm_of hX po hes PySem.F.plainAttrs_list PySem.F.slot_list_pop PySem.F.type_list_pop mt_popAt popAt_sim (lst .pop1 fun _ _ => rfl) hs hline hl hlen
    | reverse => exact pm_of hX po hes PySem.F.plainAttrs_list PySem.F.slot_list_reverse PySem.F.type_list_reverse mt_reverse reverse_sim (lst .reverse fun _ _ => rfl) hs hline hl hlen
    | clear => exact pm_of hX po hes PySem.F.plainAttrs_list PySem.F.slot_list_clear PySem.F.type_list_clear mt_clear clear_sim (lst .clear fun _ _ => rfl) hs hline hl hlen
    | find => exact pm_of hX po hes PySem.F.plainAttrs_str PySem.F.slot_str_find PySem.F.type_str_find mt_find find_sim (stl .find fun _ _ => rfl) hs hline hl hlen
    | rfind => exact pm_of hX po hes PySem.F.plainAttrs_str PySem.F.slot_str_rfind PySem.F.type_str_rfind mt_rfind rfind_sim (stl .rfind fun _ _ => rfl) hs hline hl hlen
    | get1 =>
      exact get1_of hX ho hx h1 hs hline hl hlen (by simpa [pmOk] using hok)
    | get2 =>
      exact get2_of hX ho hx h2 hs hline hl hlen (by simpa [pmOk] using hok)
    | _ => cases hok
  · cases hm
end
end Sim

end
section
set_option Elab.async false
set_option linter.all false
set_option maxRecDepth 100000
/-! SimM: targets, what a for walks. -/
namespace Sim
open PySem PySem.Spec PyProof.Rows L2 Ev

section
variable {D : Wd} {n k : Nat} {E : XK} {N : List Str} {sc : Scope} {X : Cx} {ee : Expr} {G : Hp} {ρ : List Addr} {h : EHeap} {H : Hp}

/-! ### targets -/
def tgt (D : Wd) (t : Tg) : TG := fun x σ H Q => ∃ G ρ env h v env', RH D G ρ h H ∧ REnv D G ρ env σ ∧ RV D G ρ v x ∧ bindTg t v env = some env' ∧
  ∀ σ', REnv D G ρ env' σ' → σ'.length = σ.length → (∀ i, i ∉ tgSlots t → σ'[i]? = σ[i]?) → Q σ' H
def tgts (D : Wd) (t : Tg) : TGs := fun xs σ H Q => ∃ G ρ env h vs env', RH D G ρ h H ∧ REnv D G ρ env σ ∧ RVs D G ρ vs xs ∧ bindTgs t vs env = some env' ∧
  ∀ σ', REnv D G ρ env' σ' → σ'.length = σ.length → (∀ i, i ∉ tgSlots t → σ'[i]? = σ[i]?) → Q σ' H
theorem PG.imp {e : Expr} {t t' : TG} (h : PG X e t) (f : ∀ v σ H Q, t' v σ H Q → t v σ H Q) : PG X e t' := ⟨fun pins s σ H v u Q I r q => h.run pins s σ H v u Q I r (f v σ H Q q)⟩
theorem PGs.imp {e : List Expr} {t t' : TGs} (h : PGs X e t) (f : ∀ v σ H Q, t' v σ H Q → t v σ H Q) : PGs X e t' := ⟨fun pins s σ H v u Q I r q => h.run pins s σ H v u Q I r (f v σ H Q q)⟩
theorem PG.or {e : Expr} {t t' : TG} (h : PG X e t) (h' : PG X e t') : PG X e (fun v σ H Q => t v σ H Q ∨ t' v σ H Q) := ⟨fun pins s σ H v u Q I r q => q.elim (h.run pins s σ H v u Q I r) (h'.run pins s σ H v u Q I r)⟩
theorem PI.or {tg e : Expr} {t t' : TI} (h : PI X tg e t) (h' : PI X tg e t') : PI X tg e (fun σ H Q => t σ H Q ∨ t' σ H Q) := ⟨fun pins s σ H R I q => q.elim (h.run pins s σ H R I) (h'.run pins s σ H R I)⟩
theorem PI.imp {tg e : Expr} {t t' : TI} (h : PI X tg e t) (f : ∀ σ H Q, t' σ H Q → t σ H Q) : PI X tg e t' := ⟨fun pins s σ H R I q => h.run pins s σ H R I (f σ H R q)⟩

theorem assignEach_of {p : Str → Bool} {t : Tg} {x : Expr} (hm : matchT N p t x = true) (r : List Expr) (env : PySem.Env) : assignEach (x :: r) env = (false, assign x env) :: assignEach r env := by
  cases x with
  | Starred _ _ => cases t <;> simp [matchT, asName, asTup] at hm
  | _ => rfl
theorem each_of {p : Str → Bool} : ∀ {t : Tg} {es : List Expr}, matchT.matchTs N p t es = true → (assignEach es X.env).findIdx? (·.1) = none
  | .nm i, es, hm => by simp [matchT.matchTs] at hm
  | .nil, es, hm => by
    simp only [matchT.matchTs, List.isEmpty_iff] at hm
    subst hm
    rfl
  | .cons t ts, es, hm => by
    cases es with
    | nil => simp [matchT.matchTs] at hm
    | cons x r =>
      simp only [matchT.matchTs, Bool.and_eq_true] at hm
      rw [assignEach_of hm.1, List.findIdx?_cons]
      simp [each_of hm.2]
theorem each_len {p : Str → Bool} : ∀ {t : Tg} {es : List Expr} {l : List Val} {env env' : EEnv}, matchT.matchTs N p t es = true → bindTgs t l env = some env' → l.length = (assignEach es X.env).length
  | .nm i, es, l, env, env', hm, hb => by simp [matchT.matchTs] at hm
  | .nil, es, l, env, env', hm, hb => by
    simp only [matchT.matchTs, List.isEmpty_iff] at hm
    subst hm
    cases l with
    | nil => rfl
    | cons _ _ => simp [bindTgs] at hb
  | .cons t ts, es, l, env, env', hm, hb => by
    cases es with
    | nil => simp [matchT.matchTs] at hm
    | cons x r =>
      simp only [matchT.matchTs, Bool.and_eq_true] at hm
      cases l with
      | nil => simp [bindTgs] at hb
      | cons y ys =>
        simp only [bindTgs] at hb
        cases e1 : bindTg t y env with
        | none => rw [e1] at hb; cases hb
        | some env1 =>
          rw [e1] at hb
          rw [assignEach_of hm.1]
          simp [each_len hm.2 hb]
mutual
theorem pg_of (hc : X.calm = true) (hnd : X.N.Nodup) (hN : X.N = N) (hK : X.K = D.K) {p : Str → Bool} (hp : ∀ x, p x = true → L2.Loc X.env.scope x ∧ (X.fn x = true ∨ X.env.scope.names.lookup x = some .local)) : ∀ (t : Tg) (e : Expr), matchT N p t e = true → PG X e (tgt D t)
  | .nm i, e, hm => by
    simp only [matchT] at hm
    split at hm
    · rename_i x hx
      obtain ⟨pos, rfl⟩ := asName_eq hx
      simp only [Bool.and_eq_true, beq_iff_eq] at hm
      refine PG.imp (pg_name hnd (by rw [hN]; exact hm.1) (hp x hm.2).1 (hp x hm.2).2) fun v σ H Q q => ?_
      obtain ⟨G, ρ, env, h, w, env', xh, re, rv, eb, q⟩ := q
      simp only [bindTg, Option.some.injEq] at eb
      subst eb
      exact q _ (re.set i rv) (by simp) fun j hj => by
        rw [List.getElem?_set_ne]
        intro z
        exact hj (by simp [tgSlots, z])
    · cases hm
  | .nil, e, hm => by simp [matchT] at hm
  | .cons t ts, e, hm => by
    have hm0 := hm
    simp only [matchT] at hm
    split at hm
    · rename_i l hl
      obtain ⟨kk, pos, rfl⟩ := asTup_eq hl
      cases l with
      | nil => cases hm
      | cons x r =>
        have hm1 : matchT.matchTs N p (.cons t ts) (x :: r) = true := by simp only [matchT.matchTs]; exact hm
        have hs := pgs_of hc hnd hN hK hp (.cons t ts) (x :: r) hm1
        have hall := each_of (X := X) hm1
        refine PG.imp (PG.or (pg_tup hc hs rfl hall) (pg_unl hc hs rfl hall)) fun v σ H Q q => ?_
        obtain ⟨G, ρ, env, h, w, env', xh, re, rv, eb, q⟩ := q
        have len : ∀ (l : List Val) (env0 env1 : EEnv), bindTgs (.cons t ts) l env0 = some env1 → l.length = (assignEach (x :: r) X.env).length := fun l env0 env1 hb => each_len (X := X) hm1 hb
        cases rv with
        | tup s hl rs =>
          rename_i a l us
          have hb : bindTgs (.cons t ts) l env = some env' := by
            cases l with
            | nil => simp [bindTg] at eb
            | cons y ys => simpa only [bindTg, bindTgs] using eb
          refine .inl ⟨a, us, rfl, .inl (.inl (xh.sub _ _ s)), by rw [rs.length]; exact len _ _ _ hb, G, ρ, env, h, l, env', xh, re, rs, hb, q⟩
        | lst s hl rs =>
          rename_i a l us
          have hb : bindTgs (.cons t ts) l env = some env' := by
            cases l with
            | nil => simp [bindTg] at eb
            | cons y ys => simpa only [bindTg, bindTgs] using eb
          refine .inr ⟨a, us, rfl, .inl (.inl (xh.sub _ _ s)), by rw [rs.length]; exact len _ _ _ hb, G, ρ, env, h, l, env', xh, re, rs, hb, q⟩
        | ktp s hl rs =>
          rename_i a l us
          have hb : bindTgs (.cons t ts) l env = some env' := by
            cases l with
            | nil => simp [bindTg] at eb
            | cons y ys => simpa only [bindTg, bindTgs] using eb
          rcases ktp_seq xh.sub s with z | z
          · exact .inr ⟨a, us, rfl, by rw [hK]; exact z, by rw [rs.length]; exact len _ _ _ hb, G, ρ, env, h, l, env', xh, re, rs, hb, q⟩
          · exact .inl ⟨a, us, rfl, by rw [hK]; exact z, by rw [rs.length]; exact len _ _ _ hb, G, ρ, env, h, l, env', xh, re, rs, hb, q⟩
        | _ => simp [bindTg] at eb
    · cases hm
theorem pgs_of (hc : X.calm = true) (hnd : X.N.Nodup) (hN : X.N = N) (hK : X.K = D.K) {p : Str → Bool} (hp : ∀ x, p x = true → L2.Loc X.env.scope x ∧ (X.fn x = true ∨ X.env.scope.names.lookup x = some .local)) : ∀ (t : Tg) (es : List Expr), matchT.matchTs N p t es = true → PGs X es (tgts D t)
  | .nm i, es, hm => by simp [matchT.matchTs] at hm
  | .nil, es, hm => by
    simp only [matchT.matchTs, List.isEmpty_iff] at hm
    subst hm
    refine PGs.imp pgs_nil fun v σ H Q q => ?_
    obtain ⟨G, ρ, env, h, w, env', xh, re, rv, eb, q⟩ := q
    cases rv with
    | nil =>
      simp only [bindTgs, Option.some.injEq] at eb
      subst eb
      exact ⟨rfl, q σ re rfl fun _ _ => rfl⟩
    | cons _ _ => simp [bindTgs] at eb
  | .cons t ts, es, hm => by
    cases es with
    | nil => simp [matchT.matchTs] at hm
    | cons x r =>
      simp only [matchT.matchTs, Bool.and_eq_true] at hm
      have h1 := pg_of hc hnd hN hK hp t x hm.1
      have h2 := pgs_of hc hnd hN hK hp ts r hm.2
      refine PGs.imp (pgs_cons h1 h2 (by rw [assignEach_of hm.1]; rfl)) fun v σ H Q q => ?_
      obtain ⟨G, ρ, env, h, w, env', xh, re, rv, eb, q⟩ := q
      cases rv with
      | nil => simp [bindTgs] at eb
      | cons r1 r2 =>
        simp only [bindTgs] at eb
        cases e1 : bindTg t _ env with
        | none => rw [e1] at eb; cases eb
        | some env1 =>
          rw [e1] at eb
          simp only [Option.bind_some] at eb
          refine ⟨_, _, rfl, G, ρ, env, h, _, env1, xh, re, r1, e1, fun σ1 re1 l1 f1 => ?_⟩
          refine ⟨G, ρ, env1, h, _, env', xh, re1, r2, eb, fun σ2 re2 l2 f2 => ?_⟩
          exact q σ2 re2 (by rw [l2, l1]) fun i hi => by
            simp only [tgSlots, List.mem_append, not_or] at hi
            rw [f2 i hi.2, f1 i hi.1]
end

/-! ### what a for walks -/
structure WalkV (D : Wd) (G : Hp) (ρ : List Addr) (vs : List Val) (lk : Lk) (J : It) : Prop where
  most : vs.length ≤ most
  walk : ∃ Y, Walk J vs.length (fun H' => ∃ G' ρ' h', Ext G ρ G' ρ' ∧ RH D G' ρ' h' H' ∧ lkOk lk h' = true) Y ∧
    ∀ i G' ρ' h' H' x H'', i < vs.length → Ext G ρ G' ρ' → RH D G' ρ' h' H' → lkOk lk h' = true → Y i H' x H'' → ∃ G'' ρ'' v, vs[i]? = some v ∧ Ext G' ρ' G'' ρ'' ∧ RH D G'' ρ'' h' H'' ∧ RV D G'' ρ'' v x
abbrev relW (D : Wd) : Hp → List Addr → (List Val × Lk) → It → Prop := fun G ρ p J => WalkV D G ρ p.1 p.2 J
def SimI (D : Wd) (n k : Nat) (e : Ex) : Prop := ∀ E N sc X tg ee, XOk D E k N sc X → matchI (txOf D) N sc e tg ee = true → PI X tg ee (tG D E (relW D) (evI (cx D n) e))

/-- the things of a list, of a tuple -/
theorem walk_l {a : Addr} {l : List Val} {lk : Lk} (hl : l.length ≤ Ev.most) (hs : ∀ G' ρ' h' H', Ext G ρ G' ρ' → RH D G' ρ' h' H' → lkOk lk h' = true → ∃ us, SqL D.K H' a us ∧ RVs D G' ρ' l us) : WalkV D G ρ l lk (Itl D.K a) := by
  refine ⟨hl, (Itl D.K a).yld, ⟨fun i H hi ⟨G', ρ', h', e, x, q⟩ => ?_, fun H ⟨G', ρ', h', e, x, q⟩ => ?_, fun i H x H' _ _ y => y⟩, ?_⟩
  · obtain ⟨us, w1, w2⟩ := hs G' ρ' h' H e x q
    have hi' : i < us.length := by rw [w2.length]; exact hi
    exact ⟨us, us[i], w1, by simp [hi']⟩
  · obtain ⟨us, w1, w2⟩ := hs G' ρ' h' H e x q
    exact ⟨us, w1, by rw [w2.length]; exact Nat.le_refl _⟩
  · intro i G' ρ' h' H' x H'' hi e xh hq y
    obtain ⟨rfl, hx⟩ := y
    obtain ⟨us, w1, w2⟩ := hs G' ρ' h' _ e xh hq
    obtain ⟨v, h1, h2⟩ := w2.get' (hx us w1)
    exact ⟨G', ρ', v, h1, Ext.refl, xh, h2⟩
theorem walk_t {a : Addr} {l : List Val} {lk : Lk} (hl : l.length ≤ Ev.most) (hs : ∀ G' ρ' h' H', Ext G ρ G' ρ' → RH D G' ρ' h' H' → lkOk lk h' = true → ∃ us, SqT D.K H' a us ∧ RVs D G' ρ' l us) : WalkV D G ρ l lk (Itt D.K a) := by
  refine ⟨hl, (Itt D.K a).yld, ⟨fun i H hi ⟨G', ρ', h', e, x, q⟩ => ?_, fun H ⟨G', ρ', h', e, x, q⟩ => ?_, fun i H x H' _ _ y => y⟩, ?_⟩
  · obtain ⟨us, w1, w2⟩ := hs G' ρ' h' H e x q
    have hi' : i < us.length := by rw [w2.length]; exact hi
    exact ⟨us, us[i], w1, by simp [hi']⟩
  · obtain ⟨us, w1, w2⟩ := hs G' ρ' h' H e x q
    exact ⟨us, w1, by rw [w2.length]; exact Nat.le_refl _⟩
  · intro i G' ρ' h' H' x H'' hi e xh hq y
    obtain ⟨rfl, hx⟩ := y
    obtain ⟨us, w1, w2⟩ := hs G' ρ' h' _ e xh hq
    obtain ⟨v, h1, h2⟩ := w2.get' (hx us w1)
    exact ⟨G', ρ', v, h1, Ext.refl, xh, h2⟩
/-- a list of the heap while it stays -/
theorem ref_list {m : Nat} {a : Addr} {l : List Val} (hr : ρ[m]? = some a) : ∀ G' ρ' h' H', Ext G ρ G' ρ' → RH D G' ρ' h' H' → lkOk (some (m, .list l)) h' = true → ∃ us, SqL D.K H' a us ∧ RVs D G' ρ' l us := by
  intro G' ρ' h' H' e x q
  obtain ⟨us, w1, w2, _⟩ := list_at x (pre_get e.r hr) (of_decide_eq_true q)
  exact ⟨us, .inl (.inl w1), w2⟩
/-- a new pair -/
theorem new_pair {x y : V} {v w : Val} {T : Addr} (xh : RH D G ρ h H) (r1 : RV D G ρ v x) (r2 : RV D G ρ w y) (hT : H T = none) : ∃ G'', Ext G ρ G'' ρ ∧ RH D G'' ρ h (upd H T (.tup [x, y])) ∧ RV D G'' ρ (.tup [v, w]) (.ref T) := by
  obtain ⟨x2, e⟩ := xh.freeze (o := .tup [x, y]) hT
  exact ⟨_, e, x2, .tup upd_same (by show 2 ≤ Ev.most; decide) (.cons (r1.mono e) (.cons (r2.mono e) .nil))⟩
theorem range_get {lo : Int} {m i : Nat} (hi : i < m) : (rangeL lo m)[i]? = some (.int (lo + i)) := by
  unfold rangeL
  simp [hi]
theorem range_len {lo : Int} {m : Nat} : (rangeL lo m).length = m := by
  unfold rangeL
  simp
theorem zipw_get {f : Val → Val → Val} {l m : List Val} {i : Nat} {x y : Val} (h1 : l[i]? = some x) (h2 : m[i]? = some y) : (l.zipWith f m)[i]? = some (f x y) := by
  rw [List.getElem?_zipWith, h1, h2]
theorem walk_e {a : Addr} {l : List Val} {lk : Lk} (hl : l.length ≤ Ev.most) (hs : ∀ G' ρ' h' H', Ext G ρ G' ρ' → RH D G' ρ' h' H' → lkOk lk h' = true → ∃ us, SqL D.K H' a us ∧ RVs D G' ρ' l us) : WalkV D G ρ ((rangeL 0 l.length).zipWith (fun i x => .tup [i, x]) l) lk (Ite D.K a) := by
  have len : ((rangeL 0 l.length).zipWith (fun i x => Val.tup [i, x]) l).length = l.length := by rw [List.length_zipWith, range_len, Nat.min_self]
  refine ⟨by rw [len]; exact hl, (Ite D.K a).yld, ⟨fun i H hi ⟨G', ρ', h', e, x, q⟩ => ?_, fun H ⟨G', ρ', h', e, x, q⟩ => ?_, fun i H x H' _ _ y => y⟩, ?_⟩
  · obtain ⟨us, w1, w2⟩ := hs G' ρ' h' H e x q
    have hi' : i < us.length := by rw [w2.length]; rw [len] at hi; exact hi
    exact ⟨us, us[i], w1, by simp [hi']⟩
  · obtain ⟨us, w1, w2⟩ := hs G' ρ' h' H e x q
    exact ⟨us, w1, by rw [w2.length, len]; exact Nat.le_refl _⟩
  · intro i G' ρ' h' H' x H'' hi e xh hq y
    obtain ⟨T, z, rfl, hT, rfl, hx⟩ := y
    obtain ⟨us, w1, w2⟩ := hs G' ρ' h' H' e xh hq
    obtain ⟨v, h1, h2⟩ := w2.get' (hx us w1)
    obtain ⟨G'', e2, x2, r2⟩ := new_pair (v := .int (i : Nat)) xh (.int _) h2 hT
    rw [len] at hi
    exact ⟨G'', ρ', _, zipw_get (by rw [range_get hi]; simp) h1, e2, x2, r2⟩
theorem walk_z {a b : Addr} {l m : List Val} (hl : l.length ≤ Ev.most) (h1 : ∀ G' ρ' h' H', Ext G ρ G' ρ' → RH D G' ρ' h' H' → ∃ us, SqL D.K H' a us ∧ RVs D G' ρ' l us) (h2 : ∀ G' ρ' h' H', Ext G ρ G' ρ' → RH D G' ρ' h' H' → ∃ us, SqL D.K H' b us ∧ RVs D G' ρ' m us) : WalkV D G ρ (l.zipWith (fun x y => .tup [x, y]) m) none (Itz D.K a b) := by
  have len : (l.zipWith (fun x y => Val.tup [x, y]) m).length = min l.length m.length := List.length_zipWith
  refine ⟨by rw [len]; omega, (Itz D.K a b).yld, ⟨fun i H hi ⟨G', ρ', h', e, x, q⟩ => ?_, fun H ⟨G', ρ', h', e, x, q⟩ => ?_, fun i H x H' _ _ y => y⟩, ?_⟩
  · obtain ⟨us, w1, w2⟩ := h1 G' ρ' h' H e x
    obtain ⟨us2, w3, w4⟩ := h2 G' ρ' h' H e x
    rw [len] at hi
    have hi' : i < us.length := by rw [w2.length]; omega
    have hi2 : i < us2.length := by rw [w4.length]; omega
    exact ⟨us, us2, us[i], us2[i], w1, w3, by simp [hi'], by simp [hi2]⟩
  · obtain ⟨us, w1, w2⟩ := h1 G' ρ' h' H e x
    obtain ⟨us2, w3, w4⟩ := h2 G' ρ' h' H e x
    exact ⟨us, us2, w1, w3, by rw [w2.length, w4.length, len]; omega⟩
  · intro i G' ρ' h' H' x H'' hi e xh hq y
    obtain ⟨T, z, z2, rfl, hT, rfl, hx, hy⟩ := y
    obtain ⟨us, w1, w2⟩ := h1 G' ρ' h' H' e xh
    obtain ⟨us2, w3, w4⟩ := h2 G' ρ' h' H' e xh
    obtain ⟨v, g1, g2⟩ := w2.get' (hx us w1)
    obtain ⟨v2, g3, g4⟩ := w4.get' (hy us2 w3)
    obtain ⟨G'', e2, x2, r2⟩ := new_pair xh g2 g4 hT
    exact ⟨G'', ρ', _, zipw_get g1 g3, e2, x2, r2⟩
theorem walk_zt {a b : Addr} {l m : List Val} (hl : l.length ≤ Ev.most) (h1 : ∀ G' ρ' h' H', Ext G ρ G' ρ' → RH D G' ρ' h' H' → ∃ us, SqT D.K H' a us ∧ RVs D G' ρ' l us) (h2 : ∀ G' ρ' h' H', Ext G ρ G' ρ' → RH D G' ρ' h' H' → ∃ us, SqT D.K H' b us ∧ RVs D G' ρ' m us) : WalkV D G ρ (l.zipWith (fun x y => .tup [x, y]) m) none (RZ.ItzT D.K a b) := by
  have len : (l.zipWith (fun x y => Val.tup [x, y]) m).length = min l.length m.length := List.length_zipWith
  refine ⟨by rw [len]; omega, (RZ.ItzT D.K a b).yld, ⟨fun i H hi ⟨G', ρ', h', e, x, q⟩ => ?_, fun H ⟨G', ρ', h', e, x, q⟩ => ?_, fun i H x H' _ _ y => y⟩, ?_⟩
  · obtain ⟨us, w1, w2⟩ := h1 G' ρ' h' H e x
    obtain ⟨us2, w3, w4⟩ := h2 G' ρ' h' H e x
    rw [len] at hi
    have hi' : i < us.length := by rw [w2.length]; omega
    have hi2 : i < us2.length := by rw [w4.length]; omega
    exact ⟨us, us2, us[i], us2[i], w1, w3, by simp [hi'], by simp [hi2]⟩
  · obtain ⟨us, w1, w2⟩ := h1 G' ρ' h' H e x
    obtain ⟨us2, w3, w4⟩ := h2 G' ρ' h' H e x
    exact ⟨us, us2, w1, w3, by rw [w2.length, w4.length, len]; omega⟩
  · intro i G' ρ' h' H' x H'' hi e xh hq y
    obtain ⟨T, z, z2, rfl, hT, rfl, hx, hy⟩ := y
    obtain ⟨us, w1, w2⟩ := h1 G' ρ' h' H' e xh
    obtain ⟨us2, w3, w4⟩ := h2 G' ρ' h' H' e xh
    obtain ⟨v, g1, g2⟩ := w2.get' (hx us w1)
    obtain ⟨v2, g3, g4⟩ := w4.get' (hy us2 w3)
    obtain ⟨G'', e2, x2, r2⟩ := new_pair xh g2 g4 hT
    exact ⟨G'', ρ', _, zipw_get g1 g3, e2, x2, r2⟩
theorem chars_get {s : Str} {i : Nat} {c : Nat} (h : s.cps[i]? = some c) : (chars s)[i]? = some (.str ⟨#[c]⟩) := by
  unfold chars
  rw [List.getElem?_map]
  simp [h]
theorem chars_len (s : Str) : (chars s).length = s.cps.size := by
  unfold chars
  simp
theorem sOk_char {s : Str} (hs : sOk s) {i : Nat} {c : Nat} (h : s.cps[i]? = some c) : sOk ⟨#[c]⟩ := by
  have h0 : 0 < s.cps.size := by
    have := (Array.getElem?_eq_some_iff.mp h).1
    omega
  exact sOk_sub (l := [c]) hs h0 fun d hd => by
    simp only [List.mem_singleton] at hd
    subst hd
    exact Array.mem_toList_iff.mpr (Array.mem_of_getElem? h)
theorem sim_itV {a : Ex} (ha : SimE D n k a) : SimI D n k (.itV a) := by
  intro E N sc X tg ee hX hm
  simp only [matchI] at hm
  have p := ha E N sc X ee hX hm
  refine PI.imp (PI.or (PI.or (pi_tup (tg := tg) p) (pi_list p)) (pi_str p)) fun σ H Q q => ?_
  obtain ⟨G, ρ, env, h, xh, re, q⟩ := q
  have hK := hX.hK
  have q' : OkG D E (relW D) G ρ ((evE (cx D n) a env h).bind fun v h1 => (match v with
      | .tup l => R.ok (l, none) h1
      | .ktp l => .ok (l, none) h1
      | .scr l => .ok (l, none) h1
      | .lst l => .ok (l, none) h1
      | .str s => .ok (chars s, none) h1
      | .ref n => match h1[n]? with
        | some (.list l) => .ok (l, some (n, .list l)) h1
        | _ => .no
      | _ => .no)) Q := q
  cases hv : evE (cx D n) a env h with
  | no => rw [hv] at q'; exact q'.elim
  | exc c fs h1 =>
    rw [hv] at q'
    exact .inl (.inl ⟨G, ρ, env, h, xh, re, by rw [hv]; exact q'⟩)
  | ok v h1 =>
    rw [hv] at q'
    simp only [R.bind_ok] at q'
    cases v with
    | tup l =>
      refine .inl (.inl ⟨G, ρ, env, h, xh, re, ?_⟩)
      rw [hv]
      intro G1 ρ1 H1 y e1 x1 r1
      cases r1 with
      | tup s hl rs =>
        rw [hK]
        exact ⟨_, rfl, ⟨_, .inl (.inl (x1.sub _ _ s))⟩, q' G1 ρ1 H1 _ e1 x1 (walk_t hl fun G' ρ' h' H' e x _ => ⟨_, .inl (.inl (x.sub _ _ (e.g _ _ s))), rs.mono e⟩)⟩
    | ktp l =>
      refine .inl (.inl ⟨G, ρ, env, h, xh, re, ?_⟩)
      rw [hv]
      intro G1 ρ1 H1 y e1 x1 r1
      cases r1 with
      | ktp s hl rs =>
        have s' : ∀ H : Hp, SqT D.K H _ _ := fun H => SqT_mono (fun _ _ z => by cases z) s
        rw [hK]
        exact ⟨_, rfl, ⟨_, s' _⟩, q' G1 ρ1 H1 _ e1 x1 (walk_t hl fun G' ρ' h' H' e x _ => ⟨_, s' _, rs.mono e⟩)⟩
    | lst l =>
      refine .inl (.inr ⟨G, ρ, env, h, xh, re, ?_⟩)
      rw [hv]
      intro G1 ρ1 H1 y e1 x1 r1
      cases r1 with
      | lst s hl rs =>
        rw [hK]
        exact ⟨_, rfl, ⟨_, .inl (.inl (x1.sub _ _ s))⟩, q' G1 ρ1 H1 _ e1 x1 (walk_l hl fun G' ρ' h' H' e x _ => ⟨_, .inl (.inl (x.sub _ _ (e.g _ _ s))), rs.mono e⟩)⟩
    | scr l =>
      refine .inl (.inr ⟨G, ρ, env, h, xh, re, ?_⟩)
      rw [hv]
      intro G1 ρ1 H1 y e1 x1 r1
      cases r1 with
      | scr s hl rs =>
        rw [hK]
        exact ⟨_, rfl, ⟨_, scr_seq x1.sub s⟩, q' G1 ρ1 H1 _ e1 x1 (walk_l hl fun G' ρ' h' H' e x _ => ⟨_, scr_seq x.sub (s.imp (fun z => z.imp (fun z => e.g _ _ z) fun ⟨o, z⟩ => ⟨o, e.g _ _ z⟩) id), rs.mono e⟩)⟩
    | str s =>
      refine .inr ⟨G, ρ, env, h, xh, re, ?_⟩
      rw [hv]
      intro G1 ρ1 H1 y e1 x1 r1
      cases r1 with
      | str _ hs =>
        refine ⟨s, rfl, q' G1 ρ1 H1 _ e1 x1 ?_⟩
        refine ⟨by rw [chars_len]; exact hs.len, fun i H v H' => H' = H ∧ ∃ c, s.cps[i]? = some c ∧ v = .str ⟨#[c]⟩, ?_, ?_⟩
        · show Walk (Its s) (chars s).length _ _
          rw [chars_len]
          exact (walk_str (z := s)).mono (fun _ _ => trivial) fun i H x H' _ _ y => y
        · intro i G' ρ' h' H' x H'' hi e xh hq y
          obtain ⟨rfl, c, hc, rfl⟩ := y
          exact ⟨G', ρ', _, chars_get hc, Ext.refl, xh, .str _ (sOk_char hs hc)⟩
    | ref m =>
      refine .inl (.inr ⟨G, ρ, env, h, xh, re, ?_⟩)
      rw [hv]
      intro G1 ρ1 H1 y e1 x1 r1
      simp only at q'
      cases hm : h1[m]? with
      | none => rw [hm] at q'; exact q'.elim
      | some o =>
        rw [hm] at q'
        cases o with
        | list l =>
          simp only at q'
          cases r1 with
          | ref hr =>
            obtain ⟨us, w1, w2, w3⟩ := list_at x1 hr hm
            rw [hK]
            exact ⟨_, rfl, ⟨us, .inl (.inl w1)⟩, q' G1 ρ1 H1 _ e1 x1 (walk_l w3 (ref_list hr))⟩
        | _ => exact q'.elim
    | _ => exact q'.elim
end
end Sim

end
section
set_option Elab.async false
set_option linter.all false
set_option maxRecDepth 100000
/-! SimN: range, enumerate, zip; comprehensions. -/
namespace Sim
open PySem PySem.Spec PyProof.Rows L2 Ev

section
variable {D : Wd} {n k : Nat} {E : XK} {N : List Str} {sc : Scope} {X : Cx} {ee : Expr} {G : Hp} {ρ : List Addr} {h : EHeap} {H : Hp}

theorem walk_r {lo : Int} {m : Nat} (hm : m ≤ Ev.most) : WalkV D G ρ (rangeL lo m) none (Itr lo m) := by
  refine ⟨by rw [range_len]; exact hm, (Itr lo m).yld, ⟨fun i H hi _ => by rw [range_len] at hi; exact hi, fun H _ => by rw [range_len]; exact Nat.le_refl _, fun i H x H' _ _ y => y⟩, ?_⟩
  intro i G' ρ' h' H' x H'' hi e xh hq y
  obtain ⟨rfl, rfl⟩ := y
  rw [range_len] at hi
  exact ⟨G', ρ', _, range_get hi, Ext.refl, xh, .int _⟩
theorem lit_range : lit "range" = ("range" : Str) := by decide +kernel
theorem lit_zip : lit "zip" = ("zip" : Str) := by decide +kernel
theorem lit_enum : lit "enumerate" = ("enumerate" : Str) := by decide +kernel
theorem sim_itRange (S : Stat D) {es : Ex} (hes : SimL D n k es) : SimI D n k (.itRange es) := by
  intro E N sc X tg ee hX hm
  simp only [matchI] at hm
  split at hm
  · rename_i g l hxy
    obtain ⟨pos, rfl⟩ := asCall_eq hxy
    simp only [Bool.and_eq_true, Bool.or_eq_true, beq_iff_eq] at hm
    obtain ⟨⟨hg, hlen⟩, hl⟩ := hm
    obtain ⟨p, rfl, g1, g2, g3⟩ := matchB_ok S hX hg
    have pl := hes E N sc X l hX hl
    rw [lit_range] at g1 g2 g3 ⊢
    have rd : ∀ σ H Q, tG D E (relW D) (evI (cx D n) (.itRange es)) σ H Q → ∃ G ρ env h, RH D G ρ h H ∧ REnv D G ρ env σ ∧ OkG D E (relW D) G ρ ((evL (cx D n) es env h).bind fun vs h1 => (match vs with
        | [.int n] => do
          guardM (decide (n.toNat ≤ Ev.most) && decide (-4611686018427387904 ≤ n))
          pure (rangeL 0 n.toNat, none)
        | [.int m, .int n] => do
          guardM (decide ((n - m).toNat ≤ Ev.most) && decide (-4611686018427387904 ≤ m ∧ m < 4611686018427387904 ∧ -4611686018427387904 ≤ n ∧ n < 4611686018427387904))
          pure (rangeL m (n - m).toNat, none)
        | _ => stuck : M (List Val × Lk)) h1) Q := fun σ H Q q => q
    rcases hlen with h1 | h2
    · obtain ⟨x, rfl⟩ : ∃ x, l = [x] := by
        match l, h1 with
        | [x], _ => exact ⟨x, rfl⟩
      obtain ⟨n1, n2⟩ := cons_parts (D := D) hl
      refine PI.imp (pi_range1 g1 g2 pl (star_of n1 _ _)) fun σ H Q q => ?_
      obtain ⟨G, ρ, env, h, xh, re, q⟩ := rd σ H Q q
      have hlenv : ∀ vs h1, evL (cx D n) es env h = .ok vs h1 → vs.length = 1 := fun vs h1 he => evL_len (cx D n) es env h h1 vs [x] (txOf D) N sc hl he
      cases he : evL (cx D n) es env h with
      | no => rw [he] at q; exact q.elim
      | exc c fs h1 => rw [he] at q; exact ⟨G, ρ, env, h, xh, re, by rw [he]; exact q⟩
      | ok vs h1 =>
        rw [he] at q
        refine ⟨G, ρ, env, h, xh, re, ?_⟩
        rw [he]
        intro G1 ρ1 H1 ys e1 x1 r1
        have hv := hlenv vs h1 he
        cases r1 with
        | nil => cases hv
        | cons r1 r2 =>
          cases r2 with
          | cons _ _ => simp at hv
          | nil =>
            cases r1 with
            | int i =>
              have q2 : OkG D E (relW D) G ρ ((guardM (decide (i.toNat ≤ Ev.most) && decide (-4611686018427387904 ≤ i)) h1).bind fun _ h2 => .ok (rangeL 0 i.toNat, none) h2) Q := q
              rw [guard_at] at q2
              split at q2
              · rename_i hb
                simp only [Bool.and_eq_true, decide_eq_true_eq] at hb
                have hm : i.toNat ≤ 16777216 := hb.1
                exact ⟨i, rfl, by omega, by omega, q2 G1 ρ1 H1 _ e1 x1 (walk_r hb.1)⟩
              · exact q2.elim
            | _ => exact q.elim
    · obtain ⟨x, y, rfl⟩ : ∃ x y, l = [x, y] := by
        match l, h2 with
        | [x, y], _ => exact ⟨x, y, rfl⟩
      obtain ⟨n1, n2⟩ := cons_parts (D := D) hl
      have n3 : starEach [y] X.env = [(false, eval y X.env)] := by
        cases es with
        | cons e1 e2 =>
          simp only [matchL, Bool.and_eq_true] at hl
          obtain ⟨n3, _⟩ := cons_parts (D := D) hl.2
          exact star_of n3 _ _
        | _ => simp [matchL] at hl
      refine PI.imp (pi_range2 g1 g2 pl (by rw [star_of n1, n3]) n3) fun σ H Q q => ?_
      obtain ⟨G, ρ, env, h, xh, re, q⟩ := rd σ H Q q
      have hlenv : ∀ vs h1, evL (cx D n) es env h = .ok vs h1 → vs.length = 2 := fun vs h1 he => evL_len (cx D n) es env h h1 vs [x, y] (txOf D) N sc hl he
      cases he : evL (cx D n) es env h with
      | no => rw [he] at q; exact q.elim
      | exc c fs h1 => rw [he] at q; exact ⟨G, ρ, env, h, xh, re, by rw [he]; exact q⟩
      | ok vs h1 =>
        rw [he] at q
        refine ⟨G, ρ, env, h, xh, re, ?_⟩
        rw [he]
        intro G1 ρ1 H1 ys e1 x1 r1
        have hv := hlenv vs h1 he
        cases r1 with
        | nil => cases hv
        | cons r1 r2 =>
          cases r2 with
          | nil => simp at hv
          | cons r2 r3 =>
            cases r3 with
            | cons _ _ => simp at hv
            | nil =>
              cases r1 with
              | int i =>
                cases r2 with
                | int j =>
                  have q2 : OkG D E (relW D) G ρ ((guardM (decide ((j - i).toNat ≤ Ev.most) && decide (-4611686018427387904 ≤ i ∧ i < 4611686018427387904 ∧ -4611686018427387904 ≤ j ∧ j < 4611686018427387904)) h1).bind fun _ h2 => .ok (rangeL i (j - i).toNat, none) h2) Q := q
                  rw [guard_at] at q2
                  split at q2
                  · rename_i hb
                    simp only [Bool.and_eq_true, decide_eq_true_eq] at hb
                    exact ⟨i, j, rfl, by omega, q2 G1 ρ1 H1 _ e1 x1 (walk_r hb.1)⟩
                  · exact q2.elim
                | _ => exact q.elim
              | _ => cases r2 <;> exact q.elim
  · cases hm
theorem isTup_eq {t : Expr} (h : isTup t = true) : ∃ l kk pos, t = .Tuple l kk pos := by
  cases t <;> first | exact ⟨_, _, _, rfl⟩ | cases h
theorem sim_itEnum (S : Stat D) {a : Ex} (ha : SimE D n k a) : SimI D n k (.itEnum a) := by
  intro E N sc X tg ee hX hm
  simp only [matchI, Bool.and_eq_true] at hm
  obtain ⟨ht, hm⟩ := hm
  obtain ⟨tl, kk, tp, rfl⟩ := isTup_eq ht
  split at hm
  · rename_i g x hxy
    obtain ⟨pos, rfl⟩ := asCall_eq hxy
    simp only [Bool.and_eq_true] at hm
    obtain ⟨⟨hg, nx⟩, hx⟩ := hm
    obtain ⟨p, rfl, g1, g2, g3⟩ := matchB_ok S hX hg
    rw [lit_enum] at g1 g2 g3 ⊢
    have px := ha E N sc X x hX hx
    refine PI.imp (pi_enum g1 g2 (pa_cons px pa_nil (star_of nx _ _)) (star_of nx _ _)) fun σ H Q q => ?_
    obtain ⟨G, ρ, env, h, xh, re, q⟩ := q
    refine tG_bind xh re q fun G1 ρ1 H1 y v h1 e1 x1 r1 q1 => ?_
    rw [hX.hK]
    cases r1 with
    | lst s hl rs => exact ⟨_, _, rfl, .inl (.inl (x1.sub _ _ s)), q1 G1 ρ1 H1 _ Ext.refl x1 (walk_e hl fun G' ρ' h' H' e x _ => ⟨_, .inl (.inl (x.sub _ _ (e.g _ _ s))), rs.mono e⟩)⟩
    | ref hr =>
      rename_i m a
      cases hm : h1[m]? with
      | none => simp only [hm] at q1; exact q1.elim
      | some o =>
        simp only [hm] at q1
        cases o with
        | list l =>
          obtain ⟨us, w1, w2, w3⟩ := list_at x1 hr hm
          exact ⟨_, us, rfl, .inl (.inl w1), q1 G1 ρ1 H1 _ Ext.refl x1 (walk_e w3 (ref_list hr))⟩
        | _ => exact q1.elim
    | _ => exact q1.elim
  · cases hm
theorem sim_itZip (S : Stat D) {a b : Ex} (ha : SimE D n k a) (hb : SimE D n k b) : SimI D n k (.itZip a b) := by
  intro E N sc X tg ee hX hm
  simp only [matchI, Bool.and_eq_true] at hm
  obtain ⟨ht, hm⟩ := hm
  obtain ⟨tl, kk, tp, rfl⟩ := isTup_eq ht
  split at hm
  · rename_i g x y hxy
    obtain ⟨pos, rfl⟩ := asCall_eq hxy
    simp only [Bool.and_eq_true] at hm
    obtain ⟨⟨⟨⟨hg, nx⟩, ny⟩, hx⟩, hy⟩ := hm
    obtain ⟨p, rfl, g1, g2, g3⟩ := matchB_ok S hX hg
    rw [lit_zip] at g1 g2 g3 ⊢
    have px := ha E N sc X x hX hx
    have py := hb E N sc X y hX hy
    refine PI.imp (RZ.pi_zipA g1 g2 (pa_cons px (pa_cons py pa_nil (star_of ny _ _)) (star_of nx _ _)) (star_of nx _ _) (by rw [star_of ny]; rfl)) fun σ H Q q => ?_
    obtain ⟨G, ρ, env, h, xh, re, q⟩ := q
    refine tG_bind xh re q fun G1 ρ1 H1 y v h1 e1 x1 r1 q1 => ?_
    refine tG_bind x1 (re.mono e1) q1 fun G2 ρ2 H2 y2 w h2 e2 x2 r2 q2 => ?_
    rw [hX.hK]
    have r1' := r1.mono e2
    cases r1' with
    | tup s hl rs =>
      cases r2 with
      | tup s2 hl2 rs2 =>
        exact ⟨_, _, _, _, rfl, .inr ⟨.inl (.inl (x2.sub _ _ s)), .inl (.inl (x2.sub _ _ s2)), q2 G2 ρ2 H2 _ Ext.refl x2 (walk_zt hl (fun G' ρ' h' H' e x => ⟨_, .inl (.inl (x.sub _ _ (e.g _ _ s))), rs.mono e⟩) fun G' ρ' h' H' e x => ⟨_, .inl (.inl (x.sub _ _ (e.g _ _ s2))), rs2.mono e⟩)⟩⟩
      | ktp s2 hl2 rs2 =>
        have s' : ∀ H : Hp, SqT D.K H _ _ := fun H => SqT_mono (fun _ _ z => by cases z) s2
        exact ⟨_, _, _, _, rfl, .inr ⟨.inl (.inl (x2.sub _ _ s)), s' _, q2 G2 ρ2 H2 _ Ext.refl x2 (walk_zt hl (fun G' ρ' h' H' e x => ⟨_, .inl (.inl (x.sub _ _ (e.g _ _ s))), rs.mono e⟩) fun G' ρ' h' H' e x => ⟨_, s' _, rs2.mono e⟩)⟩⟩
      | _ => exact q2.elim
    | lst s hl rs =>
      cases r2 with
      | lst s2 hl2 rs2 =>
        exact ⟨_, _, _, _, rfl, .inl ⟨.inl (.inl (x2.sub _ _ s)), .inl (.inl (x2.sub _ _ s2)), q2 G2 ρ2 H2 _ Ext.refl x2 (walk_z hl (fun G' ρ' h' H' e x => ⟨_, .inl (.inl (x.sub _ _ (e.g _ _ s))), rs.mono e⟩) fun G' ρ' h' H' e x => ⟨_, .inl (.inl (x.sub _ _ (e.g _ _ s2))), rs2.mono e⟩)⟩⟩
      | _ => exact q2.elim
    | _ => cases r2 <;> exact q2.elim
  · cases hm

/-! ### comprehensions -/
def era (H : Hp) (p : Addr) : Hp := fun a => if a = p then none else H a
theorem era_ne {H : Hp} {a p : Addr} (h : a ≠ p) : era H p a = H a := by unfold era; rw [if_neg h]
theorem era_same {H : Hp} {p : Addr} : era H p p = none := by unfold era; rw [if_pos rfl]
theorem RH.unhold (x : RH D G ρ h H) {p : Addr} {o : HO} (gp : G p = some (pin o)) (ho : unpin (pin o) = o := by rfl) : RH D (era G p) ρ h (era H p) ∧ upd (era H p) p o = H := by
  have np := x.out_pin gp
  have hb : bareH (H p) := by rw [x.sub p _ gp]; exact unpin_bare o
  refine ⟨⟨fun a w hw => ?_, ?_, fun a => ?_, x.len, x.nd, fun a ha => ?_, fun n a b h1 h2 => ?_⟩, ?_⟩
  · by_cases q : a = p
    · subst q; rw [era_same] at hw; cases hw
    · rw [era_ne q] at hw ⊢
      exact x.sub a w hw
  · intro q hq
    obtain ⟨ps, h1, h2, h3⟩ := x.tabs q hq
    have ne : ∀ {b : Addr} {u : HO}, H b = some u → ((∃ z, u = .tbl z) ∨ ∃ z, u = .ext z) → b ≠ p := fun {b u} e hu z => by
      subst z
      rw [e] at hb
      rcases hu with ⟨z, rfl⟩ | ⟨z, rfl⟩ <;> exact hb
    refine ⟨ps, by rw [era_ne (ne h1 (.inl ⟨_, rfl⟩))]; exact h1, h2, fun pos cv hc => ?_⟩
    obtain ⟨c, e1, e2⟩ := h3 pos cv hc
    exact ⟨c, e1, by rw [era_ne (ne e2 (.inr ⟨_, rfl⟩))]; exact e2⟩
  · by_cases q : a = p
    · subst q; rw [era_same]; trivial
    · rw [era_ne q]; exact x.gb a
  · rw [era_ne (fun q : a = p => np (by rw [← q]; exact ha))]
    exact x.out a ha
  · obtain ⟨u, h3, h4⟩ := x.obj n a b h1 h2
    refine ⟨u, by rw [era_ne (fun q : a = p => np (by rw [← q]; exact List.mem_of_getElem? h1))]; exact h3, h4.monoV (fun c z hu hz => ?_) List.prefix_rfl⟩
    have hc : c ≠ p := fun q => by subst q; rw [gp] at hz; cases hz; cases hu
    rw [era_ne hc]; exact hz
  · funext a
    by_cases q : a = p
    · subst q
      rw [upd_same]
      rw [x.sub a _ gp, ho]
    · rw [upd_ne q, era_ne q]
theorem era_usable {p : Addr} {o : HO} (gp : G p = some (pin o)) : ∀ a z, usable z = true → G a = some z → era G p a = some z := fun c z hu hz => by
  have hc : c ≠ p := fun q => by subst q; rw [gp] at hz; cases hz; cases hu
  rw [era_ne hc]; exact hz
theorem Ext.unhold {G' : Hp} {ρ' : List Addr} {p : Addr} (e : Ext G ρ G' ρ') (gp : G p = none) : Ext G ρ (era G' p) ρ' := ⟨fun a w hw => by
  rw [era_ne (ne_of_none hw gp)]
  exact e.g a w hw, e.r⟩
theorem REnv.wipe {env : EEnv} {σ : L2.St} (re : REnv D G ρ env σ) : ∀ vs : List Nat, REnv D G ρ (wipeE env vs) (L2.wipe σ vs)
  | [] => re
  | v :: vs => (REnv.wipe re vs).unset v none
theorem wipe_get (σ : L2.St) (i : Nat) : ∀ vs : List Nat, (L2.wipe σ vs)[i]? = if i ∈ vs then (if i < σ.length then some none else none) else σ[i]?
  | [] => by simp [L2.wipe]
  | v :: vs => by
    unfold L2.wipe
    rw [List.getElem?_set, wipe_get σ i vs, L2.wipe_length]
    by_cases h1 : v = i
    · subst h1
      simp
    · have h2 : ¬ i = v := fun q => h1 q.symm
      simp [h1, h2]
theorem wipe_same {σ σ2 : L2.St} {vs ts : List Nat} (hl : σ2.length = (L2.wipe σ vs).length) (hs : ∀ i, i ∉ ts → σ2[i]? = (L2.wipe σ vs)[i]?) (ht : ∀ i ∈ ts, i ∈ vs) : L2.wipe σ2 vs = L2.wipe σ vs := by
  apply List.ext_getElem?
  intro i
  rw [wipe_get, wipe_get]
  rw [L2.wipe_length] at hl
  by_cases h1 : i ∈ vs
  · simp [h1, hl]
  · rw [if_neg h1, if_neg h1, hs i (fun q => h1 (ht i q)), wipe_get, if_neg h1]
/-- the loop of a comprehension brings what is asked of it -/
theorem comp_loop {c : ECtx} {E' : XK} {te : EEnv → M Val} {tc : EEnv → M Bool} {tg : Tg} {own : List Nat} {J : It} {vs : List Val} {lk : Lk} {env : EEnv} {σ : L2.St} {ws : List Val} {h2 : EHeap} {H1 : Hp} {p : Addr} {Q : VK}
    (w : WalkV D G ρ vs lk J) (hown : ∀ i ∈ tgSlots tg, i ∈ own) (xh : RH D G ρ h H1) (re : REnv D G ρ env σ) (np : H1 p = none)
    (hc : compLoop lk (fun v => bindTg tg v (wipeE env own)) tc te vs h = .ok ws h2)
    (hQ : ∀ G' ρ' H' ys, Ext G ρ G' ρ' → RH D G' ρ' h2 H' → RVs D G' ρ' ws ys → H' p = none → Q (.ref p) (upd H' p (.lst ys))) :
    ∃ W : Nat → Nat → Hp → Prop, (∃ m, W 0 m (upd H1 p (.lst []))) ∧ ∀ i m H, W i m H →
      (J.stop i H ∧ Q (.ref p) H) ∨ (J.go i H ∧ ∃ Nx : Hp → Prop, (∀ H', Nx H' → ∃ m', m' < m ∧ W (i + 1) m' H') ∧ ∀ x H', J.yld i H x H' → tgt D tg x (L2.wipe σ own) H' fun σ2 H2 => L2.wipe σ2 own = L2.wipe σ own ∧ tG D E' relI tc σ2 H2 fun b H3 =>
        if b = true then tG D E' (relV D) te σ2 H3 fun y H4 => ∃ acc, H4 p = some (.lst acc) ∧ acc.length < sizeLine ∧ Nx (upd H4 p (.lst (acc ++ [y]))) else Nx H3) := by
  obtain ⟨hmost, Y, wk, wy⟩ := w
  have gp0 := xh.gnone np
  let Pv : Nat → Hp → Prop := fun i H => ∃ G' ρ' h' done accs rest, Ext G ρ G' ρ' ∧ RH D G' ρ' h' H ∧ G' p = some (pin (.lst accs)) ∧ RVs D G' ρ' done accs ∧ done.length ≤ i ∧
    compLoop lk (fun v => bindTg tg v (wipeE env own)) tc te (vs.drop i) h' = .ok rest h2 ∧ done ++ rest = ws
  have chk_of : ∀ {l : List Val} {h' : EHeap} {rest : List Val}, compLoop lk (fun v => bindTg tg v (wipeE env own)) tc te l h' = .ok rest h2 → lkOk lk h' = true := by
    intro l h' rest hq
    cases hk : lkOk lk h' with
    | true => rfl
    | false =>
      cases l <;> simp [compLoop, chk, hk] at hq
  have lc := lc_it (vs := own) (g := tgt D tg) (tt := tG D E' relI tc) (te := tG D E' (relV D) te) (σ := σ) (H1 := H1) (D := p) (Qd := fun H => Q (.ref p) H) wk Pv ?_ ?_ ?_ ?_
  · exact lc
  · -- at first
    obtain ⟨x2, e⟩ := xh.hold (o := .lst []) np
    exact ⟨_, ρ, h, [], [], ws, e, x2, upd_same, .nil, Nat.le_refl _, by simpa using hc, rfl⟩
  · rintro i H hi ⟨G', ρ', h', done, accs, rest, e, x, g, rd, hd, hq, hw⟩
    exact ⟨G', ρ', h', e, x, chk_of hq⟩
  · -- a turn
    rintro i x H H' hi ⟨G', ρ', h', done, accs, rest, e, xh', g, rd, hd, hq, hw⟩ hy
    obtain ⟨G1, ρ1, v, hv, e1, x1, r1⟩ := wy i G' ρ' h' H x H' hi e xh' (chk_of hq) hy
    have hdrop : vs.drop i = v :: vs.drop (i + 1) := by
      have := (List.getElem?_eq_some_iff.mp hv)
      obtain ⟨hlt, rfl⟩ := this
      exact List.drop_eq_getElem_cons hlt
    rw [hdrop] at hq
    have hk := chk_of hq
    simp only [compLoop, M.bind_at] at hq
    have hck : chk lk h' = .ok () h' := by unfold chk; rw [if_pos hk]
    rw [hck] at hq
    simp only [R.bind_ok] at hq
    cases hb : bindTg tg v (wipeE env own) with
    | none => rw [hb] at hq; simp at hq
    | some env1 =>
      rw [hb] at hq
      simp only [M.bind_at, ofOpt_some, R.bind_ok] at hq
      refine ⟨G1, ρ1, wipeE env own, h', v, env1, x1, ((re.mono (e.trans e1)).wipe own), r1, hb, fun σ2 re2 l2 f2 => ?_⟩
      refine ⟨wipe_same l2 f2 hown, ?_⟩
      refine ⟨G1, ρ1, env1, h', x1, re2, ?_⟩
      cases ht : tc env1 h' with
      | no => rw [ht] at hq; cases hq
      | exc _ _ _ => rw [ht] at hq; cases hq
      | ok b h3 =>
        rw [ht] at hq
        simp only [R.bind_ok] at hq
        intro G3 ρ3 H3 y3 e3 x3 r3
        have r3' : b = y3 := r3
        subst r3'
        cases b with
        | false =>
          simp only [Bool.false_eq_true, if_false] at hq ⊢
          exact ⟨G3, ρ3, h3, done, accs, rest, (e.trans e1).trans e3, x3, e3.g _ _ (e1.g _ _ g), (rd.mono e1).mono e3, by omega, hq, hw⟩
        | true =>
          simp only [if_true] at hq ⊢
          refine ⟨G3, ρ3, env1, h3, x3, re2.mono e3, ?_⟩
          simp only [M.bind_at] at hq
          cases hx : te env1 h3 with
          | no => rw [hx] at hq; cases hq
          | exc _ _ _ => rw [hx] at hq; cases hq
          | ok xv h4 =>
            rw [hx] at hq
            simp only [R.bind_ok, M.bind_at] at hq
            intro G4 ρ4 H4 y4 e4 x4 r4
            have g4 : G4 p = some (pin (.lst accs)) := e4.g _ _ (e3.g _ _ (e1.g _ _ g))
            cases hr : compLoop lk (fun v => bindTg tg v (wipeE env own)) tc te (vs.drop (i + 1)) h4 with
            | no => rw [hr] at hq; cases hq
            | exc _ _ _ => rw [hr] at hq; cases hq
            | ok rest' h5 =>
              rw [hr] at hq
              simp only [R.bind_ok, M.pure_at, R.ok.injEq] at hq
              obtain ⟨rfl, rfl⟩ := hq
              have hlen : accs.length < sizeLine := by
                rw [rd.length, ← most_line]
                omega
              refine ⟨accs, x4.sub _ _ g4, hlen, ?_⟩
              have e14 := (e1.trans e3).trans e4
              refine ⟨upd G4 p (pin (.lst (accs ++ [y4]))), ρ4, h4, done ++ [xv], accs ++ [y4], rest', (((e.trans e1).trans e3).trans e4).rehold gp0, x4.rehold g4 rfl, upd_same, ?_, by simp; omega, hr, by rw [List.append_assoc]; exact hw⟩
              exact ((rd.mono e14).monoV (repin_g g4) List.prefix_rfl).append (.cons (r4.monoV (repin_g g4) List.prefix_rfl) .nil)
  · -- at last
    rintro H ⟨G', ρ', h', done, accs, rest, e, x, g, rd, hd, hq, hw⟩
    have hnil : vs.drop vs.length = [] := List.drop_length
    rw [hnil] at hq
    have hk := chk_of hq
    simp only [compLoop, M.bind_at] at hq
    have hck : chk lk h' = .ok () h' := by unfold chk; rw [if_pos hk]
    rw [hck] at hq
    simp only [R.bind_ok, M.pure_at, R.ok.injEq] at hq
    obtain ⟨rfl, rfl⟩ := hq
    obtain ⟨x2, hu⟩ := x.unhold g
    rw [← hu]
    rw [List.append_nil] at hw
    subst hw
    exact hQ _ ρ' _ accs (e.unhold gp0) x2 (rd.monoV (era_usable g) List.prefix_rfl) era_same
theorem compLoop_len {lk : Lk} {bd : Val → Option EEnv} {tc : EEnv → M Bool} {te : EEnv → M Val} : ∀ {vs ws : List Val} {h h2 : EHeap}, compLoop lk bd tc te vs h = .ok ws h2 → ws.length ≤ vs.length
  | [], ws, h, h2, hq => by
    simp only [compLoop, M.bind_at] at hq
    cases hk : chk lk h with
    | ok _ _ => rw [hk] at hq; simp only [R.bind_ok, M.pure_at, R.ok.injEq] at hq; obtain ⟨rfl, _⟩ := hq; simp
    | exc _ _ _ => rw [hk] at hq; cases hq
    | no => rw [hk] at hq; cases hq
  | v :: vs, ws, h, h2, hq => by
    simp only [compLoop, M.bind_at] at hq
    cases hk : chk lk h with
    | exc _ _ _ => rw [hk] at hq; cases hq
    | no => rw [hk] at hq; cases hq
    | ok _ h1 =>
      rw [hk] at hq
      simp only [R.bind_ok, M.bind_at] at hq
      cases hb : bd v with
      | none => rw [hb] at hq; cases hq
      | some env1 =>
        rw [hb] at hq
        simp only [ofOpt_some, R.bind_ok, M.bind_at] at hq
        cases ht : tc env1 h1 with
        | no => rw [ht] at hq; cases hq
        | exc _ _ _ => rw [ht] at hq; cases hq
        | ok b h3 =>
          rw [ht] at hq
          simp only [R.bind_ok] at hq
          cases b with
          | false =>
            simp only [Bool.false_eq_true, if_false] at hq
            have := compLoop_len hq
            simp; omega
          | true =>
            simp only [if_true, M.bind_at] at hq
            cases hx : te env1 h3 with
            | no => rw [hx] at hq; cases hq
            | exc _ _ _ => rw [hx] at hq; cases hq
            | ok xv h4 =>
              rw [hx] at hq
              simp only [R.bind_ok, M.bind_at] at hq
              cases hr : compLoop lk bd tc te vs h4 with
              | no => rw [hr] at hq; cases hq
              | exc _ _ _ => rw [hr] at hq; cases hq
              | ok rest' h5 =>
                rw [hr] at hq
                simp only [R.bind_ok, M.pure_at, R.ok.injEq] at hq
                obtain ⟨rfl, rfl⟩ := hq
                have := compLoop_len hr
                simp; omega
/-- the block of a comprehension -/
theorem XOk.blk (hX : XOk D E k N sc X) (s : Shared) (H : Hp) (scope : Scope) (C : Addr) (cl : List (Str × Addr)) (fp : List Addr) : XOk D (fun _ _ _ => False) k N (relS scope sc) (X.blk s H scope (compEnvC scope cl C X.env) fp) where
  lam := hX.lam
  hP := hX.hP
  hw := hX.hw
  hK := hX.hK
  hmg := hX.hmg
  hb := hX.hb
  hN := hX.hN
  hsc := by show relabel scope X.env = _; rw [relS_eq, hX.hsc]
  calm := hX.calm
  nd := hX.nd
  room1 := hX.room1
  takes := fun u s' ⟨_, _, _, _, _, _, _, _, _, _, _, _, _, _, _, _, w⟩ => w.elim
/-- what a comprehension needs of its parts -/
structure LcOk (D : Wd) (n : Nat) (X : Cx) (x : Expr) (g : Comprehension) (scope : Scope) (elt : Ex) (tg : Tg) (it cd : Ex) (own : List Nat) : Prop where
  eq : g = ⟨g.target, g.iter, g.ifs, 0⟩
  it : ∀ E, Takes X (fun c d _ H => E c d H) → PI X g.target g.iter (tG D E (relW D) (evI (cx D n) it))
  ok : BlkOk X.N X.env.scope scope (ownOf X.N own)
  pg : ∀ (s : Shared) (H : Hp) (C : Addr) (cl : List (Str × Addr)) (fp : List Addr), PG (X.blk s H scope (compEnvC scope cl C X.env) fp) g.target (tgt D tg)
  pt : ∀ (s : Shared) (H : Hp) (C : Addr) (cl : List (Str × Addr)) (fp : List Addr), PTs (X.blk s H scope (compEnvC scope cl C X.env) fp) g.ifs (tG D (fun _ _ _ => False) relI fun e => if isNop cd = true then pure true else (ev (cx D n) cd e).t)
  pe : ∀ (s : Shared) (H : Hp) (C : Addr) (cl : List (Str × Addr)) (fp : List Addr), PE (X.blk s H scope (compEnvC scope cl C X.env) fp) x (tE D (fun _ _ _ => False) (cx D n) elt)
  hs : ∀ x, foldedSetIterable g.iter X.env x = pure x
  own : ∀ i ∈ tgSlots tg, i ∈ own
theorem PTs.imp {l : List Expr} {t t' : TT} (h : PTs X l t) (f : ∀ σ H Q, t' σ H Q → t σ H Q) : PTs X l t' := ⟨fun pins s σ H Q I q => h.run pins s σ H Q I (f σ H Q q)⟩
theorem lcOk_of {elt : Ex} {tg : Tg} {it cd : Ex} {own : List Nat} {x : Expr} {g : Comprehension} {scope : Scope} {p : Pos} (hX : XOk D E k N sc X) (hel : SimE D n k elt) (hit : SimI D n k it) (hcd : SimT D n k cd) (hm : matchF (txOf D) N sc (.fcomp elt tg it cd own) (.ListComp x [g] scope p) = true) : LcOk D n X x g scope elt tg it cd own := by
  simp only [matchF, Bool.and_eq_true, beq_iff_eq] at hm
  obtain ⟨⟨⟨⟨⟨⟨⟨h1, h2⟩, h3⟩, h4⟩, h5⟩, h6⟩, h7⟩, h8⟩ := hm
  refine ⟨?_, ?_, ?_, ?_, ?_, ?_, ?_, ?_⟩
  · cases g; simp only at h1; subst h1; rfl
  · intro E' ht
    exact hit E' N sc X g.target g.iter { hX with takes := ht } h6
  · rw [hX.hN, hX.hsc]
    exact blkOk_by h2
  · intro s H C cl fp
    have hB := hX.blk s H scope C cl fp
    exact pg_of hB.calm hB.nd hB.hN hB.hK (fun y hy => by
      have := isLoc_ok hy
      rw [hB.hsc]
      exact ⟨.inl this, .inr this⟩) tg g.target h3
  · intro s H C cl fp
    have hB := hX.blk s H scope C cl fp
    split at h7
    · rename_i hl
      rw [hl]
      refine PTs.imp pts_nil fun σ H Q q => ?_
      obtain ⟨G, ρ, env, h, xh, re, q⟩ := q
      dsimp only at q
      rw [if_pos h7] at q
      exact q G ρ H true Ext.refl xh rfl
    · rename_i c hl
      rw [hl]
      simp only [Bool.and_eq_true, Bool.not_eq_true'] at h7
      refine pts_one (PT.imp (hcd _ N _ _ c hB h7.2) fun σ H Q q => ?_)
      obtain ⟨G, ρ, env, h, xh, re, q⟩ := q
      dsimp only at q
      rw [if_neg (by simp [h7.1])] at q
      exact ⟨G, ρ, env, h, xh, re, q⟩
    · cases h7
  · intro s H C cl fp
    exact hel _ N _ _ x (hX.blk s H scope C cl fp) h8
  · intro v
    have : notSet g.iter = true := h5
    cases hg : g.iter <;> first | rfl | (rw [hg] at this; cases this)
  · intro i hi
    have := List.all_eq_true.mp h4 i hi
    simpa using this
/-- a comprehension is laid: the reading of the evaluator's brings the model's -/
theorem lc_read {elt : Ex} {tg : Tg} {it cd : Ex} {own : List Nat} (hown : ∀ i ∈ tgSlots tg, i ∈ own) (σ : L2.St) (H : Hp) (Q : VK) (q : tF D E (evL (cx D n) (.fcomp elt tg it cd own)) σ H Q) :
    tLc (tG D E (relW D) (evI (cx D n) it)) (tgt D tg) (tG D (fun _ _ _ => False) relI fun e => if isNop cd = true then pure true else (ev (cx D n) cd e).t) (tE D (fun _ _ _ => False) (cx D n) elt) own σ H Q := by
  obtain ⟨G, ρ, env, h, xh, re, q⟩ := q
  have e0 : evL (cx D n) (.fcomp elt tg it cd own) env h = (evI (cx D n) it env h).bind fun p => quiet (compLoop p.2 (fun v => bindTg tg v (wipeE env own)) (fun e => if isNop cd = true then pure true else (ev (cx D n) cd e).t) (fun e => (ev (cx D n) elt e).e) p.1) := rfl
  rw [e0] at q
  refine ⟨G, ρ, env, h, xh, re, ?_⟩
  cases hi : evI (cx D n) it env h with
  | no => rw [hi] at q; exact q.elim
  | exc c fs h1 => rw [hi] at q; exact q
  | ok pr h1 =>
    rw [hi] at q
    obtain ⟨vs, lk⟩ := pr
    intro G1 ρ1 H1 J e1 x1 w D' np
    simp only [R.bind_ok] at q
    cases hc : compLoop lk (fun v => bindTg tg v (wipeE env own)) (fun e => if isNop cd = true then pure true else (ev (cx D n) cd e).t) (fun e => (ev (cx D n) elt e).e) vs h1 with
    | no => simp only [quiet, hc] at q
    | exc c fs h2 => simp only [quiet, hc] at q
    | ok ws h2 =>
      simp only [quiet, hc] at q
      have hl : ws.length ≤ Ev.most := Nat.le_trans (compLoop_len hc) w.most
      exact comp_loop (c := cx D n) (E' := fun _ _ _ => False) w hown x1 (re.mono e1) np hc fun G' ρ' H' ys e2 x2 r2 np2 => q G' ρ' H' ys D' (e1.trans e2) x2 r2 hl np2
theorem sim_fcomp {elt : Ex} {tg : Tg} {it cd : Ex} {own : List Nat} (hel : SimE D n k elt) (hit : SimI D n k it) (hcd : SimT D n k cd) : SimF D n k (.fcomp elt tg it cd own) := by
  intro E N sc X ee hX hm
  have hm0 := hm
  simp only [matchF] at hm
  split at hm
  · rename_i x g scope p
    have L := lcOk_of hX hel hit hcd hm0
    obtain ⟨t0, i0, f0, a0⟩ := g
    have ea : a0 = 0 := by have := L.eq; simpa using this
    subst ea
    have pe := pe_lc (pos := p) hX.calm hX.nd (L.it E hX.takes) L.ok L.pg L.pt L.pe L.hs
    refine PE.imp pe fun σ H Q q => ?_
    rw [ownOf_snd]
    exact lc_read L.own σ H Q q
  · cases hm
/-- name = [.. for ..] -/
theorem set_lc {elt : Ex} {tg : Tg} {it cd : Ex} {own : List Nat} (hel : SimE D n k elt) (hit : SimI D n k it) (hcd : SimT D n k cd) (hX : XOk D E k N sc X) {x : Expr} {g : Comprehension} {scope : Scope} {p py spos : Pos} {i : Nat} {y : Str}
    (hm : matchF (txOf D) N sc (.fcomp elt tg it cd own) (.ListComp x [g] scope p) = true) (hy : N[i]? = some y) (hyl : sc.names.lookup y = some .local) (hsw : swapsWith (.ListComp x [g] scope p) (some (.Name y py)) spos.line X.env = pure true) :
    PS X (.Assign [.Name y py] (.ListComp x [g] scope p) spos) (tAsg (tF D E (evL (cx D n) (.fcomp elt tg it cd own))) (gName i)) := by
  have L := lcOk_of hX hel hit hcd hm
  obtain ⟨t0, i0, f0, a0⟩ := g
  have ea : a0 = 0 := by have := L.eq; simpa using this
  subst ea
  refine PS.imp (ps_setLc hX.calm hX.nd (by rw [hX.hN]; exact hy) (by rw [hX.hsc]; exact hyl) hsw (L.it E hX.takes) L.ok L.pg L.pt L.pe L.hs) fun d σ H q => ?_
  rw [ownOf_snd]
  exact lc_read L.own σ H _ q
end
end Sim

end
section
set_option Elab.async false
set_option linter.all false
set_option maxRecDepth 100000
/-! SimO: statements: the matcher, small statements. -/
namespace Sim
open PySem PySem.Spec PyProof.Rows L2 Ev

/-- the scope of a comprehension -/
def compScope : Expr → Option (Scope)
  | .ListComp _ _ s _ => some s
  | .SetComp _ _ s _ => some s
  | .DictComp _ _ _ s _ => some s
  | _ => none
/-- does name = value swap (a comprehension on its name's line) -/
def swB (sc : Scope) (y : Str) (py : Pos) (v : Expr) : Bool := match compScope v with
  | some s => (if sc.kind.isAnnotationScope then ScopeKind.function else sc.kind) == .function && sc.names.lookup y == some .local && py.line == v.pos.line && !(s.names.any fun (n, k) => n == y && (k == .local || k == .cell))
  | none => false
theorem swB_ok (v : Expr) (y : Str) (py : Pos) (ln : Nat) (env : PySem.Env) : swapsWith v (some (.Name y py)) ln env = pure (swB env.scope y py v) := by
  cases v <;> rfl
def notName : Expr → Bool
  | .Name _ _ => false
  | _ => true
theorem swap_other {v t : Expr} (h : notName t = true) (ln : Nat) (env : PySem.Env) : swapsWith v (some t) ln env = pure false := by
  cases t <;> first | (cases h; done) | (cases v <;> rfl)
theorem swap_none {v : Expr} (h : compScope v = none) (t : Option Expr) (ln : Nat) (env : PySem.Env) : swapsWith v t ln env = pure false := by
  cases v <;> first | rfl | cases h
def isLC : Expr → Bool
  | .ListComp _ _ _ _ => true
  | _ => false
/-- a, b = x, y is stored from the right -/
def parNames (sc : Scope) (line : Nat) (ts : List Expr) : List Str := ts.filterMap fun
    | .Name id pos => if sc.names.lookup id == some .local && pos.line == line then some id else none
    | _ => none
def parOk (sc : Scope) (ts vs : List Expr) : Bool :=
  (ts.length == 2 || ts.length == 3) && vs.length == ts.length && !(((if sc.kind.isAnnotationScope then ScopeKind.function else sc.kind)) != .function)
    && !(vs.any fun | .Starred .. => true | _ => false)
    && (parNames sc ((ts.head?.map (·.pos.line)).getD 0) ts).length == ts.length
    && (parNames sc ((ts.head?.map (·.pos.line)).getD 0) ts).eraseDups.length == (parNames sc ((ts.head?.map (·.pos.line)).getD 0) ts).length
    && !(vs.all (foldedForSure 8)) && !(vs.all (constantsAlone 8))
theorem par_ok {ts vs : List Expr} {kt k2 : Nat} {pt pt2 : Pos} {env : PySem.Env} (h : parOk env.scope ts vs = true) : swappedStores [.Tuple ts kt pt] (.Tuple vs k2 pt2) env = pure (some (parNames env.scope ((ts.head?.map (·.pos.line)).getD 0) ts)) := by
  unfold parOk at h
  simp only [Bool.and_eq_true, Bool.not_eq_true', beq_iff_eq] at h
  obtain ⟨⟨⟨⟨⟨⟨⟨h1, h2⟩, h3⟩, h4⟩, h5⟩, h6⟩, h7⟩, h8⟩ := h
  unfold swappedStores
  have e1 : (!(ts.length == 2 || ts.length == 3) || vs.length != ts.length || env.blockKind != .function) = false := by
    rw [h1, h2]
    simp only [Bool.not_true, bne_self_eq_false, Bool.false_or]
    exact h3
  have e5 : (ts.filterMap fun
    | .Name id pos => if env.kindOf id == some .local && pos.line == (ts.head?.map (·.pos.line)).getD 0 then some id else none
    | _ => none) = parNames env.scope ((ts.head?.map (·.pos.line)).getD 0) ts := rfl
  simp only [e1, Bool.false_eq_true, if_false, h7, h8]
  refine (if_neg fun z => Bool.noConfusion (h4.symm.trans z)).trans ?_
  have hc : ((parNames env.scope ((ts.head?.map (·.pos.line)).getD 0) ts).length != ts.length || (parNames env.scope ((ts.head?.map (·.pos.line)).getD 0) ts).eraseDups.length != (parNames env.scope ((ts.head?.map (·.pos.line)).getD 0) ts).length) = false := by
    rw [h5, h6, h5]
    simp
  exact (if_neg fun z => Bool.noConfusion (hc.symm.trans z)).trans rfl
def noSwap (t v : Expr) : Bool := match t, v with
  | .Tuple ts _ _, .Tuple _ _ _ => !(ts.length == 2 || ts.length == 3)
  | .List _ _, _ => false
  | _, _ => true
theorem noSwap_ok {t v : Expr} (h : noSwap t v = true) (env : PySem.Env) : swappedStores [t] v env = pure none := by
  unfold swappedStores
  cases t <;> first | (cases h; done) | (cases v <;> rfl) | skip
  cases v <;> first | rfl | skip
  rename_i ts kt pt vs k2 pt2
  have h' : (!(ts.length == 2 || ts.length == 3)) = true := h
  simp only [h', Bool.true_or, if_true]

/-- a pair with a cell among its targets is stored from the left -/
def noSwap2 (sc : Scope) (t v : Expr) : Bool := noSwap t v || (match t with
  | .Tuple ts _ _ => (parNames sc ((ts.head?.map (·.pos.line)).getD 0) ts).length != ts.length
  | _ => false)
theorem noSwap2_ok {t v : Expr} {env : PySem.Env} (h : noSwap2 env.scope t v = true) : swappedStores [t] v env = pure none := by
  rcases (Bool.or_eq_true _ _).mp h with g | g
  · exact noSwap_ok g env
  clear h
  unfold swappedStores
  cases t with
  | Tuple ts kt pt =>
    cases v with
    | Tuple vs k2 pt2 =>
      have e5 : (ts.filterMap fun
        | .Name id pos => if env.kindOf id == some .local && pos.line == (ts.head?.map (·.pos.line)).getD 0 then some id else none
        | _ => none) = parNames env.scope ((ts.head?.map (·.pos.line)).getD 0) ts := rfl
      have hc : ((parNames env.scope ((ts.head?.map (·.pos.line)).getD 0) ts).length != ts.length || (parNames env.scope ((ts.head?.map (·.pos.line)).getD 0) ts).eraseDups.length != (parNames env.scope ((ts.head?.map (·.pos.line)).getD 0) ts).length) = true := by
        have h' : ((parNames env.scope ((ts.head?.map (·.pos.line)).getD 0) ts).length != ts.length) = true := g
        rw [h']; rfl
      simp only []
      split
      · rfl
      split
      · rfl
      exact (if_pos hc).trans rfl
    | _ => rfl
  | _ => cases g

/-! ### the matcher of statements -/
variable (tx : Tx) (N : List Str) (sc : Scope)
def parTs (is : List Nat) (ts : List Expr) : Bool := match ts with
  | [.Name x _, .Name y _] => (match is with
    | [i, j] => N[i]? == some x && N[j]? == some y && i != j && isLoc sc x && isLoc sc y
    | _ => false)
  | [.Name x _, .Name y _, .Name z _] => (match is with
    | [i, j, l] => N[i]? == some x && N[j]? == some y && N[l]? == some z && i != j && i != l && j != l && isLoc sc x && isLoc sc y && isLoc sc z
    | _ => false)
  | _ => false
def matchS : Sx → List Stmt → Bool
  | .dead, _ => true
  | .skip, l => match l with
    | [] => true
    | [.Pass _] => true
    | _ => false
  | .seq a b, l => match l with
    | s :: r => !r.isEmpty && matchS a [s] && matchS b r
    | [] => false
  | .ex e, l => match l with
    | [.Expr v _] => (compScope v).isNone && matchE tx N sc e v
    | _ => false
  | .asg t e, l => match l with
    | [.Assign [tg] v _] => (match tg with
      | .Name y py => (match t with
        | .nm i => N[i]? == some y && locB sc y && (match swB sc y py v with
          | false => matchE tx N sc e v
          | true => sc.names.lookup y == some .local && isLC v && (match e with
            | .fz f => matchF tx N sc f v
            | .bx f => matchF tx N sc f v
            | _ => false))
        | _ => false)
      | _ => matchT N (locB sc) t tg && noSwap2 sc tg v && matchE tx N sc e v)
    | _ => false
  | .par is es, l => match l with
    | [.Assign [.Tuple ts _ _] (.Tuple vs _ _) _] => parTs N sc is ts && parOk sc ts vs && matchL tx N sc es vs
    | _ => false
  | .asgI o i e, l => match l with
    | [.Assign [.Subscript x y _] v _] => notSlice y && matchE tx N sc o x && matchE tx N sc i y && matchE tx N sc e v
    | _ => false
  | .asgF o f e, l => match l with
    | [.Assign [.Attribute x g _] v _] => lit f == g && matchE tx N sc o x && matchE tx N sc e v
    | _ => false
  | .augN i op e, l => match l with
    | [.AugAssign (.Name y _) p v _] => N[i]? == some y && locB sc y && p == bopOf op && (op == .add || op == .sub) && matchE tx N sc e v
    | _ => false
  | .augF o f op e, l => match l with
    | [.AugAssign (.Attribute x g _) p v _] => lit f == g && p == bopOf op && (op == .add || op == .sub) && matchE tx N sc o x && matchE tx N sc e v
    | _ => false
  | .ret e, l => match l with
    | [.Return (some v) _] => matchE tx N sc e v
    | _ => false
  | .retN, l => match l with
    | [.Return none _] => true
    | _ => false
  | .ite c a b, l => match l with
    | [.If t p q _] => matchE tx N sc c t && matchS a p && matchS b q
    | _ => false
  | .for_ t it b, l => match l with
    | [.For tg iter body [] _] => matchT N (locB sc) t tg && notSet iter && matchI tx N sc it tg iter && matchS b body
    | _ => false
  | .while_ c b, l => match l with
    | [.While t body [] _] => matchE tx N sc c t && matchS b body
    | _ => false
  | .brk, l => match l with
    | [.Break _] => true
    | _ => false
  | .cont, l => match l with
    | [.Continue _] => true
    | _ => false
  | _, _ => false
end Sim

end
section
set_option Elab.async false
set_option linter.all false
set_option maxRecDepth 100000
/-! SimP: statements. -/
namespace Sim
open PySem PySem.Spec PyProof.Rows L2 Ev

/-- a frame that stores -/
structure SOk (D : Wd) (E : XK) (k : Nat) (N : List Str) (sc : Scope) (X : Cx) : Prop extends XOk D E k N sc X where
  hfn : ∀ x, L2.Loc X.env.scope x → X.fn x = true ∨ X.env.scope.names.lookup x = some .local
  own : PassesOwn (model X.prog X.w) X.A X.env X.xe
def SimS (D : Wd) (n k : Nat) (s : Sx) : Prop := ∀ E N sc X ss, SOk D E k N sc X → matchS (txOf D) N sc s ss = true → PSs X ss (tS D E (evS (cx D n) s))
def SimQ (D : Wd) (n k : Nat) (s : Sx) : Prop := ∀ E N sc X st, SOk D E k N sc X → matchS (txOf D) N sc s [st] = true → PS X st (tS D E (evS (cx D n) s))

section
variable {D : Wd} {n k : Nat} {E : XK} {N : List Str} {sc : Scope} {X : Cx} {ee : Expr} {G : Hp} {ρ : List Addr} {h : EHeap} {H : Hp}

theorem SOk.loc (hX : SOk D E k N sc X) {x : Str} (h : locB sc x = true) : L2.Loc X.env.scope x ∧ (X.fn x = true ∨ X.env.scope.names.lookup x = some .local) := by
  have h1 : L2.Loc X.env.scope x := by rw [hX.hsc]; exact locB_ok h
  exact ⟨h1, hX.hfn x h1⟩
theorem simQ_dead : SimQ D n k .dead := by
  intro E N sc X ss hX hm
  exact ⟨fun pins s σ H d I q => by obtain ⟨G, ρ, env, h, xh, re, q⟩ := q; exact q.elim⟩
theorem simS_dead : SimS D n k .dead := by
  intro E N sc X ss hX hm
  exact ⟨fun pins s σ H d I q => by obtain ⟨G, ρ, env, h, xh, re, q⟩ := q; exact q.elim⟩
theorem skip_rd : ∀ d σ H, tS D E (evS (cx D n) .skip) d σ H → tNext d σ H := fun d σ H q => by
  obtain ⟨G, ρ, env, h, xh, re, q⟩ := q
  exact q G ρ H σ Ext.refl xh re
theorem simQ_skip : SimQ D n k .skip := by
  intro E N sc X st hX hm
  simp only [matchS] at hm
  cases st <;> first | (cases hm; done) | exact PS.imp ps_pass skip_rd
theorem simS_skip : SimS D n k .skip := by
  intro E N sc X ss hX hm
  cases ss with
  | nil => exact PSs.imp pss_nil skip_rd
  | cons st r =>
    cases r with
    | nil => exact pss_one (simQ_skip E N sc X st hX hm)
    | cons _ _ => cases st <;> (simp only [matchS] at hm; cases hm)
theorem simQ_seq {a b : Sx} : SimQ D n k (.seq a b) := by
  intro E N sc X st hX hm
  simp [matchS] at hm
theorem simS_seq {a b : Sx} (ha : SimQ D n k a) (hb : SimS D n k b) : SimS D n k (.seq a b) := by
  intro E N sc X ss hX hm
  simp only [matchS] at hm
  split at hm
  · rename_i s r
    simp only [Bool.and_eq_true] at hm
    obtain ⟨⟨_, h1⟩, h2⟩ := hm
    refine PSs.imp (pss_cons (ha E N sc X s hX h1) (hb E N sc X r hX h2)) fun d σ H q => ?_
    obtain ⟨G, ρ, env, h, xh, re, q⟩ := q
    refine ⟨G, ρ, env, h, xh, re, ?_⟩
    have q' : OkS D E G ρ ((evS (cx D n) a env h).bind fun c h1 => (match c with
      | .nx env => evS (cx D n) b env
      | r => pure r : M Ctl) h1) d := q
    cases e : evS (cx D n) a env h with
    | no => rw [e] at q'; exact q'
    | exc c fs h1 => rw [e] at q'; exact q'
    | ok c h1 =>
      rw [e] at q'
      cases c with
      | nx env1 => exact fun G' ρ' H' σ' e1 x1 r1 => ⟨G', ρ', env1, h1, x1, r1, OkS.mono e1 q'⟩
      | rt v => exact q'
      | bk env1 => exact q'
      | ct env1 => exact q'
  · cases hm
theorem simQ_ex {e : Ex} (he : SimE D n k e) : SimQ D n k (.ex e) := by
  intro E N sc X st hX hm
  simp only [matchS] at hm
  split at hm
  · rename_i v pos hv
    injection hv with hv _
    subst hv
    simp only [Bool.and_eq_true, Option.isNone_iff_eq_none] at hm
    refine PS.imp (ps_expr (he E N sc X v hX.toXOk hm.2) (swap_none hm.1 _ _ _)) fun d σ H q => ?_
    obtain ⟨G, ρ, env, h, xh, re, q⟩ := q
    exact tG_bindS xh re q fun G1 ρ1 H1 y w h1 e1 x1 r1 q1 => q1 G1 ρ1 H1 σ Ext.refl x1 (re.mono e1)
  · cases hm
theorem simQ_ret {e : Ex} (he : SimE D n k e) : SimQ D n k (.ret e) := by
  intro E N sc X st hX hm
  simp only [matchS] at hm
  split at hm
  · rename_i v pos hv
    injection hv with hv _
    subst hv
    refine PS.imp (ps_ret (he E N sc X v hX.toXOk hm)) fun d σ H q => ?_
    obtain ⟨G, ρ, env, h, xh, re, q⟩ := q
    exact tG_bindS xh re q fun G1 ρ1 H1 y w h1 e1 x1 r1 q1 => q1 G1 ρ1 H1 y Ext.refl x1 r1
  · cases hm
theorem simQ_retN : SimQ D n k .retN := by
  intro E N sc X st hX hm
  simp only [matchS] at hm
  split at hm
  · rename_i pos hv
    injection hv with hv _
    subst hv
    refine PS.imp ps_retN fun d σ H q => ?_
    obtain ⟨G, ρ, env, h, xh, re, q⟩ := q
    exact q G ρ H .non Ext.refl xh .non
  · cases hm
theorem simQ_brk : SimQ D n k .brk := by
  intro E N sc X st hX hm
  simp only [matchS] at hm
  split at hm
  · rename_i pos hv
    injection hv with hv _
    subst hv
    refine PS.imp ps_break fun d σ H q => ?_
    obtain ⟨G, ρ, env, h, xh, re, q⟩ := q
    exact q G ρ H σ Ext.refl xh re
  · cases hm
theorem simQ_cont : SimQ D n k .cont := by
  intro E N sc X st hX hm
  simp only [matchS] at hm
  split at hm
  · rename_i pos hv
    injection hv with hv _
    subst hv
    refine PS.imp ps_continue fun d σ H q => ?_
    obtain ⟨G, ρ, env, h, xh, re, q⟩ := q
    exact q G ρ H σ Ext.refl xh re
  · cases hm
theorem simQ_ite {c : Ex} {a b : Sx} (hc : SimT D n k c) (ha : SimS D n k a) (hb : SimS D n k b) : SimQ D n k (.ite c a b) := by
  intro E N sc X st hX hm
  simp only [matchS] at hm
  split at hm
  · rename_i t p q pos hv
    injection hv with hv _
    subst hv
    simp only [Bool.and_eq_true] at hm
    obtain ⟨⟨h1, h2⟩, h3⟩ := hm
    refine PS.imp (ps_if (hc E N sc X t hX.toXOk h1) (ha E N sc X p hX h2) (hb E N sc X q hX h3)) fun d σ H q => ?_
    obtain ⟨G, ρ, env, h, xh, re, q⟩ := q
    refine tG_bindS xh re q fun G1 ρ1 H1 y w h1 e1 x1 r1 q1 => ?_
    have r1' : w = y := r1
    subst r1'
    cases w with
    | true => exact ⟨G1, ρ1, env, h1, x1, re.mono e1, q1⟩
    | false => exact ⟨G1, ρ1, env, h1, x1, re.mono e1, q1⟩
  · cases hm

/-! ### stores -/
theorem fz_read {f : Ex} (σ : L2.St) (H : Hp) (Q : VK) (q : tE D E (cx D n) (.fz f) σ H Q) : tF D E (evL (cx D n) f) σ H Q := by
  obtain ⟨G, ρ, env, h, x, re, q⟩ := q
  refine ⟨G, ρ, env, h, x, re, ?_⟩
  have q' : OkV D E G ρ ((evL (cx D n) f env h).bind fun vs h2 => .ok (.lst vs) h2) Q := q
  cases qe : evL (cx D n) f env h with
  | ok vs h0 =>
    rw [qe] at q'
    intro G1 ρ1 H1 ys p e1 x1 r1 hl np
    obtain ⟨x2, e2⟩ := x1.freeze (o := .lst ys) np
    exact q' _ _ _ _ (e1.trans e2) x2 (.lst upd_same hl (r1.mono e2))
  | exc c fs h0 => rw [qe] at q'; exact q'
  | no => rw [qe] at q'; exact q'
theorem bx_read {f : Ex} (σ : L2.St) (H : Hp) (Q : VK) (q : tE D E (cx D n) (.bx f) σ H Q) : tF D E (evL (cx D n) f) σ H Q := by
  obtain ⟨G, ρ, env, h, x, re, q⟩ := q
  refine ⟨G, ρ, env, h, x, re, ?_⟩
  have q' : OkV D E G ρ ((evL (cx D n) f env h).bind fun vs h2 => alloc (.list vs) h2) Q := q
  cases qe : evL (cx D n) f env h with
  | ok vs h0 =>
    rw [qe] at q'
    intro G1 ρ1 H1 ys p e1 x1 r1 hl np
    have e0 : Ext G1 ρ1 G1 (ρ1 ++ [p]) := ⟨fun _ _ h => h, List.prefix_append _ _⟩
    obtain ⟨x2, e2⟩ := x1.alloc (o := .list vs) (u := .lst ys) np (.list (r1.mono e0) hl)
    refine q' _ _ _ _ (e1.trans e2) x2 (.ref ?_)
    rw [← x1.len]
    simp
  | exc c fs h0 => rw [qe] at q'; exact q'
  | no => rw [qe] at q'; exact q'
theorem asg_rd {i : Nat} {e : Ex} {d : Ends} {σ : L2.St} {H : Hp} (q : tS D E (evS (cx D n) (.asg (.nm i) e)) d σ H) : tE D E (cx D n) e σ H fun x H1 => d.nx (σ.set i (some x)) H1 := by
  obtain ⟨G, ρ, env, h, xh, re, q⟩ := q
  exact tG_bindS xh re q fun G1 ρ1 H1 y w h1 e1 x1 r1 q1 => q1 G1 ρ1 H1 _ Ext.refl x1 ((re.mono e1).set i r1)
/-- a comprehension's parts are covered -/
def LcS (D : Wd) (n k : Nat) (f : Ex) : Prop := ∀ elt tg it cd own, f = .fcomp elt tg it cd own → SimE D n k elt ∧ SimI D n k it ∧ SimT D n k cd
theorem set_comp {f : Ex} (hf : LcS D n k f) (hX : XOk D E k N sc X) {v : Expr} {py spos : Pos} {i : Nat} {y : Str} (hv : isLC v = true)
    (hm : matchF (txOf D) N sc f v = true) (hy : N[i]? = some y) (hyl : sc.names.lookup y = some .local) (hsw : swapsWith v (some (.Name y py)) spos.line X.env = pure true) :
    PS X (.Assign [.Name y py] v spos) (tAsg (tF D E (evL (cx D n) f)) (gName i)) := by
  cases v with
  | ListComp x gs scope p =>
    cases f with
    | fcomp elt tg it cd own =>
      obtain ⟨a, b, c⟩ := hf _ _ _ _ _ rfl
      have hm0 := hm
      simp only [matchF] at hm
      split at hm
      · rename_i hq
        injection hq with q1 q2 q3 q4
        subst q1 q2 q3 q4
        exact set_lc a b c hX hm0 hy hyl hsw
      · cases hm
    | fdisp es => simp [matchF, asLst] at hm
    | _ => simp [matchF] at hm
  | _ => cases hv
theorem simQ_asg {t : Tg} {e : Ex} (he : SimE D n k e) (hf : ∀ f, e = .fz f ∨ e = .bx f → LcS D n k f) : SimQ D n k (.asg t e) := by
  intro E N sc X st hX hm
  simp only [matchS] at hm
  split at hm
  · rename_i tg v pos hv
    injection hv with hv _
    subst hv
    split at hm
    · rename_i y py
      split at hm
      · rename_i i
        simp only [Bool.and_eq_true, beq_iff_eq] at hm
        obtain ⟨⟨hi, hl⟩, hm⟩ := hm
        have hi' : X.N[i]? = some y := by rw [hX.hN]; exact hi
        split at hm
        · rename_i hsw
          have sw : swapsWith v (some (.Name y py)) pos.line X.env = pure false := by rw [swB_ok, hX.hsc, hsw]
          refine PS.imp (ps_set hX.nd hi' (hX.loc hl).1 (he E N sc X v hX.toXOk hm) sw (hX.loc hl).2) fun d σ H q => asg_rd q
        · rename_i hsw
          have sw : swapsWith v (some (.Name y py)) pos.line X.env = pure true := by rw [swB_ok, hX.hsc, hsw]
          simp only [Bool.and_eq_true, beq_iff_eq] at hm
          obtain ⟨⟨hyl, hlc⟩, hm⟩ := hm
          split at hm
          · rename_i f
            exact PS.imp (set_comp (hf f (.inl rfl)) hX.toXOk hlc hm hi hyl sw) fun d σ H q => fz_read σ H _ (asg_rd q)
          · rename_i f
            exact PS.imp (set_comp (hf f (.inr rfl)) hX.toXOk hlc hm hi hyl sw) fun d σ H q => bx_read σ H _ (asg_rd q)
          · cases hm
      · cases hm
    · rename_i hnn
      simp only [Bool.and_eq_true] at hm
      obtain ⟨⟨h1, h2⟩, h3⟩ := hm
      have nn : notName tg = true := by
        cases tg <;> first | rfl | exact absurd rfl (hnn _ _)
      refine PS.imp (ps_asg (he E N sc X v hX.toXOk h3) (pg_of hX.calm hX.nd hX.hN hX.hK (fun x hx => hX.loc hx) t tg h1) (swap_other nn _ _) (noSwap2_ok (by rw [hX.hsc]; exact h2)) (by rw [assignEach_of h1]; rfl)) fun d σ H q => ?_
      obtain ⟨G, ρ, env, h, xh, re, q⟩ := q
      refine tG_bindS xh re q fun G1 ρ1 H1 y w h1 e1 x1 r1 q1 => ?_
      simp only [M.bind_at] at q1
      cases hb : bindTg t w env with
      | none => rw [hb] at q1; exact q1.elim
      | some env' =>
        rw [hb] at q1
        exact ⟨G1, ρ1, env, h1, w, env', x1, re.mono e1, r1, hb, fun σ' re' _ _ => q1 G1 ρ1 H1 σ' Ext.refl x1 re'⟩
  · cases hm
end
end Sim

end
section
set_option Elab.async false
set_option linter.all false
set_option maxRecDepth 100000
/-! SimQ: more statements: stores in objects, loops. -/
namespace Sim
open PySem PySem.Spec PyProof.Rows L2 Ev

section
variable {D : Wd} {n k : Nat} {E : XK} {N : List Str} {sc : Scope} {X : Cx} {ee : Expr} {G : Hp} {ρ : List Addr} {h : EHeap} {H : Hp}

/-! ### keys that are put -/
theorem strOk_of {t : Bool} {key : Val} {y : V} (hk : isKey t key = true) (r : RV D G ρ key y) : strOk key := by
  cases r with
  | str s hs => exact hs
  | tup s hl rs =>
    refine ⟨hl, fun z hz => ?_⟩
    obtain ⟨i, hi⟩ := List.getElem?_of_mem hz
    obtain ⟨u, _, h2⟩ := rs.get hi
    cases h2 with
    | str _ hs => exact hs
  | _ => trivial
theorem any_rel {κ : Type} [DecidableEq κ] {kf : Val → Option κ} (inj : ∀ {a b : Val} {k : κ}, kf a = some k → kf b = some k → a = b) {S : Val → Prop} {key : Val} {kk : κ} (e : kf key = some kk) : ∀ {l : List (Val × Val)} {kvs : List (κ × V)},
    Paired (fun (p : Val × Val) (q : κ × V) => kf p.1 = some q.1 ∧ S p.1 ∧ RV D G ρ p.2 q.2) l kvs → (l.any fun p => decide (p.1 = key)) = (kvs.any fun q => decide (q.1 = kk))
  | _, _, .nil => rfl
  | _, _, .cons (a := p) (b := q) r t => by
    rw [List.any_cons, List.any_cons, any_rel inj e t]
    congr 1
    by_cases h : p.1 = key
    · have hq : q.1 = kk := by
        have := r.1
        rw [h, e] at this
        exact (Option.some.inj this).symm
      simp [h, hq]
    · have hq : ¬ q.1 = kk := fun z => h (inj (r.1.trans (by rw [z])) e)
      simp [h, hq]
theorem put_rel {κ : Type} [DecidableEq κ] {kf : Val → Option κ} (inj : ∀ {a b : Val} {k : κ}, kf a = some k → kf b = some k → a = b) {S : Val → Prop} {key : Val} {kk : κ} {v : Val} {x : V} (e : kf key = some kk) (hS : S key) (rv : RV D G ρ v x) {l : List (Val × Val)} {kvs : List (κ × V)}
    (p : Paired (fun (p : Val × Val) (q : κ × V) => kf p.1 = some q.1 ∧ S p.1 ∧ RV D G ρ p.2 q.2) l kvs) : Paired (fun (p : Val × Val) (q : κ × V) => kf p.1 = some q.1 ∧ S p.1 ∧ RV D G ρ p.2 q.2) (Ev.dictPut l key v) (putK kvs kk x) := by
  unfold Ev.dictPut putK
  rw [any_rel inj e p]
  split
  · have go : ∀ {l : List (Val × Val)} {kvs : List (κ × V)}, Paired (fun (p : Val × Val) (q : κ × V) => kf p.1 = some q.1 ∧ S p.1 ∧ RV D G ρ p.2 q.2) l kvs → Paired (fun (p : Val × Val) (q : κ × V) => kf p.1 = some q.1 ∧ S p.1 ∧ RV D G ρ p.2 q.2) (l.map fun p => if p.1 = key then (p.1, v) else p) (kvs.map fun q => if q.1 = kk then (q.1, x) else q) := by
      intro l kvs p
      induction p with
      | nil => exact .nil
      | @cons a b l m r t ih =>
      rw [List.map_cons, List.map_cons]
      refine .cons ?_ ih
      by_cases h : a.1 = key
      · have hq : b.1 = kk := by
          have := r.1
          rw [h, e] at this
          exact (Option.some.inj this).symm
        rw [if_pos h, if_pos hq]
        exact ⟨r.1, r.2.1, rv⟩
      · have hq : ¬ b.1 = kk := fun z => h (inj (r.1.trans (by rw [z])) e)
        rw [if_neg h, if_neg hq]
        exact r
    exact go p
  · exact p.snoc ⟨e, hS, rv⟩
theorem paired_len {α β : Type} {F : α → β → Prop} : ∀ {l : List α} {m : List β}, Paired F l m → m.length = l.length
  | _, _, .nil => rfl
  | _, _, .cons _ t => by simp [paired_len t]
theorem setIdx_sim {o i v : Val} {x y z : V} {Q : Hp → Prop} (xh : RH D G ρ h H) (ro : RV D G ρ o x) (ri : RV D G ρ i y) (rv : RV D G ρ v z) (q : ∀ h' H', setIdx o i v h = .ok () h' → RH D G ρ h' H' → Q H') (hok : ∃ h', setIdx o i v h = .ok () h') : rSetL x y z H Q ∨ rSetD x y z H Q := by
  obtain ⟨h', hok⟩ := hok
  have q := fun H' => q h' H' hok
  cases ro with
  | ref hr =>
    rename_i m a
    simp only [setIdx] at hok
    cases hm : h[m]? with
    | none => rw [hm] at hok; cases hok
    | some ob =>
      rw [hm] at hok
      cases ob with
      | dict t l =>
        simp only at hok
        split at hok
        · rename_i hk
          injection hok with _ hok
          subst hok
          obtain ⟨u, h1, h2⟩ := xh.obj _ _ _ hr hm
          refine .inr ⟨a, ?_⟩
          cases h2 with
          | dictK r =>
            obtain ⟨kk, e1, e2⟩ := key_rel (by simpa [isKey] using hk.1) ri
            subst e2
            have hS := strOk_of hk.1 ri
            refine ⟨_, rfl, .inl ⟨_, kk, h1, rfl, by rw [paired_len r, ← most_line]; exact hk.2, rfl⟩, q _ (xh.put hr (.dictK (put_rel keyOf_inj e1 hS rv r)))⟩
          | dictT r =>
            have hS := strOk_of hk.1 ri
            cases ri with
            | tup s hl rs =>
              obtain ⟨ks, e1, e2⟩ := keys_rel (by simpa [isKey] using hk.1) rs
              subst e2
              refine ⟨_, rfl, .inr ⟨_, ks, _, h1, rfl, xh.sub _ _ s, by rw [paired_len r, ← most_line]; exact hk.2, rfl⟩, q _ (xh.put hr (.dictT (put_rel keysOf_inj (by simpa [keysOf] using e1) hS rv r)))⟩
            | _ => simp [isKey] at hk
        · cases hok
      | list l =>
        simp only at hok
        cases ri with
        | int i =>
          simp only at hok
          cases hj : Ev.ixOf l.length i with
          | none => rw [hj] at hok; cases hok
          | some j =>
            rw [hj] at hok
            injection hok with _ hok
            subst hok
            obtain ⟨us, w1, w2, w3⟩ := list_at xh hr hm
            exact .inl ⟨a, us, i, j, rfl, rfl, w1, by rw [w2.length]; exact hj, q _ (xh.put hr (.list (w2.set rv j) (by rw [List.length_set]; exact w3)))⟩
        | _ => cases hok
      | inst _ _ => cases hok
  | _ => cases hok
theorem PSet.or {t t' : TSet} (h : PSet X t) (h' : PSet X t') : PSet X (fun o i v H Q => t o i v H Q ∨ t' o i v H Q) := fun pins s σ H o i v ov iv u Q I r1 r2 r3 q => q.elim (h pins s σ H o i v ov iv u Q I r1 r2 r3) (h' pins s σ H o i v ov iv u Q I r1 r2 r3)
theorem simQ_asgI {o i e : Ex} (ho : SimE D n k o) (hi : SimE D n k i) (he : SimE D n k e) : SimQ D n k (.asgI o i e) := by
  intro E N sc X st hX hm
  simp only [matchS] at hm
  split at hm
  · rename_i x y sp v pos hv
    injection hv with hv _
    subst hv
    simp only [Bool.and_eq_true] at hm
    obtain ⟨⟨⟨h0, h1⟩, h2⟩, h3⟩ := hm
    have pv := he E N sc X v hX.toXOk h3
    have px := ho E N sc X x hX.toXOk h1
    have py := hi E N sc X y hX.toXOk h2
    have hg : PG X (.Subscript x y sp) _ := pg_sub px py (PSet.or set_list (set_dict hX.toXOk.hu1)) (fun v => by
      cases y <;> first | rfl | cases h0)
    refine PS.imp (ps_asg pv hg (swap_other (t := .Subscript x y sp) rfl pos.line X.env) (noSwap_ok rfl _) rfl) fun d σ H q => ?_
    obtain ⟨G, ρ, env, h, xh, re, q⟩ := q
    refine tG_bindS xh re q fun G1 ρ1 H1 y1 w h1 e1 x1 r1 q1 => ?_
    refine tG_bindS x1 (re.mono e1) q1 fun G2 ρ2 H2 y2 w2 h2 e2 x2 r2 q2 => ?_
    refine tG_bindS x2 ((re.mono e1).mono e2) q2 fun G3 ρ3 H3 y3 w3 h3 e3 x3 r3 q3 => ?_
    have re3 := ((re.mono e1).mono e2).mono e3
    simp only [M.bind_at] at q3
    cases hs : setIdx w2 w3 w h3 with
    | no => rw [hs] at q3; exact q3.elim
    | exc c fs h4 =>
      exfalso
      unfold setIdx at hs
      revert hs
      repeat' split
      all_goals (intro hs; cases hs)
    | ok u h4 =>
      rw [hs] at q3
      refine setIdx_sim x3 (r2.mono e3) r3 ((r1.mono e2).mono e3) (fun h' H' hq xh' => ?_) ⟨h4, hs⟩
      rw [hs] at hq
      injection hq with _ hq
      subst hq
      exact q3 G3 ρ3 H' σ Ext.refl xh' re3
  · cases hm

/-! ### fields -/
theorem fldput_rel {f : String} {v : Val} {x : V} (rv : RV D G ρ v x) : ∀ {fs : List (String × Val)} {gs : List (Str × V)}, Paired (fun (p : String × Val) (q : Str × V) => lit p.1 = q.1 ∧ RV D G ρ p.2 q.2) fs gs → Paired (fun (p : String × Val) (q : Str × V) => lit p.1 = q.1 ∧ RV D G ρ p.2 q.2) (fldPut fs f v) (putF (lit f) x gs)
  | _, _, .nil => .cons ⟨rfl, rv⟩ .nil
  | _, _, .cons (a := p) (b := q) r t => by
    obtain ⟨p1, p2⟩ := p
    obtain ⟨q1, q2⟩ := q
    obtain ⟨r1, r2⟩ := r
    simp only at r1
    unfold fldPut putF
    by_cases h : p1 = f
    · subst h
      rw [if_pos rfl, if_pos r1.symm]
      exact .cons ⟨r1, rv⟩ t
    · have hq : ¬ q1 = lit f := fun z => h (lit_inj (r1.trans z))
      rw [if_neg h, if_neg hq]
      exact .cons ⟨r1, r2⟩ (fldput_rel rv t)
/-- an instance's field is set -/
theorem setAttr_sim (S : Stat D) {o v : Val} {f : String} {x y : V} {h' : EHeap} (xh : RH D G ρ h H) (ro : RV D G ρ o x) (rv : RV D G ρ v y) (hs : Ev.setAttr D.cfg.fld o f v h = .ok () h') : ∃ a C dx fs, x = .ref a ∧ H a = some (.ins (D.adr C) dx fs) ∧ Cls D.K (D.adr C) ∧ NoAttr D.K (D.adr C) (lit f) ∧ fs.length < 1000 ∧ RH D G ρ h' (upd H a (.ins (D.adr C) dx (putF (lit f) y fs))) ∧ clsM o h = .ok C h := by
  cases ro with
  | ref hr =>
    rename_i m a
    simp only [Ev.setAttr] at hs
    cases hm : h[m]? with
    | none => rw [hm] at hs; cases hs
    | some ob =>
      rw [hm] at hs
      cases ob with
      | inst C fs =>
        simp only at hs
        split at hs
        · rename_i hf
          injection hs with _ hs
          subst hs
          obtain ⟨u, h1, h2⟩ := xh.obj _ _ _ hr hm
          obtain ⟨c1, c2⟩ := S.fld C f hf.1
          cases h2 with
          | inst r =>
            exact ⟨a, C, _, _, rfl, h1, c1, c2, by rw [paired_len r]; omega, xh.put hr (.inst (fldput_rel rv r)), by simp [clsM, hm]⟩
        · cases hs
      | _ => cases hs
  | _ => cases hs
theorem simQ_asgF (S : Stat D) {o e : Ex} {f : String} (ho : SimE D n k o) (he : SimE D n k e) : SimQ D n k (.asgF o f e) := by
  intro E N sc X st hX hm
  simp only [matchS] at hm
  split at hm
  · rename_i x g sp v pos hv
    injection hv with hv _
    subst hv
    simp only [Bool.and_eq_true, beq_iff_eq] at hm
    obtain ⟨⟨h0, h1⟩, h3⟩ := hm
    subst h0
    have pv := he E N sc X v hX.toXOk h3
    have px := ho E N sc X x hX.toXOk h1
    refine PS.imp (ps_fld px pv (swap_other rfl _ _)) fun d σ H q => ?_
    obtain ⟨G, ρ, env, h, xh, re, q⟩ := q
    refine tG_bindS xh re q fun G1 ρ1 H1 y1 w h1 e1 x1 r1 q1 => ?_
    refine tG_bindS x1 (re.mono e1) q1 fun G2 ρ2 H2 y2 w2 h2 e2 x2 r2 q2 => ?_
    have re2 := (re.mono e1).mono e2
    simp only [M.bind_at] at q2
    cases hs : Ev.setAttr D.cfg.fld w2 f w h2 with
    | no => rw [show Ev.setAttr (cx D n).fld w2 f w h2 = .no from hs] at q2; exact q2.elim
    | exc c fs h4 =>
      exfalso
      unfold Ev.setAttr at hs
      revert hs
      repeat' split
      all_goals (intro hs; cases hs)
    | ok u h4 =>
      rw [show Ev.setAttr (cx D n).fld w2 f w h2 = .ok u h4 from hs] at q2
      obtain ⟨a, C, dx, fs, g1, g2, g3, g4, g5, g6, _⟩ := setAttr_sim S x2 r2 (r1.mono e2) hs
      rw [hX.hK]
      exact ⟨a, D.adr C, dx, fs, g1, g2, g3, g4, g5, q2 G2 ρ2 _ σ Ext.refl g6 re2⟩
  · cases hm
def ipA (op : BOp) : TIp := match op with
  | .add => ipI fun i j => i + j
  | .sub => ipI fun i j => i - j
  | _ => fun _ _ _ _ => False
theorem ip_of {op : BOp} (h : (op == .add || op == .sub) = true) : PIp X (bopOf op) (ipA op) := by
  cases op <;> first | exact ip_add | exact ip_sub | cases h
theorem augV_sim {op : BOp} {x y : Val} {a b : V} {r : R Val} (e : augV op x y h = r) (rx : RV D G ρ x a) (ry : RV D G ρ y b) : r = .no ∨ ∃ i, r = .ok (.int i) h ∧ ∀ H (Q : VK), Q (.int i) H → ipA op a b H Q := by
  subst e
  cases op <;> cases rx <;> first | exact .inl rfl | skip
  all_goals (cases ry <;> first | exact .inl rfl | exact .inr ⟨_, rfl, fun H Q q => ⟨_, _, rfl, rfl, q⟩⟩)
theorem simQ_augN {i : Nat} {op : BOp} {e : Ex} (he : SimE D n k e) : SimQ D n k (.augN i op e) := by
  intro E N sc X st hX hm
  simp only [matchS] at hm
  split at hm
  · rename_i y py p v pos hv
    injection hv with hv _
    subst hv
    simp only [Bool.and_eq_true, beq_iff_eq] at hm
    obtain ⟨⟨⟨⟨hi, hl⟩, hp⟩, hop⟩, hv⟩ := hm
    subst hp
    have hi' : X.N[i]? = some y := by rw [hX.hN]; exact hi
    refine PS.imp (ps_aug hX.nd hi' (hX.loc hl).1 (he E N sc X v hX.toXOk hv) (ip_of (by simpa using hop)) (hX.loc hl).2) fun d σ H q => ?_
    obtain ⟨G, ρ, env, h, xh, re, q⟩ := q
    have q' : OkS D E G ρ ((ofOpt (env[i]?.getD none) h).bind fun x h1 => (evE (cx D n) e env h1).bind fun v h2 => (augV op x v h2).bind fun z h3 => .ok (.nx (env.set i (some z))) h3) d := q
    cases hx : env[i]?.getD none with
    | none => rw [hx] at q'; exact q'.elim
    | some x =>
      rw [hx] at q'
      obtain ⟨xv, h1, h2⟩ := re.at_ hx
      refine ⟨xv, h1, tG_bindS xh re q' fun G1 ρ1 H1 y1 w h1 e1 x1 r1 q1 => ?_⟩
      rcases augV_sim (h := h1) (op := op) rfl (h2.mono e1) r1 with z | ⟨j, z, z2⟩
      · rw [z] at q1; exact q1.elim
      · rw [z] at q1
        exact z2 H1 _ (q1 G1 ρ1 H1 _ Ext.refl x1 ((re.mono e1).set i (.int j)))
  · cases hm
theorem simQ_augF (S : Stat D) {o e : Ex} {f : String} {op : BOp} (ho : SimE D n k o) (he : SimE D n k e) : SimQ D n k (.augF o f op e) := by
  intro E N sc X st hX hm
  simp only [matchS] at hm
  split at hm
  · rename_i x g sp p v pos hv
    injection hv with hv _
    subst hv
    simp only [Bool.and_eq_true, beq_iff_eq] at hm
    obtain ⟨⟨⟨⟨h0, hp⟩, hop⟩, h1⟩, h3⟩ := hm
    subst h0
    subst hp
    have pv := he E N sc X v hX.toXOk h3
    have px := ho E N sc X x hX.toXOk h1
    refine PS.imp (ps_fldaug px pv (ip_of (by simpa using hop))) fun d σ H q => ?_
    obtain ⟨G, ρ, env, h, xh, re, q⟩ := q
    refine tG_bindS xh re q fun G1 ρ1 H1 y1 w h1 e1 x1 r1 q1 => ?_
    have q1' : OkS D E G1 ρ1 ((attrV D.cfg.fld w f h1).bind fun ww h2 => (clsM w h2).bind fun kk h2 => (evE (cx D n) e env h2).bind fun v h3 => (augV op ww v h3).bind fun z h4 => (clsM w h4).bind fun k2 h4 => (guardM (kk == k2) h4).bind fun _ h4 => (Ev.setAttr D.cfg.fld w f z h4).bind fun _ h5 => .ok (.nx env) h5) d := q1
    have hw := r1
    cases r1 with
    | ref hr =>
      rename_i m a
      obtain ⟨ob, u, g1, g2, g3⟩ := x1.at_ hr
      simp only [attrV, g1] at q1'
      cases g3 with
      | inst rf =>
        simp only at q1'
        split at q1'
        · rename_i hf
          obtain ⟨c1, c2⟩ := S.fld _ f hf
          have fr := fs_rel rf f
          revert q1' fr
          cases fldGet _ f with
          | none => intro q1' fr; exact q1'.elim
          | some ww =>
            intro q1' fr
            cases eg : List.lookup (lit f) _ with
            | none => rw [eg] at fr; exact fr.elim
            | some z =>
              rw [eg] at fr
              rw [hX.hK]
              refine ⟨a, _, _, _, z, rfl, g2, c1, c2, eg, ?_⟩
              simp only [R.bind_ok, clsM, g1] at q1'
              refine tG_bindS x1 (re.mono e1) q1' fun G2 ρ2 H2 y2 w2 h2 e2 x2 r2 q2 => ?_
              rcases augV_sim (h := h2) (op := op) rfl (fr.mono e2) r2 with z | ⟨j, z, z2⟩
              · rw [z] at q2; exact q2.elim
              · rw [z] at q2
                refine z2 H2 _ ?_
                simp only [R.bind_ok] at q2
                obtain ⟨ob2, u2, k1, k2, k3⟩ := x2.at_ (pre_get e2.r hr)
                simp only [k1] at q2
                cases k3 with
                | inst rf2 =>
                  simp only [R.bind_ok, guard_at] at q2
                  split at q2
                  · rename_i hc
                    have hc' := eq_of_beq hc
                    subst hc'
                    simp only [R.bind_ok] at q2
                    cases hs : Ev.setAttr D.cfg.fld (.ref m) f (.int j) h2 with
                    | no => rw [hs] at q2; exact q2.elim
                    | exc c fs h4 =>
                      exfalso
                      unfold Ev.setAttr at hs
                      revert hs
                      repeat' split
                      all_goals (intro hs; cases hs)
                    | ok u h4 =>
                      rw [hs] at q2
                      obtain ⟨a', C', dx', fs', s1, s2, s3, s4, s5, s6, s7⟩ := setAttr_sim S x2 (.ref (pre_get e2.r hr)) (.int j) hs
                      injection s1 with s1
                      subst s1
                      have hCC := s7
                      simp only [clsM, k1] at hCC
                      injection hCC with hCC _
                      subst hCC
                      exact ⟨dx', fs', s2, s5, q2 G2 ρ2 _ σ Ext.refl s6 ((re.mono e1).mono e2)⟩
                  · exact q2.elim
                | list _ _ => exact q2.elim
                | dictK _ => exact q2.elim
                | dictT _ => exact q2.elim
        · exact q1'.elim
      | list _ _ => exact q1'.elim
      | dictK _ => exact q1'.elim
      | dictT _ => exact q1'.elim
    | _ => exact q1'.elim
  · cases hm

/-! ### two or three names at once -/
theorem par2 {x y : Str} {px py : Pos} (hx : sc.names.lookup x = some .local) (hy : sc.names.lookup y = some .local) (h : (parNames sc px.line [.Name x px, .Name y py]).length = 2) : parNames sc px.line [.Name x px, .Name y py] = [x, y] := by
  unfold parNames at h ⊢
  by_cases c : py.line = px.line
  · simp [List.filterMap_cons, hx, hy, c]
  · simp [List.filterMap_cons, hx, hy, c] at h
theorem par3 {x y z : Str} {px py pz : Pos} (hx : sc.names.lookup x = some .local) (hy : sc.names.lookup y = some .local) (hz : sc.names.lookup z = some .local) (h : (parNames sc px.line [.Name x px, .Name y py, .Name z pz]).length = 3) : parNames sc px.line [.Name x px, .Name y py, .Name z pz] = [x, y, z] := by
  unfold parNames at h ⊢
  by_cases c : py.line = px.line
  · by_cases c2 : pz.line = px.line
    · simp [List.filterMap_cons, hx, hy, hz, c, c2]
    · simp [List.filterMap_cons, hx, hy, hz, c, c2] at h
  · by_cases c2 : pz.line = px.line
    · simp [List.filterMap_cons, hx, hy, hz, c, c2] at h
    · simp [List.filterMap_cons, hx, hy, hz, c, c2] at h
theorem simQ_par {is : List Nat} {es : Ex} (hes : SimL D n k es) : SimQ D n k (.par is es) := by
  intro E N sc X st hX hm
  simp only [matchS] at hm
  split at hm
  · rename_i ts kt pt vs k2 pt2 pos hv
    injection hv with hv _
    subst hv
    simp only [Bool.and_eq_true] at hm
    obtain ⟨⟨h1, h2⟩, h3⟩ := hm
    have hsw := par_ok (kt := kt) (k2 := k2) (pt := pt) (pt2 := pt2) (env := X.env) (ts := ts) (vs := vs) (by rw [hX.hsc]; exact h2)
    rw [hX.hsc] at hsw
    have pl := hes E N sc X vs hX.toXOk h3
    have hparts := h2
    unfold parOk at hparts
    simp only [Bool.and_eq_true, Bool.not_eq_true', beq_iff_eq, Bool.or_eq_true] at hparts
    obtain ⟨⟨⟨⟨⟨⟨⟨p1, p2⟩, p3⟩, p4⟩, p5⟩, p6⟩, p7⟩, p8⟩ := hparts
    have rd : ∀ d σ H, tS D E (evS (cx D n) (.par is es)) d σ H → tA D E (cx D n) es σ H fun vs H1 => vs.length = is.length ∧ d.nx ((is.zip vs).foldl (fun e p => e.set p.1 (some p.2)) σ) H1 := by
      intro d σ H q
      obtain ⟨G, ρ, env, h, xh, re, q⟩ := q
      have q' : OkS D E G ρ ((evL (cx D n) es env h).bind fun vs h1 => (if vs.length = is.length then pure (.nx ((is.zip vs).foldl (fun e p => e.set p.1 (some p.2)) env)) else stuck : M Ctl) h1) d := q
      refine tG_bindS xh re q' fun G1 ρ1 H1 y1 w h1 e1 x1 r1 q1 => ?_
      by_cases hl : w.length = is.length
      · rw [if_pos hl] at q1
        refine ⟨by rw [RVs.length r1]; exact hl, q1 G1 ρ1 H1 _ Ext.refl x1 ?_⟩
        have go : ∀ (is : List Nat) (w : List Val) (y1 : List V) (env : EEnv) (σ : L2.St), REnv D G1 ρ1 env σ → RVs D G1 ρ1 w y1 → REnv D G1 ρ1 ((is.zip w).foldl (fun e p => e.set p.1 (some p.2)) env) ((is.zip y1).foldl (fun e p => e.set p.1 (some p.2)) σ) := by
          intro is
          induction is with
          | nil => intro w y1 env σ re _; exact re
          | cons i is ih =>
            intro w y1 env σ re rr
            cases rr with
            | nil => exact re
            | cons r1 r2 => exact ih _ _ _ _ (re.set i r1) r2
        exact go is w y1 env σ (re.mono e1) r1
      · rw [if_neg hl] at q1; exact q1.elim
    unfold parTs at h1
    split at h1
    · rename_i x px y py
      split at h1
      · rename_i i j
        simp only [Bool.and_eq_true, beq_iff_eq, bne_iff_ne] at h1
        obtain ⟨⟨⟨⟨h1, h1'⟩, hij⟩, hx⟩, hy⟩ := h1
        have hx := isLoc_ok hx
        have hy := isLoc_ok hy
        match vs, p2 with
        | [v1, v2], _ =>
          have hn := par2 hx hy p5
          refine PS.imp (ps_par hX.calm hX.nd (by rw [hX.hN]; exact h1) (by rw [hX.hN]; exact h1') hij (by rw [hX.hsc]; exact hx) (by rw [hX.hsc]; exact hy) pl (hsw.trans (congrArg (fun z => pure (some z)) hn)) rfl) fun d σ H q => ?_
          obtain ⟨G, ρ, env, h, xh, re, q⟩ := rd d σ H q
          refine ⟨G, ρ, env, h, xh, re, OkG.imp q fun ys H1 ⟨a1, a2⟩ => ?_⟩
          match ys, a1 with
          | [u, v], _ => exact ⟨u, v, rfl, a2⟩
      · cases h1
    · rename_i x px y py z pz
      split at h1
      · rename_i i j l
        simp only [Bool.and_eq_true, beq_iff_eq, bne_iff_ne] at h1
        obtain ⟨⟨⟨⟨⟨⟨⟨⟨a1, a2⟩, a3⟩, hij⟩, hil⟩, hjl⟩, hx⟩, hy⟩, hz⟩ := h1
        have hx := isLoc_ok hx
        have hy := isLoc_ok hy
        have hz := isLoc_ok hz
        match vs, p2 with
        | [v1, v2, v3], _ =>
          have hn := par3 hx hy hz p5
          refine PS.imp (ps_par3 hX.calm hX.nd (by rw [hX.hN]; exact a1) (by rw [hX.hN]; exact a2) (by rw [hX.hN]; exact a3) hij hil hjl (by rw [hX.hsc]; exact hx) (by rw [hX.hsc]; exact hy) (by rw [hX.hsc]; exact hz) pl (hsw.trans (congrArg (fun z => pure (some z)) hn)) rfl) fun d σ H q => ?_
          obtain ⟨G, ρ, env, h, xh, re, q⟩ := rd d σ H q
          refine ⟨G, ρ, env, h, xh, re, OkG.imp q fun ys H1 ⟨a1, a2⟩ => ?_⟩
          match ys, a1 with
          | [u, v, w], _ => exact ⟨u, v, w, rfl, a2⟩
      · cases h1
    · cases h1
  · cases hm

/-! ### loops -/
theorem okS_chk {lk : Lk} {f : M Ctl} {d : Ends} (q : OkS D E G ρ ((chk lk h).bind fun _ => f) d) : lkOk lk h = true ∧ OkS D E G ρ (f h) d := by
  cases hk : lkOk lk h with
  | true =>
    have : chk lk h = .ok () h := by unfold chk; rw [if_pos hk]
    rw [this] at q
    exact ⟨rfl, q⟩
  | false =>
    have : chk lk h = .no := by unfold chk; rw [hk]; rfl
    rw [this] at q
    exact q.elim
theorem simQ_for {t : Tg} {it : Ex} {b : Sx} (hit : SimI D n k it) (hb : SimS D n k b) : SimQ D n k (.for_ t it b) := by
  intro E N sc X st hX hm
  simp only [matchS] at hm
  split at hm
  · rename_i tg iter body pos hv
    injection hv with hv _
    subst hv
    simp only [Bool.and_eq_true] at hm
    obtain ⟨⟨⟨h1, h2⟩, h3⟩, h4⟩ := hm
    have pb := hb E N sc X body hX h4
    refine PS.imp (ps_for hX.own hX.calm (hit E N sc X tg iter hX.toXOk h3) (pg_of hX.calm hX.nd hX.hN hX.hK (fun x hx => hX.loc hx) t tg h1) pb (fun x => by
      cases iter <;> first | rfl | cases h2)) fun d σ H q => ?_
    obtain ⟨G, ρ, env, h, xh, re, q⟩ := q
    have q' : OkS D E G ρ ((evI (cx D n) it env h).bind fun p => forLoop p.2 (bindTg t) (fun e => evS (cx D n) b e) p.1 env) d := q
    refine tG_bindS xh re q' fun G1 ρ1 H1 J p h1 e1 x1 w q1 => ?_
    obtain ⟨vs, lk⟩ := p
    simp only at q1
    obtain ⟨hmost, Y, wk, wy⟩ := w
    simp only at wk wy
    let Pv : Nat → L2.St → Hp → Prop := fun i σ H => ∃ G' ρ' env' h', Ext G1 ρ1 G' ρ' ∧ RH D G' ρ' h' H ∧ REnv D G' ρ' env' σ ∧ OkS D E G' ρ' (forLoop lk (bindTg t) (fun e => evS (cx D n) b e) (vs.drop i) env' h') d
    have chk_of : ∀ {l : List Val} {env' : EEnv} {h' : EHeap} {G' : Hp} {ρ' : List Addr}, OkS D E G' ρ' (forLoop lk (bindTg t) (fun e => evS (cx D n) b e) l env' h') d → lkOk lk h' = true := by
      intro l env' h' G' ρ' hq
      cases l with
      | nil => exact (okS_chk (f := pure (.nx env')) hq).1
      | cons v l => exact (okS_chk (f := (do
          let env ← ofOpt (bindTg t v env')
          match ← evS (cx D n) b env with
          | .nx env => forLoop lk (bindTg t) (fun e => evS (cx D n) b e) l env
          | .ct env => forLoop lk (bindTg t) (fun e => evS (cx D n) b e) l env
          | .bk env => pure (.nx env)
          | .rt v => pure (.rt v))) hq).1
    refine for_it wk Pv ⟨G1, ρ1, env, h1, Ext.refl, x1, re.mono e1, by simpa using q1⟩ ?_ ?_ ?_
    · rintro i σ H hi ⟨G', ρ', env', h', e, x, re', hq⟩
      exact ⟨G', ρ', h', e, x, chk_of hq⟩
    · rintro i x σ H H' hi ⟨G', ρ', env', h', e, xh', re', hq⟩ hy
      obtain ⟨G2, ρ2, v, hv, e2, x2, r2⟩ := wy i G' ρ' h' H x H' hi e xh' (chk_of hq) hy
      have hdrop : vs.drop i = v :: vs.drop (i + 1) := by
        obtain ⟨hlt, rfl⟩ := List.getElem?_eq_some_iff.mp hv
        exact List.drop_eq_getElem_cons hlt
      rw [hdrop] at hq
      have hq2 := (okS_chk (f := (do
          let env ← ofOpt (bindTg t v env')
          match ← evS (cx D n) b env with
          | .nx env => forLoop lk (bindTg t) (fun e => evS (cx D n) b e) (vs.drop (i + 1)) env
          | .ct env => forLoop lk (bindTg t) (fun e => evS (cx D n) b e) (vs.drop (i + 1)) env
          | .bk env => pure (.nx env)
          | .rt v => pure (.rt v))) hq).2
      simp only [M.bind_at] at hq2
      cases hb' : bindTg t v env' with
      | none => rw [hb'] at hq2; exact hq2.elim
      | some env1 =>
        rw [hb'] at hq2
        simp only [ofOpt_some, R.bind_ok, M.bind_at] at hq2
        refine ⟨G2, ρ2, env', h', v, env1, x2, re'.mono e2, r2, hb', fun σ2 re2 _ _ => ?_⟩
        refine ⟨G2, ρ2, env1, h', x2, re2, ?_⟩
        have hq3 := OkS.mono e2 hq2
        cases hbd : evS (cx D n) b env1 h' with
        | no => rw [hbd] at hq3; exact hq3.elim
        | exc c fs h3 => rw [hbd] at hq3; exact hq3
        | ok c h3 =>
          rw [hbd] at hq3
          cases c with
          | nx env2 => exact fun G3 ρ3 H3 σ3 e3 x3 re3 => ⟨G3, ρ3, env2, h3, (e.trans e2).trans e3, x3, re3, OkS.mono e3 hq3⟩
          | ct env2 => exact fun G3 ρ3 H3 σ3 e3 x3 re3 => ⟨G3, ρ3, env2, h3, (e.trans e2).trans e3, x3, re3, OkS.mono e3 hq3⟩
          | bk env2 => exact hq3
          | rt v => exact hq3
    · rintro σ H ⟨G', ρ', env', h', e, xh', re', hq⟩
      rw [List.drop_length] at hq
      exact (okS_chk (f := pure (.nx env')) hq).2 G' ρ' H σ Ext.refl xh' re'
  · cases hm
theorem simQ_while {c : Ex} {b : Sx} (hc : SimT D n k c) (hb : SimS D n k b) : SimQ D n k (.while_ c b) := by
  intro E N sc X st hX hm
  simp only [matchS] at hm
  split at hm
  · rename_i tt body pos hv
    injection hv with hv _
    subst hv
    simp only [Bool.and_eq_true] at hm
    obtain ⟨h1, h4⟩ := hm
    have pb := hb E N sc X body hX h4
    refine PS.imp (ps_while hX.own (hc E N sc X tt hX.toXOk h1) pb) fun d σ H q => ?_
    obtain ⟨G, ρ, env, h, xh, re, q⟩ := q
    have q' : OkS D E G ρ (whileLoop (fun e => evT (cx D n) c e) (fun e => evS (cx D n) b e) (cx D n).fuel env h) d := q
    refine ⟨fun m σ H => ∃ G ρ env h, RH D G ρ h H ∧ REnv D G ρ env σ ∧ OkS D E G ρ (whileLoop (fun e => evT (cx D n) c e) (fun e => evS (cx D n) b e) m env h) d, ⟨_, G, ρ, env, h, xh, re, q'⟩, ?_⟩
    rintro m σ H ⟨G, ρ, env, h, xh, re, q⟩
    cases m with
    | zero => exact q.elim
    | succ m =>
      have q1 : OkS D E G ρ ((evT (cx D n) c env h).bind fun bb h1 => (if bb = true then (do
          match ← evS (cx D n) b env with
          | .nx env => whileLoop (fun e => evT (cx D n) c e) (fun e => evS (cx D n) b e) m env
          | .ct env => whileLoop (fun e => evT (cx D n) c e) (fun e => evS (cx D n) b e) m env
          | .bk env => pure (.nx env)
          | .rt v => pure (.rt v)) else pure (.nx env) : M Ctl) h1) d := q
      refine tG_bindS xh re q1 fun G1 ρ1 H1 y v h1 e1 x1 r1 q2 => ?_
      have r1' : v = y := r1
      subst r1'
      cases v with
      | false =>
        simp only [Bool.false_eq_true, if_false] at q2 ⊢
        exact q2 G1 ρ1 H1 σ Ext.refl x1 (re.mono e1)
      | true =>
        simp only [if_true] at q2 ⊢
        refine ⟨fun σ H => ∃ G ρ env h, RH D G ρ h H ∧ REnv D G ρ env σ ∧ OkS D E G ρ (whileLoop (fun e => evT (cx D n) c e) (fun e => evS (cx D n) b e) m env h) d, fun σ' H' w => ⟨m, by omega, w⟩, G1, ρ1, env, h1, x1, re.mono e1, ?_⟩
        simp only [M.bind_at] at q2
        cases hbd : evS (cx D n) b env h1 with
        | no => rw [hbd] at q2; exact q2.elim
        | exc cc fs h3 => rw [hbd] at q2; exact q2
        | ok cc h3 =>
          rw [hbd] at q2
          cases cc with
          | nx env2 => exact fun G3 ρ3 H3 σ3 e3 x3 re3 => ⟨G3, ρ3, env2, h3, x3, re3, OkS.mono e3 q2⟩
          | ct env2 => exact fun G3 ρ3 H3 σ3 e3 x3 re3 => ⟨G3, ρ3, env2, h3, x3, re3, OkS.mono e3 q2⟩
          | bk env2 => exact q2
          | rt v => exact q2
  · cases hm
end
end Sim

end
section
set_option Elab.async false
set_option linter.all false
set_option maxRecDepth 100000
/-! SimR: the rest of the expressions; all expressions. -/
namespace Sim
open PySem PySem.Spec PyProof.Rows L2 Ev

section
variable {D : Wd} {n k : Nat} {E : XK} {N : List Str} {sc : Scope} {X : Cx} {ee : Expr} {G : Hp} {ρ : List Addr} {h : EHeap} {H : Hp}

theorem sim_dead : SimE D n k .dead := by
  intro E N sc X ee hX hm
  exact ⟨fun pins s σ H Q I q => by obtain ⟨G, ρ, env, h, xh, re, q⟩ := q; exact q.elim⟩
theorem sim_deadT : SimT D n k .dead := by
  intro E N sc X ee hX hm
  exact ⟨fun pins s σ H Q I q => by obtain ⟨G, ρ, env, h, xh, re, q⟩ := q; exact q.elim⟩
theorem isTrue_if (t b o : Expr) (pos : Pos) (env : PySem.Env) (whole : Sem Value) : isTrue (.IfExp t b o pos) env whole = (do if ← isTrue t env (eval t env) then isTrue b env (eval b env) else isTrue o env (eval o env)) := by
  first | rfl | (rw [isTrue]; done) | (simp only [isTrue]; done)
theorem sim_iteT {c a b : Ex} (hct : SimT D n k c) (ha : SimT D n k a) (hb : SimT D n k b) : SimT D n k (.ite c a b) := by
  intro E N sc X ee hX hm
  simp only [matchE] at hm
  split at hm
  · rename_i x y z hxy
    obtain ⟨pos, rfl⟩ := asIf_eq hxy
    simp only [Bool.and_eq_true] at hm
    obtain ⟨⟨h1, h2⟩, h3⟩ := hm
    have p1 := hct E N sc X x hX h1
    have p2 := ha E N sc X y hX h2
    have p3 := hb E N sc X z hX h3
    refine ⟨fun pins s σ H Q I q => ?_⟩
    obtain ⟨G, ρ, env, h, xh, re, q⟩ := q
    rw [isTrue_if]
    have q' : OkG D E relI G ρ ((evT (cx D n) c env h).bind fun v h1 => (if v = true then evT (cx D n) a env else evT (cx D n) b env) h1) Q := q
    refine wpAny_bind (thn (p1.run pins s σ H (fun bb H1 => if bb = true then tT D E (cx D n) a σ H1 Q else tT D E (cx D n) b σ H1 Q) I (tG_bind xh re q' fun G1 ρ1 H1 y v h1 e1 x1 r1 q1 => ?_)) fun bb s1 ⟨H1, I1, w⟩ => ?_)
    · have r1' : v = y := r1
      subst r1'
      cases v with
      | true => exact ⟨G1, ρ1, env, h1, x1, re.mono e1, q1⟩
      | false => exact ⟨G1, ρ1, env, h1, x1, re.mono e1, q1⟩
    · cases bb with
      | true => exact p2.run pins s1 σ H1 Q I1 w
      | false => exact p3.run pins s1 σ H1 Q I1 w
  · cases hm

/-! ### all of them -/
def plainX : Ex → Bool
  | .and_ _ _ => false | .or_ _ _ => false | .not_ _ => false | .cmp _ _ _ => false | .chain _ _ _ _ _ => false | .isN _ _ => false | .ite _ _ _ => false | .dead => false
  | _ => true
theorem plainF {tx : Tx} {f : Ex} (hm : matchF tx N sc f ee = true) : plainT ee = true := by
  cases ee with
  | UnaryOp o a p => cases f <;> simp [matchF, asLst] at hm
  | BoolOp _ _ _ => cases f <;> simp [matchF, asLst] at hm
  | IfExp _ _ _ _ => cases f <;> simp [matchF, asLst] at hm
  | Compare _ _ _ _ => cases f <;> simp [matchF, asLst] at hm
  | _ => rfl
theorem plain_of {tx : Tx} {e : Ex} (hp : plainX e = true) (hm : matchE tx N sc e ee = true) : plainT ee = true := by
  cases ee with
  | UnaryOp o a p =>
    cases o with
    | Not =>
      cases e <;> first | (cases hp; done) | skip
      all_goals first
        | (simp [matchE, asName, asConst, asTup, asBin, asUn, asAttr, asSub, asCall, asMeth] at hm; done)
        | (simp only [matchE] at hm; exact plainF hm)
    | _ => rfl
  | BoolOp _ _ _ =>
    cases e <;> first | (cases hp; done) | skip
    all_goals first
      | (simp [matchE, asName, asConst, asTup, asBin, asUn, asAttr, asSub, asCall, asMeth] at hm; done)
      | (simp only [matchE] at hm; exact plainF hm)
  | IfExp _ _ _ _ =>
    cases e <;> first | (cases hp; done) | skip
    all_goals first
      | (simp [matchE, asName, asConst, asTup, asBin, asUn, asAttr, asSub, asCall, asMeth] at hm; done)
      | (simp only [matchE] at hm; exact plainF hm)
  | Compare _ _ _ _ =>
    cases e <;> first | (cases hp; done) | skip
    all_goals first
      | (simp [matchE, asName, asConst, asTup, asBin, asUn, asAttr, asSub, asCall, asMeth] at hm; done)
      | (simp only [matchE] at hm; exact plainF hm)
  | _ => rfl
structure SimX (D : Wd) (n k : Nat) (e : Ex) : Prop where
  E : SimE D n k e
  T : SimT D n k e
  L : SimL D n k e
  B : SimB D n k e
  F : SimF D n k e
  I : SimI D n k e
  C : ∀ a b, e = .cons a b → SimE D n k a ∧ ∀ c d, b = .cons c d → SimE D n k c
  K : LcS D n k e
  M : ∀ x ∈ elems e, SimE D n k x
end
end Sim

end
section
set_option Elab.async false
set_option linter.all false
set_option maxRecDepth 100000
/-! SimR1: text[::-1]. -/
namespace Sim
open PySem PySem.Spec PyProof.Rows L2 Ev

theorem range_rev (l : List Nat) : (Builtin.Str.strSliceIndices none none (-1) l.length).filterMap (fun i => l[i]?) = l.reverse := by
  have e : Builtin.Str.strSliceIndices none none (-1) l.length = (List.range l.length).map fun k => l.length - 1 - k := by
    unfold Builtin.Str.strSliceIndices sliceRange
    have h1 : (if (-1 : Int) < (l.length : Int) - 1 then ((l.length : Int) - 1 - -1 - -1 - 1) / 1 else 0).toNat = l.length := by
      rw [Int.ediv_one]
      split <;> omega
    simp only [Int.reduceNeg, gt_iff_lt, Int.reduceLT, if_false, Int.neg_neg]
    rw [h1]
    refine List.map_congr_left fun k hk => ?_
    rw [List.mem_range] at hk
    omega
  rw [e]
  apply List.ext_getElem?
  intro i
  have hf : ∀ m, m ≤ l.length → ((List.range m).map fun k => l.length - 1 - k).filterMap (fun i => l[i]?) = (List.range m).map fun k => l.reverse[k]?.getD 0 := by
    intro m
    induction m with
    | zero => intro _; rfl
    | succ m ih =>
      intro hm
      rw [List.range_succ, List.map_append, List.map_append, List.filterMap_append, ih (by omega)]
      congr 1
      have hlt : l.length - 1 - m < l.length := by omega
      simp [List.getElem?_eq_getElem hlt, List.getElem?_reverse (show m < l.length by omega)]
  rw [hf l.length (Nat.le_refl _)]
  by_cases h : i < l.length
  · rw [List.getElem?_map, List.getElem?_range h]
    have : i < l.reverse.length := by simpa using h
    simp [List.getElem?_eq_getElem this]
  · rw [List.getElem?_eq_none (by simp; omega), List.getElem?_eq_none (by simp; omega)]

section
variable {X : Cx} {e : Expr} {te : TE}
/-- a text turned round -/
def tRevT (te : TE) : TE := fun σ H Q => te σ H fun x H1 => ∃ z, x = .str z ∧ z.length ≤ sizeLine ∧ Q (.str ⟨z.cps.toList.reverse.toArray⟩) H1
theorem pe_revT {k : Nat} {p1 p2 p3 pos : Pos} (he : PE X e te) : PE X (.Subscript e (.Slice none none (some (.UnaryOp .USub (.Constant (.int 1) k p1) p2)) p3) pos) (tRevT te) := by
  refine ⟨fun pins s σ H Q I h => Subscript_ (thn (he.run pins s σ H _ I h) fun v s1 ⟨x, H1, I1, r1, z, hx, hz, q⟩ => ?_)⟩
  subst hx
  obtain ⟨t, rfl⟩ := r1
  have hst : PO X (some (.UnaryOp .USub (.Constant (.int 1) k p1) p2)) _ := po_some (pe_un un_neg pe_int)
  refine wpAny_Slice (thn (po_none.run pins s1 σ H1 (fun o G => o = none ∧ G = H1) I1 ⟨rfl, rfl⟩) fun vl s2 ⟨l, H2, I2, pl, el, e2⟩ => ?_)
  subst el e2
  refine thn (po_none.run pins s2 σ H2 (fun o G => o = none ∧ G = H2) I2 ⟨rfl, rfl⟩) fun vu s3 ⟨u, H3, I3, pu, eu, e3⟩ => ?_
  subst eu e3
  refine thn (hst.run pins s3 σ H3 (fun o G => o = some (-1) ∧ G = H3) I3 ⟨1, rfl, -1, rfl, rfl, rfl⟩) fun vs s4 ⟨o, H4, I4, ps, eo, e4⟩ => ?_
  subst eo e4
  obtain ⟨l', rfl, el⟩ := IsPart.raw pl
  obtain ⟨u', rfl, eu⟩ := IsPart.raw pu
  obtain ⟨st, rfl, es⟩ := IsPart.raw ps
  have el' : l' = none := by cases l' <;> simp_all
  have eu' : u' = none := by cases u' <;> simp_all
  subst el' eu'
  have I5 : Inv X pins σ H4 { s4 with heap := s4.heap.push (⟨.type "slice", none, .fields #[partValue none, partValue none, partValue st], #[]⟩ : Obj) } := I4.kept (t' := s4.toks) fun b ob q => by first | exact Heap.get?_push_of_some _ q
  show wpAny (model X.prog X.w) X.A (subscriptTail e (.Slice none none (some (.UnaryOp .USub (.Constant (.int 1) k p1) p2)) p3) (.str z t) (.ref s4.heap.objs.size)) (EP X pins σ Q) X.xe _
  refine tail_any (ops := [.ref s4.heap.objs.size, .str z t]) (typeIs_str _ _ _) F.slot_str_getitem.lookup ?_ (by with_unfolding_all rfl)
  refine wpAny_getItem_str_slice (l := none) (u := none) (st := st) ⟨_, Heap.get?_push_size _ rfl, rfl, rfl⟩ (by rw [es]; rfl) ?_
  have e1 : sliceMade z t none none st = .str ⟨z.cps.toList.reverse.toArray⟩ := by
    have e2 : (slicePicked z none none st).filterMap (z.cps[·]?) = z.cps.toList.reverse := by
      have e3 : slicePicked z none none st = Builtin.Str.strSliceIndices none none (-1) z.length := by
        unfold slicePicked
        rw [es]
        rfl
      rw [e3, ← range_rev z.cps.toList]
      have e4 : z.length = z.cps.toList.length := by simp [Str.length]
      rw [e4]
      refine congrArg (fun f => List.filterMap f _) (funext fun i => ?_)
      rw [Array.getElem?_toList]
    unfold sliceMade
    rw [e2, es]
    rfl
  rw [e1]
  refine ⟨?_, .str _, H4, I5.tok _, ⟨_, rfl⟩, q⟩
  simpa [Str.length] using hz
end
section
variable {D : Wd} {n k : Nat} {E : XK} {N : List Str} {sc : Scope} {X : Cx} {ee : Expr} {G : Hp} {ρ : List Addr} {h : EHeap} {H : Hp}
theorem sOk_rev {s : Str} (hs : sOk s) : sOk ⟨s.cps.toList.reverse.toArray⟩ := by
  refine ⟨by simpa [Str.length] using hs.len, ?_⟩
  have := hs.ok
  unfold PyData.strOk at this ⊢
  simpa using this
theorem sim_srev {a : Ex} (ha : SimE D n k a) : SimE D n k (.srev a) := by
  intro E N sc X ee hX hm
  simp only [matchE] at hm
  split at hm
  · rename_i x y e1
    obtain ⟨p, rfl⟩ := asSub_eq e1
    split at hm
    · rename_i z e2
      obtain ⟨p2, rfl⟩ := asSlice_eq e2
      split at hm
      · refine PE.imp (pe_revT (ha E N sc X x hX hm)) fun σ H Q q => ?_
        obtain ⟨G, ρ, env, h, xh, re, q⟩ := q
        refine tG_bind xh re q fun G1 ρ1 H1 y v h1 e1 x1 r1 q1 => ?_
        cases v with
        | str s =>
          cases r1 with
          | str _ hs =>
            exact ⟨s, rfl, Nat.le_trans hs.len (Nat.le_of_eq most_line), q1 G1 ρ1 H1 _ (Ext.refl) x1 (.str _ (sOk_rev hs))⟩
        | _ => exact q1.elim
      · cases hm
    · cases hm
  · cases hm
end
end Sim

end
section
set_option Elab.async false
set_option linter.all false
set_option maxRecDepth 100000
/-! SimR2: list(..), sorted(..). -/
namespace Sim
open PySem PySem.Spec PyProof.Rows L2 Ev

section
variable {D : Wd} {n k : Nat} {E : XK} {N : List Str} {sc : Scope} {X : Cx} {ee : Expr} {G : Hp} {ρ : List Addr} {h : EHeap} {H : Hp}

/-- a tuple of the heap is frozen from now on -/
theorem RH.adopt (x : RH D G ρ h H) {b : Addr} {xs : List V} (hb : H b = some (.tup xs)) : RH D (upd G b (.tup xs)) ρ h H ∧ Ext G ρ (upd G b (.tup xs)) ρ := by
  have e : Ext G ρ (upd G b (.tup xs)) ρ := ⟨fun a z hz => by
    by_cases q : a = b
    · subst q
      have := x.sub a z hz
      rw [hb] at this
      rw [upd_same]
      cases z with
      | tup ys => simpa [unpin] using this
      | frz o u =>
        exfalso
        revert this
        unfold unpin
        split <;> intro z <;> cases z
      | _ => simp [unpin] at this
    · rw [upd_ne q]; exact hz, List.prefix_rfl⟩
  refine ⟨⟨fun a z hz => ?_, x.tabs, bare_upd x.gb trivial, x.len, x.nd, fun a ha => ?_, fun n a b h1 h2 => ?_⟩, e⟩
  · by_cases q : a = b
    · subst q
      rw [upd_same] at hz
      cases hz
      exact hb
    · rw [upd_ne q] at hz
      exact x.sub a z hz
  · obtain ⟨n, hn⟩ := List.getElem?_of_mem ha
    obtain ⟨o, u, _, h2, h3⟩ := x.at_ hn
    have ne : a ≠ b := fun z => by
      subst z
      rw [hb] at h2
      cases h2
      cases h3
    rw [upd_ne ne]
    exact x.out a ha
  · obtain ⟨u, h3, h4⟩ := x.obj n a b h1 h2
    exact ⟨u, h3, h4.mono e⟩

/-! ### functions that lay a new list -/
/-- what is wanted of a new list -/
abbrev newL (Q : VK) : List V → Hp → Prop := fun ys H => ys.length ≤ most → ∀ p, H p = none → Q (.ref p) (upd H p (.lst ys))
theorem tF_of {m : EEnv → M (List Val)} {σ : L2.St} {Q : VK} (q : tG D E (relL D) m σ H (newL Q)) : tF D E m σ H Q := by
  obtain ⟨G, ρ, env, h, xh, re, q⟩ := q
  refine ⟨G, ρ, env, h, xh, re, ?_⟩
  cases hm : m env h with
  | ok vs h' =>
    rw [hm] at q
    exact fun G' ρ' H' ys p e x r hl np => q G' ρ' H' ys e x r (by rw [r.length]; exact hl) p np
  | exc c fs h' => rw [hm] at q; exact q
  | no => rw [hm] at q; exact q
theorem tF_to {m : EEnv → M (List Val)} {σ : L2.St} {Q : VK} (q : tF D E m σ H Q) : tG D E (relL D) m σ H (newL Q) := by
  obtain ⟨G, ρ, env, h, xh, re, q⟩ := q
  refine ⟨G, ρ, env, h, xh, re, ?_⟩
  cases hm : m env h with
  | ok vs h' =>
    rw [hm] at q
    exact fun G' ρ' H' ys e x r hl p np => q G' ρ' H' ys p e x r (by rw [← r.length]; exact hl) np
  | exc c fs h' => rw [hm] at q; exact q
  | no => rw [hm] at q; exact q
def FPrimSim (D : Wd) (E : XK) (f : List Val → M (List Val)) (r : List V → Hp → VK → Prop) : Prop := ∀ G ρ h H args xs Q, RH D G ρ h H → RVs D G ρ args xs → OkG D E (relL D) G ρ (f args h) (newL Q) → r xs H Q
theorem CallR.byCases {f : Value} {r : List V → Hp → VK → Prop} (h : ∀ xs H Q, r xs H Q → ∃ r', CallR X f r' ∧ r' xs H Q) : CallR X f r := fun pins s σ H xs us Q I rr q =>
  let ⟨_, c, z⟩ := h xs H Q q
  c pins s σ H xs us Q I rr z
theorem fcallT_of (S : Stat D) (hX : XOk D E k N sc X) {es : Ex} (hes : SimL D n k es) {nm : String} {id : String} {g : Expr} {l : List Expr} {pos : Pos} {r : List V → Hp → VK → Prop} {f : List Val → M (List Val)} (hc : CallR X (.type id) r) (hs : FPrimSim D E f r) (hb : bootBuiltins (lit nm) = some (.type id))
    (hm : matchB (txOf D) sc nm g = true) (hne : l.isEmpty = false) (hl : matchL (txOf D) N sc es l = true) : PE X (.Call g l [] pos) (tF D E fun env => do f (← evL (cx D n) es env)) := by
  obtain ⟨p, rfl, h1, h2, h3⟩ := matchB_ok S hX hm
  cases l with
  | nil => cases hne
  | cons x r0 =>
    obtain ⟨n1, n2⟩ := cons_parts (D := D) hl
    refine PE.imp (pe_callTy hc h1 h2 hb (hes E N sc X _ hX hl) (okName_n h3) (okName_d h3) (star_of n1 _ _) (n2 _ _)) fun σ H Q q => ?_
    obtain ⟨G, ρ, env, h, xh, re, q⟩ := tF_to q
    exact tG_bind xh re q fun G1 ρ1 H1 y1 vs h1 e1 x1 r1 q1 => hs G1 ρ1 h1 H1 vs y1 Q x1 r1 q1
theorem fcallB_of (S : Stat D) (hX : XOk D E k N sc X) {es : Ex} (hes : SimL D n k es) {nm : String} {id : String} {g : Expr} {l : List Expr} {pos : Pos} {r : List V → Hp → VK → Prop} {f : List Val → M (List Val)} (hc : CallR X (.builtin id) r) (hs : FPrimSim D E f r) (hb : bootBuiltins (lit nm) = some (.builtin id))
    (hm : matchB (txOf D) sc nm g = true) (hne : l.isEmpty = false) (hl : matchL (txOf D) N sc es l = true) : PE X (.Call g l [] pos) (tF D E fun env => do f (← evL (cx D n) es env)) := by
  obtain ⟨p, rfl, h1, h2, h3⟩ := matchB_ok S hX hm
  cases l with
  | nil => cases hne
  | cons x r0 =>
    obtain ⟨n1, n2⟩ := cons_parts (D := D) hl
    refine PE.imp (pe_callB hc h1 h2 hb (hes E N sc X _ hX hl) (okName_n h3) (okName_d h3) (star_of n1 _ _) (n2 _ _)) fun σ H Q q => ?_
    obtain ⟨G, ρ, env, h, xh, re, q⟩ := tF_to q
    exact tG_bind xh re q fun G1 ρ1 H1 y1 vs h1 e1 x1 r1 q1 => hs G1 ρ1 h1 H1 vs y1 Q x1 r1 q1

/-! ### list(..) -/
theorem keyV_rel {v : Val} {k : Key} (h : keyOf v = some k) (hs : strOk v) : RV D G ρ v (kV k) := by
  cases v with
  | int i => cases h; exact .int i
  | str s => cases h; exact .str s hs
  | _ => cases h
theorem keysV_rel : ∀ {l : List Val} {ks : List Key}, l.mapM keyOf = some ks → (∀ s, Val.str s ∈ l → sOk s) → RVs D G ρ l (ks.map kV) := by
  intro l
  induction l with
  | nil =>
    intro ks h _
    cases h
    exact .nil
  | cons v l ih =>
    intro ks h hs
    rw [List.mapM_cons] at h
    cases hv : keyOf v with
    | none => rw [hv] at h; cases h
    | some k =>
      rw [hv] at h
      cases hl : l.mapM keyOf with
      | none => rw [hl] at h; cases h
      | some ks' =>
        rw [hl] at h
        cases h
        refine .cons (keyV_rel hv ?_) (ih hl fun s hs' => hs s (List.mem_cons_of_mem _ hs'))
        cases v with
        | str s => exact hs s (by simp)
        | _ => first | trivial | cases hv
theorem dictK_keys {l : List (Val × Val)} {kvs : List (Key × V)} (r : Paired (fun (p : Val × Val) (q : Key × V) => keyOf p.1 = some q.1 ∧ strOk p.1 ∧ RV D G ρ p.2 q.2) l kvs) : RVs D G ρ (l.map (·.1)) (kvs.map fun kv => kV kv.1) := by
  induction r with
  | nil => exact .nil
  | cons a _ ih => exact .cons (keyV_rel a.1 a.2.1) ih
theorem dictT_keys {l : List (Val × Val)} {kvs : List (List Key × V)} (r : Paired (fun (p : Val × Val) (q : List Key × V) => keysOf p.1 = some q.1 ∧ strOk p.1 ∧ RV D G ρ p.2 q.2) l kvs) :
    ∀ {bs : List Addr} {G0 : Hp}, RH D G0 ρ h H → IsKeys H kvs bs → ∃ G', Ext G0 ρ G' ρ ∧ RH D G' ρ h H ∧ RVs D G' ρ (l.map (·.1)) (bs.map V.ref) := by
  induction r with
  | nil =>
    intro bs G0 xh hk
    cases hk
    exact ⟨G0, Ext.refl, xh, .nil⟩
  | @cons p q' _ _ a t ih =>
    intro bs G0 xh hk
    cases hk with
    | cons hb hk =>
      obtain ⟨x1, e1⟩ := xh.adopt hb
      obtain ⟨G', e2, x2, rs⟩ := ih x1 hk
      refine ⟨G', e1.trans e2, x2, .cons ?_ rs⟩
      obtain ⟨v, w⟩ := p
      obtain ⟨h1, h2, _⟩ := a
      cases v with
      | tup m => exact .tup (e2.g _ _ upd_same) h2.1 (keysV_rel h1 h2.2)
      | _ => cases h1
theorem list_sim (hc : X.calm = true) (hK : X.K = D.K) : ∃ r, CallR X (.type "list") r ∧ FPrimSim D E (fprimV .list1) r := by
  refine ⟨fun xs H Q => ∃ r', CallR X (.type "list") r' ∧ r' xs H Q, CallR.byCases fun xs H Q q => q, fun G ρ h H args xs Q xh r q => ?_⟩
  cases r with
  | nil => exact q.elim
  | cons r1 r2 =>
    cases r2 with
    | cons _ _ => exact q.elim
    | nil =>
      cases r1 with
      | tup s hl rs => exact ⟨_, call_list_of, _, _, rfl, .inr (.inl (.inl (xh.sub _ _ s))), fun p np => q G ρ H _ Ext.refl xh rs (by rw [rs.length]; exact hl) p np⟩
      | lst s hl rs => exact ⟨_, call_list_of, _, _, rfl, .inl (.inl (.inl (xh.sub _ _ s))), fun p np => q G ρ H _ Ext.refl xh rs (by rw [rs.length]; exact hl) p np⟩
      | scr s hl rs => exact ⟨_, call_list_of, _, _, rfl, .inl (by rw [hK]; exact scr_seq xh.sub s), fun p np => q G ρ H _ Ext.refl xh rs (by rw [rs.length]; exact hl) p np⟩
      | ref hr =>
        obtain ⟨o, u, h1, h2, h3⟩ := xh.at_ hr
        simp only [fprimV, h1] at q
        cases h3 with
        | list rl hl => exact ⟨_, call_list_of, _, _, rfl, .inl (.inl (.inl h2)), fun p np => q G ρ H _ Ext.refl xh rl (by rw [rl.length]; exact hl) p np⟩
        | @dictK l kvs rd =>
          have q' : OkG D E (relL D) G ρ (if l.length ≤ most then R.ok (l.map (·.1)) h else R.no) (newL Q) := q
          refine ⟨_, call_list_dK hc, _, _, rfl, h2, fun p np => ?_⟩
          by_cases hl : l.length ≤ most
          · rw [if_pos hl] at q'
            have rk := dictK_keys (D := D) (G := G) (ρ := ρ) rd
            exact q' G ρ H _ Ext.refl xh rk (by rw [rk.length]; simpa using hl) p np
          · rw [if_neg hl] at q'
            exact False.elim q'
        | @dictT l kvs rd =>
          have q' : OkG D E (relL D) G ρ (if l.length ≤ most then R.ok (l.map (·.1)) h else R.no) (newL Q) := q
          refine ⟨_, call_list_dT hc, _, _, rfl, .inl h2, fun p bs np hk => ?_⟩
          obtain ⟨G', e, x', rs⟩ := dictT_keys rd xh hk
          by_cases hl : l.length ≤ most
          · rw [if_pos hl] at q'
            exact q' G' ρ H _ e x' rs (by rw [rs.length]; simpa using hl) p np
          · rw [if_neg hl] at q'
            exact False.elim q'
        | inst _ => exact q.elim
      | _ => exact q.elim
end
end Sim

end
section
set_option Elab.async false
set_option linter.all false
set_option maxRecDepth 100000
/-! SimSrt: sorting data of any depth of which any two can be compared. -/
namespace Sim
open PySem PySem.Spec PyProof.Rows L2 Ev
open PySem.W (keyToks keyToksAll)

abbrev Sign := Int ⊕ List Nat
abbrev lxL (a b : List Sign) : Bool := PyProof.Rows.lexLt itemOrd a b
/-- how two rows of signs stand, whatever follows them -/
def Tk (o : Ordering) (a b : List Sign) : Prop := match o with
  | .eq => a = b
  | .lt => ∀ l m, lxL (a ++ l) (b ++ m) = true
  | .gt => ∀ l m, lxL (b ++ m) (a ++ l) = true
theorem lx_pre : ∀ (p a b : List Sign), lxL (p ++ a) (p ++ b) = lxL a b
  | [], _, _ => rfl
  | x :: p, a, b => by
    have h := lex_self (O := itemOrd) x (p ++ a) (p ++ b)
    exact h.trans (lx_pre p a b)
theorem lx_ne {p q : Sign} (hne : p ≠ q) (l m : List Sign) : lxL (p :: l) (q :: m) = itemLt p q := lex_diff (O := itemOrd) hne
theorem tk_one {o : Ordering} {p q : Sign} (h : match o with | .eq => p = q | .lt => p ≠ q ∧ itemLt p q = true | .gt => p ≠ q ∧ itemLt q p = true) : Tk o [p] [q] := by
  cases o with
  | eq => show [p] = [q]; rw [h]
  | lt => intro l m; show lxL (p :: l) (q :: m) = true; rw [lx_ne h.1]; exact h.2
  | gt => intro l m; show lxL (q :: m) (p :: l) = true; rw [lx_ne (Ne.symm h.1)]; exact h.2
theorem tk_app {o : Ordering} {a b c d : List Sign} (h1 : Tk .eq a b) (h2 : Tk o c d) : Tk o (a ++ c) (b ++ d) := by
  have h1' : a = b := h1
  subst h1'
  cases o with
  | eq => show a ++ c = a ++ d; rw [h2]
  | lt => intro l m; rw [List.append_assoc, List.append_assoc, lx_pre]; exact h2 l m
  | gt => intro l m; rw [List.append_assoc, List.append_assoc, lx_pre]; exact h2 l m
theorem tk_first {o : Ordering} {a b c d : List Sign} (ho : o ≠ .eq) (h : Tk o a b) : Tk o (a ++ c) (b ++ d) := by
  cases o with
  | eq => exact absurd rfl ho
  | lt => intro l m; rw [List.append_assoc, List.append_assoc]; exact h _ _
  | gt => intro l m; rw [List.append_assoc, List.append_assoc]; exact h _ _
theorem cmpL_eq : ∀ {a b : List Nat}, cmpL a b = .eq → a = b
  | [], [], _ => rfl
  | [], _ :: _, h => by cases h
  | _ :: _, [], h => by cases h
  | x :: xs, y :: ys, h => by
    unfold cmpL at h
    by_cases h1 : x < y
    · rw [if_pos h1] at h; cases h
    · rw [if_neg h1] at h
      by_cases h2 : y < x
      · rw [if_pos h2] at h; cases h
      · rw [if_neg h2] at h
        have : x = y := by omega
        rw [this, cmpL_eq h]
theorem cmpL_self : ∀ a : List Nat, cmpL a a = .eq
  | [] => rfl
  | x :: xs => by unfold cmpL; rw [if_neg (Nat.lt_irrefl _), if_neg (Nat.lt_irrefl _)]; exact cmpL_self xs
theorem cps_inj {x y : Str} (h : x.cps.toList = y.cps.toList) : x = y := by
  obtain ⟨a⟩ := x
  obtain ⟨b⟩ := y
  have : a = b := Array.toList_inj.mp h
  rw [this]
mutual
theorem tk_of : ∀ (x y : Val) (o : Ordering), cmpV x y = some o → Tk o (keyToks (toD x)) (keyToks (toD y))
  | .int i, y, o, h => by
    cases y with
    | int j =>
      simp only [cmpV, Option.some.injEq] at h
      subst h
      simp only [toD, keyToks]
      apply tk_one
      by_cases h1 : i < j
      · rw [if_pos h1]
        exact ⟨fun q => by cases q; omega, by show decide (i < j) = true; exact decide_eq_true h1⟩
      · rw [if_neg h1]
        by_cases h2 : j < i
        · rw [if_pos h2]
          exact ⟨fun q => by cases q; omega, by show decide (j < i) = true; exact decide_eq_true h2⟩
        · rw [if_neg h2]
          show (Sum.inl i : Sign) = Sum.inl j
          rw [show i = j by omega]
    | _ => cases h
  | .str x, y, o, h => by
    cases y with
    | str z =>
      simp only [cmpV, Option.some.injEq] at h
      simp only [toD, keyToks]
      apply tk_one
      have hs := cmpL_swap x.cps.toList z.cps.toList
      have h1 := cmpL_lt x.cps.toList z.cps.toList
      have h2 := cmpL_lt z.cps.toList x.cps.toList
      have hne : o ≠ .eq → (Sum.inr x.cps.toList : Sign) ≠ Sum.inr z.cps.toList := fun ho q => by
        injection q with q
        rw [q, cmpL_self] at h
        exact ho h.symm
      cases o with
      | eq => show (Sum.inr x.cps.toList : Sign) = _; rw [cmpL_eq h]
      | lt =>
        refine ⟨hne (by simp), ?_⟩
        show decide (x.cps.toList < z.cps.toList) = true
        rw [h1, h]; rfl
      | gt =>
        refine ⟨hne (by simp), ?_⟩
        show decide (z.cps.toList < x.cps.toList) = true
        rw [h2, hs, h]; rfl
    | _ => cases h
  | .tup xs, y, o, h => by
    cases y with
    | tup ys =>
      simp only [cmpV] at h
      simp only [toD, keyToks]
      exact tks_of xs ys o h
    | _ => cases h
  | .non, y, o, h => by
    cases y with
    | non => cases h; rfl
    | _ => cases h
  | .bl a, y, o, h => by
    cases y with
    | bl b =>
      simp only [cmpV] at h
      split at h
      · rename_i e
        subst e
        cases h
        rfl
      · cases h
    | _ => cases h
  | .lst _, y, o, h => by cases y <;> cases h
  | .ktp _, y, o, h => by cases y <;> cases h
  | .scr _, y, o, h => by cases y <;> cases h
  | .ref _, y, o, h => by cases y <;> cases h
  | .gl _, y, o, h => by cases y <;> cases h
theorem tks_of : ∀ (xs ys : List Val) (o : Ordering), cmpVs xs ys = some o → Tk o (keyToksAll (toDs xs)) (keyToksAll (toDs ys))
  | [], [], o, h => by cases h; rfl
  | [], y :: ys, o, h => by
    cases h
    intro l m
    simp only [toDs, keyToksAll, List.cons_append, List.nil_append]
    rw [lx_ne (by simp)]
    rfl
  | x :: xs, [], o, h => by
    cases h
    intro l m
    simp only [toDs, keyToksAll, List.cons_append, List.nil_append]
    rw [lx_ne (by simp)]
    rfl
  | x :: xs, y :: ys, o, h => by
    simp only [toDs, keyToksAll]
    have e1 : ∀ (a b : List Sign), (Sum.inl 1 : Sign) :: (a ++ b) = [Sum.inl 1] ++ (a ++ b) := fun _ _ => rfl
    rw [e1, e1]
    refine tk_app rfl ?_
    simp only [cmpVs] at h
    cases hc : cmpV x y with
    | none => rw [hc] at h; cases h
    | some c =>
      rw [hc] at h
      have hx := tk_of x y c hc
      cases c with
      | eq => exact tk_app hx (tks_of xs ys o h)
      | lt => cases h; exact tk_first (by simp) hx
      | gt => cases h; exact tk_first (by simp) hx
end
mutual
theorem cmp_eqv : ∀ (x y : Val) (o : Ordering), cmpV x y = some o → PyData.eqv (toD x) (toD y) = (o == .eq)
  | .int i, y, o, h => by
    cases y with
    | int j =>
      simp only [cmpV, Option.some.injEq] at h
      subst h
      simp only [toD, PyData.eqv]
      by_cases h1 : i < j
      · rw [if_pos h1]
        have : (i == j) = false := by simp; omega
        rw [this]; rfl
      · rw [if_neg h1]
        by_cases h2 : j < i
        · rw [if_pos h2]
          have : (i == j) = false := by simp; omega
          rw [this]; rfl
        · rw [if_neg h2]
          have : (i == j) = true := by simp; omega
          rw [this]; rfl
    | _ => cases h
  | .str x, y, o, h => by
    cases y with
    | str z =>
      simp only [cmpV, Option.some.injEq] at h
      simp only [toD, PyData.eqv]
      by_cases e : x = z
      · subst e
        rw [cmpL_self] at h
        subst h
        simp
      · have : (x == z) = false := by simpa using e
        rw [this]
        cases o with
        | eq => exact absurd (cps_inj (cmpL_eq h)) e
        | lt => rfl
        | gt => rfl
    | _ => cases h
  | .tup xs, y, o, h => by
    cases y with
    | tup ys =>
      simp only [cmpV] at h
      simp only [toD, PyData.eqv]
      exact cmps_eqv xs ys o h
    | _ => cases h
  | .non, y, o, h => by
    cases y with
    | non => cases h; simp [toD, PyData.eqv]
    | _ => cases h
  | .bl a, y, o, h => by
    cases y with
    | bl b =>
      simp only [cmpV] at h
      split at h
      · rename_i e
        subst e
        cases h
        simp [toD, PyData.eqv]
      · cases h
    | _ => cases h
  | .lst _, y, o, h => by cases y <;> cases h
  | .ktp _, y, o, h => by cases y <;> cases h
  | .scr _, y, o, h => by cases y <;> cases h
  | .ref _, y, o, h => by cases y <;> cases h
  | .gl _, y, o, h => by cases y <;> cases h
theorem cmps_eqv : ∀ (xs ys : List Val) (o : Ordering), cmpVs xs ys = some o → PyData.eqvAll (toDs xs) (toDs ys) = (o == .eq)
  | [], [], o, h => by cases h; simp [toDs, PyData.eqvAll]
  | [], y :: ys, o, h => by cases h; simp [toDs, PyData.eqvAll]
  | x :: xs, [], o, h => by cases h; simp [toDs, PyData.eqvAll]
  | x :: xs, y :: ys, o, h => by
    simp only [toDs, PyData.eqvAll]
    simp only [cmpVs] at h
    cases hc : cmpV x y with
    | none => rw [hc] at h; cases h
    | some c =>
      rw [hc] at h
      rw [cmp_eqv x y c hc]
      cases c with
      | eq => simpa using cmps_eqv xs ys o h
      | lt => cases h; rfl
      | gt => cases h; rfl
end
/-- the order of signs says what the comparison says -/
theorem tk_lt {o : Ordering} {a b : List Sign} (h : Tk o a b) : lxL a b = (o == .lt) := by
  cases o with
  | eq => have h' : a = b := h; rw [h']; exact lex_irrefl (O := itemOrd) b
  | lt => have := h [] []; simpa using this
  | gt =>
    have h1 := h [] []
    simp only [List.append_nil] at h1
    cases q : lxL a b with
    | false => rfl
    | true =>
      have : lxL a a = true := lex_trans (O := itemOrd) a b a q h1
      rw [show lxL a a = false from lex_irrefl (O := itemOrd) a] at this
      cases this
end Sim

end
section
set_option Elab.async false
set_option linter.all false
set_option maxRecDepth 100000
/-! SimLt: < of two tuples: the first pair that differs decides, and behind it nothing is asked. -/
namespace Sim
open PySem PySem.SeqAt
open MeetsSeq MeetsSeq2 MeetsSeq3 SeqRoads2 AutoSeq1

/-- the row's first unlike pair decides: k; without one: fin -/
def LtRow (A : Around) (s : Shared) (fin k : Bool) : List (Value × Value) → Prop
  | [] => k = fin
  | (p, q) :: r => ∃ e : Bool, EqAt A s p q e ∧ (e = true → LtRow A s fin k r) ∧ (e = false → RcLt A s p q k)


theorem tup_lt (l b : Addr) (xs ys : Array Value) (n m : Nat) (dl db : Option Addr) (sl sb : Array (Option Value)) (k : Bool) :
    Meets (Builtin.«tuple.__lt__» ⟨[.ref l, .ref b], []⟩) (fun A R s =>
      s.heap.get? l = some ⟨.type "tuple", dl, .seq xs n, sl⟩ ∧ s.heap.get? b = some ⟨.type "tuple", db, .seq ys m, sb⟩ ∧
      LtRow A.in1 s (decide (xs.size < ys.size)) k (xs.toList.zip ys.toList) ∧ R (.ok (.ret (.bool k))) s) := .of_wp fun prog w A R s hyp => by
  obtain ⟨hp, gs, dr, tk, os⟩ := s
  obtain ⟨hl, hb, hrow, hR⟩ := hyp
  have sub := AutoSeq1.sub_tuple_tuple
  wp_walk using wpAny_loadPart' hl, wpAny_loadPart' hb, wpAny_forIn_list _ (fun rest acc s' => acc.1 = none ∧ s' = ⟨hp, gs, dr, tk, os⟩ ∧ LtRow A.in1 ⟨hp, gs, dr, tk, os⟩ (decide (xs.size < ys.size)) k rest) _
  case turn =>
    rintro ⟨p, q⟩ rest acc s' ⟨h0, rfl, e, he, ht, hf⟩
    refine wpAny_bind (he prog w _ _ ?_)
    cases e with
    | true =>
      wp_walk
      exact ⟨rfl, rfl, ht rfl⟩
    | false =>
      simp only [Bool.not_false, if_true]
      refine wpAny_bind (wpAny_rule (wpAny_bind (hf rfl prog w _ _ ?_)))
      wp_walk
      exact ⟨_, rfl, hR⟩
  case fin =>
    rintro ⟨b1, b2⟩ s' ⟨h0, rfl, hk⟩
    simp only at h0
    subst h0
    have hk' : k = decide (xs.size < ys.size) := hk
    subst hk'
    wp_walk
    exact ⟨_, rfl, by simpa [Builtin.Tuple.tupleCompareSizes] using hR⟩
  case h => exact ⟨rfl, rfl, hrow⟩
theorem lt_tuples {A : Around} {s : Shared} {l b : Addr} {xs ys : Array Value} {k : Bool} (hl : s.heap.IsTuple l xs) (hb : s.heap.IsTuple b ys) (hu : A.units < cLine)
    (hrow : LtRow A.in1 s (decide (xs.size < ys.size)) k (xs.toList.zip ys.toList)) : RcLt A s (.ref l) (.ref b) k := by
  intro prog w E Q hq
  obtain ⟨⟨c1, d1, t1, s1⟩, o1, rfl, n, rfl⟩ := id hl
  obtain ⟨⟨c2, d2, t2, s2⟩, o2, rfl, m, rfl⟩ := id hb
  exact richCompare_meets_room (op := .Lt) ⟨_, o1, rfl⟩ ⟨_, o2, rfl⟩ F.slot_tuple_lt F.entry_tuple_lt (F.args_tuple_lt_2 _ _) (tup_lt l b xs ys n m d1 d2 s1 s2 k) ⟨o1, o2, hrow, fun z => (nomatch z), hq⟩ hu
end Sim

end
section
set_option Elab.async false
set_option linter.all false
set_option maxRecDepth 100000
/-! SimLt2: < of data, as sorting asks it. -/
namespace Sim
open PySem PySem.Spec PyProof.Rows L2 Ev PySem.SeqAt
open PySem.W (keyToks keyToksAll)

theorem toDs_length : ∀ l : List Val, (toDs l).length = l.length
  | [] => rfl
  | _ :: xs => by simp [toDs, toDs_length xs]
theorem in1_units (A : Around) : A.in1.units = A.units + 1 := by first | rfl | simp [Around.in1]
mutual
theorem rc_cmp : ∀ (x y : Val) (o : Ordering) (A : Around) (s : Shared) (a b : Value) (as bs : List Addr), Reads s.heap a (toD x) as → Reads s.heap b (toD y) bs → cmpV x y = some o → o ≠ .eq →
    (toD x).canLay0 = true → (toD y).canLay0 = true → A.units + min (toD x).depth (toD y).depth < cLine → RcLt A s a b (o == .lt)
  | .int i, y, o, A, s, a, b, as, bs, ra, rb, h, ho, _, _, _ => by
    cases y with
    | int j =>
      simp only [toD] at ra rb
      cases ra
      cases rb
      simp only [cmpV, Option.some.injEq] at h
      intro prog w E Q hq
      refine P.lt_int ?_
      subst h
      by_cases h1 : i < j
      · simp only [h1, if_true] at hq ⊢; exact hq
      · by_cases h2 : j < i
        · simp only [h1, h2, if_true, if_false] at hq ⊢; exact hq
        · simp only [h1, h2, if_false] at ho; exact absurd rfl ho
    | _ => cases h
  | .str x, y, o, A, s, a, b, as, bs, ra, rb, h, ho, _, _, _ => by
    cases y with
    | str z =>
      simp only [toD] at ra rb
      cases ra
      cases rb
      simp only [cmpV, Option.some.injEq] at h
      intro prog w E Q hq
      refine P.lt_str ?_
      rw [cmpL_lt, h]
      exact hq
    | _ => cases h
  | .tup xs, y, o, A, s, a, b, as, bs, ra, rb, h, ho, ca, cb, hu => by
    cases y with
    | tup ys =>
      simp only [toD] at ra rb ca cb hu
      simp only [cmpV] at h
      simp only [PyData.canLay0] at ca cb
      simp only [PyData.depth] at hu
      cases ra with
      | @tuple l o1 vs n _ _ h1 h2 h3 h4 =>
        cases rb with
        | @tuple l' o2 ws n' _ _ k1 k2 k3 k4 =>
          have n1 : vs.size = xs.length := by have := ReadsAll.length _ _ _ h4; simpa [toDs_length] using this
          have n2 : ws.size = ys.length := by have := ReadsAll.length _ _ _ k4; simpa [toDs_length] using this
          refine lt_tuples ⟨_, h1, h2, _, h3⟩ ⟨_, k1, k2, _, k3⟩ (by omega) ?_
          rw [n1, n2]
          exact row_cmp xs ys o A.in1 s _ _ _ _ h4 k4 h ca cb (by rw [in1_units]; omega)
    | _ => cases h
  | .non, y, o, _, _, _, _, _, _, _, _, h, ho, _, _, _ => by
    cases y with
    | non => cases h; exact absurd rfl ho
    | _ => cases h
  | .bl a, y, o, _, _, _, _, _, _, _, _, h, ho, _, _, _ => by
    cases y with
    | bl b =>
      simp only [cmpV] at h
      split at h
      · cases h; exact absurd rfl ho
      · cases h
    | _ => cases h
  | .lst _, y, o, _, _, _, _, _, _, _, _, h, _, _, _, _ => by cases y <;> cases h
  | .ktp _, y, o, _, _, _, _, _, _, _, _, h, _, _, _, _ => by cases y <;> cases h
  | .scr _, y, o, _, _, _, _, _, _, _, _, h, _, _, _, _ => by cases y <;> cases h
  | .ref _, y, o, _, _, _, _, _, _, _, _, h, _, _, _, _ => by cases y <;> cases h
  | .gl _, y, o, _, _, _, _, _, _, _, _, h, _, _, _, _ => by cases y <;> cases h
theorem row_cmp : ∀ (xs ys : List Val) (o : Ordering) (A : Around) (s : Shared) (vs ws : List Value) (as bs : List Addr), ReadsAll s.heap vs (toDs xs) as → ReadsAll s.heap ws (toDs ys) bs → cmpVs xs ys = some o →
    PyData.canLayAll0 (toDs xs) = true → PyData.canLayAll0 (toDs ys) = true → A.units + min (PyData.depthAll (toDs xs)) (PyData.depthAll (toDs ys)) < cLine → LtRow A s (decide (xs.length < ys.length)) (o == .lt) (vs.zip ws)
  | [], [], o, A, s, vs, ws, as, bs, ra, rb, h, _, _, _ => by
    cases ra; cases rb; cases h; rfl
  | [], y :: ys, o, A, s, vs, ws, as, bs, ra, rb, h, _, _, _ => by
    cases ra; cases h
    show (_ : Bool) = _
    simp
  | x :: xs, [], o, A, s, vs, ws, as, bs, ra, rb, h, _, _, _ => by
    cases rb; cases h
    rw [List.zip_nil_right]
    show (_ : Bool) = _
    simp
  | x :: xs, y :: ys, o, A, s, vs, ws, as, bs, ra, rb, h, ca, cb, hu => by
    simp only [toDs] at ra rb ca cb hu
    simp only [PyData.canLayAll0, Bool.and_eq_true] at ca cb
    simp only [PyData.depthAll] at hu
    cases ra with
    | cons r rs =>
      cases rb with
      | cons r' rs' =>
        simp only [cmpVs] at h
        cases hc : cmpV x y with
        | none => rw [hc] at h; cases h
        | some c =>
          rw [hc] at h
          rw [List.zip_cons_cons]
          have hfin : decide ((x :: xs).length < (y :: ys).length) = decide (xs.length < ys.length) := by simp
          rw [hfin]
          refine ⟨c == .eq, ?_, fun he => ?_, fun he => ?_⟩
          · rw [← cmp_eqv x y c hc]
            exact eqAt_reads _ _ A s _ _ _ _ r r' ca.1 cb.1 (by omega)
          · cases c with
            | eq => exact row_cmp xs ys o A s _ _ _ _ rs rs' h ca.2 cb.2 (by omega)
            | lt => cases he
            | gt => cases he
          · have hne : c ≠ .eq := fun q => by subst q; cases he
            have : o = c := by
              cases c with
              | eq => exact absurd rfl hne
              | lt => cases h; rfl
              | gt => cases h; rfl
            subst this
            exact rc_cmp x y o A s _ _ _ _ r r' hc hne ca.1 cb.1 (by omega)
end
end Sim

end
section
set_option Elab.async false
set_option linter.all false
set_option maxRecDepth 100000
/-! SimLt3: sorted(..) at the level of the model. -/
namespace Sim
open PySem PySem.Spec PySem.Calls PyProof.Rows L2 Ev PySem.SeqAt
open PySem.W (keyToks keyToksAll SortsAt KatLex kat_cons kat_yes kat_no kat_nil kat_go kat_lt kat_kind kas_kind EachIs KatTups)

section
variable {prog : Program} {w : World} {A : Around} {E : Value → Shared → Prop} {s : Shared}
/-- one against another, as the sort asks -/
theorem one_cmp {f : Bool} {x y : Val} {o : Ordering} {a b : Value} {as bs : List Addr} {Q : Bool → Shared → Prop} (hf : f = true → tagV x ≠ 3) (ra : Reads s.heap a (toD x) as) (rb : Reads s.heap b (toD y) bs) (h : cmpV x y = some o) (ho : o ≠ .eq ∨ tagV x = 1 ∨ tagV x = 2)
    (ca : (toD x).canLay0 = true) (cb : (toD y).canLay0 = true) (hu : A.units + min (toD x).depth (toD y).depth < cLine) (hq : Q (o == .lt) s) : wpAny (model prog w) A (oneLt' f a b) Q E s := by
  cases f with
  | true =>
    cases x with
    | int i =>
      cases y with
      | int j =>
        simp only [toD] at ra rb
        cases ra
        cases rb
        simp only [cmpV, Option.some.injEq] at h
        refine oneLt_int ?_
        subst h
        by_cases h1 : i < j
        · simp only [h1, if_true] at hq ⊢; exact hq
        · by_cases h2 : j < i
          · simp only [h1, h2, if_true, if_false] at hq ⊢; exact hq
          · simp only [h1, h2, if_false] at hq ⊢; exact hq
      | _ => cases h
    | str z =>
      cases y with
      | str z' =>
        simp only [toD] at ra rb
        cases ra
        cases rb
        simp only [cmpV, Option.some.injEq] at h
        refine oneLt_str ?_
        rw [cmpL_lt, h]
        exact hq
      | _ => cases h
    | tup _ => exact absurd rfl (hf rfl)
    | non =>
      cases y <;> cases h
      rcases ho with ho | ho | ho
      · exact absurd rfl ho
      · cases ho
      · cases ho
    | bl c =>
      rcases ho with ho | ho | ho
      · cases y with
        | bl d =>
          simp only [cmpV] at h
          split at h
          · cases h; exact absurd rfl ho
          · cases h
        | _ => cases h
      · cases ho
      · cases ho
    | _ => cases y <;> cases h
  | false =>
    by_cases he : o = .eq
    · rcases ho with ho | ho
      · exact absurd he ho
      · -- equal ints or texts: their own <
        rw [oneLt'_eq]
        simp only [Bool.false_eq_true, if_false]
        cases x with
        | int i =>
          cases y with
          | int j =>
            simp only [toD] at ra rb
            cases ra
            cases rb
            simp only [cmpV, Option.some.injEq] at h
            refine wpAny_bind (P.lt_int (wpAny_truthy_bool ?_))
            subst h
            by_cases h1 : i < j
            · simp only [h1, if_true] at hq ⊢; exact hq
            · by_cases h2 : j < i
              · simp only [h1, h2, if_true, if_false] at hq ⊢; exact hq
              · simp only [h1, h2, if_false] at hq ⊢; exact hq
          | _ => cases h
        | str z =>
          cases y with
          | str z' =>
            simp only [toD] at ra rb
            cases ra
            cases rb
            simp only [cmpV, Option.some.injEq] at h
            refine wpAny_bind (P.lt_str (wpAny_truthy_bool ?_))
            rw [cmpL_lt, h]
            exact hq
          | _ => cases h
        | _ => rcases ho with ho | ho <;> cases ho
    · rw [oneLt'_eq]
      simp only [Bool.false_eq_true, if_false]
      exact wpAny_bind (rc_cmp x y o A s a b as bs ra rb h he ca cb hu prog w E _ (wpAny_truthy_bool hq))
/-- two tuples, item by item -/
theorem kat_cmp {f fin : Bool} {Q : Bool → Shared → Prop} : ∀ (xs ys : List Val) (o : Ordering) (i : Nat) (vs ws : List Value) (as bs : List Addr), ReadsAll s.heap vs (toDs xs) as → ReadsAll s.heap ws (toDs ys) bs → cmpVs xs ys = some o →
    PyData.canLayAll0 (toDs xs) = true → PyData.canLayAll0 (toDs ys) = true → A.units + min (PyData.depthAll (toDs xs)) (PyData.depthAll (toDs ys)) < cLine → (f = true → i = 0 → ∀ x r, xs = x :: r → tagV x ≠ 3) → fin = decide (xs.length < ys.length) → Q (o == .lt) s → KatLex prog w A f fin Q (vs.zip ws) i s
  | [], [], o, i, vs, ws, as, bs, ra, rb, h, _, _, _, _, hf, hq => by
    cases ra; cases rb; cases h
    rw [hf]
    exact kat_nil hq
  | [], y :: ys, o, i, vs, ws, as, bs, ra, rb, h, _, _, _, _, hf, hq => by
    cases ra; cases h
    rw [List.zip_nil_left, hf]
    exact kat_nil (by simpa using hq)
  | x :: xs, [], o, i, vs, ws, as, bs, ra, rb, h, _, _, _, _, hf, hq => by
    cases rb; cases h
    rw [List.zip_nil_right, hf]
    exact kat_nil (by simpa using hq)
  | x :: xs, y :: ys, o, i, vs, ws, as, bs, ra, rb, h, ca, cb, hu, hb, hf, hq => by
    simp only [toDs] at ra rb ca cb hu
    simp only [PyData.canLayAll0, Bool.and_eq_true] at ca cb
    simp only [PyData.depthAll] at hu
    have hf' : fin = decide (xs.length < ys.length) := by rw [hf]; simp
    cases ra with
    | cons r rs =>
      cases rb with
      | cons r' rs' =>
        simp only [cmpVs] at h
        cases hc : cmpV x y with
        | none => rw [hc] at h; cases h
        | some c =>
          rw [hc] at h
          rw [List.zip_cons_cons]
          refine kat_cons (eqAt_reads _ _ A s _ _ _ _ r r' ca.1 cb.1 (by omega) prog w _ _ ?_)
          rw [cmp_eqv x y c hc]
          by_cases he : c = .eq
          · subst he
            exact kat_yes (kat_cmp xs ys o (i + 1) _ _ _ _ rs rs' h ca.2 cb.2 (by omega) (fun _ hi => absurd hi (Nat.succ_ne_zero i)) hf' hq)
          · have e1 : (c == .eq) = false := by cases c <;> first | rfl | exact absurd rfl he
            rw [e1]
            have : o = c := by
              cases c with
              | eq => exact absurd rfl he
              | lt => cases h; rfl
              | gt => cases h; rfl
            subst this
            refine kat_no (one_cmp (fun hfi => ?_) r r' hc (.inl he) ca.1 cb.1 (by omega) hq)
            rw [Bool.and_eq_true] at hfi
            exact hb hfi.1 (by simpa using hfi.2) x xs rfl
end
end Sim

end
section
set_option Elab.async false
set_option linter.all false
set_option maxRecDepth 100000
/-! SimLt4: a list of the evaluator's values sorted by the model. -/
namespace Sim
open PySem PySem.Spec PySem.Calls PyProof.Rows L2 Ev PySem.SeqAt
open PySem.W (keyToks keyToksAll SortsAt KatLex kat_cons kat_yes kat_no kat_nil kat_go kat_lt kat_kind kas_kind EachIs KatTups sortVals sortVals_each sortVals_length sortLe sorted_vals)

theorem sortable_parts {l : List Val} (h : sortable l = true) : (∀ x ∈ l, ∀ y ∈ l, ∃ o, cmpV x y = some o) ∧ ((∀ x ∈ l, tagV x = 1) ∨ (∀ x ∈ l, tagV x = 2) ∨ ∃ t, (t = 1 ∨ t = 2 ∨ t = 3) ∧ ∀ x ∈ l, tagF x = t) ∧ areData 20 l = true := by
  unfold sortable at h
  simp only [Bool.and_eq_true] at h
  obtain ⟨⟨h1, h2⟩, h3⟩ := h
  refine ⟨fun x hx y hy => ?_, ?_, h3⟩
  · unfold comparable at h1
    exact Option.isSome_iff_exists.mp (List.all_eq_true.mp (List.all_eq_true.mp h1 x hx) y hy)
  · simp only [Bool.or_eq_true] at h2
    have key : ∀ {f : Val → Nat} {t : Nat}, (l.all fun x => f x == t) = true → ∀ x ∈ l, f x = t := fun {f t} h x hx => by
      have := List.all_eq_true.mp h x hx
      simpa using this
    rcases h2 with (((h2 | h2) | h2) | h2) | h2
    · exact .inl (key h2)
    · exact .inr (.inl (key h2))
    · exact .inr (.inr ⟨1, by simp, key h2⟩)
    · exact .inr (.inr ⟨2, by simp, key h2⟩)
    · exact .inr (.inr ⟨3, by simp, key h2⟩)
noncomputable def keyK (h : Heap) (l : List Val) : PyProof.Rows.KeyKind where
  toKeyOrd := listOrd itemOrd
  keyOf v := open Classical in if q : ∃ x, x ∈ l ∧ ∃ as, Reads h v (toD x) as then some (keyToks (toD q.choose)) else none
  dflt := ([] : List Sign)
theorem keyK_some {h : Heap} {l : List Val} {v : Value} {x : Val} {as : List Addr} (hx : x ∈ l) (r : Reads h v (toD x) as) : (keyK h l).keyOf v = some (keyToks (toD x)) := by
  have q : ∃ x, x ∈ l ∧ ∃ as, Reads h v (toD x) as := ⟨x, hx, as, r⟩
  show (open Classical in if q : ∃ x, x ∈ l ∧ ∃ as, Reads h v (toD x) as then some (keyToks (toD q.choose)) else none) = _
  rw [dif_pos q]
  obtain ⟨_, as', r'⟩ := q.choose_spec
  rw [(PySem.Reads.unique r' _ _ r).1]
theorem keyK_inv {h : Heap} {l : List Val} {v : Value} {k : List Sign} (e : (keyK h l).keyOf v = some k) : ∃ x as, x ∈ l ∧ Reads h v (toD x) as ∧ k = keyToks (toD x) := by
  have e' : (open Classical in if q : ∃ x, x ∈ l ∧ ∃ as, Reads h v (toD x) as then some (keyToks (toD q.choose)) else none) = some k := e
  by_cases q : ∃ x, x ∈ l ∧ ∃ as, Reads h v (toD x) as
  · rw [dif_pos q] at e'
    obtain ⟨h1, as, h2⟩ := q.choose_spec
    exact ⟨_, as, h1, h2, (Option.some.inj e').symm⟩
  · rw [dif_neg q] at e'
    cases e'
/-- the class of what a datum begins with -/
def tyTag (t : Nat) : Value := if t = 1 then .type "int" else if t = 2 then .type "str" else .type "tuple"
theorem looks_tag {M : Model} {h : Heap} {v : Value} {x : Val} {as : List Addr} {t : Nat} (ht : t = 1 ∨ t = 2 ∨ t = 3) (hx : tagV x = t) (r : Reads h v (toD x) as) : PySem.W.Looks M h (typeOf v) (tyTag t) := by
  have := PySem.W.looks_reads (M := M) r
  cases x with
  | int i => cases hx; exact this
  | str i => cases hx; exact this
  | tup i => cases hx; exact this
  | _ => cases hx; rcases ht with ht | ht | ht <;> cases ht

section
variable {prog : Program} {w : World} {A : Around} {E : Value → Shared → Prop} {s : Shared}
theorem each_firsts {t : Nat} (ht : t = 1 ∨ t = 2 ∨ t = 3) {h : Heap} : ∀ {vs : List Value} {l : List Val}, EachIs (fun v x => ∃ as, Reads h v (toD x) as) vs l → (∀ x ∈ l, tagF x = t) → ∃ fs, KatTups h vs fs ∧ fs.length = vs.length ∧ ∀ f ∈ fs, ∃ x as, tagV x = t ∧ Reads h f (toD x) as
  | _, _, .nil, _ => ⟨[], KatTups.nil, rfl, fun f hf => absurd hf (by simp)⟩
  | _, _, .cons (b := d) ⟨as, r⟩ rest, hl => by
    obtain ⟨fs, h1, h2, h3⟩ := each_firsts ht rest fun x hx => hl x (List.mem_cons_of_mem _ hx)
    have hd := hl d (List.mem_cons_self ..)
    cases d with
    | tup m =>
      cases m with
      | nil => simp only [tagF] at hd; subst hd; rcases ht with ht | ht | ht <;> cases ht
      | cons x m =>
        simp only [toD, toDs] at r
        cases r with
        | @tuple a o xs n _ _ ho hc hdt hr =>
          cases q : xs.toList with
          | nil => rw [q] at hr; cases hr
          | cons f fr =>
            rw [q] at hr
            cases hr with
            | cons r1 r2 =>
              have hf : xs[0]? = some f := by rw [← Array.getElem?_toList, q]; rfl
              refine ⟨f :: fs, KatTups.cons ho hc hdt hf h1, by simp [h2], fun g hg => ?_⟩
              rcases List.mem_cons.mp hg with rfl | hg
              · exact ⟨x, _, hd, r1⟩
              · exact h3 g hg
    | _ => simp only [tagF] at hd; subst hd; rcases ht with ht | ht | ht <;> cases ht
theorem sorts_at {vs : List Value} {l : List Val} (e : EachIs (fun v x => ∃ as, Reads s.heap v (toD x) as) vs l) (hs : sortable l = true) (hc : ∀ x ∈ l, (toD x).canLay0 = true) (hu : ∀ x ∈ l, A.units + (toD x).depth < cLine) :
    SortsAt prog w A s (keyK s.heap l) vs := by
  obtain ⟨h1, h2, _⟩ := sortable_parts hs
  refine ⟨fun v hv => ?_, ?_⟩
  · obtain ⟨x, hx, as, r⟩ := e.left v hv
    exact ⟨_, keyK_some hx r⟩
  · have flat : ∀ t, (t = 1 ∨ t = 2) → (∀ x ∈ l, tagV x = t) → ∃ kd : SortKind, PyProof.Rows.H.LtAt prog w A s (keyK s.heap l) kd ∧ (2 ≤ vs.length → ∀ (E : Value → Shared → Prop) {Q : SortKind → Shared → Prop}, Q kd s → wpAny (model prog w) A (keyKind' vs.toArray) Q E s) := by
      intro t ht hl
      refine ⟨oneType', ?_, fun h2 E Q hq => ?_⟩
      · intro E x y a b Q ha hb hq
        obtain ⟨u, as, hu1, ru, rfl⟩ := keyK_inv ha
        obtain ⟨v, bs, hv1, rv, rfl⟩ := keyK_inv hb
        obtain ⟨o, ho⟩ := h1 u hu1 v hv1
        rw [keyLt'_oneType]
        refine one_cmp (fun _ => ?_) ru rv ho (.inr ?_) (hc u hu1) (hc v hv1) (by have := hu u hu1; omega) ?_
        · rw [hl u hu1]; rcases ht with rfl | rfl <;> decide
        · rw [hl u hu1]; exact ht
        · have := tk_lt (tk_of u v o ho)
          rw [← this]
          exact hq
      · refine kas_kind (T := tyTag t) h2 (fun v hv => ?_) (by rcases ht with rfl | rfl <;> decide) (beq_self_eq_true _) hq
        obtain ⟨x, hx, as, r⟩ := e.left v hv
        exact looks_tag (ht.elim .inl fun q => .inr (.inl q)) (hl x hx) r
    rcases h2 with h2 | h2 | ⟨t, ht, h2⟩
    · exact flat 1 (.inl rfl) h2
    · exact flat 2 (.inr rfl) h2
    · refine ⟨tuples' (tyTag t != Value.type "tuple"), ?_, fun hlen E Q hq => ?_⟩
      · intro E x y a b Q ha hb hq
        obtain ⟨u, as, hu1, ru, rfl⟩ := keyK_inv ha
        obtain ⟨v, bs, hv1, rv, rfl⟩ := keyK_inv hb
        obtain ⟨o, ho⟩ := h1 u hu1 v hv1
        have hq' : Q (o == .lt) s := by
          rw [← tk_lt (tk_of u v o ho)]
          exact hq
        have cu := hc u hu1
        have cv := hc v hv1
        have du := hu u hu1
        have tu := h2 u hu1
        have tv := h2 v hv1
        cases u with
        | tup xs =>
          cases v with
          | tup ys =>
            simp only [toD] at ru rv cu cv du
            simp only [PyData.canLay0] at cu cv
            simp only [PyData.depth] at du
            simp only [cmpV] at ho
            cases ru with
            | @tuple p1 o1 us n1 _ _ a1 a2 a3 a4 =>
              cases rv with
              | @tuple p2 o2 ws n2 _ _ b1 b2 b3 b4 =>
                have l1 : us.size = xs.length := by have := ReadsAll.length _ _ _ a4; simpa [toDs_length] using this
                have l2 : ws.size = ys.length := by have := ReadsAll.length _ _ _ b4; simpa [toDs_length] using this
                refine kat_lt a1 a3 b1 b3 (kat_cmp xs ys o 0 _ _ _ _ a4 b4 ho cu cv (by omega) (fun hb _ x r ex => ?_) (by rw [l1, l2]) hq')
                subst ex
                have tu' : tagV x = t := tu
                rw [tu']
                intro z
                subst z
                revert hb
                decide
          | _ => simp only [tagF] at tv; subst tv; rcases ht with ht | ht | ht <;> cases ht
        | _ => simp only [tagF] at tu; subst tu; rcases ht with ht | ht | ht <;> cases ht
      · obtain ⟨fs, t1, t2, t3⟩ := each_firsts ht e h2
        refine kat_kind (T := tyTag t) t1 (by omega) (fun f hf => ?_) (beq_self_eq_true _) hq
        obtain ⟨x, as, m1, m2⟩ := t3 f hf
        exact looks_tag ht m1 m2
/-- the order -/
theorem le_toks {x y : Val} {o : Ordering} (h : cmpV x y = some o) : sortLe (listOrd itemOrd) false (fun b => keyToks (toD b)) x y = leV x y := by
  show (!lxL (keyToks (toD y)) (keyToks (toD x))) = (cmpV x y != some .gt)
  rw [h]
  have hk := tk_of x y o h
  cases o with
  | eq =>
    have h' : keyToks (toD x) = keyToks (toD y) := hk
    rw [h', show lxL (keyToks (toD y)) (keyToks (toD y)) = false from PyProof.Rows.lex_irrefl (O := itemOrd) _]
    rfl
  | lt =>
    have h1 := tk_lt hk
    cases q : lxL (keyToks (toD y)) (keyToks (toD x)) with
    | false => rfl
    | true =>
      have h2 : lxL (keyToks (toD x)) (keyToks (toD x)) = true := PyProof.Rows.lex_trans (O := itemOrd) _ _ _ h1 q
      rw [show lxL (keyToks (toD x)) (keyToks (toD x)) = false from PyProof.Rows.lex_irrefl (O := itemOrd) _] at h2
      cases h2
  | gt =>
    have h1 := hk [] []
    simp only [List.append_nil] at h1
    rw [h1]
    rfl
theorem srt_eq {l : List Val} (hs : sortable l = true) : l.mergeSort (sortLe (listOrd itemOrd) false fun b => keyToks (toD b)) = sortV l :=
  PySem.W.sort_congr fun a ha b hb => by
    obtain ⟨o, ho⟩ := (sortable_parts hs).1 a ha b hb
    exact le_toks ho
/-- sorted(l) -/
theorem srt_call {R : Value → Val → Prop} {p : Addr} {vs : List Value} {l : List Val} {Q : Value → Shared → Prop} (hl : s.heap.IsList p vs.toArray) (e : EachIs R vs l) (er : EachIs (fun v x => ∃ as, Reads s.heap v (toD x) as) vs l) (hs : sortable l = true)
    (hc : ∀ x ∈ l, (toD x).canLay0 = true) (hu : ∀ x ∈ l, A.units + 2 + (toD x).depth < cLine) (hz : vs.length ≤ sizeLine)
    (h : ∀ out, EachIs R out (sortV l) → Q (.ref (s.heap.objs.size + 1)) { s with heap := sortedAll s.heap vs (List.toArray out) }) :
    wpAny (model prog w) A (call (.builtin "sorted") [.ref p]) Q E s := by
  have er' : EachIs (fun v x => ∃ as, Reads (PySem.W.sortingHeap (PySem.W.copyHeap s.heap vs) (s.heap.objs.size + 1) vs) v (toD x) as) vs l := er.mono fun _ _ ⟨as, r⟩ => ⟨as, PyProof.Rows.Reads.keeps (fun _ _ => PySem.W.sorting_copy_old) r⟩
  have S := sorts_at (prog := prog) (w := w) (A := A.in1.in1) (s := { s with heap := PySem.W.sortingHeap (PySem.W.copyHeap s.heap vs) (s.heap.objs.size + 1) vs }) er' hs hc (fun x hx => by rw [in1_units, in1_units]; have := hu x hx; omega)
  refine sorted_vals hl S hz (h _ ?_)
  rw [← srt_eq hs]
  exact sortVals_each (κ := keyK _ l) (fun b => keyToks (toD b)) e ((PySem.W.each_mem er').mono fun v x ⟨⟨as, r⟩, hx⟩ => keyK_some hx r)
end
end Sim

end
section
set_option Elab.async false
set_option linter.all false
set_option maxRecDepth 100000
/-! SimLt5: sorted(..) as an expression. -/
namespace Sim
open PySem PySem.Spec PyProof.Rows L2 Ev
open PySem.W (EachIs)

section
variable {D : Wd} {n k : Nat} {E : XK} {N : List Str} {sc : Scope} {X : Cx} {ee : Expr} {G : Hp} {ρ : List Addr} {h : EHeap} {H : Hp}
/-- u stands for the evaluator's x -/
def Stands (D : Wd) (G : Hp) (ρ : List Addr) (u : Value) (x : Val) : Prop := ∃ v : V, RelV v u ∧ RV D G ρ x v
theorem stands_all : ∀ {l : List Val} {xs : List V} {us : List Value}, RVs D G ρ l xs → Vals xs us → EachIs (Stands D G ρ) us l
  | _, _, _, .nil, .nil => .nil
  | _, _, _, .cons a b, .cons c d => .cons ⟨_, c, a⟩ (stands_all b d)
theorem stands_back : ∀ {us : List Value} {l : List Val}, EachIs (Stands D G ρ) us l → ∃ xs, RVs D G ρ l xs ∧ Vals xs us
  | _, _, .nil => ⟨[], .nil, .nil⟩
  | _, _, .cons ⟨v, a, b⟩ t =>
    let ⟨xs, c, d⟩ := stands_back t
    ⟨v :: xs, .cons b c, .cons a d⟩
theorem data_all : ∀ {d : Nat} {l : List Val}, areData d l = true → ∀ x ∈ l, isData d x = true
  | _, [], _, x, hx => by cases hx
  | d, y :: l, h, x, hx => by
    simp only [areData, Bool.and_eq_true] at h
    rcases List.mem_cons.mp hx with rfl | hx
    · exact h.1
    · exact data_all h.2 x hx
/-- what is asked of a sorted list -/
def rSrt (D : Wd) : List V → Hp → VK → Prop := fun xs H Q => ∃ G ρ a us l, xs = [.ref a] ∧ SqL D.K H a us ∧ RVs D G ρ l us ∧ (∀ a o, G a = some o → H a = some (unpin o)) ∧ sortable l = true ∧ ∀ ys p, RVs D G ρ (sortV l) ys → H p = none → Q (.ref p) (upd H p (.lst ys))
theorem sortV_len (l : List Val) : (sortV l).length = l.length := by unfold sortV; exact List.length_mergeSort l
theorem each_reads {pins : List (Addr × Obj)} {σ : L2.St} {s : Shared} (I : L2.Inv X pins σ H s) (hK : X.K = D.K) (sub : ∀ a o, G a = some o → H a = some (unpin o)) :
    ∀ {l : List Val} {vs : List V} {its : List Value}, RVs D G ρ l vs → Vals vs its → (∀ x ∈ l, isData 20 x = true) → EachIs (fun v x => ∃ as, Reads s.heap v (toD x) as) its l
  | _, _, _, .nil, .nil, _ => .nil
  | _, _, _, .cons a b, .cons c d, hd => by
    refine .cons ?_ (each_reads I hK sub b d fun x hx => hd x (List.mem_cons_of_mem _ hx))
    obtain ⟨p1, _, _⟩ := dp_of sub (hd _ (by simp)) a
    rw [← hK] at p1
    exact Dp.reads I _ _ _ p1 c
theorem cr_srt (hX : XOk D E k N sc X) : CallR X (.builtin "sorted") (rSrt D) := by
  intro pins s σ H xs us Q I r q
  obtain ⟨G, ρ, a, vs, l, rfl, hs, rl, sub, hk, q⟩ := q
  have hK : X.K = D.K := hX.hK
  rw [← hK] at hs
  obtain ⟨its, rv, hl, hz⟩ := I.list hs
  rw [Vals.ref1 r]
  have hlen := rv.length
  have hd := data_all (sortable_parts hk).2.2
  have hdp : ∀ x ∈ l, (toD x).canLay0 = true ∧ (toD x).depth ≤ 20 := by
    intro x hx
    obtain ⟨i, hi⟩ := List.getElem?_of_mem hx
    obtain ⟨u, _, hr⟩ := rl.get hi
    obtain ⟨_, h2, h3⟩ := dp_of sub (hd x hx) hr
    exact ⟨h2, h3⟩
  refine srt_call (R := Stands D G ρ) hl.isList (stands_all rl rv) (each_reads I hK sub rl rv hd) hk (fun x hx => (hdp x hx).1) (fun x hx => ?_) (by rw [← hlen]; exact hz) fun out ho => ?_
  · have h1 := hX.hu65
    have h2 := (hdp x hx).2
    omega
  · obtain ⟨ys, h1, h2⟩ := stands_back ho
    obtain ⟨ep, he⟩ := PyProof.Rows.sortedAll_at s.heap its out.toArray
    have hl2 : ys.length ≤ sizeLine := by
      rw [h1.length, sortV_len, ← rl.length]
      exact hz
    exact ⟨.ref _, _, I.laid (o := .lst ys) (t' := s.toks) (fun _ _ => PyProof.Rows.sortedAll_old) (Nat.le_succ _) ⟨hl2, out, ep, h2, he⟩, rfl, q ys _ h1 (I.hok.fresh (Nat.le_succ _))⟩
theorem srt_sim : FPrimSim D E (fprimV .sorted) (rSrt D) := by
  intro G ρ h H args xs Q xh r q
  cases r with
  | nil => exact q.elim
  | cons r1 r2 =>
    cases r2 with
    | cons _ _ => exact q.elim
    | nil =>
      cases r1 with
      | @lst a l us s hl rs =>
        by_cases hk : sortable l = true
        · have q' : OkG D E (relL D) G ρ (if sortable l = true then R.ok (sortV l) h else R.no) (newL Q) := q
          rw [if_pos hk] at q'
          exact ⟨G, ρ, _, _, l, rfl, .inl (.inl (xh.sub _ _ s)), rs, xh.sub, hk, fun ys p ry np => q' G ρ H ys Ext.refl xh ry (by rw [ry.length, sortV_len]; exact hl) p np⟩
        · have q' : OkG D E (relL D) G ρ (if sortable l = true then R.ok (sortV l) h else R.no) (newL Q) := q
          rw [if_neg hk] at q'
          exact False.elim q'
      | ref hr =>
        obtain ⟨o, u, h1, h2, h3⟩ := xh.at_ hr
        simp only [fprimV, h1] at q
        cases h3 with
        | @list l us rl hl =>
          by_cases hk : sortable l = true
          · have q' : OkG D E (relL D) G ρ (if sortable l = true then R.ok (sortV l) h else R.no) (newL Q) := q
            rw [if_pos hk] at q'
            exact ⟨G, ρ, _, _, l, rfl, .inl (.inl h2), rl, xh.sub, hk, fun ys p ry np => q' G ρ H ys Ext.refl xh ry (by rw [ry.length, sortV_len]; exact hl) p np⟩
          · have q' : OkG D E (relL D) G ρ (if sortable l = true then R.ok (sortV l) h else R.no) (newL Q) := q
            rw [if_neg hk] at q'
            exact False.elim q'
        | dictK _ => exact q.elim
        | dictT _ => exact q.elim
        | inst _ => exact q.elim
      | _ => exact q.elim
end
end Sim

end
section
set_option Elab.async false
set_option linter.all false
set_option maxRecDepth 100000
/-! SimKey: sorted(.., key=f) at the level of the model, f's answer being told. -/
namespace Sim
open PySem PySem.Spec PySem.Calls PyProof.Rows L2 Ev PySem.SeqAt
open PySem.W (SortsAt EachIs KeepsBut sortVals sortVals_length keyH_end sorted_of_sort copyHeap copyHeap_at copyHeap_old sortingHeap_old sortingHeap)

section
variable {prog : Program} {w : World} {A : Around} {E : Value → Shared → Prop} {s : Shared} {a kS f : Addr} {vs : List Value} {e1 : Nat} {P : PySem.Fin → Shared → Prop} {kf : Value → Value} {κ : Heap → PyProof.Rows.KeyKind}
/-- a call of f that keeps all that was there -/
def KeyTo (u0 : Value) (s₁ : Shared) (h : Heap) (u : Value) (s₂ : Shared) : Prop := u = u0 ∧ ∃ h' tk, s₂ = { s₁ with heap := h', toks := tk } ∧ ∀ b o, h.get? b = some o → h'.get? b = some o
theorem key_rest {h₁ : Heap} (kp : KeepsBut a h₁ s.heap) (hkS : h₁.get? kS = none) (nk : s.heap.get? kS = some (seqObj "list" #[] 0)) (na : s.heap.get? a = some (seqObj "list" #[] e1)) (hka : kS ≠ a) (hZ : vs.length ≤ sizeLine)
    (S : ∀ (h : Heap) (tk : Nat), KeepsBut a h₁ h → SortsAt prog w A { s with heap := h, toks := tk } (κ h) (vs.map kf))
    (turn : ∀ v ∈ vs, ∀ (h : Heap) (tk : Nat), KeepsBut a h₁ h → wpAny (model prog w) A (call (.ref f) [v]) (KeyTo (kf v) s h) (fun _ _ => False) { s with heap := h, toks := tk })
    (hP : ∀ (hh h' : Heap) (tk c : Nat), KeepsBut a h₁ hh → KeepsBut a h₁ h' → h'.get? a = some (seqObj "list" (sortVals (κ hh) false (vs.map kf) vs).toArray c) → P (.done (.ret .none)) { s with heap := h', toks := tk }) :
    wpAny (model prog w) A (ksk_rest a (.ref f) false vs.toArray e1 (.ref kS)) P E s := by
  unfold ksk_rest
  refine wpAny_bind (wpAny_rule ?_)
  first
    | rw [List.forIn_toArray]
    | (rw [← Array.forIn_toList]; simp only [List.toList_toArray])
    | rw [← Array.forIn_toList]
  refine wpAny_bind (ksk_fold (fun i s' => ∃ h' tk kA e, s' = { s with heap := h', toks := tk } ∧ KeepsBut a h₁ h' ∧ h'.get? kS = some (seqObj "list" kA e) ∧ h'.get? a = some (seqObj "list" #[] e1) ∧ kA.toList = (vs.take i).map kf) vs 0 s
    ⟨s.heap, s.toks, #[], 0, rfl, kp, nk, na, by simp⟩ ?step ?done)
  case step =>
    rintro j x s' hx ⟨h', tk, kA, e, rfl, kp', nk', na', hk⟩
    simp only [Nat.zero_add] at hk ⊢
    have hj : j < vs.length := (List.getElem?_eq_some_iff.mp hx).1
    have hz : kA.size ≤ vs.length := by
      have := congrArg List.length hk
      simp only [Array.length_toList, List.length_map, List.length_take] at this
      omega
    refine wpAny_bind (wpAny_attempt (wpAny_mono (turn x (List.mem_of_getElem? hx) h' tk kp') (fun v s'' he => ?_) fun _ _ hF => hF.elim))
    obtain ⟨rfl, g, tk2, rfl, hg⟩ := he
    try dsimp only
    have nk2 : g.get? kS = some (seqObj "list" kA e) := hg _ _ nk'
    have na2 : g.get? a = some (seqObj "list" #[] e1) := hg _ _ na'
    have s1 := Heap.SameBut.update g kS (Obj.mapSeq (·.push (kf x)))
    obtain ⟨c2, hc2⟩ : ∃ c2, (g.update kS (Obj.mapSeq (·.push (kf x)))).get? kS = some (seqObj "list" (kA.push (kf x)) c2) := ⟨_, get?_update_seq nk2 (·.push (kf x))⟩
    refine wpAny_bind (listUpdate_at nk2 rfl ?_ (Nat.le_trans hz hZ) (Nat.le_trans (Nat.le_of_eq (Array.size_push ..)) (Nat.succ_le_succ (Nat.le_trans hz hZ))))
    refine wpAny_pure ⟨rfl, _, _, kA.push (kf x), c2, rfl, (kp'.trans_all hg).same s1 (.inr hkS), hc2, (s1.2 a hka.symm).trans na2, ?_⟩
    rw [Array.toList_push, hk, List.take_add_one, hx]
    simp
  case done =>
    rintro s' ⟨h', tk, kA, e, rfl, kp', nk', na', hk⟩
    have hk' : kA.toList = vs.map kf := by
      rw [hk, Nat.zero_add, List.take_length]
    have hsz : kA.size = vs.length := by
      have := congrArg List.length hk'
      simpa using this
    try dsimp only
    refine wpAny_bind (listItems_at nk' rfl ?_)
    have hS := S h' tk kp'
    rw [← hk'] at hS
    refine keyH_end (κ := κ h') (h₁ := h₁) kp' hkS nk' na' hka hS hsz hZ fun h3 tk3 c k3 n3 => hP h' h3 tk3 c kp' k3 ?_
    rw [← hk']
    exact n3
theorem key_tree {n : Nat} (ho : s.heap.get? a = some (seqObj "list" vs.toArray n)) (hZ : vs.length ≤ sizeLine)
    (S : ∀ (h : Heap) (tk : Nat), KeepsBut a s.heap h → SortsAt prog w A { s with heap := h, toks := tk } (κ h) (vs.map kf))
    (turn : ∀ v ∈ vs, ∀ (h : Heap) (tk : Nat), KeepsBut a s.heap h → wpAny (model prog w) A (call (.ref f) [v]) (KeyTo (kf v) s h) (fun _ _ => False) { s with heap := h, toks := tk })
    (hP : ∀ (hh h' : Heap) (tk c : Nat), KeepsBut a s.heap hh → KeepsBut a s.heap h' → h'.get? a = some (seqObj "list" (sortVals (κ hh) false (vs.map kf) vs).toArray c) → P (.done (.ret .none)) { s with heap := h', toks := tk }) :
    wpAny (model prog w) A (ksk_tree a (.ref f) false) P E s := by
  have ha : a < s.heap.objs.size := Heap.lt_size ho
  obtain ⟨e1, ho1⟩ : ∃ e1, (s.heap.update a (Obj.mapSeq fun _ => (#[] : Array Value))).get? a = some (seqObj "list" #[] e1) := ⟨_, get?_update_seq ho fun _ => #[]⟩
  have hkS : ((s.heap.update a (Obj.mapSeq fun _ => (#[] : Array Value))).push (seqObj "tuple" vs.toArray 0)).objs.size = s.heap.objs.size + 1 := by rw [size_push', Heap.size_update]
  unfold ksk_tree
  refine wpAny_bind (listItems_at ho rfl ?_)
  refine wpAny_bind (listUpdate_at ho rfl ?_ (by rw [List.size_toArray]; exact hZ) (Nat.zero_le _))
  refine wpAny_bind (seqEpoch_at ho1 rfl ?_)
  refine wpAny_bind (wpAny_newTuple ?_ (by show vs.length ≤ _; exact hZ))
  refine wpAny_bind (wpAny_newList ?_ (Nat.zero_le _))
  refine wpAny_holding ?_
  have kp : KeepsBut a s.heap (sortingHeap s.heap a vs) := fun b o hb q => sortingHeap_old hb q
  exact key_rest (κ := κ) (kf := kf) (h₁ := s.heap) (s := { s with heap := ((s.heap.update a (Obj.mapSeq fun _ => (#[] : Array Value))).push (seqObj "tuple" vs.toArray 0)).push (seqObj "list" #[] 0) })
    (kS := ((s.heap.update a (Obj.mapSeq fun _ => (#[] : Array Value))).push (seqObj "tuple" vs.toArray 0)).objs.size) kp (Heap.get?_none_of_le (by rw [hkS]; exact Nat.le_succ _)) (Heap.get?_push_size _ rfl) (Heap.get?_push_of_some _ (Heap.get?_push_of_some _ ho1))
    (by rw [hkS]; exact Nat.ne_of_gt (Nat.lt_succ_of_lt ha)) hZ S turn hP
/-- sorted(l, key=f) -/
theorem key_sorted {l : Addr} {Q : Value → Shared → Prop} (hl : s.heap.IsList l vs.toArray) (hZ : vs.length ≤ sizeLine)
    (S : ∀ (h : Heap) (tk : Nat), (∀ b o, s.heap.get? b = some o → h.get? b = some o) → SortsAt prog w A.in1.in1 { s with heap := h, toks := tk } (κ h) (vs.map kf))
    (turn : ∀ v ∈ vs, ∀ (h : Heap) (tk : Nat), (∀ b o, s.heap.get? b = some o → h.get? b = some o) → wpAny (model prog w) A.in1.in1 (call (.ref f) [v]) (KeyTo (kf v) s h) (fun _ _ => False) { s with heap := h, toks := tk })
    (hQ : ∀ (hh h' : Heap) (tk c : Nat), (∀ b o, s.heap.get? b = some o → hh.get? b = some o) → (∀ b o, s.heap.get? b = some o → h'.get? b = some o) → h'.get? (s.heap.objs.size + 1) = some (seqObj "list" (sortVals (κ hh) false (vs.map kf) vs).toArray c) →
      Q (.ref (s.heap.objs.size + 1)) { s with heap := h', toks := tk }) :
    wpAny (model prog w) A (call (.builtin "sorted") [.ref l] [(Str.ofString "key", .ref f)]) Q E s := by
  have up : ∀ {g : Heap}, KeepsBut (s.heap.objs.size + 1) (copyHeap s.heap vs) g → ∀ b o, s.heap.get? b = some o → g.get? b = some o := fun {g} kp b o q =>
    kp b o (Nat.ne_of_lt (Nat.lt_succ_of_lt (Heap.lt_size q))) (copyHeap_old q)
  refine sorted_of_sort hl hZ (ksk_s1 _ _) (fun x => ksk_l1 _ _) fun E' => ?_
  rw [ksk_t1]
  refine key_tree (κ := κ) (kf := kf) (s := { s with heap := copyHeap s.heap vs }) (copyHeap_at s.heap vs) hZ (fun h tk k => S h tk (up k)) (fun v hv h tk k => turn v hv h tk (up k)) fun hh h' tk c k1 k2 n => ⟨rfl, ?_⟩
  exact hQ hh h' tk c (up k1) (up k2) n
end
end Sim

end
section
set_option Elab.async false
set_option linter.all false
set_option maxRecDepth 100000
/-! SimLam: a call of lambda x: x[0]. -/
namespace Sim
open PySem PySem.Spec PySem.Calls PyProof.Rows L2 Ev PySem.SeqAt
open PySem.W (kla_obj kla_fn kla_callFunE kla_codeExpr)

section
variable {prog : Program} {w : World} {A : Around} {s : Shared} {f t c' : Addr}
theorem lam_call {x qual : Str} {params : Arguments} {scope : Scope} {p1 p2 p3 : Pos} {j : Nat} {pm ctv : Value} {its : Array Value} {u : Value}
    (hx : okName x = true) (hp : plainParams params = true) (ha : params.args.map (·.arg) = [x]) (hs : scope.names = [(x, .local)]) (hk : scope.kind = .function) (hco : scope.isCoroutine = false) (hgen : scope.isGenerator = false)
    (ho : s.heap.get? f = some (kla_obj "<lambda>" qual params (.Subscript (.Name x p1) (.Constant (.int 0) j p2) p3) scope [] pm c' ctv)) (hcd : s.heap.CodeRec (.ref c') qual) (hroom : A.depth < recursionLimit) (hlim : s.heap.NoLimit)
    (ht : s.heap.IsTuple t its) (hz : its.size ≤ sizeLine) (hu : its[0]? = some u) (hin : A.in1.depth < recursionLimit) :
    wpAny (model prog w) A (call (.ref f) [.ref t]) (KeyTo u s s.heap) (fun _ _ => False) s := by
  refine wpAny_call (kla_callFunE hroom ho rfl hco hgen rfl hcd ?_)
  have hb : ∀ (qual : Str) (body : Expr) (scope : Scope) (pm cdv ctv : Value), bindArgs (kla_fn "<lambda>" qual params body scope [] pm cdv ctv) ⟨[.ref t], []⟩ = pure [(x, .ref t)] := by
    intro qual body scope pm cdv ctv
    obtain ⟨po, ar, va, ko, kd, kw, df⟩ := params
    simp only [plainParams, Bool.and_eq_true, List.isEmpty_iff, Option.isNone_iff_eq_none] at hp
    obtain ⟨⟨⟨rfl, rfl⟩, rfl⟩, rfl⟩ := hp
    simp only at ha
    unfold bindArgs
    have hs0 : seqItems? Value.none = pure none := by first | rfl | (unfold seqItems?; rfl)
    simp only [kla_fn, List.map_nil, List.nil_append, List.append_nil, List.forIn_nil, pure_bind, hs0, ha]
    simp [List.lookup]
  have hb0 : bindArgs (kla_fn "<lambda>" qual params (.Subscript (.Name x p1) (.Constant (.int 0) j p2) p3) scope [] pm (.ref c') ctv) ⟨[.ref t], []⟩ = pure [(x, .ref t)] := hb _ _ _ _ _ _
  rw [hb0]
  refine wpAny_pure (wpAny_newFunctionEnv (fun y hy => ?_) (fun y hy => ?_) (fun h₁ hns hsb => ⟨hlim.fresh _ hsb, ?_⟩) hk)
  · rw [hs] at hy
    simp at hy
    subst hy
    simp
  · simp at hy
    subst hy
    rw [hs]
    simp
  · have kp : ∀ b o, s.heap.get? b = some o → h₁.get? b = some o := fun b o e => hsb.extBut b o (Nat.ne_of_lt (Heap.lt_size e)) (Heap.get?_push_of_some _ e)
    show codeAny _ _ (.expr (.Subscript (.Name x p1) (.Constant (.int 0) j p2) p3) (PySem.W.envX qual scope s.heap.objs.size f (.ref c') [])) _ _
    refine kla_codeExpr (Subscript_ (wpAny_Name (wpAny_loadName_local (v := .ref t) hk ?_ hns (by simp) ?_) (okName_d hx)))
    · show scope.names.lookup x = some .local
      rw [hs]
      simp
    · refine wpAny_Constant_int ?_
      obtain ⟨o, h1, h2, n, h3⟩ := ht
      refine subscriptTail_builtinR (x := u) ⟨o, kp _ _ h1, h2⟩ slot_tuple_getitem.lookup (getItem_tuple (j := 0) (Q := fun r s' => r = u ∧ KeyTo u s s.heap r s') ⟨o, kp _ _ h1, h2, n, h3⟩ (by omega) (by omega) ?_ hu ⟨rfl, rfl, h₁, _, rfl, kp⟩) (by with_unfolding_all rfl)
      have : 0 < its.size := (Array.getElem?_eq_some_iff.mp hu).1
      unfold seqIndex?
      simp
      intro z
      rw [z] at this
      simp at this
end
end Sim

end
section
set_option Elab.async false
set_option linter.all false
set_option maxRecDepth 100000
/-! SimLam2: sorted(xs, key=lambda x: x[0]). -/
namespace Sim
open PySem PySem.Spec PyProof.Rows L2 Ev
open PySem.W (EachIs keyToks sortVals sortVals_each sortVals_length sortLe)

section
variable {D : Wd} {n k : Nat} {E : XK} {N : List Str} {sc : Scope} {X : Cx} {ee : Expr} {G : Hp} {ρ : List Addr} {h : EHeap} {H : Hp}
/-- but for the tables nothing has changed -/
theorem RH.extN {H' : Hp} (x : RH D G ρ h H) (e : LamX.ExtN H H') (t : LamX.Tabs D.lamT H') : RH D G ρ h H' := by
  refine ⟨fun a o ha => e _ _ (x.sub a o ha) fun ps z => ?_, t, x.gb, x.len, x.nd, x.out, fun m a o h1 h2 => ?_⟩
  · have hb := x.gb a
    rw [ha] at hb
    revert z
    unfold unpin
    split
    · intro z; cases z
    · intro z; subst z; exact hb
  · obtain ⟨u, h3, h4⟩ := x.obj m a o h1 h2
    exact ⟨u, e _ _ h3 (fun ps z => by
      subst z
      cases h4), h4⟩
/-- an item's first -/
def firstOf (hp : Heap) : Value → Value
  | .ref t => match hp.get? t with
    | some o => (match o.data with
      | .seq vs _ => vs[0]?.getD .none
      | _ => .none)
    | none => .none
  | _ => .none
theorem keyed_head : ∀ {l ks : List Val}, keyed l = some ks → ks.length = l.length ∧ ∀ x ∈ l, ∃ a r, x = .tup (a :: r) ∧ a ∈ ks := by
  intro l
  induction l with
  | nil => intro ks h; cases h; exact ⟨rfl, fun _ hm => (nomatch hm)⟩
  | cons v l ih =>
    intro ks h
    unfold keyed at h ih
    rw [List.mapM_cons] at h
    cases hv : head0 v with
    | none => rw [hv] at h; cases h
    | some a =>
      rw [hv] at h
      cases hl : l.mapM head0 with
      | none => rw [hl] at h; cases h
      | some ks' =>
        rw [hl] at h
        cases h
        obtain ⟨h1, h2⟩ := ih hl
        refine ⟨by simp [h1], fun x hx => ?_⟩
        rcases List.mem_cons.mp hx with rfl | hx
        · cases x with
          | tup m =>
            cases m with
            | nil => cases hv
            | cons b r => cases hv; exact ⟨_, r, rfl, by simp⟩
          | _ => cases hv
        · obtain ⟨a', r, e1, e2⟩ := h2 x hx
          exact ⟨a', r, e1, List.mem_cons_of_mem _ e2⟩
theorem keyed_mem {l ks : List Val} (h : keyed l = some ks) : ∀ a ∈ ks, ∃ x ∈ l, head0 x = some a := by
  intro a ha
  have : ∀ {l ks : List Val}, l.mapM head0 = some ks → ∀ a ∈ ks, ∃ x ∈ l, head0 x = some a := by
    intro l
    induction l with
    | nil => intro ks h a ha; cases h; cases ha
    | cons v l ih =>
      intro ks h a ha
      rw [List.mapM_cons] at h
      cases hv : head0 v with
      | none => rw [hv] at h; cases h
      | some b =>
        rw [hv] at h
        cases hl : l.mapM head0 with
        | none => rw [hl] at h; cases h
        | some ks' =>
          rw [hl] at h
          cases h
          rcases List.mem_cons.mp ha with rfl | ha
          · exact ⟨v, by simp, hv⟩
          · obtain ⟨x, h1, h2⟩ := ih hl a ha
            exact ⟨x, by simp [h1], h2⟩
  exact this h a ha
/-- the items, their firsts -/
theorem first_each {pins : List (Addr × Obj)} {σ : L2.St} {s : Shared} (I : L2.Inv X pins σ H s) (hK : X.K = D.K) (sub : ∀ a o, G a = some o → H a = some (unpin o)) :
    ∀ {l ks : List Val} {us : List V} {its : List Value}, RVs D G ρ l us → Vals us its → keyed l = some ks → areData 20 ks = true →
      EachIs (fun v x => ∃ as, Reads s.heap v (toD x) as) (its.map (firstOf s.heap)) ks ∧ EachIs (fun v x => ∃ a as, head0 x = some a ∧ a ∈ ks ∧ Reads s.heap v (toD a) as) (its.map (firstOf s.heap)) l ∧
      (∀ v ∈ its, ∃ t its', v = .ref t ∧ s.heap.IsTuple t its' ∧ its'.size ≤ sizeLine ∧ its'[0]? = some (firstOf s.heap v)) ∧ ∀ a ∈ ks, (toD a).canLay0 = true ∧ (toD a).depth ≤ 20
  | _, _, _, _, .nil, .nil, hk, _ => by
    cases hk
    exact ⟨.nil, .nil, fun _ hm => (nomatch hm), fun _ hm => (nomatch hm)⟩
  | _, _, _, _, .cons (v := x) (vs := l) a b, .cons (l₂ := its) c d, hk, hd => by
    unfold keyed at hk
    rw [List.mapM_cons] at hk
    cases hv : head0 x with
    | none => rw [hv] at hk; cases hk
    | some y =>
      rw [hv] at hk
      cases hl : l.mapM head0 with
      | none => rw [hl] at hk; cases hk
      | some ks' =>
        rw [hl] at hk
        cases hk
        simp only [areData, Bool.and_eq_true] at hd
        obtain ⟨h1, h2, h3, h4⟩ := first_each I hK sub b d hl hd.2
        cases x with
        | tup m =>
          cases m with
          | nil => cases hv
          | cons y' r =>
            cases hv
            cases a with
            | tup sx hlen rx =>
              cases rx with
              | @cons _ _ u us' ry rr =>
                obtain rfl := c
                have hH := sub _ _ sx
                obtain ⟨its2, r2, ht, hz⟩ := I.tuple (.inl (.inl hH))
                cases r2 with
                | @cons _ w0 _ ws0 cw dw =>
                  obtain ⟨o, ho, hc, n, hdt⟩ := id ht
                  have hf : ∀ t, s.heap.get? t = some o → firstOf s.heap (.ref t) = w0 := fun t e => by
                    simp only [firstOf, e, hdt]
                    rfl
                  obtain ⟨q1, q2, q3⟩ := dp_of sub hd.1 ry
                  have q1' := q1
                  rw [← hK] at q1'
                  obtain ⟨as, hr⟩ := Dp.reads I _ _ _ q1' cw
                  refine ⟨.cons ⟨as, ?_⟩ h1, .cons ⟨_, as, rfl, by simp, ?_⟩ (h2.mono fun v x ⟨a, as, e1, e2, e3⟩ => ⟨a, as, e1, List.mem_cons_of_mem _ e2, e3⟩), fun v hv => ?_, fun a ha => ?_⟩
                  · rw [hf _ ho]; exact hr
                  · rw [hf _ ho]; exact hr
                  · rcases List.mem_cons.mp hv with rfl | hv
                    · exact ⟨_, _, rfl, ht, by
                        have hd := (show Vals us' ws0 from dw).length
                        simp only [List.size_toArray, List.length_cons] at hz ⊢
                        omega, by rw [hf _ ho]; rfl⟩
                    · exact h3 v hv
                  · rcases List.mem_cons.mp ha with rfl | ha
                    · exact ⟨q2, q3⟩
                    · exact h4 a ha
        | _ => cases hv
theorem leK_len (l : List Val) : (l.mergeSort leK).length = l.length := List.length_mergeSort l
/-- what is asked of a list sorted by its items' firsts -/
theorem srtK_run (hX : XOk D E k N sc X) {pins : List (Addr × Obj)} {σ : L2.St} {s : Shared} {Q : VK} {a f c' : Addr} {us : List V} {l ks : List Val} {lam : Expr} {pm ctv : Value}
    (I : L2.Inv X pins σ H s) (xh : RH D G ρ h H) (hs : SqL D.K H a us) (rl : RVs D G ρ l us) (hl : l.length ≤ most) (hk : keyed l = some ks) (hsk : sortable ks = true)
    (hlam : lamK0 lam = true) (hf : ∃ params body scope p, lam = .Lambda params body scope p ∧ s.heap.get? f = some (PySem.W.kla_obj "<lambda>" (X.env.qual ++ "<lambda>") params body scope (cloFrom X.env.cells scope.names []) pm c' ctv))
    (hc : H c' = some (LamX.CodeO c' (X.env.qual ++ "<lambda>"))) (q : OkG D E (relL D) G ρ (.ok (l.mergeSort leK) h : R (List Val)) (newL Q)) :
    wpAny (model X.prog X.w) X.A (call (.builtin "sorted") [.ref a] [(Str.ofString "key", .ref f)]) (EP X pins σ Q) X.xe s := by
  have hK : X.K = D.K := hX.hK
  have hs' := hs
  rw [← hK] at hs'
  obtain ⟨its, rv, hli, hz⟩ := I.list hs'
  have hlen := rv.length
  obtain ⟨_, hkind, hdat⟩ := sortable_parts hsk
  obtain ⟨e1, e2, e3, e4⟩ := first_each I hK xh.sub rl rv hk hdat
  obtain ⟨params, body, scope, p, rfl, hf⟩ := hf
  obtain ⟨⟨oc, vsc, tc, hoc, hdc, hqc⟩, _, _⟩ := I.hok c' _ hc
  have hr := hX.room1
  have hkeys := hlam
  simp only [lamK0, Bool.and_eq_true] at hlam
  obtain ⟨⟨⟨hp, _⟩, _⟩, hb⟩ := hlam
  split at hb
  · rename_i x p1 j p2 p3
    simp only [Bool.and_eq_true, decide_eq_true_eq, Bool.not_eq_true'] at hb
    obtain ⟨⟨⟨⟨⟨ha, hx⟩, hsn⟩, hsk2⟩, hco⟩, hgen⟩ := hb
    have hcl : cloFrom X.env.cells scope.names [] = [] := by
      rw [hsn]
      rfl
    rw [hcl] at hf
    refine key_sorted (κ := fun hh => keyK hh ks) (kf := firstOf s.heap) hli.isList (by rw [← hlen]; exact hz) (fun hh tk kp => ?_) (fun v hv hh tk kp => ?_) fun hh h' tk c k1 k2 n => ?_
    · exact sorts_at (s := { s with heap := hh, toks := tk }) (e1.mono fun v x ⟨as, r⟩ => ⟨as, PyProof.Rows.Reads.keeps kp r⟩) hsk (fun y hy => (e4 y hy).1) fun y hy => by
        have h1 := hX.hu65
        have h2 := (e4 y hy).2
        rw [in1_units, in1_units]
        omega
    · obtain ⟨t, its', rfl, ht, hz', h0⟩ := e3 v hv
      have hroom := hr.depth
      obtain ⟨o, ho, hoc', nn, hdt⟩ := id ht
      exact lam_call (s := { s with heap := hh, toks := tk }) hx hp ha hsn hsk2 hco hgen (kp _ _ hf) ⟨c', oc, vsc, tc, rfl, kp _ _ hoc, hdc, hqc⟩ (by show X.A.in1.in1.depth < recursionLimit; exact hroom) (I.nolimit.keeps kp) ⟨o, kp _ _ ho, hoc', nn, hdt⟩ hz' h0 (by show X.A.in1.in1.in1.depth < recursionLimit; exact hroom)
    · have hR := sortVals_each (κ := keyK hh ks) (rev := false) (fun b : Val => keyToks (toD ((head0 b).getD .non))) (stands_all rl rv) (e2.mono fun v x ⟨y, as, h1, h2, h3⟩ => by
        rw [h1]
        exact keyK_some h2 (PyProof.Rows.Reads.keeps k1 h3))
      have hle : l.mergeSort (sortLe (keyK hh ks).toKeyOrd false fun b : Val => keyToks (toD ((head0 b).getD .non))) = l.mergeSort leK := by
        refine PySem.W.sort_congr fun x hx y hy => ?_
        obtain ⟨a1, r1, rfl, m1⟩ := (keyed_head hk).2 x hx
        obtain ⟨a2, r2, rfl, m2⟩ := (keyed_head hk).2 y hy
        obtain ⟨o, ho⟩ := (sortable_parts hsk).1 a1 m1 a2 m2
        exact le_toks ho
      rw [hle] at hR
      obtain ⟨ys, g1, g2⟩ := stands_back hR
      have hl2 : ys.length ≤ sizeLine := by
        rw [g1.length, leK_len, ← rl.length]
        exact hz
      have q' := q G ρ H ys Ext.refl xh g1 (by rw [g1.length, leK_len]; exact hl) (s.heap.objs.size + 1) (I.hok.fresh (Nat.le_succ _))
      exact ⟨.ref _, _, I.laid (o := .lst ys) (t' := tk) k2 (Nat.le_succ _) ⟨hl2, _, c, g2, n⟩, rfl, q'⟩
  · cases hb
theorem sim_srtK (S : Stat D) {es : Ex} (hes : SimL D n k es) {g x : Expr} {kw : Keyword} {pos : Pos} (hX : XOk D E k N sc X) (hg : matchB (txOf D) sc "sorted" g = true) (hl : matchL (txOf D) N sc es [x] = true) (hN : N.contains (lit "<lambda>") = true) (hkw : kwK0 kw = true) :
    PE X (.Call g [x] [kw] pos) (tF D E fun env => do fprimV .sortedK0 (← evL (cx D n) es env)) := by
  obtain ⟨p, rfl, h1, h2, h3⟩ := matchB_ok S hX hg
  obtain ⟨n1, n2⟩ := cons_parts (D := D) hl
  obtain ⟨nm, lam, kpos⟩ := kw
  simp only [kwK0, Bool.and_eq_true, beq_iff_eq] at hkw
  obtain ⟨rfl, hlam⟩ := hkw
  obtain ⟨c, P, hcode, TB, hmT, hu⟩ := hX.lam hN
  cases lam with
  | Lambda params body scope lpos =>
    refine ⟨fun pins s σ H Q I q => ?_⟩
    obtain ⟨G, ρ, env, h, xh, re, q⟩ := tF_to q
    have hA := tG_bind xh re q fun G1 ρ1 H1 y1 vs h1 e1 x1 r1 q1 => (show (∃ G1 ρ1 h1 vs, RH D G1 ρ1 h1 H1 ∧ RVs D G1 ρ1 vs y1 ∧ OkG D E (relL D) G1 ρ1 (fprimV .sortedK0 vs h1) (newL Q)) from ⟨G1, ρ1, h1, vs, x1, r1, q1⟩)
    refine wpAny_Call_Name_kw (ld_blt I h1 h2 bt_sorted ?_ (okName_n h3) (okName_d h3))
    refine PyProof.Rows.callWith_kw (thn ((hes E N sc X _ hX hl).run pos pins s σ H _ I hA) fun us s1 ⟨ys, H1, I1, r1, q1⟩ => ?_) (by rw [star_of n1]; rfl) (by rw [star_of n1]; rfl) (by rfl) (by rfl)
    obtain ⟨G1, ρ1, h1, vs, x1, rv, q1⟩ := q1
    refine PyProof.Rows.kwAll_cons ?_
    have hd : defaultsOf params X.env = ([], []) ∧ ∀ y ∈ scope.names, y.2 = .free → ∃ c, X.env.cells.lookup y.1 = some c := by
      have hl := hlam
      simp only [lamK0, Bool.and_eq_true] at hl
      obtain ⟨⟨⟨hp, hd1⟩, hd2⟩, hb⟩ := hl
      obtain ⟨po, ar, va, ko, kd, kx, df⟩ := params
      simp only [List.isEmpty_iff] at hd1 hd2
      subst hd1 hd2
      refine ⟨rfl, ?_⟩
      split at hb
      · simp only [Bool.and_eq_true, decide_eq_true_eq] at hb
        rw [hb.1.1.1.2]
        intro y hy hfr
        simp at hy
        subst hy
        cases hfr
      · cases hb
    refine LamX.lam_make2 I1 TB hcode hmT hu x1.tabs hd.1 hd.2 fun f c' pm ctv H2 s2 I2 eN T2 hf hfn hfr hco => ?_
    refine PyProof.Rows.kwAll_nil ?_
    have x2 := x1.extN eN T2
    cases rv with
    | nil => exact q1.elim
    | cons ra rb =>
      cases rb with
      | cons _ _ =>
        have q1' : False := q1
        exact q1'.elim
      | nil =>
        rename_i v y
        cases r1 with
        | cons c0 d0 =>
          cases d0
          have q1' : OkG D E (relL D) G1 ρ1 (match listOf h1 v with
            | some l => match keyed l with
              | some ks => if sortable ks = true then .ok (l.mergeSort leK) h1 else .no
              | none => .no
            | none => .no) (newL Q) := q1
          cases hlo : listOf h1 v with
          | none => rw [hlo] at q1'; exact q1'.elim
          | some l =>
            rw [hlo] at q1'
            simp only at q1'
            cases hky : keyed l with
            | none => rw [hky] at q1'; exact q1'.elim
            | some ks =>
              rw [hky] at q1'
              by_cases hsk : sortable ks = true
              · simp only [hsk, if_true] at q1'
                obtain ⟨a, us', rfl, hs, rl, hlm⟩ := list_rel x2 ra hlo
                obtain rfl := c0
                exact srtK_run hX I2 x2 hs rl hlm hky hsk hlam ⟨_, _, _, _, rfl, hf⟩ hco q1'
              · simp only [hsk] at q1'
                exact False.elim q1'
  | _ => simp [lamK0] at hlam
theorem list_relX {v : Val} {y : V} {l : List Val} (xh : RH D G ρ h H) (r : RV D G ρ v y) (e : Ev.listOf h v = some l) : ∃ a us, y = .ref a ∧ H a = some (.lst us) ∧ RVs D G ρ l us ∧ l.length ≤ most := by
  cases r with
  | lst s hl rs =>
    simp only [Ev.listOf, Option.some.injEq] at e
    subst e
    exact ⟨_, _, rfl, xh.sub _ _ s, rs, hl⟩
  | ref hr =>
    obtain ⟨o, u, h1, h2, h3⟩ := xh.at_ hr
    simp only [Ev.listOf, h1] at e
    cases h3 with
    | list rl hl =>
      simp only [Option.some.injEq] at e
      subst e
      exact ⟨_, _, rfl, h2, rl, hl⟩
    | _ => cases e
  | _ => cases e
/-- list + list -/
theorem sim_cat {a b : Ex} (ha : SimE D n k a) (hb : SimE D n k b) (hX : XOk D E k N sc X) {x y : Expr} {pos : Pos} (hx : matchE (txOf D) N sc a x = true) (hy : matchE (txOf D) N sc b y = true) : PE X (.BinOp x .Add y pos) (tF D E (evL (cx D n) (.fprim .cat (.cons a (.cons b .nil))))) := by
  refine PE.imp (pe_op op_cat (ha E N sc X x hX hx) (hb E N sc X y hX hy)) fun σ H Q q => ?_
  obtain ⟨G, ρ, env, h, xh, re, q⟩ := tF_to q
  have e0 : evL (cx D n) (.fprim .cat (.cons a (.cons b .nil))) env h = (evE (cx D n) a env h).bind fun v h1 => (evE (cx D n) b env h1).bind fun w h2 => fprimV .cat [v, w] h2 := by
    show R.bind (R.bind (evE (cx D n) a env h) _) _ = _
    cases evE (cx D n) a env h with
    | ok v h1 =>
      show R.bind (R.bind (R.bind (evE (cx D n) b env h1) _) _) _ = R.bind (evE (cx D n) b env h1) _
      cases evE (cx D n) b env h1 <;> rfl
    | _ => rfl
  rw [e0] at q
  refine tG_bind xh re q fun G1 ρ1 H1 y1 v h1 e1 x1 r1 q1 => ?_
  refine tG_bind x1 (re.mono e1) q1 fun G2 ρ2 H2 y2 w h2 e2 x2 r2 q2 => ?_
  have q3 : OkG D E (relL D) G2 ρ2 (match Ev.listOf h2 v, Ev.listOf h2 w with
    | some l, some m => if l.length + m.length ≤ most then .ok (l ++ m) h2 else .no
    | _, _ => .no) (newL Q) := q2
  cases h3 : Ev.listOf h2 v with
  | none => rw [h3] at q3; exact q3.elim
  | some l =>
    cases h4 : Ev.listOf h2 w with
    | none => rw [h3, h4] at q3; exact q3.elim
    | some m =>
      rw [h3, h4] at q3
      obtain ⟨p1, us, rfl, w1, rl1, hl1⟩ := list_relX x2 (r1.mono e2) h3
      obtain ⟨p2, us2, rfl, w2, rl2, hl2⟩ := list_relX x2 r2 h4
      by_cases hz : l.length + m.length ≤ most
      · simp only [hz, if_true] at q3
        refine ⟨p1, p2, us, us2, rfl, rfl, w1, w2, by rw [rl1.length, rl2.length, ← most_line]; exact hz, fun p np => ?_⟩
        exact q3 G2 ρ2 H2 _ Ext.refl x2 (rl1.append rl2) (by rw [(rl1.append rl2).length]; simpa using hz) p np
      · simp only [hz, if_false] at q3
        exact q3.elim
theorem sim_fprim (S : Stat D) (p : FPrim) {es : Ex} (hes : SimL D n k es) (hM : ∀ x ∈ elems es, SimE D n k x) : SimF D n k (.fprim p es) := by
  intro E N sc X ee hX hm
  cases ee with
  | BinOp x o y pos =>
    cases o with
    | Add =>
      cases p with
      | cat =>
        match es, hm with
        | .cons a (.cons b .nil), hm =>
          simp only [matchF, Bool.and_eq_true] at hm
          exact sim_cat (hM a (by simp [elems])) (hM b (by simp [elems])) hX hm.1 hm.2
      | _ => simp [matchF] at hm
    | _ => simp [matchF] at hm
  | Call g l kws pos =>
    cases p with
    | sorted =>
      match l, kws, hm with
      | [x], [], hm =>
        simp only [matchF, Bool.and_eq_true] at hm
        exact fcallB_of S hX hes (cr_srt hX) srt_sim bt_sorted hm.1 rfl hm.2
      | [], _, hm => simp [matchF] at hm
      | _ :: _ :: _, _, hm => simp [matchF] at hm
      | [_], _ :: _, hm => simp [matchF] at hm
    | list1 =>
      match l, kws, hm with
      | [x], [], hm =>
        simp only [matchF, Bool.and_eq_true] at hm
        obtain ⟨r, h1, h2⟩ := list_sim (D := D) (E := E) hX.calm hX.hK
        exact fcallT_of S hX hes h1 h2 bt_list hm.1 rfl hm.2
      | [], _, hm => simp [matchF] at hm
      | _ :: _ :: _, _, hm => simp [matchF] at hm
      | [_], _ :: _, hm => simp [matchF] at hm
    | sortedK0 =>
      match l, kws, hm with
      | [x], [kw], hm =>
        simp only [matchF, Bool.and_eq_true] at hm
        exact sim_srtK S hes hX hm.1.1.1 hm.1.1.2 hm.1.2 hm.2
      | [], _, hm => simp [matchF] at hm
      | _ :: _ :: _, _, hm => simp [matchF] at hm
      | [_], [], hm => simp [matchF] at hm
      | [_], _ :: _ :: _, hm => simp [matchF] at hm
    | _ => simp [matchF] at hm
  | _ => simp [matchF] at hm
end
end Sim

end
section
set_option Elab.async false
set_option linter.all false
set_option maxRecDepth 100000
/-! SimMk: C(..), C(.., k=v). -/
namespace Sim
open PySem PySem.Spec PyProof.Rows L2 Ev

section
variable {D : Wd} {n k : Nat} {E : XK} {N : List Str} {sc : Scope} {X : Cx} {ee : Expr} {G : Hp} {ρ : List Addr} {h : EHeap} {H : Hp}
/-- something new that the evaluator does not know -/
theorem RH.extra (x : RH D G ρ h H) {p : Addr} {o : HO} (np : H p = none) : RH D G ρ h (upd H p o) := by
  refine ⟨fun a z hz => ?_, tabs_upd x.tabs (bare_none np), x.gb, x.len, x.nd, x.out, fun m a b h1 h2 => ?_⟩
  · have := x.sub a z hz
    rw [upd_ne (ne_of_none this np)]
    exact this
  · obtain ⟨u, h3, h4⟩ := x.obj m a b h1 h2
    exact ⟨u, by rw [upd_ne (ne_of_none h3 np)]; exact h3, h4⟩
/-- a new instance, its __init__ -/
theorem init_sp {C i : String} {d : FnDef} {vs : List Val} {ys : List V} {Q : VK} (xh : RH D G ρ h H) (r : RVs D G ρ vs ys)
    (q : OkV D E G ρ ((Ev.alloc (.inst C []) h).bind fun o h1 => (run D.cfg n i (o :: vs) h1).bind fun v h2 => match v with | .non => .ok o h2 | _ => .no) Q) {x dx : Addr} (hx : H x = none) (hd : H dx = none) (hne : dx ≠ x) :
    spF D n i (.ref x :: ys) (upd (upd H dx (.own x)) x (.ins (D.adr C) dx [])) (fun v H3 => v = .non ∧ Q (.ref x) H3) E := by
  have x1 := xh.extra (o := .own x) hd
  have hx1 : upd H dx (.own x) x = none := by rw [upd_ne (Ne.symm hne)]; exact hx
  obtain ⟨x2, e2⟩ := x1.alloc (o := .inst C []) (u := .ins (D.adr C) dx []) hx1 (.inst .nil)
  have hnew : (ρ ++ [x])[h.length]? = some x := by rw [← xh.len]; simp
  refine ⟨G, ρ ++ [x], h ++ [.inst C []], .ref h.length :: vs, x2, .cons (.ref hnew) (r.mono e2), ?_⟩
  simp only [Ev.alloc, R.bind_ok] at q
  cases hr : run D.cfg n i (.ref h.length :: vs) (h ++ [.inst C []]) with
  | no => rw [hr] at q; exact q.elim
  | exc c fs h2 => rw [hr] at q; exact Exc.mono e2 q
  | ok v h2 =>
    rw [hr] at q
    simp only [R.bind_ok] at q
    intro G' ρ' H' y e' x' ry
    cases v with
    | non =>
      cases ry
      exact ⟨rfl, q G' ρ' H' (.ref x) (e2.trans e') x' (.ref (pre_get e'.r hnew))⟩
    | _ => exact q.elim
theorem sim_make (S : Stat D) (F : FnsOk D n k) (C i : String) {es : Ex} (hes : SimL D n k es) : SimE D n k (.make C i es) := by
  intro E N sc X ee hX hm
  simp only [matchE] at hm
  split at hm
  · rename_i g l hxy
    obtain ⟨pos, rfl⟩ := asCall_eq hxy
    split at hm
    · rename_i y hy
      obtain ⟨p, rfl⟩ := asName_eq hy
      simp only [Bool.and_eq_true, beq_iff_eq] at hm
      obtain ⟨⟨⟨⟨⟨ey, hg⟩, ho⟩, ht⟩, hkw⟩, hl⟩ := hm
      subst ey
      obtain ⟨m1, M, d, hd⟩ := S.mkr C i ht
      have hgl : Gl X (lit C) := by show X.env.scope.names.lookup _ = _; rw [hX.hsc]; exact glB_ok hg
      have hmg : X.mg (lit C) = some (.ref (D.adr C)) := by rw [hX.hmg]; exact m1
      have hb : Binds X.K (D.fdat i) (D.fps i) [] := by
        rcases S.mkb C i ht with hp | ⟨q, hk⟩
        · rw [hX.hK]; exact S.bind i d hd hp
        · have hkw' : (D.kwo i).isNone = true := hkw
          rw [hk] at hkw'
          cases hkw'
      have M' : Mk X.K (D.adr C) (D.fadr i) := by rw [hX.hK]; exact M
      have rd : ∀ σ H Q, tE D E (cx D n) (.make C i es) σ H Q → tMake (D.adr C) (spF D n i) [] E (tA D E (cx D n) es) σ H Q := by
        intro σ H Q q
        obtain ⟨G, ρ, env, h, xh, re, q⟩ := q
        refine tG_bind xh re q fun G1 ρ1 H1 y1 vs h1 e1 x1 r1 q1 => fun x dx nx ndx nex => ?_
        rw [List.append_nil]
        refine init_sp x1 r1 (d := d) ?_ nx ndx nex
        refine Eq.mp (congrArg (fun z => OkV D E G1 ρ1 z Q) ?_) q1
        show R.bind (run D.cfg n i (.ref h1.length :: vs) (h1 ++ [.inst C []])) _ = R.bind (run D.cfg n i (.ref h1.length :: vs) (h1 ++ [.inst C []])) _
        refine congrArg _ (funext fun v => funext fun h2 => ?_)
        cases v <;> rfl
      cases l with
      | nil =>
        refine PE.imp (pe_make0 M' (hX.fn F hd) hX.room1 hgl hmg hb .nil hX.pass (okName_d ho)) fun σ H Q q => ?_
        obtain ⟨G, ρ, env, h, xh, re, q⟩ := rd σ H Q q
        cases es with
        | nil => exact q G ρ H [] Ext.refl xh .nil
        | _ => simp [matchL] at hl
      | cons x r =>
        have h1 : notStar x = true := by
          cases es <;> simp [matchL] at hl
          exact hl.1.1
        have h2 : ∀ pos, (backTo pos (starEach r X.env)).any (·.1) = false := fun pos => by
          cases es <;> simp [matchL] at hl
          exact plainArgs (D := D) (N := N) (sc := sc) hl.2 _ _
        exact PE.imp (pe_make M' (hX.fn F hd) hX.room1 hgl hmg hb .nil hX.pass (hes E N sc X (x :: r) hX hl) (okName_d ho) (star_of h1 _ _) (h2 _)) rd
    · cases hm
  · cases hm
theorem kbn_of {f : String} {ks : List Str} {m : Nat} (hk : ∀ (us ws : List Value), us.length = m → ws.length = ks.length → bindArgs (D.fdat f) ⟨us, ks.zip ws⟩ = pure ((D.fps f).zip (us ++ ws))) :
    KBn D.K (D.fdat f) (D.fps f) m ks (fun us ws => us ++ ws) (fun us ws => us ++ ws) :=
  ⟨fun s us ws _ l1 l2 => .of_eq (hk us ws l1 l2), fun r1 r2 => Vals.append r1 r2⟩
theorem tG_bindE {α β γ δ : Type} {rel : Hp → List Addr → α → β → Prop} {rel2 : Hp → List Addr → γ → δ → Prop} {env : EEnv} {σ : L2.St}
    {m : EEnv → M α} {kf : α → M γ} {Q : δ → Hp → Prop} {P : β → Hp → Prop} (x : RH D G ρ h H) (re : REnv D G ρ env σ) (hq : OkG D E rel2 G ρ ((m env h).bind kf) Q)
    (hp : ∀ G1 ρ1 H1 y v h1, m env h = .ok v h1 → Ext G ρ G1 ρ1 → RH D G1 ρ1 h1 H1 → rel G1 ρ1 v y → OkG D E rel2 G1 ρ1 (kf v h1) Q → P y H1) : tG D E rel m σ H P := by
  refine ⟨G, ρ, env, h, x, re, ?_⟩
  cases q : m env h with
  | ok v h1 =>
    rw [q] at hq
    exact fun G1 ρ1 H1 y e1 x1 r1 => hp G1 ρ1 H1 y v h1 q e1 x1 r1 (OkG.mono e1 hq)
  | exc c fs h1 => rw [q] at hq; exact hq
  | no => rw [q] at hq; exact hq
theorem sim_makeK (S : Stat D) (F : FnsOk D n k) (C i : String) (ks : List String) {es kes : Ex} (hes : SimL D n k es) (hC : ∀ a, kes = .cons a .nil → SimE D n k a) : SimE D n k (.makeK C i es ks kes) := by
  intro E N sc X ee hX hm
  simp only [matchE] at hm
  split at hm
  · rename_i g l kw pos
    split at hm
    · rename_i y hy
      obtain ⟨p, rfl⟩ := asName_eq hy
      simp only [Bool.and_eq_true, beq_iff_eq, decide_eq_true_eq] at hm
      obtain ⟨⟨⟨⟨⟨⟨⟨⟨ey, hg⟩, ho⟩, ht⟩, hkw⟩, hka⟩, hk1⟩, hl⟩, hkl⟩ := hm
      subst ey
      obtain ⟨m1, M, d, hd⟩ := S.mkr C i ht
      have hgl : Gl X (lit C) := by show X.env.scope.names.lookup _ = _; rw [hX.hsc]; exact glB_ok hg
      have hmg : X.mg (lit C) = some (.ref (D.adr C)) := by rw [hX.hmg]; exact m1
      have M' : Mk X.K (D.adr C) (D.fadr i) := by rw [hX.hK]; exact M
      obtain ⟨kn, rfl⟩ : ∃ kn, ks = [kn] := by
        match ks, hk1 with
        | [kn], _ => exact ⟨kn, rfl⟩
      obtain ⟨ka, kv, kp⟩ := kw
      have hka' : some ka = some (some (lit kn)) := hka
      obtain rfl := Option.some.inj hka'
      obtain ⟨hfl, hbd⟩ := S.kwb i _ _ hkw
      have hb : KBn X.K (D.fdat i) (D.fps i) (l.length + 1) [lit kn] (fun us ws => us ++ ws) (fun us ws => us ++ ws) := by
        rw [hX.hK]
        exact kbn_of hbd
      obtain ⟨ke, rfl, hke, hks⟩ : ∃ ke, kes = .cons ke .nil ∧ matchE (txOf D) N sc ke kv = true ∧ notStar kv = true := by
        cases kes with
        | cons a b =>
          simp only [matchL, Bool.and_eq_true] at hkl
          cases b with
          | nil => exact ⟨a, rfl, hkl.1.2, hkl.1.1⟩
          | _ => simp [matchL] at hkl
        | _ => simp [matchL] at hkl
      have pk : PK X [⟨some (lit kn), kv, kp⟩] (tCons (tE D E (cx D n) ke) tNil) := pk_cons (hC ke rfl E N sc X kv hX hke) pk_nil
      have rd : ∀ σ H Q, tE D E (cx D n) (.makeK C i es [kn] (.cons ke .nil)) σ H Q → tMakeK (D.adr C) l.length [lit kn].length (spF D n i) (fun us ws => us ++ ws) E (tA D E (cx D n) es) (tCons (tE D E (cx D n) ke) tNil) σ H Q := by
        intro σ H Q q
        obtain ⟨G, ρ, env, h, xh, re, q⟩ := q
        refine tG_bindE xh re q fun G1 ρ1 H1 y1 vs h1 ev1 e1 x1 r1 q1 => ?_
        have hlen := evL_len (cx D n) es env h h1 vs l (txOf D) N sc hl ev1
        have q1' : OkV D E G1 ρ1 ((evE (cx D n) ke env h1).bind fun v h2 => ((Ev.alloc (.inst C []) h2).bind fun o h3 => (run D.cfg n i (o :: (vs ++ [v])) h3).bind fun w h4 => match w with | .non => .ok o h4 | _ => .no)) Q := by
          refine Eq.mp (congrArg (fun z => OkV D E G1 ρ1 z Q) ?_) q1
          show R.bind (R.bind (evE (cx D n) ke env h1) _) _ = _
          cases evE (cx D n) ke env h1 with
          | no => rfl
          | exc _ _ _ => rfl
          | ok v h2 =>
            show R.bind (run D.cfg n i (.ref h2.length :: (vs ++ [v])) (h2 ++ [.inst C []])) _ = R.bind (run D.cfg n i (.ref h2.length :: (vs ++ [v])) (h2 ++ [.inst C []])) _
            refine congrArg _ (funext fun w => funext fun h4 => ?_)
            cases w <;> rfl
        refine tG_bind x1 (re.mono e1) q1' fun G2 ρ2 H2 y2 v h2 e2 x2 r2 q2 => ⟨by rw [r1.length, hlen], rfl, fun x dx nx ndx nex => ?_⟩
        exact init_sp x2 ((r1.mono e2).append (.cons r2 .nil)) (d := d) q2 nx ndx nex
      cases l with
      | nil =>
        refine PE.imp (pe_makeK0 M' (hX.fn F hd) hX.room1 hgl hmg hb hX.pass pk (by rfl) (by rfl) (okName_d ho) (by rfl)) fun σ H Q q => ?_
        have q' := rd σ H Q q
        unfold tMakeK at q' ⊢
        obtain ⟨G, ρ, env, h, xh, re, q2⟩ := q'
        cases es with
        | nil => exact q2 G ρ H [] Ext.refl xh .nil
        | _ => simp [matchL] at hl
      | cons x r =>
        have h1 : notStar x = true := by
          cases es <;> simp [matchL] at hl
          exact hl.1.1
        have h2 : ∀ pos, (backTo pos (starEach r X.env)).any (·.1) = false := fun pos => by
          cases es <;> simp [matchL] at hl
          exact plainArgs (D := D) (N := N) (sc := sc) hl.2 _ _
        refine PE.imp (pe_makeK M' (hX.fn F hd) hX.room1 hgl hmg hb hX.pass (hes E N sc X (x :: r) hX hl) pk (by rfl) (by rfl) (okName_d ho) (star_of h1 _ _) ?_) rd
        rw [star_of h1]
        have := h2 pos
        simp only [backTo, List.map_cons, List.any_cons] at this ⊢
        rw [this]
        rfl
    · cases hm
  · cases hm
end
end Sim

end
section
set_option Elab.async false
set_option linter.all false
set_option maxRecDepth 100000
/-! SimDc0: a dict comprehension, its keys flat or tuples. -/
namespace Sim
open PySem PySem.Spec PyProof.Rows L2
/-- a dict that is being made gets an item -/
theorem dc_put {X : Cx} {pins : List (Addr × Obj)} {σ : L2.St} {K K' : Hp} {u : Shared} {E : Value → Shared → Prop} {D : Addr} {y z : V} {p q : Value} {Q : Unit → Shared → Prop} (hu : X.A.units < cLine)
    (J : Inv X pins σ K u) (g : DPut K D y z K') (rp : RelV y p) (rq : RelV z q) (h : ∀ u', Inv X pins σ K' u' → Q () u') : wpAny (model X.prog X.w) X.A (dictSet D p q) Q E u := by
  rcases g with ⟨l, key, e, ey, lt, eK⟩ | ⟨l, key, c, e, ey, ec, lt, eK⟩
  · subst ey eK
    obtain ⟨z1, nd, vs, rel, dd⟩ := dk_of J.hok e
    have w1 : vs.length ≤ sizeLine := by rw [← rel.length]; exact z1
    have w2 : (putK l key z).length ≤ sizeLine := by have := length_putK l key z; omega
    refine wpAny_dictSet_pairs (hsz := w1) (kV_is rp) dd fun g dd' sb => h _ ?_
    have ex : ∃ o, g.get? D = some o := let ⟨o, _, _, ho, _⟩ := dd'; ⟨o, ho⟩
    exact d_write J (by rw [e]; exact True.intro) sb ex (dk_new w2 nd (rel.put key rq) dd')
  · subst ey eK
    cases (show p = Value.ref c from rp)
    obtain ⟨z1, nd, vs, rel, dd⟩ := dt_of J.hok e
    have w1 : vs.length ≤ sizeLine := by rw [← Paired.length rel]; exact z1
    have w2 : (putK l key z).length ≤ sizeLine := by have := length_putK l key z; omega
    refine wpAny_dictSet_heap (hsz := w1) (by first | exact hu | exact tupleKind_room_in1 (A := X.A) (by omega)) (key_of J.hok ec) dd fun g dd' sb => h _ ?_
    obtain ⟨o, es, ep, ho, k2, k3, k4, _, k5⟩ := dd'
    refine d_write J (by rw [e]; exact True.intro) sb ⟨o, ho⟩ ⟨w2, nd, _, (rel.put key ec rq).keeps fun c' ys e' => ?_, o, es, ep, ho, k2, k3, k4, k5⟩
    rw [upd_ne (ne_of e' e (fun z => nomatch z))]
    exact e'
def newD (t : Bool) : HO := match t with
  | true => .dT []
  | false => .dK []
theorem newD_ok {P : Program} {w : World} {H : Hp} (t : Bool) (g : Heap) (hb : sysModules < g.objs.size) : ObjOk P w H (g.push { cls := .type "dict", data := .dict #[] }) g.objs.size (newD t) := by
  cases t
  · exact dk_empty g hb
  · exact dt_empty g hb
/-- {k: v for target in iter if ..}; t: the keys are tuples -/
def tDm (t : Bool) (wi : TI) (g : TG) (tt : TT) (tk tv : TE) (vs : List Nat) : TE := fun σ H Q => wi σ H fun J H1 => ∀ D, H1 D = none → ∃ W : Nat → Nat → Hp → Prop, (∃ m, W 0 m (upd H1 D (newD t))) ∧ ∀ i m H, W i m H →
  (J.stop i H ∧ Q (.ref D) H) ∨ (J.go i H ∧ ∃ Nx : Hp → Prop, (∀ H', Nx H' → ∃ m', m' < m ∧ W (i + 1) m' H') ∧ ∀ x H', J.yld i H x H' → g x (wipe σ vs) H' fun τ H2 => wipe τ vs = wipe σ vs ∧ tt τ H2 fun b H3 =>
    if b = true then tk τ H3 fun y H4 => tv τ H4 fun z H5 => ∃ H6, DPut H5 D y z H6 ∧ Nx H6 else Nx H3)
section
variable {X : Cx}
theorem dm_core {t : Bool} {pins : List (Addr × Obj)} {u : Shared} {σ : L2.St} {K : Hp} {Q : VK} {kx vx tg it0 : Expr} {ifs : List Expr} {scope : Scope} {own : List (Str × Nat)} {pos pos' : Pos} {wi : TI} {g : TG} {tt : TT} {tk tv : TE} {use : Option (Value → Sem Unit)} {Qf : Value → Shared → Prop}
    (hc : X.calm = true) (hu : X.A.units < cLine) (nd : X.N.Nodup) (J : Inv X pins σ K u) (hi : PI X tg it0 wi) (bo : BlkOk X.N X.env.scope scope own)
    (hg : ∀ (u : Shared) (K : Hp) (C : Addr) (cl : List (Str × Addr)) (fp : List Addr), PG (X.blk u K scope (compEnvC scope cl C X.env) fp) tg g)
    (ht : ∀ (u : Shared) (K : Hp) (C : Addr) (cl : List (Str × Addr)) (fp : List Addr), PTs (X.blk u K scope (compEnvC scope cl C X.env) fp) ifs tt)
    (hk : ∀ (u : Shared) (K : Hp) (C : Addr) (cl : List (Str × Addr)) (fp : List Addr), PE (X.blk u K scope (compEnvC scope cl C X.env) fp) kx tk)
    (hv : ∀ (u : Shared) (K : Hp) (C : Addr) (cl : List (Str × Addr)) (fp : List Addr), PE (X.blk u K scope (compEnvC scope cl C X.env) fp) vx tv) (hs : ∀ x, foldedSetIterable it0 X.env x = pure x)
    (h : tDm t wi g tt tk tv (own.map (·.2)) σ K Q)
    (hend : ∀ D C u' m K', Inv X pins σ K' u' → Q (.ref D) K' → u'.heap.Ns C m → FpOk X pins K' C → compPost (model X.prog X.w) X.A X.xe use Qf (.ref D) C (.ok .next) u') :
    wpAny (model X.prog X.w) X.A (comprehension (.DictComp kx vx [⟨tg, it0, ifs, 0⟩] scope pos) scope X.env pos' newDict false (eval it0 X.env) use) Qf X.xe u := by
  have frees : ∀ y ∈ scope.names, y.2 = .free → ∃ c, X.env.cells.lookup y.1 = some c := fun y hy e => by
    rcases bo.free y hy e with z | z
    · exact J.ok.has _ (.inl z)
    · exact J.ok.has _ (.inr z)
  refine wpAny_comprehension_free (use := use) rfl hs (closure_ok frees) bo.kind (fun y hy e => by rw [bo.uniq y hy, e]) (thn (hi.run pins u σ K _ J h) fun xv u1 hx => thn hx fun iv u2 hh => ?_)
  obtain ⟨it, fp, tn, L, K2, e, J2, T, st2, fk2, q⟩ := hh
  subst e
  refine wpAny_newObj_type (newEnv_comp ?_)
  generalize eD : u2.heap.objs.size = D
  have nD : K2 D = none := J2.hok.fresh (Nat.le_of_eq eD)
  obtain ⟨W, ⟨m0, w0⟩, turn⟩ := q D nD
  generalize e3 : ({ u2 with heap := u2.heap.push { cls := .type "dict", data := .dict #[] } } : Shared) = u3
  have hp3 : u3.heap = u2.heap.push { cls := .type "dict", data := .dict #[] } := by rw [← e3]
  have J3 : Inv X pins σ (upd K2 D (newD t)) u3 := by
    rw [← e3]
    refine J2.laid (t' := u2.toks) (fun b o e => Heap.get?_push_of_some _ e) (Nat.le_of_eq eD) ?_
    rw [← eD]
    exact newD_ok t u2.heap J2.big
  have below : ∀ b ∈ fp, b < u2.heap.objs.size := fun b hb => let ⟨_, e, _⟩ := T.obj _ _ st2 b hb; Heap.lt_size e
  have fk3 : ∀ b ∈ fp, FpOk X pins (upd K2 D (newD t)) b ∧ b < u3.heap.objs.size := fun b hb => by
    have lt := below b hb
    refine ⟨⟨?_, (fk2 b hb).2⟩, by rw [hp3, Heap.size_push]; exact Nat.lt_succ_of_lt lt⟩
    rw [upd_ne (by rw [← eD]; exact Nat.ne_of_lt lt)]
    exact (fk2 b hb).1
  have st3 : tn 0 u3.heap := T.keep _ _ _ st2 fun b _ o e => by rw [hp3]; exact Heap.get?_push_of_some _ e
  have J4 := block_start J3 bo nd fk3
  have pg := hg u3 (upd K2 D (newD t)) u3.heap.objs.size (cellsFrom (u3.heap.objs.size + 1) scope.names (cloFrom X.env.cells scope.names [])) fp
  have pt := ht u3 (upd K2 D (newD t)) u3.heap.objs.size (cellsFrom (u3.heap.objs.size + 1) scope.names (cloFrom X.env.cells scope.names [])) fp
  have pk := hk u3 (upd K2 D (newD t)) u3.heap.objs.size (cellsFrom (u3.heap.objs.size + 1) scope.names (cloFrom X.env.cells scope.names [])) fp
  have pv := hv u3 (upd K2 D (newD t)) u3.heap.objs.size (cellsFrom (u3.heap.objs.size + 1) scope.names (cloFrom X.env.cells scope.names [])) fp
  show codeAny _ _ (.compStart (.DictComp kx vx [⟨tg, it0, ifs, 0⟩] scope pos) 0 (.ref it) (.ref D) (compEnvC scope (cellsFrom (u3.heap.objs.size + 1) scope.names (cloFrom X.env.cells scope.names [])) u3.heap.objs.size X.env)) (compPost (model X.prog X.w) X.A X.xe use Qf (.ref D) u3.heap.objs.size) { u3 with heap := pushCells (u3.heap.push { cls := .type "dict", data := .dict #[] }) scope.names }
  have nfp : ∀ b ∈ fp, (upd K2 D (newD t)) b = none := fun b hb => (fk3 b hb).1.1
  generalize ec : compEnvC scope (cellsFrom (u3.heap.objs.size + 1) scope.names (cloFrom X.env.cells scope.names [])) u3.heap.objs.size X.env = ce at J4 pg pt pk pv ⊢
  have cL : ce.locals = u3.heap.objs.size := by subst ec; rfl
  generalize eK3 : upd K2 D (newD t) = K3 at J3 J4 pg pt pk pv w0 nfp fk3
  generalize e4 : ({ u3 with heap := pushCells (u3.heap.push { cls := .type "dict", data := .dict #[] }) scope.names } : Shared) = u4 at J4 ⊢
  have st4 : tn 0 u4.heap := T.keep _ _ _ st3 fun b _ o e => by rw [← e4]; exact pushCells_keeps _ _ _ _ (Heap.get?_push_of_some _ e)
  have fpk : ∀ {τ : L2.St} {K' : Hp} {u' : Shared}, Inv (X.blk u3 K3 scope ce fp) [] τ K' u' → (∀ b ∈ fp, K' b = none) → ∀ b ∈ fp, FpOk (X.blk u3 K3 scope ce fp) [] K' b := fun {τ K' u'} J' hn b hb =>
    ⟨hn b hb, (J'.ok.exf b hb).1, J'.ok.exfs b hb, .inl hb, fun x c e => (J'.ok.exf b hb).2 x c e, fun p hp => absurd (show p ∈ ([] : List (Addr × Obj)) ++ [] from hp) (by simp)⟩
  have loop : codeAny (model X.prog X.w) X.A (.compLoop (.DictComp kx vx [⟨tg, it0, ifs, 0⟩] scope pos) 0 (.ref it) (.ref D) ce) (compPost (model X.prog X.w) X.A X.xe use Qf (.ref D) u3.heap.objs.size) u4 := by
    refine compLoop_anyD (fun n u' => ∃ i K', Inv (X.blk u3 K3 scope ce fp) [] (wipe σ (own.map (·.2))) K' u' ∧ tn i u'.heap ∧ (∀ b ∈ fp, K' b = none) ∧ W i n K') ?_ m0 ⟨0, K3, J4, st4, nfp, w0⟩
    rintro n u5 ⟨i, K5, J5, st5, n5, w5⟩
    rcases turn i n K5 w5 with ⟨stop, qq⟩ | ⟨go, Nx, hNx, step⟩
    · refine thnF (T.done (X.blk u3 K3 scope ce fp) rfl rfl rfl hc i [] u5 _ K5 (fun _ _ => False) J5 (fpk J5 n5) st5 stop) fun r u6 ⟨hr, J6⟩ => ?_
      subst hr
      have J7 : Inv X pins σ K5 u6 := J3.call' (ch := fp) J6.os J6.base J6.hok J6.bare fun b hb => ⟨(fk3 b hb).1.2.2.2.1, (fk3 b hb).1.2.1, (fk3 b hb).1.2.2.2.2.1, (fk3 b hb).1.2.2.2.2.2⟩
      have nC : K5 u3.heap.objs.size = none := by
        have z : K5 ce.locals = none := J6.free
        rwa [cL] at z
      obtain ⟨m, hn, _⟩ := J6.loc
      have hn : u6.heap.Ns ce.locals m := hn
      rw [cL] at hn
      exact hend D u3.heap.objs.size u6 m K5 J7 qq hn (J3.fpOk (Nat.le_refl _) nC)
    · refine thnF (T.item (X.blk u3 K3 scope ce fp) rfl rfl rfl hc i [] u5 _ K5 (fun _ _ => False) J5 (fpk J5 n5) st5 go) fun r u6 ⟨v, hr, h6⟩ => ?_
      subst hr
      refine thnF h6 fun _ u7 ⟨x, K7, J7, r7, y7, st7, n7⟩ => ?_
      have P7 := J7.pinned (fpk J7 n7) (T.obj _ _ st7)
      refine thnF (pg.run _ u7 _ K7 x v _ P7 r7 (step x K7 y7)) fun _ u8 ⟨τ, K8, J8, hw8, q8⟩ => ?_
      refine thnF (pt.run _ u8 τ K8 _ J8 q8) fun b u9 ⟨K9, J9, q9⟩ => ?_
      have fin : ∀ {u' : Shared} {K' : Hp}, Inv (X.blk u3 K3 scope ce fp) ([] ++ pinsAt fp u7.heap) τ K' u' → Nx K' → ∃ m, m < n ∧ ∃ i K', Inv (X.blk u3 K3 scope ce fp) [] (wipe σ (own.map (·.2))) K' u' ∧ tn i u'.heap ∧ (∀ b ∈ fp, K' b = none) ∧ W i m K' := fun {u' K'} J' nx => by
        obtain ⟨m', hm, w'⟩ := hNx K' nx
        have pin' : ∀ b ∈ fp, ∀ o, u7.heap.get? b = some o → u'.heap.get? b = some o ∧ K' b = none := fun b hb o e =>
          let z := J'.pin (b, o) (List.mem_append_right _ (List.mem_append_right _ (mem_pinsAt hb e)))
          ⟨z.1, z.2.1⟩
        have hl : (wipe σ (own.map (·.2))).length = τ.length := by rw [← hw8, wipe_length]
        refine ⟨m', hm, i + 1, K', (J'.unpinned (pins := [])).weak hl (fun j v e => ?_), T.keep _ _ _ st7 fun b hb o e => (pin' b hb o e).1, fun b hb => ?_, w'⟩
        · rw [← hw8] at e
          exact (wipe_some e).1
        · obtain ⟨o, e, _⟩ := T.obj _ _ st7 b hb
          exact (pin' b hb o e).2
      cases b with
      | false =>
        simp only [Bool.false_eq_true, if_false] at q9 ⊢
        exact fin J9 q9
      | true =>
        simp only [if_true] at q9 ⊢
        refine thnF (pk.run _ u9 τ K9 _ J9 q9) fun z u10 ⟨yk, K10, J10, r10, q10⟩ => thnF (pv.run _ u10 τ K10 _ J10 q10) fun z2 u11 ⟨yv, K11, J11, r11, K12, put, nx⟩ => ?_
        exact dc_put (X := X.blk u3 K3 scope ce fp) hu J11 put r10 r11 fun u12 J12 => fin J12 nx
  exact codeAny_compStart_dict loop (T.self X.A 0 _ _ _ st4 loop)
theorem pe_dm {t : Bool} {kx vx tg it0 : Expr} {ifs : List Expr} {scope : Scope} {own : List (Str × Nat)} {pos : Pos} {wi : TI} {g : TG} {tt : TT} {tk tv : TE} (hc : X.calm = true) (hu : X.A.units < cLine) (nd : X.N.Nodup) (hi : PI X tg it0 wi) (bo : BlkOk X.N X.env.scope scope own)
    (hg : ∀ (u : Shared) (K : Hp) (C : Addr) (cl : List (Str × Addr)) (fp : List Addr), PG (X.blk u K scope (compEnvC scope cl C X.env) fp) tg g)
    (ht : ∀ (u : Shared) (K : Hp) (C : Addr) (cl : List (Str × Addr)) (fp : List Addr), PTs (X.blk u K scope (compEnvC scope cl C X.env) fp) ifs tt)
    (hk : ∀ (u : Shared) (K : Hp) (C : Addr) (cl : List (Str × Addr)) (fp : List Addr), PE (X.blk u K scope (compEnvC scope cl C X.env) fp) kx tk)
    (hv : ∀ (u : Shared) (K : Hp) (C : Addr) (cl : List (Str × Addr)) (fp : List Addr), PE (X.blk u K scope (compEnvC scope cl C X.env) fp) vx tv) (hs : ∀ x, foldedSetIterable it0 X.env x = pure x := by intro _; rfl) :
    PE X (.DictComp kx vx [⟨tg, it0, ifs, 0⟩] scope pos) (tDm t wi g tt tk tv (own.map (·.2))) := by
  refine ⟨fun pins u σ K Q J h => ?_⟩
  rw [arm_eval_DictComp]
  refine dm_core hc hu nd J hi bo hg ht hk hv hs h fun D C u' m K' J' q hn f => ⟨m, hn, fun g sb => ?_⟩
  obtain ⟨f0, f1, f2, f3, f4, f5⟩ := f
  exact ⟨.ref D, K', J'.turned (t' := u'.toks) (fun b o hb e => (sb.2 b hb).trans e) f0 f1 f3 f4 f5, rfl, q⟩
end
end Sim

end
section
set_option Elab.async false
set_option linter.all false
set_option maxRecDepth 100000
/-! SimDc: dict comprehensions, dict displays. -/
namespace Sim
open PySem PySem.Spec PyProof.Rows L2 Ev

section
variable {D : Wd} {n k : Nat} {E : XK} {N : List Str} {sc : Scope} {X : Cx} {ee : Expr} {G : Hp} {ρ : List Addr} {h : EHeap} {H : Hp}
theorem putD_sim {m : Nat} {a : Addr} {i v : Val} {y z : V} {h' : EHeap} (xh : RH D G ρ h H) (hr : ρ[m]? = some a) (ri : RV D G ρ i y) (rv : RV D G ρ v z) (hok : putD (.ref m) i v h = .ok () h') : ∃ H', DPut H a y z H' ∧ RH D G ρ h' H' := by
  simp only [putD] at hok
  cases hm : h[m]? with
  | none => rw [hm] at hok; cases hok
  | some ob =>
    rw [hm] at hok
    cases ob with
    | dict t l =>
      simp only at hok
      split at hok
      · rename_i hk
        injection hok with _ hok
        subst hok
        obtain ⟨u, h1, h2⟩ := xh.obj _ _ _ hr hm
        cases h2 with
        | dictK r =>
          obtain ⟨kk, e1, e2⟩ := key_rel (by simpa [isKey] using hk.1) ri
          subst e2
          have hS := strOk_of hk.1 ri
          exact ⟨_, .inl ⟨_, kk, h1, rfl, by rw [paired_len r, ← most_line]; exact hk.2, rfl⟩, xh.put hr (.dictK (put_rel keyOf_inj e1 hS rv r))⟩
        | dictT r =>
          have hS := strOk_of hk.1 ri
          cases ri with
          | tup s hl rs =>
            obtain ⟨ks, e1, e2⟩ := keys_rel (by simpa [isKey] using hk.1) rs
            subst e2
            exact ⟨_, .inr ⟨_, ks, _, h1, rfl, xh.sub _ _ s, by rw [paired_len r, ← most_line]; exact hk.2, rfl⟩, xh.put hr (.dictT (put_rel keysOf_inj (by simpa [keysOf] using e1) hS rv r))⟩
          | _ => simp [isKey] at hk
      · cases hok
    | list l => cases hok
    | inst _ _ => cases hok
theorem dc_it {J : It} {m : Nat} {G0 : Hp → Prop} {Y : Nat → Hp → V → Hp → Prop} (w : Walk J m G0 Y) {g : TG} {tt : TT} {tk tv : TE} {vs : List Nat} {σ : L2.St} {H1 : Hp} {A : Addr} {o : HO} {Qd : Hp → Prop} (Pv : Nat → Hp → Prop) (h0 : Pv 0 (upd H1 A o)) (hG : ∀ i H, i ≤ m → Pv i H → G0 H)
    (hs : ∀ i x H H', i < m → Pv i H → Y i H x H' → g x (L2.wipe σ vs) H' fun σ2 H2 => L2.wipe σ2 vs = L2.wipe σ vs ∧ tt σ2 H2 fun b H3 =>
      if b = true then tk σ2 H3 fun y H4 => tv σ2 H4 fun z H5 => ∃ H6, DPut H5 A y z H6 ∧ Pv (i + 1) H6 else Pv (i + 1) H3) (hd : ∀ H, Pv m H → Qd H) :
    ∃ W : Nat → Nat → Hp → Prop, (∃ q, W 0 q (upd H1 A o)) ∧ ∀ i q H, W i q H →
      (J.stop i H ∧ Qd H) ∨ (J.go i H ∧ ∃ Nx : Hp → Prop, (∀ H', Nx H' → ∃ q', q' < q ∧ W (i + 1) q' H') ∧ ∀ x H', J.yld i H x H' → g x (L2.wipe σ vs) H' fun σ2 H2 => L2.wipe σ2 vs = L2.wipe σ vs ∧ tt σ2 H2 fun b H3 =>
        if b = true then tk σ2 H3 fun y H4 => tv σ2 H4 fun z H5 => ∃ H6, DPut H5 A y z H6 ∧ Nx H6 else Nx H3) := by
  refine ⟨fun i q H => q = m - i ∧ i ≤ m ∧ Pv i H, ⟨m, by simp, Nat.zero_le _, h0⟩, ?_⟩
  rintro i q H ⟨rfl, hi, p⟩
  have z := hG i H hi p
  by_cases hlt : i < m
  · refine .inr ⟨w.goes i H hlt z, Pv (i + 1), fun H' p' => ⟨m - (i + 1), by omega, rfl, hlt, p'⟩, fun x H' y => hs i x H H' hlt p (w.yields i H x H' hlt z y)⟩
  · have e : i = m := by omega
    subst e
    exact .inl ⟨w.stops H z, hd H p⟩
theorem newD_rel (t : Bool) : RO D G ρ (.dict t []) (newD t) := by
  cases t
  · exact .dictK .nil
  · exact .dictT .nil
theorem dc_loop {E' : XK} {t : Bool} {tk tv : EEnv → M Val} {tc : EEnv → M Bool} {tg : Tg} {own : List Nat} {J : It} {vs : List Val} {lk : Lk} {env : EEnv} {σ : L2.St} {h2 : EHeap} {H1 : Hp} {p : Addr} {Q : VK}
    (w : WalkV D G ρ vs lk J) (hown : ∀ i ∈ tgSlots tg, i ∈ own) (xh : RH D G ρ h H1) (re : REnv D G ρ env σ) (np : H1 p = none)
    (hc : dcLoop lk (fun v => bindTg tg v (wipeE env own)) tc tk tv (.ref h.length) vs (h ++ [.dict t []]) = .ok () h2)
    (hQ : ∀ G' ρ' H', Ext G ρ G' ρ' → RH D G' ρ' h2 H' → ρ'[h.length]? = some p → Q (.ref p) H') :
    ∃ W : Nat → Nat → Hp → Prop, (∃ m, W 0 m (upd H1 p (newD t))) ∧ ∀ i m H, W i m H →
      (J.stop i H ∧ Q (.ref p) H) ∨ (J.go i H ∧ ∃ Nx : Hp → Prop, (∀ H', Nx H' → ∃ m', m' < m ∧ W (i + 1) m' H') ∧ ∀ x H', J.yld i H x H' → tgt D tg x (L2.wipe σ own) H' fun σ2 H2 => L2.wipe σ2 own = L2.wipe σ own ∧ tG D E' relI tc σ2 H2 fun b H3 =>
        if b = true then tG D E' (relV D) tk σ2 H3 fun y H4 => tG D E' (relV D) tv σ2 H4 fun z H5 => ∃ H6, DPut H5 p y z H6 ∧ Nx H6 else Nx H3) := by
  obtain ⟨hmost, Y, wk, wy⟩ := w
  let Pv : Nat → Hp → Prop := fun i H => ∃ G' ρ' h', Ext G ρ G' ρ' ∧ RH D G' ρ' h' H ∧ ρ'[h.length]? = some p ∧ dcLoop lk (fun v => bindTg tg v (wipeE env own)) tc tk tv (.ref h.length) (vs.drop i) h' = .ok () h2
  have chk_of : ∀ {l : List Val} {h' : EHeap}, dcLoop lk (fun v => bindTg tg v (wipeE env own)) tc tk tv (.ref h.length) l h' = .ok () h2 → lkOk lk h' = true := by
    intro l h' hq
    cases hk : lkOk lk h' with
    | true => rfl
    | false =>
      cases l <;> simp [dcLoop, chk, hk] at hq
  refine dc_it (vs := own) (g := tgt D tg) (tt := tG D E' relI tc) (tk := tG D E' (relV D) tk) (tv := tG D E' (relV D) tv) (σ := σ) (H1 := H1) (A := p) (Qd := fun H => Q (.ref p) H) wk Pv ?_ ?_ ?_ ?_
  · -- at first
    obtain ⟨x2, e2⟩ := xh.alloc np (newD_rel (D := D) (G := G) (ρ := ρ ++ [p]) t)
    refine ⟨G, ρ ++ [p], _, e2, x2, ?_, by simpa using hc⟩
    rw [← xh.len]; simp
  · rintro i H hi ⟨G', ρ', h', e, x, hr, hq⟩
    exact ⟨G', ρ', h', e, x, chk_of hq⟩
  · -- a turn
    rintro i x H H' hi ⟨G', ρ', h', e, xh', hr, hq⟩ hy
    obtain ⟨G1, ρ1, v, hv, e1, x1, r1⟩ := wy i G' ρ' h' H x H' hi e xh' (chk_of hq) hy
    have hdrop : vs.drop i = v :: vs.drop (i + 1) := by
      obtain ⟨hlt, rfl⟩ := List.getElem?_eq_some_iff.mp hv
      exact List.drop_eq_getElem_cons hlt
    rw [hdrop] at hq
    have hk := chk_of hq
    simp only [dcLoop, M.bind_at] at hq
    have hck : chk lk h' = .ok () h' := by unfold chk; rw [if_pos hk]
    rw [hck] at hq
    simp only [R.bind_ok] at hq
    cases hb : bindTg tg v (wipeE env own) with
    | none => rw [hb] at hq; simp at hq
    | some env1 =>
      rw [hb] at hq
      simp only [M.bind_at, ofOpt_some, R.bind_ok] at hq
      refine ⟨G1, ρ1, wipeE env own, h', v, env1, x1, ((re.mono (e.trans e1)).wipe own), r1, hb, fun σ2 re2 l2 f2 => ?_⟩
      refine ⟨wipe_same l2 f2 hown, ?_⟩
      refine ⟨G1, ρ1, env1, h', x1, re2, ?_⟩
      cases ht : tc env1 h' with
      | no => rw [ht] at hq; cases hq
      | exc _ _ _ => rw [ht] at hq; cases hq
      | ok b h3 =>
        rw [ht] at hq
        simp only [R.bind_ok] at hq
        intro G3 ρ3 H3 y3 e3 x3 r3
        have r3' : b = y3 := r3
        subst r3'
        cases b with
        | false =>
          simp only [Bool.false_eq_true, if_false] at hq ⊢
          exact ⟨G3, ρ3, h3, (e.trans e1).trans e3, x3, pre_get (e1.trans e3).r hr, hq⟩
        | true =>
          simp only [if_true] at hq ⊢
          refine ⟨G3, ρ3, env1, h3, x3, re2.mono e3, ?_⟩
          simp only [M.bind_at] at hq
          cases hx : tk env1 h3 with
          | no => rw [hx] at hq; cases hq
          | exc _ _ _ => rw [hx] at hq; cases hq
          | ok xv h4 =>
            rw [hx] at hq
            simp only [R.bind_ok, M.bind_at] at hq
            intro G4 ρ4 H4 y4 e4 x4 r4
            refine ⟨G4, ρ4, env1, h4, x4, (re2.mono e3).mono e4, ?_⟩
            cases hz : tv env1 h4 with
            | no => rw [hz] at hq; cases hq
            | exc _ _ _ => rw [hz] at hq; cases hq
            | ok zv h5 =>
              rw [hz] at hq
              simp only [R.bind_ok, M.bind_at] at hq
              intro G5 ρ5 H5 y5 e5 x5 r5
              have hr5 : ρ5[h.length]? = some p := pre_get (((e1.trans e3).trans e4).trans e5).r hr
              cases hp : putD (.ref h.length) xv zv h5 with
              | no => rw [hp] at hq; cases hq
              | exc _ _ _ => rw [hp] at hq; cases hq
              | ok u h6 =>
                rw [hp] at hq
                simp only [R.bind_ok] at hq
                obtain ⟨H6, d6, x6⟩ := putD_sim x5 hr5 (r4.mono e5) r5 hp
                exact ⟨H6, d6, G5, ρ5, h6, (((e.trans e1).trans e3).trans e4).trans e5, x6, hr5, hq⟩
  · -- at last
    rintro H ⟨G', ρ', h', e, x, hr, hq⟩
    have hnil : vs.drop vs.length = [] := List.drop_length
    rw [hnil] at hq
    have hk := chk_of hq
    have hck : chk lk h' = .ok () h' := by unfold chk; rw [if_pos hk]
    simp only [dcLoop, hck, R.ok.injEq] at hq
    obtain ⟨_, rfl⟩ := hq
    exact hQ G' ρ' H e x hr
theorem sim_dcomp {t : Bool} {kx vx : Ex} {tg : Tg} {it cd : Ex} {own : List Nat} (hkx : SimE D n k kx) (hvx : SimE D n k vx) (hit : SimI D n k it) (hcd : SimT D n k cd) : SimE D n k (.dcomp t kx vx tg it cd own) := by
  intro E N sc X ee hX hm
  simp only [matchE] at hm
  split at hm
  · rename_i x y g scope p
    simp only [Bool.and_eq_true, beq_iff_eq] at hm
    obtain ⟨⟨⟨⟨⟨⟨⟨⟨h1, h2⟩, h3⟩, h4⟩, h5⟩, h6⟩, h7⟩, h8⟩, h9⟩ := hm
    obtain ⟨t0, i0, f0, a0⟩ := g
    simp only at h1 h2 h3 h5 h6 h7
    subst h1
    have hown : ∀ i ∈ tgSlots tg, i ∈ own := by
      intro i hi
      have := List.all_eq_true.mp h4 i hi
      simpa using this
    refine PE.imp (pe_dm (t := t) (own := ownOf N own) (wi := tG D E (relW D) (evI (cx D n) it)) (g := tgt D tg) (tt := tG D (fun _ _ _ => False) relI fun e => if isNop cd = true then pure true else (ev (cx D n) cd e).t) (tk := tE D (fun _ _ _ => False) (cx D n) kx) (tv := tE D (fun _ _ _ => False) (cx D n) vx) hX.calm (by have := hX.hu; omega) hX.nd (hit E N sc X t0 i0 hX h6) (by rw [hX.hN, hX.hsc]; exact blkOk_by h2) ?_ ?_ ?_ ?_ ?_) fun σ H Q q => ?_
    · intro s H C cl fp
      have hB := hX.blk s H scope C cl fp
      exact pg_of hB.calm hB.nd hB.hN hB.hK (fun y hy => by
        have := isLoc_ok hy
        rw [hB.hsc]
        exact ⟨.inl this, .inr this⟩) tg t0 h3
    · intro s H C cl fp
      have hB := hX.blk s H scope C cl fp
      split at h7
      · refine PTs.imp pts_nil fun σ H Q q => ?_
        obtain ⟨G, ρ, env, h, xh, re, q⟩ := q
        dsimp only at q
        rw [if_pos h7] at q
        exact q G ρ H true Ext.refl xh rfl
      · rename_i c
        simp only [Bool.and_eq_true, Bool.not_eq_true'] at h7
        refine pts_one (PT.imp (hcd _ N _ _ c hB h7.2) fun σ H Q q => ?_)
        obtain ⟨G, ρ, env, h, xh, re, q⟩ := q
        dsimp only at q
        rw [if_neg (by simp [h7.1])] at q
        exact ⟨G, ρ, env, h, xh, re, q⟩
      · cases h7
    · intro s H C cl fp
      exact hkx _ N _ _ x (hX.blk s H scope C cl fp) h8
    · intro s H C cl fp
      exact hvx _ N _ _ y (hX.blk s H scope C cl fp) h9
    · intro v
      have : notSet i0 = true := h5
      cases hg : i0 <;> first | rfl | (rw [hg] at this; cases this)
    · rw [ownOf_snd]
      obtain ⟨G, ρ, env, h, xh, re, q⟩ := q
      have e0 : evE (cx D n) (.dcomp t kx vx tg it cd own) env h = (evI (cx D n) it env h).bind fun p h1 => (quiet (dcLoop p.2 (fun v => bindTg tg v (wipeE env own)) (fun e => if isNop cd = true then pure true else (ev (cx D n) cd e).t) (fun e => (ev (cx D n) kx e).e) (fun e => (ev (cx D n) vx e).e) (.ref h1.length) p.1) (h1 ++ [.dict t []])).bind fun _ h2 => .ok (.ref h1.length) h2 := rfl
      rw [e0] at q
      refine ⟨G, ρ, env, h, xh, re, ?_⟩
      cases hi : evI (cx D n) it env h with
      | no => rw [hi] at q; exact q.elim
      | exc c fs h1 => rw [hi] at q; exact q
      | ok pr h1 =>
        rw [hi] at q
        obtain ⟨vs, lk⟩ := pr
        intro G1 ρ1 H1 J e1 x1 w D' np
        simp only [R.bind_ok] at q
        cases hc : dcLoop lk (fun v => bindTg tg v (wipeE env own)) (fun e => if isNop cd = true then pure true else (ev (cx D n) cd e).t) (fun e => (ev (cx D n) kx e).e) (fun e => (ev (cx D n) vx e).e) (.ref h1.length) vs (h1 ++ [.dict t []]) with
        | no => simp only [quiet, hc] at q; exact q.elim
        | exc c fs h2 => simp only [quiet, hc] at q; exact q.elim
        | ok u h2 =>
          simp only [quiet, hc, R.bind_ok] at q
          exact dc_loop (E' := fun _ _ _ => False) w hown x1 (re.mono e1) np hc fun G' ρ' H' e2 x2 hr => q G' ρ' H' _ (e1.trans e2) x2 (.ref hr)
  · cases hm
/-! ### displays -/
def trsOf (D : Wd) (E : XK) (n : Nat) : Ex → Ex → List (TE × TE)
  | .cons a as, .cons b bs => (tE D E (cx D n) a, tE D E (cx D n) b) :: trsOf D E n as bs
  | _, _ => []
theorem pps_of (hX : XOk D E k N sc X) {pos : Pos} : ∀ (ks vs : Ex) (keys : List (Option Expr)) (values : List Expr), (∀ x ∈ elems ks, SimE D n k x) → (∀ x ∈ elems vs, SimE D n k x) → matchK (txOf D) N sc ks keys = true → matchL (txOf D) N sc vs values = true → keys.length = values.length →
    PPs X pos keys values (trsOf D E n ks vs)
  | .nil, vs, keys, values, _, _, h1, h2, hl => by
    simp only [matchK, List.isEmpty_iff] at h1
    subst h1
    have : values = [] := by
      cases values with
      | nil => rfl
      | cons _ _ => simp at hl
    subst this
    have : trsOf D E n .nil vs = [] := by cases vs <;> rfl
    rw [this]
    exact pps_nil
  | .cons a as, vs, keys, values, m1, m2, h1, h2, hl => by
    simp only [matchK] at h1
    split at h1
    · rename_i x r
      simp only [Bool.and_eq_true] at h1
      cases vs with
      | cons b bs =>
        simp only [matchL] at h2
        split at h2
        · rename_i y s
          simp only [Bool.and_eq_true] at h2
          exact pps_cons (m1 a (by simp [elems]) E N sc X x hX h1.1.2) (m2 b (by simp [elems]) E N sc X y hX h2.1.2) (pps_of hX as bs r s (fun z hz => m1 z (by simp [elems, hz])) (fun z hz => m2 z (by simp [elems, hz])) h1.2 h2.2 (by simpa using hl))
        · cases h2
      | nil =>
        simp only [matchL, List.isEmpty_iff] at h2
        subst h2
        simp at hl
      | _ => simp [matchL] at h2
    · cases h1
theorem consts_match : ∀ (ks : Ex) (keys : List (Option Expr)), matchK (txOf D) N sc ks keys = true → ∃ a, Ev.constsOf ks = some a ∧ a.length = keys.length ∧ ∀ v ∈ a, isKey0 v = true ∧ strOk v
  | .nil, keys, h => by
    simp only [matchK, List.isEmpty_iff] at h
    subst h
    exact ⟨[], rfl, rfl, fun v hv => by cases hv⟩
  | .cons e es, keys, h => by
    simp only [matchK] at h
    split at h
    · rename_i x r
      simp only [Bool.and_eq_true] at h
      obtain ⟨⟨h1, h2⟩, h3⟩ := h
      obtain ⟨a, ha, hl, hs⟩ := consts_match es r h3
      cases e with
      | cst v =>
        refine ⟨v :: a, by simp [Ev.constsOf, ha], by simp [hl], ?_⟩
        intro w hw
        rcases List.mem_cons.mp hw with q | q
        · subst q
          refine ⟨h1, ?_⟩
          simp only [matchE] at h2
          split at h2
          · rename_i c hc
            cases w with
            | str s =>
              cases c <;> simp at h2
              exact ⟨h2.1.2, h2.2⟩
            | int i => trivial
            | _ => cases h1
          · cases h2
        · exact hs w q
      | _ => cases h1
    · cases h
/-- the pairs of a display as the evaluator reads them -/
theorem tPairs_of {env : EEnv} {σ : L2.St} : ∀ (ks vs : Ex) (a : List Val) (values : List Expr) (G : Hp) (ρ : List Addr) (h : EHeap) (H : Hp) (Q : List (V × V) → Hp → Prop), Ev.constsOf ks = some a → (∀ v ∈ a, isKey0 v = true ∧ strOk v) → matchL (txOf D) N sc vs values = true → values.length = a.length → RH D G ρ h H → REnv D G ρ env σ →
    OkG D E (relL D) G ρ (evL (cx D n) vs env h) (fun ys H' => ∀ kk : List Key, a.mapM keyOf = some kk → Q ((kk.map kV).zip ys) H') → tPairs (trsOf D E n ks vs) σ H Q
  | .nil, vs, a, values, G, ρ, h, H, Q, ha, hk, hm, hl, xh, re, q => by
    simp only [Ev.constsOf, Option.some.injEq] at ha
    subst ha
    cases values with
    | cons _ _ => simp at hl
    | nil =>
      cases vs with
      | nil =>
        have q' : OkG D E (relL D) G ρ (.ok [] h) _ := q
        exact q' G ρ H [] Ext.refl xh .nil [] rfl
      | _ => simp [matchL] at hm
  | .cons e es, vs, a, values, G, ρ, h, H, Q, ha, hk, hm, hl, xh, re, q => by
    cases e with
    | cst v =>
      simp only [Ev.constsOf, Option.map_eq_some_iff] at ha
      obtain ⟨a', ha, rfl⟩ := ha
      cases values with
      | nil => simp at hl
      | cons y s =>
        cases vs with
        | cons b bs =>
          simp only [matchL, Bool.and_eq_true] at hm
          refine ⟨G, ρ, env, h, xh, re, ?_⟩
          intro G1 ρ1 H1 x e1 x1 r1
          obtain ⟨kk, hkk, rfl⟩ := key_rel (hk v (by simp)).1 r1
          have q1 : OkG D E (relL D) G ρ ((evE (cx D n) b env h).bind fun v2 h2 => (evL (cx D n) bs env h2).bind fun l h3 => .ok (v2 :: l) h3) _ := q
          refine tG_bind x1 (re.mono e1) (OkG.mono e1 q1) fun G2 ρ2 H2 y2 v2 h2 e2 x2 r2 q2 => ?_
          refine tPairs_of es bs a' s G2 ρ2 h2 H2 _ ha (fun w hw => hk w (by simp [hw])) hm.2 (by simpa using hl) x2 ((re.mono e1).mono e2) ?_
          cases he : evL (cx D n) bs env h2 with
          | no => rw [he] at q2; exact q2.elim
          | exc c fs h3 => rw [he] at q2; exact q2
          | ok l h3 =>
            rw [he] at q2
            intro G3 ρ3 H3 ys e3 x3 r3 kks hkks
            exact q2 G3 ρ3 H3 (y2 :: ys) e3 x3 (.cons (r2.mono e3) r3) (kk :: kks) (by rw [List.mapM_cons, hkk, hkks]; rfl)
        | _ => simp [matchL] at hm
    | _ => simp [Ev.constsOf] at ha
theorem keys_all : ∀ {a : List Val}, (∀ v ∈ a, isKey0 v = true ∧ strOk v) → ∃ kk, a.mapM keyOf = some kk ∧ kk.length = a.length
  | [], _ => ⟨[], rfl, rfl⟩
  | v :: a, h => by
    obtain ⟨kk, h1, h2⟩ := keys_all (a := a) fun w hw => h w (by simp [hw])
    have hv := (h v (by simp)).1
    cases v with
    | int i => exact ⟨.inl i :: kk, by rw [List.mapM_cons, h1]; rfl, by simp [h2]⟩
    | str s => exact ⟨.inr s :: kk, by rw [List.mapM_cons, h1]; rfl, by simp [h2]⟩
    | _ => cases hv
abbrev KR (D : Wd) (G : Hp) (ρ : List Addr) : Val × Val → Key × V → Prop := fun p q => keyOf p.1 = some q.1 ∧ strOk p.1 ∧ RV D G ρ p.2 q.2
theorem zip_paired : ∀ {a b : List Val} {kk : List Key} {ys : List V}, a.mapM keyOf = some kk → (∀ v ∈ a, isKey0 v = true ∧ strOk v) → RVs D G ρ b ys → Paired (KR D G ρ) (a.zip b) (kk.zip ys)
  | [], b, kk, ys, h1, _, _ => by
    cases h1
    simp only [List.zip_nil_left]
    exact .nil
  | v :: a, b, kk, ys, h1, h2, h3 => by
    rw [List.mapM_cons] at h1
    cases hv : keyOf v with
    | none => rw [hv] at h1; cases h1
    | some k0 =>
      rw [hv] at h1
      cases ha : a.mapM keyOf with
      | none => rw [ha] at h1; cases h1
      | some ks =>
        rw [ha] at h1
        cases h1
        cases h3 with
        | nil => simp only [List.zip_nil_right]; exact .nil
        | cons r1 r2 => exact .cons ⟨hv, (h2 v (by simp)).2, r1⟩ (zip_paired ha (fun w hw => h2 w (by simp [hw])) r2)
theorem fold_rel : ∀ {l : List (Val × Val)} {kvs : List (Key × V)}, Paired (KR D G ρ) l kvs → ∀ {acc : List (Val × Val)} {accK : List (Key × V)}, Paired (KR D G ρ) acc accK → Paired (KR D G ρ) (l.foldl (fun e p => dictPut e p.1 p.2) acc) (mergeK accK kvs)
  | _, _, .nil, _, _, r => r
  | _, _, .cons (a := p) (b := q) h t, acc, accK, r => by
    obtain ⟨p1, p2⟩ := p
    obtain ⟨q1, q2⟩ := q
    exact fold_rel t (put_rel keyOf_inj h.1 h.2.1 h.2.2 r)
theorem sim_dict (t : Bool) (ks vs : Ex) (m1 : ∀ x ∈ elems ks, SimE D n k x) (m2 : ∀ x ∈ elems vs, SimE D n k x) : SimE D n k (.dict t ks vs) := by
  intro E N sc X ee hX hm
  simp only [matchE] at hm
  split at hm
  · rename_i keys values pos
    split at hm
    · split at hm
      · simp only [List.isEmpty_iff] at hm
        subst hm
        have rd : ∀ σ H Q, tE D E (cx D n) (.dict t .nil .nil) σ H Q → ∃ G ρ env h, RH D G ρ h H ∧ REnv D G ρ env σ ∧ OkV D E G ρ (alloc (.dict t []) h) Q := fun σ H Q q => q
        cases t with
        | false =>
          refine PE.imp pe_dnewK fun σ H Q q => ?_
          obtain ⟨G, ρ, env, h, xh, re, q⟩ := rd σ H Q q
          intro p np
          obtain ⟨x2, e2⟩ := xh.alloc (o := .dict false []) (u := .dK []) np (.dictK .nil)
          refine q _ _ _ _ e2 x2 (.ref ?_)
          rw [← xh.len]
          simp
        | true =>
          refine PE.imp pe_dnewT fun σ H Q q => ?_
          obtain ⟨G, ρ, env, h, xh, re, q⟩ := rd σ H Q q
          intro p np
          obtain ⟨x2, e2⟩ := xh.alloc (o := .dict true []) (u := .dT []) np (.dictT .nil)
          refine q _ _ _ _ e2 x2 (.ref ?_)
          rw [← xh.len]
          simp
      · cases hm
    · rename_i k0 kr
      simp only [Bool.and_eq_true, Bool.not_eq_true', decide_eq_true_eq] at hm
      obtain ⟨⟨⟨⟨ht, h15⟩, hlen⟩, hk⟩, hl⟩ := hm
      subst ht
      obtain ⟨a, ha, hal, has⟩ := consts_match ks _ hk
      have hsome : (k0 :: kr).all (·.isSome) = true := by
        have : ∀ (ks : Ex) (l : List (Option Expr)), matchK (txOf D) N sc ks l = true → l.all (·.isSome) = true := by
          intro ks
          induction ks with
          | nil => intro l hl; simp only [matchK, List.isEmpty_iff] at hl; subst hl; rfl
          | cons e es _ ih =>
            intro l hl
            simp only [matchK] at hl
            split at hl
            · simp only [Bool.and_eq_true] at hl
              simp [ih _ hl.2]
            · cases hl
          | _ => intro l hl; simp [matchK] at hl
        exact this ks _ hk
      refine PE.imp (pe_disp (pps_of hX (pos := pos) ks vs _ values m1 m2 hk hl hlen) hsome hlen (by simp) h15) fun σ H Q q => ?_
      obtain ⟨G, ρ, env, h, xh, re, q⟩ := q
      cases a with
      | nil => simp at hal
      | cons k1 ar =>
        have e0 : evE (cx D n) (.dict false ks vs) env h = (evL (cx D n) vs env (h ++ [.dict false []])).bind fun b h2 => (guardM (!false && decide ((k1 :: ar).length = b.length)) h2).bind fun _ h3 => (emptyD (.ref h.length) h3).bind fun _ h4 => fillD (.ref h.length) ((k1 :: ar).zip b) h4 := by
          have : evE (cx D n) (.dict false ks vs) env h = (bE (match Ev.constsOf ks with
            | some [] => alloc (.dict false [])
            | some (k :: r) => do
              let d ← alloc (.dict false [])
              let b ← (ev (cx D n) vs env).l
              guardM (!false && decide ((k :: r).length = b.length))
              emptyD d
              fillD d ((k :: r).zip b)
            | none => stuck)).e h := rfl
          rw [this, ha]
          rfl
        rw [e0] at q
        intro p np
        obtain ⟨x2, e2⟩ := xh.alloc (o := .dict false []) (u := .dK []) np (.dictK .nil)
        have hr0 : (ρ ++ [p])[h.length]? = some p := by rw [← xh.len]; simp
        refine tPairs_of ks vs (k1 :: ar) values G (ρ ++ [p]) _ _ _ ha has hl (by rw [hal]; exact hlen.symm) x2 (re.mono e2) ?_
        cases he : evL (cx D n) vs env (h ++ [.dict false []]) with
        | no => rw [he] at q; exact q.elim
        | exc c fs h3 => rw [he] at q; exact Exc.mono e2 q
        | ok b h2 =>
          rw [he] at q
          simp only [R.bind_ok] at q
          intro G3 ρ3 H3 ys e3 x3 r3 kk hkk
          rw [guard_at] at q
          split at q
          · simp only [R.bind_ok] at q
            have hr3 := pre_get e3.r hr0
            by_cases hd : h2[h.length]? = some (.dict false [])
            · have e4 : emptyD (.ref h.length) h2 = .ok () h2 := by simp only [emptyD]; rw [if_pos hd]
              rw [e4] at q
              simp only [R.bind_ok] at q
              obtain ⟨u, hu, ro⟩ := x3.obj _ _ _ hr3 hd
              cases ro with
              | dictK r =>
                cases r
                have hz := zip_paired hkk has r3
                have hf := fold_rel hz .nil
                have hkl : kk.length = (k1 :: ar).length := by
                  obtain ⟨kk', w1, w2⟩ := keys_all has
                  rw [hkk] at w1
                  cases w1
                  exact w2
                refine ⟨hu, kk.zip ys, ?_, ?_, ?_⟩
                · rw [List.zip_map_left]
                  rfl
                · have : (kk.zip ys).length ≤ kk.length := by rw [List.length_zip]; exact Nat.min_le_left _ _
                  rw [hkl, hal] at this
                  omega
                · exact q G3 ρ3 _ (.ref p) (e2.trans e3) (x3.put hr3 (.dictK hf)) (.ref hr3)
            · have e4 : emptyD (.ref h.length) h2 = .no := by simp only [emptyD]; rw [if_neg hd]
              rw [e4] at q
              exact q.elim
          · exact q.elim
  · cases hm
end
end Sim

end
section
set_option Elab.async false
set_option linter.all false
set_option maxRecDepth 100000
/-! SimS: all expressions, all statements. -/
namespace Sim
open PySem PySem.Spec PyProof.Rows L2 Ev

section
variable {D : Wd} {n k : Nat}
theorem T_of {e : Ex} (hE : SimE D n k e) (hp : plainX e = true) (ht : ∀ env, (ev (cx D n) e env).t = truthM (ev (cx D n) e env).e) : SimT D n k e :=
  fun E N sc X ee hX hm => pt_plain (hE E N sc X ee hX hm) hX.hK (plain_of hp hm) ht
theorem SimX.mk' {e : Ex} (hE : SimE D n k e) (hT : SimT D n k e) (hL : ∀ N sc l, matchL (txOf D) N sc e l = false) (hB : ∀ N sc op l, matchB2 (txOf D) N sc op e l = false) (hF : ∀ N sc x, matchF (txOf D) N sc e x = false) (hI : ∀ N sc t x, matchI (txOf D) N sc e t x = false) (hC : ∀ a b, e ≠ .cons a b) (hK : ∀ a b c d f, e ≠ .fcomp a b c d f) (hM : ∀ x ∈ elems e, SimE D n k x := by intro x hx; cases hx) : SimX D n k e :=
  ⟨hE, hT, fun E N sc X l hX hm => (by rw [hL] at hm; cases hm), fun E N sc X op l pos hX hm => (by rw [hB] at hm; cases hm), fun E N sc X x hX hm => (by rw [hF] at hm; cases hm), fun E N sc X t x hX hm => (by rw [hI] at hm; cases hm),
    fun a b he => absurd he (hC a b), fun a b c d f he => absurd he (hK a b c d f), hM⟩
/-- a plain form -/
theorem SimX.pl {e : Ex} (hE : SimE D n k e) (hp : plainX e = true) (ht : ∀ env, (ev (cx D n) e env).t = truthM (ev (cx D n) e env).e) (hL : ∀ N sc l, matchL (txOf D) N sc e l = false) (hB : ∀ N sc op l, matchB2 (txOf D) N sc op e l = false) (hF : ∀ N sc x, matchF (txOf D) N sc e x = false) (hI : ∀ N sc t x, matchI (txOf D) N sc e t x = false) (hC : ∀ a b, e ≠ .cons a b) (hK : ∀ a b c d f, e ≠ .fcomp a b c d f) (hM : ∀ x ∈ elems e, SimE D n k x := by intro x hx; cases hx) : SimX D n k e :=
  .mk' hE (T_of hE hp ht) hL hB hF hI hC hK hM
/-- what is no expression -/
theorem SimX.no {e : Ex} (hE : ∀ N sc x, matchE (txOf D) N sc e x = false) (hL : SimL D n k e) (hB : ∀ N sc op l, matchB2 (txOf D) N sc op e l = false) (hF : SimF D n k e) (hI : SimI D n k e) (hC : ∀ a b, e = .cons a b → SimE D n k a ∧ ∀ c d, b = .cons c d → SimE D n k c) (hK : LcS D n k e) (hM : ∀ x ∈ elems e, SimE D n k x := by intro x hx; cases hx) : SimX D n k e :=
  ⟨fun E N sc X x hX hm => (by rw [hE] at hm; cases hm), fun E N sc X x hX hm => (by rw [hE] at hm; cases hm), hL, fun E N sc X op l pos hX hm => (by rw [hB] at hm; cases hm), hF, hI, hC, hK, hM⟩
theorem noE {e : Ex} (h : ∀ N sc x, matchE (txOf D) N sc e x = false) : SimE D n k e := fun E N sc X x hX hm => by rw [h] at hm; cases hm
theorem noT {e : Ex} (h : ∀ N sc x, matchE (txOf D) N sc e x = false) : SimT D n k e := fun E N sc X x hX hm => by rw [h] at hm; cases hm
theorem noL {e : Ex} (h : ∀ N sc x, matchL (txOf D) N sc e x = false) : SimL D n k e := fun E N sc X x hX hm => by rw [h] at hm; cases hm
theorem noF {e : Ex} (h : ∀ N sc x, matchF (txOf D) N sc e x = false) : SimF D n k e := fun E N sc X x hX hm => by rw [h] at hm; cases hm
theorem noI {e : Ex} (h : ∀ N sc t x, matchI (txOf D) N sc e t x = false) : SimI D n k e := fun E N sc X t x hX hm => by rw [h] at hm; cases hm
local macro_rules | `(tactic| trivial) => `(tactic| (intros; simp [matchE, matchL, matchB2, matchF, matchI]; done))
theorem simX (S : Stat D) (Tb : Tab D) (F : FnsOk D n k) (e : Ex) : SimX D n k e := by
  induction e with
  | var i => exact .pl (sim_var i) rfl (fun _ => rfl) (by trivial) (by trivial) (by trivial) (by trivial) (by simp) (by simp)
  | cst v => exact .pl (sim_cst v) rfl (fun _ => rfl) (by trivial) (by trivial) (by trivial) (by trivial) (by simp) (by simp)
  | glob x => exact .pl (sim_glob S x) rfl (fun _ => rfl) (by trivial) (by trivial) (by trivial) (by trivial) (by simp) (by simp)
  | tup es ih => exact .pl (sim_tup ih.L) rfl (fun _ => rfl) (by trivial) (by trivial) (by trivial) (by trivial) (by simp) (by simp)
  | fz f ih => exact .pl (sim_fz ih.F) rfl (fun _ => rfl) (by trivial) (by trivial) (by trivial) (by trivial) (by simp) (by simp)
  | bx f ih => exact .pl (sim_bx ih.F) rfl (fun _ => rfl) (by trivial) (by trivial) (by trivial) (by trivial) (by simp) (by simp)
  | dict t ks vs ih1 ih2 => exact .pl (sim_dict t ks vs ih1.M ih2.M) rfl (fun _ => rfl) (by trivial) (by trivial) (by trivial) (by trivial) (by simp) (by simp)
  | dcomp t k v tg it c own ih1 ih2 ih3 ih4 => exact .pl (sim_dcomp ih1.E ih2.E ih3.I ih4.T) rfl (fun _ => rfl) (by trivial) (by trivial) (by trivial) (by trivial) (by simp) (by simp)
  | nil => exact .no (by trivial) sim_nil (by trivial) (noF (by trivial)) (noI (by trivial)) (by simp) (by intro _ _ _ _ _ he; cases he)
  | cons e es ih1 ih2 => exact .no (by trivial) (sim_cons ih1.E ih2.L) (by trivial) (noF (by trivial)) (noI (by trivial)) (fun a b he => by
      injection he with h1 h2
      subst h1 h2
      exact ⟨ih1.E, fun c d hd => (ih2.C c d hd).1⟩) (by intro _ _ _ _ _ he; cases he) (fun x hx => by
      rcases List.mem_cons.mp hx with q | q
      · subst q; exact ih1.E
      · exact ih2.M x q)
  | bin o a b iha ihb => exact .pl (sim_bin o iha.E ihb.E) rfl (fun _ => rfl) (by trivial) (by trivial) (by trivial) (by trivial) (by simp) (by simp)
  | neg a iha => exact .pl (sim_neg iha.E) rfl (fun _ => rfl) (by trivial) (by trivial) (by trivial) (by trivial) (by simp) (by simp)
  | cmp o a b iha ihb => exact .mk' (sim_cmp Tb o iha.E ihb.E).1 (sim_cmp Tb o iha.E ihb.E).2 (by trivial) (by trivial) (by trivial) (by trivial) (by simp) (by simp)
  | chain o p a b c iha ihb ihc => exact .mk' (sim_chain o p iha.E ihb.E ihc.E).1 (sim_chain o p iha.E ihb.E ihc.E).2 (by trivial) (by trivial) (by trivial) (by trivial) (by simp) (by simp)
  | isN nn a iha => exact .mk' (sim_isN nn iha.E).1 (sim_isN nn iha.E).2 (by trivial) (by trivial) (by trivial) (by trivial) (by simp) (by simp)
  | and_ a b iha ihb =>
    obtain ⟨h1, h2, h3⟩ := sim_and iha.E iha.T ihb.E ihb.T ihb.B
    exact ⟨h1, h2, noL (by trivial), h3, noF (by trivial), noI (by trivial), by simp, (by intro _ _ _ _ _ he; cases he), (by intro x hx; cases hx)⟩
  | or_ a b iha ihb =>
    obtain ⟨h1, h2, h3⟩ := sim_or iha.E iha.T ihb.E ihb.T ihb.B
    exact ⟨h1, h2, noL (by trivial), h3, noF (by trivial), noI (by trivial), by simp, (by intro _ _ _ _ _ he; cases he), (by intro x hx; cases hx)⟩
  | not_ a iha => exact .mk' (sim_not iha.E iha.T).1 (sim_not iha.E iha.T).2 (by trivial) (by trivial) (by trivial) (by trivial) (by simp) (by simp)
  | ite c a b ihc iha ihb => exact .mk' (sim_ite ihc.T iha.E ihb.E) (sim_iteT ihc.T iha.T ihb.T) (by trivial) (by trivial) (by trivial) (by trivial) (by simp) (by simp)
  | attr a f iha => exact .pl (sim_attr S f iha.E) rfl (fun _ => rfl) (by trivial) (by trivial) (by trivial) (by trivial) (by simp) (by simp)
  | prop a f _ => exact .pl (noE (by trivial)) rfl (fun _ => rfl) (by trivial) (by trivial) (by trivial) (by trivial) (by simp) (by simp)
  | idx a b iha ihb => exact .pl (sim_idx Tb iha.E ihb.E) rfl (fun _ => rfl) (by trivial) (by trivial) (by trivial) (by trivial) (by simp) (by simp)
  | slc a lo hi iha ihl ihh => exact .pl (sim_slc iha.E ihl.E ihh.E) rfl (fun _ => rfl) (by trivial) (by trivial) (by trivial) (by trivial) (by simp) (by simp)
  | nop => exact .no (by trivial) (noL (by trivial)) (by trivial) (noF (by trivial)) (noI (by trivial)) (by simp) (by intro _ _ _ _ _ he; cases he)
  | dead => exact .mk' sim_dead sim_deadT (by trivial) (by trivial) (by trivial) (by trivial) (by simp) (by simp)
  | srev a iha => exact .pl (sim_srev iha.E) rfl (fun _ => rfl) (by trivial) (by trivial) (by trivial) (by trivial) (by simp) (by simp)
  | call f es ih => exact .pl (sim_call S F f ih.L) rfl (fun _ => rfl) (by trivial) (by trivial) (by trivial) (by trivial) (by simp) (by simp)
  | callV i es ih => exact .pl (sim_callV S F i ih.L) rfl (fun _ => rfl) (by trivial) (by trivial) (by trivial) (by trivial) (by simp) (by simp)
  | callK f es ks kes src _ _ => exact .pl (noE (by trivial)) rfl (fun _ => rfl) (by trivial) (by trivial) (by trivial) (by trivial) (by simp) (by simp)
  | prim p es ih => exact .pl (sim_prim S p ih.L) rfl (fun _ => rfl) (by trivial) (by trivial) (by trivial) (by trivial) (by simp) (by simp)
  | isi a ts iha => exact .pl (sim_isi S ts iha.E) rfl (fun _ => rfl) (by trivial) (by trivial) (by trivial) (by trivial) (by simp) (by simp)
  | pm m o es iho ihs => exact .pl (sim_pm m iho.E ihs.L (fun e es' he => (ihs.C e es' he).1) (fun e f es' he => ⟨(ihs.C _ _ he).1, (ihs.C _ _ he).2 f es' rfl⟩)) rfl (fun _ => rfl) (by trivial) (by trivial) (by trivial) (by trivial) (by simp) (by simp)
  | meth o m es iho ihs => exact .pl (sim_meth S F m iho.E ihs.L) rfl (fun _ => rfl) (by trivial) (by trivial) (by trivial) (by trivial) (by simp) (by simp)
  | methK o m es ks kes src _ _ _ => exact .pl (noE (by trivial)) rfl (fun _ => rfl) (by trivial) (by trivial) (by trivial) (by trivial) (by simp) (by simp)
  | lenO a _ => exact .pl (noE (by trivial)) rfl (fun _ => rfl) (by trivial) (by trivial) (by trivial) (by trivial) (by simp) (by simp)
  | make c i es ih => exact .pl (sim_make S F c i ih.L) rfl (fun _ => rfl) (by trivial) (by trivial) (by trivial) (by trivial) (by simp) (by simp)
  | makeK c i es ks kes ih1 ih2 => exact .pl (sim_makeK S F c i ks ih1.L (fun a ha => (ih2.C a _ ha).1)) rfl (fun _ => rfl) (by trivial) (by trivial) (by trivial) (by trivial) (by simp) (by simp)
  | fstr es _ => exact .pl (noE (by trivial)) rfl (fun _ => rfl) (by trivial) (by trivial) (by trivial) (by trivial) (by simp) (by simp)
  | exFld i f => exact .pl (noE (by trivial)) rfl (fun _ => rfl) (by trivial) (by trivial) (by trivial) (by trivial) (by simp) (by simp)
  | exIsi i cs => exact .pl (noE (by trivial)) rfl (fun _ => rfl) (by trivial) (by trivial) (by trivial) (by trivial) (by simp) (by simp)
  | fdisp es ih => exact .no (by trivial) (noL (by trivial)) (by trivial) (sim_fdisp ih.L) (noI (by trivial)) (by simp) (by intro _ _ _ _ _ he; cases he)
  | fcomp elt tg it c own ih1 ih2 ih3 => exact .no (by trivial) (noL (by trivial)) (by trivial) (sim_fcomp ih1.E ih2.I ih3.T) (noI (by trivial)) (by simp) (by
      intro a b c d f he
      injection he with h1 h2 h3 h4 h5
      subst h1 h2 h3 h4 h5
      exact ⟨ih1.E, ih2.I, ih3.T⟩)
  | fslc a lo hi _ _ _ => exact .no (by trivial) (noL (by trivial)) (by trivial) (noF (by trivial)) (noI (by trivial)) (by simp) (by intro _ _ _ _ _ he; cases he)
  | fprim p es ih => exact .no (by trivial) (noL (by trivial)) (by trivial) (sim_fprim S p ih.L ih.M) (noI (by trivial)) (by simp) (by intro _ _ _ _ _ he; cases he)
  | itV a iha => exact .no (by trivial) (noL (by trivial)) (by trivial) (noF (by trivial)) (sim_itV iha.E) (by simp) (by intro _ _ _ _ _ he; cases he)
  | itRange es ih => exact .no (by trivial) (noL (by trivial)) (by trivial) (noF (by trivial)) (sim_itRange S ih.L) (by simp) (by intro _ _ _ _ _ he; cases he)
  | itEnum a iha => exact .no (by trivial) (noL (by trivial)) (by trivial) (noF (by trivial)) (sim_itEnum S iha.E) (by simp) (by intro _ _ _ _ _ he; cases he)
  | itZip a b iha ihb => exact .no (by trivial) (noL (by trivial)) (by trivial) (noF (by trivial)) (sim_itZip S iha.E ihb.E) (by simp) (by intro _ _ _ _ _ he; cases he)
  | itItems a _ => exact .no (by trivial) (noL (by trivial)) (by trivial) (noF (by trivial)) (noI (by trivial)) (by simp) (by intro _ _ _ _ _ he; cases he)
  | itValues a _ => exact .no (by trivial) (noL (by trivial)) (by trivial) (noF (by trivial)) (noI (by trivial)) (by simp) (by intro _ _ _ _ _ he; cases he)
  | itIter a _ => exact .no (by trivial) (noL (by trivial)) (by trivial) (noF (by trivial)) (noI (by trivial)) (by simp) (by intro _ _ _ _ _ he; cases he)
/-- a single statement, a block -/
theorem single {s : Sx} (hq : SimQ D n k s) (h : ∀ N sc ss, matchS (txOf D) N sc s ss = true → ∃ st, ss = [st]) : SimQ D n k s ∧ SimS D n k s := by
  refine ⟨hq, fun E N sc X ss hX hm => ?_⟩
  obtain ⟨st, rfl⟩ := h N sc ss hm
  exact pss_one (hq E N sc X st hX hm)
theorem noQ {s : Sx} (h : ∀ N sc ss, matchS (txOf D) N sc s ss = false) : SimQ D n k s ∧ SimS D n k s :=
  ⟨fun E N sc X st hX hm => (by rw [h] at hm; cases hm), fun E N sc X ss hX hm => (by rw [h] at hm; cases hm)⟩
theorem simSt (S : Stat D) (Tb : Tab D) (F : FnsOk D n k) (s : Sx) : SimQ D n k s ∧ SimS D n k s := by
  have X := simX S Tb F
  induction s with
  | dead => exact ⟨simQ_dead, simS_dead⟩
  | skip => exact ⟨simQ_skip, simS_skip⟩
  | seq a b iha ihb => exact ⟨simQ_seq, simS_seq iha.1 ihb.2⟩
  | ex e => exact single (simQ_ex (X e).E) (fun N sc ss hm => by simp only [matchS] at hm; split at hm <;> first | exact ⟨_, rfl⟩ | cases hm)
  | asg t e => exact single (simQ_asg (X e).E (fun f _ => (X f).K)) (fun N sc ss hm => by simp only [matchS] at hm; split at hm <;> first | exact ⟨_, rfl⟩ | cases hm)
  | par is es => exact single (simQ_par (X es).L) (fun N sc ss hm => by simp only [matchS] at hm; split at hm <;> first | exact ⟨_, rfl⟩ | cases hm)
  | asgI o i e => exact single (simQ_asgI (X o).E (X i).E (X e).E) (fun N sc ss hm => by simp only [matchS] at hm; split at hm <;> first | exact ⟨_, rfl⟩ | cases hm)
  | asgF o f e => exact single (simQ_asgF S (X o).E (X e).E) (fun N sc ss hm => by simp only [matchS] at hm; split at hm <;> first | exact ⟨_, rfl⟩ | cases hm)
  | augN i op e => exact single (simQ_augN (X e).E) (fun N sc ss hm => by simp only [matchS] at hm; split at hm <;> first | exact ⟨_, rfl⟩ | cases hm)
  | augF o f op e => exact single (simQ_augF S (X o).E (X e).E) (fun N sc ss hm => by simp only [matchS] at hm; split at hm <;> first | exact ⟨_, rfl⟩ | cases hm)
  | ret e => exact single (simQ_ret (X e).E) (fun N sc ss hm => by simp only [matchS] at hm; split at hm <;> first | exact ⟨_, rfl⟩ | cases hm)
  | retN => exact single simQ_retN (fun N sc ss hm => by simp only [matchS] at hm; split at hm <;> first | exact ⟨_, rfl⟩ | cases hm)
  | ite c a b iha ihb => exact single (simQ_ite (X c).T iha.2 ihb.2) (fun N sc ss hm => by simp only [matchS] at hm; split at hm <;> first | exact ⟨_, rfl⟩ | cases hm)
  | for_ t it b ihb => exact single (simQ_for (X it).I ihb.2) (fun N sc ss hm => by simp only [matchS] at hm; split at hm <;> first | exact ⟨_, rfl⟩ | cases hm)
  | while_ c b ihb => exact single (simQ_while (X c).T ihb.2) (fun N sc ss hm => by simp only [matchS] at hm; split at hm <;> first | exact ⟨_, rfl⟩ | cases hm)
  | brk => exact single simQ_brk (fun N sc ss hm => by simp only [matchS] at hm; split at hm <;> first | exact ⟨_, rfl⟩ | cases hm)
  | cont => exact single simQ_cont (fun N sc ss hm => by simp only [matchS] at hm; split at hm <;> first | exact ⟨_, rfl⟩ | cases hm)
  | raise c fs es => exact noQ (by intros; simp [matchS])
  | try_ b c i s _ _ => exact noQ (by intros; simp [matchS])
  | del o i => exact noQ (by intros; simp [matchS])
end
end Sim

end
section
set_option Elab.async false
set_option linter.all false
set_option maxRecDepth 100000
/-! SimT: defs: what a call leaves; every def at every depth. -/
namespace Sim
open PySem PySem.Spec PyProof.Rows L2 Ev

/-! ### within the old heap -/
mutual
def inB (n : Nat) : Val → Bool
  | .ref m => decide (m < n)
  | .tup l => inBs n l
  | .lst l => inBs n l
  | .ktp l => inBs n l
  | .scr l => inBs n l
  | _ => true
def inBs (n : Nat) : List Val → Bool
  | [] => true
  | x :: xs => inB n x && inBs n xs
end
section
variable {D : Wd} {G G' : Hp} {ρ ρ' : List Addr} {h h' : EHeap} {H H' : Hp}
mutual
theorem inB_of : ∀ {v : Val} {x : V}, RV D G ρ v x → inB ρ.length v = true
  | _, _, .non => rfl
  | _, _, .bl _ => rfl
  | _, _, .int _ => rfl
  | _, _, .str _ _ => rfl
  | _, _, .tup _ _ r => by simp only [inB]; exact inBs_of r
  | _, _, .ktp _ _ r => by simp only [inB]; exact inBs_of r
  | _, _, .scr _ _ r => by simp only [inB]; exact inBs_of r
  | _, _, .lst _ _ r => by simp only [inB]; exact inBs_of r
  | _, _, .ref hr => by simp only [inB]; exact decide_eq_true (List.getElem?_eq_some_iff.mp hr).1
  | _, _, .gl _ _ => rfl
theorem inBs_of : ∀ {v : List Val} {x : List V}, RVs D G ρ v x → inBs ρ.length v = true
  | _, _, .nil => rfl
  | _, _, .cons a b => by simp only [inBs, Bool.and_eq_true]; exact ⟨inB_of a, inBs_of b⟩
end
mutual
theorem inB_noRef (n : Nat) : ∀ {v : Val}, noRef v = true → inB n v = true
  | .non, _ => rfl
  | .bl _, _ => rfl
  | .int _, _ => rfl
  | .str _, _ => rfl
  | .tup l, q => by simp only [noRef] at q; simp only [inB]; exact inBs_noRef n q
  | .ktp l, q => by simp only [noRef] at q; simp only [inB]; exact inBs_noRef n q
  | .scr l, q => by simp only [noRef] at q; simp only [inB]; exact inBs_noRef n q
  | .lst l, q => by simp only [noRef] at q; simp only [inB]; exact inBs_noRef n q
  | .ref _, q => by simp [noRef] at q
  | .gl _, _ => rfl
theorem inBs_noRef (n : Nat) : ∀ {v : List Val}, noRefs v = true → inBs n v = true
  | [], _ => rfl
  | x :: xs, q => by
    simp only [noRefs, Bool.and_eq_true] at q
    simp only [inBs, Bool.and_eq_true]
    exact ⟨inB_noRef n q.1, inBs_noRef n q.2⟩
end
theorem pre_back (p : ρ <+: ρ') {m : Nat} {a : Addr} (e : ρ'[m]? = some a) (hm : m < ρ.length) : ρ[m]? = some a := by
  obtain ⟨t, rfl⟩ := p
  rw [List.getElem?_append_left hm] at e
  exact e
mutual
/-- the old heap is enough -/
theorem RV.back (p : ρ <+: ρ') : ∀ {v : Val} {x : V}, inB ρ.length v = true → RV D G ρ' v x → RV D G ρ v x
  | _, _, _, .non => .non
  | _, _, _, .bl b => .bl b
  | _, _, _, .int i => .int i
  | _, _, _, .str s hs => .str s hs
  | _, _, q, .tup s l r => .tup s l (RVs.back p (by simpa only [inB] using q) r)
  | _, _, q, .ktp s l r => .ktp s l (RVs.back p (by simpa only [inB] using q) r)
  | _, _, q, .scr s l r => .scr s l (RVs.back p (by simpa only [inB] using q) r)
  | _, _, q, .lst s l r => .lst s l (RVs.back p (by simpa only [inB] using q) r)
  | _, _, q, .ref hr => .ref (pre_back p hr (by simpa [inB] using q))
  | _, _, _, .gl y hy => .gl y hy
theorem RVs.back (p : ρ <+: ρ') : ∀ {v : List Val} {x : List V}, inBs ρ.length v = true → RVs D G ρ' v x → RVs D G ρ v x
  | _, _, _, .nil => .nil
  | _, _, q, .cons a b => by
    simp only [inBs, Bool.and_eq_true] at q
    exact .cons (RV.back p q.1 a) (RVs.back p q.2 b)
end
def inBo (n : Nat) : EObj → Prop
  | .list l => inBs n l = true
  | .dict _ l => ∀ p ∈ l, inB n p.2 = true
  | .inst _ fs => ∀ p ∈ fs, inB n p.2 = true
theorem paired_left {α β : Type} {F : α → β → Prop} : ∀ {l : List α} {m : List β}, Paired F l m → ∀ a ∈ l, ∃ b, F a b
  | _, _, .nil, a, ha => by cases ha
  | _, _, .cons r t, a, ha => by
    cases ha with
    | head => exact ⟨_, r⟩
    | tail _ ha => exact paired_left t a ha
theorem inBo_of {o : EObj} {u : HO} (r : RO D G ρ o u) : inBo ρ.length o := by
  cases r with
  | list r _ => exact inBs_of r
  | dictK r => intro p hp; obtain ⟨b, hb⟩ := paired_left r p hp; exact inB_of hb.2.2
  | dictT r => intro p hp; obtain ⟨b, hb⟩ := paired_left r p hp; exact inB_of hb.2.2
  | inst r => intro p hp; obtain ⟨b, hb⟩ := paired_left r p hp; exact inB_of hb.2
theorem inBo_noRef (n : Nat) {o : EObj} (r : o.noRef = true) : inBo n o := by
  cases o with
  | list l => exact inBs_noRef n r
  | dict t l =>
    intro p hp
    have := List.all_eq_true.mp r p hp
    simp only [Bool.and_eq_true] at this
    exact inB_noRef n this.2
  | inst c fs =>
    intro p hp
    exact inB_noRef n (List.all_eq_true.mp r p hp)
theorem paired_imp {α β : Type} {F F' : α → β → Prop} : ∀ {l : List α} {m : List β}, Paired F l m → (∀ a b, a ∈ l → F a b → F' a b) → Paired F' l m
  | _, _, .nil, _ => .nil
  | _, _, .cons r t, h => .cons (h _ _ (by simp) r) (paired_imp t fun a b ha => h a b (by simp [ha]))
theorem RO.back (p : ρ <+: ρ') {o : EObj} {u : HO} (q : inBo ρ.length o) (r : RO D G ρ' o u) : RO D G ρ o u := by
  cases r with
  | list r l => exact .list (r.back p q) l
  | dictK r => exact .dictK (paired_imp r fun a b ha h => ⟨h.1, h.2.1, h.2.2.back p (q a ha)⟩)
  | dictT r => exact .dictT (paired_imp r fun a b ha h => ⟨h.1, h.2.1, h.2.2.back p (q a ha)⟩)
  | inst r => exact .inst (paired_imp r fun a b ha h => ⟨h.1, h.2.back p (q a ha)⟩)

/-! ### what a call leaves -/
theorem setAll_ne {n : Nat} : ∀ {as : List Nat} {h : EHeap}, n ∉ as → (setAll h' h as)[n]? = h[n]?
  | [], h, _ => rfl
  | a :: r, h, hn => by
    simp only [List.mem_cons, not_or] at hn
    unfold setAll
    rw [setAll_ne hn.2, List.getElem?_set_ne (fun z => hn.1 z.symm)]
/-- the heap cut to its old length -/
theorem RH.cut (x0 : RH D G ρ h H) (e : Ext G ρ G' ρ') (x : RH D G' ρ' h' H') {as : List Nat} (hok : allOk h.length h' as = true) (hcut : h'.take h.length = setAll h' h as) : RH D G' ρ (h'.take h.length) H' := by
  have hle : ρ.length ≤ ρ'.length := e.r.length_le
  have hlen : h.length ≤ h'.length := by rw [← x0.len, ← x.len]; exact hle
  refine ⟨x.sub, x.tabs, x.gb, by rw [List.length_take, Nat.min_eq_left hlen, x0.len], x0.nd, fun a ha => x.out a (e.r.subset ha), fun n a o h1 h2 => ?_⟩
  have hn : n < ρ.length := (List.getElem?_eq_some_iff.mp h1).1
  have hn' : n < h.length := by rw [← x0.len]; exact hn
  have ho : h'[n]? = some o := by
    rw [List.getElem?_take, if_pos hn'] at h2
    exact h2
  obtain ⟨u, h3, h4⟩ := x.obj n a o (pre_get e.r h1) ho
  refine ⟨u, h3, h4.back e.r ?_⟩
  by_cases hm : n ∈ as
  · have := List.all_eq_true.mp hok n hm
    simp only [Bool.and_eq_true] at this
    rw [ho] at this
    exact inBo_noRef _ this.2
  · rw [hcut, setAll_ne hm] at h2
    obtain ⟨u0, _, h5⟩ := x0.obj n a o h1 h2
    exact inBo_of h5
theorem fin_sound {k : Keep} {args : List Val} {v w : Val} {y : V} {h'' : EHeap} (q : finOk k args h v h' = .ok w h'') (x0 : RH D G ρ h H) (e : Ext G ρ G' ρ') (x : RH D G' ρ' h' H') (r : RV D G' ρ' v y) :
    ∃ G'' ρ'', Ext G ρ G'' ρ'' ∧ RH D G'' ρ'' h'' H' ∧ RV D G'' ρ'' w y := by
  cases k with
  | raw =>
    simp only [finOk, R.ok.injEq] at q
    obtain ⟨rfl, rfl⟩ := q
    exact ⟨G', ρ', e, x, r⟩
  | «mut» ps =>
    simp only [finOk] at q
    split at q
    · rename_i as has
      split at q
      · rename_i hc
        split at q
        · rename_i w' hw
          simp only [R.ok.injEq] at q
          obtain ⟨rfl, rfl⟩ := q
          have xc := x0.cut e x hc.1 hc.2
          rw [hc.2] at xc
          have e0 : Ext G ρ G' ρ := ⟨e.g, List.prefix_rfl⟩
          cases v with
          | ref m =>
            simp only [fzV] at hw
            split at hw
            · rename_i hm
              cases r with
              | ref hr =>
                rename_i a
                obtain ⟨o, u, h1, h2, h3⟩ := x.at_ hr
                rw [h1] at hw
                cases h3 with
                | list rl hl =>
                  rename_i l us
                  simp only at hw
                  split at hw
                  · rename_i hnr
                    simp only [Option.some.injEq] at hw
                    subst hw
                    -- the new list is frozen
                    have ga : G' a = none := x.out a (List.mem_of_getElem? hr)
                    have na : a ∉ ρ := fun z => by
                      obtain ⟨j, hj⟩ := List.getElem?_of_mem z
                      have hj' := pre_get e.r hj
                      have := (List.getElem?_inj (l := ρ') (i := j) (j := m) ((List.getElem?_eq_some_iff.mp hj').1) x.nd).mp (by rw [hj', hr])
                      have hjl := (List.getElem?_eq_some_iff.mp hj).1
                      rw [x0.len] at hjl
                      omega
                    have eg : Ext G' ρ (upd G' a (.lst us)) ρ := ⟨fun b z hz => by rw [upd_ne (ne_of_none hz ga)]; exact hz, List.prefix_rfl⟩
                    refine ⟨upd G' a (.lst us), ρ, e0.trans eg, ⟨fun b z hz => ?_, xc.tabs, bare_upd xc.gb trivial, xc.len, xc.nd, fun b hb => ?_, fun j b o g1 g2 => ?_⟩, .lst upd_same hl ((rl.back e.r (inBs_noRef _ hnr)).mono eg)⟩
                    · by_cases hb : b = a
                      · subst hb
                        rw [upd_same] at hz
                        cases hz
                        exact h2
                      · rw [upd_ne hb] at hz
                        exact x.sub b z hz
                    · rw [upd_ne (fun z : b = a => na (by rw [← z]; exact hb))]
                      exact xc.out b hb
                    · obtain ⟨u', g3, g4⟩ := xc.obj j b o g1 g2
                      exact ⟨u', g3, g4.mono eg⟩
                  · cases hw
                | _ => cases hw
            · rename_i hm
              simp only [Option.some.injEq] at hw
              subst hw
              exact ⟨G', ρ, e0, xc, r.back e.r (by simp only [inB]; exact decide_eq_true (by rw [x0.len]; omega))⟩
          | _ =>
            simp only [fzV] at hw
            split at hw
            · rename_i hnr
              simp only [Option.some.injEq] at hw
              subst hw
              exact ⟨G', ρ, e0, xc, r.back e.r (inB_noRef _ hnr)⟩
            · cases hw
        · cases q
      · cases q
    · cases q

theorem finOk_exc {k : Keep} {args : List Val} {v : Val} {c : String} {fs : List (String × Val)} {h2 : EHeap} : finOk k args h v h' ≠ .exc c fs h2 := by
  intro q
  unfold finOk at q
  cases k with
  | raw => cases q
  | «mut» ps =>
    simp only at q
    split at q
    · split at q
      · split at q <;> cases q
      · cases q
    · cases q
/-! ### defs -/
/-- the name of a lambda of a def -/
def lamName (qual : Str) : Str := (qual ++ ".<locals>.") ++ "<lambda>"
/-- a def of the program is what its IR says -/
structure DefOk (D : Wd) (f : String) (d : FnDef) : Prop where
  ex : ∃ x qual st N, Fun D.K x qual st (D.fadr f) (D.fdat f) ∧ FnScope N (D.fps f) (defScope st) ∧ matchS (txOf D) N (defScope st) d.body (defBody st) = true ∧ N.length = d.slots ∧ (D.fps f).length = d.params ∧ d.params ≤ d.slots ∧
    (N.contains (lit "<lambda>") = true → ∃ c P, (D.fdat f).code = .ref c ∧ LamX.TabB D.base D.mg c P ∧ (P, lamName qual) ∈ D.lamT ∧ ∀ p ∈ D.lamT, p.1 = P → p.2 = lamName qual)
theorem start_env {args : List Val} {vs : List V} {N : List Str} (r : RVs D G ρ args vs) : REnv D G ρ (initEnv N.length args) (L2.start N vs) := by
  have hl := r.length
  refine ⟨?_, fun i v hi => ?_⟩
  · unfold L2.start initEnv
    simp [hl]
  · unfold initEnv at hi
    unfold L2.start
    by_cases hlt : i < args.length
    · rw [List.getElem?_append_left (by simpa using hlt)] at hi
      rw [List.getElem?_append_left (by simpa [hl] using hlt)]
      rw [List.getElem?_map] at hi ⊢
      cases hv : args[i]? with
      | none => rw [hv] at hi; cases hi
      | some w =>
        rw [hv] at hi
        cases hi
        obtain ⟨u, h1, h2⟩ := r.get hv
        exact ⟨u, by rw [h1]; rfl, h2⟩
    · rw [List.getElem?_append_right (by simpa using hlt)] at hi
      rw [List.getElem?_replicate] at hi
      split at hi <;> cases hi
theorem fns_step (S : Stat D) (Tb : Tab D) (hd : ∀ f d, D.cfg.fn f = some d → DefOk D f d) {n k : Nat} (F : FnsOk D n k) : FnsOk D (n + 1) (k + 2) := by
  intro f d hf
  obtain ⟨x, qual, st, N, hFun, hSc, hm, hN, hps, hsl, hlam⟩ := (hd f d hf).ex
  have hrun : ∀ args h, run D.cfg (n + 1) f args h = runDef (cx D n) d args h := fun args h => by
    show (match D.cfg.fn f with | some d => runDef (D.cfg.ctx (run D.cfg n)) d args | none => stuck) h = _
    rw [hf]
  obtain ⟨oc, od, kV, doc, pm, an, cdv, ct, osl, hfd, hlk, hcd⟩ := hFun.ex
  have hcode : (D.fdat f).code = cdv := by rw [hfd]
  rw [hcode] at hlam
  show FnOk D.P D.w D.K D.mg D.base (L2.CX D.P D.w) (k + 1 + 1) (D.fadr f) (D.fdat f) (D.fps f) (spF D (n + 1) f)
  rw [hfd] at hlk ⊢
  refine fn_of hlk hcd hSc ?_ ?_
  · intro vs H Q E ⟨G, ρ, h, args, xh, r, q⟩
    rw [hrun] at q
    unfold runDef at q
    split at q
    · rename_i hl
      rw [r.length, hl, hps]
    · exact q.elim
  · intro A outer s H vs Q E hr ⟨G, ρ, h, args, xh, r, q⟩
    have hX : SOk D E k N (defScope st) (cxOf (L2.CX D.P D.w) D.P D.w D.K D.mg D.base N qual (defScope st) (D.fadr f) cdv A outer s H E) :=
      { hP := rfl, hw := rfl, hK := rfl, hmg := rfl, hb := rfl, hN := rfl, hsc := rfl, calm := rfl, nd := hSc.nd, room1 := hr, takes := takes_of rfl rfl rfl rfl, hfn := fun _ _ => .inl rfl, own := passes_of rfl, lam := hlam }
    refine ⟨_, (simSt S Tb F d.body).2 E N (defScope st) _ (defBody st) hX hm, G, ρ, initEnv d.slots args, h, xh, ?_, ?_⟩
    · rw [← hN]
      exact start_env r
    · rw [hrun] at q
      unfold runDef at q
      split at q
      · cases he : evS (cx D n) d.body (initEnv d.slots args) h with
        | no => rw [he] at q; exact q.elim
        | exc c fs h' => rw [he] at q; exact q
        | ok c h' =>
          rw [he] at q
          cases c with
          | nx env =>
            simp only at q
            intro G' ρ' H' σ' e x' _
            cases hq : finOk d.keep args h .non h' with
            | no => rw [hq] at q; exact q.elim
            | exc _ _ _ => rw [hq] at q; exact absurd hq finOk_exc
            | ok w h'' =>
              rw [hq] at q
              obtain ⟨G'', ρ'', e2, x2, r2⟩ := fin_sound hq xh e x' (.non : RV D G' ρ' .non .non)
              exact q G'' ρ'' H' .non e2 x2 r2
          | rt v =>
            simp only at q
            intro G' ρ' H' y e x' ry
            cases hq : finOk d.keep args h v h' with
            | no => rw [hq] at q; exact q.elim
            | exc _ _ _ => rw [hq] at q; exact absurd hq finOk_exc
            | ok w h'' =>
              rw [hq] at q
              obtain ⟨G'', ρ'', e2, x2, r2⟩ := fin_sound hq xh e x' ry
              exact q G'' ρ'' H' y e2 x2 r2
          | bk env => exact q.elim
          | ct env => exact q.elim
      · exact q.elim
/-- every def at every depth -/
theorem fns_all (S : Stat D) (Tb : Tab D) (hd : ∀ f d, D.cfg.fn f = some d → DefOk D f d) : ∀ n, FnsOk D n (2 * n + 1)
  | 0 => fun f d hf => ⟨fun vs H Q E ⟨G, ρ, h, args, xh, r, q⟩ => q.elim, fun A outer s H args us vs Q E hr e0 hb r ⟨G, ρ, h, args', xh, r', q⟩ => q.elim⟩
  | n + 1 => by
    have := fns_step S Tb hd (fns_all S Tb hd n)
    have e : 2 * (n + 1) + 1 = 2 * n + 1 + 2 := by omega
    rw [e]
    exact this
end
end Sim

end
section
set_option Elab.async false
set_option linter.all false
set_option maxRecDepth 100000
/-! SimU: the world as the head finds it: checks of a part of the heap. -/
namespace Sim
open PySem PySem.Spec PyProof.Rows L2 Ev

/-! ### how arguments bind -/
theorem lookup_zip : ∀ {ps : List Str} {us : List Value}, us.length = ps.length → ps.Nodup → ps.filterMap (fun n => ((ps.zip us).lookup n).map (n, ·)) = ps.zip us := by
  have key : ∀ (ps : List Str) (us : List Value) (l : List (Str × Value)), us.length = ps.length → ps.Nodup → (∀ p ∈ ps, (l.lookup p) = none) → ps.filterMap (fun n => ((l ++ ps.zip us).lookup n).map (n, ·)) = ps.zip us := by
    intro ps
    induction ps with
    | nil => intro us l _ _ _; rfl
    | cons p ps ih =>
      intro us l hl hnd hno
      cases us with
      | nil => simp at hl
      | cons u us =>
        have e1 : (l ++ (p :: ps).zip (u :: us)).lookup p = some u := by
          rw [List.lookup_append, hno p (by simp)]
          simp
        rw [List.filterMap_cons, e1]
        simp only [Option.map_some, List.zip_cons_cons, List.cons.injEq, true_and]
        have e2 : l ++ (p, u) :: ps.zip us = (l ++ [(p, u)]) ++ ps.zip us := by simp
        rw [e2]
        rw [List.nodup_cons] at hnd
        refine ih us (l ++ [(p, u)]) (by simpa using hl) hnd.2 fun q hq => ?_
        rw [List.lookup_append, hno q (by simp [hq])]
        have : (q == p) = false := by
          rw [beq_eq_false_iff_ne]
          intro z
          subst z
          exact hnd.1 hq
        simp [List.lookup_cons, this]
  intro ps us hl hnd
  exact key ps us [] hl hnd (by simp)
theorem lookup_none : ∀ {ps : List Str} {us : List Value}, us.length = ps.length → ps.filter (fun n => ((ps.zip us).lookup n).isNone) = [] := by
  intro ps us hl
  rw [List.filter_eq_nil_iff]
  intro n hn
  have : ∃ u, (ps.zip us).lookup n = some u := by
    revert us
    induction ps with
    | nil => cases hn
    | cons p ps ih =>
      intro us hl
      cases us with
      | nil => simp at hl
      | cons u us =>
        simp only [List.zip_cons_cons, List.lookup_cons]
        by_cases e : n = p
        · subst e; simp
        · have : (n == p) = false := by simpa using e
          rw [this]
          exact ih (by simpa [e] using hn) (by simpa using hl)
  obtain ⟨u, h⟩ := this
  simp [h]
theorem bind_plain {x qual : Str} {params : Arguments} {body : List Stmt} {scope : Scope} {kV doc pm cdv ct : Value} {an : Option Addr} {us : List Value} (hp : plainParams params = true) (hnd : (params.args.map (·.arg)).Nodup) (hl : us.length = (params.args.map (·.arg)).length) :
    bindArgs (PySem.W.fnOf x qual params body scope .none kV doc pm an cdv ct) ⟨us, []⟩ = pure ((params.args.map (·.arg)).zip us) := by
  obtain ⟨po, ar, va, ko, kd, kw, df⟩ := params
  simp only [plainParams, Bool.and_eq_true, List.isEmpty_iff, Option.isNone_iff_eq_none] at hp
  obtain ⟨⟨⟨rfl, rfl⟩, rfl⟩, rfl⟩ := hp
  simp only at hnd hl
  have e1 := lookup_zip hl hnd
  have e2 := lookup_none hl
  unfold bindArgs
  have hgt : ¬ us.length > (ar.map (·.arg)).length := by omega
  have hgt' : (decide (us.length > (ar.map (·.arg)).length) && (none : Option Arg).isNone) = false := by rw [decide_eq_false hgt]; rfl
  have hs : seqItems? Value.none = pure none := by first | rfl | (unfold seqItems?; rfl)
  simp only [PySem.W.fnOf, List.map_nil, List.nil_append, List.append_nil, List.forIn_nil, pure_bind, hs]
  have hd : ((none : Option (Array Value)).getD #[]).toList = [] := rfl
  rw [if_neg (by rw [hgt']; decide)]
  simp only [hd, List.drop_nil, List.length_nil, Nat.sub_zero, List.take_length, e2, List.isEmpty_nil, Bool.not_true, Bool.false_eq_true, if_false, List.drop_length, List.zip_nil_left, List.zip_nil_right, List.forIn_nil, pure_bind, e1]

/-- one keyword-only parameter, given -/
theorem bind_kw1 {x qual : Str} {params : Arguments} {body : List Stmt} {scope : Scope} {kV doc pm cdv ct : Value} {an : Option Addr} {us : List Value} {w : Value} {kn : Str} (h1 : params.posonlyargs = []) (h2 : params.vararg = none) (h3 : params.kwarg = none) (h4 : params.kwonlyargs.map (·.arg) = [kn])
    (hnd : (params.args.map (·.arg) ++ [kn]).Nodup) (hl : us.length = (params.args.map (·.arg)).length) :
    bindArgs (PySem.W.fnOf x qual params body scope .none kV doc pm an cdv ct) ⟨us, [(kn, w)]⟩ = pure ((params.args.map (·.arg) ++ [kn]).zip (us ++ [w])) := by
  obtain ⟨po, ar, va, ko, kd, kw, df⟩ := params
  simp only at h1 h2 h3 h4 hnd hl
  subst h1 h2 h3
  have hz : (ar.map (·.arg) ++ [kn]).zip (us ++ [w]) = (ar.map (·.arg)).zip us ++ [(kn, w)] := by rw [List.zip_append hl.symm]; rfl
  have hl2 : (us ++ [w]).length = (ar.map (·.arg) ++ [kn]).length := by simp [hl]
  have e1 := lookup_zip hl2 hnd
  have e2 := lookup_none hl2
  rw [hz] at e1 e2 ⊢
  have hno : ((ar.map (·.arg)).zip us).lookup kn = none := by
    have key : ∀ {ps : List Str} {us : List Value}, kn ∉ ps → (ps.zip us).lookup kn = none := by
      intro ps
      induction ps with
      | nil => intro us _; rfl
      | cons p ps ih =>
        intro us hp
        cases us with
        | nil => rfl
        | cons u us =>
          simp only [List.mem_cons, not_or] at hp
          rw [List.zip_cons_cons, List.lookup_cons]
          have : (kn == p) = false := by simpa using hp.1
          rw [this]
          exact ih hp.2
    refine key fun hm => ?_
    rw [List.nodup_append] at hnd
    exact hnd.2.2 kn hm kn (by simp) rfl
  have hin : ((ar.map (·.arg)).zip us ++ [(kn, w)]).lookup kn = some w := by
    rw [List.lookup_append, hno]
    simp
  have e2' : (ar.map (·.arg)).filter (fun n => (((ar.map (·.arg)).zip us ++ [(kn, w)]).lookup n).isNone) = [] := by
    rw [List.filter_append] at e2
    exact (List.append_eq_nil_iff.mp e2).1
  unfold bindArgs
  have hgt : ¬ us.length > (ar.map (·.arg)).length := by omega
  have hs : seqItems? Value.none = pure none := by first | rfl | (unfold seqItems?; rfl)
  have hd : ((none : Option (Array Value)).getD #[]).toList = [] := rfl
  have hc : ((ar.map (·.arg)).contains kn || [kn].contains kn) = true := by simp
  simp only [PySem.W.fnOf, List.map_nil, List.nil_append, List.append_nil, List.forIn_cons, List.forIn_nil, pure_bind, h4, hc, hno, Option.isSome_none, Bool.false_eq_true, if_true, if_false, hs]
  have hg : (decide (us.length > (ar.map (·.arg)).length) && (none : Option Arg).isNone) = false := by rw [decide_eq_false hgt]; rfl
  rw [if_neg (by rw [hg]; decide)]
  simp only [hd, List.drop_nil, List.length_nil, Nat.sub_zero, List.take_length, e2', List.isEmpty_nil, Bool.not_true, Bool.false_eq_true, if_false, List.drop_length, List.zip_nil_left, List.zip_nil_right, List.forIn_nil, pure_bind, hin, Option.isNone_some, e1]
/-! ### written values -/
mutual
/-- u is the evaluator's value v -/
def chkV (K : PySem.W.Frag) : Val → Value → Bool
  | .non, u => match u with
    | .none => true
    | _ => false
  | .bl b, u => match u with
    | .bool c => b == c
    | _ => false
  | .int i, u => match u with
    | .int j _ => i == j
    | _ => false
  | .str x, u => match u with
    | .str y _ => x == y && decide (x.length ≤ most) && PyData.strOk x
    | _ => false
  | .ktp l, u => match u with
    | .ref a => (match K.lookup a with
      | some ⟨.type c, _, .seq its _, _⟩ => c == "tuple" && decide (its.size ≤ 1000) && chkVs K l its.toList
      | _ => false)
    | _ => false
  | .gl x, u => match u with
    | .ref a => decide (a = He.ga K (lit x)) && He.eqO (PySem.W.nsIn K mainGlobals (lit x)) (some (some (.ref a)))
    | _ => false
  | _, _ => false
def chkVs (K : PySem.W.Frag) : List Val → List Value → Bool
  | [], us => us.isEmpty
  | v :: vs, us => match us with
    | u :: r => chkV K v u && chkVs K vs r
    | [] => false
end
section
variable {D : Wd} {h : Heap}
/-- the world's globals are what K has -/
structure Base (D : Wd) : Prop where
  adr : ∀ x, D.adr x = He.ga D.K (lit x)
  mg : ∀ x v, PySem.W.nsIn D.K mainGlobals x = some (some v) → D.mg x = some v
  mgn : ∀ x, PySem.W.nsIn D.K mainGlobals x = some none → D.mg x = none
mutual
theorem chkV_ok (B : Base D) : ∀ (v : Val) (u : Value), chkV D.K v u = true → ∃ V, RelV V u ∧ ∀ G ρ, RV D G ρ v V
  | .non, u, q => by
    cases u <;> first | (simp [chkV] at q; done) | exact ⟨.non, rfl, fun _ _ => .non⟩
  | .bl b, u, q => by
    cases u <;> first | (simp [chkV] at q; done) | skip
    simp only [chkV, beq_iff_eq] at q
    subst q
    exact ⟨.bl b, rfl, fun _ _ => .bl b⟩
  | .int i, u, q => by
    cases u <;> first | (simp [chkV] at q; done) | skip
    simp only [chkV, beq_iff_eq] at q
    subst q
    exact ⟨.int i, ⟨_, rfl⟩, fun _ _ => .int i⟩
  | .str x, u, q => by
    cases u <;> first | (simp [chkV] at q; done) | skip
    simp only [chkV, Bool.and_eq_true, beq_iff_eq, decide_eq_true_eq] at q
    obtain ⟨⟨rfl, h1⟩, h2⟩ := q
    exact ⟨.str x, ⟨_, rfl⟩, fun _ _ => .str x ⟨h1, h2⟩⟩
  | .ktp l, u, q => by
    cases u <;> first | (simp [chkV] at q; done) | skip
    rename_i a
    simp only [chkV] at q
    split at q
    · rename_i c od its n sl hl
      simp only [Bool.and_eq_true, beq_iff_eq, decide_eq_true_eq] at q
      obtain ⟨⟨rfl, h1⟩, h2⟩ := q
      obtain ⟨Vs, r1, r2⟩ := chkVs_ok B l its.toList h2
      refine ⟨.ref a, rfl, fun G ρ => .ktp (xs := Vs) (.inr ⟨_, its, n, hl, rfl, rfl, thousand h1, r1⟩) ?_ (r2 G ρ)⟩
      have e1 := (r2 G ρ).length
      have e2 := r1.length
      have : l.length ≤ 1000 := by rw [← e1, e2]; simpa using h1
      exact thousand' this
    · cases q
  | .gl x, u, q => by
    cases u <;> first | (simp [chkV] at q; done) | skip
    rename_i a
    simp only [chkV, Bool.and_eq_true, decide_eq_true_eq] at q
    obtain ⟨rfl, h2⟩ := q
    have h3 := B.mg _ _ (He.eqO_ok h2)
    refine ⟨.ref (D.adr x), by rw [B.adr]; rfl, fun _ _ => .gl x (by rw [B.adr]; exact h3)⟩
  | .tup _, _, q => by simp [chkV] at q
  | .lst _, _, q => by simp [chkV] at q
  | .scr _, _, q => by simp [chkV] at q
  | .ref _, _, q => by simp [chkV] at q
theorem chkVs_ok (B : Base D) : ∀ (l : List Val) (us : List Value), chkVs D.K l us = true → ∃ Vs, Vals Vs us ∧ ∀ G ρ, RVs D G ρ l Vs
  | [], us, q => by
    simp only [chkVs, List.isEmpty_iff] at q
    subst q
    exact ⟨[], .nil, fun _ _ => .nil⟩
  | v :: vs, us, q => by
    cases us with
    | nil => simp [chkVs] at q
    | cons u r =>
      simp only [chkVs, Bool.and_eq_true] at q
      obtain ⟨V, a1, a2⟩ := chkV_ok B v u q.1
      obtain ⟨Vs, b1, b2⟩ := chkVs_ok B vs r q.2
      exact ⟨V :: Vs, .cons a1 b1, fun G ρ => .cons (a2 G ρ) (b2 G ρ)⟩
end
end

/-! ### defs that stand in K -/
/-- one def: where it stands (a global, a class's method), its slots' names, what it is -/
structure Row where
  glob : String
  meth : Option String
  names : List String
  dfn : FnDef
def Row.at_ (r : Row) : Str × Option Str := (lit r.glob, r.meth.map lit)
def Row.N (r : Row) : List Str := r.names.map lit
def Row.ps (r : Row) : List Str := (r.N).take r.dfn.params
def Row.qual (r : Row) : Str := match r.meth with
  | none => lit r.glob
  | some m => lit r.glob ++ "." ++ lit m
def noDfl : Value → Bool
  | .none => true
  | _ => false
/-- the def's function object is what the row says -/
def chkRow (tx : Tx) (K : PySem.W.Frag) (r : Row) : Bool := match K.lookup (He.fAd K r.at_) with
  | some ⟨_, _, .func fd, _⟩ => (match fd.body with
    | .stmts body => decide (fd.globals = mainGlobals) && fd.closure.isEmpty && decide (fd.builtins = builtinsNs) && PySem.W.codeIn K fd.code fd.qualname && C8.scC r.N r.ps fd.scope
      && matchS tx r.N fd.scope r.dfn.body body && decide (r.N.length = r.dfn.slots) && decide (r.ps.length = r.dfn.params) && decide (r.dfn.params ≤ r.dfn.slots) && PySem.W.keepIn K (.ref (He.fAd K r.at_)) && noDfl fd.defaults && decide (fd.qualname = r.qual)
    | _ => false)
  | _ => false
def chkPlain (K : PySem.W.Frag) (r : Row) : Bool := match K.lookup (He.fAd K r.at_) with
  | some ⟨_, _, .func fd, _⟩ => plainParams fd.params && decide (fd.params.args.map (·.arg) = r.ps)
  | _ => false
def fdOf (K : PySem.W.Frag) (a : Addr) : FuncData := match K.lookup a with
  | some ⟨_, _, .func fd, _⟩ => fd
  | _ => default
/-- one keyword-only parameter behind m others -/
def chkKw (K : PySem.W.Frag) (r : Row) (m : Nat) (kn : Str) : Bool := match K.lookup (He.fAd K r.at_) with
  | some ⟨_, _, .func fd, _⟩ => fd.params.posonlyargs.isEmpty && fd.params.vararg.isNone && fd.params.kwarg.isNone && decide (fd.params.kwonlyargs.map (·.arg) = [kn]) && decide (fd.params.args.map (·.arg) ++ [kn] = r.ps) && decide ((fd.params.args.map (·.arg)).length = m)
  | _ => false
theorem row_fn {tx : Tx} {K : PySem.W.Frag} {r : Row} (h : chkRow tx K r = true) : ∃ x st, L2.Fun K x r.qual st (He.fAd K r.at_) (fdOf K (He.fAd K r.at_)) ∧ FnScope r.N r.ps (defScope st) ∧ matchS tx r.N (defScope st) r.dfn.body (defBody st) = true ∧ r.N.length = r.dfn.slots ∧ r.ps.length = r.dfn.params ∧ r.dfn.params ≤ r.dfn.slots := by
  unfold chkRow at h
  unfold fdOf
  cases hl : K.lookup (He.fAd K r.at_) with
  | none => rw [hl] at h; cases h
  | some o =>
    obtain ⟨oc, od, dt, osl⟩ := o
    rw [hl] at h
    cases dt with
    | func fd =>
      simp only at h
      obtain ⟨n1, n2, n3, n4, n5, n6, n7, n8, n9, n10, n11, n12, n13, n14, n15⟩ := fd
      cases n4 with
      | stmts body =>
        simp only [Bool.and_eq_true, decide_eq_true_eq, List.isEmpty_iff] at h
        obtain ⟨⟨⟨⟨⟨⟨⟨⟨⟨⟨⟨h1, h2⟩, h3⟩, h4⟩, h5⟩, h6⟩, h7⟩, h8⟩, h9⟩, h10⟩, p1⟩, hq⟩ := h
        subst h1 h2 h3
        have e8 : n8 = .none := by cases n8 <;> first | rfl | cases p1
        subst e8
        rw [← hq]
        refine ⟨n1, .FunctionDef n1 n3 body [] none [] n5 none n1 default, ⟨⟨oc, od, n9, n10, n11, n12, n13, n14, osl, rfl, hl, h4⟩, h10⟩, C8.fnScope_by h5, h6, h7, h8, h9⟩
      | expr e => cases h
    | _ => cases h
theorem row_bind {tx : Tx} {K : PySem.W.Frag} {r : Row} (h : chkRow tx K r = true) (hp : chkPlain K r = true) : Binds K (fdOf K (He.fAd K r.at_)) r.ps [] := by
  unfold chkRow at h
  unfold chkPlain at hp
  unfold fdOf
  cases hl : K.lookup (He.fAd K r.at_) with
  | none => rw [hl] at h; cases h
  | some o =>
    obtain ⟨oc, od, dt, osl⟩ := o
    rw [hl] at h hp
    cases dt with
    | func fd =>
      simp only at h hp
      obtain ⟨n1, n2, n3, n4, n5, n6, n7, n8, n9, n10, n11, n12, n13, n14, n15⟩ := fd
      cases n4 with
      | stmts body =>
        simp only [Bool.and_eq_true, decide_eq_true_eq, List.isEmpty_iff] at h hp
        obtain ⟨⟨⟨⟨⟨⟨⟨⟨⟨⟨⟨h1, h2⟩, h3⟩, h4⟩, h5⟩, h6⟩, h7⟩, h8⟩, h9⟩, h10⟩, p1⟩, hq⟩ := h
        obtain ⟨p2, p3⟩ := hp
        subst h1 h2 h3
        have e8 : n8 = .none := by cases n8 <;> first | rfl | cases p1
        subst e8
        have S := C8.fnScope_by h5
        have hnd : r.ps.Nodup := by
          unfold Row.ps
          exact List.Nodup.sublist (List.take_sublist _ _) S.nd
        rw [← p3] at hnd ⊢
        exact .all fun us hl => bind_plain p2 hnd hl
      | expr e => cases h
    | _ => cases h
theorem row_bind1 {tx : Tx} {K : PySem.W.Frag} {r : Row} (h : chkRow tx K r = true) (hp : chkPlain K r = true) {us : List Value} (hl : us.length = r.ps.length) : bindArgs (fdOf K (He.fAd K r.at_)) ⟨us, []⟩ = pure (r.ps.zip us) := by
  unfold chkRow at h
  unfold chkPlain at hp
  unfold fdOf
  cases hlk : K.lookup (He.fAd K r.at_) with
  | none => rw [hlk] at h; cases h
  | some o =>
    obtain ⟨oc, od, dt, osl⟩ := o
    rw [hlk] at h hp
    cases dt with
    | func fd =>
      simp only at h hp
      obtain ⟨n1, n2, n3, n4, n5, n6, n7, n8, n9, n10, n11, n12, n13, n14, n15⟩ := fd
      cases n4 with
      | stmts body =>
        simp only [Bool.and_eq_true, decide_eq_true_eq, List.isEmpty_iff] at h hp
        obtain ⟨⟨⟨⟨⟨⟨⟨⟨⟨⟨⟨h1, h2⟩, h3⟩, h4⟩, h5⟩, h6⟩, h7⟩, h8⟩, h9⟩, h10⟩, p1⟩, hq⟩ := h
        obtain ⟨p2, p3⟩ := hp
        subst h1 h2 h3
        have e8 : n8 = .none := by cases n8 <;> first | rfl | cases p1
        subst e8
        have S := C8.fnScope_by h5
        have hnd : r.ps.Nodup := by
          unfold Row.ps
          exact List.Nodup.sublist (List.take_sublist _ _) S.nd
        rw [← p3] at hnd ⊢
        rw [← p3] at hl
        exact bind_plain p2 hnd hl
      | expr e => cases h
    | _ => cases h
theorem row_kw {tx : Tx} {K : PySem.W.Frag} {r : Row} {m : Nat} {kn : Str} (h : chkRow tx K r = true) (hp : chkKw K r m kn = true) : m + 1 = r.ps.length ∧ ∀ us ws : List Value, us.length = m → ws.length = [kn].length → bindArgs (fdOf K (He.fAd K r.at_)) ⟨us, [kn].zip ws⟩ = pure (r.ps.zip (us ++ ws)) := by
  unfold chkRow at h
  unfold chkKw at hp
  unfold fdOf
  cases hlk : K.lookup (He.fAd K r.at_) with
  | none => rw [hlk] at h; cases h
  | some o =>
    obtain ⟨oc, od, dt, osl⟩ := o
    rw [hlk] at h hp
    cases dt with
    | func fd =>
      simp only at h hp
      obtain ⟨n1, n2, n3, n4, n5, n6, n7, n8, n9, n10, n11, n12, n13, n14, n15⟩ := fd
      cases n4 with
      | stmts body =>
        simp only [Bool.and_eq_true, decide_eq_true_eq, List.isEmpty_iff, Option.isNone_iff_eq_none] at h hp
        obtain ⟨⟨⟨⟨⟨⟨⟨⟨⟨⟨⟨h1, h2⟩, h3⟩, h4⟩, h5⟩, h6⟩, h7⟩, h8⟩, h9⟩, h10⟩, p1⟩, hq⟩ := h
        obtain ⟨⟨⟨⟨⟨p2, p3⟩, p4⟩, p5⟩, p6⟩, p7⟩ := hp
        subst h1 h2 h3
        have e8 : n8 = .none := by cases n8 <;> first | rfl | cases p1
        subst e8
        have S := C8.fnScope_by h5
        have hnd : r.ps.Nodup := by
          unfold Row.ps
          exact List.Nodup.sublist (List.take_sublist _ _) S.nd
        rw [← p6] at hnd ⊢
        refine ⟨by rw [List.length_append, p7]; rfl, fun us ws l1 l2 => ?_⟩
        obtain ⟨w, rfl⟩ : ∃ w, ws = [w] := by
          match ws, l2 with
          | [w], _ => exact ⟨w, rfl⟩
        exact bind_kw1 p2 p3 p4 p5 hnd (by rw [l1, p7])
      | expr e => cases h
    | _ => cases h
end Sim

end
section
set_option Elab.async false
set_option linter.all false
set_option maxRecDepth 100000
/-! SimV: a law's plan, its world, its checks. -/
namespace Sim
open PySem PySem.Spec PyProof.Rows L2 Ev

/-- all that a law's table says -/
structure Plan where
  rows : List (String × Row)
  globs : List (String × Val)
  tabs : List (String × List (Str × Val))
  meths : List ((String × String) × String)
  subs : List (String × String)
  flds : List (String × String)
  /-- the defs of the top that are called by name -/
  tops : List String
  bis : List String
  /-- defs whose parameters are by place alone -/
  plains : List String
  /-- defs with a lambda in them -/
  lams : List String
  /-- classes that are called, each by its __init__ -/
  inits : List (String × String)
  /-- defs with one keyword-only parameter, behind so many others -/
  kwos : List (String × (Nat × String))
  fuel : Nat
  /-- names of the top that no def here comes to -/
  skip : List String
def Plan.row (p : Plan) (f : String) : Option Row := p.rows.lookup f
def Plan.cfg (p : Plan) : Cfg where
  fn f := (p.row f).map (·.dfn)
  tabs g := p.tabs.lookup g
  glob x := p.globs.lookup x
  meth C m := p.meths.lookup (C, m)
  sub a b := p.subs.contains (a, b)
  fld C f := p.flds.contains (C, f)
  plain f := p.plains.contains f
  tops f := p.tops.contains f
  fuel := p.fuel
def Plan.kwo (p : Plan) (f : String) : Option (Nat × List Str) := (p.kwos.lookup f).map fun q => (q.1, [lit q.2])
def Plan.tx (p : Plan) : Tx := ⟨fun f => p.tops.contains f, fun x => p.bis.contains x, fun C i => p.inits.contains (C, i), p.kwo⟩
def Plan.lamT (p : Plan) (K : PySem.W.Frag) : List (Addr × Str) := p.lams.filterMap fun k => (p.row k).map fun r => ((He.cT K r.at_).2, lamName r.qual)
def Plan.wd (p : Plan) (P : Program) (w : World) (K : PySem.W.Frag) (mg : Str → Option Value) (base : PySem.Heap) : Wd where
  P := P
  w := w
  K := K
  mg := mg
  base := base
  cfg := p.cfg
  adr x := He.ga K (lit x)
  fadr f := match p.row f with
    | some r => He.fAd K r.at_
    | none => 0
  fdat f := match p.row f with
    | some r => fdOf K (He.fAd K r.at_)
    | none => default
  fps f := match p.row f with
    | some r => r.ps
    | none => []
  top f := p.tops.contains f
  bi x := p.bis.contains x
  isC C i := p.inits.contains (C, i)
  kwo := p.kwo
  lamT := p.lamT K
/-- the look at K -/
def Plan.chk (p : Plan) (K : PySem.W.Frag) : Bool :=
  (p.rows.all fun q => chkRow p.tx K q.2 && (!p.plains.contains q.1 || chkPlain K q.2) && (!q.2.names.contains "<lambda>" || p.lams.contains q.1))
  && (p.globs.all fun q => match PySem.W.nsIn K mainGlobals (lit q.1) with
    | some (some u) => chkV K q.2 u
    | _ => false)
  && (p.bis.all fun x => He.eqO (PySem.W.nsIn K mainGlobals (lit x)) (some none))
  && (p.flds.all fun q => (He.Fa.cls (lit q.1)).ok K && (He.Fa.noat (lit q.1) (lit q.2)).ok K)
  && (p.meths.all fun q => (He.Fa.cls (lit q.1.1)).ok K && (He.Fa.meth (lit q.1.1) (lit q.1.2)).ok K && p.plains.contains q.2 && (match p.row q.2 with
    | some r => decide (He.fAd K r.at_ = He.ma K (He.ga K (lit q.1.1)) (lit q.1.2))
    | none => false))
  && (p.tops.all fun f => p.plains.contains f && (match p.row f with
    | some r => decide (He.fAd K r.at_ = He.ga K (lit f)) && He.eqO (PySem.W.nsIn K mainGlobals (lit f)) (some (some (.ref (He.ga K (lit f)))))
    | none => false))
  && (p.plains.all fun f => (p.row f).isSome)
  && decide (p.lams.length ≤ 1)
  && (p.inits.all fun q => (He.Fa.mkr (lit q.1)).ok K && He.eqO (PySem.W.nsIn K mainGlobals (lit q.1)) (some (some (.ref (He.ga K (lit q.1))))) && (p.plains.contains q.2 || (p.kwo q.2).isSome) && (match p.row q.2 with
    | some r => decide (He.fAd K r.at_ = He.ma K (He.ga K (lit q.1)) "__init__")
    | none => false))
  && (p.kwos.all fun q => match p.row q.1 with
    | some r => chkKw K r q.2.1 (lit q.2.2)
    | none => false)

section
variable {p : Plan} {P : Program} {w : World} {K : PySem.W.Frag} {mg : Str → Option Value} {base : PySem.Heap}
theorem look_mem {β : Type} {f : String} {v : β} : ∀ {l : List (String × β)}, l.lookup f = some v → (f, v) ∈ l
  | [], h => by cases h
  | (g, u) :: r, h => by
    rw [List.lookup_cons] at h
    by_cases e : f = g
    · subst e
      simp at h
      subst h
      simp
    · have : (f == g) = false := by simpa using e
      rw [this] at h
      exact List.mem_cons_of_mem _ (look_mem h)
structure Plan.Parts (p : Plan) (K : PySem.W.Frag) : Prop where
  rows : ∀ q ∈ p.rows, chkRow p.tx K q.2 = true ∧ (p.plains.contains q.1 = true → chkPlain K q.2 = true) ∧ (q.2.names.contains "<lambda>" = true → p.lams.contains q.1 = true)
  globs : ∀ q ∈ p.globs, (match PySem.W.nsIn K mainGlobals (lit q.1) with
    | some (some u) => chkV K q.2 u
    | _ => false) = true
  bis : ∀ x ∈ p.bis, He.eqO (PySem.W.nsIn K mainGlobals (lit x)) (some none) = true
  flds : ∀ q ∈ p.flds, ((He.Fa.cls (lit q.1)).ok K && (He.Fa.noat (lit q.1) (lit q.2)).ok K) = true
  meths : ∀ q ∈ p.meths, ((He.Fa.cls (lit q.1.1)).ok K && (He.Fa.meth (lit q.1.1) (lit q.1.2)).ok K && p.plains.contains q.2 && (match p.row q.2 with
    | some r => decide (He.fAd K r.at_ = He.ma K (He.ga K (lit q.1.1)) (lit q.1.2))
    | none => false)) = true
  tops : ∀ f ∈ p.tops, (p.plains.contains f && (match p.row f with
    | some r => decide (He.fAd K r.at_ = He.ga K (lit f)) && He.eqO (PySem.W.nsIn K mainGlobals (lit f)) (some (some (.ref (He.ga K (lit f)))))
    | none => false)) = true
  plains : ∀ f ∈ p.plains, (p.row f).isSome = true
  lams : p.lams.length ≤ 1
  inits : ∀ q ∈ p.inits, ((He.Fa.mkr (lit q.1)).ok K && He.eqO (PySem.W.nsIn K mainGlobals (lit q.1)) (some (some (.ref (He.ga K (lit q.1))))) && (p.plains.contains q.2 || (p.kwo q.2).isSome) && (match p.row q.2 with
    | some r => decide (He.fAd K r.at_ = He.ma K (He.ga K (lit q.1)) "__init__")
    | none => false)) = true
  kwos : ∀ q ∈ p.kwos, (match p.row q.1 with
    | some r => chkKw K r q.2.1 (lit q.2.2)
    | none => false) = true
theorem parts_of (hc : p.chk K = true) : p.Parts K := by
  unfold Plan.chk at hc
  simp only [Bool.and_eq_true (a := _ && _), Bool.and_eq_true] at hc
  obtain ⟨⟨⟨⟨⟨⟨⟨⟨⟨c1, c2⟩, c3⟩, c4⟩, c5⟩, c6⟩, c7⟩, c8⟩, c9⟩, c10⟩ := hc
  refine ⟨fun q hq => ?_, List.all_eq_true.mp c2, List.all_eq_true.mp c3, List.all_eq_true.mp c4, List.all_eq_true.mp c5, List.all_eq_true.mp c6, List.all_eq_true.mp c7, of_decide_eq_true c8, List.all_eq_true.mp c9, List.all_eq_true.mp c10⟩
  have h := List.all_eq_true.mp c1 q hq
  simp only [Bool.and_eq_true, Bool.or_eq_true, Bool.not_eq_true'] at h
  obtain ⟨⟨h1, h2⟩, h3⟩ := h
  refine ⟨h1, fun z => ?_, fun z => ?_⟩
  · rcases h2 with h2 | h2
    · rw [h2] at z; cases z
    · exact h2
  · rcases h3 with h3 | h3
    · rw [h3] at z; cases z
    · exact h3
theorem lit_contains {l : List String} {x : String} (h : (l.map lit).contains (lit x) = true) : l.contains x = true := by
  simp only [List.contains_iff_mem, List.mem_map] at h ⊢
  obtain ⟨y, hy, e⟩ := h
  rw [← lit_inj e]
  exact hy
theorem defs_of (hc : p.chk K = true) (hT : ∀ k r, p.lams.contains k = true → p.row k = some r → LamX.TabB base mg (He.cT K r.at_).1 (He.cT K r.at_).2) : ∀ f d, (p.wd P w K mg base).cfg.fn f = some d → DefOk (p.wd P w K mg base) f d := by
  intro f d hf
  have hf' : (p.row f).map (·.dfn) = some d := hf
  cases hr : p.row f with
  | none => rw [hr] at hf'; cases hf'
  | some r =>
    rw [hr] at hf'
    cases hf'
    have pt := parts_of hc
    obtain ⟨g1, g2, g3⟩ := pt.rows _ (look_mem hr)
    obtain ⟨x, st, a1, a2, a3, a4, a5, a6⟩ := row_fn g1
    have e1 : (p.wd P w K mg base).fadr f = He.fAd K r.at_ := by simp only [Plan.wd, hr]
    have e2 : (p.wd P w K mg base).fdat f = fdOf K (He.fAd K r.at_) := by simp only [Plan.wd, hr]
    have e3 : (p.wd P w K mg base).fps f = r.ps := by simp only [Plan.wd, hr]
    refine ⟨x, r.qual, st, r.N, by rw [e1, e2]; exact a1, by rw [e3]; exact a2, a3, a4, by rw [e3]; exact a5, a6, fun hN => ?_⟩
    have hl := g3 (lit_contains hN)
    obtain ⟨oc, od, kV, doc, pm, an, cdv, ct, osl, hfd, hlk, hcd⟩ := a1.ex
    obtain ⟨c, hcr⟩ := He.codeIn_ref hcd
    have hcode : (fdOf K (He.fAd K r.at_)).code = .ref c := by rw [hfd]; exact hcr
    have hco : He.codeOf K r.at_ = c := He.codeOf_eq hlk hcode
    refine ⟨c, (He.cT K r.at_).2, by rw [e2]; exact hcode, ?_, ?_, ?_⟩
    · have := hT f r hl hr
      have e : (He.cT K r.at_).1 = c := hco
      rw [e] at this
      exact this
    · show _ ∈ p.lamT K
      unfold Plan.lamT
      exact List.mem_filterMap.mpr ⟨f, by simpa using hl, by rw [hr]; rfl⟩
    · intro q hq _
      have hq' : q ∈ p.lamT K := hq
      unfold Plan.lamT at hq'
      obtain ⟨k, hk1, hk2⟩ := List.mem_filterMap.mp hq'
      have hlen := pt.lams
      have hf' : f ∈ p.lams := by simpa using hl
      have : k = f := by
        match h : p.lams, hlen, hk1, hf' with
        | [z], _, hk1, hf' => simp at hk1 hf'; rw [hk1, hf']
        | [], _, hk1, _ => cases hk1
        | _ :: _ :: _, hlen, _, _ => simp at hlen
      subst this
      rw [hr] at hk2
      cases hk2
      rfl
theorem plain_row (hc : p.chk K = true) {f : String} (hf : p.plains.contains f = true) : ∃ r, p.row f = some r :=
  Option.isSome_iff_exists.mp ((parts_of hc).plains f (by simpa using hf))
theorem stat_of (B : Base (p.wd P w K mg base)) (hc : p.chk K = true) : Stat (p.wd P w K mg base) := by
  have hc0 := hc
  have pt := parts_of hc
  refine ⟨?_, ?_, ?_, ?_, ?_, ?_, ?_, ?_, ?_, ?_, ?_⟩
  · intro x v hx
    have h1 := pt.globs _ (look_mem hx)
    simp only at h1
    split at h1
    · rename_i u hu
      obtain ⟨V, a1, a2⟩ := chkV_ok B v u h1
      exact ⟨u, V, B.mg _ _ hu, a1, a2⟩
    · cases h1
  · intro x hx
    have hx' : x ∈ p.bis := by simpa [Plan.wd] using hx
    exact B.mgn _ (He.eqO_ok (pt.bis x hx'))
  · intro f hf
    have hf' : f ∈ p.tops := by simpa [Plan.wd] using hf
    have h1 := pt.tops f hf'
    simp only [Bool.and_eq_true] at h1
    obtain ⟨h1, h2⟩ := h1
    split at h2
    · rename_i r hr
      simp only [Bool.and_eq_true, decide_eq_true_eq] at h2
      have e1 : (p.wd P w K mg base).fadr f = He.ga K (lit f) := by simp only [Plan.wd, hr]; exact h2.1
      have hm := B.mg _ _ (He.eqO_ok h2.2)
      have hk : PySem.W.keepIn K (.ref (He.fAd K r.at_)) = true := by
        have h4 := (pt.rows _ (look_mem hr)).1
        unfold chkRow at h4
        split at h4
        · split at h4
          · simp only [Bool.and_eq_true] at h4
            exact h4.1.1.2
          · cases h4
        · cases h4
      exact ⟨h1, by rw [e1]; exact hm, by rw [e1, ← h2.1]; exact hk, by rw [e1]; rfl⟩
    · cases h2
  · intro f d hd hp
    have hd' : (p.row f).map (·.dfn) = some d := hd
    cases hr : p.row f with
    | none => rw [hr] at hd'; cases hd'
    | some r =>
      have h3 := pt.rows _ (look_mem hr)
      simp only [Plan.wd, hr]
      exact row_bind h3.1 (h3.2.1 hp)
  · intro f hf
    obtain ⟨r, hr⟩ := plain_row hc0 hf
    exact ⟨r.dfn, by show (p.row f).map _ = _; rw [hr]; rfl⟩
  · intro C f hf
    have hf' : (C, f) ∈ p.flds := by
      have : p.flds.contains (C, f) = true := hf
      simpa using this
    have h1 := pt.flds _ hf'
    simp only [Bool.and_eq_true] at h1
    exact ⟨He.cls_ok h1.1, He.noat_ok h1.2⟩
  · intro f hf
    exact hf
  · intro C m key hk
    have hk' : p.meths.lookup (C, m) = some key := hk
    have hmem : ((C, m), key) ∈ p.meths := by
      have go : ∀ l : List ((String × String) × String), l.lookup (C, m) = some key → ((C, m), key) ∈ l := by
        intro l
        induction l with
        | nil => intro h; cases h
        | cons q r ih =>
          obtain ⟨g, u⟩ := q
          intro h
          rw [List.lookup_cons] at h
          by_cases e : (C, m) = g
          · subst e
            simp at h
            subst h
            simp
          · have : ((C, m) == g) = false := by simpa using e
            rw [this] at h
            exact List.mem_cons_of_mem _ (ih h)
      exact go _ hk'
    have h1 := pt.meths _ hmem
    simp only [Bool.and_eq_true] at h1
    obtain ⟨⟨⟨h1, h2⟩, h3⟩, h4⟩ := h1
    split at h4
    · rename_i r hr
      have e1 : (p.wd P w K mg base).fadr key = He.ma K (He.ga K (lit C)) (lit m) := by
        simp only [Plan.wd, hr]
        exact of_decide_eq_true h4
      exact ⟨h3, He.cls_ok h1, by rw [e1]; exact He.meth_ok h2⟩
    · cases h4
  · intro C i hi
    have hi' : (C, i) ∈ p.inits := by
      have : p.inits.contains (C, i) = true := hi
      simpa using this
    have h1 := pt.inits _ hi'
    simp only [Bool.and_eq_true] at h1
    obtain ⟨⟨⟨h1, h2⟩, h3⟩, h4⟩ := h1
    split at h4
    · rename_i r hr
      have e1 : (p.wd P w K mg base).fadr i = He.ma K (He.ga K (lit C)) "__init__" := by
        simp only [Plan.wd, hr]
        exact of_decide_eq_true h4
      exact ⟨B.mg _ _ (He.eqO_ok h2), by rw [e1]; exact He.mkr_ok h1, ⟨r.dfn, by show (p.row i).map _ = _; rw [hr]; rfl⟩⟩
    · cases h4
  · intro f m ks hk
    have hk' : p.kwo f = some (m, ks) := hk
    unfold Plan.kwo at hk'
    cases hl : p.kwos.lookup f with
    | none => rw [hl] at hk'; cases hk'
    | some q =>
      rw [hl] at hk'
      cases hk'
      have h1 := pt.kwos _ (look_mem hl)
      simp only at h1
      split at h1
      · rename_i r hr
        obtain ⟨g1, g2⟩ := row_kw (pt.rows _ (look_mem hr)).1 h1
        simp only [Plan.wd, hr]
        exact ⟨g1, g2⟩
      · cases h1
  · intro C i hi
    have hi' : (C, i) ∈ p.inits := by
      have : p.inits.contains (C, i) = true := hi
      simpa using this
    have h1 := pt.inits _ hi'
    simp only [Bool.and_eq_true, Bool.or_eq_true] at h1
    rcases h1.1.2 with h | h
    · exact .inl h
    · obtain ⟨q, hq⟩ := Option.isSome_iff_exists.mp h
      exact .inr ⟨q, hq⟩
/-- the tables' values -/
def Plan.chkT (p : Plan) (K : PySem.W.Frag) : Bool := p.tabs.all fun q => q.2.all fun e => match PySem.W.nsIn K (He.ga K (lit q.1)) e.1 with
  | some (some u) => chkV K e.2 u
  | _ => false
theorem nsIn_keys {K : PySem.W.Frag} {a : Addr} {P : Params} {ks : List Str} (h : He.dicW K a = some (He.keysIn P ks)) {z : Str} (hz : z ∉ ks) : PySem.W.nsIn K a z = some none := by
  unfold He.dicW at h
  unfold PySem.W.nsIn
  cases hl : K.lookup a with
  | none => rw [hl] at h; cases h
  | some o =>
    obtain ⟨oc, od, dt, osl⟩ := o
    rw [hl] at h
    cases dt with
    | dict es n =>
      simp only
      have hk : es.toList.map He.keyOf = He.keysIn P ks := by
        cases oc <;> cases od <;> first | (cases h; done) | skip
        simp only at h
        split at h
        · exact Option.some.inj h
        · cases h
      have hall : ∀ e ∈ es.toList, ∃ x t, e.key = .str x t ∧ x ∈ ks := by
        intro e he
        have : He.keyOf e ∈ He.keysIn P ks := by rw [← hk]; exact List.mem_map.mpr ⟨e, he, rfl⟩
        unfold He.keysIn at this
        obtain ⟨k, hk1, hk2⟩ := List.mem_map.mp this
        unfold He.keyOf at hk2
        split at hk2
        · rename_i x t hx
          simp only [Option.some.injEq, Prod.mk.injEq] at hk2
          exact ⟨x, t, hx, by rw [← hk2.1]; exact hk1⟩
        · cases hk2
      have h1 : es.toList.find? (·.key.isStr z) = none := by
        rw [List.find?_eq_none]
        intro e he
        obtain ⟨x, t, hx, hm⟩ := hall e he
        rw [hx]
        intro q
        have : x = z := by simpa [Value.isStr] using q
        subst this
        exact hz hm
      have h2 : es.toList.any (·.refKey) = false := by
        rw [List.any_eq_false]
        intro e he
        obtain ⟨x, t, hx, hm⟩ := hall e he
        simp [DictEntry.refKey, hx]
      rw [h1]
      simp [h2]
    | _ =>
      cases oc <;> cases od <;> cases h
/-- the keys of a table -/
def keysT (t : List (Str × Val)) : List Str := t.map (·.1)
theorem tab_of (B : Base (p.wd P w K mg base)) (hc : p.chkT K = true) (hd : p.tabs.map (fun q => He.dicW K (He.ga K (lit q.1))) = p.tabs.map fun q => some (He.keysIn w.params (keysT q.2))) : Tab (p.wd P w K mg base) := by
  refine ⟨fun g t ht => ?_⟩
  have ht' : p.tabs.lookup g = some t := ht
  have hm := look_mem ht'
  obtain ⟨i, hi⟩ := List.getElem?_of_mem hm
  have e : He.dicW K (He.ga K (lit g)) = some (He.keysIn w.params (keysT t)) := by
    have := congrArg (fun l => l[i]?) hd
    simp only [List.getElem?_map, hi, Option.map_some, Option.some.injEq] at this
    exact this
  obtain ⟨es, n, hk⟩ := He.dicW_ok e
  refine ⟨es, n, hk, fun z => ⟨fun hz => ?_, fun v hz => ?_⟩⟩
  · refine nsIn_keys e fun hmem => ?_
    obtain ⟨q, hq1, hq2⟩ := List.mem_map.mp hmem
    have : ∀ l : List (Str × Val), q ∈ l → l.lookup z ≠ none := by
      intro l
      induction l with
      | nil => intro h; cases h
      | cons a r ih =>
        intro h
        obtain ⟨a1, a2⟩ := a
        rw [List.lookup_cons]
        by_cases e2 : (z == a1) = true
        · rw [e2]; simp
        · have e2' : (z == a1) = false := by simpa using e2
          rw [e2']
          rcases List.mem_cons.mp h with h | h
          · subst h
            simp only at hq2
            subst hq2
            simp at e2
          · exact ih h
    exact this t hq1 hz
  · have h1 := List.all_eq_true.mp hc _ hm
    have hm2 : (z, v) ∈ t := by
      have : ∀ l : List (Str × Val), l.lookup z = some v → (z, v) ∈ l := by
        intro l
        induction l with
        | nil => intro h; cases h
        | cons a r ih =>
          intro h
          obtain ⟨a1, a2⟩ := a
          rw [List.lookup_cons] at h
          by_cases e2 : z = a1
          · subst e2; simp at h; subst h; simp
          · have e2' : (z == a1) = false := by simpa using e2
            rw [e2'] at h
            exact List.mem_cons_of_mem _ (ih h)
      exact this t hz
    have h2 := List.all_eq_true.mp h1 _ hm2
    simp only at h2
    split at h2
    · rename_i u hu
      obtain ⟨V, a1, a2⟩ := chkV_ok B v u h2
      exact ⟨u, V, hu, a1, a2⟩
    · cases h2
end
end Sim

end
section
set_option Elab.async false
set_option linter.all false
set_option maxRecDepth 100000
/-! SimW: the head's look at a law's plan; a law's end by the evaluator's run. -/
namespace Sim
open PySem PySem.Spec PyProof.Rows L2 Ev

/-- where the defs with lambdas stand -/
def Plan.lamAt (p : Plan) (k : String) : Str × Option Str := match p.row k with
  | some r => r.at_
  | none => (lit "", none)
/-- what the head looks at -/
def Plan.tsH (p : Plan) : List He.Tab := p.tabs.map fun q => (fun K => He.ga K (lit q.1), keysT q.2)
def Plan.ex (p : Plan) (K : PySem.W.Frag) : Bool := p.chk K && p.chkT K
/-! ### a part of the heap, written out (for the kernel) -/
def refsF (o : Obj) : List Addr := match o.data with
  | .seq its _ => its.toList.flatMap He.refV
  | .dict es _ => es.toList.flatMap fun e => He.refV e.val
  | .func fd => He.refV fd.code
  | .cls cd => cd.ns :: cd.mro.flatMap He.refV
  | _ => []
/-- a set of addresses, a tree over their bits -/
inductive VT where
  | nil
  | node (here : Bool) (l r : VT)
def VT.mem : Nat → VT → Nat → Bool
  | 0, _, _ => false
  | _ + 1, .nil, _ => false
  | n + 1, .node b l r, i => match i with
    | 0 => b
    | i + 1 => match Nat.beq ((i + 1) % 2) 0 with
      | true => VT.mem n l ((i + 1) / 2)
      | false => VT.mem n r ((i + 1) / 2)
def VT.put : Nat → VT → Nat → VT
  | 0, t, _ => t
  | n + 1, t, i =>
    let q : Bool × VT × VT := match t with
      | .nil => (false, .nil, .nil)
      | .node b l r => (b, l, r)
    match q with
    | (b, l, r) => match i with
      | 0 => .node true l r
      | i + 1 => match Nat.beq ((i + 1) % 2) 0 with
        | true => .node b (VT.put n l ((i + 1) / 2)) r
        | false => .node b l (VT.put n r ((i + 1) / 2))
def seeAll (t : VT) (acc : List Addr) : List Addr → (VT → List Addr → List Addr) → List Addr
  | [], k => k t acc
  | a :: r, k => HandSHeadRun.frNat a fun a => match t.mem 40 a with
    | true => seeAll t acc r k
    | false => seeAll (t.put 40 a) (a :: acc) r k
def walkG (g : Addr → Option Obj) (t : VT) (acc : List Addr) : List Addr → (VT → List Addr → List Addr) → List Addr
  | [], k => k t acc
  | a :: r, k => seeAll t acc (match g a with
    | some o => refsF o
    | none => []) fun t acc => walkG g t acc r k
def reach (g : Addr → Option Obj) : Nat → VT → List Addr → List Addr → List Addr
  | 0, _, fr, all => all ++ fr
  | n + 1, t, fr, all => walkG g t [] fr fun t new => reach g n t new (all ++ fr)
/-- the top's names, but for those that nobody comes to -/
def refsM (skip : List PySem.Str) (o : Obj) : List Addr := match o.data with
  | .dict es _ => es.toList.flatMap fun e => match skip.any fun x => e.key.isStr x with
    | true => []
    | false => He.refV e.val
  | _ => []
def asF (skip : List PySem.Str) (g : Addr → Option Obj) (n : Nat) : List Addr := HandSHeadRun.frNat mainGlobals fun a => seeAll (VT.nil.put 40 a) [] (match g a with
    | some o => refsM skip o
    | none => []) fun t fr => reach g n t fr [a]
def Plan.as (p : Plan) (g : Addr → Option Obj) (n : Nat) : List Addr := asF (p.skip.map lit) g n
def frcO {α : Type} (o : Obj) (k : Obj → α) : α := match o with
  | ⟨c, d, dt, sl⟩ => match dt with
    | .dict es n => k ⟨c, d, .dict es n, sl⟩
    | .func fd => k ⟨c, d, .func fd, sl⟩
    | dt => k ⟨c, d, dt, sl⟩
theorem frcO_eq {α : Type} (o : Obj) (k : Obj → α) : frcO o k = k o := by
  obtain ⟨c, d, dt, sl⟩ := o
  cases dt <;> rfl
def frcK {α : Type} : PySem.W.Frag → (PySem.W.Frag → α) → α
  | [], k => k []
  | (a, o) :: r, k => HandSHeadRun.frNat a fun a => frcO o fun o => frcK r fun r => k ((a, o) :: r)
theorem frcK_eq {α : Type} : ∀ (K : PySem.W.Frag) (k : PySem.W.Frag → α), frcK K k = k K
  | [], _ => rfl
  | (a, o) :: r, k => by
    unfold frcK
    rw [HandSHeadRun.frNat_eq, frcO_eq, frcK_eq r]
def Plan.obF (n : Nat) (p : Plan) (g : Addr → Option Obj) : He.AlX := frcK (He.frT g (p.as g n)) fun K => (He.obsT [] [] p.tsH K, p.ex K && He.tabsB g (p.lams.map p.lamAt) K)
theorem obF_eq (n : Nat) (p : Plan) (g : Addr → Option Obj) : p.obF n g = (He.obsT [] [] p.tsH (He.frT g (p.as g n)), p.ex (He.frT g (p.as g n)) && He.tabsB g (p.lams.map p.lamAt) (He.frT g (p.as g n))) := frcK_eq _ _
theorem says_obF {n : Nat} {p : Plan} {w : World} {h : PySem.Heap} (e : p.obF n h.get? = He.valX [] p.tsH w) : He.SaysX [] [] p.tsH (p.lams.map p.lamAt) p.ex w h (He.frT h.get? (p.as h.get? n)) := by
  rw [obF_eq] at e
  have e1 : He.obsT [] [] p.tsH (He.frT h.get? (p.as h.get? n)) = He.valT [] p.tsH w := congrArg Prod.fst e
  have e2 : (p.ex (He.frT h.get? (p.as h.get? n)) && He.tabsB h.get? (p.lams.map p.lamAt) (He.frT h.get? (p.as h.get? n))) = true := congrArg Prod.snd e
  rw [Bool.and_eq_true] at e2
  have at_ : ∀ q ∈ p.lams.map p.lamAt, PySem.W.codeHdIn (He.frT h.get? (p.as h.get? n)) (He.cT (He.frT h.get? (p.as h.get? n)) q).1 (He.cT (He.frT h.get? (p.as h.get? n)) q).2 = true ∧ ∃ o, h.get? (He.cT (He.frT h.get? (p.as h.get? n)) q).2 = some o ∧ He.emptyTab o = true := by
    intro q hq
    have h3 := List.all_eq_true.mp e2.2 q hq
    rw [Bool.and_eq_true] at h3
    refine ⟨h3.1, ?_⟩
    have h4 := h3.2
    split at h4
    · exact ⟨_, by assumption, h4⟩
    · cases h4
  exact ⟨e1, e2.1, fun q hq => (at_ q hq).1, fun q hq => by
    obtain ⟨_, o, z1, z2⟩ := at_ q hq
    exact He.frT_none z1 z2, fun q hq => by
    obtain ⟨_, o, z1, z2⟩ := at_ q hq
    rw [z1, He.emptyTab_eq z2]⟩
def Plan.hook (n : Nat) (p : Plan) : PySem.W.Hook where
  α := He.AlX
  obs := fun s => p.obF n s.heap.get?
  val := fun w => He.valX [] p.tsH w
  says := fun w h => ∃ K : PySem.W.Frag, K.In h ∧ He.SaysX [] [] p.tsH (p.lams.map p.lamAt) p.ex w h K
  of := fun _ _ e => ⟨_, He.frT_in, says_obF e⟩
  keeps := fun _ _ _ ⟨K, hK, c⟩ k => ⟨K, PySem.W.Frag.In.keeps hK k, ⟨c.t, c.more, c.hd, c.out, fun q hq => k _ _ (c.empty q hq)⟩⟩
def Plan.ob (n : Nat) (p : Plan) (s : PySem.W.SharedT) : He.AlX := p.obF n (HandSHeadRun.getT s)
theorem ob_eq (n : Nat) (p : Plan) (s : PySem.W.SharedT) : p.ob n s = (p.hook n).obs s.abs := by
  have e : HandSHeadRun.getT s = s.abs.heap.get? := funext (HandSHeadRun.getT_eq s)
  unfold Plan.ob
  rw [e]
  rfl
theorem rvs_ints {D : Wd} {G : Hp} {ρ : List Addr} : ∀ ns : List Int, RVs D G ρ (ns.map Val.int) (ns.map V.int)
  | [] => .nil
  | n :: ns => .cons (.int n) (rvs_ints ns)
/-- a law's end: the evaluator's run of its def -/
theorem law_walk {l : PySem.W.OpenLaw} {q : Program} {loose : List Str} {XP : (Str → Option Value) → Heap → Prop} {d : DefRec} (m : Nat) (p : Plan) (N : Nat) {r : Row} {x : String}
    (hn : l.most = some 63) (hdf : d.params.defaults = []) (hr : Room (2 * N + 1) callerA) (hd : d.name = lit "law") (hrow : p.row "law" = some r) (hps : r.ps = [lit x]) (htop : p.tops.contains "law" = true)
    (H : ∀ ns : List Int, ns.length ≤ 63 → (∀ k ∈ ns, Builtin.Int.intBits k ≤ 1048576) → ∃ h', run p.cfg N "law" [.scr (ns.map .int)] [] = .ok (.bl true) h') :
    PySem.W.WalkO q loose XP (p.hook m).says l.row.toRowW d [] (fun f vs => PySem.call f vs) := by
  refine Att.attach_callB hn hdf fun w s₀ s₁ mg mb fa o pm cd doc a vs ns G Y ho hd' hcd hmg hobj hints hlen hbits hg => ?_
  obtain ⟨K, KX, hc⟩ := Y
  have hc1 : p.ex K = true := hc.more
  unfold Plan.ex at hc1
  simp only [Bool.and_eq_true] at hc1
  have hc2 : (p.tabs.map fun q => He.dicW K (He.ga K (lit q.1))) = p.tabs.map fun q => some (He.keysIn w.params (keysT q.2)) := by
    have h1 := congrArg Prod.snd hc.t
    have h2 : (p.tsH.map fun t => He.dicW K (t.1 K)) = p.tsH.map fun t => some (He.keysIn w.params t.2) := h1
    unfold Plan.tsH at h2
    rw [List.map_map, List.map_map] at h2
    exact h2
  have GN := G.T.g
  have hb0 : ∀ base : PySem.Heap, Base (p.wd l.prog w K mg base) := fun base => ⟨fun _ => rfl, fun x v e => PySem.W.mg_of KX GN e, fun x e => PySem.W.mg_none_of KX GN e⟩
  have hS : ∀ base : PySem.Heap, Stat (p.wd l.prog w K mg base) := fun base => stat_of (hb0 base) hc1.1
  have hT : ∀ base : PySem.Heap, Tab (p.wd l.prog w K mg base) := fun base => tab_of (hb0 base) hc1.2 hc2
  have hfn : p.cfg.fn "law" = some r.dfn := by show (p.row "law").map _ = _; rw [hrow]; rfl
  have hfa : fa = He.fAd K r.at_ := by
    have h1 := ((hS default).top "law" htop).2.1
    have h2 : mg (lit "law") = some (.ref fa) := by rw [← hd]; exact hmg
    have h3 : (p.wd l.prog w K mg default).fadr "law" = He.fAd K r.at_ := by simp only [Plan.wd, hrow]
    have h4 : mg (lit "law") = some (.ref ((p.wd l.prog w K mg default).fadr "law")) := h1
    rw [h2, h3] at h4
    simpa using h4
  subst hfa
  have e1 : ∀ base, (p.wd l.prog w K mg base).fadr "law" = He.fAd K r.at_ := fun base => by simp only [Plan.wd, hrow]
  have e2 : ∀ base, (p.wd l.prog w K mg base).fdat "law" = fdOf K (He.fAd K r.at_) := fun base => by simp only [Plan.wd, hrow]
  have e3 : ∀ base, (p.wd l.prog w K mg base).fps "law" = [lit x] := fun base => by simp only [Plan.wd, hrow, hps]
  have pt := parts_of hc1.1
  have hrw := pt.rows _ (look_mem hrow)
  have hpl : p.plains.contains "law" = true := ((hS default).top "law" htop).1
  have key : ∀ {P : Str × Option Str → Prop}, (∀ q ∈ p.lams.map p.lamAt, P q) → ∀ k ∈ p.lams, P (p.lamAt k) := fun h k hk => h _ (List.mem_map.mpr ⟨k, hk, rfl⟩)
  refine LamX.law_callTs (cs := p.lams.map fun k => He.cT K (p.lamAt k)) (sp := fun vs H Q E => ∀ base, spF (p.wd l.prog w K mg base) N "law" vs H Q E) KX GN G.T.b G.T.builtins G.T.nolimit hg ?_ ?_ ?_ G.T.bmain hobj hints (Nat.le_trans hlen (by decide)) hr
    (fun base _ _ TB => ?_) (fun s u => ?_) (fun Hh hO hSq => ?_) (fun Hh e s' hx => ?_) (x := lit x) (CX := L2.CX l.prog w) (fd := fdOf K (He.fAd K r.at_))
  · intro q hq
    obtain ⟨k, hk, rfl⟩ := List.mem_map.mp hq
    exact key (P := fun z => s₁.heap.get? (He.cT K z).2 = _) hc.empty k hk
  · intro q hq
    obtain ⟨k, hk, rfl⟩ := List.mem_map.mp hq
    exact key (P := fun z => K.lookup (He.cT K z).2 = none) hc.out k hk
  · intro q hq
    obtain ⟨k, hk, rfl⟩ := List.mem_map.mp hq
    exact PySem.W.codeHd_of_K KX (key (P := fun z => PySem.W.codeHdIn K (He.cT K z).1 (He.cT K z).2 = true) hc.hd k hk)
  · have hdefs := defs_of (P := l.prog) (w := w) (base := base) (mg := mg) hc1.1 fun k r hk hkr => by
      have := TB (He.cT K (p.lamAt k)) (List.mem_map.mpr ⟨k, by simpa using hk, rfl⟩)
      have e : p.lamAt k = r.at_ := by unfold Plan.lamAt; rw [hkr]
      rw [e] at this
      exact this
    have := fns_all (hS base) (hT base) hdefs N "law" r.dfn hfn
    rw [e1, e2, e3] at this
    exact this.imp fun vs H Q E h => h base
  · have hb := row_bind hrw.1 (hrw.2.1 hpl)
    have := row_bind1 hrw.1 (hrw.2.1 hpl) (us := [u]) (by rw [hps]; rfl)
    rw [hps] at this
    exact .of_eq this
  · intro base
    obtain ⟨h', hrun⟩ := H ns hlen hbits
    have hsc : ∃ Ga : Option HO, (∀ u, Ga = some u → Hh a = some u ∧ unpin u = u ∧ bareH (some u)) ∧ (Rd (fun b => if b = a then Ga else none) a (.lst (ns.map V.int)) ∨ SqL K (fun _ => none) a (ns.map V.int)) := by
      rcases hSq with (hz | ⟨ob, hz⟩) | hz
      · exact ⟨some (.lst (ns.map V.int)), fun u hu => by cases hu; exact ⟨hz, rfl, trivial⟩, .inl (.inl (by simp))⟩
      · exact ⟨some (.frz ob (.lst (ns.map V.int))), fun u hu => by cases hu; exact ⟨hz, rfl, trivial⟩, .inl (.inr ⟨ob, by simp⟩)⟩
      · exact ⟨none, fun u hu => (nomatch hu), .inr (.inr hz)⟩
    obtain ⟨Ga, hGa, hsc⟩ := hsc
    refine ⟨fun b => if b = a then Ga else none, [], [], [.scr (ns.map .int)], ⟨fun b o hb => ?_, ?_, fun b => ?_, rfl, List.nodup_nil, fun _ hm => (nomatch hm), fun n a o h1 => (by simp at h1)⟩, .cons (.scr (xs := ns.map V.int) hsc (by simpa using Nat.le_trans hlen (by decide)) (rvs_ints ns)) .nil, ?_⟩
    · have hb' : (if b = a then Ga else none) = some o := hb
      by_cases hba : b = a
      · rw [if_pos hba] at hb'
        obtain ⟨z1, z2, _⟩ := hGa o hb'
        rw [hba, z1, z2]
      · rw [if_neg hba] at hb'; cases hb'
    · intro q hq
      have hq' : q ∈ p.lamT K := hq
      unfold Plan.lamT at hq'
      obtain ⟨k, hk1, hk2⟩ := List.mem_filterMap.mp hq'
      cases hkr : p.row k with
      | none => rw [hkr] at hk2; cases hk2
      | some r' =>
        rw [hkr] at hk2
        cases hk2
        refine LamX.TabS.nil ?_
        have e : p.lamAt k = r'.at_ := by unfold Plan.lamAt; rw [hkr]
        have := hO (He.cT K (p.lamAt k)) (List.mem_map.mpr ⟨k, hk1, rfl⟩)
        rw [e] at this
        exact this
    · by_cases hba : b = a
      · rw [if_pos hba]
        cases hG : Ga with
        | none => trivial
        | some u => exact (hGa u hG).2.2
      · rw [if_neg hba]; trivial
    · show OkG _ _ _ _ _ (run p.cfg N "law" [.scr (ns.map .int)] []) _
      rw [hrun]
      intro G' ρ' H' y _ _ ry
      cases ry
      rfl
  · obtain ⟨_, _, _, _, _, _, _, _, _, _, _, _, z⟩ := hx
    exact z
end Sim

end
section
set_option Elab.async false
set_option linter.all false
set_option maxRecDepth 100000
/-! SimZ: the head's equation in parts (each for the kernel by itself). -/
namespace Sim
open PySem PySem.W PySem.Calls PyProof.Rows HandSHeadRun
open Ev (lit)
def LooksEq (r : OpenRow) (M : Nat) (w : World) : Prop :=
  ∀ os : OsState, (endF (stepQ (denQ tabQ) r.prog w) M r.prog w os).map (fun s => looksF r.prog (boot_heap w.params) s.abs) = some true
def SeenEq (r : OpenRow) (q : Program) (M : Nat) (loose : List PySem.Str) (w : World) : Prop :=
  ∀ os : OsState, (endF (stepQ (denQ tabQ) r.prog w) M r.prog w os).map (fun s => seenQ q loose (importedModules r.prog.main.body) (fun s => xlAt q [] s && recOk r.toRowW.records s) s.abs) = some (openGood q loose)
def ObEq (r : OpenRow) (H : Hook) (ob : SharedT → H.α) (M : Nat) (w : World) : Prop :=
  ∀ os : OsState, (endF (stepQ (denQ tabQ) r.prog w) M r.prog w os).map (fun s => ob s) = some (H.val w)
theorem runEq_of {r : OpenRow} {q : Program} {H : Hook} {ob : SharedT → H.α} {M : Nat} {loose : List PySem.Str} {w : World} (a : LooksEq r M w) (b : SeenEq r q M loose w) (c : ObEq r H ob M w) : RunEq r q H ob M loose w := by
  intro os
  have a := a os
  have b := b os
  have c := c os
  cases e : endF (stepQ (denQ tabQ) r.prog w) M r.prog w os with
  | none => rw [e] at a; cases a
  | some s =>
    rw [e] at a b c
    simp only [Option.map_some, Option.some.injEq] at a b c ⊢
    rw [a, b, c]
/-- a part of what is looked at -/
def PartEq {β : Type} (r : OpenRow) (p : Plan) (n M : Nat) (w : World) (f : (Addr → Option Obj) → PySem.W.Frag → β) (v : β) : Prop :=
  ∀ os : OsState, (endF (stepQ (denQ tabQ) r.prog w) M r.prog w os).map (fun s => frcK (He.frT (getT s) (p.as (getT s) n)) (f (getT s))) = some v
def Plan.rowsB (p : Plan) (l : List (String × Row)) (K : PySem.W.Frag) : Bool := l.all fun q => chkRow p.tx K q.2 && (!p.plains.contains q.1 || chkPlain K q.2) && (!q.2.names.contains "<lambda>" || p.lams.contains q.1)
def Plan.restB (p : Plan) (K : PySem.W.Frag) : Bool :=
  (p.globs.all fun q => match PySem.W.nsIn K mainGlobals (lit q.1) with
    | some (some u) => chkV K q.2 u
    | _ => false)
  && (p.bis.all fun x => He.eqO (PySem.W.nsIn K mainGlobals (lit x)) (some none))
  && (p.flds.all fun q => (He.Fa.cls (lit q.1)).ok K && (He.Fa.noat (lit q.1) (lit q.2)).ok K)
  && (p.meths.all fun q => (He.Fa.cls (lit q.1.1)).ok K && (He.Fa.meth (lit q.1.1) (lit q.1.2)).ok K && p.plains.contains q.2 && (match p.row q.2 with
    | some r => decide (He.fAd K r.at_ = He.ma K (He.ga K (lit q.1.1)) (lit q.1.2))
    | none => false))
  && (p.tops.all fun f => p.plains.contains f && (match p.row f with
    | some r => decide (He.fAd K r.at_ = He.ga K (lit f)) && He.eqO (PySem.W.nsIn K mainGlobals (lit f)) (some (some (.ref (He.ga K (lit f)))))
    | none => false))
  && (p.plains.all fun f => (p.row f).isSome)
  && decide (p.lams.length ≤ 1)
  && (p.inits.all fun q => (He.Fa.mkr (lit q.1)).ok K && He.eqO (PySem.W.nsIn K mainGlobals (lit q.1)) (some (some (.ref (He.ga K (lit q.1))))) && (p.plains.contains q.2 || (p.kwo q.2).isSome) && (match p.row q.2 with
    | some r => decide (He.fAd K r.at_ = He.ma K (He.ga K (lit q.1)) "__init__")
    | none => false))
  && (p.kwos.all fun q => match p.row q.1 with
    | some r => chkKw K r q.2.1 (lit q.2.2)
    | none => false)
theorem chk_parts (p : Plan) (K : PySem.W.Frag) : p.chk K = (p.rowsB p.rows K && p.restB K) := by
  unfold Plan.chk Plan.rowsB Plan.restB
  simp only [Bool.and_assoc] <;> rfl
/-- rows of a part -/
def Plan.cutR (p : Plan) (a b : Nat) : List (String × Row) := (p.rows.drop a).take b
theorem rows_cut (p : Plan) (K : PySem.W.Frag) : ∀ (bs : List Nat) (a : Nat), p.rows.length ≤ a + bs.sum → (∀ i (hi : i < bs.length), p.rowsB (p.cutR (a + (bs.take i).sum) bs[i]) K = true) → p.rowsB (p.rows.drop a) K = true
  | [], a, hl, _ => by
    simp only [List.sum_nil, Nat.add_zero] at hl
    rw [List.drop_of_length_le hl]; rfl
  | b :: bs, a, hl, h => by
    have h0 := h 0 (by simp)
    have ih := rows_cut p K bs (a + b) (by simp only [List.sum_cons] at hl; omega) (fun i hi => by
      have := h (i+1) (by simpa using hi)
      simpa [Nat.add_assoc] using this)
    simp only [List.take_zero, List.sum_nil, Nat.add_zero, List.getElem_cons_zero] at h0
    have e : p.rows.drop a = p.cutR a b ++ p.rows.drop (a + b) := by
      unfold Plan.cutR
      rw [← List.drop_drop]
      exact (List.take_append_drop b _).symm
    rw [e]
    unfold Plan.rowsB at h0 ih ⊢
    rw [List.all_append, h0, ih]; rfl
/-- the first of the parts: what the top leaves, its tables -/
def FirstEq (r : OpenRow) (q : Program) (p : Plan) (n M : Nat) (loose : List PySem.Str) (w : World) : Prop :=
  ∀ os : OsState, (endF (stepQ (denQ tabQ) r.prog w) M r.prog w os).map (fun s => (looksF r.prog (boot_heap w.params) s.abs, seenQ q loose (importedModules r.prog.main.body) (fun s => xlAt q [] s && recOk r.toRowW.records s) s.abs,
    frcK (He.frT (getT s) (p.as (getT s) n)) fun K => (He.obsT [] [] p.tsH K, He.tabsB (getT s) (p.lams.map p.lamAt) K, p.chkT K))) = some (true, openGood q loose, He.valT [] p.tsH w, true, true)
/-- all parts together -/
theorem runEq_parts {r : OpenRow} {q : Program} {p : Plan} {n M : Nat} {loose : List PySem.Str} {w : World} (b0 : Nat) (bs : List Nat) (hb : p.rows.length ≤ b0 + bs.sum)
    (h1 : FirstEq r q p n M loose w) (h2 : PartEq r p n M w (fun _ K => p.restB K && p.rowsB (p.cutR 0 b0) K) true)
    (h4 : ∀ i (hi : i < bs.length), PartEq r p n M w (fun _ K => p.rowsB (p.cutR (b0 + (bs.take i).sum) bs[i]) K) true) : RunEq r q (p.hook n) (p.ob n) M loose w := by
  intro os
  have h1 := h1 os
  have h2 := h2 os
  have h4 := fun i hi => h4 i hi os
  cases e : endF (stepQ (denQ tabQ) r.prog w) M r.prog w os with
  | none => rw [e] at h1; cases h1
  | some s =>
    rw [e] at h1 h2
    simp only [e] at h4
    simp only [Option.map_some, Option.some.injEq, frcK_eq, Prod.mk.injEq, Bool.and_eq_true] at h1 h2 h4
    obtain ⟨e1, e2, e3, e4, e5⟩ := h1
    have hr := rows_cut p (He.frT (getT s) (p.as (getT s) n)) bs b0 hb h4
    have hall : p.rowsB p.rows (He.frT (getT s) (p.as (getT s) n)) = true := by
      have e : p.rows = p.cutR 0 b0 ++ p.rows.drop b0 := by
        unfold Plan.cutR
        rw [List.drop_zero]
        exact (List.take_append_drop b0 _).symm
      have h0 := h2.2
      unfold Plan.rowsB at h0 hr ⊢
      rw [e, List.all_append, h0, hr]; rfl
    have eo : p.obF n (getT s) = (He.valT [] p.tsH w, true) := by
      rw [obF_eq]
      unfold Plan.ex
      rw [chk_parts, hall, h2.1, e3, e4, e5]; rfl
    show some (looksF r.prog (boot_heap w.params) s.abs, seenQ q loose (importedModules r.prog.main.body) (fun s => xlAt q [] s && recOk r.toRowW.records s) s.abs, p.obF n (getT s)) = some (true, openGood q loose, (He.valT [] p.tsH w, true))
    rw [e1, e2, eo]
end Sim

end
section
set_option linter.all false
set_option Elab.async false
namespace P15
open Ev Sim
/- is_between: 0 value 1 least 2 most -/
def d_is_between : Sx := (.ret (.and_ (.isi (.var 0) ["int"]) (.and_ (.not_ (.isi (.var 0) ["bool"])) (.chain .le .le (.var 1) (.var 0) (.var 2)))))
/- is_word: 0 value 1 sign -/
def d_is_word : Sx := (.seq (.ite (.or_ (.not_ (.isi (.var 0) ["str"])) (.not_ (.chain .le .le (.cst (.int 1)) (.prim .len (.cons (.var 0) .nil)) (.glob "MOST_LETTERS")))) (.ret (.cst (.bl false))) .skip)
  (.seq (.for_ (.nm 1) (.itV (.var 0)) (.ite (.cmp .notin (.var 1) (.glob "LETTERS")) (.ret (.cst (.bl false))) .skip))
  (.ret (.cst (.bl true)))))
/- is_id: 0 value -/
def d_is_id : Sx := (.ret (.and_ (.isi (.var 0) ["tuple"]) (.call "fit" (.cons (.var 0) (.cons (.tup (.cons (.cst (.str (lit "customer"))) (.cons (.cst (.str (lit "number"))) .nil))) .nil)))))
/- fits: 0 value 1 kind 2 least 3 most -/
def d_fits : Sx := (.seq (.ite (.cmp .isin (.var 1) (.glob "RANGES")) (.seq (.asg (.cons (.nm 2) (.cons (.nm 3) .nil)) (.idx (.glob "RANGES") (.var 1)))
  (.ret (.call "is_between" (.cons (.var 0) (.cons (.var 2) (.cons (.var 3) .nil)))))) .skip)
  (.seq (.ite (.cmp .eq (.var 1) (.cst (.str (lit "word")))) (.ret (.call "is_word" (.cons (.var 0) .nil))) .skip)
  (.seq (.ite (.cmp .eq (.var 1) (.cst (.str (lit "id")))) (.ret (.call "is_id" (.cons (.var 0) .nil))) .skip)
  (.seq (.ite (.cmp .eq (.var 1) (.cst (.str (lit "lines")))) (.ret .dead) .skip)
  (.seq (.ite (.cmp .eq (.var 1) (.cst (.str (lit "flag")))) (.ret (.isi (.var 0) ["bool"])) .skip)
  (.ret (.or_ (.isN false (.var 0)) (.call "is_word" (.cons (.var 0) .nil)))))))))
/- fit: 0 values 1 kinds 2 value 3 kind -/
def d_fit : Sx := (.seq (.ite (.cmp .ne (.prim .len (.cons (.var 0) .nil)) (.prim .len (.cons (.var 1) .nil))) (.ret (.cst (.bl false))) .skip)
  (.seq (.for_ (.cons (.nm 2) (.cons (.nm 3) .nil)) (.itZip (.var 0) (.var 1)) (.ite (.not_ (.call "fits" (.cons (.var 2) (.cons (.var 3) .nil)))) (.ret (.cst (.bl false))) .skip))
  (.ret (.cst (.bl true)))))
/- has_name: 0 house 1 name -/
def d_has_name : Sx := (.seq (.ite (.cmp .isin (.var 1) (.glob "OFFICE_NAMES")) (.ret (.cmp .eq (.var 0) (.glob "OFFICE"))) .skip)
  (.seq (.ite (.cmp .isin (.var 1) (.glob "STORE_NAMES")) (.ret (.cmp .isin (.var 0) (.glob "STORES"))) .skip)
  (.ret (.cmp .eq (.var 0) (.glob "BANK")))))
/- is_key: 0 value -/
def d_is_key : Sx := (.seq (.ite (.or_ (.not_ (.isi (.var 0) ["tuple"])) (.or_ (.cmp .lt (.prim .len (.cons (.var 0) .nil)) (.cst (.int 2))) (.not_ (.isi (.idx (.var 0) (.cst (.int 1))) ["str"])))) (.ret (.cst (.bl false))) .skip)
  (.seq (.ite (.or_ (.cmp .notin (.idx (.var 0) (.cst (.int 1))) (.glob "KEY_PARTS")) (.not_ (.call "fit" (.cons (.slc (.var 0) (.cst (.int 2)) .nop) (.cons (.idx (.glob "KEY_PARTS") (.idx (.var 0) (.cst (.int 1)))) .nil))))) (.ret (.cst (.bl false))) .skip)
  (.ret (.and_ (.call "is_between" (.cons (.idx (.var 0) (.cst (.int 0))) (.cons (.glob "OFFICE") (.cons (.glob "BANK") .nil)))) (.call "has_name" (.cons (.idx (.var 0) (.cst (.int 0))) (.cons (.idx (.var 0) (.cst (.int 1))) .nil)))))))
/- is_amount: 0 key -/
def d_is_amount : Sx := (.seq (.ite (.not_ (.call "is_key" (.cons (.var 0) .nil))) .dead .skip)
  (.ret (.cmp .notin (.idx (.var 0) (.cst (.int 1))) (.glob "RECORD_NAMES"))))
/- ask_of: 0 house 1 requests -/
def d_ask_of : Sx := (.ret (.tup (.cons (.cst (.str (lit "ask"))) (.cons (.var 0) (.cons (.prim .tuple1 (.cons (.fz (.fprim .sorted (.cons (.var 1) .nil))) .nil)) .nil)))))
/- refusal: 0 word -/
def d_refusal : Sx := (.ret (.tup (.cons (.cst (.str (lit "done"))) (.cons (.tup .nil) (.cons (.tup (.cons (.cst (.str (lit "refused"))) (.cons (.var 0) .nil))) .nil)))))
/- end_of: 0 changes 1 answer 2 writes 3 key 4 what 5 <lambda> -/
def d_end_of : Sx := (.seq (.asg (.nm 2) (.fz (.fcomp (.tup (.cons (.var 3) (.cons (.var 4) .nil))) (.cons (.nm 3) (.cons (.nm 4) .nil)) (.itV (.var 0)) (.or_ (.cmp .ne (.var 4) (.cst (.int 0))) (.not_ (.call "is_amount" (.cons (.var 3) .nil)))) [3, 4])))
  (.ret (.tup (.cons (.cst (.str (lit "done"))) (.cons (.prim .tuple1 (.cons (.fz (.fprim .sortedK0 (.cons (.var 2) .nil))) .nil)) (.cons (.var 1) .nil))))))
/- next_of: 0 asks 1 told 2 end -/
def d_next_of : Sx := (.seq (.ite (.cmp .lt (.prim .len (.cons (.var 1) .nil)) (.prim .len (.cons (.var 0) .nil))) (.ret (.idx (.var 0) (.prim .len (.cons (.var 1) .nil)))) .skip)
  (.ret (.var 2)))
/- order_key: 0 order_id -/
def d_order_key : Sx := (.ret (.tup (.cons (.glob "OFFICE") (.cons (.cst (.str (lit "order"))) (.cons (.idx (.var 0) (.cst (.int 0))) (.cons (.idx (.var 0) (.cst (.int 1))) .nil))))))
/- order_ask: 0 order_id -/
def d_order_ask : Sx := (.ret (.call "ask_of" (.cons (.glob "OFFICE") (.cons (.fz (.fdisp (.cons (.tup (.cons (.call "order_key" (.cons (.var 0) .nil)) (.cons (.cst (.str (lit "own"))) (.cons (.cst (.int 0)) .nil)))) .nil))) .nil))))
/- add: 0 key -/
def d_add : Sx := (.ret (.tup (.cons (.var 0) (.cons (.cst (.str (lit "add"))) (.cons (.cst (.int 0)) .nil)))))
/- purse_of: 0 deed_id -/
def d_purse_of : Sx := (.ret (.tup (.cons (.glob "BANK") (.cons (.cst (.str (lit "purse"))) (.cons (.idx (.var 0) (.cst (.int 0))) .nil)))))
/- price_step: 0 deed_id 1 deed 2 told 3 key -/
def d_price_step : Sx := (.seq (.asg (.nm 3) (.tup (.cons (.glob "OFFICE") (.cons (.cst (.str (lit "price"))) (.cons (.idx (.var 1) (.cst (.int 1))) .nil)))))
  (.ret (.call "next_of" (.cons (.fz (.fdisp (.cons (.call "ask_of" (.cons (.glob "OFFICE") (.cons (.fz (.fdisp (.cons (.tup (.cons (.var 3) (.cons (.cst (.str (lit "own"))) (.cons (.cst (.int 0)) .nil)))) .nil))) .nil))) .nil))) (.cons (.var 2) (.cons (.call "end_of" (.cons (.fz (.fdisp (.cons (.tup (.cons (.var 3) (.cons (.idx (.var 1) (.cst (.int 2))) .nil))) .nil))) (.cons (.tup (.cons (.cst (.str (lit "done"))) .nil)) .nil))) .nil))))))
/- rate_step: 0 deed_id 1 deed 2 told 3 key -/
def d_rate_step : Sx := (.seq (.asg (.nm 3) (.tup (.cons (.glob "OFFICE") (.cons (.cst (.str (lit "rate"))) .nil))))
  (.ret (.call "next_of" (.cons (.fz (.fdisp (.cons (.call "ask_of" (.cons (.glob "OFFICE") (.cons (.fz (.fdisp (.cons (.tup (.cons (.var 3) (.cons (.cst (.str (lit "own"))) (.cons (.cst (.int 0)) .nil)))) .nil))) .nil))) .nil))) (.cons (.var 2) (.cons (.call "end_of" (.cons (.fz (.fdisp (.cons (.tup (.cons (.var 3) (.cons (.idx (.var 1) (.cst (.int 1))) .nil))) .nil))) (.cons (.tup (.cons (.cst (.str (lit "done"))) .nil)) .nil))) .nil))))))
/- coupon_step: 0 deed_id 1 deed 2 told 3 key -/
def d_coupon_step : Sx := (.seq (.asg (.nm 3) (.tup (.cons (.glob "OFFICE") (.cons (.cst (.str (lit "coupon"))) (.cons (.idx (.var 1) (.cst (.int 1))) .nil)))))
  (.seq (.ite (.and_ (.cmp .gt (.prim .len (.cons (.var 2) .nil)) (.cst (.int 0))) (.isN true (.idx (.idx (.var 2) (.cst (.int 0))) (.cst (.int 0))))) (.ret (.call "refusal" (.cons (.cst (.str (lit "coupon"))) .nil))) .skip)
  (.ret (.call "next_of" (.cons (.fz (.fdisp (.cons (.call "ask_of" (.cons (.glob "OFFICE") (.cons (.fz (.fdisp (.cons (.tup (.cons (.var 3) (.cons (.cst (.str (lit "own"))) (.cons (.cst (.int 0)) .nil)))) .nil))) .nil))) .nil))) (.cons (.var 2) (.cons (.call "end_of" (.cons (.fz (.fdisp (.cons (.tup (.cons (.var 3) (.cons (.tup (.cons (.cst (.str (lit "unused"))) (.cons (.idx (.var 1) (.cst (.int 2))) .nil))) .nil))) .nil))) (.cons (.tup (.cons (.cst (.str (lit "done"))) .nil)) .nil))) .nil)))))))
/- stock_step: 0 deed_id 1 deed 2 told 3 store 4 item 5 count 6 came 7 free -/
def d_stock_step : Sx := (.seq (.par [3, 4, 5] (.cons (.idx (.var 1) (.cst (.int 1))) (.cons (.idx (.var 1) (.cst (.int 2))) (.cons (.idx (.var 1) (.cst (.int 3))) .nil))))
  (.seq (.par [6, 7] (.cons (.tup (.cons (.var 3) (.cons (.cst (.str (lit "came"))) (.cons (.var 4) .nil)))) (.cons (.tup (.cons (.var 3) (.cons (.cst (.str (lit "free"))) (.cons (.var 4) .nil)))) .nil)))
  (.ret (.call "next_of" (.cons (.fz (.fdisp (.cons (.call "ask_of" (.cons (.var 3) (.cons (.fz (.fdisp (.cons (.call "add" (.cons (.var 6) .nil)) (.cons (.call "add" (.cons (.var 7) .nil)) .nil)))) .nil))) .nil))) (.cons (.var 2) (.cons (.call "end_of" (.cons (.fz (.fdisp (.cons (.tup (.cons (.var 6) (.cons (.var 5) .nil))) (.cons (.tup (.cons (.var 7) (.cons (.var 5) .nil))) .nil)))) (.cons (.tup (.cons (.cst (.str (lit "done"))) .nil)) .nil))) .nil)))))))
/- move_step: 0 deed_id 1 deed 2 told 3 store 4 item 5 count 6 road 7 away 8 free 9 asks -/
def d_move_step : Sx := (.seq (.par [3, 4, 5] (.cons (.idx (.var 1) (.cst (.int 1))) (.cons (.idx (.var 1) (.cst (.int 2))) (.cons (.idx (.var 1) (.cst (.int 3))) .nil))))
  (.seq (.asg (.nm 6) (.tup (.cons (.glob "OFFICE") (.cons (.cst (.str (lit "road"))) (.cons (.idx (.var 0) (.cst (.int 0))) (.cons (.idx (.var 0) (.cst (.int 1))) .nil))))))
  (.seq (.par [7, 8] (.cons (.tup (.cons (.glob "OFFICE") (.cons (.cst (.str (lit "away"))) (.cons (.var 4) .nil)))) (.cons (.tup (.cons (.var 3) (.cons (.cst (.str (lit "free"))) (.cons (.var 4) .nil)))) .nil)))
  (.seq (.ite (.and_ (.cmp .eq (.prim .len (.cons (.var 2) .nil)) (.cst (.int 2))) (.cmp .lt (.idx (.idx (.var 2) (.cst (.int 1))) (.cst (.int 0))) (.var 5))) (.ret (.call "refusal" (.cons (.cst (.str (lit "stock"))) .nil))) .skip)
  (.seq (.asg (.nm 9) (.fz (.fdisp (.cons (.call "ask_of" (.cons (.glob "OFFICE") (.cons (.fz (.fdisp (.cons (.tup (.cons (.var 6) (.cons (.cst (.str (lit "own"))) (.cons (.cst (.int 0)) .nil)))) (.cons (.call "add" (.cons (.var 7) .nil)) .nil)))) .nil))) (.cons (.call "ask_of" (.cons (.var 3) (.cons (.fz (.fdisp (.cons (.tup (.cons (.var 8) (.cons (.cst (.str (lit "take"))) (.cons (.var 5) .nil)))) .nil))) .nil))) .nil)))))
  (.ret (.call "next_of" (.cons (.var 9) (.cons (.var 2) (.cons (.call "end_of" (.cons (.fz (.fdisp (.cons (.tup (.cons (.var 6) (.cons (.tup (.cons (.var 4) (.cons (.var 5) .nil))) .nil))) (.cons (.tup (.cons (.var 7) (.cons (.var 5) .nil))) (.cons (.tup (.cons (.var 8) (.cons (.neg (.var 5)) .nil))) .nil))))) (.cons (.tup (.cons (.cst (.str (lit "done"))) .nil)) .nil))) .nil))))))))))
/- arrive_step: 0 deed_id 1 deed 2 told 3 move_id 4 store 5 item 6 road 7 away 8 free 9 asks 10 record -/
def d_arrive_step : Sx := (.seq (.par [3, 4, 5] (.cons (.idx (.var 1) (.cst (.int 1))) (.cons (.idx (.var 1) (.cst (.int 2))) (.cons (.idx (.var 1) (.cst (.int 3))) .nil))))
  (.seq (.asg (.nm 6) (.tup (.cons (.glob "OFFICE") (.cons (.cst (.str (lit "road"))) (.cons (.idx (.var 3) (.cst (.int 0))) (.cons (.idx (.var 3) (.cst (.int 1))) .nil))))))
  (.seq (.par [7, 8] (.cons (.tup (.cons (.glob "OFFICE") (.cons (.cst (.str (lit "away"))) (.cons (.var 5) .nil)))) (.cons (.tup (.cons (.var 4) (.cons (.cst (.str (lit "free"))) (.cons (.var 5) .nil)))) .nil)))
  (.seq (.asg (.nm 9) (.fz (.fdisp (.cons (.call "ask_of" (.cons (.glob "OFFICE") (.cons (.fz (.fdisp (.cons (.call "add" (.cons (.var 7) .nil)) (.cons (.tup (.cons (.var 6) (.cons (.cst (.str (lit "own"))) (.cons (.cst (.int 0)) .nil)))) .nil)))) .nil))) (.cons (.call "ask_of" (.cons (.var 4) (.cons (.fz (.fdisp (.cons (.call "add" (.cons (.var 8) .nil)) .nil))) .nil))) .nil)))))
  (.seq (.ite (.cmp .eq (.prim .len (.cons (.var 2) .nil)) (.cst (.int 0))) (.ret (.idx (.var 9) (.cst (.int 0)))) .skip)
  (.seq (.asg (.nm 10) (.idx (.idx (.var 2) (.cst (.int 0))) (.cst (.int 1))))
  (.seq (.ite (.or_ (.isN false (.var 10)) (.cmp .ne (.idx (.var 10) (.cst (.int 0))) (.var 5))) (.ret (.call "refusal" (.cons (.cst (.str (lit "road"))) .nil))) .skip)
  (.ret (.call "next_of" (.cons (.var 9) (.cons (.var 2) (.cons (.call "end_of" (.cons (.fz (.fdisp (.cons (.tup (.cons (.var 7) (.cons (.neg (.idx (.var 10) (.cst (.int 1)))) .nil))) (.cons (.tup (.cons (.var 6) (.cons (.cst .non) .nil))) (.cons (.tup (.cons (.var 8) (.cons (.idx (.var 10) (.cst (.int 1))) .nil))) .nil))))) (.cons (.tup (.cons (.cst (.str (lit "done"))) .nil)) .nil))) .nil))))))))))))
/- count_step: 0 deed_id 1 deed 2 told 3 item 4 asks 5 store 6 answers -/
def d_count_step : Sx := (.seq (.asg (.nm 3) (.idx (.var 1) (.cst (.int 1))))
  (.seq (.asg (.nm 4) (.bx (.fdisp (.cons (.call "ask_of" (.cons (.glob "OFFICE") (.cons (.fz (.fdisp (.cons (.tup (.cons (.tup (.cons (.glob "OFFICE") (.cons (.cst (.str (lit "away"))) (.cons (.var 3) .nil)))) (.cons (.cst (.str (lit "see"))) (.cons (.cst (.int 0)) .nil)))) .nil))) .nil))) .nil))))
  (.seq (.for_ (.nm 5) (.itV (.glob "STORES")) (.ex (.pm .append (.var 4) (.cons (.call "ask_of" (.cons (.var 5) (.cons (.fz (.fdisp (.cons (.tup (.cons (.tup (.cons (.var 5) (.cons (.cst (.str (lit "free"))) (.cons (.var 3) .nil)))) (.cons (.cst (.str (lit "see"))) (.cons (.cst (.int 0)) .nil)))) (.cons (.tup (.cons (.tup (.cons (.var 5) (.cons (.cst (.str (lit "held"))) (.cons (.var 3) .nil)))) (.cons (.cst (.str (lit "see"))) (.cons (.cst (.int 0)) .nil)))) .nil)))) .nil))) .nil))))
  (.seq (.ite (.cmp .lt (.prim .len (.cons (.var 2) .nil)) (.prim .len (.cons (.var 4) .nil))) (.ret (.idx (.var 4) (.prim .len (.cons (.var 2) .nil)))) .skip)
  (.ret (.call "end_of" (.cons (.fz (.fdisp .nil)) (.cons (.tup (.cons (.cst (.str (lit "counts"))) (.cons (.idx (.idx (.var 2) (.cst (.int 0))) (.cst (.int 0))) (.cons (.prim .tuple1 (.cons (.fz (.fcomp (.prim .tuple1 (.cons (.var 6) .nil)) (.nm 6) (.itV (.slc (.var 2) (.cst (.int 1)) .nop)) .nop [6])) .nil)) .nil)))) .nil))))))))
/- pay_step: 0 deed_id 1 deed 2 told 3 coins 4 paid 5 purse -/
def d_pay_step : Sx := (.seq (.par [3, 4, 5] (.cons (.idx (.var 1) (.cst (.int 1))) (.cons (.tup (.cons (.glob "BANK") (.cons (.cst (.str (lit "paid"))) .nil))) (.cons (.call "purse_of" (.cons (.var 0) .nil)) .nil))))
  (.ret (.call "next_of" (.cons (.fz (.fdisp (.cons (.call "ask_of" (.cons (.glob "BANK") (.cons (.fz (.fdisp (.cons (.call "add" (.cons (.var 4) .nil)) (.cons (.call "add" (.cons (.var 5) .nil)) .nil)))) .nil))) .nil))) (.cons (.var 2) (.cons (.call "end_of" (.cons (.fz (.fdisp (.cons (.tup (.cons (.var 4) (.cons (.var 3) .nil))) (.cons (.tup (.cons (.var 5) (.cons (.var 3) .nil))) .nil)))) (.cons (.tup (.cons (.cst (.str (lit "done"))) .nil)) .nil))) .nil))))))
/- draw_step: 0 deed_id 1 deed 2 told 3 coins 4 paid 5 purse 6 asks -/
def d_draw_step : Sx := (.seq (.par [3, 4, 5] (.cons (.idx (.var 1) (.cst (.int 1))) (.cons (.tup (.cons (.glob "BANK") (.cons (.cst (.str (lit "paid"))) .nil))) (.cons (.call "purse_of" (.cons (.var 0) .nil)) .nil))))
  (.seq (.ite (.and_ (.cmp .gt (.prim .len (.cons (.var 2) .nil)) (.cst (.int 0))) (.cmp .lt (.idx (.idx (.var 2) (.cst (.int 0))) (.cst (.int 1))) (.var 3))) (.ret (.call "refusal" (.cons (.cst (.str (lit "coins"))) .nil))) .skip)
  (.seq (.asg (.nm 6) (.fz (.fdisp (.cons (.call "ask_of" (.cons (.glob "BANK") (.cons (.fz (.fdisp (.cons (.call "add" (.cons (.var 4) .nil)) (.cons (.tup (.cons (.var 5) (.cons (.cst (.str (lit "take"))) (.cons (.var 3) .nil)))) .nil)))) .nil))) .nil))))
  (.ret (.call "next_of" (.cons (.var 6) (.cons (.var 2) (.cons (.call "end_of" (.cons (.fz (.fdisp (.cons (.tup (.cons (.var 4) (.cons (.neg (.var 3)) .nil))) (.cons (.tup (.cons (.var 5) (.cons (.neg (.var 3)) .nil))) .nil)))) (.cons (.tup (.cons (.cst (.str (lit "done"))) .nil)) .nil))) .nil))))))))
/- purse_step: 0 deed_id 1 deed 2 told -/
def d_purse_step : Sx := (.seq (.ite (.cmp .eq (.prim .len (.cons (.var 2) .nil)) (.cst (.int 0))) (.ret (.call "ask_of" (.cons (.glob "BANK") (.cons (.fz (.fdisp (.cons (.tup (.cons (.call "purse_of" (.cons (.var 0) .nil)) (.cons (.cst (.str (lit "see"))) (.cons (.cst (.int 0)) .nil)))) .nil))) .nil)))) .skip)
  (.ret (.call "end_of" (.cons (.fz (.fdisp .nil)) (.cons (.tup (.cons (.cst (.str (lit "coins"))) (.cons (.idx (.idx (.var 2) (.cst (.int 0))) (.cst (.int 0))) .nil))) .nil)))))
/- look_step: 0 deed_id 1 deed 2 told -/
def d_look_step : Sx := (.seq (.ite (.cmp .eq (.prim .len (.cons (.var 2) .nil)) (.cst (.int 0))) (.ret (.call "ask_of" (.cons (.glob "OFFICE") (.cons (.fz (.fdisp (.cons (.tup (.cons (.call "order_key" (.cons (.idx (.var 1) (.cst (.int 1))) .nil)) (.cons (.cst (.str (lit "see"))) (.cons (.cst (.int 0)) .nil)))) .nil))) .nil)))) .skip)
  (.seq (.ite (.isN false (.idx (.idx (.var 2) (.cst (.int 0))) (.cst (.int 0)))) (.ret (.call "refusal" (.cons (.cst (.str (lit "order"))) .nil))) .skip)
  (.ret (.call "end_of" (.cons (.fz (.fdisp .nil)) (.cons (.tup (.cons (.cst (.str (lit "shows"))) (.cons (.idx (.idx (.var 2) (.cst (.int 0))) (.cst (.int 0))) .nil))) .nil))))))
/- may_do: 0 customer 1 deed -/
def d_may_do : Sx := (.seq (.ite (.and_ (.cmp .isin (.idx (.var 1) (.cst (.int 0))) (.glob "OWN_ORDERS")) (.cmp .ne (.idx (.idx (.var 1) (.cst (.int 1))) (.cst (.int 0))) (.var 0))) (.ret (.and_ (.cmp .eq (.idx (.var 1) (.cst (.int 0))) (.cst (.str (lit "look")))) (.cmp .eq (.var 0) (.glob "CLERK")))) .skip)
  (.seq (.ite (.cmp .eq (.idx (.var 1) (.cst (.int 0))) (.cst (.str (lit "look")))) (.ret (.cst (.bl true))) .skip)
  (.ret (.cmp .eq (.cmp .isin (.idx (.var 1) (.cst (.int 0))) (.glob "CLERKS_DEEDS")) (.cmp .eq (.var 0) (.glob "CLERK"))))))
/- next_step: 0 deed_id 1 deed 2 told 3 step -/
def d_next_step : Sx := (.seq (.ite (.not_ (.call "may_do" (.cons (.idx (.var 0) (.cst (.int 0))) (.cons (.var 1) .nil)))) (.ret (.call "refusal" (.cons (.cst (.str (lit "right"))) .nil))) .skip)
  (.seq (.asg (.nm 3) (.idx (.glob "STEPS") (.idx (.var 1) (.cst (.int 0)))))
  (.ret (.callV 3 (.cons (.var 0) (.cons (.var 1) (.cons (.var 2) .nil)))))))
/- _law_numbers: 0 _law_cell 1 _law_at 2 _law_many 3 _law_great 4 _law_rest 5 _law_numbers_here 6 _law_k 7 _law_mixed -/
def d__law_numbers : Sx := (.seq (.asg (.nm 3) (.cmp .ge (.prim .abs (.cons (.prim .int1 (.cons (.var 0) .nil)) .nil)) (.bin .pow (.cst (.int 10)) (.cst (.int 18)))))
  (.seq (.asg (.nm 4) (.bin .add (.bin .mul (.cst (.int 2)) (.prim .abs (.cons (.prim .int1 (.cons (.var 0) .nil)) .nil))) (.prim .int1 (.cons (.cmp .lt (.var 0) (.cst (.int 0))) .nil))))
  (.seq (.asg (.nm 5) (.bx (.fdisp .nil)))
  (.seq (.for_ (.nm 6) (.itRange (.cons (.var 2) .nil)) (.ite (.var 3) (.seq (.ex (.pm .append (.var 5) (.cons (.bin .mod (.prim .int1 (.cons (.var 4) .nil)) (.cst (.int 1000))) .nil)))
  (.asg (.nm 4) (.bin .fdiv (.var 4) (.cst (.int 1000))))) (.seq (.asg (.nm 7) (.bin .mod (.prim .int1 (.cons (.bin .add (.bin .add (.bin .add (.bin .mul (.var 4) (.cst (.int 48271))) (.bin .mul (.var 1) (.cst (.int 69621)))) (.bin .mul (.var 6) (.cst (.int 16807)))) (.cst (.int 7))) .nil)) (.cst (.int 2147483647))))
  (.seq (.asg (.nm 7) (.bin .mod (.prim .int1 (.cons (.bin .add (.bin .add (.bin .mul (.var 7) (.var 7)) (.bin .mul (.var 6) (.cst (.int 40692)))) (.cst (.int 3))) .nil)) (.cst (.int 2147483629))))
  (.seq (.asg (.nm 7) (.bin .mod (.prim .int1 (.cons (.bin .add (.bin .add (.bin .mul (.var 7) (.var 7)) (.bin .mul (.var 1) (.cst (.int 30269)))) (.cst (.int 5))) .nil)) (.cst (.int 2147483587))))
  (.ex (.pm .append (.var 5) (.cons (.bin .mod (.prim .int1 (.cons (.bin .fdiv (.var 7) (.cst (.int 5))) .nil)) (.cst (.int 1000))) .nil))))))))
  (.ret (.var 5))))))
/- _law_same: 0 _law_actual 1 _law_expected 2 _law_k -/
def d__law_same : Sx := (.seq (.ite (.isN false (.var 1)) (.ret (.isN false (.var 0))) .skip)
  (.seq (.ite (.isi (.var 1) ["str"]) (.ret (.and_ (.isi (.var 0) ["str"]) (.cmp .eq (.var 0) (.var 1)))) .skip)
  (.seq (.ite (.isi (.var 1) ["bool"]) (.ret (.and_ (.isi (.var 0) ["bool"]) (.cmp .eq (.var 0) (.var 1)))) .skip)
  (.seq (.ite (.isi (.var 1) ["int"]) (.ret (.and_ (.isi (.var 0) ["int"]) (.and_ (.not_ (.isi (.var 0) ["bool"])) (.cmp .eq (.var 0) (.var 1))))) .skip)
  (.seq (.ite (.or_ (.not_ (.isi (.var 0) ["tuple"])) (.cmp .ne (.prim .len (.cons (.var 0) .nil)) (.prim .len (.cons (.var 1) .nil)))) (.ret (.cst (.bl false))) .skip)
  (.seq (.for_ (.nm 2) (.itRange (.cons (.prim .len (.cons (.var 1) .nil)) .nil)) (.ite (.not_ (.call "_law_same" (.cons (.idx (.var 0) (.var 2)) (.cons (.idx (.var 1) (.var 2)) .nil)))) (.ret (.cst (.bl false))) .skip))
  (.ret (.cst (.bl true)))))))))
/- _law_item: 0 _law_numbers_here 1 _law_k 2 _law_letters 3 _law_first 4 _law_word -/
def d__law_item : Sx := (.seq (.asg (.nm 2) (.cst (.str (lit "abcdefghijklmnopqrstuvwxyz"))))
  (.seq (.asg (.nm 3) (.bin .add (.idx (.var 2) (.bin .mod (.prim .int1 (.cons (.bin .fdiv (.idx (.var 0) (.var 1)) (.cst (.int 8))) .nil)) (.cst (.int 26)))) (.idx (.var 2) (.bin .mod (.prim .int1 (.cons (.idx (.var 0) (.bin .add (.var 1) (.cst (.int 1)))) .nil)) (.cst (.int 26))))))
  (.seq (.asg (.nm 4) (.bin .add (.bin .add (.var 3) (.idx (.var 2) (.bin .mod (.prim .int1 (.cons (.bin .fdiv (.idx (.var 0) (.bin .add (.var 1) (.cst (.int 1)))) (.cst (.int 26))) .nil)) (.cst (.int 26))))) (.idx (.var 2) (.bin .mod (.prim .int1 (.cons (.idx (.var 0) (.bin .add (.var 1) (.cst (.int 2)))) .nil)) (.cst (.int 26))))))
  (.seq (.asg (.nm 4) (.bin .add (.var 4) (.idx (.var 2) (.bin .mod (.prim .int1 (.cons (.bin .fdiv (.idx (.var 0) (.bin .add (.var 1) (.cst (.int 2)))) (.cst (.int 26))) .nil)) (.cst (.int 26))))))
  (.ret (.slc (.bin .add (.var 4) (.srev (.var 4))) .nop (.bin .add (.cst (.int 1)) (.bin .mod (.prim .int1 (.cons (.idx (.var 0) (.var 1)) .nil)) (.cst (.int 8))))))))))
/- _law_items: 0 _law_numbers_here 1 _law_k 2 _law_many 3 _law_items_here 4 _law_j 5 _law_item_here -/
def d__law_items : Sx := (.seq (.asg (.nm 3) (.bx (.fdisp .nil)))
  (.seq (.for_ (.nm 4) (.itRange (.cons (.var 2) .nil)) (.seq (.asg (.nm 5) (.call "_law_item" (.cons (.var 0) (.cons (.bin .add (.var 1) (.bin .mul (.cst (.int 3)) (.var 4))) .nil))))
  (.ite (.cmp .notin (.var 5) (.var 3)) (.ex (.pm .append (.var 3) (.cons (.var 5) .nil))) .skip)))
  (.ret (.fz (.fprim .sorted (.cons (.var 3) .nil))))))
/- _law_coins: 0 _law_numbers_here 1 _law_k -/
def d__law_coins : Sx := (.ret (.idx (.fz (.fdisp (.cons (.cst (.int 0)) (.cons (.cst (.int 1)) (.cons (.cst (.int 99999)) (.cons (.idx (.var 0) (.var 1)) (.cons (.bin .mod (.prim .int1 (.cons (.bin .add (.bin .mul (.idx (.var 0) (.var 1)) (.cst (.int 200))) (.bin .fdiv (.idx (.var 0) (.bin .add (.var 1) (.cst (.int 1)))) (.cst (.int 5)))) .nil)) (.cst (.int 100000))) .nil))))))) (.bin .mod (.prim .int1 (.cons (.idx (.var 0) (.bin .add (.var 1) (.cst (.int 1)))) .nil)) (.cst (.int 5)))))
/- _law_total: 0 _law_value 1 _law_discount 2 _law_rate 3 _law_net -/
def d__law_total : Sx := (.seq (.asg (.nm 3) (.prim .max2 (.cons (.cst (.int 0)) (.cons (.bin .sub (.var 0) (.var 1)) .nil))))
  (.ret (.bin .add (.var 3) (.bin .fdiv (.bin .mul (.var 3) (.var 2)) (.cst (.int 1000))))))
/- _law_share: 0 _law_total_here 1 _law_part 2 _law_whole -/
def d__law_share : Sx := (.seq (.ite (.cmp .eq (.var 2) (.cst (.int 0))) (.ret (.cst (.int 0))) .skip)
  (.ret (.bin .fdiv (.bin .mul (.var 0) (.var 1)) (.var 2))))
/- _law_part_value: 0 _law_parts_here 1 _law_state 2 _law_value 3 _law_part -/
def d__law_part_value : Sx := (.seq (.asg (.nm 2) (.cst (.int 0)))
  (.seq (.for_ (.nm 3) (.itV (.var 0)) (.ite (.or_ (.cmp .eq (.var 1) (.cst (.str (lit "all")))) (.cmp .eq (.idx (.var 3) (.cst (.int 4))) (.var 1))) (.asg (.nm 2) (.bin .add (.var 2) (.bin .mul (.idx (.var 3) (.cst (.int 2))) (.idx (.var 3) (.cst (.int 3)))))) .skip))
  (.ret (.var 2))))
/- _law_back_value: 0 _law_parts_here 1 _law_value 2 _law_part -/
def d__law_back_value : Sx := (.seq (.asg (.nm 1) (.cst (.int 0)))
  (.seq (.for_ (.nm 2) (.itV (.var 0)) (.asg (.nm 1) (.bin .add (.var 1) (.bin .mul (.idx (.var 2) (.cst (.int 5))) (.idx (.var 2) (.cst (.int 3)))))))
  (.ret (.var 1))))
/- _law_parts: 0 _law_numbers_here 1 _law_k 2 _law_items_here 3 _law_prices 4 _law_parts_here 5 _law_rest 6 _law_store 7 _law_state 8 _law_j 9 _law_at 10 _law_drawn 11 _law_count 12 _law_back -/
def d__law_parts : Sx := (.seq (.asg (.nm 4) (.bx (.fdisp .nil)))
  (.seq (.asg (.nm 5) (.cst (.str (lit "held"))))
  (.seq (.ite (.cmp .eq (.bin .mod (.prim .int1 (.cons (.idx (.var 0) (.var 1)) .nil)) (.cst (.int 3))) (.cst (.int 0))) (.asg (.nm 5) (.cst (.str (lit "freed")))) .skip)
  (.seq (.for_ (.nm 6) (.itV (.tup (.cons (.cst (.int 2)) (.cons (.cst (.int 3)) (.cons (.cst (.int 4)) .nil))))) (.seq (.asg (.nm 7) (.idx (.fz (.fdisp (.cons (.cst (.str (lit "sent"))) (.cons (.var 5) .nil)))) (.bin .mod (.prim .int1 (.cons (.idx (.var 0) (.bin .add (.var 1) (.var 6))) .nil)) (.cst (.int 2)))))
  (.for_ (.nm 8) (.itRange (.cons (.prim .len (.cons (.var 2) .nil)) .nil)) (.seq (.asg (.nm 9) (.bin .add (.bin .add (.bin .add (.var 1) (.cst (.int 5))) (.bin .mul (.cst (.int 8)) (.bin .sub (.var 6) (.cst (.int 2))))) (.bin .mul (.cst (.int 2)) (.var 8))))
  (.seq (.asg (.nm 10) (.bin .add (.cst (.int 1)) (.bin .mod (.prim .int1 (.cons (.bin .add (.bin .fdiv (.idx (.var 0) (.var 9)) (.cst (.int 4))) (.idx (.var 0) (.bin .add (.var 9) (.cst (.int 1))))) .nil)) (.cst (.int 333)))))
  (.seq (.asg (.nm 11) (.idx (.fz (.fdisp (.cons (.cst (.int 0)) (.cons (.cst (.int 1)) (.cons (.var 10) (.cons (.bin .add (.cst (.int 1)) (.bin .mod (.prim .int1 (.cons (.bin .fdiv (.idx (.var 0) (.var 9)) (.cst (.int 4))) .nil)) (.cst (.int 9)))) .nil)))))) (.bin .mod (.prim .int1 (.cons (.idx (.var 0) (.var 9)) .nil)) (.cst (.int 4)))))
  (.seq (.asg (.nm 12) (.cst (.int 0)))
  (.seq (.ite (.and_ (.cmp .eq (.var 7) (.cst (.str (lit "sent")))) (.cmp .eq (.bin .mod (.prim .int1 (.cons (.idx (.var 0) (.bin .add (.var 9) (.cst (.int 1)))) .nil)) (.cst (.int 2))) (.cst (.int 0)))) (.asg (.nm 12) (.bin .mod (.prim .int1 (.cons (.bin .fdiv (.idx (.var 0) (.bin .add (.var 9) (.cst (.int 1)))) (.cst (.int 2))) .nil)) (.bin .add (.var 11) (.cst (.int 1))))) .skip)
  (.ite (.cmp .gt (.var 11) (.cst (.int 0))) (.ex (.pm .append (.var 4) (.cons (.tup (.cons (.var 6) (.cons (.idx (.var 2) (.var 8)) (.cons (.var 11) (.cons (.idx (.var 3) (.var 8)) (.cons (.var 7) (.cons (.var 12) .nil))))))) .nil))) .skip)))))))))
  (.seq (.ite (.cmp .eq (.prim .len (.cons (.var 4) .nil)) (.cst (.int 0))) (.ex (.pm .append (.var 4) (.cons (.tup (.cons (.cst (.int 2)) (.cons (.idx (.var 2) (.cst (.int 0))) (.cons (.cst (.int 1)) (.cons (.idx (.var 3) (.cst (.int 0))) (.cons (.var 5) (.cons (.cst (.int 0)) .nil))))))) .nil))) .skip)
  (.ret (.prim .tuple1 (.cons (.var 4) .nil))))))))
/- _law_record: 0 _law_numbers_here 1 _law_k 2 _law_items_here 3 _law_prices 4 _law_parts_here 5 _law_value 6 _law_discount 7 _law_total_here 8 _law_charged 9 _law_j -/
def d__law_record : Sx := (.seq (.asg (.nm 2) (.call "_law_items" (.cons (.var 0) (.cons (.var 1) (.cons (.bin .add (.cst (.int 1)) (.bin .mod (.prim .int1 (.cons (.idx (.var 0) (.bin .add (.var 1) (.cst (.int 12)))) .nil)) (.cst (.int 4)))) .nil)))))
  (.seq (.asg (.nm 3) (.fz (.fcomp (.call "_law_coins" (.cons (.var 0) (.cons (.bin .add (.bin .add (.var 1) (.cst (.int 13))) (.bin .mul (.cst (.int 2)) (.var 9))) .nil))) (.nm 9) (.itRange (.cons (.cst (.int 4)) .nil)) .nop [9])))
  (.seq (.asg (.nm 4) (.call "_law_parts" (.cons (.var 0) (.cons (.bin .add (.var 1) (.cst (.int 21))) (.cons (.var 2) (.cons (.var 3) .nil))))))
  (.seq (.asg (.nm 5) (.call "_law_part_value" (.cons (.var 4) (.cons (.cst (.str (lit "all"))) .nil))))
  (.seq (.asg (.nm 6) (.idx (.fz (.fdisp (.cons (.cst (.int 0)) (.cons (.call "_law_coins" (.cons (.var 0) (.cons (.bin .add (.var 1) (.cst (.int 50))) .nil))) .nil)))) (.bin .mod (.prim .int1 (.cons (.idx (.var 0) (.bin .add (.var 1) (.cst (.int 52)))) .nil)) (.cst (.int 2)))))
  (.seq (.asg (.nm 7) (.call "_law_total" (.cons (.var 5) (.cons (.var 6) (.cons (.idx (.fz (.fdisp (.cons (.cst (.int 0)) (.cons (.cst (.int 999)) (.cons (.idx (.var 0) (.bin .add (.var 1) (.cst (.int 53)))) .nil))))) (.bin .mod (.prim .int1 (.cons (.bin .fdiv (.idx (.var 0) (.bin .add (.var 1) (.cst (.int 52)))) (.cst (.int 2))) .nil)) (.cst (.int 3)))) .nil)))))
  (.seq (.asg (.nm 8) (.call "_law_share" (.cons (.var 7) (.cons (.call "_law_part_value" (.cons (.var 4) (.cons (.cst (.str (lit "sent"))) .nil))) (.cons (.var 5) .nil)))))
  (.ret (.tup (.cons (.var 4) (.cons (.var 5) (.cons (.var 7) (.cons (.var 8) (.cons (.call "_law_share" (.cons (.var 7) (.cons (.call "_law_back_value" (.cons (.var 4) .nil)) (.cons (.var 5) .nil)))) .nil))))))))))))))
/- _law_lines: 0 _law_numbers_here 1 _law_k 2 _law_items_here 3 _law_lines_here 4 _law_j 5 _law_drawn 6 _law_count -/
def d__law_lines : Sx := (.seq (.asg (.nm 3) (.bx (.fdisp .nil)))
  (.seq (.for_ (.nm 4) (.itRange (.cons (.prim .len (.cons (.var 2) .nil)) .nil)) (.seq (.asg (.nm 5) (.bin .add (.cst (.int 1)) (.bin .mod (.prim .int1 (.cons (.bin .add (.bin .mul (.bin .fdiv (.idx (.var 0) (.bin .add (.var 1) (.var 4))) (.cst (.int 4))) (.cst (.int 4))) (.idx (.var 0) (.bin .add (.var 1) (.cst (.int 4))))) .nil)) (.cst (.int 999)))))
  (.seq (.asg (.nm 6) (.idx (.fz (.fdisp (.cons (.cst (.int 1)) (.cons (.cst (.int 999)) (.cons (.bin .add (.cst (.int 1)) (.bin .mod (.prim .int1 (.cons (.bin .fdiv (.idx (.var 0) (.bin .add (.var 1) (.var 4))) (.cst (.int 4))) .nil)) (.cst (.int 9)))) (.cons (.var 5) .nil)))))) (.bin .mod (.prim .int1 (.cons (.idx (.var 0) (.bin .add (.var 1) (.var 4))) .nil)) (.cst (.int 4)))))
  (.ex (.pm .append (.var 3) (.cons (.tup (.cons (.idx (.var 2) (.var 4)) (.cons (.var 6) .nil))) .nil))))))
  (.ret (.prim .tuple1 (.cons (.var 3) .nil)))))
/- _law_deed: 0 _law_numbers_here 1 _law_k 2 _law_name 3 _law_order_id 4 _law_record_here 5 _law_items_here 6 _law_part 7 _law_item_here 8 _law_store 9 _law_count 10 _law_coins_here 11 _law_clerk 12 _law_coupon -/
def d__law_deed : Sx := (.seq (.asg (.nm 5) (.call "_law_items" (.cons (.var 0) (.cons (.var 1) (.cons (.bin .add (.cst (.int 1)) (.bin .mod (.prim .int1 (.cons (.idx (.var 0) (.bin .add (.var 1) (.cst (.int 12)))) .nil)) (.cst (.int 4)))) .nil)))))
  (.seq (.asg (.nm 6) (.idx (.idx (.var 4) (.cst (.int 0))) (.bin .mod (.prim .int1 (.cons (.idx (.var 0) (.bin .add (.var 1) (.cst (.int 13)))) .nil)) (.prim .len (.cons (.idx (.var 4) (.cst (.int 0))) .nil)))))
  (.seq (.asg (.nm 7) (.idx (.fz (.fdisp (.cons (.idx (.var 5) (.cst (.int 0))) (.cons (.idx (.var 6) (.cst (.int 1))) .nil)))) (.bin .mod (.prim .int1 (.cons (.idx (.var 0) (.bin .add (.var 1) (.cst (.int 14)))) .nil)) (.cst (.int 2)))))
  (.seq (.asg (.nm 8) (.idx (.fz (.fdisp (.cons (.bin .add (.cst (.int 2)) (.bin .mod (.prim .int1 (.cons (.idx (.var 0) (.bin .add (.var 1) (.cst (.int 15)))) .nil)) (.cst (.int 3)))) (.cons (.idx (.var 6) (.cst (.int 0))) .nil)))) (.bin .mod (.prim .int1 (.cons (.bin .fdiv (.idx (.var 0) (.bin .add (.var 1) (.cst (.int 14)))) (.cst (.int 2))) .nil)) (.cst (.int 2)))))
  (.seq (.asg (.nm 9) (.idx (.fz (.fdisp (.cons (.cst (.int 1)) (.cons (.cst (.int 999)) (.cons (.bin .add (.cst (.int 1)) (.bin .mod (.prim .int1 (.cons (.bin .fdiv (.idx (.var 0) (.bin .add (.var 1) (.cst (.int 16)))) (.cst (.int 4))) .nil)) (.cst (.int 9)))) (.cons (.bin .add (.cst (.int 1)) (.bin .mod (.prim .int1 (.cons (.idx (.var 0) (.bin .add (.var 1) (.cst (.int 17)))) .nil)) (.cst (.int 999)))) .nil)))))) (.bin .mod (.prim .int1 (.cons (.idx (.var 0) (.bin .add (.var 1) (.cst (.int 16)))) .nil)) (.cst (.int 4)))))
  (.seq (.asg (.nm 10) (.call "_law_coins" (.cons (.var 0) (.cons (.bin .add (.var 1) (.cst (.int 17))) .nil))))
  (.seq (.ite (.or_ (.cmp .eq (.var 2) (.cst (.str (lit "price")))) (.cmp .eq (.var 2) (.cst (.str (lit "coupon"))))) (.ret (.tup (.cons (.var 2) (.cons (.idx (.var 5) (.cst (.int 0))) (.cons (.var 10) .nil))))) .skip)
  (.seq (.ite (.cmp .eq (.var 2) (.cst (.str (lit "rate")))) (.ret (.tup (.cons (.var 2) (.cons (.idx (.fz (.fdisp (.cons (.cst (.int 0)) (.cons (.cst (.int 999)) (.cons (.idx (.var 0) (.bin .add (.var 1) (.cst (.int 17)))) .nil))))) (.bin .mod (.prim .int1 (.cons (.idx (.var 0) (.bin .add (.var 1) (.cst (.int 18)))) .nil)) (.cst (.int 3)))) .nil)))) .skip)
  (.seq (.ite (.or_ (.cmp .eq (.var 2) (.cst (.str (lit "stock")))) (.cmp .eq (.var 2) (.cst (.str (lit "move"))))) (.ret (.tup (.cons (.var 2) (.cons (.var 8) (.cons (.idx (.var 5) (.cst (.int 0))) (.cons (.var 9) .nil)))))) .skip)
  (.seq (.ite (.cmp .eq (.var 2) (.cst (.str (lit "arrive")))) (.seq (.asg (.nm 11) (.idx (.fz (.fdisp (.cons (.idx (.var 3) (.cst (.int 0))) (.cons (.cst (.int 0)) (.cons (.cst (.int 0)) (.cons (.cst (.int 0)) .nil)))))) (.bin .mod (.prim .int1 (.cons (.idx (.var 0) (.bin .add (.var 1) (.cst (.int 18)))) .nil)) (.cst (.int 4)))))
  (.ret (.tup (.cons (.var 2) (.cons (.tup (.cons (.var 11) (.cons (.idx (.var 3) (.cst (.int 1))) .nil))) (.cons (.var 8) (.cons (.idx (.var 5) (.cst (.int 0))) .nil))))))) .skip)
  (.seq (.ite (.cmp .eq (.var 2) (.cst (.str (lit "send")))) (.ret (.tup (.cons (.var 2) (.cons (.var 3) (.cons (.var 8) .nil))))) .skip)
  (.seq (.ite (.cmp .eq (.var 2) (.cst (.str (lit "count")))) (.ret (.tup (.cons (.var 2) (.cons (.idx (.var 5) (.cst (.int 0))) .nil)))) .skip)
  (.seq (.ite (.or_ (.cmp .eq (.var 2) (.cst (.str (lit "pay")))) (.cmp .eq (.var 2) (.cst (.str (lit "draw"))))) (.ret (.tup (.cons (.var 2) (.cons (.prim .max2 (.cons (.cst (.int 1)) (.cons (.var 10) .nil))) .nil)))) .skip)
  (.seq (.ite (.cmp .eq (.var 2) (.cst (.str (lit "order")))) (.seq (.asg (.nm 12) (.idx (.fz (.fdisp (.cons (.cst .non) (.cons (.idx (.var 5) (.neg (.cst (.int 1)))) (.cons (.idx (.var 5) (.cst (.int 0))) (.cons (.call "_law_item" (.cons (.var 0) (.cons (.bin .add (.var 1) (.cst (.int 16))) .nil))) .nil)))))) (.bin .mod (.prim .int1 (.cons (.idx (.var 0) (.bin .add (.var 1) (.cst (.int 24)))) .nil)) (.cst (.int 4)))))
  (.ret (.tup (.cons (.var 2) (.cons (.call "_law_lines" (.cons (.var 0) (.cons (.bin .add (.var 1) (.cst (.int 19))) (.cons (.var 5) .nil)))) (.cons (.cmp .eq (.bin .mod (.prim .int1 (.cons (.idx (.var 0) (.bin .add (.var 1) (.cst (.int 23)))) .nil)) (.cst (.int 2))) (.cst (.int 0))) (.cons (.var 12) .nil))))))) .skip)
  (.seq (.ite (.cmp .eq (.var 2) (.cst (.str (lit "back")))) (.ret (.tup (.cons (.var 2) (.cons (.var 3) (.cons (.var 8) (.cons (.var 7) (.cons (.var 9) .nil))))))) .skip)
  (.seq (.ite (.cmp .eq (.var 2) (.cst (.str (lit "purse")))) (.ret (.tup (.cons (.var 2) .nil))) .skip)
  (.ret (.tup (.cons (.var 2) (.cons (.var 3) .nil))))))))))))))))))))
/- _law_customer: 0 _law_numbers_here 1 _law_k 2 _law_name 3 _law_order_id -/
def d__law_customer : Sx := (.seq (.ite (.cmp .eq (.bin .mod (.prim .int1 (.cons (.idx (.var 0) (.var 1)) .nil)) (.cst (.int 12))) (.cst (.int 0))) (.ret (.bin .mod (.prim .int1 (.cons (.idx (.var 0) (.bin .add (.var 1) (.cst (.int 1)))) .nil)) (.cst (.int 10)))) .skip)
  (.seq (.ite (.cmp .isin (.var 2) (.tup (.cons (.cst (.str (lit "price"))) (.cons (.cst (.str (lit "rate"))) (.cons (.cst (.str (lit "coupon"))) (.cons (.cst (.str (lit "stock"))) (.cons (.cst (.str (lit "move"))) (.cons (.cst (.str (lit "arrive"))) (.cons (.cst (.str (lit "send"))) (.cons (.cst (.str (lit "count"))) .nil)))))))))) (.ret (.cst (.int 0))) .skip)
  (.seq (.ite (.or_ (.cmp .isin (.var 2) (.tup (.cons (.cst (.str (lit "cancel"))) (.cons (.cst (.str (lit "back"))) .nil)))) (.and_ (.cmp .eq (.var 2) (.cst (.str (lit "look")))) (.cmp .eq (.bin .mod (.prim .int1 (.cons (.idx (.var 0) (.var 1)) .nil)) (.cst (.int 2))) (.cst (.int 0))))) (.ret (.idx (.var 3) (.cst (.int 0)))) .skip)
  (.seq (.ite (.cmp .eq (.var 2) (.cst (.str (lit "look")))) (.ret (.cst (.int 0))) .skip)
  (.ret (.bin .add (.cst (.int 1)) (.bin .mod (.prim .int1 (.cons (.idx (.var 0) (.bin .add (.var 1) (.cst (.int 1)))) .nil)) (.cst (.int 9)))))))))
/- _law_answer: 0 _law_numbers_here 1 _law_k 2 _law_request 3 _law_deed_id 4 _law_deed_here 5 _law_record_here 6 _law_key 7 _law_seed 8 _law_many 9 _law_unused 10 _law_spent 11 _law_item_here -/
def d__law_answer : Sx := (.seq (.asg (.nm 6) (.idx (.var 2) (.cst (.int 0))))
  (.seq (.asg (.nm 7) (.idx (.var 0) (.var 1)))
  (.seq (.ite (.cmp .eq (.idx (.var 2) (.cst (.int 1))) (.cst (.str (lit "add")))) (.ret (.cst .non)) .skip)
  (.seq (.ite (.cmp .eq (.idx (.var 2) (.cst (.int 1))) (.cst (.str (lit "take")))) (.seq (.asg (.nm 8) (.idx (.var 2) (.cst (.int 2))))
  (.ret (.idx (.fz (.fdisp (.cons (.var 8) (.cons (.var 8) (.cons (.var 8) (.cons (.cst (.int 0)) (.cons (.prim .max2 (.cons (.cst (.int 0)) (.cons (.bin .sub (.var 8) (.cst (.int 1))) .nil))) (.cons (.bin .mod (.prim .int1 (.cons (.bin .add (.bin .mul (.var 7) (.cst (.int 1000))) (.idx (.var 0) (.bin .add (.var 1) (.cst (.int 1))))) .nil)) (.bin .add (.var 8) (.cst (.int 1)))) .nil)))))))) (.bin .mod (.prim .int1 (.cons (.var 7) .nil)) (.cst (.int 6)))))) .skip)
  (.seq (.ite (.cmp .eq (.idx (.var 6) (.cst (.int 1))) (.cst (.str (lit "price")))) (.ret (.idx (.fz (.fdisp (.cons (.call "_law_coins" (.cons (.var 0) (.cons (.bin .add (.var 1) (.cst (.int 1))) .nil))) (.cons (.cst .non) .nil)))) (.prim .int1 (.cons (.cmp .eq (.bin .mod (.prim .int1 (.cons (.var 7) .nil)) (.cst (.int 8))) (.cst (.int 0))) .nil)))) .skip)
  (.seq (.ite (.cmp .eq (.idx (.var 6) (.cst (.int 1))) (.cst (.str (lit "rate")))) (.ret (.idx (.fz (.fdisp (.cons (.cst (.int 0)) (.cons (.cst (.int 999)) (.cons (.var 7) .nil))))) (.bin .mod (.prim .int1 (.cons (.idx (.var 0) (.bin .add (.var 1) (.cst (.int 1)))) .nil)) (.cst (.int 3))))) .skip)
  (.seq (.ite (.cmp .eq (.idx (.var 6) (.cst (.int 1))) (.cst (.str (lit "coupon")))) (.seq (.asg (.nm 9) (.tup (.cons (.cst (.str (lit "unused"))) (.cons (.call "_law_coins" (.cons (.var 0) (.cons (.bin .add (.var 1) (.cst (.int 1))) .nil))) .nil))))
  (.seq (.asg (.nm 10) (.tup (.cons (.cst (.str (lit "spent"))) (.cons (.bin .add (.cst (.int 1)) (.bin .mod (.prim .int1 (.cons (.idx (.var 0) (.bin .add (.var 1) (.cst (.int 1)))) .nil)) (.cst (.int 9)))) (.cons (.bin .add (.cst (.int 1)) (.bin .mod (.prim .int1 (.cons (.var 7) .nil)) (.cst (.int 999)))) .nil)))))
  (.ret (.idx (.fz (.fdisp (.cons (.var 9) (.cons (.var 9) (.cons (.var 9) (.cons (.var 9) (.cons (.cst .non) (.cons (.var 10) .nil)))))))) (.bin .mod (.prim .int1 (.cons (.var 7) .nil)) (.cst (.int 6))))))) .skip)
  (.seq (.ite (.cmp .eq (.idx (.var 6) (.cst (.int 1))) (.cst (.str (lit "order")))) (.ret (.ite (.or_ (.cmp .eq (.slc (.var 6) (.cst (.int 2)) .nop) (.var 3)) (.or_ (.cmp .eq (.idx (.var 6) (.cst (.int 2))) (.cst (.int 0))) (.cmp .eq (.bin .mod (.prim .int1 (.cons (.var 7) .nil)) (.cst (.int 8))) (.cst (.int 0))))) (.cst .non) (.var 5))) .skip)
  (.seq (.ite (.cmp .eq (.idx (.var 6) (.cst (.int 1))) (.cst (.str (lit "road")))) (.seq (.ite (.or_ (.cmp .eq (.slc (.var 6) (.cst (.int 2)) .nop) (.var 3)) (.or_ (.cmp .gt (.idx (.var 6) (.cst (.int 2))) (.cst (.int 0))) (.cmp .eq (.bin .mod (.prim .int1 (.cons (.var 7) .nil)) (.cst (.int 8))) (.cst (.int 0))))) (.ret (.cst .non)) .skip)
  (.seq (.asg (.nm 11) (.ite (.cmp .gt (.bin .mod (.prim .int1 (.cons (.var 7) .nil)) (.cst (.int 4))) (.cst (.int 0))) (.idx (.var 4) (.cst (.int 3))) (.call "_law_item" (.cons (.var 0) (.cons (.bin .add (.var 1) (.cst (.int 1))) .nil)))))
  (.ret (.tup (.cons (.var 11) (.cons (.bin .add (.cst (.int 1)) (.bin .mod (.prim .int1 (.cons (.idx (.var 0) (.bin .add (.var 1) (.cst (.int 1)))) .nil)) (.cst (.int 999)))) .nil)))))) .skip)
  (.ret (.idx (.fz (.fdisp (.cons (.cst (.int 0)) (.cons (.var 7) (.cons (.cst (.int 900000000)) .nil))))) (.bin .mod (.prim .int1 (.cons (.idx (.var 0) (.bin .add (.var 1) (.cst (.int 1)))) .nil)) (.cst (.int 3))))))))))))))
/- _law_refused: 0 _law_word -/
def d__law_refused : Sx := (.ret (.tup (.cons (.cst (.str (lit "done"))) (.cons (.tup .nil) (.cons (.tup (.cons (.cst (.str (lit "refused"))) (.cons (.var 0) .nil))) .nil)))))
/- _law_due_office: 0 _law_deed_here 1 _law_told 2 _law_keys 3 _law_key -/
def d__law_due_office : Sx := (.seq (.asg (.nm 2) (.dict false (.cons (.cst (.str (lit "price"))) (.cons (.cst (.str (lit "rate"))) (.cons (.cst (.str (lit "coupon"))) .nil))) (.cons (.tup (.cons (.cst (.int 1)) (.cons (.cst (.str (lit "price"))) (.cons (.idx (.var 0) (.cst (.int 1))) .nil)))) (.cons (.tup (.cons (.cst (.int 1)) (.cons (.cst (.str (lit "rate"))) .nil))) (.cons (.tup (.cons (.cst (.int 1)) (.cons (.cst (.str (lit "coupon"))) (.cons (.idx (.var 0) (.cst (.int 1))) .nil)))) .nil)))))
  (.seq (.asg (.nm 3) (.idx (.var 2) (.idx (.var 0) (.cst (.int 0)))))
  (.seq (.ite (.cmp .eq (.prim .len (.cons (.var 1) .nil)) (.cst (.int 0))) (.ret (.tup (.cons (.cst (.str (lit "ask"))) (.cons (.cst (.int 1)) (.cons (.tup (.cons (.tup (.cons (.var 3) (.cons (.cst (.str (lit "own"))) (.cons (.cst (.int 0)) .nil)))) .nil)) .nil))))) .skip)
  (.seq (.ite (.cmp .eq (.idx (.var 0) (.cst (.int 0))) (.cst (.str (lit "coupon")))) (.seq (.ite (.isN true (.idx (.idx (.var 1) (.cst (.int 0))) (.cst (.int 0)))) (.ret (.call "_law_refused" (.cons (.cst (.str (lit "coupon"))) .nil))) .skip)
  (.ret (.tup (.cons (.cst (.str (lit "done"))) (.cons (.tup (.cons (.tup (.cons (.var 3) (.cons (.tup (.cons (.cst (.str (lit "unused"))) (.cons (.idx (.var 0) (.cst (.int 2))) .nil))) .nil))) .nil)) (.cons (.tup (.cons (.cst (.str (lit "done"))) .nil)) .nil)))))) .skip)
  (.ret (.tup (.cons (.cst (.str (lit "done"))) (.cons (.tup (.cons (.tup (.cons (.var 3) (.cons (.idx (.var 0) (.neg (.cst (.int 1)))) .nil))) .nil)) (.cons (.tup (.cons (.cst (.str (lit "done"))) .nil)) .nil)))))))))
/- _law_due_goods: 0 _law_deed_id 1 _law_deed_here 2 _law_told 3 _law_store 4 _law_came 5 _law_free 6 _law_away 7 _law_road -/
def d__law_due_goods : Sx := (.seq (.asg (.nm 3) (.idx (.var 1) (.cst (.int 1))))
  (.seq (.ite (.cmp .eq (.idx (.var 1) (.cst (.int 0))) (.cst (.str (lit "stock")))) (.seq (.asg (.nm 4) (.tup (.cons (.var 3) (.cons (.cst (.str (lit "came"))) (.cons (.idx (.var 1) (.cst (.int 2))) .nil)))))
  (.seq (.asg (.nm 5) (.tup (.cons (.var 3) (.cons (.cst (.str (lit "free"))) (.cons (.idx (.var 1) (.cst (.int 2))) .nil)))))
  (.seq (.ite (.cmp .eq (.prim .len (.cons (.var 2) .nil)) (.cst (.int 0))) (.ret (.tup (.cons (.cst (.str (lit "ask"))) (.cons (.var 3) (.cons (.tup (.cons (.tup (.cons (.var 4) (.cons (.cst (.str (lit "add"))) (.cons (.cst (.int 0)) .nil)))) (.cons (.tup (.cons (.var 5) (.cons (.cst (.str (lit "add"))) (.cons (.cst (.int 0)) .nil)))) .nil))) .nil))))) .skip)
  (.ret (.tup (.cons (.cst (.str (lit "done"))) (.cons (.tup (.cons (.tup (.cons (.var 4) (.cons (.idx (.var 1) (.cst (.int 3))) .nil))) (.cons (.tup (.cons (.var 5) (.cons (.idx (.var 1) (.cst (.int 3))) .nil))) .nil))) (.cons (.tup (.cons (.cst (.str (lit "done"))) .nil)) .nil)))))))) .skip)
  (.seq (.asg (.nm 6) (.tup (.cons (.cst (.int 1)) (.cons (.cst (.str (lit "away"))) (.cons (.idx (.var 1) (.cst (.int 2))) .nil)))))
  (.seq (.asg (.nm 7) (.tup (.cons (.cst (.int 1)) (.cons (.cst (.str (lit "road"))) (.cons (.idx (.var 0) (.cst (.int 0))) (.cons (.idx (.var 0) (.cst (.int 1))) .nil))))))
  (.seq (.asg (.nm 5) (.tup (.cons (.var 3) (.cons (.cst (.str (lit "free"))) (.cons (.idx (.var 1) (.cst (.int 2))) .nil)))))
  (.seq (.ite (.cmp .eq (.prim .len (.cons (.var 2) .nil)) (.cst (.int 0))) (.ret (.tup (.cons (.cst (.str (lit "ask"))) (.cons (.cst (.int 1)) (.cons (.tup (.cons (.tup (.cons (.var 6) (.cons (.cst (.str (lit "add"))) (.cons (.cst (.int 0)) .nil)))) (.cons (.tup (.cons (.var 7) (.cons (.cst (.str (lit "own"))) (.cons (.cst (.int 0)) .nil)))) .nil))) .nil))))) .skip)
  (.seq (.ite (.cmp .eq (.prim .len (.cons (.var 2) .nil)) (.cst (.int 1))) (.ret (.tup (.cons (.cst (.str (lit "ask"))) (.cons (.var 3) (.cons (.tup (.cons (.tup (.cons (.var 5) (.cons (.cst (.str (lit "take"))) (.cons (.idx (.var 1) (.cst (.int 3))) .nil)))) .nil)) .nil))))) .skip)
  (.seq (.ite (.cmp .lt (.idx (.idx (.var 2) (.cst (.int 1))) (.cst (.int 0))) (.idx (.var 1) (.cst (.int 3)))) (.ret (.call "_law_refused" (.cons (.cst (.str (lit "stock"))) .nil))) .skip)
  (.ret (.tup (.cons (.cst (.str (lit "done"))) (.cons (.tup (.cons (.tup (.cons (.var 6) (.cons (.idx (.var 1) (.cst (.int 3))) .nil))) (.cons (.tup (.cons (.var 7) (.cons (.slc (.var 1) (.cst (.int 2)) .nop) .nil))) (.cons (.tup (.cons (.var 5) (.cons (.neg (.idx (.var 1) (.cst (.int 3)))) .nil))) .nil)))) (.cons (.tup (.cons (.cst (.str (lit "done"))) .nil)) .nil)))))))))))))
/- _law_due_arrive: 0 _law_deed_here 1 _law_told 2 _law_away 3 _law_road 4 _law_free 5 _law_record_here -/
def d__law_due_arrive : Sx := (.seq (.asg (.nm 2) (.tup (.cons (.cst (.int 1)) (.cons (.cst (.str (lit "away"))) (.cons (.idx (.var 0) (.cst (.int 3))) .nil)))))
  (.seq (.asg (.nm 3) (.tup (.cons (.cst (.int 1)) (.cons (.cst (.str (lit "road"))) (.cons (.idx (.idx (.var 0) (.cst (.int 1))) (.cst (.int 0))) (.cons (.idx (.idx (.var 0) (.cst (.int 1))) (.cst (.int 1))) .nil))))))
  (.seq (.asg (.nm 4) (.tup (.cons (.idx (.var 0) (.cst (.int 2))) (.cons (.cst (.str (lit "free"))) (.cons (.idx (.var 0) (.cst (.int 3))) .nil)))))
  (.seq (.ite (.cmp .eq (.prim .len (.cons (.var 1) .nil)) (.cst (.int 0))) (.ret (.tup (.cons (.cst (.str (lit "ask"))) (.cons (.cst (.int 1)) (.cons (.tup (.cons (.tup (.cons (.var 2) (.cons (.cst (.str (lit "add"))) (.cons (.cst (.int 0)) .nil)))) (.cons (.tup (.cons (.var 3) (.cons (.cst (.str (lit "own"))) (.cons (.cst (.int 0)) .nil)))) .nil))) .nil))))) .skip)
  (.seq (.asg (.nm 5) (.idx (.idx (.var 1) (.cst (.int 0))) (.cst (.int 1))))
  (.seq (.ite (.or_ (.isN false (.var 5)) (.cmp .ne (.idx (.var 5) (.cst (.int 0))) (.idx (.var 0) (.cst (.int 3))))) (.ret (.call "_law_refused" (.cons (.cst (.str (lit "road"))) .nil))) .skip)
  (.seq (.ite (.cmp .eq (.prim .len (.cons (.var 1) .nil)) (.cst (.int 1))) (.ret (.tup (.cons (.cst (.str (lit "ask"))) (.cons (.idx (.var 0) (.cst (.int 2))) (.cons (.tup (.cons (.tup (.cons (.var 4) (.cons (.cst (.str (lit "add"))) (.cons (.cst (.int 0)) .nil)))) .nil)) .nil))))) .skip)
  (.ret (.tup (.cons (.cst (.str (lit "done"))) (.cons (.tup (.cons (.tup (.cons (.var 2) (.cons (.neg (.idx (.var 5) (.cst (.int 1)))) .nil))) (.cons (.tup (.cons (.var 3) (.cons (.cst .non) .nil))) (.cons (.tup (.cons (.var 4) (.cons (.idx (.var 5) (.cst (.int 1))) .nil))) .nil)))) (.cons (.tup (.cons (.cst (.str (lit "done"))) .nil)) .nil))))))))))))
/- _law_due_count: 0 _law_deed_here 1 _law_told 2 _law_store 3 _law_answers -/
def d__law_due_count : Sx := (.seq (.ite (.cmp .eq (.prim .len (.cons (.var 1) .nil)) (.cst (.int 0))) (.ret (.tup (.cons (.cst (.str (lit "ask"))) (.cons (.cst (.int 1)) (.cons (.tup (.cons (.tup (.cons (.tup (.cons (.cst (.int 1)) (.cons (.cst (.str (lit "away"))) (.cons (.idx (.var 0) (.cst (.int 1))) .nil)))) (.cons (.cst (.str (lit "see"))) (.cons (.cst (.int 0)) .nil)))) .nil)) .nil))))) .skip)
  (.seq (.ite (.cmp .lt (.prim .len (.cons (.var 1) .nil)) (.cst (.int 4))) (.seq (.asg (.nm 2) (.bin .add (.cst (.int 1)) (.prim .len (.cons (.var 1) .nil))))
  (.ret (.tup (.cons (.cst (.str (lit "ask"))) (.cons (.var 2) (.cons (.tup (.cons (.tup (.cons (.tup (.cons (.var 2) (.cons (.cst (.str (lit "free"))) (.cons (.idx (.var 0) (.cst (.int 1))) .nil)))) (.cons (.cst (.str (lit "see"))) (.cons (.cst (.int 0)) .nil)))) (.cons (.tup (.cons (.tup (.cons (.var 2) (.cons (.cst (.str (lit "held"))) (.cons (.idx (.var 0) (.cst (.int 1))) .nil)))) (.cons (.cst (.str (lit "see"))) (.cons (.cst (.int 0)) .nil)))) .nil))) .nil)))))) .skip)
  (.ret (.tup (.cons (.cst (.str (lit "done"))) (.cons (.tup .nil) (.cons (.tup (.cons (.cst (.str (lit "counts"))) (.cons (.idx (.idx (.var 1) (.cst (.int 0))) (.cst (.int 0))) (.cons (.prim .tuple1 (.cons (.fz (.fcomp (.prim .tuple1 (.cons (.var 3) .nil)) (.nm 3) (.itV (.slc (.var 1) (.cst (.int 1)) .nop)) .nop [3])) .nil)) .nil)))) .nil)))))))
/- _law_due_coins: 0 _law_customer_here 1 _law_deed_here 2 _law_told 3 _law_paid 4 _law_purse -/
def d__law_due_coins : Sx := (.seq (.asg (.nm 3) (.tup (.cons (.cst (.int 5)) (.cons (.cst (.str (lit "paid"))) .nil))))
  (.seq (.asg (.nm 4) (.tup (.cons (.cst (.int 5)) (.cons (.cst (.str (lit "purse"))) (.cons (.var 0) .nil)))))
  (.seq (.ite (.cmp .eq (.idx (.var 1) (.cst (.int 0))) (.cst (.str (lit "purse")))) (.seq (.ite (.cmp .eq (.prim .len (.cons (.var 2) .nil)) (.cst (.int 0))) (.ret (.tup (.cons (.cst (.str (lit "ask"))) (.cons (.cst (.int 5)) (.cons (.tup (.cons (.tup (.cons (.var 4) (.cons (.cst (.str (lit "see"))) (.cons (.cst (.int 0)) .nil)))) .nil)) .nil))))) .skip)
  (.ret (.tup (.cons (.cst (.str (lit "done"))) (.cons (.tup .nil) (.cons (.tup (.cons (.cst (.str (lit "coins"))) (.cons (.idx (.idx (.var 2) (.cst (.int 0))) (.cst (.int 0))) .nil))) .nil)))))) .skip)
  (.seq (.ite (.cmp .eq (.idx (.var 1) (.cst (.int 0))) (.cst (.str (lit "pay")))) (.seq (.ite (.cmp .eq (.prim .len (.cons (.var 2) .nil)) (.cst (.int 0))) (.ret (.tup (.cons (.cst (.str (lit "ask"))) (.cons (.cst (.int 5)) (.cons (.tup (.cons (.tup (.cons (.var 3) (.cons (.cst (.str (lit "add"))) (.cons (.cst (.int 0)) .nil)))) (.cons (.tup (.cons (.var 4) (.cons (.cst (.str (lit "add"))) (.cons (.cst (.int 0)) .nil)))) .nil))) .nil))))) .skip)
  (.ret (.tup (.cons (.cst (.str (lit "done"))) (.cons (.tup (.cons (.tup (.cons (.var 3) (.cons (.idx (.var 1) (.cst (.int 1))) .nil))) (.cons (.tup (.cons (.var 4) (.cons (.idx (.var 1) (.cst (.int 1))) .nil))) .nil))) (.cons (.tup (.cons (.cst (.str (lit "done"))) .nil)) .nil)))))) .skip)
  (.seq (.ite (.cmp .eq (.prim .len (.cons (.var 2) .nil)) (.cst (.int 0))) (.ret (.tup (.cons (.cst (.str (lit "ask"))) (.cons (.cst (.int 5)) (.cons (.tup (.cons (.tup (.cons (.var 3) (.cons (.cst (.str (lit "add"))) (.cons (.cst (.int 0)) .nil)))) (.cons (.tup (.cons (.var 4) (.cons (.cst (.str (lit "take"))) (.cons (.idx (.var 1) (.cst (.int 1))) .nil)))) .nil))) .nil))))) .skip)
  (.seq (.ite (.cmp .lt (.idx (.idx (.var 2) (.cst (.int 0))) (.cst (.int 1))) (.idx (.var 1) (.cst (.int 1)))) (.ret (.call "_law_refused" (.cons (.cst (.str (lit "coins"))) .nil))) .skip)
  (.ret (.tup (.cons (.cst (.str (lit "done"))) (.cons (.tup (.cons (.tup (.cons (.var 3) (.cons (.neg (.idx (.var 1) (.cst (.int 1)))) .nil))) (.cons (.tup (.cons (.var 4) (.cons (.neg (.idx (.var 1) (.cst (.int 1)))) .nil))) .nil))) (.cons (.tup (.cons (.cst (.str (lit "done"))) .nil)) .nil)))))))))))
/- _law_due_look: 0 _law_customer_here 1 _law_deed_here 2 _law_told -/
def d__law_due_look : Sx := (.seq (.ite (.and_ (.cmp .ne (.var 0) (.cst (.int 0))) (.cmp .ne (.var 0) (.idx (.idx (.var 1) (.cst (.int 1))) (.cst (.int 0))))) (.ret (.call "_law_refused" (.cons (.cst (.str (lit "right"))) .nil))) .skip)
  (.seq (.ite (.cmp .eq (.prim .len (.cons (.var 2) .nil)) (.cst (.int 0))) (.ret (.tup (.cons (.cst (.str (lit "ask"))) (.cons (.cst (.int 1)) (.cons (.tup (.cons (.tup (.cons (.tup (.cons (.cst (.int 1)) (.cons (.cst (.str (lit "order"))) (.cons (.idx (.idx (.var 1) (.cst (.int 1))) (.cst (.int 0))) (.cons (.idx (.idx (.var 1) (.cst (.int 1))) (.cst (.int 1))) .nil))))) (.cons (.cst (.str (lit "see"))) (.cons (.cst (.int 0)) .nil)))) .nil)) .nil))))) .skip)
  (.seq (.ite (.isN false (.idx (.idx (.var 2) (.cst (.int 0))) (.cst (.int 0)))) (.ret (.call "_law_refused" (.cons (.cst (.str (lit "order"))) .nil))) .skip)
  (.ret (.tup (.cons (.cst (.str (lit "done"))) (.cons (.tup .nil) (.cons (.tup (.cons (.cst (.str (lit "shows"))) (.cons (.idx (.idx (.var 2) (.cst (.int 0))) (.cst (.int 0))) .nil))) .nil))))))))
/- _law_due_plain: 0 _law_deed_id 1 _law_deed_here 2 _law_told 3 _law_word -/
def d__law_due_plain : Sx := (.seq (.asg (.nm 3) (.idx (.var 1) (.cst (.int 0))))
  (.seq (.ite (.cmp .eq (.var 3) (.cst (.str (lit "look")))) (.ret (.call "_law_due_look" (.cons (.idx (.var 0) (.cst (.int 0))) (.cons (.var 1) (.cons (.var 2) .nil))))) .skip)
  (.seq (.ite (.cmp .isin (.var 3) (.tup (.cons (.cst (.str (lit "pay"))) (.cons (.cst (.str (lit "draw"))) (.cons (.cst (.str (lit "purse"))) .nil))))) (.seq (.ite (.cmp .eq (.idx (.var 0) (.cst (.int 0))) (.cst (.int 0))) (.ret (.call "_law_refused" (.cons (.cst (.str (lit "right"))) .nil))) .skip)
  (.ret (.call "_law_due_coins" (.cons (.idx (.var 0) (.cst (.int 0))) (.cons (.var 1) (.cons (.var 2) .nil)))))) .skip)
  (.seq (.ite (.cmp .ne (.idx (.var 0) (.cst (.int 0))) (.cst (.int 0))) (.ret (.call "_law_refused" (.cons (.cst (.str (lit "right"))) .nil))) .skip)
  (.seq (.ite (.cmp .isin (.var 3) (.tup (.cons (.cst (.str (lit "price"))) (.cons (.cst (.str (lit "rate"))) (.cons (.cst (.str (lit "coupon"))) .nil))))) (.ret (.call "_law_due_office" (.cons (.var 1) (.cons (.var 2) .nil)))) .skip)
  (.seq (.ite (.cmp .eq (.var 3) (.cst (.str (lit "arrive")))) (.ret (.call "_law_due_arrive" (.cons (.var 1) (.cons (.var 2) .nil)))) .skip)
  (.seq (.ite (.cmp .eq (.var 3) (.cst (.str (lit "count")))) (.ret (.call "_law_due_count" (.cons (.var 1) (.cons (.var 2) .nil)))) .skip)
  (.ret (.call "_law_due_goods" (.cons (.var 0) (.cons (.var 1) (.cons (.var 2) .nil))))))))))))
/- law: 0 _law_script 1 _law_at 2 _law_numbers_here 3 _law_record_here 4 _law_names 5 _law_name 6 _law_order_id 7 _law_deed_here 8 _law_deed_id 9 _law_told 10 _law_turn 11 _law_due 12 _law_handed 13 _law_answers 14 _law_k 15 _law_place -/
def d_law : Sx := (.seq (.for_ (.nm 1) (.itRange (.cons (.cst (.int 1)) (.cons (.prim .min2 (.cons (.prim .len (.cons (.var 0) .nil)) (.cons (.cst (.int 25)) .nil))) .nil))) (.seq (.asg (.nm 2) (.call "_law_numbers" (.cons (.idx (.var 0) (.var 1)) (.cons (.var 1) (.cons (.cst (.int 120)) .nil)))))
  (.seq (.asg (.nm 3) (.call "_law_record" (.cons (.var 2) (.cons (.cst (.int 60)) .nil))))
  (.seq (.asg (.nm 4) (.fz (.fdisp (.cons (.cst (.str (lit "price"))) (.cons (.cst (.str (lit "rate"))) (.cons (.cst (.str (lit "coupon"))) (.cons (.cst (.str (lit "stock"))) (.cons (.cst (.str (lit "move"))) (.cons (.cst (.str (lit "move"))) (.cons (.cst (.str (lit "arrive"))) (.cons (.cst (.str (lit "arrive"))) (.cons (.cst (.str (lit "count"))) (.cons (.cst (.str (lit "pay"))) (.cons (.cst (.str (lit "draw"))) .nil))))))))))))))
  (.seq (.asg (.nm 5) (.idx (.fz (.fprim .cat (.cons (.var 4) (.cons (.fz (.fdisp (.cons (.cst (.str (lit "purse"))) (.cons (.cst (.str (lit "look"))) .nil)))) .nil)))) (.bin .mod (.prim .int1 (.cons (.idx (.var 2) (.cst (.int 0))) .nil)) (.cst (.int 13)))))
  (.seq (.asg (.nm 6) (.tup (.cons (.bin .mod (.prim .int1 (.cons (.idx (.var 2) (.cst (.int 1))) .nil)) (.cst (.int 10))) (.cons (.bin .add (.cst (.int 1)) (.bin .mod (.prim .int1 (.cons (.idx (.var 2) (.cst (.int 2))) .nil)) (.cst (.int 999)))) .nil))))
  (.seq (.asg (.nm 7) (.call "_law_deed" (.cons (.var 2) (.cons (.cst (.int 3)) (.cons (.var 5) (.cons (.var 6) (.cons (.var 3) .nil)))))))
  (.seq (.asg (.nm 8) (.tup (.cons (.call "_law_customer" (.cons (.var 2) (.cons (.cst (.int 28)) (.cons (.var 5) (.cons (.var 6) .nil))))) (.cons (.bin .add (.cst (.int 1)) (.bin .mod (.prim .int1 (.cons (.idx (.var 2) (.cst (.int 30))) .nil)) (.cst (.int 999)))) .nil))))
  (.seq (.ite (.cmp .eq (.bin .mod (.prim .int1 (.cons (.idx (.var 2) (.cst (.int 117))) .nil)) (.cst (.int 8))) (.cst (.int 0))) (.asg (.nm 8) (.tup (.cons (.idx (.var 8) (.cst (.int 0))) (.cons (.idx (.var 6) (.cst (.int 1))) .nil)))) .skip)
  (.seq (.asg (.nm 9) (.bx (.fdisp .nil)))
  (.for_ (.nm 10) (.itRange (.cons (.cst (.int 6)) .nil)) (.seq (.asg (.nm 11) (.call "_law_due_plain" (.cons (.var 8) (.cons (.var 7) (.cons (.var 9) .nil)))))
  (.seq (.asg (.nm 12) (.fz (.fprim .list1 (.cons (.var 9) .nil))))
  (.seq (.ite (.cmp .eq (.bin .mod (.prim .int1 (.cons (.idx (.var 2) (.cst (.int 31))) .nil)) (.cst (.int 2))) (.cst (.int 0))) (.asg (.nm 12) (.prim .tuple1 (.cons (.var 9) .nil))) .skip)
  (.seq (.ite (.or_ (.not_ (.call "_law_same" (.cons (.call "next_step" (.cons (.var 8) (.cons (.var 7) (.cons (.var 12) .nil)))) (.cons (.var 11) .nil)))) (.cmp .ne (.fz (.fprim .list1 (.cons (.var 12) .nil))) (.var 9))) (.ret (.cst (.bl false))) .skip)
  (.seq (.ite (.cmp .eq (.idx (.var 11) (.cst (.int 0))) (.cst (.str (lit "done")))) .brk .skip)
  (.seq (.asg (.nm 13) (.bx (.fdisp .nil)))
  (.seq (.for_ (.nm 14) (.itRange (.cons (.prim .len (.cons (.idx (.var 11) (.cst (.int 2))) .nil)) .nil)) (.seq (.asg (.nm 15) (.bin .add (.cst (.int 32)) (.bin .mod (.prim .int1 (.cons (.bin .add (.bin .mul (.cst (.int 5)) (.var 10)) (.bin .mul (.cst (.int 3)) (.var 14))) .nil)) (.cst (.int 25)))))
  (.ex (.pm .append (.var 13) (.cons (.call "_law_answer" (.cons (.var 2) (.cons (.var 15) (.cons (.idx (.idx (.var 11) (.cst (.int 2))) (.var 14)) (.cons (.var 8) (.cons (.var 7) (.cons (.var 3) .nil))))))) .nil)))))
  (.ex (.pm .append (.var 9) (.cons (.prim .tuple1 (.cons (.var 13) .nil)) .nil)))))))))))))))))))))
  (.ret (.cst (.bl true))))
def rows : List (String × Row) := [
  ("is_between", ⟨"is_between", none, ["value", "least", "most"], ⟨3, 3, (.mut []), d_is_between⟩⟩),
  ("is_word", ⟨"is_word", none, ["value", "sign"], ⟨1, 2, (.mut []), d_is_word⟩⟩),
  ("is_id", ⟨"is_id", none, ["value"], ⟨1, 1, (.mut []), d_is_id⟩⟩),
  ("fits", ⟨"fits", none, ["value", "kind", "least", "most"], ⟨2, 4, (.mut []), d_fits⟩⟩),
  ("fit", ⟨"fit", none, ["values", "kinds", "value", "kind"], ⟨2, 4, (.mut []), d_fit⟩⟩),
  ("has_name", ⟨"has_name", none, ["house", "name"], ⟨2, 2, (.mut []), d_has_name⟩⟩),
  ("is_key", ⟨"is_key", none, ["value"], ⟨1, 1, (.mut []), d_is_key⟩⟩),
  ("is_amount", ⟨"is_amount", none, ["key"], ⟨1, 1, (.mut []), d_is_amount⟩⟩),
  ("ask_of", ⟨"ask_of", none, ["house", "requests"], ⟨2, 2, (.mut []), d_ask_of⟩⟩),
  ("refusal", ⟨"refusal", none, ["word"], ⟨1, 1, (.mut []), d_refusal⟩⟩),
  ("end_of", ⟨"end_of", none, ["changes", "answer", "writes", "key", "what", "<lambda>"], ⟨2, 6, (.mut []), d_end_of⟩⟩),
  ("next_of", ⟨"next_of", none, ["asks", "told", "end"], ⟨3, 3, (.mut []), d_next_of⟩⟩),
  ("order_key", ⟨"order_key", none, ["order_id"], ⟨1, 1, (.mut []), d_order_key⟩⟩),
  ("order_ask", ⟨"order_ask", none, ["order_id"], ⟨1, 1, (.mut []), d_order_ask⟩⟩),
  ("add", ⟨"add", none, ["key"], ⟨1, 1, (.mut []), d_add⟩⟩),
  ("purse_of", ⟨"purse_of", none, ["deed_id"], ⟨1, 1, (.mut []), d_purse_of⟩⟩),
  ("price_step", ⟨"price_step", none, ["deed_id", "deed", "told", "key"], ⟨3, 4, (.mut []), d_price_step⟩⟩),
  ("rate_step", ⟨"rate_step", none, ["deed_id", "deed", "told", "key"], ⟨3, 4, (.mut []), d_rate_step⟩⟩),
  ("coupon_step", ⟨"coupon_step", none, ["deed_id", "deed", "told", "key"], ⟨3, 4, (.mut []), d_coupon_step⟩⟩),
  ("stock_step", ⟨"stock_step", none, ["deed_id", "deed", "told", "store", "item", "count", "came", "free"], ⟨3, 8, (.mut []), d_stock_step⟩⟩),
  ("move_step", ⟨"move_step", none, ["deed_id", "deed", "told", "store", "item", "count", "road", "away", "free", "asks"], ⟨3, 10, (.mut []), d_move_step⟩⟩),
  ("arrive_step", ⟨"arrive_step", none, ["deed_id", "deed", "told", "move_id", "store", "item", "road", "away", "free", "asks", "record"], ⟨3, 11, (.mut []), d_arrive_step⟩⟩),
  ("count_step", ⟨"count_step", none, ["deed_id", "deed", "told", "item", "asks", "store", "answers"], ⟨3, 7, (.mut []), d_count_step⟩⟩),
  ("pay_step", ⟨"pay_step", none, ["deed_id", "deed", "told", "coins", "paid", "purse"], ⟨3, 6, (.mut []), d_pay_step⟩⟩),
  ("draw_step", ⟨"draw_step", none, ["deed_id", "deed", "told", "coins", "paid", "purse", "asks"], ⟨3, 7, (.mut []), d_draw_step⟩⟩),
  ("purse_step", ⟨"purse_step", none, ["deed_id", "deed", "told"], ⟨3, 3, (.mut []), d_purse_step⟩⟩),
  ("look_step", ⟨"look_step", none, ["deed_id", "deed", "told"], ⟨3, 3, (.mut []), d_look_step⟩⟩),
  ("may_do", ⟨"may_do", none, ["customer", "deed"], ⟨2, 2, (.mut []), d_may_do⟩⟩),
  ("next_step", ⟨"next_step", none, ["deed_id", "deed", "told", "step"], ⟨3, 4, (.mut []), d_next_step⟩⟩),
  ("_law_numbers", ⟨"_law_numbers", none, ["_law_cell", "_law_at", "_law_many", "_law_great", "_law_rest", "_law_numbers_here", "_law_k", "_law_mixed"], ⟨3, 8, (.mut []), d__law_numbers⟩⟩),
  ("_law_same", ⟨"_law_same", none, ["_law_actual", "_law_expected", "_law_k"], ⟨2, 3, (.mut []), d__law_same⟩⟩),
  ("_law_item", ⟨"_law_item", none, ["_law_numbers_here", "_law_k", "_law_letters", "_law_first", "_law_word"], ⟨2, 5, (.mut []), d__law_item⟩⟩),
  ("_law_items", ⟨"_law_items", none, ["_law_numbers_here", "_law_k", "_law_many", "_law_items_here", "_law_j", "_law_item_here"], ⟨3, 6, (.mut []), d__law_items⟩⟩),
  ("_law_coins", ⟨"_law_coins", none, ["_law_numbers_here", "_law_k"], ⟨2, 2, (.mut []), d__law_coins⟩⟩),
  ("_law_total", ⟨"_law_total", none, ["_law_value", "_law_discount", "_law_rate", "_law_net"], ⟨3, 4, (.mut []), d__law_total⟩⟩),
  ("_law_share", ⟨"_law_share", none, ["_law_total_here", "_law_part", "_law_whole"], ⟨3, 3, (.mut []), d__law_share⟩⟩),
  ("_law_part_value", ⟨"_law_part_value", none, ["_law_parts_here", "_law_state", "_law_value", "_law_part"], ⟨2, 4, (.mut []), d__law_part_value⟩⟩),
  ("_law_back_value", ⟨"_law_back_value", none, ["_law_parts_here", "_law_value", "_law_part"], ⟨1, 3, (.mut []), d__law_back_value⟩⟩),
  ("_law_parts", ⟨"_law_parts", none, ["_law_numbers_here", "_law_k", "_law_items_here", "_law_prices", "_law_parts_here", "_law_rest", "_law_store", "_law_state", "_law_j", "_law_at", "_law_drawn", "_law_count", "_law_back"], ⟨4, 13, (.mut []), d__law_parts⟩⟩),
  ("_law_record", ⟨"_law_record", none, ["_law_numbers_here", "_law_k", "_law_items_here", "_law_prices", "_law_parts_here", "_law_value", "_law_discount", "_law_total_here", "_law_charged", "_law_j"], ⟨2, 10, (.mut []), d__law_record⟩⟩),
  ("_law_lines", ⟨"_law_lines", none, ["_law_numbers_here", "_law_k", "_law_items_here", "_law_lines_here", "_law_j", "_law_drawn", "_law_count"], ⟨3, 7, (.mut []), d__law_lines⟩⟩),
  ("_law_deed", ⟨"_law_deed", none, ["_law_numbers_here", "_law_k", "_law_name", "_law_order_id", "_law_record_here", "_law_items_here", "_law_part", "_law_item_here", "_law_store", "_law_count", "_law_coins_here", "_law_clerk", "_law_coupon"], ⟨5, 13, (.mut []), d__law_deed⟩⟩),
  ("_law_customer", ⟨"_law_customer", none, ["_law_numbers_here", "_law_k", "_law_name", "_law_order_id"], ⟨4, 4, (.mut []), d__law_customer⟩⟩),
  ("_law_answer", ⟨"_law_answer", none, ["_law_numbers_here", "_law_k", "_law_request", "_law_deed_id", "_law_deed_here", "_law_record_here", "_law_key", "_law_seed", "_law_many", "_law_unused", "_law_spent", "_law_item_here"], ⟨6, 12, (.mut []), d__law_answer⟩⟩),
  ("_law_refused", ⟨"_law_refused", none, ["_law_word"], ⟨1, 1, (.mut []), d__law_refused⟩⟩),
  ("_law_due_office", ⟨"_law_due_office", none, ["_law_deed_here", "_law_told", "_law_keys", "_law_key"], ⟨2, 4, (.mut []), d__law_due_office⟩⟩),
  ("_law_due_goods", ⟨"_law_due_goods", none, ["_law_deed_id", "_law_deed_here", "_law_told", "_law_store", "_law_came", "_law_free", "_law_away", "_law_road"], ⟨3, 8, (.mut []), d__law_due_goods⟩⟩),
  ("_law_due_arrive", ⟨"_law_due_arrive", none, ["_law_deed_here", "_law_told", "_law_away", "_law_road", "_law_free", "_law_record_here"], ⟨2, 6, (.mut []), d__law_due_arrive⟩⟩),
  ("_law_due_count", ⟨"_law_due_count", none, ["_law_deed_here", "_law_told", "_law_store", "_law_answers"], ⟨2, 4, (.mut []), d__law_due_count⟩⟩),
  ("_law_due_coins", ⟨"_law_due_coins", none, ["_law_customer_here", "_law_deed_here", "_law_told", "_law_paid", "_law_purse"], ⟨3, 5, (.mut []), d__law_due_coins⟩⟩),
  ("_law_due_look", ⟨"_law_due_look", none, ["_law_customer_here", "_law_deed_here", "_law_told"], ⟨3, 3, (.mut []), d__law_due_look⟩⟩),
  ("_law_due_plain", ⟨"_law_due_plain", none, ["_law_deed_id", "_law_deed_here", "_law_told", "_law_word"], ⟨3, 4, (.mut []), d__law_due_plain⟩⟩),
  ("law", ⟨"law", none, ["_law_script", "_law_at", "_law_numbers_here", "_law_record_here", "_law_names", "_law_name", "_law_order_id", "_law_deed_here", "_law_deed_id", "_law_told", "_law_turn", "_law_due", "_law_handed", "_law_answers", "_law_k", "_law_place"], ⟨1, 16, .raw, d_law⟩⟩)]
def globs : List (String × Val) := [("OFFICE", .int 1),
  ("STORES", .ktp [.int 2, .int 3, .int 4]),
  ("BANK", .int 5),
  ("CLERK", .int 0),
  ("LETTERS", .str (lit "abcdefghijklmnopqrstuvwxyz")),
  ("MOST_LETTERS", .int 8),
  ("RANGES", .gl "RANGES"),
  ("KEY_PARTS", .gl "KEY_PARTS"),
  ("OFFICE_NAMES", .ktp [.str (lit "price"), .str (lit "rate"), .str (lit "coupon"), .str (lit "order"), .str (lit "road"), .str (lit "away")]),
  ("STORE_NAMES", .ktp [.str (lit "came"), .str (lit "free"), .str (lit "held"), .str (lit "out")]),
  ("RECORD_NAMES", .ktp [.str (lit "price"), .str (lit "rate"), .str (lit "coupon"), .str (lit "order"), .str (lit "road")]),
  ("CLERKS_DEEDS", .ktp [.str (lit "price"), .str (lit "rate"), .str (lit "coupon"), .str (lit "stock"), .str (lit "move"), .str (lit "arrive"), .str (lit "send"), .str (lit "count")]),
  ("OWN_ORDERS", .ktp [.str (lit "cancel"), .str (lit "back"), .str (lit "look")]),
  ("STEPS", .gl "STEPS")]
def tabs : List (String × List (PySem.Str × Val)) := [("RANGES", [(lit "customer", .ktp [.int 0, .int 9]), (lit "buyer", .ktp [.int 1, .int 9]), (lit "number", .ktp [.int 1, .int 999]), (lit "store", .ktp [.int 2, .int 4]), (lit "count", .ktp [.int 1, .int 999]), (lit "coins", .ktp [.int 0, .int 99999]), (lit "some coins", .ktp [.int 1, .int 99999]), (lit "rate", .ktp [.int 0, .int 999])]),
  ("KEY_PARTS", [(lit "price", .ktp [.str (lit "word")]), (lit "rate", .ktp []), (lit "coupon", .ktp [.str (lit "word")]), (lit "order", .ktp [.str (lit "customer"), .str (lit "number")]), (lit "road", .ktp [.str (lit "customer"), .str (lit "number")]), (lit "away", .ktp [.str (lit "word")]), (lit "came", .ktp [.str (lit "word")]), (lit "free", .ktp [.str (lit "word")]), (lit "held", .ktp [.str (lit "word")]), (lit "out", .ktp [.str (lit "word")]), (lit "purse", .ktp [.str (lit "buyer")]), (lit "kept", .ktp []), (lit "till", .ktp []), (lit "paid", .ktp [])]),
  ("STEPS", [(lit "price", .gl "price_step"), (lit "rate", .gl "rate_step"), (lit "coupon", .gl "coupon_step"), (lit "stock", .gl "stock_step"), (lit "move", .gl "move_step"), (lit "arrive", .gl "arrive_step"), (lit "send", .gl "send_step"), (lit "count", .gl "count_step"), (lit "pay", .gl "pay_step"), (lit "draw", .gl "draw_step"), (lit "order", .gl "order_step"), (lit "cancel", .gl "cancel_step"), (lit "back", .gl "back_step"), (lit "purse", .gl "purse_step"), (lit "look", .gl "look_step")])]
def meths : List ((String × String) × String) := []
def subs : List (String × String) := []
def flds : List (String × String) := []
def tops : List String := ["is_between", "is_word", "is_id", "fits", "fit", "has_name", "is_key", "is_amount", "ask_of", "refusal", "end_of", "next_of", "order_key", "order_ask", "add", "purse_of", "price_step", "rate_step", "coupon_step", "stock_step", "move_step", "arrive_step", "count_step", "pay_step", "draw_step", "purse_step", "look_step", "may_do", "next_step", "_law_numbers", "_law_same", "_law_item", "_law_items", "_law_coins", "_law_total", "_law_share", "_law_part_value", "_law_back_value", "_law_parts", "_law_record", "_law_lines", "_law_deed", "_law_customer", "_law_answer", "_law_refused", "_law_due_office", "_law_due_goods", "_law_due_arrive", "_law_due_count", "_law_due_coins", "_law_due_look", "_law_due_plain", "law"]
def bis : List String := ["len", "abs", "min", "max", "int", "str", "tuple", "sorted", "list", "isinstance", "range", "zip", "bool"]
def plains : List String := ["is_between", "is_word", "is_id", "fits", "fit", "has_name", "is_key", "is_amount", "ask_of", "refusal", "end_of", "next_of", "order_key", "order_ask", "add", "purse_of", "price_step", "rate_step", "coupon_step", "stock_step", "move_step", "arrive_step", "count_step", "pay_step", "draw_step", "purse_step", "look_step", "may_do", "next_step", "_law_numbers", "_law_same", "_law_item", "_law_items", "_law_coins", "_law_total", "_law_share", "_law_part_value", "_law_back_value", "_law_parts", "_law_record", "_law_lines", "_law_deed", "_law_customer", "_law_answer", "_law_refused", "_law_due_office", "_law_due_goods", "_law_due_arrive", "_law_due_count", "_law_due_coins", "_law_due_look", "_law_due_plain", "law"]
def lams : List String := ["end_of"]
def inits : List (String × String) := []
def kwos : List (String × (Nat × String)) := []
def skip : List String := ["ShopError", "NoKey", "MOST_LINES", "are_lines", "goods_value", "tax_of", "total_of", "share", "answers_by_key", "office_ask", "refused_at_office", "store_ask", "parts_at", "still_needed", "order_step", "order_paid", "in_state", "value_in_state", "value_given_back", "turned", "send_step", "cancel_step", "given_back", "back_step"]
def plan : Plan := ⟨rows, globs, tabs, meths, subs, flds, tops, bis, plains, lams, inits, kwos, 100, skip⟩
end P15

end
section
set_option Elab.async false
set_option linter.all false
set_option maxRecDepth 100000
set_option maxHeartbeats 0
namespace H15
open PySem PySem.W PySem.Calls PyProof.Rows Sim HandSHeadRun
abbrev R : PySem.W.OpenRow := PySem.W.OpenLaw.row PySem.Challenge.rw_oncecoin_k15_moves_coins_and_looks
abbrev qv : PySem.Program := PySem.W.view R.prog [96]
def n0 : List PySem.Str := ["ShopError", "NoKey", "OFFICE", "STORES", "BANK", "CLERK", "LETTERS", "MOST_LETTERS", "MOST_LINES", "RANGES", "KEY_PARTS", "OFFICE_NAMES", "STORE_NAMES", "RECORD_NAMES", "is_between", "is_word", "is_id", "are_lines", "fits", "fit", "has_name", "is_key", "is_amount", "goods_value", "tax_of", "total_of", "share", "ask_of", "answers_by_key", "refusal"]
def n1 : List PySem.Str := ["end_of", "next_of", "order_key", "order_ask", "add", "purse_of", "office_ask", "refused_at_office", "store_ask", "parts_at", "still_needed", "order_step", "order_paid", "in_state", "value_in_state", "value_given_back", "turned", "send_step", "cancel_step", "given_back", "back_step", "CLERKS_DEEDS", "OWN_ORDERS", "price_step", "rate_step", "coupon_step", "stock_step", "move_step", "arrive_step", "count_step"]
def n2 : List PySem.Str := ["pay_step", "draw_step", "purse_step", "look_step", "STEPS", "may_do", "next_step", "_law_numbers", "_law_same", "_law_item", "_law_items", "_law_coins", "_law_total", "_law_share", "_law_part_value", "_law_back_value", "_law_parts", "_law_record", "_law_lines", "_law_deed", "_law_customer", "_law_answer", "_law_refused", "_law_due_office", "_law_due_goods", "_law_due_arrive", "_law_due_count", "_law_due_coins", "_law_due_look", "_law_due_plain"]
def names : List PySem.Str := n0 ++ n1 ++ n2
theorem aF (w : World) : FirstEq R qv P15.plan 3 9000 names (w.withFollow "special-get-raises" false) := by
  intro os
  kernel_rfl
theorem dF (w : World) : PartEq R P15.plan 3 9000 (w.withFollow "special-get-raises" false) (fun _ K => P15.plan.restB K && P15.plan.rowsB (P15.plan.cutR 0 17) K) true := by
  intro os
  kernel_rfl
theorem r0F (w : World) : PartEq R P15.plan 3 9000 (w.withFollow "special-get-raises" false) (fun _ K => P15.plan.rowsB (P15.plan.cutR 17 18) K) true := by
  intro os
  kernel_rfl
theorem r1F (w : World) : PartEq R P15.plan 3 9000 (w.withFollow "special-get-raises" false) (fun _ K => P15.plan.rowsB (P15.plan.cutR 35 18) K) true := by
  intro os
  kernel_rfl
theorem aT (w : World) : FirstEq R qv P15.plan 3 9000 names (w.withFollow "special-get-raises" true) := by
  intro os
  kernel_rfl
theorem dT (w : World) : PartEq R P15.plan 3 9000 (w.withFollow "special-get-raises" true) (fun _ K => P15.plan.restB K && P15.plan.rowsB (P15.plan.cutR 0 17) K) true := by
  intro os
  kernel_rfl
theorem r0T (w : World) : PartEq R P15.plan 3 9000 (w.withFollow "special-get-raises" true) (fun _ K => P15.plan.rowsB (P15.plan.cutR 17 18) K) true := by
  intro os
  kernel_rfl
theorem r1T (w : World) : PartEq R P15.plan 3 9000 (w.withFollow "special-get-raises" true) (fun _ K => P15.plan.rowsB (P15.plan.cutR 35 18) K) true := by
  intro os
  kernel_rfl
theorem obF (w : World) : HandSHeadRun.RunEq R qv (P15.plan.hook 3) (P15.plan.ob 3) 9000 names (w.withFollow "special-get-raises" false) := runEq_parts 17 [18, 18] (by decide +kernel) (aF w) (dF w) (fun i hi => match i, hi with
  | 0, _ => r0F w
  | 1, _ => r1F w
  | (_ + 2), hi => absurd hi (by simp))
theorem obT (w : World) : HandSHeadRun.RunEq R qv (P15.plan.hook 3) (P15.plan.ob 3) 9000 names (w.withFollow "special-get-raises" true) := runEq_parts 17 [18, 18] (by decide +kernel) (aT w) (dT w) (fun i hi => match i, hi with
  | 0, _ => r0T w
  | 1, _ => r1T w
  | (_ + 2), hi => absurd hi (by simp))
theorem run (w : World) : HandSHeadRun.RunEq R qv (P15.plan.hook 3) (P15.plan.ob 3) 9000 names w := byRow2 "special-get-raises" (P := fun w => HandSHeadRun.RunEq R qv (P15.plan.hook 3) (P15.plan.ob 3) 9000 names w) obF obT w
end H15

end
section
set_option Elab.async false
set_option linter.all false
/-! EvS: the evaluator's steps as equations, for simp. -/
namespace Ev
open PySem (Str)
@[simp] theorem lit_eq : ∀ {a b : String}, lit a = lit b ↔ a = b := by
  intro a b
  constructor
  · intro h
    have h1 : (a.toList.map Char.toNat).toArray = (b.toList.map Char.toNat).toArray := congrArg Str.cps h
    have h2 : a.toList.map Char.toNat = b.toList.map Char.toNat := by simpa using congrArg Array.toList h1
    have inj : ∀ l m : List Char, l.map Char.toNat = m.map Char.toNat → l = m := by
      intro l
      induction l with
      | nil => intro m h; cases m with
        | nil => rfl
        | cons _ _ => simp at h
      | cons x xs ih =>
        intro m h
        cases m with
        | nil => simp at h
        | cons y ys =>
          simp only [List.map_cons, List.cons.injEq] at h
          have : x = y := by
            apply Char.ext
            apply UInt32.toNat_inj.mp
            exact h.1
          rw [this, ih ys h.2]
    exact String.toList_inj.mp (inj _ _ h2)
  · intro h; rw [h]


section
variable (c : ECtx) (env : EEnv) (h : EHeap)
/-! ### values -/
@[simp] theorem evE_var (i : Nat) : evE c (.var i) env h = ofOpt (env[i]?.getD none) h := (rfl)
@[simp] theorem evE_cst (v : Val) : evE c (.cst v) env h = .ok v h := (rfl)
@[simp] theorem evE_glob (x : String) : evE c (.glob x) env h = ofOpt (c.glob x) h := (rfl)
@[simp] theorem evE_tup (es : Ex) : evE c (.tup es) env h = (evL c es env h).bind fun l h => .ok (.tup l) h := (rfl)
@[simp] theorem evE_fz (es : Ex) : evE c (.fz es) env h = (evL c es env h).bind fun l h => .ok (.lst l) h := (rfl)
@[simp] theorem evE_bx (es : Ex) : evE c (.bx es) env h = (evL c es env h).bind fun l h => .ok (.ref h.length) (h ++ [.list l]) := (rfl)
@[simp] theorem evE_dict0 (t : Bool) : evE c (.dict t .nil .nil) env h = .ok (.ref h.length) (h ++ [.dict t []]) := (rfl)
@[simp] theorem evE_bin (o : BOp) (a b : Ex) : evE c (.bin o a b) env h = (evE c a env h).bind fun x h => (evE c b env h).bind fun y h => binV o x y h := (rfl)
@[simp] theorem evE_neg (a : Ex) : evE c (.neg a) env h = (evE c a env h).bind fun x h => (match x with | .int i => .ok (.int (-i)) h | _ => .no) := by
  show R.bind (evE c a env h) _ = R.bind (evE c a env h) _
  cases evE c a env h with
  | ok x h =>
    simp only [R.bind_ok]
    cases x <;> first | rfl | (rename_i z; cases z <;> rfl)
  | _ => rfl
@[simp] theorem evE_cmp (o : COp) (a b : Ex) : evE c (.cmp o a b) env h = (evE c a env h).bind fun x h => (evE c b env h).bind fun y h => (cmpM c.tabs o x y h).bind fun z h => .ok (.bl z) h := (rfl)
@[simp] theorem evE_chain (o p : COp) (a b d : Ex) : evE c (.chain o p a b d) env h = (evE c a env h).bind fun x h => (evE c b env h).bind fun y h => (ordI o x y h).bind fun z h => if z = true then (evE c d env h).bind fun w h => (ordI p y w h).bind fun b h => .ok (.bl b) h else .ok (.bl false) h := by
  show R.bind (evE c a env h) _ = R.bind (evE c a env h) _
  cases evE c a env h with
  | ok x h =>
    show R.bind (evE c b env h) _ = R.bind (evE c b env h) _
    cases evE c b env h with
    | ok y h =>
      show R.bind (ordI o x y h) _ = R.bind (ordI o x y h) _
      cases ordI o x y h with
      | ok z h => cases z <;> rfl
      | _ => rfl
    | _ => rfl
  | _ => rfl
@[simp] theorem evE_isN (n : Bool) (a : Ex) : evE c (.isN n a) env h = (evE c a env h).bind fun x h => .ok (.bl (decide (x = .non) != n)) h := (rfl)
@[simp] theorem evE_and (a b : Ex) : evE c (.and_ a b) env h = (evE c a env h).bind fun x h => (match x with | .bl true => evE c b env h | .bl false => .ok (.bl false) h | _ => .no) := by
  show R.bind (evE c a env h) _ = R.bind (evE c a env h) _
  cases evE c a env h with
  | ok x h =>
    simp only [R.bind_ok]
    cases x <;> first | rfl | (rename_i z; cases z <;> rfl)
  | _ => rfl
@[simp] theorem evE_or (a b : Ex) : evE c (.or_ a b) env h = (evE c a env h).bind fun x h => (match x with | .bl true => .ok (.bl true) h | .bl false => evE c b env h | _ => .no) := by
  show R.bind (evE c a env h) _ = R.bind (evE c a env h) _
  cases evE c a env h with
  | ok x h =>
    simp only [R.bind_ok]
    cases x <;> first | rfl | (rename_i z; cases z <;> rfl)
  | _ => rfl
@[simp] theorem evE_not (a : Ex) : evE c (.not_ a) env h = (evE c a env h).bind fun v h => (ofOpt (truthV h v) h).bind fun b h => .ok (.bl !b) h := by
  show (((evE c a env h).bind fun v h => ofOpt (truthV h v) h).bind fun b h => (.ok (.bl !b) h : R Val)) = _
  cases evE c a env h <;> rfl
@[simp] theorem evE_ite (t a b : Ex) : evE c (.ite t a b) env h = (evT c t env h).bind fun z h => if z = true then evE c a env h else evE c b env h := by
  show R.bind (evT c t env h) _ = R.bind (evT c t env h) _
  cases evT c t env h with
  | ok x h =>
    simp only [R.bind_ok]
    cases x <;> first | rfl | (rename_i z; cases z <;> rfl)
  | _ => rfl
@[simp] theorem evE_attr (a : Ex) (f : String) : evE c (.attr a f) env h = (evE c a env h).bind fun x h => attrV c.fld x f h := (rfl)
@[simp] theorem evE_idx (a b : Ex) : evE c (.idx a b) env h = (evE c a env h).bind fun x h => (evE c b env h).bind fun y h => idxV c.tabs x y h := (rfl)
@[simp] theorem evE_slc (a lo hi : Ex) : evE c (.slc a lo hi) env h = (evE c a env h).bind fun x h => (evO c lo env h).bind fun l h => (evO c hi env h).bind fun u h => sliceV x l u h := (rfl)
@[simp] theorem evE_srev (a : Ex) : evE c (.srev a) env h = (evE c a env h).bind fun x h => (match x with | .str s => .ok (.str ⟨s.cps.toList.reverse.toArray⟩) h | _ => .no) := by
  show R.bind (evE c a env h) _ = R.bind (evE c a env h) _
  cases evE c a env h with
  | ok x h =>
    simp only [R.bind_ok]
    cases x <;> first | rfl | (rename_i z; cases z <;> rfl)
  | _ => rfl
@[simp] theorem evE_call (f : String) (es : Ex) : evE c (.call f es) env h = (evL c es env h).bind fun vs h => c.call f vs h := (rfl)
@[simp] theorem evE_callV (i : Nat) (es : Ex) : evE c (.callV i es) env h = (ofOpt (env[i]?.getD none) h).bind fun x h => (match x with | .gl f => if c.has f = true then (evL c es env h).bind fun vs h => c.call f vs h else .no | _ => .no) := by
  show R.bind (ofOpt (env[i]?.getD none) h) _ = R.bind (ofOpt (env[i]?.getD none) h) _
  cases ofOpt (env[i]?.getD none) h with
  | ok x h =>
    simp only [R.bind_ok]
    cases x with
    | gl f =>
      show (if c.has f = true then (do c.call f (← evL c es env)) else stuck : M Val) h = if c.has f = true then (evL c es env h).bind fun vs h => c.call f vs h else .no
      cases c.has f <;> rfl
    | _ => rfl
  | _ => rfl
@[simp] theorem evE_prim (p : Prim) (es : Ex) : evE c (.prim p es) env h = (evL c es env h).bind fun vs h => primV p vs h := (rfl)
@[simp] theorem evE_isi (a : Ex) (ts : List String) : evE c (.isi a ts) env h = (evE c a env h).bind fun x h => (isiV x ts h).bind fun b h => .ok (.bl b) h := (rfl)
@[simp] theorem evE_pm (m : PM) (o es : Ex) : evE c (.pm m o es) env h = (evE c o env h).bind fun x h => (recv m x h).bind fun _ h => (evL c es env h).bind fun vs h => pmV m x vs h := (rfl)
@[simp] theorem evE_meth (o : Ex) (m : String) (es : Ex) : evE c (.meth o m es) env h = (evE c o env h).bind fun x h => (methKey c x m h).bind fun k h => (evL c es env h).bind fun vs h => c.call k (x :: vs) h := (rfl)
@[simp] theorem evE_make (k i : String) (es : Ex) : evE c (.make k i es) env h = (evL c es env h).bind fun vs h => (c.call i (.ref h.length :: vs) (h ++ [.inst k []])).bind fun v h2 => (match v with | .non => .ok (.ref h.length) h2 | _ => .no) := by
  show R.bind (evL c es env h) _ = R.bind (evL c es env h) _
  cases evL c es env h with
  | ok vs h => first
    | (show R.bind (c.call i (.ref h.length :: vs) (h ++ [.inst k []])) _ = R.bind (c.call i (.ref h.length :: vs) (h ++ [.inst k []])) _
       cases c.call i (.ref h.length :: vs) (h ++ [.inst k []]) with
       | ok v h2 => cases v <;> rfl
       | _ => rfl)
    | (show R.bind (evL c kes env h) _ = R.bind (evL c kes env h) _
       cases evL c kes env h with
       | ok ws h =>
         show R.bind (c.call i (.ref h.length :: (vs ++ ws)) (h ++ [.inst k []])) _ = R.bind (c.call i (.ref h.length :: (vs ++ ws)) (h ++ [.inst k []])) _
         cases c.call i (.ref h.length :: (vs ++ ws)) (h ++ [.inst k []]) with
         | ok v h2 => cases v <;> rfl
         | _ => rfl
       | _ => rfl)
  | _ => rfl
@[simp] theorem evE_makeK (k i : String) (es : Ex) (ks : List String) (kes : Ex) : evE c (.makeK k i es ks kes) env h = (evL c es env h).bind fun vs h => (evL c kes env h).bind fun ws h => (c.call i (.ref h.length :: (vs ++ ws)) (h ++ [.inst k []])).bind fun v h2 => (match v with | .non => .ok (.ref h.length) h2 | _ => .no) := by
  show R.bind (evL c es env h) _ = R.bind (evL c es env h) _
  cases evL c es env h with
  | ok vs h => first
    | (show R.bind (c.call i (.ref h.length :: vs) (h ++ [.inst k []])) _ = R.bind (c.call i (.ref h.length :: vs) (h ++ [.inst k []])) _
       cases c.call i (.ref h.length :: vs) (h ++ [.inst k []]) with
       | ok v h2 => cases v <;> rfl
       | _ => rfl)
    | (show R.bind (evL c kes env h) _ = R.bind (evL c kes env h) _
       cases evL c kes env h with
       | ok ws h =>
         show R.bind (c.call i (.ref h.length :: (vs ++ ws)) (h ++ [.inst k []])) _ = R.bind (c.call i (.ref h.length :: (vs ++ ws)) (h ++ [.inst k []])) _
         cases c.call i (.ref h.length :: (vs ++ ws)) (h ++ [.inst k []]) with
         | ok v h2 => cases v <;> rfl
         | _ => rfl
       | _ => rfl)
  | _ => rfl
/-! ### lists of values -/
@[simp] theorem evL_nil : evL c .nil env h = .ok [] h := (rfl)
@[simp] theorem evL_cons (e es : Ex) : evL c (.cons e es) env h = (evE c e env h).bind fun v h => (evL c es env h).bind fun vs h => .ok (v :: vs) h := (rfl)
@[simp] theorem evL_fdisp (es : Ex) : evL c (.fdisp es) env h = evL c es env h := (rfl)
@[simp] theorem evL_fcomp (elt : Ex) (tg : Tg) (it cd : Ex) (own : List Nat) : evL c (.fcomp elt tg it cd own) env h = (evI c it env h).bind fun p h =>
  quiet (compLoop p.2 (fun v => bindTg tg v (wipeE env own)) (fun e => if isNop cd = true then pure true else evT c cd e) (fun e => evE c elt e) p.1) h := rfl
@[simp] theorem evL_fprim (p : FPrim) (es : Ex) : evL c (.fprim p es) env h = (evL c es env h).bind fun vs h => fprimV p vs h := (rfl)
@[simp] theorem evL_fslc (a lo hi : Ex) : evL c (.fslc a lo hi) env h = (evE c a env h).bind fun o h => (ofOpt (listOf h o) h).bind fun l h => (evO c lo env h).bind fun lo h => (evO c hi env h).bind fun hi h => .ok (cutL l lo hi) h := (rfl)
/-! ### what a for walks -/
def rngV (vs : List Val) : M (List Val × Lk) := match vs with
    | [.int n] => do
      guardM (decide (n.toNat ≤ most) && decide (-4611686018427387904 ≤ n))
      pure (rangeL 0 n.toNat, none)
    | [.int m, .int n] => do
      guardM (decide ((n - m).toNat ≤ most) && decide (-4611686018427387904 ≤ m ∧ m < 4611686018427387904 ∧ -4611686018427387904 ≤ n ∧ n < 4611686018427387904))
      pure (rangeL m (n - m).toNat, none)
    | _ => stuck
@[simp] theorem evI_range (es : Ex) : evI c (.itRange es) env h = (evL c es env h).bind fun vs h => rngV vs h := (rfl)
def itVal (v : Val) : M (List Val × Lk) := fun h => match v with
      | .tup l => .ok (l, none) h
      | .ktp l => .ok (l, none) h
      | .scr l => .ok (l, none) h
      | .lst l => .ok (l, none) h
      | .str s => .ok (chars s, none) h
      | .ref n => match h[n]? with
        | some (.list l) => .ok (l, some (n, .list l)) h
        | _ => .no
      | _ => .no
@[simp] theorem evI_val (a : Ex) : evI c (.itV a) env h = (evE c a env h).bind fun v h => itVal v h := (rfl)
def itEn (v : Val) : M (List Val × Lk) := fun h => match v with
      | .lst l => .ok ((rangeL 0 l.length).zipWith (fun i x => .tup [i, x]) l, none) h
      | .ref n => match h[n]? with
        | some (.list l) => .ok ((rangeL 0 l.length).zipWith (fun i x => .tup [i, x]) l, some (n, .list l)) h
        | _ => .no
      | _ => .no
@[simp] theorem evI_enum (a : Ex) : evI c (.itEnum a) env h = (evE c a env h).bind fun v h => itEn v h := (rfl)
def itZp (v w : Val) : M (List Val × Lk) := match v, w with
    | .tup l, .tup m => pure (l.zipWith (fun x y => .tup [x, y]) m, none)
    | .tup l, .ktp m => pure (l.zipWith (fun x y => .tup [x, y]) m, none)
    | .lst l, .lst m => pure (l.zipWith (fun x y => .tup [x, y]) m, none)
    | _, _ => stuck
@[simp] theorem evI_zip (a b : Ex) : evI c (.itZip a b) env h = (evE c a env h).bind fun v h => (evE c b env h).bind fun w h => itZp v w h := (rfl)
/-! ### tests -/
theorem truth_bl (r : R Bool) : ((r.bind fun z h => (.ok (.bl z) h : R Val)).bind fun v h => ofOpt (truthV h v) h) = r := by
  cases r <;> rfl
@[simp] theorem evT_cmp (o : COp) (a b : Ex) : evT c (.cmp o a b) env h = (evE c a env h).bind fun x h => (evE c b env h).bind fun y h => cmpM c.tabs o x y h := by
  show (evE c (.cmp o a b) env h).bind (fun v h => ofOpt (truthV h v) h) = _
  rw [evE_cmp]
  cases evE c a env h with
  | ok x h1 =>
    simp only [R.bind_ok]
    cases evE c b env h1 with
    | ok y h2 => simp only [R.bind_ok]; exact truth_bl _
    | _ => rfl
  | _ => rfl
@[simp] theorem evT_var (i : Nat) : evT c (.var i) env h = (ofOpt (env[i]?.getD none) h).bind fun v h => ofOpt (truthV h v) h := (rfl)
@[simp] theorem evT_call (f : String) (es : Ex) : evT c (.call f es) env h = (evE c (.call f es) env h).bind fun v h => ofOpt (truthV h v) h := (rfl)
@[simp] theorem evT_prim (p : Prim) (es : Ex) : evT c (.prim p es) env h = (evE c (.prim p es) env h).bind fun v h => ofOpt (truthV h v) h := (rfl)
@[simp] theorem evT_meth (o : Ex) (m : String) (es : Ex) : evT c (.meth o m es) env h = (evE c (.meth o m es) env h).bind fun v h => ofOpt (truthV h v) h := (rfl)
@[simp] theorem evT_idx (a b : Ex) : evT c (.idx a b) env h = (evE c (.idx a b) env h).bind fun v h => ofOpt (truthV h v) h := (rfl)
@[simp] theorem evT_isi (a : Ex) (ts : List String) : evT c (.isi a ts) env h = (evE c a env h).bind fun x h => isiV x ts h := by
  show (evE c (.isi a ts) env h).bind (fun v h => ofOpt (truthV h v) h) = _
  rw [evE_isi]
  cases evE c a env h with
  | ok x h1 => simp only [R.bind_ok]; exact truth_bl _
  | _ => rfl
@[simp] theorem evT_isN (n : Bool) (a : Ex) : evT c (.isN n a) env h = (evE c a env h).bind fun x h => .ok (decide (x = .non) != n) h := by
  show (evE c (.isN n a) env h).bind (fun v h => ofOpt (truthV h v) h) = _
  rw [evE_isN]
  cases evE c a env h <;> rfl
@[simp] theorem evT_chain (o p : COp) (a b d : Ex) : evT c (.chain o p a b d) env h = (evE c a env h).bind fun x h => (evE c b env h).bind fun y h => (ordI o x y h).bind fun z h => if z = true then (evE c d env h).bind fun w h => ordI p y w h else .ok false h := by
  show (evE c (.chain o p a b d) env h).bind (fun v h => ofOpt (truthV h v) h) = _
  rw [evE_chain]
  cases evE c a env h with
  | ok x h1 =>
    simp only [R.bind_ok]
    cases evE c b env h1 with
    | ok y h2 =>
      simp only [R.bind_ok]
      cases ordI o x y h2 with
      | ok z h3 =>
        simp only [R.bind_ok]
        cases z with
        | false => rfl
        | true =>
          simp only [if_true]
          show ((evE c d env h3).bind fun w h => (ordI p y w h).bind fun b h => (.ok (Val.bl b) h : R Val)).bind (fun v h => ofOpt (truthV h v) h) = _
          cases evE c d env h3 with
          | ok w h4 => simp only [R.bind_ok]; exact truth_bl _
          | _ => rfl
      | _ => rfl
    | _ => rfl
  | _ => rfl
@[simp] theorem evT_and (a b : Ex) : evT c (.and_ a b) env h = (evT c a env h).bind fun z h => if z = true then evT c b env h else .ok false h := by
  show R.bind (evT c a env h) _ = R.bind (evT c a env h) _
  cases evT c a env h with
  | ok x h =>
    simp only [R.bind_ok]
    cases x <;> first | rfl | (rename_i z; cases z <;> rfl)
  | _ => rfl
@[simp] theorem evT_or (a b : Ex) : evT c (.or_ a b) env h = (evT c a env h).bind fun z h => if z = true then .ok true h else evT c b env h := by
  show R.bind (evT c a env h) _ = R.bind (evT c a env h) _
  cases evT c a env h with
  | ok x h =>
    simp only [R.bind_ok]
    cases x <;> first | rfl | (rename_i z; cases z <;> rfl)
  | _ => rfl
@[simp] theorem evT_not (a : Ex) : evT c (.not_ a) env h = (evT c a env h).bind fun z h => .ok (!z) h := (rfl)
@[simp] theorem evT_ite (t a b : Ex) : evT c (.ite t a b) env h = (evT c t env h).bind fun z h => if z = true then evT c a env h else evT c b env h := by
  show R.bind (evT c t env h) _ = R.bind (evT c t env h) _
  cases evT c t env h with
  | ok x h =>
    simp only [R.bind_ok]
    cases x <;> first | rfl | (rename_i z; cases z <;> rfl)
  | _ => rfl
/-! ### parts of a slice -/
@[simp] theorem evO_nop : evO c .nop env h = .ok none h := (rfl)
@[simp] theorem evO_cst (v : Val) : evO c (.cst v) env h = ofOpt (optInt v) h := (rfl)
@[simp] theorem evO_var (i : Nat) : evO c (.var i) env h = (ofOpt (env[i]?.getD none) h).bind fun v h => ofOpt (optInt v) h := (rfl)
@[simp] theorem evO_bin (o : BOp) (a b : Ex) : evO c (.bin o a b) env h = (evE c (.bin o a b) env h).bind fun v h => ofOpt (optInt v) h := (rfl)
@[simp] theorem evO_neg (a : Ex) : evO c (.neg a) env h = (evE c (.neg a) env h).bind fun v h => ofOpt (optInt v) h := (rfl)
@[simp] theorem evO_prim (p : Prim) (es : Ex) : evO c (.prim p es) env h = (evE c (.prim p es) env h).bind fun v h => ofOpt (optInt v) h := (rfl)
/-! ### statements -/
@[simp] theorem evS_skip : evS c .skip env h = .ok (.nx env) h := (rfl)
theorem evS_seq0 (a b : Sx) : evS c (.seq a b) env h = (evS c a env h).bind fun r h => (match r with | .nx env => evS c b env h | r => .ok r h) := by
  show R.bind (evS c a env h) _ = R.bind (evS c a env h) _
  cases evS c a env h with
  | ok x h =>
    simp only [R.bind_ok]
    cases x <;> first | rfl | (rename_i z; cases z <;> rfl)
  | _ => rfl
/-- what stands behind a statement (no function in sight: simp must not go ahead) -/
def seqR (r : R Ctl) (c : ECtx) (b : Sx) : R Ctl := r.bind fun r h => (match r with | .nx env => evS c b env h | r => .ok r h)
@[simp] theorem seqR_nx (c : ECtx) (b : Sx) (env : EEnv) (h : EHeap) : seqR (.ok (.nx env) h) c b = evS c b env h := (rfl)
@[simp] theorem seqR_rt (c : ECtx) (b : Sx) (v : Val) (h : EHeap) : seqR (.ok (.rt v) h) c b = .ok (.rt v) h := (rfl)
@[simp] theorem seqR_bk (c : ECtx) (b : Sx) (env : EEnv) (h : EHeap) : seqR (.ok (.bk env) h) c b = .ok (.bk env) h := (rfl)
@[simp] theorem seqR_ct (c : ECtx) (b : Sx) (env : EEnv) (h : EHeap) : seqR (.ok (.ct env) h) c b = .ok (.ct env) h := (rfl)
@[simp] theorem seqR_exc (c : ECtx) (b : Sx) (k : String) (fs : List (String × Val)) (h : EHeap) : seqR (.exc k fs h) c b = .exc k fs h := (rfl)
@[simp] theorem seqR_no (c : ECtx) (b : Sx) : seqR .no c b = .no := (rfl)
@[simp] theorem evS_seq (a b : Sx) : evS c (.seq a b) env h = seqR (evS c a env h) c b := evS_seq0 c env h a b
@[simp] theorem evS_ex (e : Ex) : evS c (.ex e) env h = (evE c e env h).bind fun _ h => .ok (.nx env) h := (rfl)
@[simp] theorem evS_asg (t : Tg) (e : Ex) : evS c (.asg t e) env h = (evE c e env h).bind fun v h => (ofOpt (bindTg t v env) h).bind fun e h => .ok (.nx e) h := (rfl)
@[simp] theorem evS_par (is : List Nat) (es : Ex) : evS c (.par is es) env h = (evL c es env h).bind fun vs h => (if vs.length = is.length then pure (.nx ((is.zip vs).foldl (fun e p => e.set p.1 (some p.2)) env)) else stuck : M Ctl) h := (rfl)
@[simp] theorem evS_asgI (o i e : Ex) : evS c (.asgI o i e) env h = (evE c e env h).bind fun v h => (evE c o env h).bind fun x h => (evE c i env h).bind fun k h => (setIdx x k v h).bind fun _ h => .ok (.nx env) h := (rfl)
@[simp] theorem evS_asgF (o : Ex) (f : String) (e : Ex) : evS c (.asgF o f e) env h = (evE c e env h).bind fun v h => (evE c o env h).bind fun x h => (setAttr c.fld x f v h).bind fun _ h => .ok (.nx env) h := (rfl)
@[simp] theorem evS_augN (i : Nat) (op : BOp) (e : Ex) : evS c (.augN i op e) env h = (ofOpt (env[i]?.getD none) h).bind fun x h => (evE c e env h).bind fun v h => (augV op x v h).bind fun z h => .ok (.nx (env.set i (some z))) h := (rfl)
@[simp] theorem evS_ret (e : Ex) : evS c (.ret e) env h = (evE c e env h).bind fun v h => .ok (.rt v) h := (rfl)
@[simp] theorem evS_retN : evS c .retN env h = .ok (.rt .non) h := (rfl)
theorem evS_ite0 (t : Ex) (a b : Sx) : evS c (.ite t a b) env h = (evT c t env h).bind fun z h => if z = true then evS c a env h else evS c b env h := by
  show R.bind (evT c t env h) _ = R.bind (evT c t env h) _
  cases evT c t env h with
  | ok x h =>
    simp only [R.bind_ok]
    cases x <;> first | rfl | (rename_i z; cases z <;> rfl)
  | _ => rfl
def iteR (r : R Bool) (c : ECtx) (a b : Sx) (env : EEnv) : R Ctl := r.bind fun z h => if z = true then evS c a env h else evS c b env h
@[simp] theorem iteR_tt (c : ECtx) (a b : Sx) (env : EEnv) (h : EHeap) : iteR (.ok true h) c a b env = evS c a env h := (rfl)
@[simp] theorem iteR_ff (c : ECtx) (a b : Sx) (env : EEnv) (h : EHeap) : iteR (.ok false h) c a b env = evS c b env h := (rfl)
@[simp] theorem iteR_exc (c : ECtx) (a b : Sx) (env : EEnv) (k : String) (fs : List (String × Val)) (h : EHeap) : iteR (.exc k fs h) c a b env = .exc k fs h := (rfl)
@[simp] theorem iteR_no (c : ECtx) (a b : Sx) (env : EEnv) : iteR .no c a b env = .no := (rfl)
@[simp] theorem evS_ite (t : Ex) (a b : Sx) : evS c (.ite t a b) env h = iteR (evT c t env h) c a b env := evS_ite0 c env h t a b
@[simp] theorem evS_for (t : Tg) (it : Ex) (b : Sx) : evS c (.for_ t it b) env h = (evI c it env h).bind fun p h => forLoop p.2 (bindTg t) (fun e => evS c b e) p.1 env h := (rfl)
@[simp] theorem evS_while (t : Ex) (b : Sx) : evS c (.while_ t b) env h = whileLoop (fun e => evT c t e) (fun e => evS c b e) c.fuel env h := (rfl)
@[simp] theorem evS_brk : evS c .brk env h = .ok (.bk env) h := (rfl)
@[simp] theorem evS_cont : evS c .cont env h = .ok (.ct env) h := (rfl)

/-! ### what a call leaves -/
theorem fin_pure (args : List Val) (v : Val) : finOk (.mut []) args h v h = (match fzV h h.length v with | some w => .ok w h | none => .no) := by
  simp [finOk, allOk, setAll] <;> rfl
theorem fin_more (args : List Val) (v : Val) (t : EHeap) : finOk (.mut []) args h v (h ++ t) = (match fzV (h ++ t) h.length v with | some w => .ok w h | none => .no) := by
  simp [finOk, allOk, setAll] <;> rfl
theorem fz_plain {h : EHeap} {n : Nat} {v : Val} (hv : noRef v = true) : fzV h n v = some v := by
  cases v <;> first | (simp [noRef] at hv; done) | simp [fzV, hv]
/-- a def that changes nothing and returns v -/
theorem run_pure {c : ECtx} {d : FnDef} {args : List Val} {h : EHeap} {v : Val} {t : EHeap} (hk : d.keep = .mut []) (hl : args.length = d.params) (hb : evS c d.body (initEnv d.slots args) h = .ok (.rt v) (h ++ t)) (hv : noRef v = true) : runDef c d args h = .ok v h := by
  unfold runDef
  rw [if_pos hl, hb]
  simp only
  rw [hk, fin_more, fz_plain hv]
/-- the same, v a new list -/
theorem run_new {c : ECtx} {d : FnDef} {args : List Val} {h : EHeap} {l : List Val} {m : Nat} {t : EHeap} (hk : d.keep = .mut []) (hl : args.length = d.params) (hb : evS c d.body (initEnv d.slots args) h = .ok (.rt (.ref m)) (h ++ t)) (hm : h.length ≤ m) (ht : (h ++ t)[m]? = some (.list l)) (hv : noRefs l = true) : runDef c d args h = .ok (.lst l) h := by
  unfold runDef
  rw [if_pos hl, hb]
  simp only
  rw [hk, fin_more]
  simp [fzV, hm, ht, hv]
/-! ### operators -/
@[simp] theorem bin_add (i j : Int) : binV .add (.int i) (.int j) h = .ok (.int (i + j)) h := (rfl)
@[simp] theorem bin_sub (i j : Int) : binV .sub (.int i) (.int j) h = .ok (.int (i - j)) h := (rfl)
theorem bin_mul (i j : Int) (hs : (small i || small j) = true) : binV .mul (.int i) (.int j) h = .ok (.int (i * j)) h := by
  show (guardM (small i || small j) h).bind _ = _
  rw [hs]; rfl
theorem bin_fdiv (i j : Int) (hj : 0 < j ∧ j < 1073741824) : binV .fdiv (.int i) (.int j) h = .ok (.int (i / j)) h := by
  show (guardM (decide (0 < j ∧ j < 1073741824)) h).bind _ = _
  rw [decide_eq_true hj]; rfl
theorem bin_mod (i j : Int) (hj : 0 < j) : binV .mod (.int i) (.int j) h = .ok (.int (i % j)) h := by
  show (guardM (decide (0 < j)) h).bind _ = _
  rw [decide_eq_true hj]; rfl
@[simp] theorem bin_adds (x y : Str) : binV .add (.str x) (.str y) h = if x.length + y.length ≤ most then .ok (.str (x ++ y)) h else .no := by
  show (guardM (decide (x.length + y.length ≤ most)) h).bind _ = _
  by_cases q : x.length + y.length ≤ most
  · rw [if_pos q, decide_eq_true q]; rfl
  · rw [if_neg q, decide_eq_false q]; rfl
@[simp] theorem bin_addt (x y : List Val) : binV .add (.tup x) (.tup y) h = if x.length + y.length ≤ most then .ok (.tup (x ++ y)) h else .no := by
  show (guardM (decide (x.length + y.length ≤ most)) h).bind _ = _
  by_cases q : x.length + y.length ≤ most
  · rw [if_pos q, decide_eq_true q]; rfl
  · rw [if_neg q, decide_eq_false q]; rfl
variable (T : Tabs)
@[simp] theorem cmp_lt (i j : Int) : cmpM T .lt (.int i) (.int j) h = .ok (decide (i < j)) h := (rfl)
@[simp] theorem cmp_gt (i j : Int) : cmpM T .gt (.int i) (.int j) h = .ok (decide (j < i)) h := (rfl)
@[simp] theorem cmp_le (i j : Int) : cmpM T .le (.int i) (.int j) h = .ok (decide (i ≤ j)) h := (rfl)
@[simp] theorem cmp_ge (i j : Int) : cmpM T .ge (.int i) (.int j) h = .ok (decide (j ≤ i)) h := (rfl)
@[simp] theorem cmp_isin (x y : Val) : cmpM T .isin x y h = memV T x y h := (rfl)
@[simp] theorem cmp_notin (x y : Val) : cmpM T .notin x y h = (memV T x y h).bind fun b h => .ok (!b) h := (rfl)
@[simp] theorem cmp_eq (x y : Val) : cmpM T .eq x y h = eqM x y h := (rfl)
@[simp] theorem cmp_ne (x y : Val) : cmpM T .ne x y h = (eqM x y h).bind fun b h => .ok (!b) h := (rfl)
theorem deep_data {h : EHeap} {v : Val} (hd : isData 20 v = true) : deep h 20 v = some v := by
  cases v <;> first | (simp [isData] at hd; done) | simp [deep, hd]
theorem eq_data {h : EHeap} {x y : Val} (hx : isData 20 x = true) (hy : isData 20 y = true) : eqM x y h = .ok (eqv x y) h := by
  unfold eqM
  rw [deep_data hx, deep_data hy]
@[simp] theorem eq_int (i j : Int) : eqM (.int i) (.int j) h = .ok (decide (i = j)) h := by
  rw [eq_data rfl rfl]; simp only [eqv]; congr 1
@[simp] theorem eq_str (i j : Str) : eqM (.str i) (.str j) h = .ok (decide (i = j)) h := by
  rw [eq_data rfl rfl]; simp only [eqv]; rfl
@[simp] theorem ord_le (i j : Int) : ordI .le (.int i) (.int j) h = .ok (decide (i ≤ j)) h := (rfl)
@[simp] theorem ord_lt (i j : Int) : ordI .lt (.int i) (.int j) h = .ok (decide (i < j)) h := (rfl)
end
end Ev

end
section
set_option Elab.async false
set_option linter.all false
/-! EvL: loops by invariants; small facts. -/
namespace Ev
open PySem (Str)
section
variable {bind : Val → EEnv → Option EEnv} {body : EEnv → M Ctl}
theorem for_inv (I : List Val → EEnv → EHeap → Prop) (step : ∀ v r env h, I (v :: r) env h → ∃ e1 e2 h2, bind v env = some e1 ∧ (body e1 h = .ok (.nx e2) h2 ∨ body e1 h = .ok (.ct e2) h2) ∧ I r e2 h2) :
    ∀ (vs : List Val) (env : EEnv) (h : EHeap), I vs env h → ∃ e h', forLoop none bind body vs env h = .ok (.nx e) h' ∧ I [] e h'
  | [], env, h, hi => ⟨env, h, rfl, hi⟩
  | v :: vs, env, h, hi => by
    obtain ⟨e1, e2, h2, a, b, c⟩ := step v vs env h hi
    obtain ⟨e, h', d, f⟩ := for_inv I step vs e2 h2 c
    refine ⟨e, h', ?_, f⟩
    simp only [forLoop, M.bind_at, chk_none, R.bind_ok, a, ofOpt_some]
    rcases b with b | b <;> (rw [b]; exact d)
/-- with a way out: it returns w at the first item where it does -/
theorem for_cons {lk : Lk} {v : Val} {vs : List Val} {env : EEnv} {h : EHeap} : forLoop lk bind body (v :: vs) env h = (chk lk h).bind fun _ h => (ofOpt (bind v env) h).bind fun e h => (body e h).bind fun r h => match r with
    | .nx e => forLoop lk bind body vs e h
    | .ct e => forLoop lk bind body vs e h
    | .bk e => .ok (.nx e) h
    | .rt v => .ok (.rt v) h := by
  show R.bind (chk lk h) _ = R.bind (chk lk h) _
  cases chk lk h with
  | ok _ h1 =>
    show R.bind (ofOpt (bind v env) h1) _ = R.bind (ofOpt (bind v env) h1) _
    cases ofOpt (bind v env) h1 with
    | ok e h2 =>
      show R.bind (body e h2) _ = R.bind (body e h2) _
      cases body e h2 with
      | ok r h3 => cases r <;> rfl
      | _ => rfl
    | _ => rfl
  | _ => rfl
theorem for_nil {lk : Lk} {env : EEnv} {h : EHeap} : forLoop lk bind body [] env h = (chk lk h).bind fun _ h => .ok (.nx env) h := rfl
end
section
variable {bind : Val → Option EEnv} {cond : EEnv → M Bool} {elt : EEnv → M Val}
theorem comp_filter (p : Val → Bool) (f : Val → Val) (h : EHeap) : ∀ (vs : List Val), (∀ v ∈ vs, ∃ e, bind v = some e ∧ cond e h = .ok (p v) h ∧ (p v = true → elt e h = .ok (f v) h)) → compLoop none bind cond elt vs h = .ok ((vs.filter p).map f) h
  | [], _ => rfl
  | v :: vs, hv => by
    obtain ⟨e, h1, h2, h3⟩ := hv v (by simp)
    have ih := comp_filter p f h vs fun w hw => hv w (by simp [hw])
    simp only [compLoop, M.bind_at, chk_none, R.bind_ok, h1, ofOpt_some, h2]
    cases hp : p v with
    | true => simp [h3 hp, ih, hp]
    | false => simp [ih, hp]
theorem comp_map (f : Val → Val) (h : EHeap) (vs : List Val) (hv : ∀ v ∈ vs, ∃ e, bind v = some e ∧ cond e h = .ok true h ∧ elt e h = .ok (f v) h) : compLoop none bind cond elt vs h = .ok (vs.map f) h := by
  have := comp_filter (bind := bind) (cond := cond) (elt := elt) (fun _ => true) f h vs fun v hm => by
    obtain ⟨e, a, b, c⟩ := hv v hm
    exact ⟨e, a, b, fun _ => c⟩
  have e : vs.filter (fun _ => true) = vs := List.filter_eq_self.mpr (by simp)
  rw [e] at this
  exact this
theorem quiet_of {α : Type} {x : M α} {h h' : EHeap} {a : α} (e : x h = .ok a h') : quiet x h = .ok a h' := quiet_ok e
end
section
variable {cond : EEnv → M Bool} {body : EEnv → M Ctl}
theorem while_go {n : Nat} {env : EEnv} {h : EHeap} : whileLoop cond body (n + 1) env h = (cond env h).bind fun b h => if b = true then (body env h).bind fun r h => match r with
    | .nx e => whileLoop cond body n e h
    | .ct e => whileLoop cond body n e h
    | .bk e => .ok (.nx e) h
    | .rt v => .ok (.rt v) h else .ok (.nx env) h := by
  show R.bind (cond env h) _ = R.bind (cond env h) _
  cases cond env h with
  | ok b h1 =>
    cases b with
    | false => rfl
    | true =>
      show R.bind (body env h1) _ = R.bind (body env h1) _
      cases body env h1 with
      | ok r h3 => cases r <;> rfl
      | _ => rfl
  | _ => rfl
end
/-! ### tables -/
theorem tab_mem {T : Tabs} {g : String} {z : Str} {b : Bool} {h : EHeap} (hb : ((T g).map fun t => (t.lookup z).isSome) = some b) : memV T (.str z) (.gl g) h = .ok b h := by
  cases q : T g with
  | none => rw [q] at hb; cases hb
  | some t =>
    rw [q] at hb
    cases hb
    simp [memV, q]
theorem tab_idx {T : Tabs} {g : String} {z : Str} {v : Val} {h : EHeap} (hb : ((T g).bind fun t => t.lookup z) = some v) : idxV T (.gl g) (.str z) h = .ok v h := by
  simp [idxV, hb]
/-! ### texts of letters -/
def letters : Str := lit "abcdefghijklmnopqrstuvwxyz"
theorem letter_in : ∀ k < 26, inStr ⟨#[97 + k]⟩ letters = true := by decide +kernel
structure Word (s : Str) : Prop where
  lo : 1 ≤ s.length
  hi : s.length ≤ 8
  ok : ∀ c ∈ s.cps.toList, 97 ≤ c ∧ c < 123
theorem Word.in_ {s : Str} (w : Word s) {c : Nat} (hc : c ∈ s.cps.toList) : inStr ⟨#[c]⟩ letters = true := by
  obtain ⟨h1, h2⟩ := w.ok c hc
  have := letter_in (c - 97) (by omega)
  rwa [show 97 + (c - 97) = c by omega] at this
end Ev

end
section
set_option Elab.async false
set_option linter.all false
/-! EvT: operators at values of a known form. -/
namespace Ev
open PySem (Str)
section
variable (h : EHeap) (T : Tabs)
@[simp] theorem isi_non (t : String) : isiV .non [t] h = .ok (t == "NoneType") h := by simp [isiV, isKind, List.mapM_cons]
@[simp] theorem isi_bl (b : Bool) (t : String) : isiV (.bl b) [t] h = .ok (t == "bool" || t == "int") h := by simp [isiV, isKind, List.mapM_cons]
@[simp] theorem isi_int (i : Int) (t : String) : isiV (.int i) [t] h = .ok (t == "int") h := by simp [isiV, isKind, List.mapM_cons]
@[simp] theorem isi_str (s : Str) (t : String) : isiV (.str s) [t] h = .ok (t == "str") h := by simp [isiV, isKind, List.mapM_cons]
@[simp] theorem isi_tup (l : List Val) (t : String) : isiV (.tup l) [t] h = .ok (t == "tuple") h := by simp [isiV, isKind, List.mapM_cons]
@[simp] theorem len_str (s : Str) : primV .len [.str s] h = .ok (.int s.length) h := (rfl)
@[simp] theorem len_tup (l : List Val) : primV .len [.tup l] h = .ok (.int l.length) h := (rfl)
@[simp] theorem len_lst (l : List Val) : primV .len [.lst l] h = .ok (.int l.length) h := (rfl)
@[simp] theorem len_ktp (l : List Val) : primV .len [.ktp l] h = .ok (.int l.length) h := (rfl)
@[simp] theorem len_scr (l : List Val) : primV .len [.scr l] h = .ok (.int l.length) h := (rfl)
theorem len_ref {n : Nat} {l : List Val} {h : EHeap} (q : h[n]? = some (.list l)) : primV .len [.ref n] h = .ok (.int l.length) h := by simp [primV, q]
@[simp] theorem abs_int (i : Int) : primV .abs [.int i] h = .ok (.int (if i < 0 then -i else i)) h := (rfl)
@[simp] theorem min_int (i j : Int) : primV .min2 [.int i, .int j] h = .ok (.int (if j < i then j else i)) h := (rfl)
@[simp] theorem max_int (i j : Int) : primV .max2 [.int i, .int j] h = .ok (.int (if j > i then j else i)) h := (rfl)
@[simp] theorem int_int (i : Int) : primV .int1 [.int i] h = .ok (.int i) h := (rfl)
@[simp] theorem int_bl (i : Bool) : primV .int1 [.bl i] h = .ok (.int (if i then 1 else 0)) h := (rfl)
@[simp] theorem tuple_lst (l : List Val) : primV .tuple1 [.lst l] h = .ok (.tup l) h := (rfl)
@[simp] theorem tuple_tup (l : List Val) : primV .tuple1 [.tup l] h = .ok (.tup l) h := (rfl)
theorem tuple_ref {n : Nat} {l : List Val} {h : EHeap} (q : h[n]? = some (.list l)) : primV .tuple1 [.ref n] h = .ok (.tup l) h := by simp [primV, seqOf, q]
@[simp] theorem ix_lit0 (n : Nat) : ixOf (n + 1) 0 = some 0 := by simp [ixOf]
theorem ix_nat {n k : Nat} (hk : k < n) : ixOf n (k : Int) = some k := by simp [ixOf, hk]
theorem ix_int {n : Nat} {i : Int} (h0 : 0 ≤ i) (hk : i < n) : ixOf n i = some i.toNat := by simp [ixOf, h0, hk]
theorem idx_tup {l : List Val} {i : Int} {v : Val} (h0 : 0 ≤ i) (hv : l[i.toNat]? = some v) : idxV T (.tup l) (.int i) h = .ok v h := by
  have : i.toNat < l.length := (List.getElem?_eq_some_iff.mp hv).1
  simp [idxV, ix_int h0 (show i < l.length by omega), hv]
theorem idx_lst {l : List Val} {i : Int} {v : Val} (h0 : 0 ≤ i) (hv : l[i.toNat]? = some v) : idxV T (.lst l) (.int i) h = .ok v h := by
  have : i.toNat < l.length := (List.getElem?_eq_some_iff.mp hv).1
  simp [idxV, ix_int h0 (show i < l.length by omega), hv]
theorem idx_scr {l : List Val} {i : Int} {v : Val} (h0 : 0 ≤ i) (hv : l[i.toNat]? = some v) : idxV T (.scr l) (.int i) h = .ok v h := by
  have : i.toNat < l.length := (List.getElem?_eq_some_iff.mp hv).1
  simp [idxV, ix_int h0 (show i < l.length by omega), hv]
theorem idx_ref {n : Nat} {l : List Val} {h : EHeap} {i : Int} {v : Val} (q : h[n]? = some (.list l)) (h0 : 0 ≤ i) (hv : l[i.toNat]? = some v) : idxV T (.ref n) (.int i) h = .ok v h := by
  have : i.toNat < l.length := (List.getElem?_eq_some_iff.mp hv).1
  simp [idxV, q, ix_int h0 (show i < l.length by omega), hv]
@[simp] theorem idx_t0 (a : Val) (l : List Val) : idxV T (.tup (a :: l)) (.int 0) h = .ok a h := idx_tup h T (by decide) rfl
@[simp] theorem idx_t1 (a b : Val) (l : List Val) : idxV T (.tup (a :: b :: l)) (.int 1) h = .ok b h := idx_tup h T (by decide) rfl
@[simp] theorem idx_t2 (a b c : Val) (l : List Val) : idxV T (.tup (a :: b :: c :: l)) (.int 2) h = .ok c h := idx_tup h T (by decide) rfl
@[simp] theorem idx_t3 (a b c d : Val) (l : List Val) : idxV T (.tup (a :: b :: c :: d :: l)) (.int 3) h = .ok d h := idx_tup h T (by decide) rfl
@[simp] theorem idx_t4 (a b c d e : Val) (l : List Val) : idxV T (.tup (a :: b :: c :: d :: e :: l)) (.int 4) h = .ok e h := idx_tup h T (by decide) rfl
@[simp] theorem idx_t5 (a b c d e f : Val) (l : List Val) : idxV T (.tup (a :: b :: c :: d :: e :: f :: l)) (.int 5) h = .ok f h := idx_tup h T (by decide) rfl
@[simp] theorem idx_l0 (a : Val) (l : List Val) : idxV T (.lst (a :: l)) (.int 0) h = .ok a h := idx_lst h T (by decide) rfl
@[simp] theorem idx_l1 (a b : Val) (l : List Val) : idxV T (.lst (a :: b :: l)) (.int 1) h = .ok b h := idx_lst h T (by decide) rfl
@[simp] theorem slice_tup (l : List Val) (lo hi : Option Int) : sliceV (.tup l) lo hi h = .ok (.tup (cutL l lo hi)) h := (rfl)
@[simp] theorem slice_str (s : Str) (lo hi : Option Int) : sliceV (.str s) lo hi h = .ok (.str ⟨(cutL s.cps.toList lo hi).toArray⟩) h := (rfl)
theorem cut_from {α : Type} (l : List α) (k : Nat) : cutL l (some (k : Int)) none = l.drop k := by
  unfold cutL cutIx
  simp only
  rw [if_neg (by omega)]
  rw [List.take_of_length_le (by simp)]
  simp only [Int.toNat_natCast]
  rcases Nat.le_total k l.length with q | q
  · rw [Nat.min_eq_left q]
  · rw [Nat.min_eq_right q, List.drop_of_length_le (Nat.le_refl _), List.drop_of_length_le q]
@[simp] theorem cut_1 {α : Type} (l : List α) : cutL l (some 1) none = l.drop 1 := cut_from l 1
@[simp] theorem cut_2 {α : Type} (l : List α) : cutL l (some 2) none = l.drop 2 := cut_from l 2
@[simp] theorem truth_bl' (b : Bool) : truthV h (.bl b) = some b := (rfl)
@[simp] theorem itVal_tup (l : List Val) : itVal (.tup l) h = .ok (l, none) h := (rfl)
@[simp] theorem itVal_ktp (l : List Val) : itVal (.ktp l) h = .ok (l, none) h := (rfl)
@[simp] theorem itVal_lst (l : List Val) : itVal (.lst l) h = .ok (l, none) h := (rfl)
@[simp] theorem itVal_scr (l : List Val) : itVal (.scr l) h = .ok (l, none) h := (rfl)
@[simp] theorem itVal_str (s : Str) : itVal (.str s) h = .ok (chars s, none) h := (rfl)
@[simp] theorem itZp_tt (l m : List Val) : itZp (.tup l) (.tup m) h = .ok (l.zipWith (fun x y => .tup [x, y]) m, none) h := (rfl)
@[simp] theorem itZp_tk (l m : List Val) : itZp (.tup l) (.ktp m) h = .ok (l.zipWith (fun x y => .tup [x, y]) m, none) h := (rfl)
@[simp] theorem optInt_int (i : Int) : optInt (.int i) = some (some i) := (rfl)
@[simp] theorem bind_1 (i : Nat) (v : Val) (env : EEnv) : bindTg (.nm i) v env = some (env.set i (some v)) := (rfl)
@[simp] theorem bind_2 (i j : Nat) (a b : Val) (env : EEnv) : bindTg (.cons (.nm i) (.cons (.nm j) .nil)) (.tup [a, b]) env = some ((env.set i (some a)).set j (some b)) := (rfl)
@[simp] theorem bind_2k (i j : Nat) (a b : Val) (env : EEnv) : bindTg (.cons (.nm i) (.cons (.nm j) .nil)) (.ktp [a, b]) env = some ((env.set i (some a)).set j (some b)) := (rfl)
@[simp] theorem bind_3 (i j k : Nat) (a b c : Val) (env : EEnv) : bindTg (.cons (.nm i) (.cons (.nm j) (.cons (.nm k) .nil))) (.tup [a, b, c]) env = some (((env.set i (some a)).set j (some b)).set k (some c)) := (rfl)
theorem mem_str (x y : Str) : memV T (.str x) (.str y) h = .ok (inStr x y) h := rfl
theorem mem_ktp {x : Val} {l : List Val} (hx : flatE x = true) (hl : l.all flatE = true) : memV T x (.ktp l) h = .ok (l.any fun z => eqv z x) h := by
  unfold memV; simp only; rw [if_pos ⟨hx, hl⟩]
theorem mem_dict {n : Nat} {t : Bool} {l : List (Val × Val)} {x : Val} {h : EHeap} (q : h[n]? = some (.dict t l)) (hk : isKey t x = true) : memV T x (.ref n) h = .ok ((dictGet l x).isSome) h := by
  simp [memV, q, hk]
theorem mem_list {n : Nat} {l : List Val} {x : Val} {h : EHeap} (q : h[n]? = some (.list l)) (hx : isData 20 x = true) (hl : areData 20 l = true) : memV T x (.ref n) h = .ok (l.any fun z => eqv z x) h := by
  simp [memV, q, deep_data hx, hl]
theorem idx_dict {n : Nat} {t : Bool} {l : List (Val × Val)} {x v : Val} {h : EHeap} (q : h[n]? = some (.dict t l)) (hk : isKey t x = true) (hv : dictGet l x = some v) : idxV T (.ref n) x h = .ok v h := by
  simp [idxV, q, hk, hv]
theorem get_dict {n : Nat} {t : Bool} {l : List (Val × Val)} {x : Val} {h : EHeap} (q : h[n]? = some (.dict t l)) (hk : isKey t x = true) : pmV .get1 (.ref n) [x] h = .ok ((dictGet l x).getD .non) h := by
  simp [pmV, q, hk]
theorem recv_dict {n : Nat} {t : Bool} {l : List (Val × Val)} {h : EHeap} (q : h[n]? = some (.dict t l)) : recv .get1 (.ref n) h = .ok () h := by
  simp [recv, recvOk, q]
theorem recv_app {n : Nat} {l : List Val} {h : EHeap} (q : h[n]? = some (.list l)) : recv .append (.ref n) h = .ok () h := by
  simp [recv, recvOk, q]
theorem app_list {n : Nat} {l : List Val} {v : Val} {h : EHeap} (q : h[n]? = some (.list l)) (hl : l.length < most) : pmV .append (.ref n) [v] h = .ok .non (h.set n (.list (l ++ [v]))) := by
  simp [pmV, q, hl]
theorem set_dict {n : Nat} {t : Bool} {l : List (Val × Val)} {x v : Val} {h : EHeap} (q : h[n]? = some (.dict t l)) (hk : isKey t x = true) (hl : l.length < most) : setIdx (.ref n) x v h = .ok () (h.set n (.dict t (dictPut l x v))) := by
  simp [setIdx, q, hk, hl]
end
end Ev

end
section
set_option Elab.async false
set_option linter.all false
/-! EvU: sorting of a few; dicts. -/
namespace Ev
open PySem (Str)
theorem sort2 {α : Type} (le : α → α → Bool) (a b : α) : [a, b].mergeSort le = if le a b then [a, b] else [b, a] := by
  simp [List.mergeSort, List.MergeSort.Internal.splitInTwo, List.merge]
theorem sort3 {α : Type} (le : α → α → Bool) (a b c : α) : [a, b, c].mergeSort le = (if le a b then (if le a c then a :: (if le b c then [b, c] else [c, b]) else [c, a, b]) else (if le b c then b :: (if le a c then [a, c] else [c, a]) else [c, b, a])) := by
  simp [List.mergeSort, List.MergeSort.Internal.splitInTwo, List.merge]
  cases h1 : le a b <;> cases h2 : le a c <;> cases h3 : le b c <;> simp [h1, h2, h3]
@[simp] theorem cmpL_me : ∀ l : List Nat, cmpL l l = .eq
  | [] => rfl
  | x :: xs => by simp [cmpL, cmpL_me xs]
@[simp] theorem cmp_came_free : cmpL (lit "came").cps.toList (lit "free").cps.toList = .lt := by decide +kernel
@[simp] theorem cmp_free_came : cmpL (lit "free").cps.toList (lit "came").cps.toList = .gt := by decide +kernel
@[simp] theorem cmp_away_road : cmpL (lit "away").cps.toList (lit "road").cps.toList = .lt := by decide +kernel
@[simp] theorem cmp_road_away : cmpL (lit "road").cps.toList (lit "away").cps.toList = .gt := by decide +kernel
@[simp] theorem cmp_free_held : cmpL (lit "free").cps.toList (lit "held").cps.toList = .lt := by decide +kernel
@[simp] theorem cmp_held_free : cmpL (lit "held").cps.toList (lit "free").cps.toList = .gt := by decide +kernel
/-! ### dicts -/
theorem get_nil (k : Val) : dictGet [] k = none := rfl
theorem get_cons (a v : Val) (D : List (Val × Val)) (k : Val) : dictGet ((a, v) :: D) k = if a = k then some v else dictGet D k := by
  unfold dictGet
  by_cases q : a = k <;> simp [List.find?, q]
theorem get_any : ∀ (D : List (Val × Val)) (k : Val), D.any (fun p => decide (p.1 = k)) = (dictGet D k).isSome
  | [], _ => rfl
  | (a, v) :: D, k => by
    rw [get_cons, List.any_cons, get_any D k]
    by_cases q : a = k <;> simp [q]
theorem get_app (D : List (Val × Val)) (a v k : Val) : dictGet (D ++ [(a, v)]) k = match dictGet D k with
    | some w => some w
    | none => if a = k then some v else none := by
  induction D with
  | nil => simp [get_cons, get_nil]
  | cons p D ih =>
    obtain ⟨b, w⟩ := p
    rw [List.cons_append, get_cons, get_cons, ih]
    by_cases q : b = k <;> simp [q]
theorem get_map (a v : Val) : ∀ (D : List (Val × Val)) (k : Val), dictGet (D.map fun p => if p.1 = a then (p.1, v) else p) k = if k = a then (dictGet D k).map (fun _ => v) else dictGet D k
  | [], k => by simp [get_nil]
  | (b, w) :: D, k => by
    rw [List.map_cons]
    by_cases q : b = a
    · subst q
      simp only [if_true]
      rw [get_cons, get_map b v D k, get_cons]
      by_cases r : b = k
      · subst r; simp
      · have : ¬ k = b := fun e => r e.symm
        simp [r, this]
    · simp only [if_neg q]
      rw [get_cons, get_map a v D k, get_cons]
      by_cases r : b = k
      · subst r; simp [q]
      · simp [r]
theorem get_put (D : List (Val × Val)) (a v k : Val) : dictGet (dictPut D a v) k = if k = a then some v else dictGet D k := by
  unfold dictPut
  rw [get_any]
  by_cases q : (dictGet D a).isSome = true
  · rw [if_pos q, get_map]
    by_cases r : k = a
    · subst r
      obtain ⟨w, hw⟩ := Option.isSome_iff_exists.mp q
      simp [hw]
    · simp [r]
  · rw [if_neg q, get_app]
    by_cases r : k = a
    · subst r
      have : dictGet D k = none := by simpa using q
      simp [this]
    · have : ¬ a = k := fun e => r e.symm
      simp only [if_neg this, if_neg r]
      cases dictGet D k <;> rfl
theorem put_length (D : List (Val × Val)) (a v : Val) : (dictPut D a v).length ≤ D.length + 1 := by
  unfold dictPut
  split <;> simp
/-- a dict whose parts hold no reference -/
def DOk (D : List (Val × Val)) : Prop := ∀ p ∈ D, noRef p.1 = true ∧ noRef p.2 = true
theorem DOk.put {D : List (Val × Val)} (d : DOk D) {a v : Val} (ha : noRef a = true) (hv : noRef v = true) : DOk (dictPut D a v) := by
  intro p hp
  unfold dictPut at hp
  split at hp
  · obtain ⟨q, hq, rfl⟩ := List.mem_map.mp hp
    split
    · exact ⟨(d q hq).1, hv⟩
    · exact d q hq
  · rcases List.mem_append.mp hp with h | h
    · exact d p h
    · simp only [List.mem_singleton] at h
      subst h
      exact ⟨ha, hv⟩
theorem get_mem {D : List (Val × Val)} {k v : Val} (h : dictGet D k = some v) : (k, v) ∈ D := by
  unfold dictGet at h
  cases q : D.find? (fun p => decide (p.1 = k)) with
  | none => rw [q] at h; cases h
  | some p =>
    rw [q] at h
    have h1 := List.mem_of_find?_eq_some q
    have h2 := List.find?_some q
    simp only [Option.map_some, Option.some.injEq] at h
    have h2 : p.1 = k := by simpa using h2
    obtain ⟨a, b⟩ := p
    subst h h2
    exact h1
theorem DOk.get {D : List (Val × Val)} (d : DOk D) {k v : Val} (h : dictGet D k = some v) : noRef v = true := (d _ (get_mem h)).2
theorem DOk.obj {D : List (Val × Val)} (d : DOk D) (t : Bool) : (EObj.dict t D).noRef = true := by
  unfold EObj.noRef
  rw [List.all_eq_true]
  intro p hp
  simp [d p hp]
theorem DOk.nil : DOk [] := fun _ h => by cases h
end Ev

end
section
set_option Elab.async false
set_option linter.all false
/-! EvO: order: sorting to a row that ascends. -/
namespace Ev
open PySem (Str)
theorem cmpL_sw : ∀ a b : List Nat, cmpL b a = (cmpL a b).swap
  | [], [] => rfl
  | [], _ :: _ => rfl
  | _ :: _, [] => rfl
  | x :: xs, y :: ys => by
    unfold cmpL
    by_cases h1 : x < y
    · have h2 : ¬ y < x := by omega
      simp [h1, h2]
    · by_cases h2 : y < x
      · simp [h1, h2]
      · simp [h1, h2, cmpL_sw xs ys]
theorem cmpL_same : ∀ {a b : List Nat}, cmpL a b = .eq → a = b
  | [], [], _ => rfl
  | [], _ :: _, h => by cases h
  | _ :: _, [], h => by cases h
  | x :: xs, y :: ys, h => by
    unfold cmpL at h
    split at h
    · cases h
    · split at h
      · cases h
      · have : x = y := by omega
        rw [this, cmpL_same h]
theorem cmpL_trans : ∀ {a b c : List Nat}, cmpL a b = .lt → cmpL b c = .lt → cmpL a c = .lt
  | [], [], _, h, _ => by cases h
  | [], _ :: _, [], _, h => by cases h
  | [], _ :: _, _ :: _, _, _ => rfl
  | _ :: _, [], _, h, _ => by cases h
  | _ :: _, _ :: _, [], _, h => by cases h
  | x :: xs, y :: ys, z :: zs, h1, h2 => by
    unfold cmpL at h1 h2 ⊢
    split at h1
    · split at h2
      · rw [if_pos (by omega)]
      · split at h2
        · cases h2
        · rw [if_pos (by omega)]
    · split at h1
      · cases h1
      · split at h2
        · rw [if_pos (by omega)]
        · split at h2
          · cases h2
          · rw [if_neg (by omega), if_neg (by omega)]
            exact cmpL_trans h1 h2
mutual
theorem cmpV_sw : ∀ a b : Val, cmpV b a = (cmpV a b).map Ordering.swap
  | .int i, b => by
    cases b <;> first | rfl | skip
    rename_i j
    simp only [cmpV, Option.map_some, Option.some.injEq]
    by_cases h1 : i < j
    · have h2 : ¬ j < i := by omega
      simp [h1, h2]
    · by_cases h2 : j < i <;> simp [h1, h2]
  | .str s, b => by
    cases b <;> first | rfl | skip
    simp only [cmpV, Option.map_some, Option.some.injEq]
    exact cmpL_sw _ _
  | .tup xs, b => by
    cases b <;> first | rfl | skip
    simp only [cmpV]
    exact cmpVs_sw _ _
  | .non, b => by cases b <;> rfl
  | .bl x, b => by
    cases b <;> first | rfl | skip
    rename_i y
    cases x <;> cases y <;> rfl
  | .lst l, b => by cases b <;> rfl
  | .ktp l, b => by cases b <;> rfl
  | .scr l, b => by cases b <;> rfl
  | .ref l, b => by cases b <;> rfl
  | .gl l, b => by cases b <;> rfl
theorem cmpVs_sw : ∀ a b : List Val, cmpVs b a = (cmpVs a b).map Ordering.swap
  | [], b => by cases b <;> rfl
  | x :: xs, b => by
    cases b with
    | nil => rfl
    | cons y ys =>
      simp only [cmpVs]
      rw [cmpV_sw x y]
      cases h : cmpV x y with
      | none => rfl
      | some o =>
        cases o with
        | eq => simp only [Option.map_some, Ordering.swap]; exact cmpVs_sw xs ys
        | _ => rfl
end
theorem cmpV_gt {a b : Val} (h : cmpV a b = some .lt) : cmpV b a = some .gt := by rw [cmpV_sw a b, h]; rfl
/-- sorting to a row that is known -/
theorem msort_of {α : Type} [DecidableEq α] (le : α → α → Bool) {l m : List α} (p : l.Perm m) (s : m.Pairwise fun x y => le x y = true ∧ le y x = false) (r : ∀ x ∈ m, le x x = true) : l.mergeSort le = m := by
  have nd : m.Nodup := by
    refine List.Pairwise.imp (fun {a b} h e => ?_) s
    subst e
    rw [h.1] at h
    exact absurd h.2 (by simp)
  have key : ∀ a ∈ m, ∀ b ∈ m, le a b = decide (m.idxOf a ≤ m.idxOf b) := by
    intro a ha b hb
    have ia := List.idxOf_lt_length_of_mem ha
    have ib := List.idxOf_lt_length_of_mem hb
    have ga : m[m.idxOf a] = a := List.getElem_idxOf ia
    have gb : m[m.idxOf b] = b := List.getElem_idxOf ib
    rcases Nat.lt_trichotomy (m.idxOf a) (m.idxOf b) with h | h | h
    · have := (List.pairwise_iff_getElem.mp s) _ _ ia ib h
      rw [ga, gb] at this
      rw [this.1, decide_eq_true (by omega)]
    · have e : a = b := by rw [← ga, ← gb]; simp only [h]
      subst e
      rw [r a ha]; simp
    · have := (List.pairwise_iff_getElem.mp s) _ _ ib ia h
      rw [ga, gb] at this
      rw [this.2, decide_eq_false (by omega)]
  have h1 := List.map_mergeSort (r := le) (s := fun (a b : Nat) => decide (a ≤ b)) (f := m.idxOf) (l := l) fun a ha b hb => key a (p.mem_iff.mp ha) b (p.mem_iff.mp hb)
  have h2 : (l.map m.idxOf).mergeSort (fun a b => decide (a ≤ b)) = m.map m.idxOf := by
    refine List.Perm.eq_of_pairwise (le := fun a b => a ≤ b) (fun a b _ _ x y => Nat.le_antisymm x y) ?_ ?_ ((List.mergeSort_perm _ _).trans (p.map _))
    · have := List.pairwise_mergeSort (le := fun (a b : Nat) => decide (a ≤ b)) (by intro a b c; simp; omega) (by intro a b; simp; omega) (l.map m.idxOf)
      exact this.imp (fun h => by simpa using h)
    · rw [List.pairwise_map]
      refine List.Pairwise.imp_of_mem (fun {a b} ha hb h => ?_) s
      have := key a ha b hb
      rw [h.1] at this
      simpa using this.symm
  rw [h2] at h1
  have hm : ∀ x ∈ l.mergeSort le, x ∈ m := fun x hx => p.mem_iff.mp ((List.mergeSort_perm l le).mem_iff.mp hx)
  have inj : ∀ (u v : List α), (∀ x ∈ u, x ∈ m) → (∀ x ∈ v, x ∈ m) → u.map m.idxOf = v.map m.idxOf → u = v := by
    intro u
    induction u with
    | nil => intro v _ _ h; cases v with
      | nil => rfl
      | cons _ _ => simp at h
    | cons x xs ih =>
      intro v hu hv h
      cases v with
      | nil => simp at h
      | cons y ys =>
        simp only [List.map_cons, List.cons.injEq] at h
        have ix := List.idxOf_lt_length_of_mem (hu x (by simp))
        have iy := List.idxOf_lt_length_of_mem (hv y (by simp))
        have e : x = y := by
          have gx : m[m.idxOf x] = x := List.getElem_idxOf ix
          have gy : m[m.idxOf y] = y := List.getElem_idxOf iy
          rw [← gx, ← gy]; simp only [h.1]
        rw [e, ih ys (fun z hz => hu z (by simp [hz])) (fun z hz => hv z (by simp [hz])) h.2]
  exact inj _ _ hm (fun _ h => h) h1
abbrev Lt (x y : Val) : Prop := cmpV x y = some .lt
theorem sort_of {l m : List Val} (p : l.Perm m) (s : m.Pairwise Lt) : sortV l = m := by
  refine msort_of leV p (s.imp fun {a b} h => ?_) fun x _ => ?_
  · constructor
    · unfold leV; rw [h]; rfl
    · unfold leV; rw [cmpV_gt h]; rfl
  · unfold leV
    have := cmpV_sw x x
    cases h : cmpV x x with
    | none => rfl
    | some o =>
      rw [h] at this
      cases o with
      | gt => cases this
      | _ => rfl
/-- may be sorted: compared with itself each is alike -/
theorem comparable_of {l m : List Val} (p : l.Perm m) (s : m.Pairwise Lt) (r : ∀ x ∈ m, (cmpV x x).isSome = true) : comparable l = true := by
  have key : ∀ m : List Val, m.Pairwise Lt → (∀ x ∈ m, (cmpV x x).isSome = true) → ∀ a ∈ m, ∀ b ∈ m, (cmpV a b).isSome = true := by
    intro m
    induction m with
    | nil => intro _ _ a ha; cases ha
    | cons x xs ih =>
      intro s r a ha b hb
      rw [List.pairwise_cons] at s
      rcases List.mem_cons.mp ha with ea | ha2
      · rcases List.mem_cons.mp hb with eb | hb2
        · rw [ea, eb]; exact r _ (by simp)
        · rw [ea, s.1 b hb2]; rfl
      · rcases List.mem_cons.mp hb with eb | hb2
        · rw [eb, cmpV_gt (s.1 a ha2)]; rfl
        · exact ih s.2 (fun z hz => r z (by simp [hz])) a ha2 b hb2
  simp only [comparable, List.all_eq_true]
  exact fun a ha b hb => key m s r a (p.mem_iff.mp ha) b (p.mem_iff.mp hb)
theorem areData_iff (d : Nat) : ∀ l : List Val, areData d l = true ↔ ∀ x ∈ l, isData d x = true
  | [] => by simp [areData]
  | x :: xs => by simp [areData, areData_iff d xs]
theorem areData_perm {d : Nat} {l m : List Val} (p : l.Perm m) (h : areData d l = true) : areData d m = true :=
  (areData_iff d m).mpr fun x hx => (areData_iff d l).mp h x (p.mem_iff.mpr hx)
/-- tuples that begin with tuples -/
theorem sortable_tt {l m : List Val} (p : l.Perm m) (s : m.Pairwise Lt) (r : ∀ x ∈ m, (cmpV x x).isSome = true ∧ tagF x = 3) (d : areData 20 m = true) : sortable l = true := by
  have h1 := comparable_of p s fun x hx => (r x hx).1
  have h2 : l.all (fun x => tagF x == 3) = true := by
    rw [List.all_eq_true]
    intro x hx
    simp [(r x (p.mem_iff.mp hx)).2]
  unfold sortable
  rw [h1, h2, areData_perm p.symm d]
  simp
/-- tuples that begin with ints -/
theorem sortable_ti {l m : List Val} (p : l.Perm m) (s : m.Pairwise Lt) (r : ∀ x ∈ m, (cmpV x x).isSome = true ∧ tagF x = 1) (d : areData 20 m = true) : sortable l = true := by
  have h1 := comparable_of p s fun x hx => (r x hx).1
  have h2 : l.all (fun x => tagF x == 1) = true := by
    rw [List.all_eq_true]
    intro x hx
    simp [(r x (p.mem_iff.mp hx)).2]
  unfold sortable
  rw [h1, h2, areData_perm p.symm d]
  simp
/-- writes by their keys -/
theorem sortK_of {l m : List Val} (p : l.Perm m) (s : m.Pairwise fun x y => ∃ a b, head0 x = some a ∧ head0 y = some b ∧ Lt a b) (hd : ∀ x ∈ m, ∃ a, head0 x = some a) : l.mergeSort leK = m := by
  refine msort_of leK p (s.imp ?_) ?_
  · rintro x y ⟨a, b, ha, hb, h⟩
    constructor
    · unfold leK leV; rw [ha, hb]; simp only; rw [h]; rfl
    · unfold leK leV; rw [ha, hb]; simp only; rw [cmpV_gt h]; rfl
  · intro x hx
    obtain ⟨a, ha⟩ := hd x hx
    unfold leK leV
    rw [ha]
    simp only
    have := cmpV_sw a a
    cases h : cmpV a a with
    | none => rfl
    | some o =>
      rw [h] at this
      cases o with
      | gt => cases this
      | _ => rfl
theorem lt_head {a b : Val} (h : Lt a b) (r s : List Val) : Lt (.tup (a :: r)) (.tup (b :: s)) := by
  show cmpV _ _ = _
  simp only [cmpV, cmpVs]
  rw [h]
theorem lt_tail {a : Val} (ha : cmpV a a = some .eq) {r s : List Val} (h : cmpVs r s = some .lt) : Lt (.tup (a :: r)) (.tup (a :: s)) := by
  show cmpV _ _ = _
  simp only [cmpV, cmpVs]
  rw [ha]
  exact h
@[simp] theorem cmpV_int (i : Int) : cmpV (.int i) (.int i) = some .eq := by simp [cmpV]
@[simp] theorem cmpV_str (s : Str) : cmpV (.str s) (.str s) = some .eq := by simp [cmpV]
mutual
/-- data that is like itself -/
def alike : Val → Bool
  | .int _ => true
  | .str _ => true
  | .non => true
  | .bl _ => true
  | .tup l => alikes l
  | _ => false
def alikes : List Val → Bool
  | [] => true
  | x :: xs => alike x && alikes xs
end
mutual
theorem alike_eq : ∀ v : Val, alike v = true → cmpV v v = some .eq
  | .int i, _ => cmpV_int i
  | .str s, _ => cmpV_str s
  | .non, _ => rfl
  | .bl b, _ => by simp [cmpV]
  | .tup l, h => by simp only [cmpV]; exact alikes_eq l h
  | .lst _, h => by cases h
  | .ktp _, h => by cases h
  | .scr _, h => by cases h
  | .ref _, h => by cases h
  | .gl _, h => by cases h
theorem alikes_eq : ∀ l : List Val, alikes l = true → cmpVs l l = some .eq
  | [], _ => rfl
  | x :: xs, h => by
    simp only [alikes, Bool.and_eq_true] at h
    simp only [cmpVs]
    rw [alike_eq x h.1]
    exact alikes_eq xs h.2
end
theorem alike_some {v : Val} (h : alike v = true) : (cmpV v v).isSome = true := by rw [alike_eq v h]; rfl
mutual
theorem eqv_self : ∀ (v : Val) (d : Nat), isData d v = true → eqv v v = true
  | .non, _, _ => rfl
  | .bl b, _, _ => by simp [eqv]
  | .int i, _, _ => by simp [eqv]
  | .str i, _, _ => by simp [eqv]
  | .tup l, d, h => by
    cases d with
    | zero => simp [isData] at h
    | succ d => simp only [eqv]; exact eqvs_self l d (by simpa [isData] using h)
  | .lst l, d, h => by
    cases d with
    | zero => simp [isData] at h
    | succ d => simp only [eqv]; exact eqvs_self l d (by simpa [isData] using h)
  | .ktp _, _, h => by simp [isData] at h
  | .scr _, _, h => by simp [isData] at h
  | .ref _, _, h => by simp [isData] at h
  | .gl _, _, h => by simp [isData] at h
theorem eqvs_self : ∀ (l : List Val) (d : Nat), areData d l = true → eqvs l l = true
  | [], _, _ => rfl
  | x :: xs, d, h => by
    simp only [areData, Bool.and_eq_true] at h
    simp only [eqvs, eqv_self x d h.1, eqvs_self xs d h.2, Bool.and_self]
end
/-! ### a sequence, as a tuple or a list -/
inductive SeqV (h : EHeap) : Val → List Val → Prop where
  | tup (l : List Val) : SeqV h (.tup l) l
  | lst (l : List Val) : SeqV h (.lst l) l
  | ref {n : Nat} {l : List Val} (q : h[n]? = some (.list l)) : SeqV h (.ref n) l
section
variable {h : EHeap} {v : Val} {l : List Val} (T : Tabs)
theorem SeqV.app (s : SeqV h v l) (t : EHeap) : SeqV (h ++ t) v l := by
  cases s with
  | tup => exact .tup l
  | lst => exact .lst l
  | ref q =>
    refine .ref ?_
    rw [List.getElem?_append_left (List.getElem?_eq_some_iff.mp q).1, q]
theorem SeqV.len (s : SeqV h v l) : primV .len [v] h = .ok (.int l.length) h := by
  cases s with
  | tup => rfl
  | lst => rfl
  | ref q => exact len_ref q
theorem SeqV.idx (s : SeqV h v l) {i : Int} {x : Val} (h0 : 0 ≤ i) (hx : l[i.toNat]? = some x) : idxV T v (.int i) h = .ok x h := by
  cases s with
  | tup => exact idx_tup h T h0 hx
  | lst => exact idx_lst h T h0 hx
  | ref q => exact idx_ref T q h0 hx
theorem SeqV.cut (s : SeqV h v l) (lo hi : Option Int) : ∃ w, sliceV v lo hi h = .ok w h ∧ SeqV h w (cutL l lo hi) ∧ itVal w h = .ok (cutL l lo hi, none) h := by
  cases s with
  | tup => exact ⟨_, rfl, .tup _, rfl⟩
  | lst => exact ⟨_, rfl, .lst _, rfl⟩
  | ref q => exact ⟨.lst (cutL l lo hi), by simp [sliceV, listOf, q], .lst _, rfl⟩
end
end Ev

end
section
set_option Elab.async false
set_option linter.all false
/-! EvD: dict displays, dict comprehensions, as equations. -/
namespace Ev
open PySem (Str)
section
variable (c : ECtx) (env : EEnv) (h : EHeap)
theorem evE_dict (ks vs : Ex) : evE c (.dict false ks vs) env h = (match constsOf ks with
    | some [] => .ok (.ref h.length) (h ++ [.dict false []])
    | some (k :: r) => (evL c vs env (h ++ [.dict false []])).bind fun b h2 => if (k :: r).length = b.length then (emptyD (.ref h.length) h2).bind fun _ h4 => fillD (.ref h.length) ((k :: r).zip b) h4 else .no
    | none => .no) := by
  have e : evE c (.dict false ks vs) env h = (bE (match constsOf ks with
            | some [] => alloc (.dict false [])
            | some (k :: r) => do
              let d ← alloc (.dict false [])
              let b ← (ev c vs env).l
              guardM (!false && decide ((k :: r).length = b.length))
              emptyD d
              fillD d ((k :: r).zip b)
            | none => stuck)).e h := rfl
  rw [e]
  cases constsOf ks with
  | none => rfl
  | some l =>
    cases l with
    | nil => rfl
    | cons k r =>
      show (R.bind (evL c vs env (h ++ [.dict false []])) _) = (R.bind (evL c vs env (h ++ [.dict false []])) _)
      cases evL c vs env (h ++ [.dict false []]) with
      | ok b h2 =>
        show R.bind (guardM (!false && decide ((k :: r).length = b.length)) h2) _ = (if (k :: r).length = b.length then (emptyD (.ref h.length) h2).bind fun _ h4 => fillD (.ref h.length) ((k :: r).zip b) h4 else .no)
        by_cases q : (k :: r).length = b.length
        · rw [if_pos q, decide_eq_true q]; rfl
        · rw [if_neg q, decide_eq_false q]; rfl
      | _ => rfl
@[simp] theorem consts_nil : constsOf .nil = some [] := (rfl)
@[simp] theorem consts_cons (v : Val) (es : Ex) : constsOf (.cons (.cst v) es) = (constsOf es).map (v :: ·) := (rfl)
theorem empty_end : emptyD (.ref h.length) (h ++ [.dict false []]) = .ok () (h ++ [.dict false []]) := by
  simp [emptyD]
theorem fill_end (l : List (Val × Val)) : fillD (.ref h.length) l (h ++ [.dict false []]) = .ok (.ref h.length) (h ++ [.dict false (l.foldl (fun e p => dictPut e p.1 p.2) [])]) := by
  simp [fillD]
theorem evE_dcomp (t : Bool) (k v : Ex) (tg : Tg) (it cd : Ex) (own : List Nat) : evE c (.dcomp t k v tg it cd own) env h = (evI c it env h).bind fun p h1 => (quiet (dcLoop p.2 (fun v => bindTg tg v (wipeE env own)) (fun e => if isNop cd = true then pure true else evT c cd e) (fun e => evE c k e) (fun e => evE c v e) (.ref h1.length) p.1) (h1 ++ [.dict t []])).bind fun _ h2 => .ok (.ref h1.length) h2 := rfl
end
@[simp] theorem idx_m2 (T : Tabs) (a b : Val) (h : EHeap) : idxV T (.tup [a, b]) (.int (-1)) h = .ok b h := (rfl)
@[simp] theorem idx_m3 (T : Tabs) (a b c : Val) (h : EHeap) : idxV T (.tup [a, b, c]) (.int (-1)) h = .ok c h := (rfl)
/-- the items of a dict comprehension, one by one -/
theorem dc_all {t : Bool} {bind : Val → Option EEnv} {cond : EEnv → M Bool} {key val : EEnv → M Val} {h : EHeap} : ∀ (vs : List Val) (xs : List (Val × Val)) (l : List (Val × Val)), l.length + vs.length ≤ 16777216 → vs.length = xs.length → (∀ i (hi : i < vs.length) (hx : i < xs.length) (o : EObj), ∃ e, bind vs[i] = some e ∧ cond e (h ++ [o]) = .ok true (h ++ [o]) ∧ key e (h ++ [o]) = .ok xs[i].1 (h ++ [o]) ∧ val e (h ++ [o]) = .ok xs[i].2 (h ++ [o])) → (∀ p ∈ xs, isKey t p.1 = true) →
    dcLoop none bind cond key val (.ref h.length) vs (h ++ [.dict t l]) = .ok () (h ++ [.dict t (xs.foldl (fun e p => dictPut e p.1 p.2) l)])
  | [], xs, l, _, hl, _, _ => by
    have : xs = [] := by cases xs with
      | nil => rfl
      | cons _ _ => simp at hl
    subst this
    rfl
  | v :: vs, xs, l, sz, hl, H, hk => by
    cases xs with
    | nil => simp at hl
    | cons x xs =>
      obtain ⟨e, h1, h2, h3, h4⟩ := H 0 (by simp) (by simp) (.dict t l)
      have hput : putD (.ref h.length) x.1 x.2 (h ++ [.dict t l]) = .ok () (h ++ [.dict t (dictPut l x.1 x.2)]) := by
        have := hk x (by simp)
        have hs : l.length < most := by simp at sz; unfold most; omega
        simp [putD, this, hs]
      have pl : (dictPut l x.1 x.2).length ≤ l.length + 1 := put_length l x.1 x.2
      have ih := dc_all (t := t) (bind := bind) (cond := cond) (key := key) (val := val) (h := h) vs xs (dictPut l x.1 x.2) (by simp at sz; omega) (by simpa using hl) (fun i hi hx o => by
        have := H (i+1) (by simpa using hi) (by simpa using hx) o
        simpa using this) (fun p hp => hk p (by simp [hp]))
      simp only [List.getElem_cons_zero] at h1 h3 h4
      simp [dcLoop, h1, h2, h3, h4, hput, ih]
end Ev

end
section
set_option Elab.async false
set_option linter.all false
set_option maxRecDepth 20000
namespace S15
open Ev Sim P15
open PySem (Str)
abbrev G : Cfg := plan.cfg
def cx (n : Nat) : ECtx := G.ctx (run G n)
@[simp] theorem cx_call (n : Nat) : (cx n).call = run G n := rfl
theorem run_is_between (n : Nat) (args : List Val) (h : EHeap) : run G (n+1) "is_between" args h = runDef (cx n) ⟨3, 3, (.mut []), d_is_between⟩ args h := rfl
theorem run_is_word (n : Nat) (args : List Val) (h : EHeap) : run G (n+1) "is_word" args h = runDef (cx n) ⟨1, 2, (.mut []), d_is_word⟩ args h := rfl
theorem run_is_id (n : Nat) (args : List Val) (h : EHeap) : run G (n+1) "is_id" args h = runDef (cx n) ⟨1, 1, (.mut []), d_is_id⟩ args h := rfl
theorem run_fits (n : Nat) (args : List Val) (h : EHeap) : run G (n+1) "fits" args h = runDef (cx n) ⟨2, 4, (.mut []), d_fits⟩ args h := rfl
theorem run_fit (n : Nat) (args : List Val) (h : EHeap) : run G (n+1) "fit" args h = runDef (cx n) ⟨2, 4, (.mut []), d_fit⟩ args h := rfl
theorem run_has_name (n : Nat) (args : List Val) (h : EHeap) : run G (n+1) "has_name" args h = runDef (cx n) ⟨2, 2, (.mut []), d_has_name⟩ args h := rfl
theorem run_is_key (n : Nat) (args : List Val) (h : EHeap) : run G (n+1) "is_key" args h = runDef (cx n) ⟨1, 1, (.mut []), d_is_key⟩ args h := rfl
theorem run_is_amount (n : Nat) (args : List Val) (h : EHeap) : run G (n+1) "is_amount" args h = runDef (cx n) ⟨1, 1, (.mut []), d_is_amount⟩ args h := rfl
theorem run_ask_of (n : Nat) (args : List Val) (h : EHeap) : run G (n+1) "ask_of" args h = runDef (cx n) ⟨2, 2, (.mut []), d_ask_of⟩ args h := rfl
theorem run_refusal (n : Nat) (args : List Val) (h : EHeap) : run G (n+1) "refusal" args h = runDef (cx n) ⟨1, 1, (.mut []), d_refusal⟩ args h := rfl
theorem run_end_of (n : Nat) (args : List Val) (h : EHeap) : run G (n+1) "end_of" args h = runDef (cx n) ⟨2, 6, (.mut []), d_end_of⟩ args h := rfl
theorem run_next_of (n : Nat) (args : List Val) (h : EHeap) : run G (n+1) "next_of" args h = runDef (cx n) ⟨3, 3, (.mut []), d_next_of⟩ args h := rfl
theorem run_order_key (n : Nat) (args : List Val) (h : EHeap) : run G (n+1) "order_key" args h = runDef (cx n) ⟨1, 1, (.mut []), d_order_key⟩ args h := rfl
theorem run_order_ask (n : Nat) (args : List Val) (h : EHeap) : run G (n+1) "order_ask" args h = runDef (cx n) ⟨1, 1, (.mut []), d_order_ask⟩ args h := rfl
theorem run_add (n : Nat) (args : List Val) (h : EHeap) : run G (n+1) "add" args h = runDef (cx n) ⟨1, 1, (.mut []), d_add⟩ args h := rfl
theorem run_purse_of (n : Nat) (args : List Val) (h : EHeap) : run G (n+1) "purse_of" args h = runDef (cx n) ⟨1, 1, (.mut []), d_purse_of⟩ args h := rfl
theorem run_price_step (n : Nat) (args : List Val) (h : EHeap) : run G (n+1) "price_step" args h = runDef (cx n) ⟨3, 4, (.mut []), d_price_step⟩ args h := rfl
theorem run_rate_step (n : Nat) (args : List Val) (h : EHeap) : run G (n+1) "rate_step" args h = runDef (cx n) ⟨3, 4, (.mut []), d_rate_step⟩ args h := rfl
theorem run_coupon_step (n : Nat) (args : List Val) (h : EHeap) : run G (n+1) "coupon_step" args h = runDef (cx n) ⟨3, 4, (.mut []), d_coupon_step⟩ args h := rfl
theorem run_stock_step (n : Nat) (args : List Val) (h : EHeap) : run G (n+1) "stock_step" args h = runDef (cx n) ⟨3, 8, (.mut []), d_stock_step⟩ args h := rfl
theorem run_move_step (n : Nat) (args : List Val) (h : EHeap) : run G (n+1) "move_step" args h = runDef (cx n) ⟨3, 10, (.mut []), d_move_step⟩ args h := rfl
theorem run_arrive_step (n : Nat) (args : List Val) (h : EHeap) : run G (n+1) "arrive_step" args h = runDef (cx n) ⟨3, 11, (.mut []), d_arrive_step⟩ args h := rfl
theorem run_count_step (n : Nat) (args : List Val) (h : EHeap) : run G (n+1) "count_step" args h = runDef (cx n) ⟨3, 7, (.mut []), d_count_step⟩ args h := rfl
theorem run_pay_step (n : Nat) (args : List Val) (h : EHeap) : run G (n+1) "pay_step" args h = runDef (cx n) ⟨3, 6, (.mut []), d_pay_step⟩ args h := rfl
theorem run_draw_step (n : Nat) (args : List Val) (h : EHeap) : run G (n+1) "draw_step" args h = runDef (cx n) ⟨3, 7, (.mut []), d_draw_step⟩ args h := rfl
theorem run_purse_step (n : Nat) (args : List Val) (h : EHeap) : run G (n+1) "purse_step" args h = runDef (cx n) ⟨3, 3, (.mut []), d_purse_step⟩ args h := rfl
theorem run_look_step (n : Nat) (args : List Val) (h : EHeap) : run G (n+1) "look_step" args h = runDef (cx n) ⟨3, 3, (.mut []), d_look_step⟩ args h := rfl
theorem run_may_do (n : Nat) (args : List Val) (h : EHeap) : run G (n+1) "may_do" args h = runDef (cx n) ⟨2, 2, (.mut []), d_may_do⟩ args h := rfl
theorem run_next_step (n : Nat) (args : List Val) (h : EHeap) : run G (n+1) "next_step" args h = runDef (cx n) ⟨3, 4, (.mut []), d_next_step⟩ args h := rfl
theorem run__law_numbers (n : Nat) (args : List Val) (h : EHeap) : run G (n+1) "_law_numbers" args h = runDef (cx n) ⟨3, 8, (.mut []), d__law_numbers⟩ args h := rfl
theorem run__law_same (n : Nat) (args : List Val) (h : EHeap) : run G (n+1) "_law_same" args h = runDef (cx n) ⟨2, 3, (.mut []), d__law_same⟩ args h := rfl
theorem run__law_item (n : Nat) (args : List Val) (h : EHeap) : run G (n+1) "_law_item" args h = runDef (cx n) ⟨2, 5, (.mut []), d__law_item⟩ args h := rfl
theorem run__law_items (n : Nat) (args : List Val) (h : EHeap) : run G (n+1) "_law_items" args h = runDef (cx n) ⟨3, 6, (.mut []), d__law_items⟩ args h := rfl
theorem run__law_coins (n : Nat) (args : List Val) (h : EHeap) : run G (n+1) "_law_coins" args h = runDef (cx n) ⟨2, 2, (.mut []), d__law_coins⟩ args h := rfl
theorem run__law_total (n : Nat) (args : List Val) (h : EHeap) : run G (n+1) "_law_total" args h = runDef (cx n) ⟨3, 4, (.mut []), d__law_total⟩ args h := rfl
theorem run__law_share (n : Nat) (args : List Val) (h : EHeap) : run G (n+1) "_law_share" args h = runDef (cx n) ⟨3, 3, (.mut []), d__law_share⟩ args h := rfl
theorem run__law_part_value (n : Nat) (args : List Val) (h : EHeap) : run G (n+1) "_law_part_value" args h = runDef (cx n) ⟨2, 4, (.mut []), d__law_part_value⟩ args h := rfl
theorem run__law_back_value (n : Nat) (args : List Val) (h : EHeap) : run G (n+1) "_law_back_value" args h = runDef (cx n) ⟨1, 3, (.mut []), d__law_back_value⟩ args h := rfl
theorem run__law_parts (n : Nat) (args : List Val) (h : EHeap) : run G (n+1) "_law_parts" args h = runDef (cx n) ⟨4, 13, (.mut []), d__law_parts⟩ args h := rfl
theorem run__law_record (n : Nat) (args : List Val) (h : EHeap) : run G (n+1) "_law_record" args h = runDef (cx n) ⟨2, 10, (.mut []), d__law_record⟩ args h := rfl
theorem run__law_lines (n : Nat) (args : List Val) (h : EHeap) : run G (n+1) "_law_lines" args h = runDef (cx n) ⟨3, 7, (.mut []), d__law_lines⟩ args h := rfl
theorem run__law_deed (n : Nat) (args : List Val) (h : EHeap) : run G (n+1) "_law_deed" args h = runDef (cx n) ⟨5, 13, (.mut []), d__law_deed⟩ args h := rfl
theorem run__law_customer (n : Nat) (args : List Val) (h : EHeap) : run G (n+1) "_law_customer" args h = runDef (cx n) ⟨4, 4, (.mut []), d__law_customer⟩ args h := rfl
theorem run__law_answer (n : Nat) (args : List Val) (h : EHeap) : run G (n+1) "_law_answer" args h = runDef (cx n) ⟨6, 12, (.mut []), d__law_answer⟩ args h := rfl
theorem run__law_refused (n : Nat) (args : List Val) (h : EHeap) : run G (n+1) "_law_refused" args h = runDef (cx n) ⟨1, 1, (.mut []), d__law_refused⟩ args h := rfl
theorem run__law_due_office (n : Nat) (args : List Val) (h : EHeap) : run G (n+1) "_law_due_office" args h = runDef (cx n) ⟨2, 4, (.mut []), d__law_due_office⟩ args h := rfl
theorem run__law_due_goods (n : Nat) (args : List Val) (h : EHeap) : run G (n+1) "_law_due_goods" args h = runDef (cx n) ⟨3, 8, (.mut []), d__law_due_goods⟩ args h := rfl
theorem run__law_due_arrive (n : Nat) (args : List Val) (h : EHeap) : run G (n+1) "_law_due_arrive" args h = runDef (cx n) ⟨2, 6, (.mut []), d__law_due_arrive⟩ args h := rfl
theorem run__law_due_count (n : Nat) (args : List Val) (h : EHeap) : run G (n+1) "_law_due_count" args h = runDef (cx n) ⟨2, 4, (.mut []), d__law_due_count⟩ args h := rfl
theorem run__law_due_coins (n : Nat) (args : List Val) (h : EHeap) : run G (n+1) "_law_due_coins" args h = runDef (cx n) ⟨3, 5, (.mut []), d__law_due_coins⟩ args h := rfl
theorem run__law_due_look (n : Nat) (args : List Val) (h : EHeap) : run G (n+1) "_law_due_look" args h = runDef (cx n) ⟨3, 3, (.mut []), d__law_due_look⟩ args h := rfl
theorem run__law_due_plain (n : Nat) (args : List Val) (h : EHeap) : run G (n+1) "_law_due_plain" args h = runDef (cx n) ⟨3, 4, (.mut []), d__law_due_plain⟩ args h := rfl
theorem run_law (n : Nat) (args : List Val) (h : EHeap) : run G (n+1) "law" args h = runDef (cx n) ⟨1, 16, .raw, d_law⟩ args h := rfl
@[simp] theorem gl_OFFICE (n : Nat) : (cx n).glob "OFFICE" = some (.int 1) := (rfl)
@[simp] theorem gl_STORES (n : Nat) : (cx n).glob "STORES" = some (.ktp [.int 2, .int 3, .int 4]) := (rfl)
@[simp] theorem gl_BANK (n : Nat) : (cx n).glob "BANK" = some (.int 5) := (rfl)
@[simp] theorem gl_CLERK (n : Nat) : (cx n).glob "CLERK" = some (.int 0) := (rfl)
@[simp] theorem gl_LETTERS (n : Nat) : (cx n).glob "LETTERS" = some (.str (lit "abcdefghijklmnopqrstuvwxyz")) := (rfl)
@[simp] theorem gl_MOST_LETTERS (n : Nat) : (cx n).glob "MOST_LETTERS" = some (.int 8) := (rfl)
@[simp] theorem gl_RANGES (n : Nat) : (cx n).glob "RANGES" = some (.gl "RANGES") := (rfl)
@[simp] theorem gl_KEY_PARTS (n : Nat) : (cx n).glob "KEY_PARTS" = some (.gl "KEY_PARTS") := (rfl)
@[simp] theorem gl_OFFICE_NAMES (n : Nat) : (cx n).glob "OFFICE_NAMES" = some (.ktp [.str (lit "price"), .str (lit "rate"), .str (lit "coupon"), .str (lit "order"), .str (lit "road"), .str (lit "away")]) := (rfl)
@[simp] theorem gl_STORE_NAMES (n : Nat) : (cx n).glob "STORE_NAMES" = some (.ktp [.str (lit "came"), .str (lit "free"), .str (lit "held"), .str (lit "out")]) := (rfl)
@[simp] theorem gl_RECORD_NAMES (n : Nat) : (cx n).glob "RECORD_NAMES" = some (.ktp [.str (lit "price"), .str (lit "rate"), .str (lit "coupon"), .str (lit "order"), .str (lit "road")]) := (rfl)
@[simp] theorem gl_CLERKS_DEEDS (n : Nat) : (cx n).glob "CLERKS_DEEDS" = some (.ktp [.str (lit "price"), .str (lit "rate"), .str (lit "coupon"), .str (lit "stock"), .str (lit "move"), .str (lit "arrive"), .str (lit "send"), .str (lit "count")]) := (rfl)
@[simp] theorem gl_OWN_ORDERS (n : Nat) : (cx n).glob "OWN_ORDERS" = some (.ktp [.str (lit "cancel"), .str (lit "back"), .str (lit "look")]) := (rfl)
@[simp] theorem gl_STEPS (n : Nat) : (cx n).glob "STEPS" = some (.gl "STEPS") := (rfl)
/-! ### the pieces: between, words, ids, fits -/
theorem is_between_int (n : Nat) (i lo hi : Int) (h : EHeap) : run G (n+1) "is_between" [.int i, .int lo, .int hi] h = .ok (.bl (decide (lo ≤ i) && decide (i ≤ hi))) h := by
  rw [run_is_between]
  by_cases q : lo ≤ i <;> simp [runDef, d_is_between, initEnv, fin_pure, fzV, noRef, q]
theorem is_word_word (n : Nat) (w : Str) (hw : Word w) (h : EHeap) : run G (n+1) "is_word" [.str w] h = .ok (.bl true) h := by
  rw [run_is_word]
  have h1 : (1 : Int) ≤ w.length := by have := hw.lo; omega
  have h2 : (w.length : Int) ≤ 8 := by have := hw.hi; omega
  have hf : ∃ e h', forLoop none (bindTg (.nm 1)) (fun e => evS (cx n) (.ite (.cmp .notin (.var 1) (.glob "LETTERS")) (.ret (.cst (.bl false))) .skip) e) (chars w) [some (.str w), none] h = .ok (.nx e) h' ∧ h' = h := by
    refine for_inv (fun vs env h' => (∀ v ∈ vs, ∃ c ∈ w.cps.toList, v = .str ⟨#[c]⟩) ∧ (∃ z, env = [some (.str w), z]) ∧ h' = h) ?_ _ _ _ ⟨fun v hv => ?_, ⟨_, rfl⟩, rfl⟩ |>.imp fun e ⟨h', a, b⟩ => ⟨h', a, b.2.2⟩
    · rintro v r env h' ⟨a, ⟨z, rfl⟩, rfl⟩
      obtain ⟨c, hc, rfl⟩ := a v (by simp)
      have hi : inStr ⟨#[c]⟩ (lit "abcdefghijklmnopqrstuvwxyz") = true := hw.in_ hc
      refine ⟨_, [some (.str w), some (.str ⟨#[c]⟩)], h', rfl, .inl ?_, fun v hv => a v (by simp [hv]), ⟨_, rfl⟩, rfl⟩
      simp [memV, hi]
    · obtain ⟨c, hc, rfl⟩ := List.mem_map.mp hv
      exact ⟨c, hc, rfl⟩
  obtain ⟨e, h', a, rfl⟩ := hf
  simp [runDef, d_is_word, initEnv, fin_pure, fzV, noRef, h1, h2, a]
theorem fits_range (n : Nat) (k : String) (lo hi i : Int) (h : EHeap) (hk : ((cx (n+1)).tabs "RANGES").bind (fun t => t.lookup (lit k)) = some (.ktp [.int lo, .int hi])) : run G (n+2) "fits" [.int i, .str (lit k)] h = .ok (.bl (decide (lo ≤ i) && decide (i ≤ hi))) h := by
  have h1 : memV (cx (n+1)).tabs (.str (lit k)) (.gl "RANGES") h = .ok true h := tab_mem (by obtain ⟨t, ht, hq⟩ := Option.bind_eq_some_iff.mp hk; rw [ht]; simp [hq])
  have h2 : idxV (cx (n+1)).tabs (.gl "RANGES") (.str (lit k)) h = .ok (.ktp [.int lo, .int hi]) h := tab_idx hk
  rw [run_fits]
  simp [runDef, d_fits, initEnv, fin_pure, fzV, noRef, h1, h2, is_between_int]
theorem fits_word (n : Nat) (w : Str) (hw : Word w) (h : EHeap) : run G (n+2) "fits" [.str w, .str (lit "word")] h = .ok (.bl true) h := by
  have h1 : memV (cx (n+1)).tabs (.str (lit "word")) (.gl "RANGES") h = .ok false h := tab_mem (by kernel_rfl)
  rw [run_fits]
  simp [runDef, d_fits, initEnv, fin_pure, fzV, noRef, h1, is_word_word n w hw]
theorem fits_id (n : Nat) (v : Val) (h : EHeap) : run G (n+1) "is_id" [v] h = .ok (.bl true) h → run G (n+2) "fits" [v, .str (lit "id")] h = .ok (.bl true) h := fun hv => by
  have h1 : memV (cx (n+1)).tabs (.str (lit "id")) (.gl "RANGES") h = .ok false h := tab_mem (by kernel_rfl)
  rw [run_fits]
  simp [runDef, d_fits, initEnv, fin_pure, fzV, noRef, h1, hv]
/-- fit, where each value fits -/
theorem fit_loop (n : Nat) (a b : Option Val) (h : EHeap) : ∀ (vs : List Val), (∀ v ∈ vs, ∃ x k, v = .tup [x, k] ∧ run G n "fits" [x, k] h = .ok (.bl true) h) → ∀ c d, ∃ e, forLoop none (bindTg (.cons (.nm 2) (.cons (.nm 3) .nil))) (fun e => evS (cx n) (.ite (.not_ (.call "fits" (.cons (.var 2) (.cons (.var 3) .nil)))) (.ret (.cst (.bl false))) .skip) e) vs [a, b, c, d] h = .ok (.nx e) h
  | [], _, c, d => ⟨_, rfl⟩
  | v :: vs, hv, c, d => by
    obtain ⟨x, k, rfl, hf⟩ := hv v (by simp)
    obtain ⟨e, he⟩ := fit_loop n a b h vs (fun w hw => hv w (by simp [hw])) (some x) (some k)
    refine ⟨e, ?_⟩
    rw [for_cons]
    simp [hf, he]
theorem fit_ok (n : Nat) (vs ks : List Val) (ky : Val) (hky : ky = .tup ks ∨ ky = .ktp ks) (h : EHeap) (hl : vs.length = ks.length) (hf : ∀ v ∈ vs.zipWith (fun x y => Val.tup [x, y]) ks, ∃ x k, v = .tup [x, k] ∧ run G n "fits" [x, k] h = .ok (.bl true) h) : run G (n+1) "fit" [.tup vs, ky] h = .ok (.bl true) h := by
  rw [run_fit]
  rcases hky with rfl | rfl
  · obtain ⟨e, he⟩ := fit_loop n (some (.tup vs)) (some (.tup ks)) h _ hf none none
    simp [runDef, d_fit, initEnv, fin_pure, fzV, noRef, he, hl]
  · obtain ⟨e, he⟩ := fit_loop n (some (.tup vs)) (some (.ktp ks)) h _ hf none none
    simp [runDef, d_fit, initEnv, fin_pure, fzV, noRef, he, hl]
theorem r_customer (n : Nat) : ((cx (n+1)).tabs "RANGES").bind (fun t => t.lookup (lit "customer")) = some (.ktp [.int 0, .int 9]) := by kernel_rfl
theorem r_number (n : Nat) : ((cx (n+1)).tabs "RANGES").bind (fun t => t.lookup (lit "number")) = some (.ktp [.int 1, .int 999]) := by kernel_rfl
theorem r_store (n : Nat) : ((cx (n+1)).tabs "RANGES").bind (fun t => t.lookup (lit "store")) = some (.ktp [.int 2, .int 4]) := by kernel_rfl
theorem r_count (n : Nat) : ((cx (n+1)).tabs "RANGES").bind (fun t => t.lookup (lit "count")) = some (.ktp [.int 1, .int 999]) := by kernel_rfl
theorem fits_customer (n : Nat) (i : Int) (hi : 0 ≤ i ∧ i ≤ 9) (h : EHeap) : run G (n+2) "fits" [.int i, .str (lit "customer")] h = .ok (.bl true) h := by
  rw [fits_range n "customer" 0 9 i h (r_customer n)]; simp [hi]
theorem fits_number (n : Nat) (i : Int) (hi : 1 ≤ i ∧ i ≤ 999) (h : EHeap) : run G (n+2) "fits" [.int i, .str (lit "number")] h = .ok (.bl true) h := by
  rw [fits_range n "number" 1 999 i h (r_number n)]; simp [hi]
theorem fits_store (n : Nat) (i : Int) (hi : 2 ≤ i ∧ i ≤ 4) (h : EHeap) : run G (n+2) "fits" [.int i, .str (lit "store")] h = .ok (.bl true) h := by
  rw [fits_range n "store" 2 4 i h (r_store n)]; simp [hi]
theorem fits_count (n : Nat) (i : Int) (hi : 1 ≤ i ∧ i ≤ 999) (h : EHeap) : run G (n+2) "fits" [.int i, .str (lit "count")] h = .ok (.bl true) h := by
  rw [fits_range n "count" 1 999 i h (r_count n)]; simp [hi]
/-- (customer, number) -/
def idV (c k : Int) : Val := .tup [.int c, .int k]
theorem is_id_ok (n : Nat) (c k : Int) (hc : 0 ≤ c ∧ c ≤ 9) (hk : 1 ≤ k ∧ k ≤ 999) (h : EHeap) : run G (n+4) "is_id" [idV c k] h = .ok (.bl true) h := by
  rw [run_is_id]
  have hf := fit_ok (n+2) [.int c, .int k] [.str (lit "customer"), .str (lit "number")] (.tup [.str (lit "customer"), .str (lit "number")]) (.inl rfl) h rfl (by
    intro v hv
    simp only [List.zipWith, List.mem_cons, List.not_mem_nil, or_false] at hv
    rcases hv with rfl | rfl
    · exact ⟨_, _, rfl, fits_customer _ _ hc _⟩
    · exact ⟨_, _, rfl, fits_number _ _ hk _⟩)
  simp [runDef, d_is_id, idV, initEnv, fin_pure, fzV, noRef, hf]
def St (s : Int) : Prop := 2 ≤ s ∧ s ≤ 4
/-- keys: a house, a name, parts -/
theorem names_any (k : String) : ∀ l : List String, (l.map fun s => Val.str (lit s)).any (fun z => eqv z (.str (lit k))) = decide (k ∈ l)
  | [] => rfl
  | s :: r => by
    have e : (lit s == lit k) = decide (k = s) := by
      rw [Bool.eq_iff_iff]
      simp only [beq_iff_eq, decide_eq_true_eq, lit_eq]
      exact ⟨Eq.symm, Eq.symm⟩
    simp only [List.map_cons, List.any_cons, names_any k r, eqv, e, List.mem_cons, Bool.decide_or]
theorem names_mem (n : Nat) (k : String) (l : List String) (h : EHeap) : memV (cx n).tabs (.str (lit k)) (.ktp (l.map fun s => .str (lit s))) h = .ok (decide (k ∈ l)) h := by
  rw [mem_ktp h _ rfl (by simp [flatE]), names_any]
theorem has_name_office (n : Nat) (k : String) (hk : k ∈ ["price", "rate", "coupon", "order", "road", "away"]) (h : EHeap) : run G (n+1) "has_name" [.int 1, .str (lit k)] h = .ok (.bl true) h := by
  have h1 := names_mem n k ["price", "rate", "coupon", "order", "road", "away"] h
  rw [decide_eq_true hk] at h1
  simp only [List.map] at h1
  rw [run_has_name]
  simp [runDef, d_has_name, initEnv, fin_pure, fzV, noRef, h1]
theorem has_name_store (n : Nat) (s : Int) (hs : St s) (k : String) (hk : k ∈ ["came", "free", "held", "out"]) (h : EHeap) : run G (n+1) "has_name" [.int s, .str (lit k)] h = .ok (.bl true) h := by
  have h1 := names_mem n k ["price", "rate", "coupon", "order", "road", "away"] h
  have hk' : k ∉ ["price", "rate", "coupon", "order", "road", "away"] := by
    simp only [List.mem_cons, List.not_mem_nil, or_false] at hk
    rcases hk with rfl | rfl | rfl | rfl <;> decide
  rw [decide_eq_false hk'] at h1
  have h2 := names_mem n k ["came", "free", "held", "out"] h
  rw [decide_eq_true hk] at h2
  simp only [List.map] at h1 h2
  have h3 : memV (cx n).tabs (.int s) (.ktp [.int 2, .int 3, .int 4]) h = .ok true h := by
    rw [mem_ktp h _ rfl (by simp [flatE])]
    simp only [List.any, eqv]
    have : s = 2 ∨ s = 3 ∨ s = 4 := by unfold St at hs; omega
    rcases this with rfl | rfl | rfl <;> rfl
  rw [run_has_name]
  simp [runDef, d_has_name, initEnv, fin_pure, fzV, noRef, h1, h2, h3]
theorem is_key_ok (n : Nat) (s : Int) (k : String) (ks vs : List Val) (h : EHeap) (hk : ((cx (n+1)).tabs "KEY_PARTS").bind (fun t => t.lookup (lit k)) = some (.ktp ks)) (hl : vs.length = ks.length) (hf : ∀ v ∈ vs.zipWith (fun x y => Val.tup [x, y]) ks, ∃ x k, v = .tup [x, k] ∧ run G n "fits" [x, k] h = .ok (.bl true) h) (hs : 1 ≤ s ∧ s ≤ 5) (hn : run G (n+1) "has_name" [.int s, .str (lit k)] h = .ok (.bl true) h) : run G (n+2) "is_key" [.tup (.int s :: .str (lit k) :: vs)] h = .ok (.bl true) h := by
  have h1 : memV (cx (n+1)).tabs (.str (lit k)) (.gl "KEY_PARTS") h = .ok true h := tab_mem (by obtain ⟨t, ht, hq⟩ := Option.bind_eq_some_iff.mp hk; rw [ht]; simp [hq])
  have h2 : idxV (cx (n+1)).tabs (.gl "KEY_PARTS") (.str (lit k)) h = .ok (.ktp ks) h := tab_idx hk
  have h3 := fit_ok n vs ks (.ktp ks) (.inr rfl) h hl hf
  have h4 : ((vs.length : Int) + 1 + 1 < 2) = False := by simp; omega
  have h5 := is_between_int n s 1 5 h
  rw [decide_eq_true hs.1, decide_eq_true hs.2] at h5
  rw [run_is_key]
  simp [runDef, d_is_key, initEnv, fin_pure, fzV, noRef, h1, h2, h3, h4, h5, hn]
end S15

end
section
set_option Elab.async false
set_option linter.all false
set_option maxRecDepth 20000
namespace S15
open Ev Sim P15
open PySem (Str)
/-! ### keys -/
@[simp] theorem cmp_price_rate : cmpL (lit "price").cps.toList (lit "rate").cps.toList = .lt := by decide +kernel
@[simp] theorem cmp_price_coupon : cmpL (lit "price").cps.toList (lit "coupon").cps.toList = .gt := by decide +kernel
@[simp] theorem cmp_price_order : cmpL (lit "price").cps.toList (lit "order").cps.toList = .gt := by decide +kernel
@[simp] theorem cmp_price_road : cmpL (lit "price").cps.toList (lit "road").cps.toList = .lt := by decide +kernel
@[simp] theorem cmp_price_away : cmpL (lit "price").cps.toList (lit "away").cps.toList = .gt := by decide +kernel
@[simp] theorem cmp_rate_price : cmpL (lit "rate").cps.toList (lit "price").cps.toList = .gt := by decide +kernel
@[simp] theorem cmp_rate_coupon : cmpL (lit "rate").cps.toList (lit "coupon").cps.toList = .gt := by decide +kernel
@[simp] theorem cmp_rate_order : cmpL (lit "rate").cps.toList (lit "order").cps.toList = .gt := by decide +kernel
@[simp] theorem cmp_rate_road : cmpL (lit "rate").cps.toList (lit "road").cps.toList = .lt := by decide +kernel
@[simp] theorem cmp_rate_away : cmpL (lit "rate").cps.toList (lit "away").cps.toList = .gt := by decide +kernel
@[simp] theorem cmp_coupon_price : cmpL (lit "coupon").cps.toList (lit "price").cps.toList = .lt := by decide +kernel
@[simp] theorem cmp_coupon_rate : cmpL (lit "coupon").cps.toList (lit "rate").cps.toList = .lt := by decide +kernel
@[simp] theorem cmp_coupon_order : cmpL (lit "coupon").cps.toList (lit "order").cps.toList = .lt := by decide +kernel
@[simp] theorem cmp_coupon_road : cmpL (lit "coupon").cps.toList (lit "road").cps.toList = .lt := by decide +kernel
@[simp] theorem cmp_coupon_away : cmpL (lit "coupon").cps.toList (lit "away").cps.toList = .gt := by decide +kernel
@[simp] theorem cmp_order_price : cmpL (lit "order").cps.toList (lit "price").cps.toList = .lt := by decide +kernel
@[simp] theorem cmp_order_rate : cmpL (lit "order").cps.toList (lit "rate").cps.toList = .lt := by decide +kernel
@[simp] theorem cmp_order_coupon : cmpL (lit "order").cps.toList (lit "coupon").cps.toList = .gt := by decide +kernel
@[simp] theorem cmp_order_road : cmpL (lit "order").cps.toList (lit "road").cps.toList = .lt := by decide +kernel
@[simp] theorem cmp_order_away : cmpL (lit "order").cps.toList (lit "away").cps.toList = .gt := by decide +kernel
@[simp] theorem cmp_road_price : cmpL (lit "road").cps.toList (lit "price").cps.toList = .gt := by decide +kernel
@[simp] theorem cmp_road_rate : cmpL (lit "road").cps.toList (lit "rate").cps.toList = .gt := by decide +kernel
@[simp] theorem cmp_road_coupon : cmpL (lit "road").cps.toList (lit "coupon").cps.toList = .gt := by decide +kernel
@[simp] theorem cmp_road_order : cmpL (lit "road").cps.toList (lit "order").cps.toList = .gt := by decide +kernel
@[simp] theorem cmp_away_price : cmpL (lit "away").cps.toList (lit "price").cps.toList = .lt := by decide +kernel
@[simp] theorem cmp_away_rate : cmpL (lit "away").cps.toList (lit "rate").cps.toList = .lt := by decide +kernel
@[simp] theorem cmp_away_coupon : cmpL (lit "away").cps.toList (lit "coupon").cps.toList = .lt := by decide +kernel
@[simp] theorem cmp_away_order : cmpL (lit "away").cps.toList (lit "order").cps.toList = .lt := by decide +kernel
@[simp] theorem cmp_came_held : cmpL (lit "came").cps.toList (lit "held").cps.toList = .lt := by decide +kernel
@[simp] theorem cmp_came_out : cmpL (lit "came").cps.toList (lit "out").cps.toList = .lt := by decide +kernel
@[simp] theorem cmp_free_out : cmpL (lit "free").cps.toList (lit "out").cps.toList = .lt := by decide +kernel
@[simp] theorem cmp_held_came : cmpL (lit "held").cps.toList (lit "came").cps.toList = .gt := by decide +kernel
@[simp] theorem cmp_held_out : cmpL (lit "held").cps.toList (lit "out").cps.toList = .lt := by decide +kernel
@[simp] theorem cmp_out_came : cmpL (lit "out").cps.toList (lit "came").cps.toList = .gt := by decide +kernel
@[simp] theorem cmp_out_free : cmpL (lit "out").cps.toList (lit "free").cps.toList = .gt := by decide +kernel
@[simp] theorem cmp_out_held : cmpL (lit "out").cps.toList (lit "held").cps.toList = .gt := by decide +kernel
@[simp] theorem cmp_purse_kept : cmpL (lit "purse").cps.toList (lit "kept").cps.toList = .gt := by decide +kernel
@[simp] theorem cmp_purse_till : cmpL (lit "purse").cps.toList (lit "till").cps.toList = .lt := by decide +kernel
@[simp] theorem cmp_purse_paid : cmpL (lit "purse").cps.toList (lit "paid").cps.toList = .gt := by decide +kernel
@[simp] theorem cmp_kept_purse : cmpL (lit "kept").cps.toList (lit "purse").cps.toList = .lt := by decide +kernel
@[simp] theorem cmp_kept_till : cmpL (lit "kept").cps.toList (lit "till").cps.toList = .lt := by decide +kernel
@[simp] theorem cmp_kept_paid : cmpL (lit "kept").cps.toList (lit "paid").cps.toList = .lt := by decide +kernel
@[simp] theorem cmp_till_purse : cmpL (lit "till").cps.toList (lit "purse").cps.toList = .gt := by decide +kernel
@[simp] theorem cmp_till_kept : cmpL (lit "till").cps.toList (lit "kept").cps.toList = .gt := by decide +kernel
@[simp] theorem cmp_till_paid : cmpL (lit "till").cps.toList (lit "paid").cps.toList = .gt := by decide +kernel
@[simp] theorem cmp_paid_purse : cmpL (lit "paid").cps.toList (lit "purse").cps.toList = .lt := by decide +kernel
@[simp] theorem cmp_paid_kept : cmpL (lit "paid").cps.toList (lit "kept").cps.toList = .gt := by decide +kernel
@[simp] theorem cmp_paid_till : cmpL (lit "paid").cps.toList (lit "till").cps.toList = .lt := by decide +kernel

def isKeyV : Val → Bool
  | .tup (.int _ :: r) => r.all isKey0
  | _ => false
theorem key0_facts {v : Val} (h : isKey0 v = true) : noRef v = true ∧ (∀ d, isData d v = true) ∧ alike v = true := by
  cases v <;> simp [isKey0] at h <;> exact ⟨rfl, fun _ => by cases ‹Nat› <;> rfl, rfl⟩
theorem keyV_facts {v : Val} (h : isKeyV v = true) : noRef v = true ∧ (∀ d, isData (d+1) v = true) ∧ alike v = true ∧ tagF v = 1 ∧ tagV v = 3 ∧ isKey true v = true := by
  cases v with
  | tup l =>
    cases l with
    | nil => cases h
    | cons a r =>
      cases a with
      | int i =>
        simp only [isKeyV, List.all_eq_true] at h
        refine ⟨?_, fun d => ?_, ?_, rfl, rfl, ?_⟩
        · simp only [noRef, noRefs, Bool.true_and]
          exact (noRefs_iff r).mpr fun x hx => (key0_facts (h x hx)).1
        · simp only [isData, areData, Bool.true_and]
          exact (areData_iff d r).mpr fun x hx => (key0_facts (h x hx)).2.1 d
        · simp only [alike, alikes, Bool.true_and]
          have : ∀ l : List Val, (∀ x ∈ l, isKey0 x = true) → alikes l = true := by
            intro l
            induction l with
            | nil => intro _; rfl
            | cons y ys ih => intro hl; simp only [alikes, (key0_facts (hl y (by simp))).2.2, ih fun z hz => hl z (by simp [hz]), Bool.and_self]
          exact this r h
        · show List.all (.int i :: r) isKey0 = true
          rw [List.all_cons, List.all_eq_true.mpr h]; rfl
      | _ => cases h
  | _ => cases h
/-- a key; a: an amount's -/
def AmAt (k : Val) (a : Bool) : Prop := isKeyV k = true ∧ ∀ n h, run G (n+5) "is_amount" [k] h = .ok (.bl a) h
theorem am_of (s : Int) (k : String) (ws : List Val) (a : Bool) (ha : decide (k ∈ ["price", "rate", "coupon", "order", "road"]) = !a) (hw : ws.all isKey0 = true) (hq : ∀ n h, run G (n+4) "is_key" [.tup (.int s :: .str (lit k) :: ws)] h = .ok (.bl true) h) : AmAt (.tup (.int s :: .str (lit k) :: ws)) a := by
  refine ⟨by show List.all (.str (lit k) :: ws) isKey0 = true; rw [List.all_cons, hw]; rfl, fun n h => ?_⟩
  have h1 := names_mem (n+4) k ["price", "rate", "coupon", "order", "road"] h
  rw [ha] at h1
  simp only [List.map] at h1
  have hq := hq n h
  rw [run_is_amount]
  simp [runDef, d_is_amount, initEnv, fin_pure, fzV, noRef, hq, h1]
theorem has_name_bank (n : Nat) (k : String) (hk : k ∈ ["purse", "kept", "till", "paid"]) (h : EHeap) : run G (n+1) "has_name" [.int 5, .str (lit k)] h = .ok (.bl true) h := by
  have h1 := names_mem n k ["price", "rate", "coupon", "order", "road", "away"] h
  have h2 := names_mem n k ["came", "free", "held", "out"] h
  have hk1 : k ∉ ["price", "rate", "coupon", "order", "road", "away"] := by
    simp only [List.mem_cons, List.not_mem_nil, or_false] at hk
    rcases hk with rfl | rfl | rfl | rfl <;> decide
  have hk2 : k ∉ ["came", "free", "held", "out"] := by
    simp only [List.mem_cons, List.not_mem_nil, or_false] at hk
    rcases hk with rfl | rfl | rfl | rfl <;> decide
  rw [decide_eq_false hk1] at h1
  rw [decide_eq_false hk2] at h2
  simp only [List.map] at h1 h2
  rw [run_has_name]
  simp [runDef, d_has_name, initEnv, fin_pure, fzV, noRef, h1, h2]
theorem r_buyer (n : Nat) : ((cx (n+1)).tabs "RANGES").bind (fun t => t.lookup (lit "buyer")) = some (.ktp [.int 1, .int 9]) := by kernel_rfl
theorem fits_buyer (n : Nat) (i : Int) (hi : 1 ≤ i ∧ i ≤ 9) (h : EHeap) : run G (n+2) "fits" [.int i, .str (lit "buyer")] h = .ok (.bl true) h := by
  rw [fits_range n "buyer" 1 9 i h (r_buyer n)]; simp [hi]
def priceK (w : Str) : Val := .tup [.int 1, .str (lit "price"), .str w]
def rateK : Val := .tup [.int 1, .str (lit "rate")]
def couponK (w : Str) : Val := .tup [.int 1, .str (lit "coupon"), .str w]
def orderK (a b : Int) : Val := .tup [.int 1, .str (lit "order"), .int a, .int b]
def roadK (a b : Int) : Val := .tup [.int 1, .str (lit "road"), .int a, .int b]
def awayK (w : Str) : Val := .tup [.int 1, .str (lit "away"), .str w]
def cameK (s : Int) (w : Str) : Val := .tup [.int s, .str (lit "came"), .str w]
def freeK (s : Int) (w : Str) : Val := .tup [.int s, .str (lit "free"), .str w]
def heldK (s : Int) (w : Str) : Val := .tup [.int s, .str (lit "held"), .str w]
def outK (s : Int) (w : Str) : Val := .tup [.int s, .str (lit "out"), .str w]
def purseK (c : Int) : Val := .tup [.int 5, .str (lit "purse"), .int c]
def keptK : Val := .tup [.int 5, .str (lit "kept")]
def tillK : Val := .tup [.int 5, .str (lit "till")]
def paidK : Val := .tup [.int 5, .str (lit "paid")]
theorem kp_price (n : Nat) : ((cx (n+1)).tabs "KEY_PARTS").bind (fun t => t.lookup (lit "price")) = some (.ktp [.str (lit "word")]) := by kernel_rfl
theorem kp_rate (n : Nat) : ((cx (n+1)).tabs "KEY_PARTS").bind (fun t => t.lookup (lit "rate")) = some (.ktp []) := by kernel_rfl
theorem kp_coupon (n : Nat) : ((cx (n+1)).tabs "KEY_PARTS").bind (fun t => t.lookup (lit "coupon")) = some (.ktp [.str (lit "word")]) := by kernel_rfl
theorem kp_order (n : Nat) : ((cx (n+1)).tabs "KEY_PARTS").bind (fun t => t.lookup (lit "order")) = some (.ktp [.str (lit "customer"), .str (lit "number")]) := by kernel_rfl
theorem kp_road (n : Nat) : ((cx (n+1)).tabs "KEY_PARTS").bind (fun t => t.lookup (lit "road")) = some (.ktp [.str (lit "customer"), .str (lit "number")]) := by kernel_rfl
theorem kp_away (n : Nat) : ((cx (n+1)).tabs "KEY_PARTS").bind (fun t => t.lookup (lit "away")) = some (.ktp [.str (lit "word")]) := by kernel_rfl
theorem kp_came (n : Nat) : ((cx (n+1)).tabs "KEY_PARTS").bind (fun t => t.lookup (lit "came")) = some (.ktp [.str (lit "word")]) := by kernel_rfl
theorem kp_free (n : Nat) : ((cx (n+1)).tabs "KEY_PARTS").bind (fun t => t.lookup (lit "free")) = some (.ktp [.str (lit "word")]) := by kernel_rfl
theorem kp_held (n : Nat) : ((cx (n+1)).tabs "KEY_PARTS").bind (fun t => t.lookup (lit "held")) = some (.ktp [.str (lit "word")]) := by kernel_rfl
theorem kp_out (n : Nat) : ((cx (n+1)).tabs "KEY_PARTS").bind (fun t => t.lookup (lit "out")) = some (.ktp [.str (lit "word")]) := by kernel_rfl
theorem kp_purse (n : Nat) : ((cx (n+1)).tabs "KEY_PARTS").bind (fun t => t.lookup (lit "purse")) = some (.ktp [.str (lit "buyer")]) := by kernel_rfl
theorem kp_kept (n : Nat) : ((cx (n+1)).tabs "KEY_PARTS").bind (fun t => t.lookup (lit "kept")) = some (.ktp []) := by kernel_rfl
theorem kp_till (n : Nat) : ((cx (n+1)).tabs "KEY_PARTS").bind (fun t => t.lookup (lit "till")) = some (.ktp []) := by kernel_rfl
theorem kp_paid (n : Nat) : ((cx (n+1)).tabs "KEY_PARTS").bind (fun t => t.lookup (lit "paid")) = some (.ktp []) := by kernel_rfl
theorem one_word (n : Nat) (w : Str) (hw : Word w) (h : EHeap) : ∀ v ∈ [Val.str w].zipWith (fun x y => Val.tup [x, y]) [.str (lit "word")], ∃ x k, v = .tup [x, k] ∧ run G (n+2) "fits" [x, k] h = .ok (.bl true) h := by
  intro v hv
  simp only [List.zipWith, List.mem_cons, List.not_mem_nil, or_false] at hv
  subst hv
  exact ⟨_, _, rfl, fits_word _ _ hw _⟩
theorem no_parts (n : Nat) (h : EHeap) : ∀ v ∈ ([] : List Val).zipWith (fun x y => Val.tup [x, y]) [], ∃ x k, v = .tup [x, k] ∧ run G (n+2) "fits" [x, k] h = .ok (.bl true) h := by
  intro v hv; cases hv
theorem two_ids (n : Nat) (a b : Int) (ha : 0 ≤ a ∧ a ≤ 9) (hb : 1 ≤ b ∧ b ≤ 999) (h : EHeap) : ∀ v ∈ [Val.int a, Val.int b].zipWith (fun x y => Val.tup [x, y]) [.str (lit "customer"), .str (lit "number")], ∃ x k, v = .tup [x, k] ∧ run G (n+2) "fits" [x, k] h = .ok (.bl true) h := by
  intro v hv
  simp only [List.zipWith, List.mem_cons, List.not_mem_nil, or_false] at hv
  rcases hv with rfl | rfl
  · exact ⟨_, _, rfl, fits_customer _ _ ha _⟩
  · exact ⟨_, _, rfl, fits_number _ _ hb _⟩
theorem one_buyer (n : Nat) (c : Int) (hc : 1 ≤ c ∧ c ≤ 9) (h : EHeap) : ∀ v ∈ [Val.int c].zipWith (fun x y => Val.tup [x, y]) [.str (lit "buyer")], ∃ x k, v = .tup [x, k] ∧ run G (n+2) "fits" [x, k] h = .ok (.bl true) h := by
  intro v hv
  simp only [List.zipWith, List.mem_cons, List.not_mem_nil, or_false] at hv
  subst hv
  exact ⟨_, _, rfl, fits_buyer _ _ hc _⟩
theorem IK_price (w : Str) (hw : Word w) (n : Nat) (h : EHeap) : run G (n+4) "is_key" [priceK w] h = .ok (.bl true) h := is_key_ok (n+2) 1 "price" _ [.str w] h (kp_price _) rfl (one_word n w hw h) (by decide) (has_name_office _ _ (by decide) h)
theorem AM_price (w : Str) (hw : Word w) : AmAt (priceK w) false := am_of 1 "price" [.str w] false (by decide) rfl (IK_price w hw)
theorem IK_coupon (w : Str) (hw : Word w) (n : Nat) (h : EHeap) : run G (n+4) "is_key" [couponK w] h = .ok (.bl true) h := is_key_ok (n+2) 1 "coupon" _ [.str w] h (kp_coupon _) rfl (one_word n w hw h) (by decide) (has_name_office _ _ (by decide) h)
theorem AM_coupon (w : Str) (hw : Word w) : AmAt (couponK w) false := am_of 1 "coupon" [.str w] false (by decide) rfl (IK_coupon w hw)
theorem IK_away (w : Str) (hw : Word w) (n : Nat) (h : EHeap) : run G (n+4) "is_key" [awayK w] h = .ok (.bl true) h := is_key_ok (n+2) 1 "away" _ [.str w] h (kp_away _) rfl (one_word n w hw h) (by decide) (has_name_office _ _ (by decide) h)
theorem AM_away (w : Str) (hw : Word w) : AmAt (awayK w) true := am_of 1 "away" [.str w] true (by decide) rfl (IK_away w hw)
theorem IK_rate (n : Nat) (h : EHeap) : run G (n+4) "is_key" [rateK] h = .ok (.bl true) h := is_key_ok (n+2) 1 "rate" _ [] h (kp_rate _) rfl (no_parts n h) (by decide) (has_name_office _ _ (by decide) h)
theorem AM_rate : AmAt rateK false := am_of 1 "rate" [] false (by decide) rfl IK_rate
theorem IK_order (a b : Int) (ha : 0 ≤ a ∧ a ≤ 9) (hb : 1 ≤ b ∧ b ≤ 999) (n : Nat) (h : EHeap) : run G (n+4) "is_key" [orderK a b] h = .ok (.bl true) h := is_key_ok (n+2) 1 "order" _ [.int a, .int b] h (kp_order _) rfl (two_ids n a b ha hb h) (by decide) (has_name_office _ _ (by decide) h)
theorem AM_order (a b : Int) (ha : 0 ≤ a ∧ a ≤ 9) (hb : 1 ≤ b ∧ b ≤ 999) : AmAt (orderK a b) false := am_of 1 "order" [.int a, .int b] false (by decide) rfl (IK_order a b ha hb)
theorem IK_road (a b : Int) (ha : 0 ≤ a ∧ a ≤ 9) (hb : 1 ≤ b ∧ b ≤ 999) (n : Nat) (h : EHeap) : run G (n+4) "is_key" [roadK a b] h = .ok (.bl true) h := is_key_ok (n+2) 1 "road" _ [.int a, .int b] h (kp_road _) rfl (two_ids n a b ha hb h) (by decide) (has_name_office _ _ (by decide) h)
theorem AM_road (a b : Int) (ha : 0 ≤ a ∧ a ≤ 9) (hb : 1 ≤ b ∧ b ≤ 999) : AmAt (roadK a b) false := am_of 1 "road" [.int a, .int b] false (by decide) rfl (IK_road a b ha hb)
theorem IK_came (s : Int) (w : Str) (hs : St s) (hw : Word w) (n : Nat) (h : EHeap) : run G (n+4) "is_key" [cameK s w] h = .ok (.bl true) h := is_key_ok (n+2) s "came" _ [.str w] h (kp_came _) rfl (one_word n w hw h) (by unfold St at hs; omega) (has_name_store _ _ hs _ (by decide) h)
theorem AM_came (s : Int) (w : Str) (hs : St s) (hw : Word w) : AmAt (cameK s w) true := am_of s "came" [.str w] true (by decide) rfl (IK_came s w hs hw)
theorem IK_free (s : Int) (w : Str) (hs : St s) (hw : Word w) (n : Nat) (h : EHeap) : run G (n+4) "is_key" [freeK s w] h = .ok (.bl true) h := is_key_ok (n+2) s "free" _ [.str w] h (kp_free _) rfl (one_word n w hw h) (by unfold St at hs; omega) (has_name_store _ _ hs _ (by decide) h)
theorem AM_free (s : Int) (w : Str) (hs : St s) (hw : Word w) : AmAt (freeK s w) true := am_of s "free" [.str w] true (by decide) rfl (IK_free s w hs hw)
theorem IK_held (s : Int) (w : Str) (hs : St s) (hw : Word w) (n : Nat) (h : EHeap) : run G (n+4) "is_key" [heldK s w] h = .ok (.bl true) h := is_key_ok (n+2) s "held" _ [.str w] h (kp_held _) rfl (one_word n w hw h) (by unfold St at hs; omega) (has_name_store _ _ hs _ (by decide) h)
theorem AM_held (s : Int) (w : Str) (hs : St s) (hw : Word w) : AmAt (heldK s w) true := am_of s "held" [.str w] true (by decide) rfl (IK_held s w hs hw)
theorem IK_out (s : Int) (w : Str) (hs : St s) (hw : Word w) (n : Nat) (h : EHeap) : run G (n+4) "is_key" [outK s w] h = .ok (.bl true) h := is_key_ok (n+2) s "out" _ [.str w] h (kp_out _) rfl (one_word n w hw h) (by unfold St at hs; omega) (has_name_store _ _ hs _ (by decide) h)
theorem AM_out (s : Int) (w : Str) (hs : St s) (hw : Word w) : AmAt (outK s w) true := am_of s "out" [.str w] true (by decide) rfl (IK_out s w hs hw)
theorem IK_purse (c : Int) (hc : 1 ≤ c ∧ c ≤ 9) (n : Nat) (h : EHeap) : run G (n+4) "is_key" [purseK c] h = .ok (.bl true) h := is_key_ok (n+2) 5 "purse" _ [.int c] h (kp_purse _) rfl (one_buyer n c hc h) (by decide) (has_name_bank _ _ (by decide) h)
theorem AM_purse (c : Int) (hc : 1 ≤ c ∧ c ≤ 9) : AmAt (purseK c) true := am_of 5 "purse" [.int c] true (by decide) rfl (IK_purse c hc)
theorem IK_kept (n : Nat) (h : EHeap) : run G (n+4) "is_key" [keptK] h = .ok (.bl true) h := is_key_ok (n+2) 5 "kept" _ [] h (kp_kept _) rfl (no_parts n h) (by decide) (has_name_bank _ _ (by decide) h)
theorem AM_kept : AmAt keptK true := am_of 5 "kept" [] true (by decide) rfl IK_kept
theorem IK_till (n : Nat) (h : EHeap) : run G (n+4) "is_key" [tillK] h = .ok (.bl true) h := is_key_ok (n+2) 5 "till" _ [] h (kp_till _) rfl (no_parts n h) (by decide) (has_name_bank _ _ (by decide) h)
theorem AM_till : AmAt tillK true := am_of 5 "till" [] true (by decide) rfl IK_till
theorem IK_paid (n : Nat) (h : EHeap) : run G (n+4) "is_key" [paidK] h = .ok (.bl true) h := is_key_ok (n+2) 5 "paid" _ [] h (kp_paid _) rfl (no_parts n h) (by decide) (has_name_bank _ _ (by decide) h)
theorem AM_paid : AmAt paidK true := am_of 5 "paid" [] true (by decide) rfl IK_paid
end S15

end
section
set_option Elab.async false
set_option linter.all false
set_option maxRecDepth 20000
namespace S15
open Ev Sim P15
open PySem (Str)
/-! ### asks and ends -/
mutual
theorem data_noRef : ∀ (v : Val) (d : Nat), isData d v = true → noRef v = true
  | .non, _, _ => rfl
  | .bl _, _, _ => rfl
  | .int _, _, _ => rfl
  | .str _, _, _ => rfl
  | .tup l, d, hd => by
    cases d with
    | zero => simp [isData] at hd
    | succ d => exact datas_noRef l d (by simpa [isData] using hd)
  | .lst l, d, hd => by
    cases d with
    | zero => simp [isData] at hd
    | succ d => exact datas_noRef l d (by simpa [isData] using hd)
  | .ktp _, _, hd => by simp [isData] at hd
  | .scr _, _, hd => by simp [isData] at hd
  | .ref _, _, hd => by simp [isData] at hd
  | .gl _, _, hd => by simp [isData] at hd
theorem datas_noRef : ∀ (l : List Val) (d : Nat), areData d l = true → noRefs l = true
  | [], _, _ => rfl
  | x :: xs, d, hd => by
    simp only [areData, Bool.and_eq_true] at hd
    simp [noRefs, data_noRef x d hd.1, datas_noRef xs d hd.2]
end
theorem noRefs_perm {l m : List Val} (p : l.Perm m) (hl : noRefs l = true) : noRefs m = true :=
  (noRefs_iff m).mpr fun x hx => (noRefs_iff l).mp hl x (p.mem_iff.mpr hx)
def askV (s : Int) (rs : List Val) : Val := .tup [.str (lit "ask"), .int s, .tup rs]
def doneV (ws : List Val) (a : Val) : Val := .tup [.str (lit "done"), .tup ws, a]
def doneA : Val := .tup [.str (lit "done")]
def refusedV (w : String) : Val := .tup [.str (lit "refused"), .str (lit w)]
def refV (w : String) : Val := doneV [] (refusedV w)

def reqV (k : Val) (m : String) (c : Int) : Val := .tup [k, .str (lit m), .int c]
theorem len_pos (n : Nat) (h : EHeap) (T : Tabs) : (0 : Nat) ≤ n := Nat.zero_le n
/-- requests that ascend by their keys -/
structure ReqOk (x : Val) : Prop where
  ex : ∃ k m c, x = reqV k m c ∧ isKeyV k = true
theorem req_facts {x : Val} (q : ReqOk x) : noRef x = true ∧ (cmpV x x).isSome = true ∧ tagF x = 3 ∧ isData 20 x = true := by
  obtain ⟨k, m, c, rfl, hk⟩ := q.ex
  obtain ⟨h1, h2, h3, h4, h5, h6⟩ := keyV_facts hk
  refine ⟨by simp [reqV, noRef, noRefs, h1], alike_some (by simp [reqV, alike, alikes, h3]), h5, ?_⟩
  simp only [reqV, isData, areData, h2 18, Bool.true_and]
theorem ask_w (n : Nat) (s : Int) {l m : List Val} (p : l.Perm m) (a : m.Pairwise Lt) (q : ∀ x ∈ m, ReqOk x) (h : EHeap) : run G (n+1) "ask_of" [.int s, .lst l] h = .ok (askV s m) h := by
  have hs : sortable l = true := sortable_tt p a (fun x hx => ⟨(req_facts (q x hx)).2.1, (req_facts (q x hx)).2.2.1⟩) ((areData_iff 20 m).mpr fun x hx => (req_facts (q x hx)).2.2.2)
  have h1 : fprimV .sorted [.lst l] h = .ok m h := by simp [fprimV, hs, sort_of p a]
  have h2 : noRefs m = true := (noRefs_iff m).mpr fun x hx => (req_facts (q x hx)).1
  rw [run_ask_of]
  simp [runDef, d_ask_of, initEnv, fin_pure, h1, fzV, noRef, noRefs, h2, askV]
theorem ask_wr (n : Nat) (s : Int) {l m : List Val} (p : l.Perm m) (a : m.Pairwise Lt) (q : ∀ x ∈ m, ReqOk x) (h : EHeap) (r : Nat) (hr : h[r]? = some (.list l)) : run G (n+1) "ask_of" [.int s, .ref r] h = .ok (askV s m) h := by
  have hs : sortable l = true := sortable_tt p a (fun x hx => ⟨(req_facts (q x hx)).2.1, (req_facts (q x hx)).2.2.1⟩) ((areData_iff 20 m).mpr fun x hx => (req_facts (q x hx)).2.2.2)
  have h1 : fprimV .sorted [.ref r] h = .ok m h := by simp [fprimV, hr, hs, sort_of p a]
  have h2 : noRefs m = true := (noRefs_iff m).mpr fun x hx => (req_facts (q x hx)).1
  rw [run_ask_of]
  simp [runDef, d_ask_of, initEnv, fin_pure, h1, fzV, noRef, noRefs, h2, askV]
theorem add_ok (n : Nat) (k : Val) (hk : isKeyV k = true) (h : EHeap) : run G (n+1) "add" [k] h = .ok (reqV k "add" 0) h := by
  have := (keyV_facts hk).1
  rw [run_add]
  simp [runDef, d_add, initEnv, fin_pure, fzV, noRef, noRefs, this, reqV]
theorem refusal_ok (n : Nat) (w : String) (h : EHeap) : run G (n+1) "refusal" [.str (lit w)] h = .ok (refV w) h := by
  rw [run_refusal]
  simp [runDef, d_refusal, initEnv, fin_pure, fzV, noRef, noRefs, refV, doneV, refusedV]
/-- a change: the key, is it an amount's, what -/
abbrev Wr := Val × Bool × Val
def Wr.pair (w : Wr) : Val := .tup [w.1, w.2.2]
def keepW (w : Wr) : Bool := !(eqv w.2.2 (.int 0)) || !w.2.1
structure WrA (w : Wr) : Prop where
  am : AmAt w.1 w.2.1
  dt : isData 18 w.2.2 = true
mutual
theorem data_mono : ∀ (v : Val) (d e : Nat), d ≤ e → isData d v = true → isData e v = true
  | .non, _, _, _, _ => rfl
  | .bl _, _, _, _, _ => rfl
  | .int _, _, _, _, _ => rfl
  | .str _, _, _, _, _ => rfl
  | .tup l, d, e, q, hd => by
    cases d with
    | zero => simp [isData] at hd
    | succ d => cases e with
      | zero => omega
      | succ e => simp only [isData] at hd ⊢; exact datas_mono l d e (by omega) hd
  | .lst l, d, e, q, hd => by
    cases d with
    | zero => simp [isData] at hd
    | succ d => cases e with
      | zero => omega
      | succ e => simp only [isData] at hd ⊢; exact datas_mono l d e (by omega) hd
  | .ktp _, _, _, _, hd => by simp [isData] at hd
  | .scr _, _, _, _, hd => by simp [isData] at hd
  | .ref _, _, _, _, hd => by simp [isData] at hd
  | .gl _, _, _, _, hd => by simp [isData] at hd
theorem datas_mono : ∀ (l : List Val) (d e : Nat), d ≤ e → areData d l = true → areData e l = true
  | [], _, _, _, _ => rfl
  | x :: xs, d, e, q, hd => by
    simp only [areData, Bool.and_eq_true] at hd
    simp [areData, data_mono x d e q hd.1, datas_mono xs d e q hd.2]
end
theorem wr_facts {w : Wr} (q : WrA w) : noRef w.1 = true ∧ noRef w.2.2 = true ∧ isData 20 w.2.2 = true := ⟨(keyV_facts q.am.1).1, data_noRef _ _ q.dt, data_mono _ 18 20 (by omega) q.dt⟩
theorem keys_of : ∀ (l : List Wr), keyed (l.map Wr.pair) = some (l.map (·.1))
  | [] => rfl
  | w :: l => by
    have := keys_of l
    unfold keyed at this ⊢
    rw [List.map_cons, List.mapM_cons, this]
    rfl
/-- the body of end_of's comprehension -/
theorem end_comp (n : Nat) (e0 e1 e2 : Option Val) (h : EHeap) : ∀ cs : List Wr, (∀ c ∈ cs, WrA c) → compLoop none (fun v => bindTg (.cons (.nm 3) (.cons (.nm 4) .nil)) v (wipeE [e0, e1, e2, none, none, none] [3, 4])) (fun e => if isNop (.or_ (.cmp .ne (.var 4) (.cst (.int 0))) (.not_ (.call "is_amount" (.cons (.var 3) .nil)))) = true then pure true else evT (cx (n+5)) (.or_ (.cmp .ne (.var 4) (.cst (.int 0))) (.not_ (.call "is_amount" (.cons (.var 3) .nil)))) e) (fun e => evE (cx (n+5)) (.tup (.cons (.var 3) (.cons (.var 4) .nil))) e) (cs.map Wr.pair) h = .ok ((cs.filter keepW).map Wr.pair) h := by
  intro cs hc
  have := comp_filter (bind := fun v => bindTg (.cons (.nm 3) (.cons (.nm 4) .nil)) v (wipeE [e0, e1, e2, none, none, none] [3, 4])) (cond := fun e => if isNop (.or_ (.cmp .ne (.var 4) (.cst (.int 0))) (.not_ (.call "is_amount" (.cons (.var 3) .nil)))) = true then pure true else evT (cx (n+5)) (.or_ (.cmp .ne (.var 4) (.cst (.int 0))) (.not_ (.call "is_amount" (.cons (.var 3) .nil)))) e) (elt := fun e => evE (cx (n+5)) (.tup (.cons (.var 3) (.cons (.var 4) .nil))) e)
  induction cs with
  | nil => rfl
  | cons c cs ih =>
    obtain ⟨k, a, w⟩ := c
    have q := hc (k, a, w) (by simp)
    have hw := eq_data (h := h) (wr_facts q).2.2 (show isData 20 (.int 0) = true from rfl)
    have hk := q.am.2 n h
    have ih := ih fun c hc' => hc c (by simp [hc'])
    rw [List.map_cons]
    simp only [compLoop, M.bind_at, chk_none, R.bind_ok, Wr.pair, bind_2, ofOpt_some]
    cases hz : eqv w (.int 0) with
    | false =>
      have hk' : keepW (k, a, w) = true := by simp [keepW, hz]
      rw [hz] at hw
      rw [List.filter_cons_of_pos hk', List.map_cons]
      simp [isNop, wipeE, hw] at ih ⊢
      rw [ih]
      rfl
    | true =>
      rw [hz] at hw
      cases a with
      | false =>
        have hk' : keepW (k, false, w) = true := by simp [keepW]
        rw [List.filter_cons_of_pos hk', List.map_cons]
        simp [isNop, wipeE, hw, hk] at ih ⊢
        rw [ih]
        rfl
      | true =>
        have hk' : ¬ keepW (k, true, w) = true := by simp [keepW, hz]
        rw [List.filter_cons_of_neg hk']
        simp [isNop, wipeE, hw, hk] at ih ⊢
        rw [ih]
theorem end_w (n : Nat) (cs m : List Wr) (ans : Val) (h : EHeap) (hc : ∀ c ∈ cs, WrA c) (p : (cs.filter keepW).Perm m) (a : m.Pairwise fun x y => Lt x.1 y.1) (ha : noRef ans = true) (v : Val) (sv : itVal v h = .ok (cs.map Wr.pair, none) h) : run G (n+6) "end_of" [v, ans] h = .ok (doneV (m.map Wr.pair) ans) h := by
  have hm : ∀ c ∈ m, WrA c := fun c hx => hc c ((List.mem_filter.mp (p.mem_iff.mpr hx)).1)
  have pm : ((cs.filter keepW).map Wr.pair).Perm (m.map Wr.pair) := p.map _
  have h1 : fprimV .sortedK0 [.lst ((cs.filter keepW).map Wr.pair)] h = .ok (m.map Wr.pair) h := by
    have e1 := keys_of (cs.filter keepW)
    have hs : sortable ((cs.filter keepW).map (·.1)) = true := by
      refine sortable_ti (m := m.map (·.1)) (p.map _) (by rw [List.pairwise_map]; exact a) ?_ ?_
      · intro x hx
        obtain ⟨c, hc', rfl⟩ := List.mem_map.mp hx
        obtain ⟨_, _, q3, q4, _, _⟩ := keyV_facts (hm c hc').am.1
        exact ⟨alike_some q3, q4⟩
      · refine (areData_iff 20 _).mpr fun x hx => ?_
        obtain ⟨c, hc', rfl⟩ := List.mem_map.mp hx
        exact (keyV_facts (hm c hc').am.1).2.1 19
    have h3 : ((cs.filter keepW).map Wr.pair).mergeSort leK = m.map Wr.pair := sortK_of pm (by rw [List.pairwise_map]; exact a.imp fun {x y} h => ⟨_, _, rfl, rfl, h⟩) (fun x hx => by obtain ⟨c, _, rfl⟩ := List.mem_map.mp hx; exact ⟨_, rfl⟩)
    simp only [fprimV, listOf, e1, hs, if_true, h3]
  have h2 : noRefs (m.map Wr.pair) = true := by
    refine (noRefs_iff _).mpr fun x hx => ?_
    obtain ⟨c, hc', rfl⟩ := List.mem_map.mp hx
    obtain ⟨f1, f2, _⟩ := wr_facts (hm c hc')
    simp [Wr.pair, noRef, noRefs, f1, f2]
  have h3 := quiet_of (end_comp n (some v) (some ans) none h cs hc)
  rw [run_end_of]
  simp only [runDef, d_end_of, initEnv, List.length, List.map, List.replicate, List.cons_append, List.nil_append, if_true, evS_seq, seqR_nx, seqR_rt, evS_asg, evE_fz, evL_fcomp, evI_val, evE_var, List.getElem?_cons_zero, Option.getD_some, ofOpt_some, R.bind_ok, sv]
  rw [h3]
  simp [fin_pure, h1, fzV, noRef, noRefs, h2, ha, doneV]
theorem end_l (n : Nat) (cs m : List Wr) (ans : Val) (h : EHeap) (hc : ∀ c ∈ cs, WrA c) (p : (cs.filter keepW).Perm m) (a : m.Pairwise fun x y => Lt x.1 y.1) (ha : noRef ans = true) : run G (n+6) "end_of" [.lst (cs.map Wr.pair), ans] h = .ok (doneV (m.map Wr.pair) ans) h :=
  end_w n cs m ans h hc p a ha _ rfl
/-- the first ask that has no answers, or the end -/
def nextV (asks told : List Val) (e : Val) : Val := (asks[told.length]?).getD e
theorem next_ok (n : Nat) (asks told : List Val) (e va v : Val) (h : EHeap) (sa : SeqV h va asks) (st : SeqV h v told) (hr : noRef (nextV asks told e) = true) : run G (n+1) "next_of" [va, v, e] h = .ok (nextV asks told e) h := by
  have h1 := sa.len
  have h2 := st.len
  rw [run_next_of]
  by_cases q : told.length < asks.length
  · have e1 : asks[told.length]? = some asks[told.length] := by simp [q]
    have h3 := sa.idx (cx n).tabs (i := told.length) (by omega) (x := asks[told.length]) (by simpa using e1)
    have e2 : nextV asks told e = asks[told.length] := by unfold nextV; rw [e1]; rfl
    rw [e2] at hr ⊢
    simp [runDef, d_next_of, initEnv, fin_pure, h1, h2, h3, q, fz_plain hr]
  · have e1 : asks[told.length]? = none := by simp; omega
    have h3 : ((told.length : Int) < asks.length) = False := by simp; omega
    have e2 : nextV asks told e = e := by unfold nextV; rw [e1]; rfl
    rw [e2] at hr ⊢
    simp [runDef, d_next_of, initEnv, fin_pure, h1, h2, h3, fz_plain hr]
/-! ### who may do it -/
theorem eq_bl (a b : Bool) (h : EHeap) : eqM (.bl a) (.bl b) h = .ok (a == b) h := by rw [eq_data rfl rfl]; simp [eqv]
theorem lit_beq (a b : String) : (lit a == lit b) = decide (a = b) := by rw [Bool.eq_iff_iff]; simp
abbrev clerks : List String := ["price", "rate", "coupon", "stock", "move", "arrive", "send", "count"]
abbrev owns : List String := ["cancel", "back", "look"]
theorem may_plain (n : Nat) (c : Int) (k : String) (vs : List Val) (hk : k ∉ owns) (h : EHeap) : run G (n+1) "may_do" [.int c, .tup (.str (lit k) :: vs)] h = .ok (.bl (decide (k ∈ clerks) == decide (c = 0))) h := by
  have h1 := names_mem n k owns h
  have h2 := names_mem n k clerks h
  rw [decide_eq_false hk] at h1
  have h3 : k ≠ "look" := fun e => hk (by subst e; decide)
  have e3 := lit_beq k "look"
  rw [decide_eq_false h3] at e3
  simp only [List.map, owns, clerks] at h1 h2
  have hz : (c == (0 : Int)) = decide (c = 0) := by rw [Bool.eq_iff_iff]; simp
  rw [run_may_do]
  simp [runDef, d_may_do, initEnv, fin_pure, fzV, noRef, h1, h2, e3, h3, eq_bl, hz]
def mayOwn (c a : Int) (k : String) : Bool := if a = c then (k == "look" || !(decide (c = 0))) else (k == "look" && decide (c = 0))
theorem may_own (n : Nat) (c a b : Int) (k : String) (vs : List Val) (hk : k ∈ owns) (h : EHeap) : run G (n+1) "may_do" [.int c, .tup (.str (lit k) :: idV a b :: vs)] h = .ok (.bl (mayOwn c a k)) h := by
  have h1 := names_mem n k owns h
  have h2 := names_mem n k clerks h
  rw [decide_eq_true hk] at h1
  have hk2 : k ∉ clerks := by
    simp only [owns, List.mem_cons, List.not_mem_nil, or_false] at hk
    rcases hk with rfl | rfl | rfl <;> decide
  rw [decide_eq_false hk2] at h2
  have e3 := lit_beq k "look"
  simp only [List.map, owns, clerks] at h1 h2
  have hz : (c == (0 : Int)) = decide (c = 0) := by rw [Bool.eq_iff_iff]; simp
  have hac : (a == c) = decide (a = c) := by rw [Bool.eq_iff_iff]; simp
  rw [run_may_do]
  unfold idV mayOwn
  by_cases q : a = c
  · by_cases r : k = "look"
    · subst r
      simp [runDef, d_may_do, initEnv, fin_pure, fzV, noRef, h1, h2, e3, eq_bl, hz, hac, q]
    · simp [runDef, d_may_do, initEnv, fin_pure, fzV, noRef, h1, h2, e3, r, eq_bl, hz, hac, q]
  · by_cases r : k = "look"
    · subst r
      simp [runDef, d_may_do, initEnv, fin_pure, fzV, noRef, h1, h2, e3, eq_bl, hz, hac, q]
    · simp [runDef, d_may_do, initEnv, fin_pure, fzV, noRef, h1, h2, e3, r, eq_bl, hz, hac, q]
theorem step_no (n : Nat) (c b : Int) (k : String) (vs : List Val) (v : Val) (h : EHeap) (hm : run G (n+6) "may_do" [.int c, .tup (.str (lit k) :: vs)] h = .ok (.bl false) h) : run G (n+7) "next_step" [idV c b, .tup (.str (lit k) :: vs), v] h = .ok (refV "right") h := by
  have h1 := refusal_ok (n+5) "right" h
  rw [run_next_step]
  unfold refV doneV refusedV idV at *
  simp [runDef, d_next_step, initEnv, fin_pure, fzV, noRef, noRefs, hm, h1]
theorem step_yes (n : Nat) (c b : Int) (k : String) (vs : List Val) (f : String) (v r : Val) (h : EHeap) (hf : ((cx (n+6)).tabs "STEPS").bind (fun t => t.lookup (lit k)) = some (.gl f)) (hh : (cx (n+6)).has f = true) (hm : run G (n+6) "may_do" [.int c, .tup (.str (lit k) :: vs)] h = .ok (.bl true) h) (hr : noRef r = true) (hs : run G (n+6) f [idV c b, .tup (.str (lit k) :: vs), v] h = .ok r h) : run G (n+7) "next_step" [idV c b, .tup (.str (lit k) :: vs), v] h = .ok r h := by
  have h2 := tab_idx (h := h) hf
  rw [run_next_step]
  unfold idV at *
  simp [runDef, d_next_step, initEnv, fin_pure, hm, h2, hh, hs, fz_plain hr]
end S15

end
section
set_option Elab.async false
set_option linter.all false
set_option maxRecDepth 20000
namespace S15
open Ev Sim P15
open PySem (Str)
/-! ### the steps of single deeds -/
theorem reqs_ok (l : List (Val × String × Int)) (h : l.all (fun r => isKeyV r.1) = true) : ∀ x ∈ l.map (fun r => reqV r.1 r.2.1 r.2.2), ReqOk x := by
  intro x hx
  obtain ⟨r, hr, rfl⟩ := List.mem_map.mp hx
  exact ⟨⟨_, _, _, rfl, List.all_eq_true.mp h r hr⟩⟩
theorem next_noRef {asks told : List Val} {e : Val} (h1 : noRefs asks = true) (h2 : noRef e = true) : noRef (nextV asks told e) = true := by
  unfold nextV
  cases q : asks[told.length]? with
  | none => exact h2
  | some a => exact (noRefs_iff asks).mp h1 a (List.mem_of_getElem? q)
theorem pw2 {α : Type} {R : α → α → Prop} {a b : α} (h : R a b) : [a, b].Pairwise R := by simp [h]
theorem pw3 {α : Type} {R : α → α → Prop} {a b c : α} (h1 : R a b) (h2 : R b c) (h3 : R a c) : [a, b, c].Pairwise R := by simp [h1, h2, h3]
theorem lt_req {k k' : Val} (h : Lt k k') {m m' : String} {c c' : Int} : Lt (reqV k m c) (reqV k' m' c') := lt_head h _ _
theorem lt_house {s t : Int} (h : s < t) {r q : List Val} : Lt (.tup (.int s :: r)) (.tup (.int t :: q)) := lt_head (by show cmpV _ _ = _; simp [cmpV, h]) _ _
theorem lt_name {s : Int} {a b : String} (h : cmpL (lit a).cps.toList (lit b).cps.toList = .lt) {r q : List Val} : Lt (.tup (.int s :: .str (lit a) :: r)) (.tup (.int s :: .str (lit b) :: q)) :=
  lt_tail (cmpV_int s) (by simp only [cmpVs, cmpV, h])
theorem lt_word {s : Int} {a : Str} {w w' : Str} (h : cmpL w.cps.toList w'.cps.toList = .lt) {r q : List Val} : Lt (.tup (.int s :: .str a :: .str w :: r)) (.tup (.int s :: .str a :: .str w' :: q)) :=
  lt_tail (cmpV_int s) (by simp only [cmpVs, cmpV, cmpL_me, h])
def priceD (w : Str) (z : Int) : Val := .tup [.str (lit "price"), .str w, .int z]
def rateD (z : Int) : Val := .tup [.str (lit "rate"), .int z]
def couponD (w : Str) (z : Int) : Val := .tup [.str (lit "coupon"), .str w, .int z]
def stockD (s : Int) (w : Str) (c : Int) : Val := .tup [.str (lit "stock"), .int s, .str w, .int c]
def moveD (s : Int) (w : Str) (c : Int) : Val := .tup [.str (lit "move"), .int s, .str w, .int c]
def arriveD (a b s : Int) (w : Str) : Val := .tup [.str (lit "arrive"), idV a b, .int s, .str w]
def countD (w : Str) : Val := .tup [.str (lit "count"), .str w]
def payD (z : Int) : Val := .tup [.str (lit "pay"), .int z]
def drawD (z : Int) : Val := .tup [.str (lit "draw"), .int z]
def purseD : Val := .tup [.str (lit "purse")]
def lookD (a b : Int) : Val := .tup [.str (lit "look"), idV a b]
def priceS (c : Int) (w : Str) (z : Int) (told : List Val) : Val := if c = 0 then nextV [askV 1 [reqV (priceK w) "own" 0]] told (doneV [.tup [priceK w, .int z]] doneA) else refV "right"
theorem price_ok (n : Nat) (c b : Int) (w : Str) (z : Int) (hw : Word w) {v : Val} {told : List Val} {h : EHeap} (st : SeqV h v told) : run G (n+9) "next_step" [idV c b, priceD w z, v] h = .ok (priceS c w z told) h := by
  unfold priceS
  by_cases q : c = 0
  · subst q
    rw [if_pos rfl]
    have hm := may_plain (n+7) 0 "price" [.str w, .int z] (by decide) h
    have h1 := ask_w (n+6) 1 (l := [reqV (priceK w) "own" 0]) (.refl _) (by simp) (reqs_ok [(priceK w, "own", 0)] rfl) h
    have h2 := end_l (n+1) [(priceK w, false, .int z)] [(priceK w, false, .int z)] doneA h (by simp; exact ⟨AM_price w hw, rfl⟩) (by simp [keepW]) (by simp) rfl
    have nr : noRef (nextV [askV 1 [reqV (priceK w) "own" 0]] told (doneV [.tup [priceK w, .int z]] doneA)) = true := next_noRef rfl rfl
    have h3 := next_ok (n+6) _ told _ _ v h (.lst _) st nr
    have h4 : fzV h h.length _ = _ := fz_plain nr
    refine step_yes (n+2) 0 b "price" _ "price_step" v _ h (by kernel_rfl) (by kernel_rfl) hm nr ?_
    rw [run_price_step]
    simp only [List.map, Wr.pair] at h2
    unfold priceK reqV doneA idV at *
    simp [runDef, d_price_step, initEnv, fin_pure, h1, h2, h3, h4]
  · rw [if_neg q]
    have hm := may_plain (n+7) c "price" [.str w, .int z] (by decide) h
    exact step_no (n+2) c b "price" _ v h (by rw [hm]; simp [clerks, q])

def rateS (c : Int) (z : Int) (told : List Val) : Val := if c = 0 then nextV [askV 1 [reqV rateK "own" 0]] told (doneV [.tup [rateK, .int z]] doneA) else refV "right"
theorem rate_ok (n : Nat) (c b : Int) (z : Int) {v : Val} {told : List Val} {h : EHeap} (st : SeqV h v told) : run G (n+9) "next_step" [idV c b, rateD z, v] h = .ok (rateS c z told) h := by
  unfold rateS
  by_cases q : c = 0
  · subst q
    rw [if_pos rfl]
    have hm := may_plain (n+7) 0 "rate" [.int z] (by decide) h
    have h1 := ask_w (n+6) 1 (l := [reqV rateK "own" 0]) (.refl _) (by simp) (reqs_ok [(rateK, "own", 0)] rfl) h
    have h2 := end_l (n+1) [(rateK, false, .int z)] [(rateK, false, .int z)] doneA h (by simp; exact ⟨AM_rate, rfl⟩) (by simp [keepW]) (by simp) rfl
    have nr : noRef (nextV [askV 1 [reqV rateK "own" 0]] told (doneV [.tup [rateK, .int z]] doneA)) = true := next_noRef rfl rfl
    have h3 := next_ok (n+6) _ told _ _ v h (.lst _) st nr
    have h4 : fzV h h.length _ = _ := fz_plain nr
    refine step_yes (n+2) 0 b "rate" _ "rate_step" v _ h (by kernel_rfl) (by kernel_rfl) hm nr ?_
    rw [run_rate_step]
    simp only [List.map, Wr.pair] at h2
    unfold rateK reqV doneA idV at *
    simp [runDef, d_rate_step, initEnv, fin_pure, h1, h2, h3, h4]
  · rw [if_neg q]
    have hm := may_plain (n+7) c "rate" [.int z] (by decide) h
    exact step_no (n+2) c b "rate" _ v h (by rw [hm]; simp [clerks, q])
def tFirst (told : List Val) : Option Val := match told with
  | .tup (x :: _) :: _ => some x
  | _ => none
def couponS (c : Int) (w : Str) (z : Int) (told : List Val) : Val := if c = 0 then (match told with
  | [] => askV 1 [reqV (couponK w) "own" 0]
  | t => if tFirst t = some .non then doneV [.tup [couponK w, .tup [.str (lit "unused"), .int z]]] doneA else refV "coupon") else refV "right"
theorem coupon_ok (n : Nat) (c b : Int) (w : Str) (z : Int) (hw : Word w) {v : Val} {told : List Val} {h : EHeap} (st : SeqV h v told) (ht : told = [] ∨ ∃ x r, told = .tup [x] :: r) : run G (n+9) "next_step" [idV c b, couponD w z, v] h = .ok (couponS c w z told) h := by
  unfold couponS
  by_cases q : c = 0
  · subst q
    rw [if_pos rfl]
    have hm := may_plain (n+7) 0 "coupon" [.str w, .int z] (by decide) h
    have h1 := ask_w (n+6) 1 (l := [reqV (couponK w) "own" 0]) (.refl _) (by simp) (reqs_ok [(couponK w, "own", 0)] rfl) h
    have h2 := end_l (n+1) [(couponK w, false, .tup [.str (lit "unused"), .int z])] [(couponK w, false, .tup [.str (lit "unused"), .int z])] doneA h (by simp; exact ⟨AM_coupon w hw, rfl⟩) (by simp [keepW]) (by simp) rfl
    have nr : ∀ t, noRef (nextV [askV 1 [reqV (couponK w) "own" 0]] t (doneV [.tup [couponK w, .tup [.str (lit "unused"), .int z]]] doneA)) = true := fun t => next_noRef rfl rfl
    have h3 := next_ok (n+6) _ told _ _ v h (.lst _) st (nr told)
    have h4 : fzV h h.length _ = _ := fz_plain (nr told)
    have h5 := st.len
    have h7 := refusal_ok (n+6) "coupon" h
    simp only [List.map, Wr.pair] at h2
    rcases ht with rfl | ⟨x, r, rfl⟩
    · refine step_yes (n+2) 0 b "coupon" _ "coupon_step" v _ h (by kernel_rfl) (by kernel_rfl) hm rfl ?_
      rw [run_coupon_step]
      unfold couponK reqV doneA idV at *
      simp [runDef, d_coupon_step, initEnv, fin_pure, h1, h2, h3, h4, h5]
      rfl
    · have h6 := st.idx (cx (n+7)).tabs (i := 0) (by omega) rfl
      by_cases hx : x = .non
      · subst hx
        refine step_yes (n+2) 0 b "coupon" _ "coupon_step" v _ h (by kernel_rfl) (by kernel_rfl) hm rfl ?_
        rw [run_coupon_step]
        unfold couponK reqV doneA idV at *
        simp [runDef, d_coupon_step, initEnv, fin_pure, h1, h2, h3, h4, h5, h6]
        rfl
      · have e : (if tFirst (.tup [x] :: r) = some .non then doneV [.tup [couponK w, .tup [.str (lit "unused"), .int z]]] doneA else refV "coupon") = refV "coupon" := by simp [tFirst, hx]
        simp only [e]
        have h8 : fzV h h.length (refV "coupon") = _ := fz_plain rfl
        refine step_yes (n+2) 0 b "coupon" _ "coupon_step" v _ h (by kernel_rfl) (by kernel_rfl) hm rfl ?_
        rw [run_coupon_step]
        unfold couponK reqV doneA idV at *
        simp [runDef, d_coupon_step, initEnv, fin_pure, h1, h2, h3, h4, h5, h6, h7, h8, hx]
  · rw [if_neg q]
    have hm := may_plain (n+7) c "coupon" [.str w, .int z] (by decide) h
    exact step_no (n+2) c b "coupon" _ v h (by rw [hm]; simp [clerks, q])
def stockS (c s : Int) (w : Str) (k : Int) (told : List Val) : Val := if c = 0 then nextV [askV s [reqV (cameK s w) "add" 0, reqV (freeK s w) "add" 0]] told (doneV [.tup [cameK s w, .int k], .tup [freeK s w, .int k]] doneA) else refV "right"
theorem stock_ok (n : Nat) (c b s : Int) (w : Str) (k : Int) (hs : St s) (hw : Word w) (hk : k ≠ 0) {v : Val} {told : List Val} {h : EHeap} (st : SeqV h v told) : run G (n+9) "next_step" [idV c b, stockD s w k, v] h = .ok (stockS c s w k told) h := by
  unfold stockS
  by_cases q : c = 0
  · subst q
    rw [if_pos rfl]
    have hm := may_plain (n+7) 0 "stock" [.int s, .str w, .int k] (by decide) h
    have ha := add_ok (n+6) (cameK s w) rfl h
    have hb := add_ok (n+6) (freeK s w) rfl h
    have h1 := ask_w (n+6) s (l := [reqV (cameK s w) "add" 0, reqV (freeK s w) "add" 0]) (.refl _) (pw2 (lt_req (lt_name (by simp)))) (reqs_ok [(cameK s w, "add", 0), (freeK s w, "add", 0)] rfl) h
    have h2 := end_l (n+1) [(cameK s w, true, .int k), (freeK s w, true, .int k)] [(cameK s w, true, .int k), (freeK s w, true, .int k)] doneA h (by simp; exact ⟨⟨AM_came s w hs hw, rfl⟩, AM_free s w hs hw, rfl⟩) (by simp [keepW, eqv, hk]) (pw2 (lt_name (by simp))) rfl
    have nr : noRef (nextV [askV s [reqV (cameK s w) "add" 0, reqV (freeK s w) "add" 0]] told (doneV [.tup [cameK s w, .int k], .tup [freeK s w, .int k]] doneA)) = true := next_noRef rfl rfl
    have h3 := next_ok (n+6) _ told _ _ v h (.lst _) st nr
    have h4 : fzV h h.length _ = _ := fz_plain nr
    refine step_yes (n+2) 0 b "stock" _ "stock_step" v _ h (by kernel_rfl) (by kernel_rfl) hm nr ?_
    rw [run_stock_step]
    simp only [List.map, Wr.pair] at h2
    unfold cameK freeK reqV doneA idV at *
    simp [runDef, d_stock_step, initEnv, fin_pure, ha, hb, h1, h2, h3, h4]
  · rw [if_neg q]
    have hm := may_plain (n+7) c "stock" [.int s, .str w, .int k] (by decide) h
    exact step_no (n+2) c b "stock" _ v h (by rw [hm]; simp [clerks, q])
end S15

end
section
set_option Elab.async false
set_option linter.all false
set_option maxRecDepth 20000
namespace S15
open Ev Sim P15
open PySem (Str)
/-! ### move, arrive, count -/
def moveA1 (b : Int) (w : Str) : Val := askV 1 [reqV (awayK w) "add" 0, reqV (roadK 0 b) "own" 0]
def moveA2 (s : Int) (w : Str) (k : Int) : Val := askV s [reqV (freeK s w) "take" k]
def moveW (b s : Int) (w : Str) (k : Int) : List Val := [.tup [awayK w, .int k], .tup [roadK 0 b, .tup [.str w, .int k]], .tup [freeK s w, .int (-k)]]
def tooFew (k : Int) (told : List Val) : Bool := match told with
  | [_, .tup [.int m]] => decide (m < k)
  | _ => false
def moveS (c b s : Int) (w : Str) (k : Int) (told : List Val) : Val := if c = 0 then (if tooFew k told = true then refV "stock" else nextV [moveA1 b w, moveA2 s w k] told (doneV (moveW b s w k) doneA)) else refV "right"
theorem move_ok (n : Nat) (c b s : Int) (w : Str) (k : Int) (hb : 1 ≤ b ∧ b ≤ 999) (hs : St s) (hw : Word w) (hk : k ≠ 0) {v : Val} {told : List Val} {h : EHeap} (st : SeqV h v told) (ht : told.length < 2 ∨ ∃ x m, told = [x, .tup [.int m]]) : run G (n+9) "next_step" [idV c b, moveD s w k, v] h = .ok (moveS c b s w k told) h := by
  unfold moveS
  have h1s : (1 : Int) < s := by unfold St at hs; omega
  by_cases q : c = 0
  · subst q
    rw [if_pos rfl]
    have hm := may_plain (n+7) 0 "move" [.int s, .str w, .int k] (by decide) h
    have ha := add_ok (n+6) (awayK w) rfl h
    have h1 := ask_w (n+6) 1 (l := [reqV (roadK 0 b) "own" 0, reqV (awayK w) "add" 0]) (m := [reqV (awayK w) "add" 0, reqV (roadK 0 b) "own" 0]) (.swap _ _ _) (pw2 (lt_req (lt_name (by simp)))) (reqs_ok [(awayK w, "add", 0), (roadK 0 b, "own", 0)] rfl) h
    have h1' := ask_w (n+6) s (l := [reqV (freeK s w) "take" k]) (.refl _) (by simp) (reqs_ok [(freeK s w, "take", k)] rfl) h
    have h2 := end_l (n+1) [(roadK 0 b, false, .tup [.str w, .int k]), (awayK w, true, .int k), (freeK s w, true, .int (-k))] [(awayK w, true, .int k), (roadK 0 b, false, .tup [.str w, .int k]), (freeK s w, true, .int (-k))] doneA h (by simp; exact ⟨⟨AM_road 0 b (by decide) hb, rfl⟩, ⟨AM_away w hw, rfl⟩, AM_free s w hs hw, rfl⟩) (by simp [keepW, eqv, hk]; exact .swap _ _ _) (pw3 (lt_name (by simp)) (lt_house h1s) (lt_house h1s)) rfl
    have nr : noRef (nextV [moveA1 b w, moveA2 s w k] told (doneV (moveW b s w k) doneA)) = true := next_noRef rfl rfl
    have h3 := next_ok (n+6) [moveA1 b w, moveA2 s w k] told (doneV (moveW b s w k) doneA) _ v h (.lst _) st nr
    have h4 : fzV h h.length _ = _ := fz_plain nr
    have h5 := st.len
    have h7 := refusal_ok (n+6) "stock" h
    have h8 : fzV h h.length (refV "stock") = _ := fz_plain rfl
    simp only [List.map, Wr.pair] at h2
    by_cases tf : tooFew k told = true
    · obtain ⟨x, m, rfl⟩ : ∃ x m, told = [x, .tup [.int m]] := by
        rcases ht with ht | ht
        · unfold tooFew at tf
          split at tf
          · simp at ht
          · cases tf
        · exact ht
      have hlt : m < k := by simpa [tooFew] using tf
      have h6 := st.idx (cx (n+7)).tabs (i := 1) (by omega) rfl
      rw [if_pos tf]
      refine step_yes (n+2) 0 b "move" _ "move_step" v _ h (by kernel_rfl) (by kernel_rfl) hm rfl ?_
      rw [run_move_step]
      unfold idV at *
      simp [runDef, d_move_step, initEnv, fin_pure, h5, h6, h7, h8, hlt]
    · rw [if_neg tf]
      refine step_yes (n+2) 0 b "move" _ "move_step" v _ h (by kernel_rfl) (by kernel_rfl) hm nr ?_
      rw [run_move_step]
      rcases ht with ht | ⟨x, m, rfl⟩
      · have hz : ((told.length : Int) = 2) = False := by simp; omega
        have hz2 : ((told.length : Int) == 2) = false := by simp; omega
        unfold moveA1 moveA2 moveW at *
        unfold awayK roadK freeK reqV doneA idV at *
        simp [runDef, d_move_step, initEnv, fin_pure, ha, h1, h1', h2, h3, h4, h5, hz, hz2]
      · have h6 := st.idx (cx (n+7)).tabs (i := 1) (by omega) rfl
        have hlt : ¬ m < k := by simpa [tooFew] using tf
        unfold moveA1 moveA2 moveW at *
        unfold awayK roadK freeK reqV doneA idV at *
        simp [runDef, d_move_step, initEnv, fin_pure, ha, h1, h1', h2, h3, h4, h5, h6, hlt]
  · rw [if_neg q]
    have hm := may_plain (n+7) c "move" [.int s, .str w, .int k] (by decide) h
    exact step_no (n+2) c b "move" _ v h (by rw [hm]; simp [clerks, q])
def arrA1 (a b' : Int) (w : Str) : Val := askV 1 [reqV (awayK w) "add" 0, reqV (roadK a b') "own" 0]
def arrA2 (s : Int) (w : Str) : Val := askV s [reqV (freeK s w) "add" 0]
def arrW (a b' s : Int) (w : Str) (k : Int) : List Val := [.tup [awayK w, .int (-k)], .tup [roadK a b', .non], .tup [freeK s w, .int k]]
def arriveS (c a b' s : Int) (w : Str) (told : List Val) : Val := if c = 0 then (match told with
  | [] => arrA1 a b' w
  | .tup [x, .tup [.str v, .int k]] :: r => if v = w then nextV [arrA1 a b' w, arrA2 s w] (.tup [x, .tup [.str v, .int k]] :: r) (doneV (arrW a b' s w k) doneA) else refV "road"
  | _ => refV "road") else refV "right"
theorem arrive_ok (n : Nat) (c b a b' s : Int) (w : Str) (ha9 : 0 ≤ a ∧ a ≤ 9) (hb : 1 ≤ b' ∧ b' ≤ 999) (hs : St s) (hw : Word w) {v : Val} {told : List Val} {h : EHeap} (st : SeqV h v told) (ht : told = [] ∨ ∃ x rec r, told = .tup [x, rec] :: r ∧ (rec = .non ∨ ∃ u k, rec = .tup [.str u, .int k] ∧ k ≠ 0)) : run G (n+9) "next_step" [idV c b, arriveD a b' s w, v] h = .ok (arriveS c a b' s w told) h := by
  unfold arriveS
  have h1s : (1 : Int) < s := by unfold St at hs; omega
  by_cases q : c = 0
  · subst q
    rw [if_pos rfl]
    have hm := may_plain (n+7) 0 "arrive" [idV a b', .int s, .str w] (by decide) h
    have ha := add_ok (n+6) (awayK w) rfl h
    have ha2 := add_ok (n+6) (freeK s w) rfl h
    have h1 := ask_w (n+6) 1 (l := [reqV (awayK w) "add" 0, reqV (roadK a b') "own" 0]) (.refl _) (pw2 (lt_req (lt_name (by simp)))) (reqs_ok [(awayK w, "add", 0), (roadK a b', "own", 0)] rfl) h
    have h1' := ask_w (n+6) s (l := [reqV (freeK s w) "add" 0]) (.refl _) (by simp) (reqs_ok [(freeK s w, "add", 0)] rfl) h
    have h5 := st.len
    have h7 := refusal_ok (n+6) "road" h
    have h8 : fzV h h.length (refV "road") = _ := fz_plain rfl
    rcases ht with rfl | ⟨x, rec, r, rfl, hrec⟩
    · have h4 : fzV h h.length (arrA1 a b' w) = _ := fz_plain rfl
      refine step_yes (n+2) 0 b "arrive" _ "arrive_step" v _ h (by kernel_rfl) (by kernel_rfl) hm rfl ?_
      rw [run_arrive_step]
      unfold arrA1 at *
      unfold awayK roadK freeK reqV idV at *
      simp [runDef, d_arrive_step, initEnv, fin_pure, ha, ha2, h1, h1', h4, h5]
    · have h6 := st.idx (cx (n+7)).tabs (i := 0) (by omega) rfl
      have hz : ((r.length : Int) + 1 = 0) = False := by simp; omega
      have hz2 : ((r.length : Int) + 1 == 0) = false := by simp; omega
      rcases hrec with rfl | ⟨u, k, rfl, hk⟩
      · refine step_yes (n+2) 0 b "arrive" _ "arrive_step" v _ h (by kernel_rfl) (by kernel_rfl) hm rfl ?_
        rw [run_arrive_step]
        unfold awayK roadK freeK reqV idV at *
        simp [runDef, d_arrive_step, initEnv, fin_pure, ha, ha2, h1, h1', h5, h6, h7, h8, hz, hz2]
      · by_cases hu : u = w
        · subst hu
          have h2 := end_l (n+1) [(awayK u, true, .int (-k)), (roadK a b', false, .non), (freeK s u, true, .int k)] [(awayK u, true, .int (-k)), (roadK a b', false, .non), (freeK s u, true, .int k)] doneA h (by simp; exact ⟨⟨AM_away u hw, rfl⟩, ⟨AM_road a b' ha9 hb, rfl⟩, AM_free s u hs hw, rfl⟩) (by simp [keepW, eqv, hk]) (pw3 (lt_name (by simp)) (lt_house h1s) (lt_house h1s)) rfl
          have nr : noRef (nextV [arrA1 a b' u, arrA2 s u] (.tup [x, .tup [.str u, .int k]] :: r) (doneV (arrW a b' s u k) doneA)) = true := next_noRef rfl rfl
          have h3 := next_ok (n+6) [arrA1 a b' u, arrA2 s u] _ (doneV (arrW a b' s u k) doneA) _ v h (.lst _) st nr
          have h4 : fzV h h.length _ = _ := fz_plain nr
          simp only [List.map, Wr.pair] at h2
          show _ = R.ok (if u = u then _ else _) h
          rw [if_pos rfl]
          refine step_yes (n+2) 0 b "arrive" _ "arrive_step" v _ h (by kernel_rfl) (by kernel_rfl) hm nr ?_
          rw [run_arrive_step]
          unfold arrA1 arrA2 arrW at *
          unfold awayK roadK freeK reqV doneA idV at *
          simp [runDef, d_arrive_step, initEnv, fin_pure, ha, ha2, h1, h1', h2, h3, h4, h5, h6, hz, hz2]
        · have hu' : (u == w) = false := by simpa using hu
          show _ = R.ok (if u = w then _ else _) h
          rw [if_neg hu]
          refine step_yes (n+2) 0 b "arrive" _ "arrive_step" v _ h (by kernel_rfl) (by kernel_rfl) hm rfl ?_
          rw [run_arrive_step]
          unfold awayK roadK freeK reqV idV at *
          simp [runDef, d_arrive_step, initEnv, fin_pure, ha, ha2, h1, h1', h5, h6, h7, h8, hz, hz2, hu, hu']
  · rw [if_neg q]
    have hm := may_plain (n+7) c "arrive" [idV a b', .int s, .str w] (by decide) h
    exact step_no (n+2) c b "arrive" _ v h (by rw [hm]; simp [clerks, q])
end S15

end
section
set_option Elab.async false
set_option linter.all false
set_option maxRecDepth 20000
namespace S15
open Ev Sim P15
open PySem (Str)
/-! ### count, coins, look -/
theorem get_end (h : EHeap) (o : EObj) : (h ++ [o])[h.length]? = some o := by simp
theorem set_end (h : EHeap) (o p : EObj) : (h ++ [o]).set h.length p = h ++ [p] := by simp
theorem app_end (h : EHeap) (l : List Val) (v : Val) (hl : (l.length < 16777216) = True) : pmV .append (.ref h.length) [v] (h ++ [.list l]) = .ok .non (h ++ [.list (l ++ [v])]) := by
  rw [app_list (get_end _ _) (of_eq_true hl), set_end]
theorem recv_end (h : EHeap) (l : List Val) : recv .append (.ref h.length) (h ++ [.list l]) = .ok () (h ++ [.list l]) := recv_app (get_end _ _)
theorem len_end (h : EHeap) (l : List Val) : primV .len [.ref h.length] (h ++ [.list l]) = .ok (.int l.length) (h ++ [.list l]) := len_ref (get_end _ _)
def countAsk (w : Str) : List Val := [askV 1 [reqV (awayK w) "see" 0], askV 2 [reqV (freeK 2 w) "see" 0, reqV (heldK 2 w) "see" 0], askV 3 [reqV (freeK 3 w) "see" 0, reqV (heldK 3 w) "see" 0], askV 4 [reqV (freeK 4 w) "see" 0, reqV (heldK 4 w) "see" 0]]
def countE (a : Val) (r : List Val) : Val := doneV [] (.tup [.str (lit "counts"), a, .tup r])
def countS (c : Int) (w : Str) (told : List Val) : Val := if c = 0 then (match (countAsk w)[told.length]? with
  | some a => a
  | none => match told with
    | .tup [a] :: r => countE a r
    | _ => .non) else refV "right"
def isTupV : Val → Bool
  | .tup _ => true
  | _ => false
theorem count_ok (n : Nat) (c b : Int) (w : Str) (hw : Word w) {v : Val} {told : List Val} {h : EHeap} (st : SeqV h v told) (ht : told.length < 4 ∨ ∃ a r, told = .tup [a] :: r ∧ r.length = 3 ∧ r.all isTupV = true ∧ noRefs told = true) : run G (n+9) "next_step" [idV c b, countD w, v] h = .ok (countS c w told) h := by
  unfold countS
  by_cases q : c = 0
  · subst q
    rw [if_pos rfl]
    have hm := may_plain (n+7) 0 "count" [.str w] (by decide) h
    have h1 := fun h => ask_w (n+6) 1 (l := [reqV (awayK w) "see" 0]) (.refl _) (by simp) (reqs_ok [(awayK w, "see", 0)] rfl) h
    have h2 := fun h s => ask_w (n+6) s (l := [reqV (freeK s w) "see" 0, reqV (heldK s w) "see" 0]) (.refl _) (pw2 (lt_req (lt_name (by simp)))) (reqs_ok [(freeK s w, "see", 0), (heldK s w, "see", 0)] rfl) h
    have hl := fun o => (st.app [o]).len
    rcases ht with ht | ⟨a, r, rfl, hr, hall, hno⟩
    · have ha : (countAsk w)[told.length]? = some (countAsk w)[told.length] := by simp [countAsk, ht]
      obtain ⟨a, ea⟩ : ∃ a, a = (countAsk w)[told.length] := ⟨_, rfl⟩
      rw [← ea] at ha
      rw [ha]
      have nr : noRef a = true := by
        have : a ∈ countAsk w := List.mem_of_getElem? ha
        simp only [countAsk, List.mem_cons, List.not_mem_nil, or_false] at this
        rcases this with rfl | rfl | rfl | rfl <;> rfl
      have h6 : ∀ o, fzV (h ++ [o]) h.length a = _ := fun o => fz_plain nr
      refine step_yes (n+2) 0 b "count" _ "count_step" v _ h (by kernel_rfl) (by kernel_rfl) hm nr ?_
      rw [run_count_step]
      have i0 : ((told.length : Int) < 4) = True := by simp; omega
      have h9 : idxV (cx (n+7)).tabs (.ref h.length) (.int told.length) (h ++ [.list (countAsk w)]) = .ok a (h ++ [.list (countAsk w)]) := idx_ref _ (get_end _ _) (by omega) (by simpa using ha)
      unfold countAsk at *
      unfold awayK freeK heldK reqV idV at *
      simp [runDef, d_count_step, initEnv, fin_more, h1, h2, hl, for_cons, for_nil, recv_end, app_end, len_end, most, i0, h9, h6]
    · obtain ⟨r1, r2, r3, rfl⟩ : ∃ r1 r2 r3, r = [r1, r2, r3] := by
        match r, hr with
        | [r1, r2, r3], _ => exact ⟨r1, r2, r3, rfl⟩
      have tupe : ∀ x : Val, isTupV x = true → ∃ l, x = .tup l := fun x hx => by cases x <;> first | exact ⟨_, rfl⟩ | cases hx
      simp only [List.all_cons, List.all_nil, Bool.and_true, Bool.and_eq_true] at hall
      obtain ⟨l1, rfl⟩ := tupe _ hall.1
      obtain ⟨l2, rfl⟩ := tupe _ hall.2.1
      obtain ⟨l3, rfl⟩ := tupe _ hall.2.2
      have nr : noRef (countE a [.tup l1, .tup l2, .tup l3]) = true := by
        simp [noRefs, noRef] at hno
        simp [countE, doneV, noRef, noRefs, hno]
      have nr2 : noRef (.tup [.str (lit "counts"), a, .tup [.tup l1, .tup l2, .tup l3]]) = true := by
        simp [noRefs, noRef] at hno
        simp [noRef, noRefs, hno]
      have h6 : ∀ o, fzV (h ++ [o]) h.length (countE a [.tup l1, .tup l2, .tup l3]) = _ := fun o => fz_plain nr
      have h7 := fun h => end_l (n+1) [] [] (.tup [.str (lit "counts"), a, .tup [.tup l1, .tup l2, .tup l3]]) h (by simp) (.refl _) (by simp) nr2
      have h8 : ∀ o, idxV (cx (n+7)).tabs v (.int 0) (h ++ [o]) = .ok (.tup [a]) (h ++ [o]) := fun o => (st.app [o]).idx _ (by omega) rfl
      have h9 : ∀ o, ∃ u, sliceV v (some 1) none (h ++ [o]) = .ok u (h ++ [o]) ∧ itVal u (h ++ [o]) = .ok ([.tup l1, .tup l2, .tup l3], none) (h ++ [o]) := fun o => by
        obtain ⟨u, e1, _, e3⟩ := (st.app [o]).cut (some 1) none
        exact ⟨u, e1, e3⟩
      obtain ⟨u, e1, e2⟩ := h9 (.list (countAsk w))
      have hc : ∀ e0 e1 e2 e3 e4 e5, quiet (compLoop none (fun v => some (List.set (wipeE [e0, e1, e2, e3, e4, e5, none] [6]) 6 (some v))) (fun e => pure true) (fun e => evE (cx (n+7)) (.prim .tuple1 (.cons (.var 6) .nil)) e) [.tup l1, .tup l2, .tup l3]) (h ++ [.list (countAsk w)]) = .ok [.tup l1, .tup l2, .tup l3] (h ++ [.list (countAsk w)]) := fun e0 e1 e2 e3 e4 e5 => by
        have := comp_map (bind := fun v => some (List.set (wipeE [e0, e1, e2, e3, e4, e5, none] [6]) 6 (some v))) (cond := fun e => pure true) (elt := fun e => evE (cx (n+7)) (.prim .tuple1 (.cons (.var 6) .nil)) e) id (h ++ [.list (countAsk w)]) [.tup l1, .tup l2, .tup l3] (by
          intro v hv
          refine ⟨_, rfl, rfl, ?_⟩
          simp only [List.mem_cons, List.not_mem_nil, or_false] at hv
          rcases hv with rfl | rfl | rfl <;> simp [wipeE])
        exact quiet_of this
      show _ = R.ok (countE a [.tup l1, .tup l2, .tup l3]) h
      refine step_yes (n+2) 0 b "count" _ "count_step" v _ h (by kernel_rfl) (by kernel_rfl) hm nr ?_
      rw [run_count_step]
      simp only [List.map] at h7
      unfold countAsk countE at *
      unfold awayK freeK heldK reqV idV at *
      simp [runDef, d_count_step, initEnv, fin_more, h1, h2, hl, for_cons, for_nil, recv_end, app_end, len_end, most, h6, h7, h8, e1, e2, hc, isNop]
  · rw [if_neg q]
    have hm := may_plain (n+7) c "count" [.str w] (by decide) h
    exact step_no (n+2) c b "count" _ v h (by rw [hm]; simp [clerks, q])
theorem purse_of_ok (n : Nat) (c b : Int) (h : EHeap) : run G (n+1) "purse_of" [idV c b] h = .ok (purseK c) h := by
  rw [run_purse_of]
  simp [runDef, d_purse_of, initEnv, fin_pure, fzV, noRef, noRefs, idV, purseK]
theorem order_key_ok (n : Nat) (c b : Int) (h : EHeap) : run G (n+1) "order_key" [idV c b] h = .ok (orderK c b) h := by
  rw [run_order_key]
  simp [runDef, d_order_key, initEnv, fin_pure, fzV, noRef, noRefs, idV, orderK]
def payS (c : Int) (z : Int) (told : List Val) : Val := if c = 0 then refV "right" else nextV [askV 5 [reqV paidK "add" 0, reqV (purseK c) "add" 0]] told (doneV [.tup [paidK, .int z], .tup [purseK c, .int z]] doneA)
theorem pay_ok (n : Nat) (c b : Int) (z : Int) (hc : 0 ≤ c ∧ c ≤ 9) (hz : z ≠ 0) {v : Val} {told : List Val} {h : EHeap} (st : SeqV h v told) : run G (n+9) "next_step" [idV c b, payD z, v] h = .ok (payS c z told) h := by
  unfold payS
  have hm := may_plain (n+7) c "pay" [.int z] (by decide) h
  by_cases q : c = 0
  · rw [if_pos q]
    exact step_no (n+2) c b "pay" _ v h (by rw [hm]; simp [clerks, q])
  · rw [if_neg q]
    have ha := add_ok (n+6) paidK rfl h
    have hb := add_ok (n+6) (purseK c) rfl h
    have hp := purse_of_ok (n+6) c b h
    have h1 := ask_w (n+6) 5 (l := [reqV paidK "add" 0, reqV (purseK c) "add" 0]) (.refl _) (pw2 (lt_req (lt_name (by simp)))) (reqs_ok [(paidK, "add", 0), (purseK c, "add", 0)] rfl) h
    have h2 := end_l (n+1) [(paidK, true, .int z), (purseK c, true, .int z)] [(paidK, true, .int z), (purseK c, true, .int z)] doneA h (by simp; exact ⟨⟨AM_paid, rfl⟩, AM_purse c (by omega), rfl⟩) (by simp [keepW, eqv, hz]) (pw2 (lt_name (by simp))) rfl
    have nr : noRef (nextV [askV 5 [reqV paidK "add" 0, reqV (purseK c) "add" 0]] told (doneV [.tup [paidK, .int z], .tup [purseK c, .int z]] doneA)) = true := next_noRef rfl rfl
    have h3 := next_ok (n+6) _ told _ _ v h (.lst _) st nr
    have h4 : fzV h h.length _ = _ := fz_plain nr
    refine step_yes (n+2) c b "pay" _ "pay_step" v _ h (by kernel_rfl) (by kernel_rfl) (by rw [hm]; simp [clerks, q]) nr ?_
    rw [run_pay_step]
    simp only [List.map, Wr.pair] at h2
    unfold paidK purseK reqV doneA at *
    simp [runDef, d_pay_step, initEnv, fin_pure, ha, hb, hp, h1, h2, h3, h4]
def tooPoor (z : Int) (told : List Val) : Bool := match told with
  | .tup [_, .int m] :: _ => decide (m < z)
  | _ => false
def drawS (c : Int) (z : Int) (told : List Val) : Val := if c = 0 then refV "right" else if tooPoor z told = true then refV "coins" else nextV [askV 5 [reqV paidK "add" 0, reqV (purseK c) "take" z]] told (doneV [.tup [paidK, .int (-z)], .tup [purseK c, .int (-z)]] doneA)
theorem draw_ok (n : Nat) (c b : Int) (z : Int) (hc : 0 ≤ c ∧ c ≤ 9) (hz : z ≠ 0) {v : Val} {told : List Val} {h : EHeap} (st : SeqV h v told) (ht : told = [] ∨ ∃ x m r, told = .tup [x, .int m] :: r) : run G (n+9) "next_step" [idV c b, drawD z, v] h = .ok (drawS c z told) h := by
  unfold drawS
  have hm := may_plain (n+7) c "draw" [.int z] (by decide) h
  by_cases q : c = 0
  · rw [if_pos q]
    exact step_no (n+2) c b "draw" _ v h (by rw [hm]; simp [clerks, q])
  · rw [if_neg q]
    have ha := add_ok (n+6) paidK rfl h
    have hp := purse_of_ok (n+6) c b h
    have h1 := ask_w (n+6) 5 (l := [reqV paidK "add" 0, reqV (purseK c) "take" z]) (.refl _) (pw2 (lt_req (lt_name (by simp)))) (reqs_ok [(paidK, "add", 0), (purseK c, "take", z)] rfl) h
    have h2 := end_l (n+1) [(paidK, true, .int (-z)), (purseK c, true, .int (-z))] [(paidK, true, .int (-z)), (purseK c, true, .int (-z))] doneA h (by simp; exact ⟨⟨AM_paid, rfl⟩, AM_purse c (by omega), rfl⟩) (by simp [keepW, eqv, hz]) (pw2 (lt_name (by simp))) rfl
    have nr : noRef (nextV [askV 5 [reqV paidK "add" 0, reqV (purseK c) "take" z]] told (doneV [.tup [paidK, .int (-z)], .tup [purseK c, .int (-z)]] doneA)) = true := next_noRef rfl rfl
    have h3 := next_ok (n+6) _ told _ _ v h (.lst _) st nr
    have h4 : fzV h h.length _ = _ := fz_plain nr
    have h5 := st.len
    have h7 := refusal_ok (n+6) "coins" h
    have h8 : fzV h h.length (refV "coins") = _ := fz_plain rfl
    simp only [List.map, Wr.pair] at h2
    rcases ht with rfl | ⟨x, m, r, rfl⟩
    · rw [if_neg (by simp [tooPoor])]
      refine step_yes (n+2) c b "draw" _ "draw_step" v _ h (by kernel_rfl) (by kernel_rfl) (by rw [hm]; simp [clerks, q]) nr ?_
      rw [run_draw_step]
      unfold paidK purseK reqV doneA at *
      simp [runDef, d_draw_step, initEnv, fin_pure, ha, hp, h1, h2, h3, h4, h5]
    · have h6 := st.idx (cx (n+7)).tabs (i := 0) (by omega) rfl
      by_cases tf : m < z
      · rw [if_pos (by simp [tooPoor, tf])]
        refine step_yes (n+2) c b "draw" _ "draw_step" v _ h (by kernel_rfl) (by kernel_rfl) (by rw [hm]; simp [clerks, q]) rfl ?_
        rw [run_draw_step]
        simp [runDef, d_draw_step, initEnv, fin_pure, hp, h5, h6, h7, h8, tf]
      · rw [if_neg (by simp [tooPoor, tf])]
        refine step_yes (n+2) c b "draw" _ "draw_step" v _ h (by kernel_rfl) (by kernel_rfl) (by rw [hm]; simp [clerks, q]) nr ?_
        rw [run_draw_step]
        unfold paidK purseK reqV doneA at *
        simp [runDef, d_draw_step, initEnv, fin_pure, ha, hp, h1, h2, h3, h4, h5, h6, tf]
def purseS (c : Int) (told : List Val) : Val := if c = 0 then refV "right" else match told with
  | .tup (x :: _) :: _ => doneV [] (.tup [.str (lit "coins"), x])
  | _ => askV 5 [reqV (purseK c) "see" 0]
theorem purse_ok (n : Nat) (c b : Int) {v : Val} {told : List Val} {h : EHeap} (st : SeqV h v told) (ht : told = [] ∨ ∃ x r, told = .tup [x] :: r ∧ noRef x = true) : run G (n+9) "next_step" [idV c b, purseD, v] h = .ok (purseS c told) h := by
  unfold purseS
  have hm := may_plain (n+7) c "purse" [] (by decide) h
  by_cases q : c = 0
  · rw [if_pos q]
    exact step_no (n+2) c b "purse" _ v h (by rw [hm]; simp [clerks, q])
  · rw [if_neg q]
    have hp := purse_of_ok (n+6) c b h
    have h1 := ask_w (n+6) 5 (l := [reqV (purseK c) "see" 0]) (.refl _) (by simp) (reqs_ok [(purseK c, "see", 0)] rfl) h
    have h5 := st.len
    rcases ht with rfl | ⟨x, r, rfl, nx⟩
    · have h4 : fzV h h.length (askV 5 [reqV (purseK c) "see" 0]) = _ := fz_plain rfl
      refine step_yes (n+2) c b "purse" _ "purse_step" v _ h (by kernel_rfl) (by kernel_rfl) (by rw [hm]; simp [clerks, q]) rfl ?_
      rw [run_purse_step]
      unfold purseK reqV at *
      simp [runDef, d_purse_step, initEnv, fin_pure, hp, h1, h4, h5]
    · have h6 := st.idx (cx (n+7)).tabs (i := 0) (by omega) rfl
      have nr : noRef (doneV [] (.tup [.str (lit "coins"), x])) = true := by simp [doneV, noRef, noRefs, nx]
      have h4 : fzV h h.length _ = _ := fz_plain nr
      have h2 := end_l (n+1) [] [] (.tup [.str (lit "coins"), x]) h (by simp) (.refl _) (by simp) (by simp [noRef, noRefs, nx])
      have hz : ((r.length : Int) + 1 = 0) = False := by simp; omega
      have hz2 : ((r.length : Int) + 1 == 0) = false := by simp; omega
      simp only [List.map] at h2
      refine step_yes (n+2) c b "purse" _ "purse_step" v _ h (by kernel_rfl) (by kernel_rfl) (by rw [hm]; simp [clerks, q]) nr ?_
      rw [run_purse_step]
      simp [runDef, d_purse_step, initEnv, fin_pure, hp, h1, h2, h4, h5, h6, hz, hz2]
def lookS (c a k : Int) (told : List Val) : Val := if mayOwn c a "look" = true then (match told with
  | .tup (x :: _) :: _ => if x = .non then refV "order" else doneV [] (.tup [.str (lit "shows"), x])
  | _ => askV 1 [reqV (orderK a k) "see" 0]) else refV "right"
theorem look_ok (n : Nat) (c b a k : Int) {v : Val} {told : List Val} {h : EHeap} (st : SeqV h v told) (ht : told = [] ∨ ∃ x r, told = .tup [x] :: r ∧ noRef x = true) : run G (n+9) "next_step" [idV c b, lookD a k, v] h = .ok (lookS c a k told) h := by
  unfold lookS
  have hm := may_own (n+7) c a k "look" [] (by decide) h
  by_cases q : mayOwn c a "look" = true
  · rw [if_pos q]
    rw [q] at hm
    have hp := order_key_ok (n+6) a k h
    have h1 := ask_w (n+6) 1 (l := [reqV (orderK a k) "see" 0]) (.refl _) (by simp) (reqs_ok [(orderK a k, "see", 0)] rfl) h
    have h5 := st.len
    rcases ht with rfl | ⟨x, r, rfl, nx⟩
    · have h4 : fzV h h.length (askV 1 [reqV (orderK a k) "see" 0]) = _ := fz_plain rfl
      refine step_yes (n+2) c b "look" _ "look_step" v _ h (by kernel_rfl) (by kernel_rfl) hm rfl ?_
      rw [run_look_step]
      unfold orderK reqV idV at *
      simp [runDef, d_look_step, initEnv, fin_pure, hp, h1, h4, h5]
    · have h6 := st.idx (cx (n+7)).tabs (i := 0) (by omega) rfl
      have hz : ((r.length : Int) + 1 = 0) = False := by simp; omega
      have hz2 : ((r.length : Int) + 1 == 0) = false := by simp; omega
      show _ = R.ok (if x = .non then _ else _) h
      by_cases hx : x = .non
      · rw [if_pos hx]
        have h4 : fzV h h.length (refV "order") = _ := fz_plain rfl
        have h7 := refusal_ok (n+6) "order" h
        refine step_yes (n+2) c b "look" _ "look_step" v _ h (by kernel_rfl) (by kernel_rfl) hm rfl ?_
        rw [run_look_step]
        simp [runDef, d_look_step, initEnv, fin_pure, h4, h5, h6, h7, hz, hz2, hx]
      · rw [if_neg hx]
        have nr : noRef (doneV [] (.tup [.str (lit "shows"), x])) = true := by simp [doneV, noRef, noRefs, nx]
        have h4 : fzV h h.length _ = _ := fz_plain nr
        have h2 := end_l (n+1) [] [] (.tup [.str (lit "shows"), x]) h (by simp) (.refl _) (by simp) (by simp [noRef, noRefs, nx])
        simp only [List.map] at h2
        refine step_yes (n+2) c b "look" _ "look_step" v _ h (by kernel_rfl) (by kernel_rfl) hm nr ?_
        rw [run_look_step]
        simp [runDef, d_look_step, initEnv, fin_pure, h2, h4, h5, h6, hz, hz2, hx]
  · rw [if_neg q]
    have q' : mayOwn c a "look" = false := by simpa using q
    rw [q'] at hm
    exact step_no (n+2) c b "look" _ v h hm
end S15

end
section
set_option Elab.async false
set_option linter.all false
set_option maxRecDepth 20000
namespace S15
open Ev Sim P15
open PySem (Str)
/-! ### the law's own reckoning -/
theorem law_refused_ok (n : Nat) (w : String) (h : EHeap) : run G (n+1) "_law_refused" [.str (lit w)] h = .ok (refV w) h := by
  rw [run__law_refused]
  simp [runDef, d__law_refused, initEnv, fin_pure, fzV, noRef, noRefs, refV, doneV, refusedV]
theorem mem_names (n : Nat) (k : String) (l : List String) (h : EHeap) : memV (cx n).tabs (.str (lit k)) (.tup (l.map fun s => .str (lit s))) h = .ok (decide (k ∈ l)) h := by
  have h1 : flatE (.str (lit k)) = true := rfl
  have h2 : (l.map fun s => Val.str (lit s)).all flatE = true := by simp [flatE]
  unfold memV
  simp only
  rw [if_pos ⟨h1, h2⟩, names_any]
def officeL (w : Val) : List (Val × Val) := [(.str (lit "price"), .tup [.int 1, .str (lit "price"), w]), (.str (lit "rate"), .tup [.int 1, .str (lit "rate")]), (.str (lit "coupon"), .tup [.int 1, .str (lit "coupon"), w])]
theorem office_fold (w : Val) : List.foldl (fun e p => dictPut e p.1 p.2) [] (officeL w) = officeL w := by
  simp [officeL, dictPut]
theorem office_idx (n : Nat) (w : Val) (h : EHeap) (k : String) (z : Val) (hz : dictGet (officeL w) (.str (lit k)) = some z) : idxV (cx n).tabs (.ref h.length) (.str (lit k)) (h ++ [.dict false (officeL w)]) = .ok z (h ++ [.dict false (officeL w)]) :=
  idx_dict _ (get_end _ _) rfl hz
section
variable {v : Val} {told : List Val} {h : EHeap}
theorem told_cases (told : List Val) : told = [] ∨ ∃ x r, told = x :: r := by cases told with
  | nil => exact .inl rfl
  | cons x r => exact .inr ⟨x, r, rfl⟩
theorem len_ne {x : Val} {r : List Val} : (((x :: r).length : Int) == 0) = false := by simp; omega
theorem due_price (n : Nat) (w : Str) (z : Int) (st : SeqV h v told) : run G (n+2) "_law_due_office" [priceD w z, v] h = .ok (priceS 0 w z told) h := by
  have hi := office_idx (n+1) (.str w) h "price" _ rfl
  have hf := office_fold (.str w)
  have hl := fun o => (st.app [o]).len
  have nr : noRef (priceS 0 w z told) = true := next_noRef rfl rfl
  have h4 : ∀ o, fzV (h ++ [o]) h.length (priceS 0 w z told) = _ := fun o => fz_plain nr
  rw [run__law_due_office]
  rcases told_cases told with rfl | ⟨x, r, rfl⟩
  · have e : priceS 0 w z [] = askV 1 [reqV (priceK w) "own" 0] := rfl
    rw [e] at h4 ⊢
    unfold officeL askV priceK reqV priceD at *
    simp [runDef, d__law_due_office, initEnv, fin_more, evE_dict, empty_end, fill_end, hf, hi, hl, h4]
  · have e : priceS 0 w z (x :: r) = doneV [.tup [priceK w, .int z]] doneA := by simp [priceS, nextV]
    have hz : ((r.length : Int) + 1 == 0) = false := by simp; omega
    have hz' : ((r.length : Int) + 1 = 0) = False := by simp; omega
    rw [e] at h4 ⊢
    unfold officeL doneV priceK doneA priceD at *
    simp [runDef, d__law_due_office, initEnv, fin_more, evE_dict, empty_end, fill_end, hf, hi, hl, hz, hz', h4]
theorem due_rate (n : Nat) (z : Int) (st : SeqV h v told) : run G (n+2) "_law_due_office" [rateD z, v] h = .ok (rateS 0 z told) h := by
  have hi := office_idx (n+1) (.int z) h "rate" _ rfl
  have hf := office_fold (.int z)
  have hl := fun o => (st.app [o]).len
  have nr : noRef (rateS 0 z told) = true := next_noRef rfl rfl
  have h4 : ∀ o, fzV (h ++ [o]) h.length (rateS 0 z told) = _ := fun o => fz_plain nr
  rw [run__law_due_office]
  rcases told_cases told with rfl | ⟨x, r, rfl⟩
  · have e : rateS 0 z [] = askV 1 [reqV rateK "own" 0] := rfl
    rw [e] at h4 ⊢
    unfold officeL askV rateK reqV rateD at *
    simp [runDef, d__law_due_office, initEnv, fin_more, evE_dict, empty_end, fill_end, hf, hi, hl, h4]
  · have e : rateS 0 z (x :: r) = doneV [.tup [rateK, .int z]] doneA := by simp [rateS, nextV]
    have hz : ((r.length : Int) + 1 == 0) = false := by simp; omega
    have hz' : ((r.length : Int) + 1 = 0) = False := by simp; omega
    rw [e] at h4 ⊢
    unfold officeL doneV rateK doneA rateD at *
    simp [runDef, d__law_due_office, initEnv, fin_more, evE_dict, empty_end, fill_end, hf, hi, hl, hz, hz', h4]
theorem due_coupon (n : Nat) (w : Str) (z : Int) (st : SeqV h v told) (ht : told = [] ∨ ∃ x r, told = .tup [x] :: r) : run G (n+2) "_law_due_office" [couponD w z, v] h = .ok (couponS 0 w z told) h := by
  have hi := office_idx (n+1) (.str w) h "coupon" _ rfl
  have hf := office_fold (.str w)
  have hl := fun o => (st.app [o]).len
  have h7 := fun h => law_refused_ok n "coupon" h
  rw [run__law_due_office]
  rcases ht with rfl | ⟨x, r, rfl⟩
  · have e : couponS 0 w z [] = askV 1 [reqV (couponK w) "own" 0] := rfl
    have h4 : ∀ o, fzV (h ++ [o]) h.length (couponS 0 w z []) = _ := fun o => fz_plain rfl
    rw [e] at h4 ⊢
    unfold officeL askV couponK reqV couponD at *
    simp [runDef, d__law_due_office, initEnv, fin_more, evE_dict, empty_end, fill_end, hf, hi, hl, h4]
  · have hz : ((r.length : Int) + 1 == 0) = false := by simp; omega
    have hz' : ((r.length : Int) + 1 = 0) = False := by simp; omega
    have h6 := fun o => (st.app [o]).idx (cx (n+1)).tabs (i := 0) (by omega) rfl
    by_cases hx : x = .non
    · have e : couponS 0 w z (.tup [x] :: r) = doneV [.tup [couponK w, .tup [.str (lit "unused"), .int z]]] doneA := by simp [couponS, tFirst, hx]
      have h4 : ∀ o, fzV (h ++ [o]) h.length (doneV [.tup [couponK w, .tup [.str (lit "unused"), .int z]]] doneA) = _ := fun o => fz_plain rfl
      rw [e]
      unfold officeL doneV couponK doneA couponD at *
      simp [runDef, d__law_due_office, initEnv, fin_more, evE_dict, empty_end, fill_end, hf, hi, hl, hz, hz', h4, h6, hx]
    · have e : couponS 0 w z (.tup [x] :: r) = refV "coupon" := by simp [couponS, tFirst, hx]
      have h4 : ∀ o, fzV (h ++ [o]) h.length (refV "coupon") = _ := fun o => fz_plain rfl
      rw [e]
      unfold officeL couponD at *
      simp [runDef, d__law_due_office, initEnv, fin_more, evE_dict, empty_end, fill_end, hf, hi, hl, hz, hz', h4, h6, hx, h7]
theorem due_stock (n : Nat) (b s : Int) (w : Str) (k : Int) (st : SeqV h v told) : run G (n+2) "_law_due_goods" [idV 0 b, stockD s w k, v] h = .ok (stockS 0 s w k told) h := by
  have hl := st.len
  have nr : noRef (stockS 0 s w k told) = true := next_noRef rfl rfl
  have h4 : fzV h h.length (stockS 0 s w k told) = _ := fz_plain nr
  rw [run__law_due_goods]
  rcases told_cases told with rfl | ⟨x, r, rfl⟩
  · have e : stockS 0 s w k [] = askV s [reqV (cameK s w) "add" 0, reqV (freeK s w) "add" 0] := rfl
    rw [e] at h4 ⊢
    unfold askV cameK freeK reqV stockD at *
    simp [runDef, d__law_due_goods, initEnv, fin_pure, hl, h4]
  · have e : stockS 0 s w k (x :: r) = doneV [.tup [cameK s w, .int k], .tup [freeK s w, .int k]] doneA := by simp [stockS, nextV]
    have hz : ((r.length : Int) + 1 == 0) = false := by simp; omega
    have hz' : ((r.length : Int) + 1 = 0) = False := by simp; omega
    rw [e] at h4 ⊢
    unfold doneV cameK freeK doneA stockD at *
    simp [runDef, d__law_due_goods, initEnv, fin_pure, hl, hz, hz', h4]
theorem due_move (n : Nat) (b s : Int) (w : Str) (k : Int) (st : SeqV h v told) (ht : told.length < 2 ∨ ∃ x m, told = [x, .tup [.int m]]) : run G (n+2) "_law_due_goods" [idV 0 b, moveD s w k, v] h = .ok (moveS 0 b s w k told) h := by
  have hl := st.len
  have h7 := law_refused_ok n "stock" h
  rw [run__law_due_goods]
  have hc : told = [] ∨ (∃ x, told = [x]) ∨ ∃ x m, told = [x, .tup [.int m]] := by
    rcases ht with ht | ht
    · match told, ht with
      | [], _ => exact .inl rfl
      | [x], _ => exact .inr (.inl ⟨x, rfl⟩)
    · exact .inr (.inr ht)
  rcases hc with rfl | ⟨x, rfl⟩ | ⟨x, m, rfl⟩
  · have e : moveS 0 b s w k [] = moveA1 b w := rfl
    have h4 : fzV h h.length (moveA1 b w) = _ := fz_plain rfl
    rw [e]
    unfold moveA1 at *
    unfold askV awayK roadK reqV moveD idV at *
    simp [runDef, d__law_due_goods, initEnv, fin_pure, hl, h4]
  · have e : moveS 0 b s w k [x] = moveA2 s w k := rfl
    have h4 : fzV h h.length (moveA2 s w k) = _ := fz_plain rfl
    rw [e]
    unfold moveA2 at *
    unfold askV freeK reqV moveD idV at *
    simp [runDef, d__law_due_goods, initEnv, fin_pure, hl, h4]
  · have h6 := st.idx (cx (n+1)).tabs (i := 1) (by omega) rfl
    by_cases hlt : m < k
    · have e : moveS 0 b s w k [x, .tup [.int m]] = refV "stock" := by simp [moveS, tooFew, hlt]
      have h4 : fzV h h.length (refV "stock") = _ := fz_plain rfl
      rw [e]
      unfold moveD idV at *
      simp [runDef, d__law_due_goods, initEnv, fin_pure, hl, h4, h6, h7, hlt]
    · have e : moveS 0 b s w k [x, .tup [.int m]] = doneV (moveW b s w k) doneA := by simp [moveS, tooFew, hlt, nextV]
      have h4 : fzV h h.length (doneV (moveW b s w k) doneA) = _ := fz_plain rfl
      rw [e]
      unfold moveW at *
      unfold doneV awayK roadK freeK doneA moveD idV at *
      simp [runDef, d__law_due_goods, initEnv, fin_pure, hl, h4, h6, hlt]
theorem due_arrive (n : Nat) (a b' s : Int) (w : Str) (st : SeqV h v told) (ht : told = [] ∨ ∃ x rec r, told = .tup [x, rec] :: r ∧ (rec = .non ∨ ∃ u k, rec = .tup [.str u, .int k] ∧ k ≠ 0)) (hlen : told.length < 3) : run G (n+2) "_law_due_arrive" [arriveD a b' s w, v] h = .ok (arriveS 0 a b' s w told) h := by
  have hl := st.len
  have h7 := law_refused_ok n "road" h
  have h8 : fzV h h.length (refV "road") = _ := fz_plain rfl
  rw [run__law_due_arrive]
  rcases ht with rfl | ⟨x, rec, r, rfl, hrec⟩
  · have e : arriveS 0 a b' s w [] = arrA1 a b' w := rfl
    have h4 : fzV h h.length (arrA1 a b' w) = _ := fz_plain rfl
    rw [e]
    unfold arrA1 at *
    unfold askV awayK roadK reqV arriveD idV at *
    simp [runDef, d__law_due_arrive, initEnv, fin_pure, hl, h4]
  · have h6 := st.idx (cx (n+1)).tabs (i := 0) (by omega) rfl
    have hz : ((r.length : Int) + 1 == 0) = false := by simp; omega
    have hz' : ((r.length : Int) + 1 = 0) = False := by simp; omega
    rcases hrec with rfl | ⟨u, k, rfl, hk⟩
    · have e : arriveS 0 a b' s w (.tup [x, .non] :: r) = refV "road" := rfl
      rw [e]
      unfold arriveD idV at *
      simp [runDef, d__law_due_arrive, initEnv, fin_pure, hl, h6, h7, h8, hz, hz']
    · by_cases hu : u = w
      · subst hu
        cases r with
        | nil =>
          have e : arriveS 0 a b' s u [.tup [x, .tup [.str u, .int k]]] = arrA2 s u := by simp [arriveS, nextV]
          have h4 : fzV h h.length (arrA2 s u) = _ := fz_plain rfl
          rw [e]
          unfold arrA2 at *
          unfold askV freeK reqV arriveD idV at *
          simp [runDef, d__law_due_arrive, initEnv, fin_pure, hl, h4, h6]
        | cons y r =>
          have hr : r = [] := by cases r with
            | nil => rfl
            | cons _ _ => simp at hlen; omega
          subst hr
          have e : arriveS 0 a b' s u [.tup [x, .tup [.str u, .int k]], y] = doneV (arrW a b' s u k) doneA := by simp [arriveS, nextV]
          have h4 : fzV h h.length (doneV (arrW a b' s u k) doneA) = _ := fz_plain rfl
          rw [e]
          unfold arrW at *
          unfold doneV awayK roadK freeK doneA arriveD idV at *
          simp [runDef, d__law_due_arrive, initEnv, fin_pure, hl, h4, h6]
      · have hu' : (u == w) = false := by simpa using hu
        have e : arriveS 0 a b' s w (.tup [x, .tup [.str u, .int k]] :: r) = refV "road" := by simp [arriveS, hu]
        rw [e]
        unfold arriveD idV at *
        simp [runDef, d__law_due_arrive, initEnv, fin_pure, hl, h6, h7, h8, hz, hz', hu, hu']
theorem due_count (n : Nat) (w : Str) (st : SeqV h v told) (ht : told.length < 4 ∨ ∃ a r, told = .tup [a] :: r ∧ r.length = 3 ∧ r.all isTupV = true ∧ noRefs told = true) (h1t : told ≠ [] → True) : run G (n+2) "_law_due_count" [countD w, v] h = .ok (countS 0 w told) h := by
  have hl := st.len
  rw [run__law_due_count]
  rcases ht with ht | ⟨a, r, rfl, hr, hall, hno⟩
  · have hc : told = [] ∨ (∃ x, told = [x]) ∨ (∃ x y, told = [x, y]) ∨ ∃ x y z, told = [x, y, z] := by
      match told, ht with
      | [], _ => exact .inl rfl
      | [x], _ => exact .inr (.inl ⟨x, rfl⟩)
      | [x, y], _ => exact .inr (.inr (.inl ⟨x, y, rfl⟩))
      | [x, y, z], _ => exact .inr (.inr (.inr ⟨x, y, z, rfl⟩))
    rcases hc with rfl | ⟨x, rfl⟩ | ⟨x, y, rfl⟩ | ⟨x, y, z, rfl⟩
    · have h4 : fzV h h.length (countS 0 w []) = _ := fz_plain rfl
      unfold countS countAsk askV awayK reqV countD at *
      simp [runDef, d__law_due_count, initEnv, fin_pure, hl] at h4 ⊢
      simp [h4]
    · have h4 : fzV h h.length (countS 0 w [x]) = _ := fz_plain rfl
      unfold countS countAsk askV freeK heldK reqV countD at *
      simp [runDef, d__law_due_count, initEnv, fin_pure, hl] at h4 ⊢
      simp [h4]
    · have h4 : fzV h h.length (countS 0 w [x, y]) = _ := fz_plain rfl
      unfold countS countAsk askV freeK heldK reqV countD at *
      simp [runDef, d__law_due_count, initEnv, fin_pure, hl] at h4 ⊢
      simp [h4]
    · have h4 : fzV h h.length (countS 0 w [x, y, z]) = _ := fz_plain rfl
      unfold countS countAsk askV freeK heldK reqV countD at *
      simp [runDef, d__law_due_count, initEnv, fin_pure, hl] at h4 ⊢
      simp [h4]
  · obtain ⟨r1, r2, r3, rfl⟩ : ∃ r1 r2 r3, r = [r1, r2, r3] := by
      match r, hr with
      | [r1, r2, r3], _ => exact ⟨r1, r2, r3, rfl⟩
    have tupe : ∀ x : Val, isTupV x = true → ∃ l, x = .tup l := fun x hx => by cases x <;> first | exact ⟨_, rfl⟩ | cases hx
    simp only [List.all_cons, List.all_nil, Bool.and_true, Bool.and_eq_true] at hall
    obtain ⟨l1, rfl⟩ := tupe _ hall.1
    obtain ⟨l2, rfl⟩ := tupe _ hall.2.1
    obtain ⟨l3, rfl⟩ := tupe _ hall.2.2
    have nr : noRef (countE a [.tup l1, .tup l2, .tup l3]) = true := by
      simp [noRefs, noRef] at hno
      simp [countE, doneV, noRef, noRefs, hno]
    have h4 : fzV h h.length (countE a [.tup l1, .tup l2, .tup l3]) = _ := fz_plain nr
    have h6 := st.idx (cx (n+1)).tabs (i := 0) (by omega) rfl
    obtain ⟨u, e1, _, e2⟩ := st.cut (some 1) none
    have e2' : itVal u h = .ok ([.tup l1, .tup l2, .tup l3], none) h := e2
    have hcm : ∀ e0 e1 e2, quiet (compLoop none (fun v => some (List.set (wipeE [e0, e1, e2, none] [3]) 3 (some v))) (fun e => pure true) (fun e => evE (cx (n+1)) (.prim .tuple1 (.cons (.var 3) .nil)) e) [.tup l1, .tup l2, .tup l3]) h = .ok [.tup l1, .tup l2, .tup l3] h := fun e0 e1 e2 => by
      have := comp_map (bind := fun v => some (List.set (wipeE [e0, e1, e2, none] [3]) 3 (some v))) (cond := fun e => pure true) (elt := fun e => evE (cx (n+1)) (.prim .tuple1 (.cons (.var 3) .nil)) e) id h [.tup l1, .tup l2, .tup l3] (by
        intro v hv
        refine ⟨_, rfl, rfl, ?_⟩
        simp only [List.mem_cons, List.not_mem_nil, or_false] at hv
        rcases hv with rfl | rfl | rfl <;> simp [wipeE])
      exact quiet_of this
    have e : countS 0 w [.tup [a], .tup l1, .tup l2, .tup l3] = countE a [.tup l1, .tup l2, .tup l3] := rfl
    rw [e]
    unfold countE doneV countD at *
    simp [runDef, d__law_due_count, initEnv, fin_pure, hl, h4, h6, e1, e2', hcm, isNop]
end
end S15

end
section
set_option Elab.async false
set_option linter.all false
set_option maxRecDepth 20000
namespace S15
open Ev Sim P15
open PySem (Str)
/-! ### coins, looks; all of them -/
section
variable {v : Val} {told : List Val} {h : EHeap}
theorem due_pay (n : Nat) (c : Int) (z : Int) (hc : c ≠ 0) (st : SeqV h v told) : run G (n+2) "_law_due_coins" [.int c, payD z, v] h = .ok (payS c z told) h := by
  have hl := st.len
  rw [run__law_due_coins]
  rcases told_cases told with rfl | ⟨x, r, rfl⟩
  · have e : payS c z [] = askV 5 [reqV paidK "add" 0, reqV (purseK c) "add" 0] := by simp [payS, nextV, hc]
    have h4 : fzV h h.length (askV 5 [reqV paidK "add" 0, reqV (purseK c) "add" 0]) = _ := fz_plain rfl
    rw [e]
    unfold askV paidK purseK reqV payD at *
    simp [runDef, d__law_due_coins, initEnv, fin_pure, hl, h4]
  · have e : payS c z (x :: r) = doneV [.tup [paidK, .int z], .tup [purseK c, .int z]] doneA := by simp [payS, nextV, hc]
    have h4 : fzV h h.length (doneV [.tup [paidK, .int z], .tup [purseK c, .int z]] doneA) = _ := fz_plain rfl
    have hz : ((r.length : Int) + 1 == 0) = false := by simp; omega
    have hz' : ((r.length : Int) + 1 = 0) = False := by simp; omega
    rw [e]
    unfold doneV paidK purseK doneA payD at *
    simp [runDef, d__law_due_coins, initEnv, fin_pure, hl, hz, hz', h4]
theorem due_draw (n : Nat) (c : Int) (z : Int) (hc : c ≠ 0) (st : SeqV h v told) (ht : told = [] ∨ ∃ x m r, told = .tup [x, .int m] :: r) : run G (n+2) "_law_due_coins" [.int c, drawD z, v] h = .ok (drawS c z told) h := by
  have hl := st.len
  have h7 := law_refused_ok n "coins" h
  have h8 : fzV h h.length (refV "coins") = _ := fz_plain rfl
  rw [run__law_due_coins]
  rcases ht with rfl | ⟨x, m, r, rfl⟩
  · have e : drawS c z [] = askV 5 [reqV paidK "add" 0, reqV (purseK c) "take" z] := by simp [drawS, tooPoor, nextV, hc]
    have h4 : fzV h h.length (askV 5 [reqV paidK "add" 0, reqV (purseK c) "take" z]) = _ := fz_plain rfl
    rw [e]
    unfold askV paidK purseK reqV drawD at *
    simp [runDef, d__law_due_coins, initEnv, fin_pure, hl, h4]
  · have hz : ((r.length : Int) + 1 == 0) = false := by simp; omega
    have hz' : ((r.length : Int) + 1 = 0) = False := by simp; omega
    have h6 := st.idx (cx (n+1)).tabs (i := 0) (by omega) rfl
    by_cases hlt : m < z
    · have e : drawS c z (.tup [x, .int m] :: r) = refV "coins" := by simp [drawS, tooPoor, hc, hlt]
      rw [e]
      unfold drawD at *
      simp [runDef, d__law_due_coins, initEnv, fin_pure, hl, hz, hz', h6, h7, h8, hlt]
    · have e : drawS c z (.tup [x, .int m] :: r) = doneV [.tup [paidK, .int (-z)], .tup [purseK c, .int (-z)]] doneA := by simp [drawS, tooPoor, nextV, hc, hlt]
      have h4 : fzV h h.length (doneV [.tup [paidK, .int (-z)], .tup [purseK c, .int (-z)]] doneA) = _ := fz_plain rfl
      rw [e]
      unfold doneV paidK purseK doneA drawD at *
      simp [runDef, d__law_due_coins, initEnv, fin_pure, hl, hz, hz', h4, h6, hlt]
theorem due_purse (n : Nat) (c : Int) (hc : c ≠ 0) (st : SeqV h v told) (ht : told = [] ∨ ∃ x r, told = .tup [x] :: r ∧ noRef x = true) : run G (n+2) "_law_due_coins" [.int c, purseD, v] h = .ok (purseS c told) h := by
  have hl := st.len
  rw [run__law_due_coins]
  rcases ht with rfl | ⟨x, r, rfl, nx⟩
  · have e : purseS c [] = askV 5 [reqV (purseK c) "see" 0] := by simp [purseS, hc]
    have h4 : fzV h h.length (askV 5 [reqV (purseK c) "see" 0]) = _ := fz_plain rfl
    rw [e]
    unfold askV purseK reqV purseD at *
    simp [runDef, d__law_due_coins, initEnv, fin_pure, hl, h4]
  · have hz : ((r.length : Int) + 1 == 0) = false := by simp; omega
    have hz' : ((r.length : Int) + 1 = 0) = False := by simp; omega
    have h6 := st.idx (cx (n+1)).tabs (i := 0) (by omega) rfl
    have e : purseS c (.tup [x] :: r) = doneV [] (.tup [.str (lit "coins"), x]) := by simp [purseS, hc]
    have h4 : fzV h h.length (doneV [] (.tup [.str (lit "coins"), x])) = _ := fz_plain (by simp [doneV, noRef, noRefs, nx])
    rw [e]
    unfold doneV purseD at *
    simp [runDef, d__law_due_coins, initEnv, fin_pure, hl, hz, hz', h4, h6]
theorem due_look (n : Nat) (c a k : Int) (st : SeqV h v told) (ht : told = [] ∨ ∃ x r, told = .tup [x] :: r ∧ noRef x = true) : run G (n+2) "_law_due_look" [.int c, lookD a k, v] h = .ok (lookS c a k told) h := by
  have hl := st.len
  have h7 := fun w => law_refused_ok n w h
  have h8 : ∀ w, fzV h h.length (refV w) = some (refV w) := fun w => fz_plain rfl
  have hm : mayOwn c a "look" = !(decide (c ≠ 0) && decide (c ≠ a)) := by
    unfold mayOwn
    by_cases q : a = c
    · subst q; simp
    · have q' : ¬ c = a := fun e => q e.symm
      by_cases z : c = 0
      · subst z; simp [q]
      · simp [q, q', z]
  rw [run__law_due_look]
  by_cases z : c = 0
  · have hm' : mayOwn c a "look" = true := by rw [hm]; simp [z]
    have hz0 : (c == (0 : Int)) = true := by simp [z]
    rcases ht with rfl | ⟨x, r, rfl, nx⟩
    · have e : lookS c a k [] = askV 1 [reqV (orderK a k) "see" 0] := by simp [lookS, hm']
      have h4 : fzV h h.length (askV 1 [reqV (orderK a k) "see" 0]) = _ := fz_plain rfl
      rw [e]
      unfold askV orderK reqV lookD idV at *
      simp [runDef, d__law_due_look, initEnv, fin_pure, hl, h4, z]
    · have hz : ((r.length : Int) + 1 == 0) = false := by simp; omega
      have hz' : ((r.length : Int) + 1 = 0) = False := by simp; omega
      have h6 := st.idx (cx (n+1)).tabs (i := 0) (by omega) rfl
      by_cases hx : x = .non
      · have e : lookS c a k (.tup [x] :: r) = refV "order" := by simp [lookS, hm', hx]
        rw [e]
        unfold lookD idV at *
        simp [runDef, d__law_due_look, initEnv, fin_pure, hl, hz, hz', h6, h7, h8, hx, z]
      · have e : lookS c a k (.tup [x] :: r) = doneV [] (.tup [.str (lit "shows"), x]) := by simp [lookS, hm', hx]
        have h4 : fzV h h.length (doneV [] (.tup [.str (lit "shows"), x])) = _ := fz_plain (by simp [doneV, noRef, noRefs, nx])
        rw [e]
        unfold doneV lookD idV at *
        simp [runDef, d__law_due_look, initEnv, fin_pure, hl, hz, hz', h4, h6, hx, z]
  · have hz0 : (c == (0 : Int)) = false := by simp [z]
    by_cases y : c = a
    · have hm' : mayOwn c a "look" = true := by rw [hm]; simp [y]
      subst y
      rcases ht with rfl | ⟨x, r, rfl, nx⟩
      · have e : lookS c c k [] = askV 1 [reqV (orderK c k) "see" 0] := by simp [lookS, hm']
        have h4 : fzV h h.length (askV 1 [reqV (orderK c k) "see" 0]) = _ := fz_plain rfl
        rw [e]
        unfold askV orderK reqV lookD idV at *
        simp [runDef, d__law_due_look, initEnv, fin_pure, hl, h4, z, hz0]
      · have hz : ((r.length : Int) + 1 == 0) = false := by simp; omega
        have hz' : ((r.length : Int) + 1 = 0) = False := by simp; omega
        have h6 := st.idx (cx (n+1)).tabs (i := 0) (by omega) rfl
        by_cases hx : x = .non
        · have e : lookS c c k (.tup [x] :: r) = refV "order" := by simp [lookS, hm', hx]
          rw [e]
          unfold lookD idV at *
          simp [runDef, d__law_due_look, initEnv, fin_pure, hl, hz, hz', h6, h7, h8, hx, z, hz0]
        · have e : lookS c c k (.tup [x] :: r) = doneV [] (.tup [.str (lit "shows"), x]) := by simp [lookS, hm', hx]
          have h4 : fzV h h.length (doneV [] (.tup [.str (lit "shows"), x])) = _ := fz_plain (by simp [doneV, noRef, noRefs, nx])
          rw [e]
          unfold doneV lookD idV at *
          simp [runDef, d__law_due_look, initEnv, fin_pure, hl, hz, hz', h4, h6, hx, z, hz0]
    · have hm' : mayOwn c a "look" = false := by rw [hm]; simp [z, y]
      have hy0 : (c == a) = false := by simp [y]
      have e : lookS c a k told = refV "right" := by simp [lookS, hm']
      rw [e]
      unfold lookD idV at *
      simp [runDef, d__law_due_look, initEnv, fin_pure, h7, h8, z, y, hz0, hy0]
/-- due_plain of a deed of the clerk's -/
theorem plain_no (n : Nat) (c b : Int) (k : String) (vs : List Val) (hk : (k ∈ ["pay", "draw", "purse"] ∧ c = 0) ∨ (k ∉ ["pay", "draw", "purse"] ∧ k ≠ "look" ∧ c ≠ 0)) : run G (n+3) "_law_due_plain" [idV c b, .tup (.str (lit k) :: vs), v] h = .ok (refV "right") h := by
  have h7 := law_refused_ok (n+1) "right" h
  have h8 : fzV h h.length (refV "right") = _ := fz_plain rfl
  have h1 := mem_names (n+2) k ["pay", "draw", "purse"] h
  have e3 := lit_beq k "look"
  simp only [List.map] at h1
  rw [run__law_due_plain]
  rcases hk with ⟨hk, rfl⟩ | ⟨hk, hk2, hc⟩
  · have hk2 : k ≠ "look" := fun e => by subst e; revert hk; decide
    rw [decide_eq_true hk] at h1
    rw [decide_eq_false hk2] at e3
    unfold idV at *
    simp [runDef, d__law_due_plain, initEnv, fin_pure, h1, e3, hk2, h7, h8]
  · rw [decide_eq_false hk] at h1
    rw [decide_eq_false hk2] at e3
    have hc0 : (c == (0 : Int)) = false := by simp [hc]
    unfold idV at *
    simp [runDef, d__law_due_plain, initEnv, fin_pure, h1, e3, hk2, h7, h8, hc, hc0]
def dueOf (k : String) : String := if k ∈ ["price", "rate", "coupon"] then "_law_due_office" else if k = "arrive" then "_law_due_arrive" else if k = "count" then "_law_due_count" else "_law_due_goods"
theorem plain_office (n : Nat) (b : Int) (k : String) (vs : List Val) (hk : k ∈ ["price", "rate", "coupon"]) (r : Val) (hr : noRef r = true) (hs : run G (n+2) "_law_due_office" [.tup (.str (lit k) :: vs), v] h = .ok r h) : run G (n+3) "_law_due_plain" [idV 0 b, .tup (.str (lit k) :: vs), v] h = .ok r h := by
  have h8 : fzV h h.length r = _ := fz_plain hr
  have h1 := mem_names (n+2) k ["pay", "draw", "purse"] h
  have h2 := mem_names (n+2) k ["price", "rate", "coupon"] h
  have e3 := lit_beq k "look"
  have q1 : k ∉ ["pay", "draw", "purse"] := by
    simp only [List.mem_cons, List.not_mem_nil, or_false] at hk
    rcases hk with rfl | rfl | rfl <;> decide
  have q2 : k ≠ "look" := fun e => by subst e; revert hk; decide
  rw [decide_eq_false q1] at h1
  rw [decide_eq_true hk] at h2
  rw [decide_eq_false q2] at e3
  simp only [List.map] at h1 h2
  rw [run__law_due_plain]
  unfold idV at *
  simp [runDef, d__law_due_plain, initEnv, fin_pure, h1, h2, e3, q2, hs, h8]
theorem plain_arrive (n : Nat) (b : Int) (vs : List Val) (r : Val) (hr : noRef r = true) (hs : run G (n+2) "_law_due_arrive" [.tup (.str (lit "arrive") :: vs), v] h = .ok r h) : run G (n+3) "_law_due_plain" [idV 0 b, .tup (.str (lit "arrive") :: vs), v] h = .ok r h := by
  have h8 : fzV h h.length r = _ := fz_plain hr
  have h1 := mem_names (n+2) "arrive" ["pay", "draw", "purse"] h
  have h2 := mem_names (n+2) "arrive" ["price", "rate", "coupon"] h
  rw [decide_eq_false (by decide)] at h1 h2
  simp only [List.map] at h1 h2
  rw [run__law_due_plain]
  unfold idV at *
  simp [runDef, d__law_due_plain, initEnv, fin_pure, h1, h2, hs, h8]
theorem plain_count (n : Nat) (b : Int) (vs : List Val) (r : Val) (hr : noRef r = true) (hs : run G (n+2) "_law_due_count" [.tup (.str (lit "count") :: vs), v] h = .ok r h) : run G (n+3) "_law_due_plain" [idV 0 b, .tup (.str (lit "count") :: vs), v] h = .ok r h := by
  have h8 : fzV h h.length r = _ := fz_plain hr
  have h1 := mem_names (n+2) "count" ["pay", "draw", "purse"] h
  have h2 := mem_names (n+2) "count" ["price", "rate", "coupon"] h
  rw [decide_eq_false (by decide)] at h1 h2
  simp only [List.map] at h1 h2
  rw [run__law_due_plain]
  unfold idV at *
  simp [runDef, d__law_due_plain, initEnv, fin_pure, h1, h2, hs, h8]
theorem plain_goods (n : Nat) (b : Int) (k : String) (vs : List Val) (hk : k = "stock" ∨ k = "move") (r : Val) (hr : noRef r = true) (hs : run G (n+2) "_law_due_goods" [idV 0 b, .tup (.str (lit k) :: vs), v] h = .ok r h) : run G (n+3) "_law_due_plain" [idV 0 b, .tup (.str (lit k) :: vs), v] h = .ok r h := by
  have h8 : fzV h h.length r = _ := fz_plain hr
  have h1 := mem_names (n+2) k ["pay", "draw", "purse"] h
  have h2 := mem_names (n+2) k ["price", "rate", "coupon"] h
  rw [decide_eq_false (by rcases hk with rfl | rfl <;> decide)] at h1 h2
  simp only [List.map] at h1 h2
  rw [run__law_due_plain]
  unfold idV at *
  rcases hk with rfl | rfl <;> simp [runDef, d__law_due_plain, initEnv, fin_pure, h1, h2, hs, h8]
theorem plain_coins (n : Nat) (c b : Int) (k : String) (vs : List Val) (hk : k ∈ ["pay", "draw", "purse"]) (hc : c ≠ 0) (r : Val) (hr : noRef r = true) (hs : run G (n+2) "_law_due_coins" [.int c, .tup (.str (lit k) :: vs), v] h = .ok r h) : run G (n+3) "_law_due_plain" [idV c b, .tup (.str (lit k) :: vs), v] h = .ok r h := by
  have h8 : fzV h h.length r = _ := fz_plain hr
  have h1 := mem_names (n+2) k ["pay", "draw", "purse"] h
  have e3 := lit_beq k "look"
  have q2 : k ≠ "look" := fun e => by subst e; revert hk; decide
  have hc0 : (c == (0 : Int)) = false := by simp [hc]
  rw [decide_eq_true hk] at h1
  rw [decide_eq_false q2] at e3
  simp only [List.map] at h1
  rw [run__law_due_plain]
  unfold idV at *
  simp [runDef, d__law_due_plain, initEnv, fin_pure, h1, e3, q2, hs, h8, hc, hc0]
theorem plain_look (n : Nat) (c b : Int) (vs : List Val) (r : Val) (hr : noRef r = true) (hs : run G (n+2) "_law_due_look" [.int c, .tup (.str (lit "look") :: vs), v] h = .ok r h) : run G (n+3) "_law_due_plain" [idV c b, .tup (.str (lit "look") :: vs), v] h = .ok r h := by
  have h8 : fzV h h.length r = _ := fz_plain hr
  rw [run__law_due_plain]
  unfold idV at *
  simp [runDef, d__law_due_plain, initEnv, fin_pure, hs, h8]
end
end S15

end
section
set_option Elab.async false
set_option linter.all false
set_option maxRecDepth 20000
namespace S15
open Ev Sim P15
open PySem (Str)
/-! ### the law's numbers -/
theorem small_of {j : Int} (h : -18446744073709551616 < j ∧ j < 18446744073709551616) : small j = true := by
  unfold small; rw [decide_eq_true_eq]; omega
theorem mulL (i j : Int) (h : EHeap) (hj : small i = true) : binV .mul (.int i) (.int j) h = .ok (.int (i * j)) h := bin_mul h i j (by rw [hj]; rfl)
theorem mulR (i j : Int) (h : EHeap) (hj : small j = true) : binV .mul (.int i) (.int j) h = .ok (.int (i * j)) h := bin_mul h i j (by rw [hj, Bool.or_true])
theorem pow18 (h : EHeap) : binV .pow (.int 10) (.int 18) h = .ok (.int 1000000000000000000) h := rfl
theorem mem_range {n : Nat} {v : Val} (hv : v ∈ rangeL 0 n) : ∃ k : Nat, k < n ∧ v = .int (k : Int) := by
  obtain ⟨k, hk, rfl⟩ := List.mem_map.mp hv
  exact ⟨k, List.mem_range.mp hk, by simp⟩
theorem rng1 (k : Nat) (hk : k ≤ 1000) (h : EHeap) : rngV [.int (k : Int)] h = .ok (rangeL 0 k, none) h := by
  have h1 : ((k : Int).toNat ≤ most) := by unfold most; omega
  have h2 : (-4611686018427387904 ≤ (k : Int)) := by omega
  show (guardM _ h).bind _ = _
  rw [decide_eq_true h1, decide_eq_true h2]
  rfl
def Nums (m : Nat) (xs : List Int) : Prop := xs.length = m ∧ ∀ x ∈ xs, 0 ≤ x ∧ x < 1000
theorem numbers_ok (n : Nat) (cell at_ : Int) (m : Nat) (hm : m ≤ 1000) (h : EHeap) : ∃ xs : List Int, Nums m xs ∧ run G (n+1) "_law_numbers" [.int cell, .int at_, .int m] h = .ok (.lst (xs.map .int)) h := by
  have key : ∀ (g : Bool) (rest : Int) (z6 z7 : Option Val), ∃ e xs, Nums m xs ∧ forLoop none (bindTg (.nm 6)) (fun e => evS (cx n) (match d__law_numbers with | .seq _ (.seq _ (.seq _ (.seq (.for_ _ _ b) _))) => b | _ => .skip) e) (rangeL 0 m) [some (.int cell), some (.int at_), some (.int m), some (.bl g), some (.int rest), some (.ref h.length), z6, z7] (h ++ [.list []]) = .ok (.nx e) (h ++ [.list (xs.map .int)]) ∧ e[5]? = some (some (.ref h.length)) := by
    intro g rest z6 z7
    let Inv : List Val → EEnv → EHeap → Prop := fun vs env h' => (∀ v ∈ vs, ∃ i : Int, v = .int i) ∧ ∃ xs : List Int, vs.length + xs.length = m ∧ (∀ x ∈ xs, 0 ≤ x ∧ x < 1000) ∧ h' = h ++ [.list (xs.map .int)] ∧ ∃ (rest : Int) (z6 z7 : Option Val), env = [some (.int cell), some (.int at_), some (.int m), some (.bl g), some (.int rest), some (.ref h.length), z6, z7]
    have step : ∀ v r env h', Inv (v :: r) env h' → ∃ e1 e2 h2, bindTg (.nm 6) v env = some e1 ∧ (evS (cx n) (match d__law_numbers with | .seq _ (.seq _ (.seq _ (.seq (.for_ _ _ b) _))) => b | _ => .skip) e1 h' = .ok (.nx e2) h2 ∨ evS (cx n) (match d__law_numbers with | .seq _ (.seq _ (.seq _ (.seq (.for_ _ _ b) _))) => b | _ => .skip) e1 h' = .ok (.ct e2) h2) ∧ Inv r e2 h2 := by
      rintro v r env h' ⟨hv, xs, h1, h2, rfl, rest, z6, z7, rfl⟩
      obtain ⟨i, rfl⟩ := hv v (by simp)
      have hv' := fun w hw => hv w (List.mem_cons_of_mem _ hw)
      have hx : (xs.map Val.int).length < 16777216 := by simp only [List.length_cons] at h1; simp; omega
      have good : ∀ x : Int, ∀ y ∈ xs ++ [x % 1000], 0 ≤ y ∧ y < 1000 := by
        intro x y hy
        rcases List.mem_append.mp hy with q | q
        · exact h2 y q
        · simp only [List.mem_singleton] at q; subst q; omega
      have hap := fun (x : Val) => app_end h (xs.map .int) x (eq_true hx)
      cases g with
      | true =>
        refine ⟨_, [some (.int cell), some (.int at_), some (.int m), some (.bl true), some (.int (rest / 1000)), some (.ref h.length), some (.int i), z7], h ++ [.list ((xs ++ [rest % 1000]).map .int)], rfl, .inl ?_, hv', xs ++ [rest % 1000], by simp only [List.length_cons] at h1; simp; omega, good _, rfl, _, _, _, rfl⟩
        simp [d__law_numbers, recv_end, hap, bin_mod, bin_fdiv]
      | false =>
        have s1 : ∀ x : Int, small (x % 2147483647) = true := fun x => small_of (by omega)
        have s2 : ∀ x : Int, small (x % 2147483629) = true := fun x => small_of (by omega)
        have c1 : small 48271 = true := by decide
        have c2 : small 69621 = true := by decide
        have c3 : small 16807 = true := by decide
        have c4 : small 40692 = true := by decide
        have c5 : small 30269 = true := by decide
        have p1 := fun i h => mulR i 48271 h c1
        have p2 := fun i h => mulR i 69621 h c2
        have p3 := fun i h => mulR i 16807 h c3
        have p4 := fun i h => mulR i 40692 h c4
        have p5 := fun i h => mulR i 30269 h c5
        have p6 := fun x j h => mulL (x % 2147483647) j h (s1 x)
        have p7 := fun x j h => mulL (x % 2147483629) j h (s2 x)
        let m1 := (rest * 48271 + at_ * 69621 + i * 16807 + 7) % 2147483647
        let m2 := (m1 * m1 + i * 40692 + 3) % 2147483629
        let m3 := (m2 * m2 + at_ * 30269 + 5) % 2147483587
        refine ⟨_, [some (.int cell), some (.int at_), some (.int m), some (.bl false), some (.int rest), some (.ref h.length), some (.int i), some (.int m3)], h ++ [.list ((xs ++ [(m3 / 5) % 1000]).map .int)], rfl, .inl ?_, hv', xs ++ [(m3 / 5) % 1000], by simp only [List.length_cons] at h1; simp; omega, good _, rfl, _, _, _, rfl⟩
        simp [d__law_numbers, recv_end, hap, bin_mod, bin_fdiv, p1, p2, p3, p4, p5, p6, p7, m1, m2, m3]
    obtain ⟨e, h', a, b⟩ := for_inv Inv step (rangeL 0 m) [some (.int cell), some (.int at_), some (.int m), some (.bl g), some (.int rest), some (.ref h.length), z6, z7] (h ++ [.list []]) ⟨fun v hv => by obtain ⟨k, _, rfl⟩ := mem_range hv; exact ⟨_, rfl⟩, [], by simp [rangeL], by simp, rfl, rest, z6, z7, rfl⟩
    obtain ⟨_, xs, h1, h2, rfl, r, y6, y7, rfl⟩ := b
    exact ⟨_, xs, ⟨by simpa using h1, h2⟩, a, rfl⟩
  have c0 : small 2 = true := by decide
  have q0 := fun i h => mulL 2 i h c0
  obtain ⟨e, xs, hx, he, h5⟩ := key (decide (1000000000000000000 ≤ if cell < 0 then -cell else cell)) (2 * (if cell < 0 then -cell else cell) + if cell < 0 then 1 else 0) none none
  refine ⟨xs, hx, ?_⟩
  have hr := fun h => rng1 m hm h
  have hb : evS (cx n) d__law_numbers (initEnv 8 [.int cell, .int at_, .int m]) h = .ok (.rt (.ref h.length)) (h ++ [.list (xs.map .int)]) := by
    simp only [d__law_numbers, initEnv] at he ⊢
    simp only [evS_seq, seqR_nx, seqR_rt, evS_asg, evE_cmp, evE_prim, evL_cons, evL_nil, evE_var, evE_bin, evE_cst, evE_bx, evL_fdisp, evS_for, evI_range, List.map, List.length, List.replicate, List.cons_append, List.nil_append, List.getElem?_cons_zero, List.getElem?_cons_succ, Option.getD_some, ofOpt_some, R.bind_ok, int_int, abs_int, pow18, cmp_ge, q0, cmp_lt, int_bl, bin_add, bind_1, List.set_cons_zero, List.set_cons_succ, decide_eq_true_eq, hr]
    rw [he]
    simp [h5]
  rw [run__law_numbers]
  exact run_new rfl rfl hb (Nat.le_refl _) (get_end _ _) ((noRefs_iff _).mpr (by intro x hx; obtain ⟨i, _, rfl⟩ := List.mem_map.mp hx; rfl))
/-! ### same -/
def plainD : Nat → Val → Bool
  | _, .non => true
  | _, .bl _ => true
  | _, .int _ => true
  | _, .str _ => true
  | d + 1, .tup l => decide (l.length ≤ 1000) && l.all (plainD d)
  | _, _ => false
theorem same_ok : ∀ (d : Nat) (v : Val), plainD d v = true → ∀ n h, run G (n+d+1) "_law_same" [v, v] h = .ok (.bl true) h
  | d, .non, _, n, h => by rw [run__law_same]; simp [runDef, d__law_same, initEnv, fin_pure, fzV, noRef]
  | d, .bl b, _, n, h => by rw [run__law_same]; simp [runDef, d__law_same, initEnv, fin_pure, fzV, noRef, eq_bl]
  | d, .int b, _, n, h => by rw [run__law_same]; simp [runDef, d__law_same, initEnv, fin_pure, fzV, noRef]
  | d, .str b, _, n, h => by rw [run__law_same]; simp [runDef, d__law_same, initEnv, fin_pure, fzV, noRef]
  | d + 1, .tup l, hv, n, h => by
    simp only [plainD, Bool.and_eq_true, decide_eq_true_eq] at hv
    have step : ∀ (vs : List Val) (z : Option Val), (∀ v ∈ vs, ∃ k : Nat, k < l.length ∧ v = .int (k : Int)) → ∃ e, forLoop none (bindTg (.nm 2)) (fun e => evS (cx (n+(d+1))) (.ite (.not_ (.call "_law_same" (.cons (.idx (.var 0) (.var 2)) (.cons (.idx (.var 1) (.var 2)) .nil)))) (.ret (.cst (.bl false))) .skip) e) vs [some (.tup l), some (.tup l), z] h = .ok (.nx e) h := by
      intro vs
      induction vs with
      | nil => intro z _; exact ⟨_, rfl⟩
      | cons v vs ih =>
        intro z hq
        obtain ⟨k, hk, rfl⟩ := hq v (by simp)
        obtain ⟨e, he⟩ := ih (some (.int (k : Int))) fun w hw => hq w (List.mem_cons_of_mem _ hw)
        refine ⟨e, ?_⟩
        have h1 : idxV (cx (n+(d+1))).tabs (.tup l) (.int (k : Int)) h = .ok l[k] h := idx_tup h _ (by omega) (by simp [hk])
        have h2 := same_ok d l[k] (List.all_eq_true.mp hv.2 _ (List.getElem_mem hk)) n h
        rw [for_cons]
        rw [show n + d + 1 = n + (d + 1) from rfl] at h2
        simp [h1, h2, he]
    obtain ⟨e, he⟩ := step (rangeL 0 l.length) none fun v hv => mem_range hv
    have hr := rng1 l.length hv.1 h
    rw [run__law_same]
    simp [runDef, d__law_same, initEnv, fin_pure, fzV, noRef, hr, he]
  | 0, .tup l, hv, _, _ => by simp [plainD] at hv
  | d, .lst l, hv, _, _ => by cases d <;> simp [plainD] at hv
  | d, .ktp l, hv, _, _ => by cases d <;> simp [plainD] at hv
  | d, .scr l, hv, _, _ => by cases d <;> simp [plainD] at hv
  | d, .ref l, hv, _, _ => by cases d <;> simp [plainD] at hv
  | d, .gl l, hv, _, _ => by cases d <;> simp [plainD] at hv
/-! ### an item -/
theorem letter_at : ∀ k < 26, (lit "abcdefghijklmnopqrstuvwxyz").cps[k]? = some (97 + k) := by decide +kernel
theorem letter_idx (T : Tabs) (i : Int) (hi : 0 ≤ i ∧ i < 26) (h : EHeap) : idxV T (.str (lit "abcdefghijklmnopqrstuvwxyz")) (.int i) h = .ok (.str ⟨#[97 + i.toNat]⟩) h := by
  have h1 : (lit "abcdefghijklmnopqrstuvwxyz").length = 26 := by decide +kernel
  have h2 := letter_at i.toNat (by omega)
  have h3 := ix_int (n := 26) hi.1 hi.2
  simp only [idxV, h1, h3, Option.bind_some, h2]
theorem num_at {m : Nat} {xs : List Int} (hx : Nums m xs) (T : Tabs) (h : EHeap) (k : Int) (hk : 0 ≤ k ∧ k < m) : ∃ x, (0 ≤ x ∧ x < 1000) ∧ idxV T (.lst (xs.map .int)) (.int k) h = .ok (.int x) h := by
  have h1 : k.toNat < xs.length := by rw [hx.1]; omega
  refine ⟨xs[k.toNat], hx.2 _ (List.getElem_mem h1), ?_⟩
  exact idx_lst h T hk.1 (by simp [h1])
theorem item_ok (n : Nat) (m : Nat) (xs : List Int) (hx : Nums m xs) (k : Int) (hk : 0 ≤ k ∧ k + 2 < m) (h : EHeap) : ∃ w, Word w ∧ run G (n+1) "_law_item" [.lst (xs.map .int), .int k] h = .ok (.str w) h := by
  obtain ⟨x0, b0, e0⟩ := num_at hx (cx n).tabs h k (by omega)
  obtain ⟨x1, b1, e1⟩ := num_at hx (cx n).tabs h (k+1) (by omega)
  obtain ⟨x2, b2, e2⟩ := num_at hx (cx n).tabs h (k+2) (by omega)
  have hl := fun (x : Int) => letter_idx (cx n).tabs (x % 26) (by omega) h
  have cat : ∀ (a b : List Nat), a.length + b.length ≤ 100 → binV .add (.str ⟨a.toArray⟩) (.str ⟨b.toArray⟩) h = .ok (.str ⟨(a ++ b).toArray⟩) h := by
    intro a b hab
    rw [bin_adds]
    have h1 : (⟨a.toArray⟩ : Str).length = a.length := rfl
    have h2 : (⟨b.toArray⟩ : Str).length = b.length := rfl
    have h3 : (⟨a.toArray⟩ : Str) ++ ⟨b.toArray⟩ = ⟨(a ++ b).toArray⟩ := by
      show (⟨a.toArray ++ b.toArray⟩ : Str) = _
      simp
    rw [h1, h2, if_pos (by unfold most; omega), h3]
  let c0 := 97 + (x0 / 8 % 26).toNat
  let c1 := 97 + (x1 % 26).toNat
  let c2 := 97 + (x1 / 26 % 26).toNat
  let c3 := 97 + (x2 % 26).toNat
  let c4 := 97 + (x2 / 26 % 26).toNat
  let w : List Nat := cutL [c0, c1, c2, c3, c4, c4, c3, c2, c1, c0] none (some (1 + x0 % 8))
  have hw : w = [c0, c1, c2, c3, c4, c4, c3, c2, c1, c0].take (1 + x0 % 8).toNat := by
    show List.take _ (List.drop 0 _) = _
    rw [List.drop_zero]
    congr 1
    show (if 1 + x0 % 8 < 0 then _ else _) - 0 = _
    rw [if_neg (by omega)]
    show min _ 10 - 0 = _
    omega
  refine ⟨⟨w.toArray⟩, ⟨?_, ?_, ?_⟩, ?_⟩
  · show 1 ≤ w.length
    rw [hw, List.length_take]
    show 1 ≤ min _ 10
    omega
  · show w.length ≤ 8
    rw [hw, List.length_take]
    show min _ 10 ≤ 8
    omega
  · intro c hc
    have hc : c ∈ w := by simpa using hc
    rw [hw] at hc
    have := List.mem_of_mem_take hc
    simp only [List.mem_cons, List.not_mem_nil, or_false] at this
    have z : ∀ y : Int, 97 ≤ 97 + (y % 26).toNat ∧ 97 + (y % 26).toNat < 123 := fun y => by omega
    rcases this with rfl | rfl | rfl | rfl | rfl | rfl | rfl | rfl | rfl | rfl <;> exact z _
  · have a1 := cat [c0] [c1] (by simp)
    have a2 := cat [c0, c1] [c2] (by simp)
    have a3 := cat [c0, c1, c2] [c3] (by simp)
    have a4 := cat [c0, c1, c2, c3] [c4] (by simp)
    have a5 := cat [c0, c1, c2, c3, c4] [c4, c3, c2, c1, c0] (by simp)
    have hn : fzV h h.length (.str ⟨w.toArray⟩) = some (.str ⟨w.toArray⟩) := fz_plain rfl
    simp only [List.cons_append, List.nil_append] at a1 a2 a3 a4 a5
    rw [run__law_item]
    simp [runDef, d__law_item, initEnv, fin_pure, e0, e1, e2, bin_fdiv, bin_mod, hl, a1, a2, a3, a4, a5, c0, c1, c2, c3, c4]
    show (match fzV h h.length (.str ⟨w.toArray⟩) with | some w => R.ok w h | none => R.no) = _
    rw [hn]
/-! ### the items -/
theorem any_str (w : Str) : ∀ ws : List Str, (ws.map Val.str).any (fun z => eqv z (.str w)) = decide (w ∈ ws)
  | [] => rfl
  | a :: r => by
    have e : (a == w) = decide (w = a) := by
      rw [Bool.eq_iff_iff]; simp; exact ⟨Eq.symm, Eq.symm⟩
    simp only [List.map_cons, List.any_cons, any_str w r, eqv, e, List.mem_cons, Bool.decide_or]
theorem data_strs (d : Nat) : ∀ ws : List Str, areData d (ws.map Val.str) = true
  | [] => rfl
  | a :: r => by simp [areData, isData, data_strs d r]
theorem sortable_strs (ws : List Str) : sortable (ws.map Val.str) = true := by
  have h1 : comparable (ws.map Val.str) = true := by
    simp only [comparable, List.all_eq_true, List.mem_map]
    rintro _ ⟨a, _, rfl⟩ _ ⟨b, _, rfl⟩
    rfl
  have h2 : (ws.map Val.str).all (fun x => tagV x == 2) = true := by
    simp only [List.all_eq_true, List.mem_map]
    rintro _ ⟨a, _, rfl⟩
    rfl
  simp [sortable, h1, data_strs]
  left; left; left; right
  intro x _; rfl
theorem perm_map {α β : Type} (f : α → β) (g : β → Option α) (hg : ∀ a, g (f a) = some a) {l : List α} {m : List β} (p : (l.map f).Perm m) : ∃ l', m = l'.map f ∧ l.Perm l' := by
  refine ⟨m.filterMap g, ?_, ?_⟩
  · have : ∀ x ∈ m, ∃ a, x = f a := fun x hx => by
      obtain ⟨a, _, rfl⟩ := List.mem_map.mp (p.mem_iff.mpr hx)
      exact ⟨a, rfl⟩
    clear p
    induction m with
    | nil => rfl
    | cons x xs ih =>
      obtain ⟨a, rfl⟩ := this x (by simp)
      simp only [List.filterMap_cons, hg, List.map_cons]
      rw [← ih fun y hy => this y (List.mem_cons_of_mem _ hy)]
  · have h1 := p.filterMap g
    have h2 : (l.map f).filterMap g = l := by
      rw [List.filterMap_map]
      have : (g ∘ f) = some := funext hg
      rw [this, List.filterMap_some]
    rwa [h2] at h1
def unStr : Val → Option Str
  | .str s => some s
  | _ => none
structure Items (ws : List Str) : Prop where
  word : ∀ w ∈ ws, Word w
  asc : ws.Pairwise fun a b => cmpL a.cps.toList b.cps.toList = .lt
  lo : 1 ≤ ws.length
  hi : ws.length ≤ 4
theorem sort_strs {ws ws' : List Str} (nd : ws.Nodup) (e : sortV (ws.map .str) = ws'.map .str) : ws'.Pairwise fun a b => cmpL a.cps.toList b.cps.toList = .lt := by
  have p : (ws.map Val.str).Perm (ws'.map Val.str) := by rw [← e]; exact (List.mergeSort_perm _ _).symm
  have nd' : (ws'.map Val.str).Nodup := p.nodup_iff.mp (by
    rw [List.nodup_iff_pairwise_ne] at nd ⊢
    rw [List.pairwise_map]
    exact nd.imp fun h e => h (by injection e))
  have hp := List.pairwise_mergeSort (le := fun (a b : Str) => cmpL a.cps.toList b.cps.toList != .gt) (fun a b c h1 h2 => ?_) (fun a b => ?_) ws
  · have hm := List.map_mergeSort (r := fun (a b : Str) => cmpL a.cps.toList b.cps.toList != .gt) (s := leV) (f := Val.str) (l := ws) (fun a _ b _ => by
      simp only [leV, cmpV]
      cases cmpL a.cps.toList b.cps.toList <;> rfl)
    have e2 : (ws.mergeSort fun (a b : Str) => cmpL a.cps.toList b.cps.toList != .gt).map Val.str = ws'.map Val.str := by rw [hm]; exact e
    have e3 : (ws.mergeSort fun (a b : Str) => cmpL a.cps.toList b.cps.toList != .gt) = ws' := List.map_inj_right (fun a b h => by injection h) |>.mp e2
    rw [e3] at hp
    have nd3 : ws'.Nodup := by rw [← e3]; exact (List.mergeSort_perm _ _).nodup_iff.mpr nd
    rw [List.nodup_iff_pairwise_ne] at nd3
    refine (hp.and nd3).imp fun {a b} h => ?_
    cases hc : cmpL a.cps.toList b.cps.toList with
    | lt => rfl
    | gt => rw [hc] at h; exact absurd h.1 (by decide)
    | eq =>
      have := cmpL_same hc
      exact absurd (by obtain ⟨⟨x⟩⟩ := a; obtain ⟨⟨y⟩⟩ := b; simp at this; rw [this]) h.2
  · simp only [bne_iff_ne, ne_eq] at h1 h2 ⊢
    intro h3
    cases e1 : cmpL a.cps.toList b.cps.toList with
    | gt => exact h1 e1
    | lt =>
      cases e2 : cmpL b.cps.toList c.cps.toList with
      | gt => exact h2 e2
      | lt => rw [cmpL_trans e1 e2] at h3; cases h3
      | eq => rw [← cmpL_same e2, e1] at h3; cases h3
    | eq =>
      rw [cmpL_same e1] at h3
      exact h2 h3
  · rw [cmpL_sw b.cps.toList a.cps.toList]
    cases cmpL b.cps.toList a.cps.toList <;> rfl
theorem items_ok (n : Nat) (m : Nat) (xs : List Int) (hx : Nums m xs) (k0 : Int) (h0 : 0 ≤ k0) (k : Nat) (hk : 1 ≤ k ∧ k ≤ 4) (hm : k0 + 3 * k ≤ m) (h : EHeap) : ∃ ws, Items ws ∧ run G (n+2) "_law_items" [.lst (xs.map .int), .int k0, .int k] h = .ok (.lst (ws.map .str)) h := by
  let body : EEnv → M Ctl := fun e => evS (cx (n+1)) (match d__law_items with | .seq _ (.seq (.for_ _ _ b) _) => b | _ => .skip) e
  let Inv : List Val → EEnv → EHeap → Prop := fun vs env h' => (∀ v ∈ vs, ∃ i : Nat, i < k ∧ v = .int (i : Int)) ∧ ∃ ws : List Str, (∀ w ∈ ws, Word w) ∧ ws.Nodup ∧ vs.length + ws.length ≤ k ∧ (vs.length < k → 1 ≤ ws.length) ∧ h' = h ++ [.list (ws.map .str)] ∧ ∃ z4 z5, env = [some (.lst (xs.map .int)), some (.int k0), some (.int k), some (.ref h.length), z4, z5]
  have step : ∀ v r env h', Inv (v :: r) env h' → ∃ e1 e2 h2, bindTg (.nm 4) v env = some e1 ∧ (body e1 h' = .ok (.nx e2) h2 ∨ body e1 h' = .ok (.ct e2) h2) ∧ Inv r e2 h2 := by
    rintro v r env h' ⟨hv, ws, h1, h2, h3, h4, rfl, z4, z5, rfl⟩
    obtain ⟨i, hi, rfl⟩ := hv v (by simp)
    have hv' := fun w hw => hv w (List.mem_cons_of_mem _ hw)
    simp only [List.length_cons] at h3 h4
    obtain ⟨w, hw, hr⟩ := item_ok n m xs hx (k0 + 3 * (i : Int)) (by omega) (h ++ [.list (ws.map .str)])
    have q0 := mulL 3 (i : Int) (h ++ [.list (ws.map .str)]) (by decide)
    have hmem := mem_list (T := (cx (n+1)).tabs) (get_end h (.list (ws.map .str))) (x := .str w) rfl (data_strs 20 ws)
    rw [any_str] at hmem
    have hap := app_end h (ws.map .str) (.str w) (eq_true (by simp; omega))
    by_cases q : w ∈ ws
    · rw [decide_eq_true q] at hmem
      refine ⟨_, [some (.lst (xs.map .int)), some (.int k0), some (.int k), some (.ref h.length), some (.int (i : Int)), some (.str w)], h ++ [.list (ws.map .str)], rfl, .inl ?_, hv', ws, h1, h2, by omega, fun _ => ?_, rfl, _, _, rfl⟩
      · simp [body, d__law_items, q0, hr, hmem]
      · cases ws with
        | nil => cases q
        | cons _ _ => simp
    · rw [decide_eq_false q] at hmem
      refine ⟨_, [some (.lst (xs.map .int)), some (.int k0), some (.int k), some (.ref h.length), some (.int (i : Int)), some (.str w)], h ++ [.list ((ws ++ [w]).map .str)], rfl, .inl ?_, hv', ws ++ [w], ?_, ?_, by simp; omega, fun _ => by simp, rfl, _, _, rfl⟩
      · simp [body, d__law_items, q0, hr, hmem, recv_end, hap]
      · intro x hx
        rcases List.mem_append.mp hx with p | p
        · exact h1 x p
        · simp only [List.mem_singleton] at p; subst p; exact hw
      · rw [List.nodup_append]
        refine ⟨h2, by simp, ?_⟩
        intro a ha b hb e
        simp only [List.mem_singleton] at hb
        subst hb e
        exact q ha
  have hlen : (rangeL 0 k).length = k := by simp [rangeL]
  obtain ⟨e, h', a, _, ws, h1, h2, h3, h4, rfl, z4, z5, rfl⟩ := for_inv Inv step (rangeL 0 k) [some (.lst (xs.map .int)), some (.int k0), some (.int k), some (.ref h.length), none, none] (h ++ [.list []]) ⟨fun v hv => mem_range hv, [], by simp, by simp, by simp [hlen], fun q => by omega, rfl, none, none, rfl⟩
  have hr := fun h => rng1 k (by omega) h
  have hs : fprimV .sorted [.ref h.length] (h ++ [.list (ws.map .str)]) = .ok (sortV (ws.map .str)) (h ++ [.list (ws.map .str)]) := by
    simp [fprimV, sortable_strs]
  obtain ⟨ws', e1, p⟩ := perm_map Val.str unStr (fun _ => rfl) (List.mergeSort_perm (ws.map Val.str) leV).symm
  have e1 : sortV (ws.map .str) = ws'.map .str := e1
  refine ⟨ws', ⟨fun w hw => h1 w (p.mem_iff.mpr hw), sort_strs h2 e1, ?_, ?_⟩, ?_⟩
  · rw [← p.length_eq]; simp at h4; exact h4 (by omega)
  · rw [← p.length_eq]; simp at h3; omega
  · have nr : noRefs (ws'.map Val.str) = true := (noRefs_iff _).mpr (by intro x hx; obtain ⟨i, _, rfl⟩ := List.mem_map.mp hx; rfl)
    have hz : fzV (h ++ [.list (ws.map .str)]) h.length (.lst (ws'.map .str)) = _ := fz_plain (v := .lst (ws'.map .str)) (by simpa [noRef] using nr)
    rw [e1] at hs
    rw [run__law_items]
    simp only [body, d__law_items] at a
    simp [runDef, d__law_items, initEnv, fin_more, hr, a, hs, hz]
end S15

end
section
set_option Elab.async false
set_option linter.all false
set_option maxRecDepth 20000
namespace S15
open Ev Sim P15
open PySem (Str)
/-! ### coins, totals, shares -/
theorem pick (T : Tabs) (h : EHeap) (l : List Val) (hl : 0 < l.length) (x m : Int) (hm : m = l.length) : ∃ v ∈ l, idxV T (.lst l) (.int (x % m)) h = .ok v h := by
  subst hm
  have h0 : 0 ≤ x % (l.length : Int) := Int.emod_nonneg _ (by omega)
  have h1 : x % (l.length : Int) < l.length := Int.emod_lt_of_pos _ (by omega)
  have h2 : (x % (l.length : Int)).toNat < l.length := by omega
  exact ⟨l[(x % (l.length : Int)).toNat], List.getElem_mem h2, idx_lst h T h0 (by simp [h2])⟩
theorem seq_it {h : EHeap} {v : Val} {l : List Val} (s : SeqV h v l) : ∃ lk, itVal v h = .ok (l, lk) h ∧ chk lk h = .ok () h := by
  cases s with
  | tup => exact ⟨none, rfl, rfl⟩
  | lst => exact ⟨none, rfl, rfl⟩
  | @ref n l q => exact ⟨some (n, .list l), by simp [itVal, q], by rw [chk_some, if_pos q]⟩
def Coins (z : Int) : Prop := 0 ≤ z ∧ z ≤ 99999
theorem coins_ok (n : Nat) (m : Nat) (xs : List Int) (hx : Nums m xs) (k : Int) (hk : 0 ≤ k ∧ k + 1 < m) (h : EHeap) : ∃ z, Coins z ∧ run G (n+1) "_law_coins" [.lst (xs.map .int), .int k] h = .ok (.int z) h := by
  obtain ⟨x0, b0, e0⟩ := num_at hx (cx n).tabs h k (by omega)
  obtain ⟨x1, b1, e1⟩ := num_at hx (cx n).tabs h (k+1) (by omega)
  obtain ⟨v, hv, ev⟩ := pick (cx n).tabs h [.int 0, .int 1, .int 99999, .int x0, .int ((x0 * 200 + x1 / 5) % 100000)] (by simp) x1 5 rfl
  have q0 := mulR x0 200 h (by decide)
  have : ∃ z, Coins z ∧ v = .int z := by
    simp only [List.mem_cons, List.not_mem_nil, or_false] at hv
    unfold Coins
    rcases hv with rfl | rfl | rfl | rfl | rfl
    · exact ⟨0, by omega, rfl⟩
    · exact ⟨1, by omega, rfl⟩
    · exact ⟨99999, by omega, rfl⟩
    · exact ⟨x0, by omega, rfl⟩
    · exact ⟨_, by omega, rfl⟩
  obtain ⟨z, hz, rfl⟩ := this
  refine ⟨z, hz, ?_⟩
  rw [run__law_coins]
  simp [runDef, d__law_coins, initEnv, fin_pure, fzV, noRef, e0, e1, q0, bin_fdiv, bin_mod, ev]
def totalF (v d r : Int) : Int := (if v - d > 0 then v - d else 0) + (if v - d > 0 then v - d else 0) * r / 1000
theorem total_ok (n : Nat) (v d r : Int) (hr : 0 ≤ r ∧ r ≤ 999) (h : EHeap) : run G (n+1) "_law_total" [.int v, .int d, .int r] h = .ok (.int (totalF v d r)) h := by
  have q0 := fun x => mulR x r h (small_of (by omega))
  rw [run__law_total]
  simp [runDef, d__law_total, initEnv, fin_pure, fzV, noRef, q0, bin_fdiv, totalF]
def shareF (t p w : Int) : Int := if w = 0 then 0 else t * p / w
theorem share_ok (n : Nat) (t p w : Int) (hw : 0 ≤ w ∧ w < 1000000000) (ht : -9000000000 < p ∧ p < 9000000000) (h : EHeap) : run G (n+1) "_law_share" [.int t, .int p, .int w] h = .ok (.int (shareF t p w)) h := by
  have q0 := mulR t p h (small_of (by omega))
  rw [run__law_share]
  unfold shareF
  by_cases q : w = 0
  · have : (w == (0 : Int)) = true := by simp [q]
    simp [runDef, d__law_share, initEnv, fin_pure, fzV, noRef, q]
  · have : (w == (0 : Int)) = false := by simp [q]
    have q1 := bin_fdiv h (t * p) w (by omega)
    simp [runDef, d__law_share, initEnv, fin_pure, fzV, noRef, q, q0, q1, this]
/-! ### parts -/
structure Pt where
  s : Int
  w : Str
  c : Int
  p : Int
  st : String
  b : Int
  deriving Inhabited
def Pt.v (x : Pt) : Val := .tup [.int x.s, .str x.w, .int x.c, .int x.p, .str (lit x.st), .int x.b]
structure PtOk (x : Pt) : Prop where
  hs : St x.s
  hw : Word x.w
  hc : 1 ≤ x.c ∧ x.c ≤ 999
  hp : 0 ≤ x.p ∧ x.p ≤ 99999
  hst : x.st = "held" ∨ x.st = "sent" ∨ x.st = "freed"
  hb : 0 ≤ x.b ∧ x.b ≤ x.c
  hb0 : x.st ≠ "sent" → x.b = 0
def ptLt (x y : Pt) : Prop := x.s < y.s ∨ x.s = y.s ∧ cmpL x.w.cps.toList y.w.cps.toList = .lt
def inSt (s : String) (x : Pt) : Bool := decide (s = "all") || decide (x.st = s)
def pv (ps : List Pt) (s : String) : Int := ((ps.filter (inSt s)).map fun x => x.c * x.p).sum
def bv (ps : List Pt) : Int := (ps.map fun x => x.b * x.p).sum
abbrev pvBody : Sx := match d__law_part_value with
  | .seq _ (.seq (.for_ _ _ b) _) => b
  | _ => .skip
theorem pv_loop (n : Nat) (lk : Lk) (h : EHeap) (hk : chk lk h = .ok () h) (e0 : Option Val) (s : String) : ∀ (ps : List Pt), (∀ x ∈ ps, PtOk x) → ∀ (acc : Int) (z3 : Option Val), ∃ z, forLoop lk (bindTg (.nm 3)) (fun e => evS (cx n) pvBody e) (ps.map Pt.v) [e0, some (.str (lit s)), some (.int acc), z3] h = .ok (.nx [e0, some (.str (lit s)), some (.int (acc + pv ps s)), z]) h
  | [], _, acc, z3 => ⟨z3, by simp [for_nil, hk, pv]⟩
  | x :: ps, ho, acc, z3 => by
    obtain ⟨z, hz⟩ := pv_loop n lk h hk e0 s ps (fun y hy => ho y (by simp [hy])) (acc + if inSt s x = true then x.c * x.p else 0) (some x.v)
    refine ⟨z, ?_⟩
    have hx := ho x (by simp)
    have q0 := mulL x.c x.p h (small_of (by have := hx.hc; omega))
    have e1 := lit_beq s "all"
    have e2 := lit_beq x.st s
    have ev : acc + pv (x :: ps) s = acc + (if inSt s x = true then x.c * x.p else 0) + pv ps s := by
      unfold pv
      by_cases q : inSt s x = true
      · rw [List.filter_cons_of_pos q, if_pos q]; simp; omega
      · rw [List.filter_cons_of_neg q, if_neg q]; omega
    rw [ev, List.map_cons, for_cons, hk]
    unfold pvBody Pt.v at *
    simp only [d__law_part_value] at hz ⊢
    unfold inSt at hz ⊢
    by_cases q1 : s = "all"
    · subst q1
      simp at hz
      simp [e1, q0, hz]
    · by_cases q2 : x.st = s
      · simp [q1, q2] at hz
        simp [e1, e2, q0, q1, q2, hz]
      · simp [q1, q2] at hz
        simp [e1, e2, q0, q1, q2, hz]
theorem part_value_ok (n : Nat) (ps : List Pt) (ho : ∀ x ∈ ps, PtOk x) (s : String) {v : Val} {h : EHeap} (sv : SeqV h v (ps.map Pt.v)) : run G (n+1) "_law_part_value" [v, .str (lit s)] h = .ok (.int (pv ps s)) h := by
  obtain ⟨lk, h1, h2⟩ := seq_it sv
  obtain ⟨z, hz⟩ := pv_loop n lk h h2 (some v) s ps ho 0 none
  unfold pvBody at hz
  simp only [d__law_part_value] at hz
  rw [run__law_part_value]
  simp at hz
  simp [runDef, d__law_part_value, initEnv, fin_pure, fzV, noRef, h1, hz]
abbrev bvBody : Sx := match d__law_back_value with
  | .seq _ (.seq (.for_ _ _ b) _) => b
  | _ => .skip
theorem bv_loop (n : Nat) (lk : Lk) (h : EHeap) (hk : chk lk h = .ok () h) (e0 : Option Val) : ∀ (ps : List Pt), (∀ x ∈ ps, PtOk x) → ∀ (acc : Int) (z3 : Option Val), ∃ z, forLoop lk (bindTg (.nm 2)) (fun e => evS (cx n) bvBody e) (ps.map Pt.v) [e0, some (.int acc), z3] h = .ok (.nx [e0, some (.int (acc + bv ps)), z]) h
  | [], _, acc, z3 => ⟨z3, by simp [for_nil, hk, bv]⟩
  | x :: ps, ho, acc, z3 => by
    obtain ⟨z, hz⟩ := bv_loop n lk h hk e0 ps (fun y hy => ho y (by simp [hy])) (acc + x.b * x.p) (some x.v)
    refine ⟨z, ?_⟩
    have hx := ho x (by simp)
    have q0 := mulL x.b x.p h (small_of (by have := hx.hb; have := hx.hc; omega))
    have ev : acc + bv (x :: ps) = acc + x.b * x.p + bv ps := by
      unfold bv
      simp; omega
    rw [ev, List.map_cons, for_cons, hk]
    unfold bvBody Pt.v at *
    simp only [d__law_back_value] at hz ⊢
    simp [q0, hz]
theorem back_value_ok (n : Nat) (ps : List Pt) (ho : ∀ x ∈ ps, PtOk x) {v : Val} {h : EHeap} (sv : SeqV h v (ps.map Pt.v)) : run G (n+1) "_law_back_value" [v] h = .ok (.int (bv ps)) h := by
  obtain ⟨lk, h1, h2⟩ := seq_it sv
  obtain ⟨z, hz⟩ := bv_loop n lk h h2 (some v) ps ho 0 none
  unfold bvBody at hz
  simp only [d__law_back_value] at hz
  rw [run__law_back_value]
  simp at hz
  simp [runDef, d__law_back_value, initEnv, fin_pure, fzV, noRef, h1, hz]
end S15

end
section
set_option Elab.async false
set_option linter.all false
set_option maxRecDepth 20000
namespace S15
open Ev Sim P15
open PySem (Str)
/-! ### the parts of an order -/
theorem range_zero (a : Int) : rangeL a 0 = [] := rfl
theorem range_succ (a : Int) (n : Nat) : rangeL a (n+1) = .int a :: rangeL (a+1) n := by
  unfold rangeL
  rw [List.range_succ_eq_map, List.map_cons, List.map_map]
  simp only [Int.natCast_zero, Int.add_zero, List.cons.injEq, true_and]
  apply List.map_congr_left
  intro i _
  simp only [Function.comp]
  congr 1
  show a + ((i + 1 : Nat) : Int) = a + 1 + i
  omega
abbrev Sts (t : String) : Prop := t = "held" ∨ t = "sent" ∨ t = "freed"
structure GoodP (ws : List Str) (s : Int) (j : Nat) (ps : List Pt) : Prop where
  ok : ∀ x ∈ ps, PtOk x
  c : ∀ x ∈ ps, x.c ≤ 333
  asc : ps.Pairwise ptLt
  at_ : ∀ x ∈ ps, x.s < s ∨ x.s = s ∧ ∃ i, i < j ∧ ws[i]? = some x.w
  len : (ps.length : Int) ≤ 4 * (s - 2) + j
abbrev inBody : Sx := match d__law_parts with
  | .seq _ (.seq _ (.seq _ (.seq (.for_ _ _ (.seq _ (.for_ _ _ b))) _))) => b
  | _ => .skip
theorem GoodP.snoc {ws : List Str} {s : Int} {j : Nat} {ps : List Pt} (g : GoodP ws s j ps) (iw : Items ws) {w : Str} (hw : ws[j]? = some w) (hs : St s) (c p b : Int) (t : String) (hc : 1 ≤ c ∧ c ≤ 333) (hp : Coins p) (ht : Sts t) (hb : 0 ≤ b ∧ b ≤ c) (hb0 : t ≠ "sent" → b = 0) : GoodP ws s (j+1) (ps ++ [⟨s, w, c, p, t, b⟩]) := by
  have hword := iw.word w (List.mem_of_getElem? hw)
  refine ⟨?_, ?_, ?_, ?_, ?_⟩
  · intro x hx
    rcases List.mem_append.mp hx with q | q
    · exact g.ok x q
    · simp only [List.mem_singleton] at q; subst q
      exact ⟨hs, hword, ⟨hc.1, by show c ≤ 999; omega⟩, hp, ht, hb, hb0⟩
  · intro x hx
    rcases List.mem_append.mp hx with q | q
    · exact g.c x q
    · simp only [List.mem_singleton] at q; subst q; exact hc.2
  · rw [List.pairwise_append]
    refine ⟨g.asc, by simp, ?_⟩
    intro x hx y hy
    simp only [List.mem_singleton] at hy
    subst hy
    rcases g.at_ x hx with q | ⟨q, i, hi, e⟩
    · exact .inl q
    · refine .inr ⟨q, ?_⟩
      have hj : j < ws.length := (List.getElem?_eq_some_iff.mp hw).1
      have hi' : i < ws.length := by omega
      have := (List.pairwise_iff_getElem.mp iw.asc) i j hi' hj hi
      rw [(List.getElem?_eq_some_iff.mp e).2, (List.getElem?_eq_some_iff.mp hw).2] at this
      exact this
  · intro x hx
    rcases List.mem_append.mp hx with q | q
    · rcases g.at_ x q with z | ⟨z, i, hi, e⟩
      · exact .inl z
      · exact .inr ⟨z, i, by omega, e⟩
    · simp only [List.mem_singleton] at q; subst q
      exact .inr ⟨rfl, j, by omega, hw⟩
  · have := g.len
    simp; omega
theorem GoodP.skip {ws : List Str} {s : Int} {j : Nat} {ps : List Pt} (g : GoodP ws s j ps) : GoodP ws s (j+1) ps :=
  ⟨g.ok, g.c, g.asc, fun x hx => (g.at_ x hx).imp id fun ⟨z, i, hi, e⟩ => ⟨z, i, by omega, e⟩, by have := g.len; omega⟩
theorem GoodP.next {ws : List Str} {s : Int} {ps : List Pt} (g : GoodP ws s ws.length ps) (hi : ws.length ≤ 4) : GoodP ws (s+1) 0 ps :=
  ⟨g.ok, g.c, g.asc, fun x hx => .inl ((g.at_ x hx).elim (fun z => by omega) fun z => by omega), by have := g.len; omega⟩
theorem in_loop (n : Nat) (m : Nat) (xs : List Int) (hx : Nums m xs) (k : Int) (hk : 0 ≤ k ∧ k + 28 < m) (ws : List Str) (iw : Items ws) (pr : List Int) (hpr : pr.length = 4 ∧ ∀ p ∈ pr, Coins p) (h : EHeap) (rest : Option Val) (s : Int) (hs : St s) (t : String) (ht : Sts t) :
    ∀ (r j : Nat), j + r = ws.length → ∀ (ps : List Pt), GoodP ws s j ps → ∀ (z8 z9 z10 z11 z12 : Option Val), ∃ ps' y8 y9 y10 y11 y12, GoodP ws s ws.length ps' ∧ forLoop none (bindTg (.nm 8)) (fun e => evS (cx n) inBody e) (rangeL j r) [some (.lst (xs.map .int)), some (.int k), some (.lst (ws.map .str)), some (.lst (pr.map .int)), some (.ref h.length), rest, some (.int s), some (.str (lit t)), z8, z9, z10, z11, z12] (h ++ [.list (ps.map Pt.v)]) = .ok (.nx [some (.lst (xs.map .int)), some (.int k), some (.lst (ws.map .str)), some (.lst (pr.map .int)), some (.ref h.length), rest, some (.int s), some (.str (lit t)), y8, y9, y10, y11, y12]) (h ++ [.list (ps'.map Pt.v)])
  | 0, j, hj, ps, g, z8, z9, z10, z11, z12 => ⟨ps, z8, z9, z10, z11, z12, by rw [show ws.length = j by omega]; exact g, rfl⟩
  | r + 1, j, hj, ps, g, z8, z9, z10, z11, z12 => by
    have hjl : j < ws.length := by omega
    have hj4 : j < 4 := by have := iw.hi; omega
    have hs' := hs
    unfold St at hs'
    obtain ⟨H, eH⟩ : ∃ H, H = h ++ [EObj.list (ps.map Pt.v)] := ⟨_, rfl⟩
    obtain ⟨x0, b0, e0⟩ := num_at hx (cx n).tabs H (k + 5 + 8 * (s - 2) + 2 * j) (by omega)
    obtain ⟨x1, b1, e1⟩ := num_at hx (cx n).tabs H (k + 5 + 8 * (s - 2) + 2 * j + 1) (by omega)
    have q1 := mulL 8 (s - 2) H (by decide)
    have q2 := mulL 2 (j : Int) H (by decide)
    obtain ⟨v, hv, ev⟩ := pick (cx n).tabs H [.int 0, .int 1, .int (1 + (x0 / 4 + x1) % 333), .int (1 + x0 / 4 % 9)] (by simp) x0 4 rfl
    obtain ⟨c, hc, rfl⟩ : ∃ c, (0 ≤ c ∧ c ≤ 333) ∧ v = .int c := by
      simp only [List.mem_cons, List.not_mem_nil, or_false] at hv
      rcases hv with rfl | rfl | rfl | rfl
      · exact ⟨0, by omega, rfl⟩
      · exact ⟨1, by omega, rfl⟩
      · exact ⟨_, by omega, rfl⟩
      · exact ⟨_, by omega, rfl⟩
    have hbm := fun x => bin_mod H x (c + 1) (by omega)
    obtain ⟨w, hw⟩ : ∃ w, ws[j]? = some w := ⟨ws[j], by simp [hjl]⟩
    have hword := iw.word w (List.mem_of_getElem? hw)
    have ei : idxV (cx n).tabs (.lst (ws.map .str)) (.int (j : Int)) H = .ok (.str w) H := idx_lst H _ (by omega) (by simp [hw])
    obtain ⟨p, hp⟩ : ∃ p, pr[j]? = some p := ⟨pr[j], by simp [hpr.1, hj4]⟩
    have hpc := hpr.2 p (List.mem_of_getElem? hp)
    have ep : idxV (cx n).tabs (.lst (pr.map .int)) (.int (j : Int)) H = .ok (.int p) H := idx_lst H _ (by omega) (by simp [hp])
    have hlen : (ps.map Pt.v).length < 16777216 := by have := g.len; simp; omega
    have hap := fun (x : Val) => app_end h (ps.map Pt.v) x (eq_true hlen)
    have hre := recv_end h (ps.map Pt.v)
    rw [← eH] at hap hre
    rw [range_succ]
    rw [for_cons]
    obtain ⟨bk, hbd⟩ : ∃ b : Int, b = if t = "sent" ∧ x1 % 2 = 0 then x1 / 2 % (c + 1) else 0 := ⟨_, rfl⟩
    have hbk : 0 ≤ bk ∧ bk ≤ c := by
      rw [hbd]
      split
      · have h1 := Int.emod_nonneg (x1 / 2) (show c + 1 ≠ 0 by omega)
        have h2 := Int.emod_lt_of_pos (x1 / 2) (show 0 < c + 1 by omega)
        omega
      · omega
    have et := lit_beq t "sent"
    by_cases hc0 : 0 < c
    · have g' := g.snoc iw hw hs c p bk t (by omega) hpc ht hbk (fun q => by rw [hbd, if_neg fun z => q z.1])
      obtain ⟨ps', y8, y9, y10, y11, y12, gg, hl⟩ := in_loop n m xs hx k hk ws iw pr hpr h rest s hs t ht r (j+1) (by omega) _ g' (some (.int j)) (some (.int (k + 5 + 8 * (s - 2) + 2 * j))) (some (.int (1 + (x0 / 4 + x1) % 333))) (some (.int c)) (some (.int bk))
      refine ⟨ps', y8, y9, y10, y11, y12, gg, ?_⟩
      have ec : ((j + 1 : Nat) : Int) = (j : Int) + 1 := by omega
      rw [ec] at hl
      rw [List.map_append] at hl
      simp only [List.map_cons, List.map_nil, Pt.v] at hl
      rw [← eH]
      unfold inBody at hl ⊢
      simp only [d__law_parts] at hl ⊢
      by_cases q3 : t = "sent"
      · subst q3
        by_cases q4 : x1 % 2 = 0
        · have eb : bk = x1 / 2 % (c + 1) := by rw [hbd, if_pos ⟨rfl, q4⟩]
          rw [eb] at hl
          simp [e0, e1, q1, q2, ev, ei, ep, bin_mod, bin_fdiv, hbm, q4, hc0, hre, hap, hl, Pt.v]
        · have eb : bk = 0 := by rw [hbd, if_neg fun z => q4 z.2]
          rw [eb] at hl
          simp [e0, e1, q1, q2, ev, ei, ep, bin_mod, bin_fdiv, hbm, q4, hc0, hre, hap, hl, Pt.v]
      · have eb : bk = 0 := by rw [hbd, if_neg fun z => q3 z.1]
        rw [eb] at hl
        rw [decide_eq_false q3] at et
        simp [e0, e1, q1, q2, ev, ei, ep, bin_mod, bin_fdiv, hbm, et, q3, hc0, hre, hap, hl, Pt.v]
    · obtain ⟨ps', y8, y9, y10, y11, y12, gg, hl⟩ := in_loop n m xs hx k hk ws iw pr hpr h rest s hs t ht r (j+1) (by omega) _ g.skip (some (.int j)) (some (.int (k + 5 + 8 * (s - 2) + 2 * j))) (some (.int (1 + (x0 / 4 + x1) % 333))) (some (.int c)) (some (.int bk))
      refine ⟨ps', y8, y9, y10, y11, y12, gg, ?_⟩
      have ec : ((j + 1 : Nat) : Int) = (j : Int) + 1 := by omega
      rw [ec] at hl
      rw [← eH] at hl ⊢
      unfold inBody at hl ⊢
      simp only [d__law_parts] at hl ⊢
      by_cases q3 : t = "sent"
      · subst q3
        by_cases q4 : x1 % 2 = 0
        · have eb : bk = x1 / 2 % (c + 1) := by rw [hbd, if_pos ⟨rfl, q4⟩]
          rw [eb] at hl
          simp [e0, e1, q1, q2, ev, ei, ep, bin_mod, bin_fdiv, hbm, q4, hc0, hl]
        · have eb : bk = 0 := by rw [hbd, if_neg fun z => q4 z.2]
          rw [eb] at hl
          simp [e0, e1, q1, q2, ev, ei, ep, bin_mod, bin_fdiv, hbm, q4, hc0, hl]
      · have eb : bk = 0 := by rw [hbd, if_neg fun z => q3 z.1]
        rw [eb] at hl
        rw [decide_eq_false q3] at et
        simp [e0, e1, q1, q2, ev, ei, ep, bin_mod, bin_fdiv, hbm, et, q3, hc0, hl]
end S15

end
section
set_option Elab.async false
set_option linter.all false
set_option maxRecDepth 20000
namespace S15
open Ev Sim P15
open PySem (Str)
abbrev outBody : Sx := match d__law_parts with
  | .seq _ (.seq _ (.seq _ (.seq (.for_ _ _ b) _))) => b
  | _ => .skip
theorem out_step (n : Nat) (m : Nat) (xs : List Int) (hx : Nums m xs) (k : Int) (hk : 0 ≤ k ∧ k + 28 < m) (ws : List Str) (iw : Items ws) (pr : List Int) (hpr : pr.length = 4 ∧ ∀ p ∈ pr, Coins p) (h : EHeap) (rest : String) (hr : rest = "held" ∨ rest = "freed") (s : Int) (hs : St s)
    (ps : List Pt) (g : GoodP ws s 0 ps) (z7 z8 z9 z10 z11 z12 : Option Val) : ∃ ps' y7 y8 y9 y10 y11 y12, GoodP ws (s+1) 0 ps' ∧ evS (cx n) outBody [some (.lst (xs.map .int)), some (.int k), some (.lst (ws.map .str)), some (.lst (pr.map .int)), some (.ref h.length), some (.str (lit rest)), some (.int s), z7, z8, z9, z10, z11, z12] (h ++ [.list (ps.map Pt.v)]) = .ok (.nx [some (.lst (xs.map .int)), some (.int k), some (.lst (ws.map .str)), some (.lst (pr.map .int)), some (.ref h.length), some (.str (lit rest)), some (.int s), y7, y8, y9, y10, y11, y12]) (h ++ [.list (ps'.map Pt.v)]) := by
  have hs' := hs
  unfold St at hs'
  obtain ⟨x0, b0, e0⟩ := num_at hx (cx n).tabs (h ++ [EObj.list (ps.map Pt.v)]) (k + s) (by omega)
  obtain ⟨v, hv, ev⟩ := pick (cx n).tabs (h ++ [EObj.list (ps.map Pt.v)]) [.str (lit "sent"), .str (lit rest)] (by simp) x0 2 rfl
  obtain ⟨t, ht, rfl⟩ : ∃ t, Sts t ∧ v = .str (lit t) := by
    simp only [List.mem_cons, List.not_mem_nil, or_false] at hv
    unfold Sts
    rcases hv with rfl | rfl
    · exact ⟨"sent", by simp, rfl⟩
    · exact ⟨rest, by rcases hr with q | q <;> simp [q], rfl⟩
  obtain ⟨ps', y8, y9, y10, y11, y12, gg, hl⟩ := in_loop n m xs hx k hk ws iw pr hpr h (some (.str (lit rest))) s hs t ht ws.length 0 (by omega) ps g z8 z9 z10 z11 z12
  refine ⟨ps', some (.str (lit t)), y8, y9, y10, y11, y12, gg.next iw.hi, ?_⟩
  have hrn := rng1 ws.length (by have := iw.hi; omega) (h ++ [EObj.list (ps.map Pt.v)])
  unfold outBody
  unfold inBody at hl
  simp only [d__law_parts] at hl ⊢
  simp at hl
  simp [e0, ev, bin_mod, hrn, hl]
structure PtsOk (ps : List Pt) : Prop where
  ok : ∀ x ∈ ps, PtOk x
  asc : ps.Pairwise ptLt
  ne : ps ≠ []
  len : ps.length ≤ 12
  sum : (ps.map (·.c)).sum ≤ 3996
theorem sum_le333 : ∀ ps : List Pt, (∀ x ∈ ps, x.c ≤ 333) → (ps.map (·.c)).sum ≤ 333 * ps.length
  | [], _ => by simp
  | x :: ps, h => by
    have := sum_le333 ps fun y hy => h y (by simp [hy])
    have := h x (by simp)
    simp; omega
theorem parts_ok (n : Nat) (m : Nat) (xs : List Int) (hx : Nums m xs) (k : Int) (hk : 0 ≤ k ∧ k + 28 < m) (ws : List Str) (iw : Items ws) (pr : List Int) (hpr : pr.length = 4 ∧ ∀ p ∈ pr, Coins p) (h : EHeap) : ∃ ps, PtsOk ps ∧ run G (n+1) "_law_parts" [.lst (xs.map .int), .int k, .lst (ws.map .str), .lst (pr.map .int)] h = .ok (.tup (ps.map Pt.v)) h := by
  obtain ⟨x0, b0, e0⟩ := num_at hx (cx n).tabs (h ++ [EObj.list []]) k (by omega)
  obtain ⟨rest, hr, er⟩ : ∃ rest, (rest = "held" ∨ rest = "freed") ∧ rest = if x0 % 3 = 0 then "freed" else "held" := by
    by_cases q : x0 % 3 = 0
    · exact ⟨"freed", .inr rfl, by rw [if_pos q]⟩
    · exact ⟨"held", .inl rfl, by rw [if_neg q]⟩
  have g0 : GoodP ws 2 0 [] := ⟨by simp, by simp, by simp, by simp, by simp⟩
  obtain ⟨p1, a7, a8, a9, a10, a11, a12, g1, l1⟩ := out_step n m xs hx k hk ws iw pr hpr h rest hr 2 ⟨by decide, by decide⟩ [] g0 none none none none none none
  obtain ⟨p2, b7, b8, b9, b10, b11, b12, g2, l2⟩ := out_step n m xs hx k hk ws iw pr hpr h rest hr 3 ⟨by decide, by decide⟩ p1 g1 a7 a8 a9 a10 a11 a12
  obtain ⟨p3, c7, c8, c9, c10, c11, c12, g3, l3⟩ := out_step n m xs hx k hk ws iw pr hpr h rest hr 4 ⟨by decide, by decide⟩ p2 g2 b7 b8 b9 b10 b11 b12
  obtain ⟨w0, hw0⟩ : ∃ w, ws[0]? = some w := ⟨ws[0]'(by have := iw.lo; omega), by simp⟩
  have hword := iw.word w0 (List.mem_of_getElem? hw0)
  obtain ⟨q0, hq0⟩ : ∃ p, pr[0]? = some p := ⟨pr[0]'(by omega), by simp⟩
  have hpc := hpr.2 q0 (List.mem_of_getElem? hq0)
  have ei : ∀ H, idxV (cx n).tabs (.lst (ws.map .str)) (.int 0) H = .ok (.str w0) H := fun H => idx_lst H _ (by omega) (by simpa using hw0)
  have ep : ∀ H, idxV (cx n).tabs (.lst (pr.map .int)) (.int 0) H = .ok (.int q0) H := fun H => idx_lst H _ (by omega) (by simpa using hq0)
  simp only [List.map_nil] at l1
  have hlen3 : p3.length ≤ 12 := by have := g3.len; omega
  cases p3 with
  | cons x r =>
    refine ⟨x :: r, ⟨g3.ok, g3.asc, by simp, hlen3, by have := sum_le333 _ g3.c; omega⟩, ?_⟩
    have hz : ((r.length : Int) + 1 == 0) = false := by simp; omega
    have hz' : ((r.length : Int) + 1 = 0) = False := by simp; omega
    have hl := len_end h ((x :: r).map Pt.v)
    have ht := tuple_ref (get_end h (.list ((x :: r).map Pt.v)))
    have hno : noRefs ((x :: r).map Pt.v) = true := (noRefs_iff _).mpr (by intro y hy; obtain ⟨z, _, rfl⟩ := List.mem_map.mp hy; rfl)
    have hf : fzV (h ++ [.list ((x :: r).map Pt.v)]) h.length (.tup ((x :: r).map Pt.v)) = _ := fz_plain (v := .tup ((x :: r).map Pt.v)) (by simpa [noRef] using hno)
    unfold outBody at l1 l2 l3
    simp only [d__law_parts] at l1 l2 l3
    rw [run__law_parts]
    simp only [List.map_cons] at hl ht hf l3 ⊢
    by_cases q : x0 % 3 = 0
    · rw [if_pos q] at er
      subst er
      simp at l1 l2 l3
      simp [runDef, d__law_parts, initEnv, fin_more, e0, bin_mod, q, for_cons, for_nil, l1, l2, l3, hl, hz, hz', ht, hf]
    · rw [if_neg q] at er
      subst er
      simp at l1 l2 l3
      simp [runDef, d__law_parts, initEnv, fin_more, e0, bin_mod, q, for_cons, for_nil, l1, l2, l3, hl, hz, hz', ht, hf]
  | nil =>
    refine ⟨[⟨2, w0, 1, q0, rest, 0⟩], ⟨?_, by simp, by simp, by simp, by simp⟩, ?_⟩
    · intro x hx
      simp only [List.mem_singleton] at hx
      subst hx
      refine ⟨⟨show (2 : Int) ≤ 2 by decide, show (2 : Int) ≤ 4 by decide⟩, hword, ⟨show (1 : Int) ≤ 1 by decide, show (1 : Int) ≤ 999 by decide⟩, hpc, ?_, ⟨show (0 : Int) ≤ 0 by decide, show (0 : Int) ≤ 1 by decide⟩, fun _ => rfl⟩
      show rest = "held" ∨ rest = "sent" ∨ rest = "freed"
      rcases hr with z | z <;> simp [z]
    · have hl := len_end h []
      have hap := fun v => app_end h [] v (eq_true (by simp))
      have hre := recv_end h []
      have ht := fun v => tuple_ref (get_end h (.list [v]))
      have hf : ∀ v, noRef v = true → fzV (h ++ [.list [v]]) h.length (.tup [v]) = some (.tup [v]) := fun v hv => fz_plain (by simp [noRef, noRefs, hv])
      have hf := hf (.tup [.int 2, .str w0, .int 1, .int q0, .str (lit rest), .int 0]) rfl
      unfold outBody at l1 l2 l3
      simp only [d__law_parts, List.map_nil] at l1 l2 l3
      rw [run__law_parts]
      by_cases q : x0 % 3 = 0
      · rw [if_pos q] at er
        subst er
        simp at l1 l2 l3 hap ht hf
        simp [runDef, d__law_parts, initEnv, fin_more, e0, bin_mod, q, for_cons, for_nil, l1, l2, l3, hl, hre, hap, ei, ep, ht, hf, Pt.v]
      · rw [if_neg q] at er
        subst er
        simp at l1 l2 l3 hap ht hf
        simp [runDef, d__law_parts, initEnv, fin_more, e0, bin_mod, q, for_cons, for_nil, l1, l2, l3, hl, hre, hap, ei, ep, ht, hf, Pt.v]

theorem pv_bound (s : String) : ∀ ps : List Pt, (∀ x ∈ ps, PtOk x) → 0 ≤ pv ps s ∧ pv ps s ≤ 99999 * (ps.map (·.c)).sum
  | [], _ => by simp [pv]
  | x :: ps, h => by
    have ih := pv_bound s ps fun y hy => h y (by simp [hy])
    have hx := h x (by simp)
    have h1 : 0 ≤ x.c * x.p := Int.mul_nonneg (by have := hx.hc; omega) hx.hp.1
    have h2 : x.c * x.p ≤ x.c * 99999 := Int.mul_le_mul_of_nonneg_left hx.hp.2 (by have := hx.hc; omega)
    have hc := hx.hc
    unfold pv at ih ⊢
    by_cases q : inSt s x = true
    · rw [List.filter_cons_of_pos q]
      simp only [List.map_cons, List.sum_cons]
      omega
    · rw [List.filter_cons_of_neg q]
      simp only [List.map_cons, List.sum_cons]
      omega
theorem bv_bound : ∀ ps : List Pt, (∀ x ∈ ps, PtOk x) → 0 ≤ bv ps ∧ bv ps ≤ 99999 * (ps.map (·.c)).sum
  | [], _ => by simp [bv]
  | x :: ps, h => by
    have ih := bv_bound ps fun y hy => h y (by simp [hy])
    have hx := h x (by simp)
    have hb := hx.hb
    have hc := hx.hc
    have h1 : 0 ≤ x.b * x.p := Int.mul_nonneg hb.1 hx.hp.1
    have h2 : x.b * x.p ≤ x.b * 99999 := Int.mul_le_mul_of_nonneg_left hx.hp.2 hb.1
    unfold bv at ih ⊢
    simp only [List.map_cons, List.sum_cons]
    omega
structure Rec where
  ps : List Pt
  value : Int
  total : Int
  charged : Int
  given : Int
def Rec.v (r : Rec) : Val := .tup [.tup (r.ps.map Pt.v), .int r.value, .int r.total, .int r.charged, .int r.given]
structure RecOk (r : Rec) : Prop where
  ps : PtsOk r.ps
  value : r.value = pv r.ps "all"
  total : 0 ≤ r.total ∧ r.total ≤ 2 * r.value
  charged : r.charged = shareF r.total (pv r.ps "sent") r.value
  given : r.given = shareF r.total (bv r.ps) r.value
theorem total_bound (v d r : Int) (hv : 0 ≤ v) (hd : 0 ≤ d) (hr : 0 ≤ r ∧ r ≤ 999) : 0 ≤ totalF v d r ∧ totalF v d r ≤ 2 * v := by
  unfold totalF
  obtain ⟨x, hx⟩ : ∃ x, x = if v - d > 0 then v - d else 0 := ⟨_, rfl⟩
  rw [← hx]
  have h0 : 0 ≤ x ∧ x ≤ v := by rw [hx]; split <;> omega
  have h1 : 0 ≤ x * r := Int.mul_nonneg h0.1 hr.1
  have h2 : x * r ≤ x * 999 := Int.mul_le_mul_of_nonneg_left hr.2 h0.1
  omega
theorem record_ok (n : Nat) (m : Nat) (xs : List Int) (hx : Nums m xs) (k : Int) (hk : 0 ≤ k ∧ k + 54 < m) (h : EHeap) : ∃ r, RecOk r ∧ run G (n+3) "_law_record" [.lst (xs.map .int), .int k] h = .ok r.v h := by
  obtain ⟨x1, b1, e1⟩ := num_at hx (cx (n+2)).tabs h (k + 12) (by omega)
  obtain ⟨x2, b2, e2⟩ := num_at hx (cx (n+2)).tabs h (k + 52) (by omega)
  obtain ⟨x3, b3, e3⟩ := num_at hx (cx (n+2)).tabs h (k + 53) (by omega)
  obtain ⟨kk, hkk, ek⟩ : ∃ kk : Nat, (1 ≤ kk ∧ kk ≤ 4) ∧ (1 + x1 % 4) = (kk : Int) := ⟨(1 + x1 % 4).toNat, by omega, by omega⟩
  obtain ⟨ws, iw, ri⟩ := items_ok n m xs hx k hk.1 kk hkk (by omega) h
  rw [← ek] at ri
  obtain ⟨z0, c0, r0⟩ := coins_ok (n+1) m xs hx (k + 13 + 2 * 0) (by omega) h
  obtain ⟨z1, c1, r1⟩ := coins_ok (n+1) m xs hx (k + 13 + 2 * 1) (by omega) h
  obtain ⟨z2, c2, r2⟩ := coins_ok (n+1) m xs hx (k + 13 + 2 * 2) (by omega) h
  obtain ⟨z3, c3, r3⟩ := coins_ok (n+1) m xs hx (k + 13 + 2 * 3) (by omega) h
  obtain ⟨ps, ok, rp⟩ := parts_ok (n+1) m xs hx (k + 21) (by omega) ws iw [z0, z1, z2, z3] ⟨rfl, by simp [c0, c1, c2, c3]⟩ h
  have rv := part_value_ok (n+1) ps ok.ok "all" (.tup (ps.map Pt.v)) (h := h)
  have rs := part_value_ok (n+1) ps ok.ok "sent" (.tup (ps.map Pt.v)) (h := h)
  have rb := back_value_ok (n+1) ps ok.ok (.tup (ps.map Pt.v)) (h := h)
  obtain ⟨zd, cd, rd⟩ := coins_ok (n+1) m xs hx (k + 50) (by omega) h
  obtain ⟨v1, hv1, ev1⟩ := pick (cx (n+2)).tabs h [.int 0, .int zd] (by simp) x2 2 rfl
  obtain ⟨d, hd, rfl⟩ : ∃ d, Coins d ∧ v1 = .int d := by
    simp only [List.mem_cons, List.not_mem_nil, or_false] at hv1
    rcases hv1 with rfl | rfl
    · exact ⟨0, by unfold Coins; omega, rfl⟩
    · exact ⟨zd, cd, rfl⟩
  obtain ⟨v2, hv2, ev2⟩ := pick (cx (n+2)).tabs h [.int 0, .int 999, .int x3] (by simp) (x2 / 2) 3 rfl
  obtain ⟨r, hr, rfl⟩ : ∃ r, (0 ≤ r ∧ r ≤ 999) ∧ v2 = .int r := by
    simp only [List.mem_cons, List.not_mem_nil, or_false] at hv2
    rcases hv2 with rfl | rfl | rfl
    · exact ⟨0, by omega, rfl⟩
    · exact ⟨999, by omega, rfl⟩
    · exact ⟨x3, by omega, rfl⟩
  have pb := pv_bound "all" ps ok.ok
  have sb := pv_bound "sent" ps ok.ok
  have bb := bv_bound ps ok.ok
  have hsum := ok.sum
  have rt := total_ok (n+1) (pv ps "all") d r hr h
  have rc := share_ok (n+1) (totalF (pv ps "all") d r) (pv ps "sent") (pv ps "all") (by omega) (by omega) h
  have rg := share_ok (n+1) (totalF (pv ps "all") d r) (bv ps) (pv ps "all") (by omega) (by omega) h
  refine ⟨⟨ps, pv ps "all", totalF (pv ps "all") d r, shareF (totalF (pv ps "all") d r) (pv ps "sent") (pv ps "all"), shareF (totalF (pv ps "all") d r) (bv ps) (pv ps "all")⟩, ⟨ok, rfl, total_bound _ _ _ pb.1 hd.1 hr, rfl, rfl⟩, ?_⟩
  have hno : noRefs (ps.map Pt.v) = true := (noRefs_iff _).mpr (by intro y hy; obtain ⟨z, _, rfl⟩ := List.mem_map.mp hy; rfl)
  have hrn : rngV [.int 4] h = .ok (rangeL 0 4, none) h := rng1 4 (by decide) h
  have hr4 : rangeL 0 4 = [.int 0, .int 1, .int 2, .int 3] := rfl
  have hlp : quiet (compLoop none (fun v => some (List.set (wipeE [some (.lst (xs.map .int)), some (.int k), some (.lst (ws.map .str)), none, none, none, none, none, none, none] [9]) 9 (some v))) (fun e => pure true) (fun e => evE (cx (n+2)) (.call "_law_coins" (.cons (.var 0) (.cons (.bin .add (.bin .add (.var 1) (.cst (.int 13))) (.bin .mul (.cst (.int 2)) (.var 9))) .nil))) e) [.int 0, .int 1, .int 2, .int 3]) h = .ok [.int z0, .int z1, .int z2, .int z3] h := by
    have m0 := mulL 2 0 h (by decide)
    have m1 := mulL 2 1 h (by decide)
    have m2 := mulL 2 2 h (by decide)
    have m3 := mulL 2 3 h (by decide)
    simp at r0 r1 r2 r3 m0 m1 m2 m3
    refine quiet_of ?_
    simp [compLoop, wipeE, m0, m1, m2, m3, r0, r1, r2, r3]
  rw [run__law_record]
  simp only [List.map_cons, List.map_nil] at rp
  simp [runDef, d__law_record, initEnv, fin_pure, fzV, noRef, noRefs, e1, e2, e3, bin_mod, bin_fdiv, ri, hrn, hr4, isNop, hlp, rp, rv, rs, rb, rd, ev1, ev2, rt, rc, rg, Rec.v, hno]
end S15

end
section
set_option Elab.async false
set_option linter.all false
set_option maxRecDepth 20000
namespace S15
open Ev Sim P15
open PySem (Str)
theorem num_al {m : Nat} {xs : List Int} (hx : Nums m xs) (k : Int) (hk : 0 ≤ k ∧ k < m) : ∃ x, (0 ≤ x ∧ x < 1000) ∧ ∀ T h, idxV T (.lst (xs.map .int)) (.int k) h = .ok (.int x) h := by
  have h1 : k.toNat < xs.length := by rw [hx.1]; omega
  refine ⟨xs[k.toNat], hx.2 _ (List.getElem_mem h1), fun T h => ?_⟩
  exact idx_lst h T hk.1 (by simp [h1])
theorem pick_al (l : List Val) (hl : 0 < l.length) (x m : Int) (hm : m = l.length) : ∃ v ∈ l, ∀ T h, idxV T (.lst l) (.int (x % m)) h = .ok v h := by
  subst hm
  have h0 : 0 ≤ x % (l.length : Int) := Int.emod_nonneg _ (by omega)
  have h1 : x % (l.length : Int) < l.length := Int.emod_lt_of_pos _ (by omega)
  have h2 : (x % (l.length : Int)).toNat < l.length := by omega
  exact ⟨l[(x % (l.length : Int)).toNat], List.getElem_mem h2, fun T h => idx_lst h T h0 (by simp [h2])⟩
/-! ### the deed -/
theorem ix_m1 {n : Nat} (h : 0 < n) : ixOf n (-1) = some (n - 1) := by
  unfold ixOf
  rw [if_neg (by decide), if_pos (by omega)]
  congr 1
  omega
abbrev Ln := Str × Int
def lnV (l : Ln) : Val := .tup [.str l.1, .int l.2]
abbrev lnBody : Sx := match d__law_lines with
  | .seq _ (.seq (.for_ _ _ b) _) => b
  | _ => .skip
theorem ln_loop (n : Nat) (m : Nat) (xs : List Int) (hx : Nums m xs) (k : Int) (hk : 0 ≤ k ∧ k + 4 < m) (ws : List Str) (h : EHeap) (hw4 : ws.length ≤ 4) :
    ∀ (r j : Nat), j + r = ws.length → ∀ (ls : List Ln), ls.map (·.1) = ws.take j → (∀ l ∈ ls, 1 ≤ l.2 ∧ l.2 ≤ 999) → ∀ (z4 z5 z6 : Option Val), ∃ (ls' : List Ln) (y4 y5 y6 : Option Val), ls'.map (·.1) = ws ∧ (∀ l ∈ ls', 1 ≤ l.2 ∧ l.2 ≤ 999) ∧ forLoop none (bindTg (.nm 4)) (fun e => evS (cx n) lnBody e) (rangeL j r) [some (.lst (xs.map .int)), some (.int k), some (.lst (ws.map .str)), some (.ref h.length), z4, z5, z6] (h ++ [.list (ls.map lnV)]) = .ok (.nx [some (.lst (xs.map .int)), some (.int k), some (.lst (ws.map .str)), some (.ref h.length), y4, y5, y6]) (h ++ [.list (ls'.map lnV)])
  | 0, j, hj, ls, hl, hc, z4, z5, z6 => ⟨ls, z4, z5, z6, by rw [hl, List.take_of_length_le (by omega)], hc, rfl⟩
  | r + 1, j, hj, ls, hl, hc, z4, z5, z6 => by
    have hjl : j < ws.length := by omega
    obtain ⟨H, eH⟩ : ∃ H, H = h ++ [EObj.list (ls.map lnV)] := ⟨_, rfl⟩
    obtain ⟨x0, b0, e0⟩ := num_at hx (cx n).tabs H (k + j) (by omega)
    obtain ⟨x1, b1, e1⟩ := num_at hx (cx n).tabs H (k + 4) (by omega)
    obtain ⟨v, hv, ev⟩ := pick (cx n).tabs H [.int 1, .int 999, .int (1 + x0 / 4 % 9), .int (1 + (x0 / 4 * 4 + x1) % 999)] (by simp) x0 4 rfl
    obtain ⟨c, hcc, rfl⟩ : ∃ c, (1 ≤ c ∧ c ≤ 999) ∧ v = .int c := by
      simp only [List.mem_cons, List.not_mem_nil, or_false] at hv
      rcases hv with rfl | rfl | rfl | rfl
      · exact ⟨1, by omega, rfl⟩
      · exact ⟨999, by omega, rfl⟩
      · exact ⟨_, by omega, rfl⟩
      · exact ⟨_, by omega, rfl⟩
    have q1 := fun y => mulR y 4 H (by decide)
    obtain ⟨w, hw⟩ : ∃ w, ws[j]? = some w := ⟨ws[j], by simp [hjl]⟩
    have ei : idxV (cx n).tabs (.lst (ws.map .str)) (.int (j : Int)) H = .ok (.str w) H := idx_lst H _ (by omega) (by simp [hw])
    have hlen : (ls.map lnV).length < 16777216 := by
      have := congrArg List.length hl
      simp at this ⊢; omega
    have hap := fun (x : Val) => app_end h (ls.map lnV) x (eq_true hlen)
    have hre := recv_end h (ls.map lnV)
    rw [← eH] at hap hre
    have hl' : (ls ++ [(w, c)]).map (·.1) = ws.take (j+1) := by
      rw [List.map_append, hl, List.take_add_one, hw]; rfl
    have hc' : ∀ l ∈ ls ++ [(w, c)], 1 ≤ l.2 ∧ l.2 ≤ 999 := by
      intro l hm
      rcases List.mem_append.mp hm with q | q
      · exact hc l q
      · simp only [List.mem_singleton] at q; subst q; exact hcc
    obtain ⟨ls', y4, y5, y6, g1, g2, hlp⟩ := ln_loop n m xs hx k hk ws h hw4 r (j+1) (by omega) (ls ++ [(w, c)]) hl' hc' (some (.int j)) (some (.int (1 + (x0 / 4 * 4 + x1) % 999))) (some (.int c))
    refine ⟨ls', y4, y5, y6, g1, g2, ?_⟩
    have ec : ((j + 1 : Nat) : Int) = (j : Int) + 1 := by omega
    rw [ec, List.map_append] at hlp
    simp only [List.map_cons, List.map_nil, lnV] at hlp
    rw [range_succ, for_cons, ← eH]
    unfold lnBody at hlp ⊢
    simp only [d__law_lines] at hlp ⊢
    simp [e0, e1, q1, ev, ei, bin_mod, bin_fdiv, hre, hap, hlp, lnV]
theorem lines_ok (n : Nat) (m : Nat) (xs : List Int) (hx : Nums m xs) (k : Int) (hk : 0 ≤ k ∧ k + 4 < m) (ws : List Str) (iw : Items ws) (h : EHeap) : ∃ ls : List Ln, ls.map (·.1) = ws ∧ (∀ l ∈ ls, 1 ≤ l.2 ∧ l.2 ≤ 999) ∧ run G (n+1) "_law_lines" [.lst (xs.map .int), .int k, .lst (ws.map .str)] h = .ok (.tup (ls.map lnV)) h := by
  obtain ⟨ls, y4, y5, y6, g1, g2, hl⟩ := ln_loop n m xs hx k hk ws h iw.hi ws.length 0 (by omega) [] rfl (by simp) none none none
  refine ⟨ls, g1, g2, ?_⟩
  have hrn := rng1 ws.length (by have := iw.hi; omega) (h ++ [EObj.list []])
  have ht := tuple_ref (get_end h (.list (ls.map lnV)))
  have hno : noRefs (ls.map lnV) = true := (noRefs_iff _).mpr (by intro y hy; obtain ⟨z, _, rfl⟩ := List.mem_map.mp hy; rfl)
  have hf : fzV (h ++ [.list (ls.map lnV)]) h.length (.tup (ls.map lnV)) = _ := fz_plain (v := .tup (ls.map lnV)) (by simpa [noRef] using hno)
  unfold lnBody at hl
  simp only [d__law_lines] at hl
  simp at hl
  rw [run__law_lines]
  simp [runDef, d__law_lines, initEnv, fin_more, hrn, hl, ht, hf]
def sendD (a b s : Int) : Val := .tup [.str (lit "send"), idV a b, .int s]
def cancelD (a b : Int) : Val := .tup [.str (lit "cancel"), idV a b]
def backD (a b s : Int) (w : Str) (c : Int) : Val := .tup [.str (lit "back"), idV a b, .int s, .str w, .int c]
def couV : Option Str → Val
  | none => .non
  | some w => .str w
def orderD (ls : List Ln) (whole : Bool) (cp : Option Str) : Val := .tup [.str (lit "order"), .tup (ls.map lnV), .bl whole, couV cp]
structure LinesOk (ls : List Ln) : Prop where
  word : ∀ l ∈ ls, Word l.1
  asc : (ls.map (·.1)).Pairwise fun a b => cmpL a.cps.toList b.cps.toList = .lt
  lo : 1 ≤ ls.length
  hi : ls.length ≤ 4
  c : ∀ l ∈ ls, 1 ≤ l.2 ∧ l.2 ≤ 999
inductive DeedOf (a b : Int) : String → Val → Prop where
  | price (w : Str) (z : Int) (hw : Word w) (hz : Coins z) : DeedOf a b "price" (priceD w z)
  | coupon (w : Str) (z : Int) (hw : Word w) (hz : Coins z) : DeedOf a b "coupon" (couponD w z)
  | rate (z : Int) (hz : 0 ≤ z ∧ z ≤ 999) : DeedOf a b "rate" (rateD z)
  | stock (s : Int) (w : Str) (c : Int) (hs : St s) (hw : Word w) (hc : 1 ≤ c ∧ c ≤ 999) : DeedOf a b "stock" (stockD s w c)
  | move (s : Int) (w : Str) (c : Int) (hs : St s) (hw : Word w) (hc : 1 ≤ c ∧ c ≤ 999) : DeedOf a b "move" (moveD s w c)
  | arrive (a' s : Int) (w : Str) (ha : a' = a ∨ a' = 0) (hs : St s) (hw : Word w) : DeedOf a b "arrive" (arriveD a' b s w)
  | send (s : Int) (hs : St s) : DeedOf a b "send" (sendD a b s)
  | count (w : Str) (hw : Word w) : DeedOf a b "count" (countD w)
  | pay (z : Int) (hz : 1 ≤ z ∧ z ≤ 99999) : DeedOf a b "pay" (payD z)
  | draw (z : Int) (hz : 1 ≤ z ∧ z ≤ 99999) : DeedOf a b "draw" (drawD z)
  | order (ls : List Ln) (wh : Bool) (cp : Option Str) (hl : LinesOk ls) (hc : ∀ w, cp = some w → Word w) : DeedOf a b "order" (orderD ls wh cp)
  | back (s : Int) (w : Str) (c : Int) (hs : St s) (hw : Word w) (hc : 1 ≤ c ∧ c ≤ 999) : DeedOf a b "back" (backD a b s w c)
  | purse : DeedOf a b "purse" purseD
  | cancel : DeedOf a b "cancel" (cancelD a b)
  | look : DeedOf a b "look" (lookD a b)
theorem deed_ok (n : Nat) (m : Nat) (xs : List Int) (hx : Nums m xs) (k : Int) (hk : 0 ≤ k ∧ k + 25 < m) (a b : Int) (R : Rec) (ro : RecOk R) (name : String) (hn : name ∈ ["price", "coupon", "rate", "stock", "move", "arrive", "send", "count", "pay", "draw", "order", "back", "purse", "cancel", "look"]) (h : EHeap) : ∃ D, DeedOf a b name D ∧ run G (n+3) "_law_deed" [.lst (xs.map .int), .int k, .str (lit name), idV a b, R.v] h = .ok D h := by
  have N := fun (i : Int) (hi : 0 ≤ i ∧ i ≤ 25) => num_al hx (k + i) (by omega)
  obtain ⟨x12, b12, e12⟩ := N 12 (by decide)
  obtain ⟨x13, b13, e13⟩ := N 13 (by decide)
  obtain ⟨x14, b14, e14⟩ := N 14 (by decide)
  obtain ⟨x15, b15, e15⟩ := N 15 (by decide)
  obtain ⟨x16, b16, e16⟩ := N 16 (by decide)
  obtain ⟨x17, b17, e17⟩ := N 17 (by decide)
  obtain ⟨x18, b18, e18⟩ := N 18 (by decide)
  obtain ⟨x23, b23, e23⟩ := N 23 (by decide)
  obtain ⟨x24, b24, e24⟩ := N 24 (by decide)
  obtain ⟨kk, hkk, ek⟩ : ∃ kk : Nat, (1 ≤ kk ∧ kk ≤ 4) ∧ (1 + x12 % 4) = (kk : Int) := ⟨(1 + x12 % 4).toNat, by omega, by omega⟩
  obtain ⟨ws, iw, ri⟩ := items_ok n m xs hx k hk.1 kk hkk (by omega) h
  rw [← ek] at ri
  obtain ⟨zc, hzc, rc⟩ := coins_ok (n+1) m xs hx (k + 17) (by omega) h
  obtain ⟨wi, hwi, rwi⟩ := item_ok (n+1) m xs hx (k + 16) (by omega) h
  obtain ⟨ls, hl1, hl2, rl⟩ := lines_ok (n+1) m xs hx (k + 19) (by omega) ws iw h
  -- the part
  have hpl : 0 < R.ps.length := List.length_pos_iff.mpr ro.ps.ne
  have h0 : 0 ≤ x13 % (R.ps.length : Int) := Int.emod_nonneg _ (by omega)
  have h1 : x13 % (R.ps.length : Int) < R.ps.length := Int.emod_lt_of_pos _ (by omega)
  have h2 : (x13 % (R.ps.length : Int)).toNat < R.ps.length := by omega
  obtain ⟨pt, hpt⟩ : ∃ pt, R.ps[(x13 % (R.ps.length : Int)).toNat]? = some pt := ⟨_, List.getElem?_eq_getElem h2⟩
  have pok := ro.ps.ok pt (List.mem_of_getElem? hpt)
  have ept : ∀ T h, idxV T (.tup (R.ps.map Pt.v)) (.int (x13 % R.ps.length)) h = .ok (.tup [.int pt.s, .str pt.w, .int pt.c, .int pt.p, .str (lit pt.st), .int pt.b]) h := fun T h => idx_tup h T h0 (v := pt.v) (by simp [hpt])
  have hmp := fun h => bin_mod h x13 R.ps.length (by omega)
  obtain ⟨w0, hw0⟩ : ∃ w, ws[0]? = some w := ⟨ws[0]'(by have := iw.lo; omega), by simp⟩
  have hword := iw.word w0 (List.mem_of_getElem? hw0)
  have ei : ∀ T h, idxV T (.lst (ws.map .str)) (.int 0) h = .ok (.str w0) h := fun T h => idx_lst h T (by omega) (by simpa using hw0)
  have hwl : 0 < ws.length := by have := iw.lo; omega
  obtain ⟨wl, hwl2⟩ : ∃ w, ws[ws.length - 1]? = some w := ⟨ws[ws.length - 1]'(by omega), List.getElem?_eq_getElem _⟩
  have hwordl := iw.word wl (List.mem_of_getElem? hwl2)
  have eil : ∀ T h, idxV T (.lst (ws.map .str)) (.int (-1)) h = .ok (.str wl) h := by
    intro T h
    have : ixOf (ws.map Val.str).length (-1) = some (ws.length - 1) := by rw [List.length_map]; exact ix_m1 hwl
    show (match (ixOf (ws.map Val.str).length (-1)).bind fun j => (ws.map Val.str)[j]? with
      | some v => Ev.R.ok v h
      | none => Ev.R.no) = _
    rw [this]
    simp [hwl2]
  obtain ⟨v1, hv1, ev1⟩ := pick_al [.str w0, .str pt.w] (by simp) x14 2 rfl
  obtain ⟨w1, hw1, rfl⟩ : ∃ w, Word w ∧ v1 = .str w := by
    simp only [List.mem_cons, List.not_mem_nil, or_false] at hv1
    rcases hv1 with rfl | rfl
    · exact ⟨_, hword, rfl⟩
    · exact ⟨_, pok.hw, rfl⟩
  obtain ⟨v2, hv2, ev2⟩ := pick_al [.int (2 + x15 % 3), .int pt.s] (by simp) (x14 / 2) 2 rfl
  obtain ⟨s, hs, rfl⟩ : ∃ s, St s ∧ v2 = .int s := by
    simp only [List.mem_cons, List.not_mem_nil, or_false] at hv2
    rcases hv2 with rfl | rfl
    · exact ⟨_, by unfold St; omega, rfl⟩
    · exact ⟨_, pok.hs, rfl⟩
  obtain ⟨v3, hv3, ev3⟩ := pick_al [.int 1, .int 999, .int (1 + x16 / 4 % 9), .int (1 + x17 % 999)] (by simp) x16 4 rfl
  obtain ⟨c, hc, rfl⟩ : ∃ c, (1 ≤ c ∧ c ≤ 999) ∧ v3 = .int c := by
    simp only [List.mem_cons, List.not_mem_nil, or_false] at hv3
    rcases hv3 with rfl | rfl | rfl | rfl
    · exact ⟨1, by omega, rfl⟩
    · exact ⟨999, by omega, rfl⟩
    · exact ⟨_, by omega, rfl⟩
    · exact ⟨_, by omega, rfl⟩
  obtain ⟨v4, hv4, ev4⟩ := pick_al [.int 0, .int 999, .int x17] (by simp) x18 3 rfl
  obtain ⟨r, hr, rfl⟩ : ∃ c, (0 ≤ c ∧ c ≤ 999) ∧ v4 = .int c := by
    simp only [List.mem_cons, List.not_mem_nil, or_false] at hv4
    rcases hv4 with rfl | rfl | rfl
    · exact ⟨0, by omega, rfl⟩
    · exact ⟨999, by omega, rfl⟩
    · exact ⟨x17, by omega, rfl⟩
  obtain ⟨v5, hv5, ev5⟩ := pick_al [.int a, .int 0, .int 0, .int 0] (by simp) x18 4 rfl
  obtain ⟨a', ha', rfl⟩ : ∃ c, (c = a ∨ c = 0) ∧ v5 = .int c := by
    simp only [List.mem_cons, List.not_mem_nil, or_false] at hv5
    rcases hv5 with rfl | rfl | rfl | rfl
    · exact ⟨a, .inl rfl, rfl⟩
    all_goals exact ⟨0, .inr rfl, rfl⟩
  obtain ⟨v6, hv6, ev6⟩ := pick_al [.non, .str wl, .str w0, .str wi] (by simp) x24 4 rfl
  obtain ⟨cp, hcp, rfl⟩ : ∃ cp : Option Str, (∀ w, cp = some w → Word w) ∧ v6 = couV cp := by
    simp only [List.mem_cons, List.not_mem_nil, or_false] at hv6
    rcases hv6 with rfl | rfl | rfl | rfl
    · exact ⟨none, (fun w e => by cases e), rfl⟩
    · exact ⟨some wl, (fun w e => by cases e; exact hwordl), rfl⟩
    · exact ⟨some w0, (fun w e => by cases e; exact hword), rfl⟩
    · exact ⟨some wi, (fun w e => by cases e; exact hwi), rfl⟩
  have lo : LinesOk ls := ⟨fun l hl => iw.word l.1 (by rw [← hl1]; exact List.mem_map_of_mem hl), by rw [hl1]; exact iw.asc, by have := congrArg List.length hl1; simp at this; rw [this]; exact iw.lo, by have := congrArg List.length hl1; simp at this; rw [this]; exact iw.hi, hl2⟩
  have hno : noRefs (ls.map lnV) = true := (noRefs_iff _).mpr (by intro y hy; obtain ⟨z, _, rfl⟩ := List.mem_map.mp hy; rfl)
  have hnc : noRef (couV cp) = true := by cases cp <;> rfl
  simp only [List.mem_cons, List.not_mem_nil, or_false] at hn
  rw [run__law_deed]
  unfold idV Rec.v at *
  rcases hn with rfl | rfl | rfl | rfl | rfl | rfl | rfl | rfl | rfl | rfl | rfl | rfl | rfl | rfl | rfl
  · exact ⟨_, .price w0 zc hword hzc, by simp [runDef, d__law_deed, initEnv, fin_pure, fzV, noRef, noRefs, e12, e13, e14, e15, e16, e17, bin_mod, bin_fdiv, ri, hmp, ept, ei, ev1, ev2, ev3, rc, priceD]⟩
  · exact ⟨_, .coupon w0 zc hword hzc, by simp [runDef, d__law_deed, initEnv, fin_pure, fzV, noRef, noRefs, e12, e13, e14, e15, e16, e17, bin_mod, bin_fdiv, ri, hmp, ept, ei, ev1, ev2, ev3, rc, couponD]⟩
  · exact ⟨_, .rate r hr, by simp [runDef, d__law_deed, initEnv, fin_pure, fzV, noRef, noRefs, e12, e13, e14, e15, e16, e17, e18, bin_mod, bin_fdiv, ri, hmp, ept, ei, ev1, ev2, ev3, ev4, rc, rateD]⟩
  · exact ⟨_, .stock s w0 c hs hword hc, by simp [runDef, d__law_deed, initEnv, fin_pure, fzV, noRef, noRefs, e12, e13, e14, e15, e16, e17, bin_mod, bin_fdiv, ri, hmp, ept, ei, ev1, ev2, ev3, rc, stockD]⟩
  · exact ⟨_, .move s w0 c hs hword hc, by simp [runDef, d__law_deed, initEnv, fin_pure, fzV, noRef, noRefs, e12, e13, e14, e15, e16, e17, bin_mod, bin_fdiv, ri, hmp, ept, ei, ev1, ev2, ev3, rc, moveD]⟩
  · exact ⟨_, .arrive a' s w0 ha' hs hword, by simp [runDef, d__law_deed, initEnv, fin_pure, fzV, noRef, noRefs, e12, e13, e14, e15, e16, e17, e18, bin_mod, bin_fdiv, ri, hmp, ept, ei, ev1, ev2, ev3, ev5, rc, arriveD, idV]⟩
  · exact ⟨_, .send s hs, by simp [runDef, d__law_deed, initEnv, fin_pure, fzV, noRef, noRefs, e12, e13, e14, e15, e16, e17, bin_mod, bin_fdiv, ri, hmp, ept, ei, ev1, ev2, ev3, rc, sendD, idV]⟩
  · exact ⟨_, .count w0 hword, by simp [runDef, d__law_deed, initEnv, fin_pure, fzV, noRef, noRefs, e12, e13, e14, e15, e16, e17, bin_mod, bin_fdiv, ri, hmp, ept, ei, ev1, ev2, ev3, rc, countD]⟩
  · exact ⟨_, .pay (if zc > 1 then zc else 1) (by have := hzc; unfold Coins at this; split <;> omega), by simp [runDef, d__law_deed, initEnv, fin_pure, fzV, noRef, noRefs, e12, e13, e14, e15, e16, e17, bin_mod, bin_fdiv, ri, hmp, ept, ei, ev1, ev2, ev3, rc, payD]⟩
  · exact ⟨_, .draw (if zc > 1 then zc else 1) (by have := hzc; unfold Coins at this; split <;> omega), by simp [runDef, d__law_deed, initEnv, fin_pure, fzV, noRef, noRefs, e12, e13, e14, e15, e16, e17, bin_mod, bin_fdiv, ri, hmp, ept, ei, ev1, ev2, ev3, rc, drawD]⟩
  · exact ⟨_, .order ls (decide (x23 % 2 = 0)) cp lo hcp, by
      have hz : (x23 % 2 == (0 : Int)) = decide (x23 % 2 = 0) := by rw [Bool.eq_iff_iff]; simp
      simp [runDef, d__law_deed, initEnv, fin_pure, fzV, noRef, noRefs, e12, e13, e14, e15, e16, e17, e23, e24, bin_mod, bin_fdiv, ri, hmp, ept, ei, eil, ev1, ev2, ev3, ev6, rc, rl, rwi, hno, hnc, hz, orderD]⟩
  · exact ⟨_, .back s w1 c hs hw1 hc, by simp [runDef, d__law_deed, initEnv, fin_pure, fzV, noRef, noRefs, e12, e13, e14, e15, e16, e17, bin_mod, bin_fdiv, ri, hmp, ept, ei, ev1, ev2, ev3, rc, backD, idV]⟩
  · exact ⟨_, .purse, by simp [runDef, d__law_deed, initEnv, fin_pure, fzV, noRef, noRefs, e12, e13, e14, e15, e16, e17, bin_mod, bin_fdiv, ri, hmp, ept, ei, ev1, ev2, ev3, rc, purseD]⟩
  · exact ⟨_, .cancel, by simp [runDef, d__law_deed, initEnv, fin_pure, fzV, noRef, noRefs, e12, e13, e14, e15, e16, e17, bin_mod, bin_fdiv, ri, hmp, ept, ei, ev1, ev2, ev3, rc, cancelD, idV]⟩
  · exact ⟨_, .look, by simp [runDef, d__law_deed, initEnv, fin_pure, fzV, noRef, noRefs, e12, e13, e14, e15, e16, e17, bin_mod, bin_fdiv, ri, hmp, ept, ei, ev1, ev2, ev3, rc, lookD, idV]⟩
end S15

end
section
set_option Elab.async false
set_option linter.all false
set_option maxRecDepth 20000
namespace S15
open Ev Sim P15
open PySem (Str)
/-! ### the customer, the answers -/
theorem eq_ids (a k c b : Int) (h : EHeap) : eqM (.tup [.int a, .int k]) (.tup [.int c, .int b]) h = .ok (decide (a = c ∧ k = b)) h := by
  rw [eq_data rfl rfl]
  simp only [eqv, eqvs, Bool.and_true]
  congr 1
  rw [Bool.eq_iff_iff]
  simp
theorem customer_ok (n : Nat) (m : Nat) (xs : List Int) (hx : Nums m xs) (k : Int) (hk : 0 ≤ k ∧ k + 1 < m) (name : String) (a b : Int) (ha : 0 ≤ a ∧ a ≤ 9) (h : EHeap) : ∃ c, (0 ≤ c ∧ c ≤ 9) ∧ run G (n+1) "_law_customer" [.lst (xs.map .int), .int k, .str (lit name), idV a b] h = .ok (.int c) h := by
  obtain ⟨x0, b0, e0⟩ := num_al hx k (by omega)
  obtain ⟨x1, b1, e1⟩ := num_al hx (k+1) (by omega)
  have h1 := fun h => mem_names n name ["price", "rate", "coupon", "stock", "move", "arrive", "send", "count"] h
  have h2 := fun h => mem_names n name ["cancel", "back"] h
  simp only [List.map] at h1 h2
  rw [run__law_customer]
  unfold idV
  by_cases q0 : x0 % 12 = 0
  · exact ⟨x1 % 10, by omega, by simp [runDef, d__law_customer, initEnv, fin_pure, fzV, noRef, e0, e1, bin_mod, q0]⟩
  by_cases q1 : name ∈ ["price", "rate", "coupon", "stock", "move", "arrive", "send", "count"]
  · rw [decide_eq_true q1] at h1
    exact ⟨0, by omega, by simp [runDef, d__law_customer, initEnv, fin_pure, fzV, noRef, e0, e1, bin_mod, q0, h1]⟩
  rw [decide_eq_false q1] at h1
  by_cases q2 : name ∈ ["cancel", "back"]
  · rw [decide_eq_true q2] at h2
    exact ⟨a, ha, by simp [runDef, d__law_customer, initEnv, fin_pure, fzV, noRef, e0, e1, bin_mod, q0, h1, h2]⟩
  rw [decide_eq_false q2] at h2
  by_cases q3 : name = "look"
  · subst q3
    by_cases q4 : x0 % 2 = 0
    · exact ⟨a, ha, by simp [runDef, d__law_customer, initEnv, fin_pure, fzV, noRef, e0, e1, bin_mod, q0, q4, h1, h2]⟩
    · exact ⟨0, by omega, by simp [runDef, d__law_customer, initEnv, fin_pure, fzV, noRef, e0, e1, bin_mod, q0, q4, h1, h2]⟩
  · exact ⟨1 + x1 % 9, by omega, by simp [runDef, d__law_customer, initEnv, fin_pure, fzV, noRef, e0, e1, bin_mod, q0, q3, h1, h2]⟩
section
variable {m : Nat} {xs : List Int}
def ansArgs (xs : List Int) (k : Int) (r : Val) (c b : Int) (D : Val) (R : Rec) : List Val := [.lst (xs.map .int), .int k, r, idV c b, D, R.v]
/-- what an answer may be -/
inductive Ans (R : Rec) : Val → Val → Prop where
  | add (k : Val) (z : Int) : Ans R (reqV k "add" z) .non
  | take (k : Val) (z x : Int) (hx : 0 ≤ x ∧ x ≤ z) : Ans R (reqV k "take" z) (.int x)
  | priceN (w : Str) (md : String) (z : Int) : Ans R (reqV (priceK w) md z) .non
  | price (w : Str) (md : String) (z x : Int) (hx : Coins x) : Ans R (reqV (priceK w) md z) (.int x)
  | rate (md : String) (z x : Int) (hx : 0 ≤ x ∧ x ≤ 999) : Ans R (reqV rateK md z) (.int x)
  | couponN (w : Str) (md : String) (z : Int) : Ans R (reqV (couponK w) md z) .non
  | couponU (w : Str) (md : String) (z x : Int) (hx : Coins x) : Ans R (reqV (couponK w) md z) (.tup [.str (lit "unused"), .int x])
  | couponS (w : Str) (md : String) (z x y : Int) : Ans R (reqV (couponK w) md z) (.tup [.str (lit "spent"), .int x, .int y])
  | orderN (a k : Int) (md : String) (z : Int) : Ans R (reqV (orderK a k) md z) .non
  | order (a k : Int) (md : String) (z : Int) (ha : a ≠ 0) : Ans R (reqV (orderK a k) md z) R.v
  | roadN (a k : Int) (md : String) (z : Int) : Ans R (reqV (roadK a k) md z) .non
  | road (a k : Int) (md : String) (z : Int) (w : Str) (x : Int) (hx : 1 ≤ x ∧ x ≤ 999) : Ans R (reqV (roadK a k) md z) (.tup [.str w, .int x])
  | am (k : Val) (md : String) (z x : Int) (hx : 0 ≤ x) (hk : ∃ s nm ws, k = .tup (.int s :: .str (lit nm) :: ws) ∧ nm ∉ ["price", "rate", "coupon", "order", "road"]) (hm : md ≠ "add" ∧ md ≠ "take") : Ans R (reqV k md z) (.int x)
theorem ans_add (n : Nat) (hx : Nums m xs) (k : Int) (hk : 0 ≤ k ∧ k + 3 < m) (ky : Val) (z : Int) (c b : Int) (D : Val) (R : Rec) (h : EHeap) : run G (n+2) "_law_answer" (ansArgs xs k (reqV ky "add" z) c b D R) h = .ok .non h := by
  obtain ⟨x0, b0, e0⟩ := num_al hx k (by omega)
  rw [run__law_answer]
  unfold ansArgs reqV
  simp [runDef, d__law_answer, initEnv, fin_pure, fzV, noRef, e0]
theorem ans_take (n : Nat) (hx : Nums m xs) (k : Int) (hk : 0 ≤ k ∧ k + 3 < m) (ky : Val) (z : Int) (hz : 0 ≤ z) (c b : Int) (D : Val) (R : Rec) (h : EHeap) : ∃ x, (0 ≤ x ∧ x ≤ z) ∧ run G (n+2) "_law_answer" (ansArgs xs k (reqV ky "take" z) c b D R) h = .ok (.int x) h := by
  obtain ⟨x0, b0, e0⟩ := num_al hx k (by omega)
  obtain ⟨x1, b1, e1⟩ := num_al hx (k+1) (by omega)
  have q0 := fun h => mulR x0 1000 h (by decide)
  have q1 := fun h x => bin_mod h x (z + 1) (by omega)
  obtain ⟨v, hv, ev⟩ := pick_al [.int z, .int z, .int z, .int 0, .int (if 1 < z then z - 1 else 0), .int ((x0 * 1000 + x1) % (z + 1))] (by simp) x0 6 rfl
  obtain ⟨x, hxz, rfl⟩ : ∃ x, (0 ≤ x ∧ x ≤ z) ∧ v = .int x := by
    simp only [List.mem_cons, List.not_mem_nil, or_false] at hv
    rcases hv with rfl | rfl | rfl | rfl | rfl | rfl
    · exact ⟨z, by omega, rfl⟩
    · exact ⟨z, by omega, rfl⟩
    · exact ⟨z, by omega, rfl⟩
    · exact ⟨0, by omega, rfl⟩
    · exact ⟨_, by split <;> omega, rfl⟩
    · have h1 := Int.emod_nonneg (x0 * 1000 + x1) (show z + 1 ≠ 0 by omega)
      have h2 := Int.emod_lt_of_pos (x0 * 1000 + x1) (show 0 < z + 1 by omega)
      exact ⟨_, by omega, rfl⟩
  refine ⟨x, hxz, ?_⟩
  rw [run__law_answer]
  unfold ansArgs reqV
  simp [runDef, d__law_answer, initEnv, fin_pure, fzV, noRef, e0, e1, q0, q1, bin_mod, ev]
theorem ans_price (n : Nat) (hx : Nums m xs) (k : Int) (hk : 0 ≤ k ∧ k + 3 < m) (w : Str) (md : String) (hm : md ≠ "add" ∧ md ≠ "take") (z : Int) (c b : Int) (D : Val) (R : Rec) (h : EHeap) : ∃ v, (v = .non ∨ ∃ x, Coins x ∧ v = .int x) ∧ run G (n+2) "_law_answer" (ansArgs xs k (reqV (priceK w) md z) c b D R) h = .ok v h := by
  obtain ⟨x0, b0, e0⟩ := num_al hx k (by omega)
  obtain ⟨zc, hzc, rc⟩ := coins_ok n m xs hx (k+1) (by omega) h
  rw [run__law_answer]
  unfold ansArgs reqV priceK
  by_cases q : x0 % 8 = 0
  · exact ⟨.non, .inl rfl, by simp [runDef, d__law_answer, initEnv, fin_pure, fzV, noRef, e0, hm.1, hm.2, bin_mod, q, rc]⟩
  · exact ⟨.int zc, .inr ⟨zc, hzc, rfl⟩, by simp [runDef, d__law_answer, initEnv, fin_pure, fzV, noRef, e0, hm.1, hm.2, bin_mod, q, rc]⟩
theorem ans_rate (n : Nat) (hx : Nums m xs) (k : Int) (hk : 0 ≤ k ∧ k + 3 < m) (md : String) (hm : md ≠ "add" ∧ md ≠ "take") (z : Int) (c b : Int) (D : Val) (R : Rec) (h : EHeap) : ∃ x, (0 ≤ x ∧ x ≤ 999) ∧ run G (n+2) "_law_answer" (ansArgs xs k (reqV rateK md z) c b D R) h = .ok (.int x) h := by
  obtain ⟨x0, b0, e0⟩ := num_al hx k (by omega)
  obtain ⟨x1, b1, e1⟩ := num_al hx (k+1) (by omega)
  obtain ⟨v, hv, ev⟩ := pick_al [.int 0, .int 999, .int x0] (by simp) x1 3 rfl
  obtain ⟨x, hxz, rfl⟩ : ∃ x, (0 ≤ x ∧ x ≤ 999) ∧ v = .int x := by
    simp only [List.mem_cons, List.not_mem_nil, or_false] at hv
    rcases hv with rfl | rfl | rfl
    · exact ⟨0, by omega, rfl⟩
    · exact ⟨999, by omega, rfl⟩
    · exact ⟨x0, by omega, rfl⟩
  refine ⟨x, hxz, ?_⟩
  rw [run__law_answer]
  unfold ansArgs reqV rateK
  simp [runDef, d__law_answer, initEnv, fin_pure, fzV, noRef, e0, e1, hm.1, hm.2, bin_mod, ev]
theorem ans_coupon (n : Nat) (hx : Nums m xs) (k : Int) (hk : 0 ≤ k ∧ k + 3 < m) (w : Str) (md : String) (hm : md ≠ "add" ∧ md ≠ "take") (z : Int) (c b : Int) (D : Val) (R : Rec) (h : EHeap) : ∃ v, (v = .non ∨ (∃ x, Coins x ∧ v = .tup [.str (lit "unused"), .int x]) ∨ ∃ x y, v = .tup [.str (lit "spent"), .int x, .int y]) ∧ run G (n+2) "_law_answer" (ansArgs xs k (reqV (couponK w) md z) c b D R) h = .ok v h := by
  obtain ⟨x0, b0, e0⟩ := num_al hx k (by omega)
  obtain ⟨x1, b1, e1⟩ := num_al hx (k+1) (by omega)
  obtain ⟨zc, hzc, rc⟩ := coins_ok n m xs hx (k+1) (by omega) h
  obtain ⟨v, hv, ev⟩ := pick_al [.tup [.str (lit "unused"), .int zc], .tup [.str (lit "unused"), .int zc], .tup [.str (lit "unused"), .int zc], .tup [.str (lit "unused"), .int zc], .non, .tup [.str (lit "spent"), .int (1 + x1 % 9), .int (1 + x0 % 999)]] (by simp) x0 6 rfl
  have hv' : (v = .non ∨ (∃ x, Coins x ∧ v = .tup [.str (lit "unused"), .int x]) ∨ ∃ x y, v = .tup [.str (lit "spent"), .int x, .int y]) := by
    simp only [List.mem_cons, List.not_mem_nil, or_false] at hv
    rcases hv with rfl | rfl | rfl | rfl | rfl | rfl
    · exact .inr (.inl ⟨zc, hzc, rfl⟩)
    · exact .inr (.inl ⟨zc, hzc, rfl⟩)
    · exact .inr (.inl ⟨zc, hzc, rfl⟩)
    · exact .inr (.inl ⟨zc, hzc, rfl⟩)
    · exact .inl rfl
    · exact .inr (.inr ⟨_, _, rfl⟩)
  have nr : noRef v = true := by
    rcases hv' with rfl | ⟨x, _, rfl⟩ | ⟨x, y, rfl⟩ <;> rfl
  have hf : fzV h h.length v = _ := fz_plain nr
  refine ⟨v, hv', ?_⟩
  rw [run__law_answer]
  unfold ansArgs reqV couponK
  simp [runDef, d__law_answer, initEnv, fin_pure, e0, e1, hm.1, hm.2, bin_mod, ev, rc, hf]
theorem rec_noRef (R : Rec) : noRef R.v = true := by
  have hno : noRefs (R.ps.map Pt.v) = true := (noRefs_iff _).mpr (by intro y hy; obtain ⟨z, _, rfl⟩ := List.mem_map.mp hy; rfl)
  simp [Rec.v, noRef, noRefs, hno]
theorem ans_order (n : Nat) (hx : Nums m xs) (k : Int) (hk : 0 ≤ k ∧ k + 3 < m) (a p : Int) (md : String) (hm : md ≠ "add" ∧ md ≠ "take") (z : Int) (c b : Int) (D : Val) (R : Rec) (h : EHeap) : ∃ v, (v = .non ∨ (v = R.v ∧ a ≠ 0 ∧ ¬ (a = c ∧ p = b))) ∧ run G (n+2) "_law_answer" (ansArgs xs k (reqV (orderK a p) md z) c b D R) h = .ok v h := by
  obtain ⟨x0, b0, e0⟩ := num_al hx k (by omega)
  have hf : fzV h h.length R.v = _ := fz_plain (rec_noRef R)
  have he := fun h => eq_ids a p c b h
  rw [run__law_answer]
  unfold ansArgs reqV orderK idV
  by_cases q1 : a = c ∧ p = b
  · obtain ⟨rfl, rfl⟩ := q1
    exact ⟨.non, .inl rfl, by simp [runDef, d__law_answer, initEnv, fin_pure, fzV, noRef, e0, hm.1, hm.2, bin_mod, he]⟩
  by_cases q2 : a = 0
  · subst q2
    exact ⟨.non, .inl rfl, by simp [runDef, d__law_answer, initEnv, fin_pure, fzV, noRef, e0, hm.1, hm.2, bin_mod, he, q1]⟩
  by_cases q3 : x0 % 8 = 0
  · exact ⟨.non, .inl rfl, by simp [runDef, d__law_answer, initEnv, fin_pure, fzV, noRef, e0, hm.1, hm.2, bin_mod, he, q1, q2, q3]⟩
  · exact ⟨R.v, .inr ⟨rfl, q2, q1⟩, by simp [runDef, d__law_answer, initEnv, fin_pure, e0, hm.1, hm.2, bin_mod, he, q1, q2, q3, hf]⟩
theorem ans_road (n : Nat) (hx : Nums m xs) (k : Int) (hk : 0 ≤ k ∧ k + 3 < m) (a p : Int) (md : String) (hm : md ≠ "add" ∧ md ≠ "take") (z : Int) (c b : Int) (D : Val) (hD : (a = c ∧ p = b) ∨ ∃ a' b' s w, D = arriveD a' b' s w) (R : Rec) (h : EHeap) : ∃ v, (v = .non ∨ (∃ w x, (1 ≤ x ∧ x ≤ 999) ∧ v = .tup [.str w, .int x])) ∧ run G (n+2) "_law_answer" (ansArgs xs k (reqV (roadK a p) md z) c b D R) h = .ok v h := by
  obtain ⟨x0, b0, e0⟩ := num_al hx k (by omega)
  obtain ⟨x1, b1, e1⟩ := num_al hx (k+1) (by omega)
  obtain ⟨wi, hwi, rwi⟩ := item_ok n m xs hx (k+1) (by omega) h
  have he := fun h => eq_ids a p c b h
  rw [run__law_answer]
  unfold ansArgs reqV roadK idV
  by_cases q1 : a = c ∧ p = b
  · obtain ⟨rfl, rfl⟩ := q1
    exact ⟨.non, .inl rfl, by simp [runDef, d__law_answer, initEnv, fin_pure, fzV, noRef, e0, hm.1, hm.2, bin_mod, he]⟩
  obtain ⟨a', b', s, w, rfl⟩ := hD.resolve_left q1
  unfold arriveD idV
  by_cases q2 : 0 < a
  · exact ⟨.non, .inl rfl, by simp [runDef, d__law_answer, initEnv, fin_pure, fzV, noRef, e0, hm.1, hm.2, bin_mod, he, q1, q2]⟩
  by_cases q3 : x0 % 8 = 0
  · exact ⟨.non, .inl rfl, by simp [runDef, d__law_answer, initEnv, fin_pure, fzV, noRef, e0, hm.1, hm.2, bin_mod, he, q1, q2, q3]⟩
  by_cases q4 : 0 < x0 % 4
  · exact ⟨_, .inr ⟨w, 1 + x1 % 999, by omega, rfl⟩, by simp [runDef, d__law_answer, initEnv, fin_pure, fzV, noRef, noRefs, e0, e1, hm.1, hm.2, bin_mod, he, q1, q2, q3, q4]⟩
  · exact ⟨_, .inr ⟨wi, 1 + x1 % 999, by omega, rfl⟩, by simp [runDef, d__law_answer, initEnv, fin_pure, fzV, noRef, noRefs, e0, e1, hm.1, hm.2, bin_mod, he, q1, q2, q3, q4, rwi]⟩
theorem ans_am (n : Nat) (hx : Nums m xs) (k : Int) (hk : 0 ≤ k ∧ k + 3 < m) (s : Int) (nm : String) (ws : List Val) (hnm : nm ∉ ["price", "rate", "coupon", "order", "road"]) (md : String) (hm : md ≠ "add" ∧ md ≠ "take") (z : Int) (c b : Int) (D : Val) (R : Rec) (h : EHeap) : ∃ x, 0 ≤ x ∧ run G (n+2) "_law_answer" (ansArgs xs k (reqV (.tup (.int s :: .str (lit nm) :: ws)) md z) c b D R) h = .ok (.int x) h := by
  obtain ⟨x0, b0, e0⟩ := num_al hx k (by omega)
  obtain ⟨x1, b1, e1⟩ := num_al hx (k+1) (by omega)
  obtain ⟨v, hv, ev⟩ := pick_al [.int 0, .int x0, .int 900000000] (by simp) x1 3 rfl
  obtain ⟨x, hxz, rfl⟩ : ∃ x, 0 ≤ x ∧ v = .int x := by
    simp only [List.mem_cons, List.not_mem_nil, or_false] at hv
    rcases hv with rfl | rfl | rfl
    · exact ⟨0, by omega, rfl⟩
    · exact ⟨x0, by omega, rfl⟩
    · exact ⟨_, by omega, rfl⟩
  simp only [List.mem_cons, List.not_mem_nil, or_false, not_or] at hnm
  refine ⟨x, hxz, ?_⟩
  rw [run__law_answer]
  unfold ansArgs reqV
  simp [runDef, d__law_answer, initEnv, fin_pure, fzV, noRef, e0, e1, hm.1, hm.2, hnm, bin_mod, ev]
end
end S15

end
section
set_option Elab.async false
set_option linter.all false
set_option maxRecDepth 20000
namespace S15
open Ev Sim P15
open PySem (Str)
/-! ### turns -/
inductive All2 {α β : Type} (R : α → β → Prop) : List α → List β → Prop where
  | nil : All2 R [] []
  | cons {a : α} {b : β} {l : List α} {m : List β} (p : R a b) (r : All2 R l m) : All2 R (a :: l) (b :: m)
theorem All2.length {α β : Type} {R : α → β → Prop} {l : List α} {m : List β} (a : All2 R l m) : m.length = l.length := by
  induction a with
  | nil => rfl
  | cons _ _ ih => simp [ih]
theorem All2.snoc {α β : Type} {R : α → β → Prop} {l : List α} {m : List β} (a : All2 R l m) {x : α} {y : β} (p : R x y) : All2 R (l ++ [x]) (m ++ [y]) := by
  induction a with
  | nil => exact .cons p .nil
  | cons q _ ih => exact .cons q ih
theorem All2.mem {α β : Type} {R : α → β → Prop} {l : List α} {m : List β} (a : All2 R l m) : ∀ y ∈ m, ∃ x ∈ l, R x y := by
  induction a with
  | nil => intro y hy; cases hy
  | cons q _ ih =>
    intro y hy
    rcases List.mem_cons.mp hy with e | e
    · exact ⟨_, by simp, e ▸ q⟩
    · obtain ⟨x, hx, r⟩ := ih y e
      exact ⟨x, by simp [hx], r⟩
theorem plain_pt (x : Pt) (d : Nat) : plainD (d+1) x.v = true := by
  simp [Pt.v, plainD]
theorem rec_plain {R : Rec} (ro : RecOk R) : plainD 3 R.v = true := by
  have h1 : (R.ps.map Pt.v).all (plainD 1) = true := by
    rw [List.all_eq_true]
    intro y hy
    obtain ⟨z, _, rfl⟩ := List.mem_map.mp hy
    exact plain_pt z 0
  have h2 : R.ps.length ≤ 1000 := by have := ro.ps.len; omega
  simp only [Rec.v, plainD, List.all_cons, List.all_nil, h1, List.length_map, decide_eq_true h2, Bool.and_true]
  rfl
theorem rec_data (R : Rec) : isData 3 R.v = true := by
  have h1 : areData 1 (R.ps.map Pt.v) = true := (areData_iff 1 _).mpr fun y hy => by
    obtain ⟨z, _, rfl⟩ := List.mem_map.mp hy
    rfl
  simp [Rec.v, isData, areData, h1]
theorem ans_facts {R : Rec} (ro : RecOk R) {r a : Val} (x : Ans R r a) : isData 3 a = true ∧ plainD 3 a = true := by
  cases x with
  | order a k md z ha => exact ⟨rec_data R, rec_plain ro⟩
  | _ => exact ⟨rfl, rfl⟩
/-- a request that the law can answer -/
def CanAns (xs : List Int) (R : Rec) (c b : Int) (D : Val) (r : Val) : Prop := ∀ (n : Nat) (k : Int) (h : EHeap), 32 ≤ k ∧ k ≤ 56 → ∃ a, Ans R r a ∧ run G (n+2) "_law_answer" (ansArgs xs k r c b D R) h = .ok a h
/-- both tell r -/
def Both (c b : Int) (D : Val) (told : List Val) (r : Val) : Prop := ∀ (n : Nat) (h : EHeap) (v : Val), SeqV h v told → run G (n+12) "next_step" [idV c b, D, v] h = .ok r h ∧ run G (n+12) "_law_due_plain" [idV c b, D, v] h = .ok r h
inductive Prot (xs : List Int) (R : Rec) (c b : Int) (D : Val) : List Val → Prop where
  | done (told ws : List Val) (a : Val) (hp : plainD 9 (doneV ws a) = true) (hb : Both c b D told (doneV ws a)) : Prot xs R c b D told
  | ask (told : List Val) (s : Int) (rs : List Val) (hp : plainD 9 (askV s rs) = true) (hl : rs.length ≤ 100) (hb : Both c b D told (askV s rs)) (hc : ∀ r ∈ rs, CanAns xs R c b D r) (next : ∀ as, All2 (Ans R) rs as → Prot xs R c b D (told ++ [.tup as])) : Prot xs R c b D told
abbrev turnBody : Sx := match d_law with
  | .seq (.for_ _ _ (.seq _ (.seq _ (.seq _ (.seq _ (.seq _ (.seq _ (.seq _ (.seq _ (.seq _ (.for_ _ _ b))))))))))) _ => b
  | _ => .skip
abbrev ansBody : Sx := match turnBody with
  | .seq _ (.seq _ (.seq _ (.seq _ (.seq _ (.seq _ (.seq (.for_ _ _ b) _)))))) => b
  | _ => .skip
section
variable {xs : List Int} {R : Rec} {c b : Int} {D : Val}
theorem bodies : (turnBody = match d_law with
  | .seq (.for_ _ _ (.seq _ (.seq _ (.seq _ (.seq _ (.seq _ (.seq _ (.seq _ (.seq _ (.seq _ (.for_ _ _ b))))))))))) _ => b
  | _ => .skip) := rfl
theorem ans_loop (n : Nat) (ro : RecOk R) (s : Int) (rs : List Val) (hc : ∀ r ∈ rs, CanAns xs R c b D r) (hrl : rs.length ≤ 100) (turn : Int) (ht : 0 ≤ turn ∧ turn ≤ 5) (h : EHeap) (e0 e1 e4 e5 e6 e9 e12 : Option Val) :
    ∀ (q j : Nat), j + q = rs.length → ∀ (as : List Val), All2 (Ans R) (rs.take j) as → ∀ (z14 z15 : Option Val), ∃ (as' : List Val) (y14 y15 : Option Val), All2 (Ans R) rs as' ∧ forLoop none (bindTg (.nm 14)) (fun e => evS (cx (n+2)) ansBody e) (rangeL j q) [e0, e1, some (.lst (xs.map .int)), some R.v, e4, e5, e6, some D, some (idV c b), e9, some (.int turn), some (askV s rs), e12, some (.ref h.length), z14, z15] (h ++ [.list as]) = .ok (.nx [e0, e1, some (.lst (xs.map .int)), some R.v, e4, e5, e6, some D, some (idV c b), e9, some (.int turn), some (askV s rs), e12, some (.ref h.length), y14, y15]) (h ++ [.list as'])
  | 0, j, hj, as, ha, z14, z15 => ⟨as, z14, z15, by rw [List.take_of_length_le (by omega)] at ha; exact ha, rfl⟩
  | q + 1, j, hj, as, ha, z14, z15 => by
    have hjl : j < rs.length := by omega
    obtain ⟨r, hr⟩ : ∃ r, rs[j]? = some r := ⟨rs[j], by simp [hjl]⟩
    have h1 : ∀ T h, idxV T (.tup rs) (.int (j : Int)) h = .ok r h := fun T h => idx_tup h T (by omega) (by simp [hr])
    obtain ⟨a, xa, ra⟩ := hc r (List.mem_of_getElem? hr) n (32 + (5 * turn + 3 * (j : Int)) % 25) (h ++ [.list as]) (by omega)
    have q1 := fun h => mulL 5 turn h (by decide)
    have q2 := fun h => mulL 3 (j : Int) h (by decide)
    have hal : as.length < 16777216 := by have := ha.length; rw [this, List.length_take]; omega
    have hap := app_end h as a (eq_true hal)
    have hre := recv_end h as
    have ha' : All2 (Ans R) (rs.take (j+1)) (as ++ [a]) := by
      rw [List.take_add_one, hr]
      exact ha.snoc xa
    obtain ⟨as', y14, y15, g, hl⟩ := ans_loop n ro s rs hc hrl turn ht h e0 e1 e4 e5 e6 e9 e12 q (j+1) (by omega) (as ++ [a]) ha' (some (.int j)) (some (.int (32 + (5 * turn + 3 * (j : Int)) % 25)))
    refine ⟨as', y14, y15, g, ?_⟩
    have ec : ((j + 1 : Nat) : Int) = (j : Int) + 1 := by omega
    rw [ec] at hl
    rw [range_succ, for_cons]
    unfold ansBody turnBody askV at hl ⊢
    unfold ansArgs at ra
    simp only [d_law] at hl ⊢
    simp [q1, q2, bin_mod, h1, ra, hap, hre, hl]
theorem turn_loop (n : Nat) (ro : RecOk R) (hx : Nums 120 xs) (t : Nat) (e0 e1 e4 e5 e6 : Option Val) :
    ∀ (q j : Nat), j + q = 6 → ∀ (told : List Val) (H : EHeap), told.length ≤ j → H[t]? = some (.list told) → areData 18 told = true → Prot xs R c b D told → ∀ (z10 z11 z12 z13 z14 z15 : Option Val), ∃ (y10 y11 y12 y13 y14 y15 : Option Val) (H' : EHeap), forLoop none (bindTg (.nm 10)) (fun e => evS (cx (n+12)) turnBody e) (rangeL j q) [e0, e1, some (.lst (xs.map .int)), some R.v, e4, e5, e6, some D, some (idV c b), some (.ref t), z10, z11, z12, z13, z14, z15] H = .ok (.nx [e0, e1, some (.lst (xs.map .int)), some R.v, e4, e5, e6, some D, some (idV c b), some (.ref t), y10, y11, y12, y13, y14, y15]) H'
  | 0, j, hj, told, H, hl, ht, hd, pr, z10, z11, z12, z13, z14, z15 => ⟨_, _, _, _, _, _, _, rfl⟩
  | q + 1, j, hj, told, H, hl, ht, hd, pr, z10, z11, z12, z13, z14, z15 => by
    obtain ⟨x31, b31, e31⟩ := num_al hx 31 (by decide)
    have hlist : fprimV .list1 [.ref t] H = .ok told H := by simp [fprimV, ht]
    have htup : primV .tuple1 [.ref t] H = .ok (.tup told) H := tuple_ref ht
    have hl1 : fprimV .list1 [.lst told] H = .ok told H := by simp [fprimV]
    have hl2 : fprimV .list1 [.tup told] H = .ok told H := by simp [fprimV]
    have hne : eqM (.lst told) (.ref t) H = .ok true H := by
      have h1 : deep H 20 (.lst told) = some (.lst told) := deep_data (by simp only [isData]; exact datas_mono _ 18 19 (by omega) hd)
      have h2 : deep H 20 (.ref t) = some (.lst told) := by simp only [deep, ht]; rw [if_pos (datas_mono _ 18 19 (by omega) hd)]
      unfold eqM
      rw [h1, h2]
      simp only [eqv, eqvs_self told 18 hd]
    rw [range_succ, for_cons]
    obtain ⟨hv, heH⟩ : ∃ hv, hv = (if x31 % 2 = 0 then Val.tup told else Val.lst told) := ⟨_, rfl⟩
    cases pr with
    | done _ ws a hp hb =>
      obtain ⟨_, r2⟩ := hb n H (.ref t) (.ref ht)
      have r1 := fun v (s : SeqV H v told) => (hb n H v s).1
      have r1a := r1 _ (.tup told)
      have r1b := r1 _ (.lst told)
      have hs := same_ok 9 _ hp (n+2) H
      refine ⟨some (.int j), some (doneV ws a), some hv, z13, z14, z15, H, ?_⟩
      unfold turnBody
      simp only [d_law]
      unfold doneV at *
      by_cases q0 : x31 % 2 = 0
      · rw [if_pos q0] at heH
        subst heH
        simp [r2, hlist, htup, e31, bin_mod, q0, r1a, hs, hl2, hne]
      · rw [if_neg q0] at heH
        subst heH
        simp [r2, hlist, htup, e31, bin_mod, q0, r1b, hs, hl1, hne]
    | ask _ s rs hp hrl hb hc next =>
      obtain ⟨_, r2⟩ := hb n H (.ref t) (.ref ht)
      have r1 := fun v (s : SeqV H v told) => (hb n H v s).1
      have r1a := r1 _ (.tup told)
      have r1b := r1 _ (.lst told)
      have hs := same_ok 9 _ hp (n+2) H
      obtain ⟨as, y14, y15, al, hlp⟩ := ans_loop (n+10) ro s rs hc hrl (j : Int) (by omega) H e0 e1 e4 e5 e6 (some (.ref t)) (some hv) rs.length 0 (by omega) [] (by simpa using All2.nil) z14 z15
      have ht2 : (H ++ [EObj.list as])[t]? = some (.list told) := by rw [List.getElem?_append_left (List.getElem?_eq_some_iff.mp ht).1, ht]
      have hapt := app_list (v := .tup as) ht2 (by unfold most; omega)
      have hret := recv_app ht2
      have htas := tuple_ref (get_end H (.list as))
      have hrn := rng1 rs.length (by omega) (H ++ [EObj.list []])
      have htl : t < H.length := (List.getElem?_eq_some_iff.mp ht).1
      have hd' : areData 18 (told ++ [.tup as]) = true := by
        refine (areData_iff 18 _).mpr fun x hx => ?_
        rcases List.mem_append.mp hx with z | z
        · exact (areData_iff 18 _).mp hd x z
        · simp only [List.mem_singleton] at z
          subst z
          simp only [isData]
          refine (areData_iff 17 _).mpr fun y hy => ?_
          obtain ⟨rq, _, ra⟩ := al.mem y hy
          exact data_mono _ 3 17 (by omega) (ans_facts ro ra).1
      obtain ⟨w10, w11, w12, w13, w14, w15, H', ih⟩ := turn_loop n ro hx t e0 e1 e4 e5 e6 q (j+1) (by omega) (told ++ [.tup as]) ((H ++ [EObj.list as]).set t (.list (told ++ [.tup as]))) (by simp; omega) (List.getElem?_set_self (by rw [List.length_append]; omega)) hd' (next as al) (some (.int j)) (some (askV s rs)) (some hv) (some (.ref H.length)) y14 y15
      refine ⟨w10, w11, w12, w13, w14, w15, H', ?_⟩
      have ec : ((j + 1 : Nat) : Int) = (j : Int) + 1 := by omega
      rw [ec] at ih
      unfold ansBody turnBody at *
      simp only [d_law] at ih hlp ⊢
      unfold askV at *
      simp at hlp
      by_cases q0 : x31 % 2 = 0
      · rw [if_pos q0] at heH
        subst heH
        simp [r2, hlist, htup, e31, bin_mod, q0, r1a, hs, hl2, hne, hrn, hlp, htas, hret, hapt, ih]
      · rw [if_neg q0] at heH
        subst heH
        simp [r2, hlist, htup, e31, bin_mod, q0, r1b, hs, hl1, hne, hrn, hlp, htas, hret, hapt, ih]
end
end S15

end
section
set_option Elab.async false
set_option linter.all false
set_option maxRecDepth 20000
namespace S15
open Ev Sim P15
open PySem (Str)
/-! ### depths -/
mutual
theorem plain_mono : ∀ (v : Val) (d e : Nat), d ≤ e → plainD d v = true → plainD e v = true
  | .non, _, _, _, _ => by unfold plainD; rfl
  | .bl _, _, _, _, _ => by unfold plainD; rfl
  | .int _, _, _, _, _ => by unfold plainD; rfl
  | .str _, _, _, _, _ => by unfold plainD; rfl
  | .tup l, d, e, q, h => by
    cases d with
    | zero => simp [plainD] at h
    | succ d => cases e with
      | zero => omega
      | succ e =>
        simp only [plainD, Bool.and_eq_true] at h ⊢
        exact ⟨h.1, plains_mono l d e (by omega) h.2⟩
  | .lst _, d, _, _, h => by cases d <;> simp [plainD] at h
  | .ktp _, d, _, _, h => by cases d <;> simp [plainD] at h
  | .scr _, d, _, _, h => by cases d <;> simp [plainD] at h
  | .ref _, d, _, _, h => by cases d <;> simp [plainD] at h
  | .gl _, d, _, _, h => by cases d <;> simp [plainD] at h
theorem plains_mono : ∀ (l : List Val) (d e : Nat), d ≤ e → l.all (plainD d) = true → l.all (plainD e) = true
  | [], _, _, _, _ => rfl
  | x :: xs, d, e, q, h => by
    simp only [List.all_cons, Bool.and_eq_true] at h ⊢
    exact ⟨plain_mono x d e q h.1, plains_mono xs d e q h.2⟩
end
/-! ### what can be answered -/
section
variable {xs : List Int} {R : Rec} {c b : Int} {D : Val}
theorem can_add (hx : Nums 120 xs) (k : Val) (z : Int) : CanAns xs R c b D (reqV k "add" z) := fun n j h hj => ⟨_, .add k z, ans_add n hx j (by omega) k z c b D R h⟩
theorem can_take (hx : Nums 120 xs) (k : Val) (z : Int) (hz : 0 ≤ z) : CanAns xs R c b D (reqV k "take" z) := fun n j h hj =>
  let ⟨x, hxz, e⟩ := ans_take n hx j (by omega) k z hz c b D R h
  ⟨_, .take k z x hxz, e⟩
theorem can_price (hx : Nums 120 xs) (w : Str) (md : String) (hm : md ≠ "add" ∧ md ≠ "take") (z : Int) : CanAns xs R c b D (reqV (priceK w) md z) := fun n j h hj => by
  obtain ⟨v, hv, e⟩ := ans_price n hx j (by omega) w md hm z c b D R h
  rcases hv with rfl | ⟨x, hx, rfl⟩
  · exact ⟨_, .priceN w md z, e⟩
  · exact ⟨_, .price w md z x hx, e⟩
theorem can_rate (hx : Nums 120 xs) (md : String) (hm : md ≠ "add" ∧ md ≠ "take") (z : Int) : CanAns xs R c b D (reqV rateK md z) := fun n j h hj =>
  let ⟨x, hxz, e⟩ := ans_rate n hx j (by omega) md hm z c b D R h
  ⟨_, .rate md z x hxz, e⟩
theorem can_coupon (hx : Nums 120 xs) (w : Str) (md : String) (hm : md ≠ "add" ∧ md ≠ "take") (z : Int) : CanAns xs R c b D (reqV (couponK w) md z) := fun n j h hj => by
  obtain ⟨v, hv, e⟩ := ans_coupon n hx j (by omega) w md hm z c b D R h
  rcases hv with rfl | ⟨x, hx, rfl⟩ | ⟨x, y, rfl⟩
  · exact ⟨_, .couponN w md z, e⟩
  · exact ⟨_, .couponU w md z x hx, e⟩
  · exact ⟨_, .couponS w md z x y, e⟩
theorem can_order (hx : Nums 120 xs) (a p : Int) (md : String) (hm : md ≠ "add" ∧ md ≠ "take") (z : Int) : CanAns xs R c b D (reqV (orderK a p) md z) := fun n j h hj => by
  obtain ⟨v, hv, e⟩ := ans_order n hx j (by omega) a p md hm z c b D R h
  rcases hv with rfl | ⟨rfl, ha, _⟩
  · exact ⟨_, .orderN a p md z, e⟩
  · exact ⟨_, .order a p md z ha, e⟩
theorem can_road (hx : Nums 120 xs) (a p : Int) (md : String) (hm : md ≠ "add" ∧ md ≠ "take") (z : Int) (hD : (a = c ∧ p = b) ∨ ∃ a' b' s w, D = arriveD a' b' s w) : CanAns xs R c b D (reqV (roadK a p) md z) := fun n j h hj => by
  obtain ⟨v, hv, e⟩ := ans_road n hx j (by omega) a p md hm z c b D hD R h
  rcases hv with rfl | ⟨w, x, hx, rfl⟩
  · exact ⟨_, .roadN a p md z, e⟩
  · exact ⟨_, .road a p md z w x hx, e⟩
theorem can_am (hx : Nums 120 xs) (s : Int) (nm : String) (ws : List Val) (hnm : nm ∉ ["price", "rate", "coupon", "order", "road"]) (md : String) (hm : md ≠ "add" ∧ md ≠ "take") (z : Int) : CanAns xs R c b D (reqV (.tup (.int s :: .str (lit nm) :: ws)) md z) := fun n j h hj =>
  let ⟨x, hxz, e⟩ := ans_am n hx j (by omega) s nm ws hnm md hm z c b D R h
  ⟨_, .am _ md z x hxz ⟨s, nm, ws, rfl, hnm⟩ hm, e⟩
end
theorem all2_1 {α β : Type} {Q : α → β → Prop} {a : α} {m : List β} (h : All2 Q [a] m) : ∃ x, m = [x] ∧ Q a x := by
  cases h with
  | cons p r => cases r; exact ⟨_, rfl, p⟩
theorem all2_2 {α β : Type} {Q : α → β → Prop} {a b : α} {m : List β} (h : All2 Q [a, b] m) : ∃ x y, m = [x, y] ∧ Q a x ∧ Q b y := by
  cases h with
  | cons p r =>
    obtain ⟨y, rfl, q⟩ := all2_1 r
    exact ⟨_, y, rfl, p, q⟩
theorem ans_road_inv {R : Rec} {a k : Int} {md : String} {z : Int} {v : Val} (h : Ans R (reqV (roadK a k) md z) v) (hm : md ≠ "add" ∧ md ≠ "take") : v = .non ∨ ∃ w x, v = .tup [.str w, .int x] ∧ (1 ≤ x ∧ x ≤ 999) := by
  generalize e : reqV (roadK a k) md z = r at h
  cases h <;> simp [reqV, roadK, priceK, rateK, couponK, orderK] at e
  · exact absurd e.2.1 hm.1
  · exact absurd e.2.1 hm.2
  · exact .inl rfl
  · rename_i hx
    exact .inr ⟨_, _, rfl, hx⟩
  · rename_i hk hm'
    obtain ⟨s, nm, ws, rfl, hn⟩ := hk
    simp at e
    simp [← e.1.2.1] at hn
theorem ans_take_inv {R : Rec} {k : Val} {z : Int} {v : Val} (h : Ans R (reqV k "take" z) v) (hk : ∃ s nm ws, k = .tup (.int s :: .str (lit nm) :: ws) ∧ nm ∉ ["price", "rate", "coupon", "order", "road"]) : ∃ x, (0 ≤ x ∧ x ≤ z) ∧ v = .int x := by
  obtain ⟨s, nm, ws, rfl, hn⟩ := hk
  simp only [List.mem_cons, List.not_mem_nil, or_false, not_or] at hn
  generalize e : reqV (.tup (.int s :: .str (lit nm) :: ws)) "take" z = r at h
  cases h <;> simp [reqV, roadK, priceK, rateK, couponK, orderK, hn] at e
  · rename_i hx
    exact ⟨_, by rw [e.2]; exact hx, rfl⟩
  · rename_i hm
    exact absurd e.2.1.symm hm.2
end S15

end
section
set_option Elab.async false
set_option linter.all false
set_option maxRecDepth 20000
namespace S15
open Ev Sim P15
open PySem (Str)
/-! ### k15: each deed's way -/
section
variable {xs : List Int} {R : Rec} {c b : Int}
theorem b_price (w : Str) (z : Int) (hw : Word w) (told : List Val) : Both c b (priceD w z) told (priceS c w z told) := fun n h v st => by
  refine ⟨price_ok (n+3) c b w z hw st, ?_⟩
  by_cases q : c = 0
  · subst q
    exact plain_office (n+9) b "price" _ (by decide) _ (next_noRef rfl rfl) (due_price (n+9) w z st)
  · unfold priceS; rw [if_neg q]
    exact plain_no (n+9) c b "price" _ (.inr ⟨by decide, by decide, q⟩)
theorem b_rate (z : Int) (told : List Val) : Both c b (rateD z) told (rateS c z told) := fun n h v st => by
  refine ⟨rate_ok (n+3) c b z st, ?_⟩
  by_cases q : c = 0
  · subst q
    exact plain_office (n+9) b "rate" _ (by decide) _ (next_noRef rfl rfl) (due_rate (n+9) z st)
  · unfold rateS; rw [if_neg q]
    exact plain_no (n+9) c b "rate" _ (.inr ⟨by decide, by decide, q⟩)
theorem couponS_noRef (w : Str) (z : Int) (told : List Val) (ht : told = [] ∨ ∃ x r, told = .tup [x] :: r) : noRef (couponS 0 w z told) = true := by
  rcases ht with rfl | ⟨x, r, rfl⟩
  · rfl
  · show noRef (if tFirst (.tup [x] :: r) = some .non then _ else _) = true
    split <;> rfl
theorem b_coupon (w : Str) (z : Int) (hw : Word w) (told : List Val) (ht : told = [] ∨ ∃ x r, told = .tup [x] :: r) : Both c b (couponD w z) told (couponS c w z told) := fun n h v st => by
  refine ⟨coupon_ok (n+3) c b w z hw st ht, ?_⟩
  by_cases q : c = 0
  · subst q
    exact plain_office (n+9) b "coupon" _ (by decide) _ (couponS_noRef w z told ht) (due_coupon (n+9) w z st ht)
  · unfold couponS; rw [if_neg q]
    exact plain_no (n+9) c b "coupon" _ (.inr ⟨by decide, by decide, q⟩)
theorem b_stock (s : Int) (w : Str) (k : Int) (hs : St s) (hw : Word w) (hk : k ≠ 0) (told : List Val) : Both c b (stockD s w k) told (stockS c s w k told) := fun n h v st => by
  refine ⟨stock_ok (n+3) c b s w k hs hw hk st, ?_⟩
  by_cases q : c = 0
  · subst q
    exact plain_goods (n+9) b "stock" _ (.inl rfl) _ (next_noRef rfl rfl) (due_stock (n+9) b s w k st)
  · unfold stockS; rw [if_neg q]
    exact plain_no (n+9) c b "stock" _ (.inr ⟨by decide, by decide, q⟩)
theorem b_move (s : Int) (w : Str) (k : Int) (hb : 1 ≤ b ∧ b ≤ 999) (hs : St s) (hw : Word w) (hk : k ≠ 0) (told : List Val) (ht : told.length < 2 ∨ ∃ x m, told = [x, .tup [.int m]]) : Both c b (moveD s w k) told (moveS c b s w k told) := fun n h v st => by
  refine ⟨move_ok (n+3) c b s w k hb hs hw hk st ht, ?_⟩
  by_cases q : c = 0
  · subst q
    refine plain_goods (n+9) b "move" _ (.inr rfl) _ ?_ (due_move (n+9) b s w k st ht)
    show noRef (if tooFew k told = true then _ else _) = true
    split
    · rfl
    · exact next_noRef rfl rfl
  · unfold moveS; rw [if_neg q]
    exact plain_no (n+9) c b "move" _ (.inr ⟨by decide, by decide, q⟩)
theorem b_arrive (a b' s : Int) (w : Str) (ha9 : 0 ≤ a ∧ a ≤ 9) (hb : 1 ≤ b' ∧ b' ≤ 999) (hs : St s) (hw : Word w) (told : List Val) (ht : told = [] ∨ ∃ x rec r, told = .tup [x, rec] :: r ∧ (rec = .non ∨ ∃ u k, rec = .tup [.str u, .int k] ∧ k ≠ 0)) (hlen : told.length < 3) : Both c b (arriveD a b' s w) told (arriveS c a b' s w told) := fun n h v st => by
  refine ⟨arrive_ok (n+3) c b a b' s w ha9 hb hs hw st ht, ?_⟩
  by_cases q : c = 0
  · subst q
    refine plain_arrive (n+9) b _ _ ?_ (due_arrive (n+9) a b' s w st ht hlen)
    rcases ht with rfl | ⟨x, rec, r, rfl, rfl | ⟨u, k, rfl, _⟩⟩
    · rfl
    · rfl
    · show noRef (if u = w then _ else _) = true
      split
      · exact next_noRef rfl rfl
      · rfl
  · unfold arriveS; rw [if_neg q]
    exact plain_no (n+9) c b "arrive" _ (.inr ⟨by decide, by decide, q⟩)
theorem b_count (w : Str) (hw : Word w) (told : List Val) (ht : told.length < 4 ∨ ∃ a r, told = .tup [a] :: r ∧ r.length = 3 ∧ r.all isTupV = true ∧ noRefs told = true) : Both c b (countD w) told (countS c w told) := fun n h v st => by
  refine ⟨count_ok (n+3) c b w hw st ht, ?_⟩
  by_cases q : c = 0
  · subst q
    refine plain_count (n+9) b _ _ ?_ (due_count (n+9) w st ht fun _ => trivial)
    rcases ht with ht | ⟨a, r, rfl, hr, _, hno⟩
    · have ha : (countAsk w)[told.length]? = some (countAsk w)[told.length] := by simp [countAsk, ht]
      have e : countS 0 w told = (countAsk w)[told.length] := by unfold countS; rw [if_pos rfl, ha]
      rw [e]
      have : (countAsk w)[told.length] ∈ countAsk w := List.mem_of_getElem? ha
      simp only [countAsk, List.mem_cons, List.not_mem_nil, or_false] at this
      rcases this with e | e | e | e <;> (unfold countAsk; rw [e]; rfl)
    · obtain ⟨r1, r2, r3, rfl⟩ : ∃ r1 r2 r3, r = [r1, r2, r3] := by
        match r, hr with
        | [r1, r2, r3], _ => exact ⟨r1, r2, r3, rfl⟩
      have e : countS 0 w [.tup [a], r1, r2, r3] = countE a [r1, r2, r3] := rfl
      rw [e]
      simp [noRefs, noRef] at hno
      simp [countE, doneV, noRef, noRefs, hno]
  · unfold countS; rw [if_neg q]
    exact plain_no (n+9) c b "count" _ (.inr ⟨by decide, by decide, q⟩)
theorem b_pay (z : Int) (hc : 0 ≤ c ∧ c ≤ 9) (hz : z ≠ 0) (told : List Val) : Both c b (payD z) told (payS c z told) := fun n h v st => by
  refine ⟨pay_ok (n+3) c b z hc hz st, ?_⟩
  by_cases q : c = 0
  · unfold payS; rw [if_pos q]
    exact plain_no (n+9) c b "pay" _ (.inl ⟨by decide, q⟩)
  · refine plain_coins (n+9) c b "pay" _ (by decide) q _ ?_ (due_pay (n+9) c z q st)
    unfold payS; rw [if_neg q]
    exact next_noRef rfl rfl
theorem b_draw (z : Int) (hc : 0 ≤ c ∧ c ≤ 9) (hz : z ≠ 0) (told : List Val) (ht : told = [] ∨ ∃ x m r, told = .tup [x, .int m] :: r) : Both c b (drawD z) told (drawS c z told) := fun n h v st => by
  refine ⟨draw_ok (n+3) c b z hc hz st ht, ?_⟩
  by_cases q : c = 0
  · unfold drawS; rw [if_pos q]
    exact plain_no (n+9) c b "draw" _ (.inl ⟨by decide, q⟩)
  · refine plain_coins (n+9) c b "draw" _ (by decide) q _ ?_ (due_draw (n+9) c z q st ht)
    unfold drawS; rw [if_neg q]
    split
    · rfl
    · exact next_noRef rfl rfl
theorem b_purse (told : List Val) (ht : told = [] ∨ ∃ x r, told = .tup [x] :: r ∧ noRef x = true) : Both c b purseD told (purseS c told) := fun n h v st => by
  refine ⟨purse_ok (n+3) c b st ht, ?_⟩
  by_cases q : c = 0
  · unfold purseS; rw [if_pos q]
    exact plain_no (n+9) c b "purse" _ (.inl ⟨by decide, q⟩)
  · refine plain_coins (n+9) c b "purse" _ (by decide) q _ ?_ (due_purse (n+9) c q st ht)
    unfold purseS; rw [if_neg q]
    rcases ht with rfl | ⟨x, r, rfl, hx⟩
    · rfl
    · simp [doneV, noRef, noRefs, hx]
theorem b_look (a k : Int) (told : List Val) (ht : told = [] ∨ ∃ x r, told = .tup [x] :: r ∧ noRef x = true) : Both c b (lookD a k) told (lookS c a k told) := fun n h v st => by
  refine ⟨look_ok (n+3) c b a k st ht, ?_⟩
  refine plain_look (n+9) c b _ _ ?_ (due_look (n+9) c a k st ht)
  unfold lookS
  split
  · rcases ht with rfl | ⟨x, r, rfl, hx⟩
    · rfl
    · show noRef (if x = .non then _ else _) = true
      split
      · rfl
      · simp [doneV, noRef, noRefs, hx]
  · rfl
theorem no_right {D : Val} (h : Both c b D [] (refV "right")) : Prot xs R c b D [] := .done _ _ _ rfl h
variable (hx : Nums 120 xs) (ro : RecOk R) (hc : 0 ≤ c ∧ c ≤ 9) (hb : 1 ≤ b ∧ b ≤ 999)
include hx ro hc hb
theorem p_price (w : Str) (z : Int) (hw : Word w) : Prot xs R c b (priceD w z) [] := by
  have B := b_price (c := c) (b := b) w z hw
  by_cases q : c = 0
  · subst q
    refine .ask [] 1 [reqV (priceK w) "own" 0] rfl (by simp) (B []) (by simp; exact can_price hx w "own" (by decide) 0) fun as h => ?_
    obtain ⟨x, rfl, _⟩ := all2_1 h
    exact .done _ [.tup [priceK w, .int z]] doneA rfl (B [.tup [x]])
  · exact no_right (by have := B []; unfold priceS at this; rwa [if_neg q] at this)
theorem p_rate (z : Int) : Prot xs R c b (rateD z) [] := by
  have B := b_rate (c := c) (b := b) z
  by_cases q : c = 0
  · subst q
    refine .ask [] 1 [reqV rateK "own" 0] rfl (by simp) (B []) (by simp; exact can_rate hx "own" (by decide) 0) fun as h => ?_
    obtain ⟨x, rfl, _⟩ := all2_1 h
    exact .done _ [.tup [rateK, .int z]] doneA rfl (B [.tup [x]])
  · exact no_right (by have := B []; unfold rateS at this; rwa [if_neg q] at this)
theorem p_coupon (w : Str) (z : Int) (hw : Word w) : Prot xs R c b (couponD w z) [] := by
  have B := b_coupon (c := c) (b := b) w z hw
  by_cases q : c = 0
  · subst q
    refine .ask [] 1 [reqV (couponK w) "own" 0] rfl (by simp) (B [] (.inl rfl)) (by simp; exact can_coupon hx w "own" (by decide) 0) fun as h => ?_
    obtain ⟨x, rfl, _⟩ := all2_1 h
    have B1 := B [.tup [x]] (.inr ⟨x, [], rfl⟩)
    by_cases hx : x = .non
    · subst hx
      exact .done _ [.tup [couponK w, .tup [.str (lit "unused"), .int z]]] doneA rfl B1
    · have e : couponS 0 w z [.tup [x]] = refV "coupon" := by simp [couponS, tFirst, hx]
      rw [e] at B1
      exact .done _ _ _ rfl B1
  · exact no_right (by have := B [] (.inl rfl); unfold couponS at this; rwa [if_neg q] at this)
theorem p_stock (s : Int) (w : Str) (k : Int) (hs : St s) (hw : Word w) (hk : k ≠ 0) : Prot xs R c b (stockD s w k) [] := by
  have B := b_stock (c := c) (b := b) s w k hs hw hk
  by_cases q : c = 0
  · subst q
    refine .ask [] s [reqV (cameK s w) "add" 0, reqV (freeK s w) "add" 0] rfl (by simp) (B []) (by simp; exact ⟨can_add hx _ 0, can_add hx _ 0⟩) fun as h => ?_
    obtain ⟨x, y, rfl, _⟩ := all2_2 h
    exact .done _ [.tup [cameK s w, .int k], .tup [freeK s w, .int k]] doneA rfl (B [.tup [x, y]])
  · exact no_right (by have := B []; unfold stockS at this; rwa [if_neg q] at this)
theorem p_move (s : Int) (w : Str) (k : Int) (hs : St s) (hw : Word w) (hk : 1 ≤ k ∧ k ≤ 999) : Prot xs R c b (moveD s w k) [] := by
  have B := b_move (c := c) (b := b) s w k hb hs hw (by omega)
  by_cases q : c = 0
  · subst q
    refine .ask [] 1 [reqV (awayK w) "add" 0, reqV (roadK 0 b) "own" 0] rfl (by simp) (B [] (.inl (by decide))) (by simp; exact ⟨can_add hx _ 0, can_road hx _ _ "own" (by decide) 0 (.inl ⟨rfl, rfl⟩)⟩) fun as h => ?_
    obtain ⟨x, y, rfl, _⟩ := all2_2 h
    refine .ask _ s [reqV (freeK s w) "take" k] rfl (by simp) (B [.tup [x, y]] (.inl (by simp))) (by simp; exact can_take hx _ k (by omega)) fun as h => ?_
    obtain ⟨v, rfl, hv⟩ := all2_1 h
    obtain ⟨m, _, rfl⟩ := ans_take_inv hv ⟨_, _, _, rfl, by decide⟩
    have B2 := B [.tup [x, y], .tup [.int m]] (.inr ⟨_, _, rfl⟩)
    by_cases hlt : m < k
    · have e : moveS 0 b s w k [.tup [x, y], .tup [.int m]] = refV "stock" := by simp [moveS, tooFew, hlt]
      rw [e] at B2
      exact .done _ _ _ rfl B2
    · have e : moveS 0 b s w k [.tup [x, y], .tup [.int m]] = doneV (moveW b s w k) doneA := by simp [moveS, tooFew, hlt, nextV]
      rw [e] at B2
      exact .done _ _ _ rfl B2
  · exact no_right (by have := B [] (.inl (by decide)); unfold moveS at this; rwa [if_neg q] at this)
theorem p_arrive (a b' s : Int) (w : Str) (ha9 : 0 ≤ a ∧ a ≤ 9) (hb' : 1 ≤ b' ∧ b' ≤ 999) (hs : St s) (hw : Word w) : Prot xs R c b (arriveD a b' s w) [] := by
  have B := b_arrive (c := c) (b := b) a b' s w ha9 hb' hs hw
  by_cases q : c = 0
  · subst q
    refine .ask [] 1 [reqV (awayK w) "add" 0, reqV (roadK a b') "own" 0] rfl (by simp) (B [] (.inl rfl) (by simp)) (by simp; exact ⟨can_add hx _ 0, can_road hx _ _ "own" (by decide) 0 (.inr ⟨_, _, _, _, rfl⟩)⟩) fun as h => ?_
    obtain ⟨x, y, rfl, _, hy⟩ := all2_2 h
    rcases ans_road_inv hy (by decide) with rfl | ⟨u, k, rfl, hk⟩
    · exact .done _ [] (refusedV "road") rfl (B [.tup [x, .non]] (.inr ⟨_, _, _, rfl, .inl rfl⟩) (by simp))
    · have ht : ∀ r : List Val, (.tup [x, .tup [.str u, .int k]] :: r = [] ∨ ∃ x' rec r', Val.tup [x, .tup [.str u, .int k]] :: r = .tup [x', rec] :: r' ∧ (rec = .non ∨ ∃ u k, rec = .tup [.str u, .int k] ∧ k ≠ 0)) := fun r => .inr ⟨_, _, _, rfl, .inr ⟨_, _, rfl, by omega⟩⟩
      have B1 := B [.tup [x, .tup [.str u, .int k]]] (ht []) (by simp)
      by_cases hu : u = w
      · have e : arriveS 0 a b' s w [.tup [x, .tup [.str u, .int k]]] = arrA2 s w := by simp [arriveS, hu, nextV]
        rw [e] at B1
        refine .ask _ s [reqV (freeK s w) "add" 0] rfl (by simp) B1 (by simp; exact can_add hx _ 0) fun as h => ?_
        obtain ⟨v, rfl, _⟩ := all2_1 h
        have B2 := B [.tup [x, .tup [.str u, .int k]], .tup [v]] (ht [.tup [v]]) (by simp)
        have e : arriveS 0 a b' s w [.tup [x, .tup [.str u, .int k]], .tup [v]] = doneV (arrW a b' s w k) doneA := by simp [arriveS, hu, nextV]
        rw [e] at B2
        exact .done _ _ _ rfl B2
      · have e : arriveS 0 a b' s w [.tup [x, .tup [.str u, .int k]]] = refV "road" := by simp [arriveS, hu]
        rw [e] at B1
        exact .done _ _ _ rfl B1
  · exact no_right (by have := B [] (.inl rfl) (by simp); unfold arriveS at this; rwa [if_neg q] at this)
theorem p_count (w : Str) (hw : Word w) : Prot xs R c b (countD w) [] := by
  have B := b_count (c := c) (b := b) w hw
  have cs := fun s => (⟨can_am hx s "free" [.str w] (by decide) "see" (by decide) 0, can_am hx s "held" [.str w] (by decide) "see" (by decide) 0⟩ : CanAns xs R c b (countD w) (reqV (freeK s w) "see" 0) ∧ CanAns xs R c b (countD w) (reqV (heldK s w) "see" 0))
  by_cases q : c = 0
  · subst q
    refine .ask [] 1 [reqV (awayK w) "see" 0] rfl (by simp) (B [] (.inl (by decide))) (by simp; exact can_am hx 1 "away" [.str w] (by decide) "see" (by decide) 0) fun as h => ?_
    obtain ⟨x, rfl, hx1⟩ := all2_1 h
    refine .ask _ 2 [reqV (freeK 2 w) "see" 0, reqV (heldK 2 w) "see" 0] rfl (by simp) (B [.tup [x]] (.inl (by simp))) (by simp; exact cs 2) fun as h => ?_
    obtain ⟨y1, y2, rfl, g1, g2⟩ := all2_2 h
    refine .ask _ 3 [reqV (freeK 3 w) "see" 0, reqV (heldK 3 w) "see" 0] rfl (by simp) (B [.tup [x], .tup [y1, y2]] (.inl (by simp))) (by simp; exact cs 3) fun as h => ?_
    obtain ⟨u1, u2, rfl, g3, g4⟩ := all2_2 h
    refine .ask _ 4 [reqV (freeK 4 w) "see" 0, reqV (heldK 4 w) "see" 0] rfl (by simp) (B [.tup [x], .tup [y1, y2], .tup [u1, u2]] (.inl (by simp))) (by simp; exact cs 4) fun as h => ?_
    obtain ⟨v1, v2, rfl, g5, g6⟩ := all2_2 h
    have N : ∀ {r a}, Ans R r a → noRef a = true := fun g => data_noRef _ _ (ans_facts ro g).1
    have P : ∀ {r a}, Ans R r a → plainD 3 a = true := fun g => (ans_facts ro g).2
    have PM : ∀ {v : Val} {d e : Nat}, d ≤ e → plainD d v = true → plainD e v = true := fun {v d e} hde hv => plain_mono v d e hde hv
    refine .done _ [] _ ?_ (B [.tup [x], .tup [y1, y2], .tup [u1, u2], .tup [v1, v2]] (.inr ⟨x, _, rfl, rfl, rfl, ?_⟩))
    · simp [countS, countAsk, doneV, plainD, PM (show 3 ≤ 7 by decide) (P hx1), PM (show 3 ≤ 5 by decide) (P g1), PM (show 3 ≤ 5 by decide) (P g2), PM (show 3 ≤ 5 by decide) (P g3), PM (show 3 ≤ 5 by decide) (P g4), PM (show 3 ≤ 5 by decide) (P g5), PM (show 3 ≤ 5 by decide) (P g6)]
    · simp [noRefs, noRef, N hx1, N g1, N g2, N g3, N g4, N g5, N g6]
  · exact no_right (by have := B [] (.inl (by decide)); unfold countS at this; rwa [if_neg q] at this)
end
end S15

end
section
set_option Elab.async false
set_option linter.all false
set_option maxRecDepth 20000
namespace S15
open Ev Sim P15
open PySem (Str)
section
variable {xs : List Int} {R : Rec} {c b : Int}
variable (hx : Nums 120 xs) (ro : RecOk R) (hc : 0 ≤ c ∧ c ≤ 9) (hb : 1 ≤ b ∧ b ≤ 999)
include hx ro hc hb
theorem p_pay (z : Int) (hz : z ≠ 0) : Prot xs R c b (payD z) [] := by
  have B := b_pay (c := c) (b := b) z hc hz
  by_cases q : c = 0
  · exact no_right (by have := B []; unfold payS at this; rwa [if_pos q] at this)
  · have B0 := B []
    have e0 : payS c z [] = askV 5 [reqV paidK "add" 0, reqV (purseK c) "add" 0] := by simp [payS, q, nextV]
    rw [e0] at B0
    refine .ask [] 5 _ rfl (by simp) B0 (by simp; exact ⟨can_add hx _ 0, can_add hx _ 0⟩) fun as h => ?_
    obtain ⟨x, y, rfl, _⟩ := all2_2 h
    have B1 := B [.tup [x, y]]
    have e1 : payS c z [.tup [x, y]] = doneV [.tup [paidK, .int z], .tup [purseK c, .int z]] doneA := by simp [payS, q, nextV]
    rw [e1] at B1
    exact .done _ _ _ rfl B1
theorem p_draw (z : Int) (hz : 1 ≤ z) : Prot xs R c b (drawD z) [] := by
  have B := b_draw (c := c) (b := b) z hc (by omega)
  by_cases q : c = 0
  · exact no_right (by have := B [] (.inl rfl); unfold drawS at this; rwa [if_pos q] at this)
  · have B0 := B [] (.inl rfl)
    have e0 : drawS c z [] = askV 5 [reqV paidK "add" 0, reqV (purseK c) "take" z] := by simp [drawS, q, nextV, tooPoor]
    rw [e0] at B0
    refine .ask [] 5 _ rfl (by simp) B0 (by simp; exact ⟨can_add hx _ 0, can_take hx _ z (by omega)⟩) fun as h => ?_
    obtain ⟨x, y, rfl, _, hy⟩ := all2_2 h
    obtain ⟨m, _, rfl⟩ := ans_take_inv hy ⟨_, _, _, rfl, by decide⟩
    have B1 := B [.tup [x, .int m]] (.inr ⟨_, _, _, rfl⟩)
    by_cases hlt : m < z
    · have e : drawS c z [.tup [x, .int m]] = refV "coins" := by simp [drawS, q, tooPoor, hlt]
      rw [e] at B1
      exact .done _ _ _ rfl B1
    · have e : drawS c z [.tup [x, .int m]] = doneV [.tup [paidK, .int (-z)], .tup [purseK c, .int (-z)]] doneA := by simp [drawS, q, tooPoor, nextV, hlt]
      rw [e] at B1
      exact .done _ _ _ rfl B1
theorem p_purse : Prot xs R c b purseD [] := by
  have B := b_purse (c := c) (b := b)
  by_cases q : c = 0
  · exact no_right (by have := B [] (.inl rfl); unfold purseS at this; rwa [if_pos q] at this)
  · have B0 := B [] (.inl rfl)
    have e0 : purseS c [] = askV 5 [reqV (purseK c) "see" 0] := by simp [purseS, q]
    rw [e0] at B0
    refine .ask [] 5 _ rfl (by simp) B0 (by simp; exact can_am hx 5 "purse" [.int c] (by decide) "see" (by decide) 0) fun as h => ?_
    obtain ⟨x, rfl, hx1⟩ := all2_1 h
    have B1 := B [.tup [x]] (.inr ⟨x, [], rfl, data_noRef _ _ (ans_facts ro hx1).1⟩)
    have e1 : purseS c [.tup [x]] = doneV [] (.tup [.str (lit "coins"), x]) := by simp [purseS, q]
    rw [e1] at B1
    refine .done _ _ _ ?_ B1
    simp [doneV, plainD, plain_mono _ 3 7 (by decide) (ans_facts ro hx1).2]
theorem p_look (a k : Int) : Prot xs R c b (lookD a k) [] := by
  have B := b_look (c := c) (b := b) a k
  by_cases q : mayOwn c a "look" = true
  · have B0 := B [] (.inl rfl)
    have e0 : lookS c a k [] = askV 1 [reqV (orderK a k) "see" 0] := by simp [lookS, q]
    rw [e0] at B0
    refine .ask [] 1 _ rfl (by simp) B0 (by simp; exact can_order hx a k "see" (by decide) 0) fun as h => ?_
    obtain ⟨x, rfl, hx1⟩ := all2_1 h
    have B1 := B [.tup [x]] (.inr ⟨x, [], rfl, data_noRef _ _ (ans_facts ro hx1).1⟩)
    by_cases hx : x = .non
    · have e1 : lookS c a k [.tup [x]] = refV "order" := by simp [lookS, q, hx]
      rw [e1] at B1
      exact .done _ _ _ rfl B1
    · have e1 : lookS c a k [.tup [x]] = doneV [] (.tup [.str (lit "shows"), x]) := by simp [lookS, q, hx]
      rw [e1] at B1
      refine .done _ _ _ ?_ B1
      simp [doneV, plainD, plain_mono _ 3 7 (by decide) (ans_facts ro hx1).2]
  · have q' : mayOwn c a "look" = false := by simpa using q
    exact no_right (by have := B [] (.inl rfl); unfold lookS at this; rwa [if_neg q] at this)
abbrev names15 : List String := ["price", "rate", "coupon", "stock", "move", "move", "arrive", "arrive", "count", "pay", "draw", "purse", "look"]
theorem prot15 (oa ob : Int) (ha : 0 ≤ oa ∧ oa ≤ 9) (hob : 1 ≤ ob ∧ ob ≤ 999) {nm : String} {D : Val} (hn : nm ∈ names15) (d : DeedOf oa ob nm D) : Prot xs R c b D [] := by
  cases d with
  | price w z hw hz => exact p_price hx ro hc hb w z hw
  | coupon w z hw hz => exact p_coupon hx ro hc hb w z hw
  | rate z hz => exact p_rate hx ro hc hb z
  | stock s w k hs hw hk => exact p_stock hx ro hc hb s w k hs hw (by omega)
  | move s w k hs hw hk => exact p_move hx ro hc hb s w k hs hw hk
  | arrive a' s w ha' hs hw => exact p_arrive hx ro hc hb a' ob s w (by omega) hob hs hw
  | count w hw => exact p_count hx ro hc hb w hw
  | pay z hz => exact p_pay hx ro hc hb z (by omega)
  | draw z hz => exact p_draw hx ro hc hb z hz.1
  | purse => exact p_purse hx ro hc hb
  | look => exact p_look hx ro hc hb oa ob
  | _ => simp at hn
end
abbrev cellBody : Sx := match d_law with
  | .seq (.for_ _ _ b) _ => b
  | _ => .skip
theorem pick_str (l : List String) (hl : 0 < l.length) (x m : Int) (hm : m = l.length) : ∃ s ∈ l, ∀ T h, idxV T (.lst (l.map fun s => .str (lit s))) (.int (x % m)) h = .ok (.str (lit s)) h := by
  obtain ⟨v, hv, ev⟩ := pick_al (l.map fun s => Val.str (lit s)) (by simpa using hl) x m (by simpa using hm)
  obtain ⟨s, hs, rfl⟩ := List.mem_map.mp hv
  exact ⟨s, hs, ev⟩
theorem cell_ok (n : Nat) (ns : List Int) (at_ : Int) (cell : Int) (hcell : ∀ T h, idxV T (.scr (ns.map .int)) (.int at_) h = .ok (.int cell) h) (z2 z3 z4 z5 z6 z7 z8 z9 z10 z11 z12 z13 z14 z15 : Option Val) (h : EHeap) :
    ∃ (y2 y3 y4 y5 y6 y7 y8 y9 y10 y11 y12 y13 y14 y15 : Option Val) (h' : EHeap), evS (cx (n+12)) cellBody [some (.scr (ns.map .int)), some (.int at_), z2, z3, z4, z5, z6, z7, z8, z9, z10, z11, z12, z13, z14, z15] h = .ok (.nx [some (.scr (ns.map .int)), some (.int at_), y2, y3, y4, y5, y6, y7, y8, y9, y10, y11, y12, y13, y14, y15]) h' := by
  obtain ⟨xs, hx, rn⟩ := numbers_ok (n+11) cell at_ 120 (by decide) h
  have rn : run G (n+12) "_law_numbers" [.int cell, .int at_, .int 120] h = .ok (.lst (xs.map .int)) h := rn
  obtain ⟨R, ro, rr⟩ := record_ok (n+9) 120 xs hx 60 (by decide) h
  obtain ⟨x0, b0, e0⟩ := num_al hx 0 (by decide)
  obtain ⟨x1, b1, e1⟩ := num_al hx 1 (by decide)
  obtain ⟨x2, b2, e2⟩ := num_al hx 2 (by decide)
  obtain ⟨x30, b30, e30⟩ := num_al hx 30 (by decide)
  obtain ⟨x117, b117, e117⟩ := num_al hx 117 (by decide)
  obtain ⟨nm, hnm, ev⟩ := pick_str names15 (by decide) x0 13 rfl
  obtain ⟨D, dd, rd⟩ := deed_ok (n+9) 120 xs hx 3 (by decide) (x1 % 10) (1 + x2 % 999) R ro nm (by revert hnm; simp only [List.mem_cons, List.not_mem_nil, or_false]; rintro (rfl | rfl | rfl | rfl | rfl | rfl | rfl | rfl | rfl | rfl | rfl | rfl | rfl) <;> simp) h
  obtain ⟨c, hc, rc⟩ := customer_ok (n+11) 120 xs hx 28 (by decide) nm (x1 % 10) (1 + x2 % 999) (by omega) h
  obtain ⟨b, hb, eb⟩ : ∃ b, (1 ≤ b ∧ b ≤ 999) ∧ b = if x117 % 8 = 0 then 1 + x2 % 999 else 1 + x30 % 999 := by
    refine ⟨_, ?_, rfl⟩
    split <;> omega
  have pr := prot15 hx ro hc hb (x1 % 10) (1 + x2 % 999) (by omega) (by omega) hnm dd
  obtain ⟨y10, y11, y12, y13, y14, y15, H', tl⟩ := turn_loop n ro hx h.length (some (.scr (ns.map .int))) (some (.int at_)) (some (.lst [.str (lit "price"), .str (lit "rate"), .str (lit "coupon"), .str (lit "stock"), .str (lit "move"), .str (lit "move"), .str (lit "arrive"), .str (lit "arrive"), .str (lit "count"), .str (lit "pay"), .str (lit "draw")])) (some (.str (lit nm))) (some (idV (x1 % 10) (1 + x2 % 999))) 6 0 rfl [] (h ++ [.list []]) (by simp) (get_end _ _) rfl pr z10 z11 z12 z13 z14 z15
  refine ⟨some (.lst (xs.map .int)), some R.v, some (.lst [.str (lit "price"), .str (lit "rate"), .str (lit "coupon"), .str (lit "stock"), .str (lit "move"), .str (lit "move"), .str (lit "arrive"), .str (lit "arrive"), .str (lit "count"), .str (lit "pay"), .str (lit "draw")]), some (.str (lit nm)), some (idV (x1 % 10) (1 + x2 % 999)), some D, some (idV c b), some (.ref h.length), y10, y11, y12, y13, y14, y15, H', ?_⟩
  have hcat : ∀ h, fprimV .cat [.lst [.str (lit "price"), .str (lit "rate"), .str (lit "coupon"), .str (lit "stock"), .str (lit "move"), .str (lit "move"), .str (lit "arrive"), .str (lit "arrive"), .str (lit "count"), .str (lit "pay"), .str (lit "draw")], .lst [.str (lit "purse"), .str (lit "look")]] h = .ok (names15.map fun s => .str (lit s)) h := fun h => rfl
  have hr6 : ∀ h, rngV [.int 6] h = .ok (rangeL 0 6, none) h := fun h => rng1 6 (by decide) h
  unfold turnBody at tl
  unfold cellBody
  simp only [d_law] at tl ⊢
  simp only [List.map] at ev hcat
  unfold idV at *
  simp at tl
  by_cases q : x117 % 8 = 0
  · rw [if_pos q] at eb
    subst eb
    simp [hcell, rn, rr, e0, e1, e2, e30, e117, bin_mod, hcat, ev, rd, rc, q, hr6, tl]
  · rw [if_neg q] at eb
    subst eb
    simp [hcell, rn, rr, e0, e1, e2, e30, e117, bin_mod, hcat, ev, rd, rc, q, hr6, tl]

theorem cells_loop (n : Nat) (ns : List Int) : ∀ (q a : Nat), a + q ≤ ns.length → ∀ (z1 z2 z3 z4 z5 z6 z7 z8 z9 z10 z11 z12 z13 z14 z15 : Option Val) (h : EHeap), ∃ (e : EEnv) (h' : EHeap), forLoop none (bindTg (.nm 1)) (fun e => evS (cx (n+12)) cellBody e) (rangeL a q) [some (.scr (ns.map .int)), z1, z2, z3, z4, z5, z6, z7, z8, z9, z10, z11, z12, z13, z14, z15] h = .ok (.nx e) h'
  | 0, a, ha, z1, z2, z3, z4, z5, z6, z7, z8, z9, z10, z11, z12, z13, z14, z15, h => ⟨_, _, rfl⟩
  | q + 1, a, ha, z1, z2, z3, z4, z5, z6, z7, z8, z9, z10, z11, z12, z13, z14, z15, h => by
    obtain ⟨cell, hcl⟩ : ∃ cell, ns[a]? = some cell := ⟨ns[a]'(by omega), List.getElem?_eq_getElem _⟩
    have hcell : ∀ T h, idxV T (.scr (ns.map .int)) (.int (a : Int)) h = .ok (.int cell) h := fun T h => idx_scr h T (by omega) (by simp [hcl])
    obtain ⟨y2, y3, y4, y5, y6, y7, y8, y9, y10, y11, y12, y13, y14, y15, h1, hb⟩ := cell_ok n ns a cell hcell z2 z3 z4 z5 z6 z7 z8 z9 z10 z11 z12 z13 z14 z15 h
    obtain ⟨e, h', ih⟩ := cells_loop n ns q (a+1) (by omega) (some (.int a)) y2 y3 y4 y5 y6 y7 y8 y9 y10 y11 y12 y13 y14 y15 h1
    refine ⟨e, h', ?_⟩
    have ec : ((a + 1 : Nat) : Int) = (a : Int) + 1 := by omega
    rw [ec] at ih
    rw [range_succ, for_cons]
    simp only [chk_none, R.bind_ok, bind_1, ofOpt_some, List.set_cons_succ, List.set_cons_zero, hb, ih]
theorem rng2 (m : Int) (h1 : m ≤ 1000) (h2 : 0 ≤ m) (h : EHeap) : rngV [.int 1, .int m] h = .ok (rangeL 1 (m - 1).toNat, none) h := by
  have a1 : ((m - 1).toNat ≤ most) := by unfold most; omega
  have a2 : (-4611686018427387904 ≤ (1 : Int) ∧ (1 : Int) < 4611686018427387904 ∧ -4611686018427387904 ≤ m ∧ m < 4611686018427387904) := by omega
  show (guardM _ h).bind _ = _
  rw [decide_eq_true a1, decide_eq_true a2]
  rfl
theorem law_run (n : Nat) (ns : List Int) : ∃ h', run G (n+13) "law" [.scr (ns.map .int)] [] = .ok (.bl true) h' := by
  obtain ⟨m, hm⟩ : ∃ m, m = (if (25 : Int) < ns.length then (25 : Int) else ns.length) := ⟨_, rfl⟩
  have hm1 : m ≤ 25 ∧ 0 ≤ m ∧ m ≤ ns.length := by rw [hm]; split <;> omega
  have hr := rng2 m (by omega) hm1.2.1 []
  obtain ⟨e, h', hl⟩ : ∃ (e : EEnv) (h' : EHeap), forLoop none (bindTg (.nm 1)) (fun e => evS (cx (n+12)) cellBody e) (rangeL 1 (m - 1).toNat) [some (.scr (ns.map .int)), none, none, none, none, none, none, none, none, none, none, none, none, none, none, none] [] = .ok (.nx e) h' := by
    by_cases q : 1 ≤ m
    · exact cells_loop n ns (m - 1).toNat 1 (by omega) none none none none none none none none none none none none none none none []
    · have : (m - 1).toNat = 0 := by omega
      rw [this]
      exact ⟨_, _, rfl⟩
  refine ⟨h', ?_⟩
  unfold cellBody at hl
  simp only [d_law] at hl
  obtain ⟨qm, hqm⟩ : ∃ qm, qm = (m - 1).toNat := ⟨_, rfl⟩
  rw [← hqm] at hr hl
  have hb : evS (cx (n+12)) d_law (initEnv 16 [.scr (ns.map .int)]) [] = .ok (.rt (.bl true)) h' := by
    simp only [d_law, initEnv]
    simp only [evS_seq, evS_for, evI_range, evL_cons, evL_nil, evE_cst, evE_prim, evE_var, List.length, List.map, List.replicate, List.cons_append, List.nil_append, List.getElem?_cons_zero, Option.getD_some, ofOpt_some, R.bind_ok, len_scr, List.length_map, min_int, ← hm, hr]
    rw [hl]
    simp
  rw [run_law]
  simp [runDef, hb, finOk]
theorem law_ok (ns : List Int) : ∃ h', run G 30 "law" [.scr (ns.map .int)] [] = .ok (.bl true) h' := law_run 17 ns
end S15

end
section
set_option Elab.async false
set_option linter.all false
set_option maxRecDepth 100000
set_option maxHeartbeats 0
open PySem Sim Ev P15 H15
theorem lawHolds (ns : List Int) (h1 : ns.length ≤ 63) (h2 : ∀ k ∈ ns, Builtin.Int.intBits k ≤ 1048576) : ∃ h', run plan.cfg 30 "law" [.scr (ns.map .int)] [] = .ok (.bl true) h' := S15.law_ok ns
theorem PySem.Challenge.cw_oncecoin_k15_moves_coins_and_looks_holds : PySem.Challenge.rw_oncecoin_k15_moves_coins_and_looks.Holds := by
  w_on
  o_law
  refine HandSHeadRun.head_any (r := PySem.W.OpenLaw.row PySem.Challenge.rw_oncecoin_k15_moves_coins_and_looks) (q := H15.qv) (H := P15.plan.hook 3) (ob := P15.plan.ob 3) (M := 9000) (loose := H15.names) (d := HandSHeadRun.topDef R.prog 96) (kwd := []) (ob_eq 3 plan) (by kernel_rfl) (fun s => by kernel_rfl) H15.run (by kernel_rfl) (by kernel_rfl) (by kernel_rfl) (by rfl) (by first | assumption | decide +kernel) (by decide +kernel) ⟨rfl, rfl, rfl, rfl, rfl, by decide +kernel⟩ ?hw ?hc
  case hw => w_witness2
  case hc => exact law_walk 3 plan 30 rfl rfl ⟨rfl, by decide +kernel, by decide +kernel⟩ (by kernel_rfl) rfl rfl rfl lawHolds

end
