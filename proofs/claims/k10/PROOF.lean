import PyProof.Rows.All
import Wide.All
import OpenK.AllK
import Wide.FinOn
import PySem.Challenge.RW_boundrounds_k10_steps_told
import HandS.ForMost
import HandS.ForExc
import HandS.Wide
import HandS.Deep
import HandS.StrMore
import HandS.TupAny
import HandS.Evl
import HandS.Flow
import HandS.Conv
import HandS.DictComp
import HandS.IsInst
import HandS.Zip
import HandS.Strs
import HandS.Rev
import HandS.RevRange
import HandS.TupMul
import HandS.Star
import HandS.CallSlots
import HandS.RaiseMore
import HandS.FStr
import HandS.Style
import HandS.Defaults
import HandS.MakeKw
import HandS.MakeKwOnly
import HandS.TryMany
import HandS.ExcInit
import KE.SortData
import PyProof.InstNe
import PyProof.EqKinds
import PyProof.DictFindH
import KE.KEqDict
import HandS.Text
import KE.DatumOrd
import HandS.SlotsOwn
import HandS.TryOnly
import HandS.Walk
import KE.GoesEnum
import HandS.Small
import HandS.HeadEnd
import HandS.HeadHook1
import HandS.HeadHook2
import HandS.Head2
set_option Elab.async false
set_option linter.all false
set_option maxRecDepth 100000
/-! M1: data, slots, a small language, its evaluator. -/
namespace Mi
open PySem L2

/-- data: what a value is, whole -/
inductive D where
  | non | bl (b : Bool) | int (i : Int) | str (s : Str)
  | lst (xs : List D) | tup (xs : List D)
  | dK (kvs : List (Key × D)) | dT (kvs : List (List Key × D))
  | obj (c : Str) (fs : List (Str × D))
  | cls (c : Str) | ty (n : String)
  deriving Inhabited

/-- a slot's content: data, and whether nothing else refers to the object -/
structure T where
  ow : Bool
  d : D
  deriving Inhabited
@[reducible] def sh (d : D) : T := ⟨false, d⟩
@[reducible] def own (d : D) : T := ⟨true, d⟩

abbrev Sl := List (Option T)
/-- a raised exception -/
structure Xc where
  c : Str
  fs : List (Str × D)

inductive R (α : Type) where
  | ok (a : α) (ρ : Sl)
  | exc (x : Xc) (ρ : Sl)
  | bad
def R.bind {α β : Type} (r : R α) (f : α → Sl → R β) : R β := match r with
  | .ok a ρ => f a ρ
  | .exc x ρ => .exc x ρ
  | .bad => .bad
@[simp] theorem R.bind_ok {α β : Type} (a : α) (ρ : Sl) (f : α → Sl → R β) : (R.ok a ρ).bind f = f a ρ := rfl
@[simp] theorem R.bind_exc {α β : Type} (x : Xc) (ρ : Sl) (f : α → Sl → R β) : (R.exc x ρ : R α).bind f = .exc x ρ := rfl
@[simp] theorem R.bind_bad {α β : Type} (f : α → Sl → R β) : (R.bad : R α).bind f = .bad := rfl
def R.opt {α : Type} (o : Option α) (ρ : Sl) : R α := match o with
  | some a => .ok a ρ
  | none => .bad
@[simp] theorem R.opt_some {α : Type} (a : α) (ρ : Sl) : R.opt (some a) ρ = .ok a ρ := rfl
@[simp] theorem R.opt_none {α : Type} (ρ : Sl) : R.opt (none : Option α) ρ = .bad := rfl

/-- what a def hands back: the value, and its first parameter as it is left -/
inductive FR where
  | ret (t out : T)
  | exc (x : Xc) (out : T)
  | bad
structure FS where
  name : Str
  /-- the first parameter is changed -/
  io : Bool
  /-- parameters -/
  np : Nat
  /-- defaults of the last ones -/
  dfl : List D
  sem : List T → FR

inductive ItK where
  | val | range | enum (start : Int) | zip | revRange
  deriving DecidableEq
inductive Tg where
  | one (i : Nat)
  | many (is : List Nat)
  deriving DecidableEq
/-- built-in functions -/
inductive Bi where
  | len | int | abs | max2 | min2 | maxL | minL | minL0 (d : D) | sum | all | any | sorted | list | tuple | repr | str | isinst (cs : List Str) | divmod | lenset | lrange | join | dictc
/-- methods that read -/
inductive Bm where
  | get1 | get2 | index | upper | startswith | split | partition | removeprefix | endswith
  deriving DecidableEq
/-- methods that change a list -/
inductive Mt where
  | append | extend | insert | popAt
  deriving DecidableEq

inductive ME where
  | var (i : Nat)
  | lit (d : D)
  | glob (x : Str) (d : D)
  | bin (op : Operator) (cs : List (Str × FS)) (a b : ME)
  | neg (a : ME)
  | cmp (op : CmpOp) (cs : List (Str × FS)) (a b : ME)
  | cmp2 (op1 op2 : CmpOp) (a b c : ME)
  | and_ (a b : ME) | or_ (a b : ME) | not_ (a : ME)
  | ite (c a b : ME)
  | tup (es : List ME) | lst (es : List ME) | star (e : ME) | srange (es : List ME)
  | dct (t : Bool) (kvs : List ME)
  | sub (a b : ME)
  | slice (a : ME) (lo hi : Option ME)
  | slice3 (a : ME) (lo hi st : Option ME)
  | fld (a : ME) (f : Str) (cs : List Str)
  | call (f : FS) (args : List ME)
  | new (c : Str) (f : FS) (args : List ME)
  | meth (cs : List (Str × FS)) (o : ME) (args : List ME)
  | newK (c : Str) (f : FS) (kn : List Str) (pm : List Nat) (args : List ME)
  | methW (cs : List (Str × FS)) (kn : List Str) (pm : List Nat) (o : ME) (args : List ME)
  | join (o l : ME)
  | bi (b : Bi) (args : List ME)
  | bm (m : Bm) (o : ME) (args : List ME)
  | mt (m : Mt) (x : Nat) (args : List ME)
  | comp (tg : Tg) (k : ItK) (it : List ME) (cond : Option ME) (elt : ME) (ws : List Nat)
  | compK (tg : Tg) (x : Nat) (cond : Option ME) (elt : ME) (ws : List Nat)
  | dcomp (tg : Tg) (k : ItK) (it : List ME) (kx vx : ME) (ws : List Nat)
  | fstr (ps : List ME)
  deriving Inhabited

inductive MS where
  | set (i : Nat) (e : ME)
  | tupset (is : List Nat) (e : ME)
  | par (is : List Nat) (es : List ME)
  | setIx (x : Nat) (k e : ME)
  | setFld (x : Nat) (f : Str) (cs : List Str) (e : ME)
  | expr (e : ME)
  | ret (e : ME) | retN
  | ite (c : ME) (t e : List MS)
  | for_ (tg : Tg) (k : ItK) (it : List ME) (body orelse : List MS)
  | while_ (fuel : Nat) (c : ME) (body : List MS)
  | brk | cont | pass
  | raise (c : Str) (f : Option Str) (e : ME)
  deriving Inhabited

/-! ### plain operations -/
mutual
def D.py : D → Option PyData
  | .non => some .none
  | .bl b => some (.bool b)
  | .int i => some (.int i)
  | .str s => some (.str s)
  | .lst xs => (D.pys xs).map .list
  | .tup xs => (D.pys xs).map .tuple
  | _ => none
def D.pys : List D → Option (List PyData)
  | [] => some []
  | x :: xs => match D.py x, D.pys xs with
    | some a, some b => some (a :: b)
    | _, _ => none
end
/-- nested at most n deep, of plain kinds -/
def nice : Nat → D → Bool
  | _, .non | _, .bl _ | _, .int _ => true
  | _, .str s => PyData.strOk s
  | n + 1, .lst xs => xs.all (nice n)
  | n + 1, .tup xs => xs.all (nice n)
  | _, _ => false
section
variable {κ : Type} [DecidableEq κ]
def look (kvs : List (κ × D)) (k : κ) : Option D := (kvs.find? fun kv => decide (kv.1 = k)).map (·.2)
def put (kvs : List (κ × D)) (k : κ) (v : D) : List (κ × D) :=
  if (kvs.any fun kv => decide (kv.1 = k)) = true then kvs.map (fun kv => if kv.1 = k then (kv.1, v) else kv) else kvs ++ [(k, v)]
end
def intV : D → Bool
  | .int _ => true
  | _ => false
/-- dicts with ints as values: the same entries -/
def okE2 (b : List (List Key × D)) (p : List Key × D) : Bool := match look b p.1, p.2 with
  | some (.int j), .int i => decide (i = j)
  | _, _ => false
def eqT (a b : List (List Key × D)) : Bool := a.length == b.length && a.all (okE2 b)
def deqv (a b : D) : Option Bool := match a, b with
  | .dT a, .dT b => if a.all (fun p => intV p.2) && b.all (fun p => intV p.2) then some (eqT a b) else none
  | .int i, .int j => some (decide (i = j))
  | .str x, .str y => some (decide (x = y))
  | .bl x, .bl y => some (decide (x = y))
  | .non, .non => some true
  | a, b => match a.py, b.py with
    | some x, some y => if nice 50 a && nice 50 b then some (PyData.eqv x y) else none
    | _, _ => none
/-- neither list nor tuple nor ... -/
def flatD : D → Bool
  | .non | .bl _ | .int _ | .str _ => true
  | _ => false
def flatEq : D → D → Bool
  | .non, .non => true
  | .bl a, .bl b => a == b
  | .bl a, .int b => (if a then 1 else 0) == b
  | .int a, .bl b => a == (if b then 1 else 0)
  | .int a, .int b => decide (a = b)
  | .str a, .str b => decide (a = b)
  | _, _ => false
def mulOk (i j : Int) : Bool := decide (i.natAbs.log2 + j.natAbs.log2 < 1000000)
def powOk (i j : Int) : Bool := decide (0 ≤ j) && decide ((i.natAbs.log2 + 1 : Int) * j ≤ 100000000)
def divOk (j : Int) : Bool := decide (0 < j) && decide (j.natAbs.log2 < 9000)
abbrev szOk (n : Nat) : Bool := decide (n ≤ 1000000)
def binD (op : Operator) (a b : D) : Option T := match op, a, b with
  | .Add, .int i, .int j => some (sh (.int (i + j)))
  | .Add, .str x, .str y => if szOk (x.length + y.length) then some (sh (.str (x ++ y))) else none
  | .Add, .lst xs, .lst ys => if szOk (xs.length + ys.length) then some (own (.lst (xs ++ ys))) else none
  | .Add, .tup xs, .tup ys => if szOk (xs.length + ys.length) then some (sh (.tup (xs ++ ys))) else none
  | .Sub, .int i, .int j => some (sh (.int (i - j)))
  | .Mult, .int i, .int j => if mulOk i j then some (sh (.int (i * j))) else none
  | .Mult, .lst xs, .int k => if decide (0 ≤ k) && decide (k ≤ 1000000) && szOk (xs.length * k.toNat) then some (own (.lst (List.replicate k.toNat xs).flatten)) else none
  | .Mult, .tup xs, .int k => if !xs.isEmpty && decide (2 ≤ k) && decide (k ≤ 1000) && decide (xs.length ≤ 1000) then some (sh (.tup (List.replicate k.toNat xs).flatten)) else none
  | .FloorDiv, .int i, .int j => if divOk j then some (sh (.int (i / j))) else none
  | .Mod, .int i, .int j => if decide (0 < j) then some (sh (.int (i % j))) else none
  | .Pow, .int i, .int j => if powOk i j then some (sh (.int (i ^ j.toNat))) else none
  | _, _, _ => none
/-- a dict's key, as a tuple's parts -/
def keyOf : D → Option Key
  | .int i => some (.inl i)
  | .str s => some (.inr s)
  | _ => none
def keysOf : List D → Option (List Key)
  | [] => some []
  | x :: xs => match keyOf x, keysOf xs with
    | some a, some b => some (a :: b)
    | _, _ => none
def dkey : Key → D
  | .inl i => .int i
  | .inr s => .str s
/-- what a dict has at a key: outer none: no such use -/
def dget (d k : D) : Option (Option D) := match d, k with
  | .dK kvs, k => match keyOf k with
    | some x => some (look kvs x)
    | none => none
  | .dT kvs, .tup ks => if ks.length = 2 then (match keysOf ks with
    | some x => some (look kvs x)
    | none => none) else none
  | _, _ => none
def pyAny (x : PyData) : List PyData → Bool
  | [] => false
  | y :: ys => PyData.eqv y x || pyAny x ys
def isIn (x s : D) : Option Bool := match s, x with
  | .lst ys, x => if flatD x && ys.all flatD then some (ys.any fun y => flatEq y x) else match x.py, D.pys ys with
    | some p, some qs => if nice 50 x && ys.all (nice 50) then some (pyAny p qs) else none
    | _, _ => none
  | .tup ys, x => if flatD x && ys.all flatD then some (ys.any fun y => flatEq y x) else none
  | .str z, .str c => match c.cps.toList with
    | [k] => some (decide (k ∈ z.cps.toList))
    | _ => none
  | .dK _, x => (dget s x).map Option.isSome
  | .dT _, x => (dget s x).map Option.isSome
  | _, _ => none
def cmpD (op : CmpOp) (a b : D) : Option Bool := match op with
  | .Eq => deqv a b
  | .NotEq => (deqv a b).map (!·)
  | .Lt => match a, b with
    | .int i, .int j => some (decide (i < j))
    | _, _ => none
  | .LtE => match a, b with
    | .int i, .int j => some (decide (i ≤ j))
    | _, _ => none
  | .Gt => match a, b with
    | .int i, .int j => some (decide (j < i))
    | _, _ => none
  | .GtE => match a, b with
    | .int i, .int j => some (decide (j ≤ i))
    | _, _ => none
  | .Is => match a, b with
    | .non, .non => some true
    | _, .non => some false
    | .bl x, .bl y => some (x == y)
    | _, _ => none
  | .IsNot => match a, b with
    | .non, .non => some false
    | _, .non => some true
    | .bl x, .bl y => some (x != y)
    | _, _ => none
  | .In => isIn a b
  | .NotIn => (isIn a b).map (!·)
def ixD (a k : D) : Option D := match a, k with
  | .lst xs, .int i => atI xs i
  | .tup xs, .int i => atI xs i
  | .str z, .int i => if szOk z.length then (atI z.cps.toList i).map fun c => .str ⟨#[c]⟩ else none
  | .dK _, _ => match dget a k with
    | some (some v) => some v
    | _ => none
  | .dT _, _ => match dget a k with
    | some (some v) => some v
    | _ => none
  | _, _ => none
def cutD (xs : List D) (lo hi : Option Int) : List D := (xs.drop (HT.sIx xs.length 0 lo)).take (HT.sIx xs.length xs.length hi - HT.sIx xs.length 0 lo)
def sliceD (a : D) (lo hi : Option Int) : Option T := match a with
  | .lst xs => some (own (.lst (cutD xs lo hi)))
  | .tup xs => some (sh (.tup (cutD xs lo hi)))
  | .str z => if szOk z.length then some (sh (.str (cutS z lo hi))) else none
  | _ => none
/-- items by steps -/
def stepX {α : Type} (xs : List α) (lo : Int) (k : Nat) (st : Int) : List α := (List.range k).filterMap fun (m : Nat) => xs[(lo + (m : Int) * st).toNat]?
def adjS (n : Nat) (lo hi : Option Int) (st : Int) : Int × Nat := ((PySem.Builtin.Slice.sliceAdjust lo hi st (n : Int)).1, PySem.Builtin.Slice.slicePlaces (PySem.Builtin.Slice.sliceAdjust lo hi st (n : Int)).1 (PySem.Builtin.Slice.sliceAdjust lo hi st (n : Int)).2 st)
def stepD (xs : List D) (lo hi : Option Int) (st : Int) : List D := stepX xs (adjS xs.length lo hi st).1 (adjS xs.length lo hi st).2 st
def sliceD3 (a : D) (lo hi st : Option Int) : Option T := match a, st with
  | .tup xs, some z => if !(z == 0) && szOk (adjS xs.length lo hi z).2 then some (sh (.tup (stepD xs lo hi z))) else none
  | _, _ => none
def intsD : List D → Option (List Int)
  | [] => some []
  | .int i :: r => (intsD r).map (i :: ·)
  | _ :: _ => none
def boolsD : List D → Option (List Bool)
  | [] => some []
  | .bl i :: r => (boolsD r).map (i :: ·)
  | _ :: _ => none
def strsD : List D → Option (List Str)
  | [] => some []
  | .str i :: r => (strsD r).map (i :: ·)
  | _ :: _ => none
def items : D → Option (List D)
  | .lst xs => some xs
  | .tup xs => some xs
  | _ => none
def maxI : List Int → Option Int
  | [] => none
  | [x] => some x
  | x :: r => (maxI r).map (max x)
def minI : List Int → Option Int
  | [] => none
  | [x] => some x
  | x :: r => (minI r).map (min x)
def rangeL (lo : Int) (n : Nat) : List D := (List.range n).map fun (i : Nat) => .int (lo + (i : Int))
def keyTuple : List Key → D := fun ks => .tup (ks.map dkey)
def eachFrom (f : Int → D → D) : Int → List D → List D
  | _, [] => []
  | i, x :: r => f i x :: eachFrom f (i + 1) r
/-- what a walk goes over -/
def walkD (k : ItK) (as : List D) : Option (List D) := match k, as with
  | .val, [.lst xs] => some xs
  | .val, [.tup xs] => some xs
  | .val, [.str z] => some (z.cps.toList.map fun c => .str ⟨#[c]⟩)
  | .range, [.int n] => if decide (-1000000 ≤ n) && decide (n ≤ 1000000) then some (rangeL 0 n.toNat) else none
  | .range, [.int a, .int b] => if decide (-1000000 ≤ a) && decide (a ≤ 1000000) && decide (-1000000 ≤ b) && decide (b ≤ 1000000) then some (rangeL a (b - a).toNat) else none
  | .revRange, [.int n] => if decide (-1000000 ≤ n) && decide (n ≤ 1000000) then some (rangeL 0 n.toNat).reverse else none
  | .enum s, [.lst xs] => some (eachFrom (fun i x => .tup [.int i, x]) s xs)
  | .enum s, [.tup xs] => some (eachFrom (fun i x => .tup [.int i, x]) s xs)
  | .zip, [.lst xs, .lst ys] => some ((xs.zip ys).map fun p => .tup [p.1, p.2])
  | .zip, [.tup xs, .tup ys] => some ((xs.zip ys).map fun p => .tup [p.1, p.2])
  | _, _ => none
def tyNames : List String := ["bool", "int", "str", "list", "tuple", "dict"]
def isClsB (ok : List Str) (x : D) : D → Option Bool
  | .ty n => if !(tyNames.contains n) then none else match x with
    | .non => some false
    | .bl _ => some (n == "bool" || n == "int")
    | .int _ => some (n == "int")
    | .str _ => some (n == "str")
    | .lst _ => some (n == "list")
    | .tup _ => some (n == "tuple")
    | .dK _ => some (n == "dict")
    | .obj e _ => if ok.contains e then some false else none
    | _ => none
  | .cls c => if !(ok.contains c) then none else match x with
    | .obj e _ => if ok.contains e then some (decide (e = c)) else none
    | .cls _ => none
    | .ty _ => none
    | .dT _ => none
    | _ => some false
  | _ => none
def isTri : D → Bool
  | .tup [.str _, .str _, .int _] => true
  | _ => false
def ltS (a b : Str) : Bool := decide (a.cps.toList < b.cps.toList)
/-- the order of tuples of two texts and a number -/
def leTri : D → D → Bool
  | .tup [.str a, .str b, .int i], .tup [.str c, .str d, .int j] => if a = c then (if b = d then decide (i ≤ j) else ltS b d) else ltS a c
  | _, _ => true
/-- how many unlike ones among the first -/
def cntTo (xs : List Str) : Nat → Nat
  | 0 => 0
  | i + 1 => if (xs.take i).any (· == xs.getD i Str.empty) = true then cntTo xs i else cntTo xs i + 1
def biD (b : Bi) (as : List D) : Option T := match b, as with
  | .len, [.lst xs] => some (sh (.int xs.length))
  | .len, [.tup xs] => some (sh (.int xs.length))
  | .len, [.str z] => if szOk z.length then some (sh (.int z.length)) else none
  | .int, [.int i] => some (sh (.int i))
  | .int, [.bl b] => some (sh (.int (if b then 1 else 0)))
  | .abs, [.int i] => some (sh (.int (if i < 0 then -i else i)))
  | .max2, [.int i, .int j] => some (sh (.int (if j > i then j else i)))
  | .min2, [.int i, .int j] => some (sh (.int (if j < i then j else i)))
  | .maxL, [.lst xs] => ((intsD xs).bind maxI).map fun m => sh (.int m)
  | .minL, [.lst xs] => ((intsD xs).bind minI).map fun m => sh (.int m)
  | .minL0 d, [.lst xs] => if xs.isEmpty then some (sh d) else ((intsD xs).bind minI).map fun m => sh (.int m)
  | .sum, [.lst xs] => (intsD xs).map fun m => sh (.int m.sum)
  | .all, [.lst xs] => (boolsD xs).map fun m => sh (.bl (m.all id))
  | .any, [.lst xs] => (boolsD xs).map fun m => sh (.bl (m.any id))
  | .list, [.lst xs] => some (own (.lst xs))
  | .list, [.tup xs] => some (own (.lst xs))
  | .list, [.dT kvs] => some (own (.lst (kvs.map fun p => keyTuple p.1)))
  | .list, [.dK kvs] => some (own (.lst (kvs.map fun p => dkey p.1)))
  | .dictc, [.dK kvs] => some (own (.dK kvs))
  | .tuple, [.lst xs] => some (sh (.tup xs))
  | .tuple, [.tup xs] => some (sh (.tup xs))
  | .repr, [d] => match d.py with
    | some p => if nice 50 d && p.showable && szOk p.shown.length then some (sh (.str p.shown)) else none
    | none => none
  | .str, [.str z] => some (sh (.str z))
  | .str, [.int i] => if decide (i.natAbs.log2 < 1920) then some (sh (.str (toString i))) else none
  | .isinst ok, [x, c] => (isClsB ok x c).map fun b => sh (.bl b)
  | .sorted, [.lst xs] => if xs.all isTri && szOk xs.length then some (own (.lst (xs.mergeSort leTri))) else none
  | .join, [.str z, .lst xs] => (strsD xs).bind fun ss => if szOk ((ss.map (·.length)).sum + ss.length * z.length) then some (sh (.str (Txt.join z ss))) else none
  | .lenset, [.tup xs] => (strsD xs).bind fun ss => if ss.length ≤ 20 then some (sh (.int (cntTo ss ss.length))) else none
  | .lrange, [.int n] => if decide (-1000000 ≤ n) && decide (n ≤ 1000000) then some (own (.lst (rangeL 0 n.toNat))) else none
  | .lrange, [.int a, .int b] => if decide (-1000000 ≤ a) && decide (a ≤ 1000000) && decide (-1000000 ≤ b) && decide (b ≤ 1000000) then some (own (.lst (rangeL a (b - a).toNat))) else none
  | _, _ => none
def bmD (m : Bm) (o : D) (as : List D) : Option T := match m, o, as with
  | .get1, d, [k] => (dget d k).map fun r => sh (r.getD .non)
  | .get2, d, [k, z] => (dget d k).map fun r => sh (r.getD z)
  | .index, .lst xs, [y] => match strsD xs, y with
    | some ss, .str z => (ss.findIdx? (· == z)).map fun (j : Nat) => sh (.int (j : Int))
    | _, _ => none
  | .index, .tup xs, [y] => match strsD xs, y with
    | some ss, .str z => (ss.findIdx? (· == z)).map fun (j : Nat) => sh (.int (j : Int))
    | _, _ => none
  | .upper, .str z, [] => if szOk z.length then some (sh (.str (Txt.upper z))) else none
  | .startswith, .str z, [.str y] => some (sh (.bl (Txt.startswith z y)))
  | .endswith, .str z, [.str y] => some (sh (.bl (Txt.endswith z y)))
  | .split, .str z, [.str y] => if szOk z.length && !(y.length == 0) then some (own (.lst ((Txt.split z y).map .str))) else none
  | .partition, .str z, [.str y] => if szOk z.length && !(y.length == 0) then some (sh (.tup [.str (Txt.partition z y).1, .str (Txt.partition z y).2.1, .str (Txt.partition z y).2.2])) else none
  | .removeprefix, .str z, [.str y] => if szOk z.length then some (sh (.str (Txt.removeprefix z y))) else none
  | _, _, _ => none
/-- a list's method that changes it: the list behind, the value -/
def mtD (m : Mt) (xs : List D) (as : List D) : Option (List D × D) := match m, as with
  | .append, [x] => if szOk xs.length then some (xs ++ [x], .non) else none
  | .extend, [.lst ys] => if szOk (xs.length + ys.length) then some (xs ++ ys, .non) else none
  | .insert, [.int i, y] => if decide (0 ≤ i) && decide (i < 1000000) && szOk xs.length then some (xs.take i.toNat ++ [y] ++ xs.drop i.toNat, .non) else none
  | .popAt, [.int i] => if decide (0 ≤ i) && decide (i < xs.length) && szOk xs.length then (xs[i.toNat]?).map fun y => (xs.eraseIdx i.toNat, y) else none
  | _, _ => none

/-! ### operands -/
inductive Opd where
  | tmp (t : T)
  | slot (i : Nat)
def drf (o : Opd) (ρ : Sl) : Option D := match o with
  | .tmp t => some t.d
  | .slot i => match ρ[i]? with
    | some (some t) => some t.d
    | _ => none
/-- an operand: an owned slot is read where it stands -/
def opd (e : ME) (f : Sl → R T) (ρ : Sl) : R Opd := match e with
  | .var i => match ρ[i]? with
    | some (some t) => if t.ow then .ok (.slot i) ρ else .ok (.tmp t) ρ
    | _ => .bad
  | _ => (f ρ).bind fun t ρ' => .ok (.tmp t) ρ'
/-- arguments and defaults -/
def fillT (f : FS) (ts : List T) : Option (List T) := if ts.length ≤ f.np ∧ f.np ≤ ts.length + f.dfl.length then some (ts ++ (f.dfl.drop (f.dfl.length - (f.np - ts.length))).map sh) else none
def callF (f : FS) (ts : List T) (ρ : Sl) : R T := if f.io then .bad else match fillT f ts with
  | some ts => (match f.sem ts with
    | .ret t _ => .ok t ρ
    | .exc x _ => .exc x ρ
    | .bad => .bad)
  | none => .bad
def callIO (f : FS) (o : Opd) (ts : List T) (ρ : Sl) : R T := if !f.io || !(ts.length + 1 == f.np) then .bad else match o with
  | .slot i => match ρ[i]? with
    | some (some t) => (match f.sem (t :: ts) with
      | .ret r out => .ok r (ρ.set i (some out))
      | .exc x out => .exc x (ρ.set i (some out))
      | .bad => .bad)
    | _ => .bad
  | .tmp t => (match f.sem (t :: ts) with
    | .ret r _ => .ok r ρ
    | .exc x _ => .exc x ρ
    | .bad => .bad)
def fnd (cs : List (Str × FS)) (c : Str) : Option FS := cs.lookup c
/-- an operand that is an instance, shared -/
def objO : Opd → Option (Str × D)
  | .tmp ⟨false, .obj c fs⟩ => some (c, .obj c fs)
  | _ => none
def shO : Opd → Option D
  | .tmp ⟨false, d⟩ => some d
  | _ => none
def opBin (op : Operator) (cs : List (Str × FS)) (x y : Opd) (ρ : Sl) : R T := match objO x with
  | some (c, dx) => match fnd cs c, objO y with
    | some f, some p => if decide (p.1 = c) then callF f [sh dx, sh p.2] ρ else .bad
    | _, _ => .bad
  | none => match drf x ρ, drf y ρ with
    | some a, some b => R.opt (binD op a b) ρ
    | _, _ => .bad
def boolT : T → Option T
  | ⟨_, .bl b⟩ => some (sh (.bl b))
  | _ => none
def notT : T → Option T
  | ⟨_, .bl b⟩ => some (sh (.bl (!b)))
  | _ => none
/-- x == y by x's own __eq__, x in y by y's own __contains__ -/
def opCmp (op : CmpOp) (cs : List (Str × FS)) (x y : Opd) (ρ : Sl) : R T := match op, objO x, objO y with
  | .Eq, some (c, dx), _ => (match fnd cs c, objO y with
    | some f, some p => if decide (p.1 = c) then (callF f [sh dx, sh p.2] ρ).bind fun t ρ' => R.opt (boolT t) ρ' else .bad
    | _, _ => .bad)
  | .NotEq, some (c, dx), _ => (match fnd cs c, objO y with
    | some f, some p => if decide (p.1 = c) then (callF f [sh dx, sh p.2] ρ).bind fun t ρ' => R.opt (notT t) ρ' else .bad
    | _, _ => .bad)
  | .In, _, some (c, dy) => (match fnd cs c, shO x with
    | some f, some dx => (callF f [sh dy, sh dx] ρ).bind fun t ρ' => R.opt (boolT t) ρ'
    | _, _ => .bad)
  | .NotIn, _, some (c, dy) => (match fnd cs c, shO x with
    | some f, some dx => (callF f [sh dy, sh dx] ρ).bind fun t ρ' => R.opt (notT t) ρ'
    | _, _ => .bad)
  | op, _, _ => (match drf x ρ, drf y ρ with
    | some a, some b => R.opt ((cmpD op a b).map fun r => sh (.bl r)) ρ
    | _, _ => .bad)
def opFld (cs : List Str) (f : Str) (x : Opd) (ρ : Sl) : R T := match drf x ρ with
  | some (.obj c fs) => if cs.contains c then R.opt ((fs.lookup f).map sh) ρ else .bad
  | _ => .bad
def drfs : List Opd → Sl → Option (List D)
  | [], _ => some []
  | o :: os, ρ => match drf o ρ, drfs os ρ with
    | some a, some b => some (a :: b)
    | _, _ => none
def truth : T → Option Bool
  | ⟨_, .bl b⟩ => some b
  | _ => none
def asInt : T → Option Int
  | ⟨_, .int b⟩ => some b
  | _ => none
def bindT (tg : Tg) (d : D) (ρ : Sl) : Option Sl := match tg, d with
  | .one i, d => some (ρ.set i (some (sh d)))
  | .many is, .tup ds => if is.length == ds.length then some ((is.zip ds).foldl (fun r p => r.set p.1 (some (sh p.2))) ρ) else none
  | .many is, .lst ds => if is.length == ds.length then some ((is.zip ds).foldl (fun r p => r.set p.1 (some (sh p.2))) ρ) else none
  | _, _ => none
def wipeS (ws : List Nat) (ρ : Sl) : Sl := ws.foldr (fun i r => r.set i none) ρ
def backS (ws : List Nat) (ρ ρ' : Sl) : Sl := ws.foldr (fun i r => r.set i (ρ[i]?.join)) ρ'
/-- nothing owned at these places -/
def freeS (ws : List Nat) (ρ : Sl) : Bool := ws.all fun i => match ρ[i]? with
  | some (some t) => !t.ow
  | some none => true
  | none => false
/-- the turns of a comprehension -/
def compL {α : Type} (f : D → Sl → R (Option α)) : List D → Sl → R (List α)
  | [], ρ => .ok [] ρ
  | x :: xs, ρ => (f x ρ).bind fun o ρ1 => (compL f xs ρ1).bind fun ys ρ2 => .ok (match o with
    | some y => y :: ys
    | none => ys) ρ2
def noX {α : Type} (r : R α) : R α := match r with
  | .exc _ _ => .bad
  | r => r
def pairsOf : List D → Option (List (Key × D))
  | [] => some []
  | k :: v :: r => match keyOf k, pairsOf r with
    | some a, some b => some ((a, v) :: b)
    | _, _ => none
  | _ => none
def putAll (kvs : List (Key × D)) : List (Key × D) := kvs.foldl (fun acc p => put acc p.1 p.2) []
def evKeys (t : Bool) (ds : List D) : Option D := match t with
  | false => if ds.length ≤ 30 then (pairsOf ds).map fun kvs => .dK (putAll kvs) else none
  | true => if ds.isEmpty then some (.dT []) else none
def strOf : D → Option Str
  | .str z => some z
  | .int i => if decide (i.natAbs.log2 < 1920) then some (toString i) else none
  | _ => none
def callIO2 (c : Str) (f : FS) (ts : List T) (ρ : Sl) : R T := if !f.io then .bad else match fillT f (own (.obj c []) :: ts) with
  | some ts => (match f.sem ts with
    | .ret ⟨false, .non⟩ out => .ok (sh out.d) ρ
    | .exc x _ => .exc x ρ
    | _ => .bad)
  | none => .bad
def bmKind : Bm → D → Bool
  | .get1, .dK _ | .get1, .dT _ | .get2, .dK _ | .get2, .dT _ => true
  | .index, .lst _ | .index, .tup _ => true
  | .upper, .str _ | .startswith, .str _ | .endswith, .str _ | .split, .str _ | .partition, .str _ | .removeprefix, .str _ => true
  | _, _ => false
def bmOs : Bm → List Opd → Bool
  | .get2, [_, .tmp _] => true
  | .get2, _ => false
  | _, _ => true
def ownL (ρ : Sl) (x : Nat) : Bool := match ρ[x]? with
  | some (some ⟨true, .lst _⟩) => true
  | _ => false
/-- the keys of an owned dict, which is shared from now on -/
def keysTake (x : Nat) (ρ : Sl) : R (List D) := match ρ[x]? with
  | some (some ⟨true, .dK kvs⟩) => .ok (kvs.map fun p => dkey p.1) (ρ.set x (some (sh (.dK kvs))))
  | _ => .bad
/-- keywords' values in the parameters' order -/
def permD {α : Type} : List Nat → List α → Option (List α)
  | [], _ => some []
  | i :: is, xs => match xs[i]?, permD is xs with
    | some a, some b => some (a :: b)
    | _, _ => none
mutual
def ev : ME → Sl → R T
  | .var i, ρ => match ρ[i]? with
    | some (some t) => .ok (sh t.d) (if t.ow then ρ.set i (some (sh t.d)) else ρ)
    | _ => .bad
  | .lit d, ρ => .ok (sh d) ρ
  | .glob _ d, ρ => .ok (sh d) ρ
  | .bin op cs a b, ρ => (opd a (ev a) ρ).bind fun x ρ1 => (opd b (ev b) ρ1).bind fun y ρ2 => opBin op cs x y ρ2
  | .neg a, ρ => (ev a ρ).bind fun x ρ1 => R.opt ((asInt x).map fun i => sh (.int (-i))) ρ1
  | .cmp op cs a b, ρ => (opd a (ev a) ρ).bind fun x ρ1 => (opd b (ev b) ρ1).bind fun y ρ2 => opCmp op cs x y ρ2
  | .cmp2 op1 op2 a b c, ρ => (opd a (ev a) ρ).bind fun x ρ1 => (opd b (ev b) ρ1).bind fun y ρ2 => (opCmp op1 [] x y ρ2).bind fun r ρ3 => match truth r with
    | some true => (opd c (ev c) ρ3).bind fun z ρ4 => opCmp op2 [] y z ρ4
    | some false => .ok (sh (.bl false)) ρ3
    | none => .bad
  | .and_ a b, ρ => (ev a ρ).bind fun x ρ1 => match truth x with
    | some true => (ev b ρ1).bind fun y ρ2 => R.opt ((truth y).map fun k => sh (.bl k)) ρ2
    | some false => .ok (sh (.bl false)) ρ1
    | none => .bad
  | .or_ a b, ρ => (ev a ρ).bind fun x ρ1 => match truth x with
    | some false => (ev b ρ1).bind fun y ρ2 => R.opt ((truth y).map fun k => sh (.bl k)) ρ2
    | some true => .ok (sh (.bl true)) ρ1
    | none => .bad
  | .not_ a, ρ => (ev a ρ).bind fun x ρ1 => R.opt ((truth x).map fun k => sh (.bl (!k))) ρ1
  | .ite c a b, ρ => (ev c ρ).bind fun x ρ1 => match truth x with
    | some true => ev a ρ1
    | some false => ev b ρ1
    | none => .bad
  | .tup es, ρ => (evs es ρ).bind fun ds ρ1 => if szOk ds.length then .ok (sh (.tup ds)) ρ1 else .bad
  | .lst es, ρ => (evs es ρ).bind fun ds ρ1 => if szOk ds.length then .ok (own (.lst ds)) ρ1 else .bad
  | .star _, _ => .bad
  | .srange _, _ => .bad
  | .dct t kvs, ρ => (evs kvs ρ).bind fun ds ρ1 => R.opt ((evKeys t ds).map own) ρ1
  | .sub a b, ρ => (opd a (ev a) ρ).bind fun x ρ1 => (opd b (ev b) ρ1).bind fun y ρ2 => match drf x ρ2, drf y ρ2 with
    | some d, some k => R.opt ((ixD d k).map sh) ρ2
    | _, _ => .bad
  | .slice a lo hi, ρ => (opd a (ev a) ρ).bind fun x ρ1 => (evI lo ρ1).bind fun l ρ2 => (evI hi ρ2).bind fun h ρ3 => match drf x ρ3 with
    | some d => R.opt (sliceD d l h) ρ3
    | none => .bad
  | .slice3 a lo hi st, ρ => (opd a (ev a) ρ).bind fun x ρ1 => (evI lo ρ1).bind fun l ρ2 => (evI hi ρ2).bind fun h ρ3 => (evI st ρ3).bind fun z ρ4 => match drf x ρ4 with
    | some d => R.opt (sliceD3 d l h z) ρ4
    | none => .bad
  | .fld a f cs, ρ => (opd a (ev a) ρ).bind fun x ρ1 => opFld cs f x ρ1
  | .call f args, ρ => if f.io then (match args with
      | [] => .bad
      | a :: as => (opd a (ev a) ρ).bind fun o ρ1 => (evs as ρ1).bind fun ds ρ2 => callIO f o (ds.map sh) ρ2)
    else (evs args ρ).bind fun ds ρ1 => callF f (ds.map sh) ρ1
  | .new c f args, ρ => (evs args ρ).bind fun ds ρ1 => (callIO2 c f (ds.map sh) ρ1)
  | .newK c f kn pm args, ρ => (evs args ρ).bind fun ds ρ1 => if ds.length == kn.length then (match permD pm ds with
    | some ds' => if ds'.length + 1 == f.np then callIO2 c f (ds'.map sh) ρ1 else .bad
    | none => .bad) else .bad
  | .join o l, ρ => (opd o (ev o) ρ).bind fun x ρ1 => match x with
    | .tmp ⟨_, .str z⟩ => (opd l (ev l) ρ1).bind fun y ρ2 => (match drf y ρ2 with
      | some d => R.opt (biD .join [.str z, d]) ρ2
      | none => .bad)
    | _ => .bad
  | .meth cs o args, ρ => (opd o (ev o) ρ).bind fun x ρ1 => (evs args ρ1).bind fun ds ρ2 => match drf x ρ2 with
    | some (.obj c fs) => match fnd cs c, shO x with
      | some f, some dx => if (fs.lookup f.name).isSome then .bad else callF f ((dx :: ds).map sh) ρ2
      | _, _ => .bad
    | _ => .bad
  | .methW cs kn pm o args, ρ => (opd o (ev o) ρ).bind fun x ρ1 => (evs args ρ1).bind fun ds ρ2 => if ds.length == kn.length then (match permD pm ds with
    | some ds' => (match drf x ρ2 with
      | some (.obj c fs) => match fnd cs c, shO x with
        | some f, some dx => if (fs.lookup f.name).isSome then .bad else if ds'.length + 1 == f.np then callF f ((dx :: ds').map sh) ρ2 else .bad
        | _, _ => .bad
      | _ => .bad)
    | none => .bad) else .bad
  | .bi b args, ρ => (evos args ρ).bind fun os ρ1 => match drfs os ρ1 with
    | some ds => R.opt (biD b ds) ρ1
    | none => .bad
  | .bm m o args, ρ => (opd o (ev o) ρ).bind fun x ρ1 => if ((drf x ρ1).map (bmKind m)).getD false then (evos args ρ1).bind fun os ρ2 => (match drf x ρ2, drfs os ρ2, bmOs m os with
    | some d, some ds, true => R.opt (bmD m d ds) ρ2
    | _, _, _ => .bad) else .bad
  | .mt m x args, ρ => if ownL ρ x then (evs args ρ).bind fun ds ρ1 => (match ρ1[x]? with
    | some (some ⟨true, .lst xs⟩) => (match mtD m xs ds with
      | some (ys, r) => .ok (sh r) (ρ1.set x (some (own (.lst ys))))
      | none => .bad)
    | _ => .bad) else .bad
  | .comp tg k it cond elt ws, ρ => (evs it ρ).bind fun ds ρ1 => match walkD k ds with
    | some xs => if freeS ws ρ1 then (noX (compL (fun d r => match bindT tg d (wipeS ws r) with
        | some r1 => (evC cond r1).bind fun b r2 => if b then (ev elt r2).bind fun t r3 => .ok (some t.d) r3 else .ok none r2
        | none => .bad) xs (wipeS ws ρ1))).bind fun ys ρ2 => if szOk xs.length then .ok (own (.lst ys)) (backS ws ρ1 ρ2) else .bad
      else .bad
    | none => .bad
  | .compK tg x cond elt ws, ρ => (keysTake x ρ).bind fun xs ρ1 => if freeS ws ρ1 then (noX (compL (fun d r => match bindT tg d (wipeS ws r) with
        | some r1 => (evC cond r1).bind fun b r2 => if b then (ev elt r2).bind fun t r3 => .ok (some t.d) r3 else .ok none r2
        | none => .bad) xs (wipeS ws ρ1))).bind fun ys ρ2 => if szOk xs.length then .ok (own (.lst ys)) (backS ws ρ1 ρ2) else .bad
      else .bad
  | .dcomp tg k it kx vx ws, ρ => (evs it ρ).bind fun ds ρ1 => match walkD k ds with
    | some xs => if freeS ws ρ1 then (noX (compL (fun d r => match bindT tg d (wipeS ws r) with
        | some r1 => (ev kx r1).bind fun a r2 => (ev vx r2).bind fun b r3 => R.opt ((keyOf a.d).map fun x => some (x, b.d)) r3
        | none => .bad) xs (wipeS ws ρ1))).bind fun ys ρ2 => if szOk xs.length then .ok (own (.dK (putAll ys))) (backS ws ρ1 ρ2) else .bad
      else .bad
    | none => .bad
  | .fstr ps, ρ => (evos ps ρ).bind fun os ρ1 => match drfs os ρ1 with
    | some ds => match ds.mapM strOf with
      | some ss => if szOk (ss.map (·.length)).sum then .ok (sh (.str (Txt.join ⟨#[]⟩ ss))) ρ1 else .bad
      | none => .bad
    | none => .bad
def evI : Option ME → Sl → R (Option Int)
  | none, ρ => .ok none ρ
  | some e, ρ => (ev e ρ).bind fun t ρ1 => R.opt ((asInt t).map some) ρ1
def evC : Option ME → Sl → R Bool
  | none, ρ => .ok true ρ
  | some e, ρ => (ev e ρ).bind fun t ρ1 => R.opt (truth t) ρ1
def evs : List ME → Sl → R (List D)
  | [], ρ => .ok [] ρ
  | .star e :: es, ρ => (opd e (ev e) ρ).bind fun x ρ1 => match (drf x ρ1).bind items with
    | some xs => (evs es ρ1).bind fun ys ρ2 => .ok (xs ++ ys) ρ2
    | none => .bad
  | .srange as :: es, ρ => (evs as ρ).bind fun ds ρ1 => match walkD .range ds with
    | some xs => (evs es ρ1).bind fun ys ρ2 => .ok (xs ++ ys) ρ2
    | none => .bad
  | e :: es, ρ => (ev e ρ).bind fun t ρ1 => (evs es ρ1).bind fun ys ρ2 => .ok (t.d :: ys) ρ2
def evos : List ME → Sl → R (List Opd)
  | [], ρ => .ok [] ρ
  | e :: es, ρ => (opd e (ev e) ρ).bind fun x ρ1 => (evos es ρ1).bind fun ys ρ2 => .ok (x :: ys) ρ2
end

/-! ### statements -/
inductive Fl where
  | next | ret (t : T) | brk | cont
inductive LF where
  | done | brk | ret (t : T)
def forL (bind : D → Sl → Option Sl) (body : Sl → R Fl) : List D → Sl → R LF
  | [], ρ => .ok .done ρ
  | x :: xs, ρ => match bind x ρ with
    | some ρ1 => (body ρ1).bind fun f ρ2 => match f with
      | .next => forL bind body xs ρ2
      | .cont => forL bind body xs ρ2
      | .brk => .ok .brk ρ2
      | .ret t => .ok (.ret t) ρ2
    | none => .bad
def whileL (c : Sl → R T) (body : Sl → R Fl) : Nat → Sl → R LF
  | 0, _ => .bad
  | n + 1, ρ => (c ρ).bind fun b ρ1 => match truth b with
    | some true => (body ρ1).bind fun f ρ2 => match f with
      | .next => whileL c body n ρ2
      | .cont => whileL c body n ρ2
      | .brk => .ok .brk ρ2
      | .ret t => .ok (.ret t) ρ2
    | some false => .ok .done ρ1
    | none => .bad
/-- a returned name hands its object on -/
def evRet (e : ME) (ρ : Sl) : R T := match e with
  | .var i => match ρ[i]? with
    | some (some t) => .ok t (ρ.set i none)
    | _ => .bad
  | e => ev e ρ
def evTs : List ME → Sl → R (List T)
  | [], ρ => .ok [] ρ
  | e :: es, ρ => (ev e ρ).bind fun t ρ1 => (evTs es ρ1).bind fun ts ρ2 => .ok (t :: ts) ρ2
def setAll (is : List Nat) (ts : List T) (ρ : Sl) : Sl := (is.zip ts).foldl (fun r p => r.set p.1 (some p.2)) ρ
def setIxT (t : T) (k v : D) : Option T := match t, k with
  | ⟨true, .lst xs⟩, .int i => (ixN xs.length i).map fun j => own (.lst (xs.set j v))
  | ⟨true, .dK kvs⟩, k => if szOk kvs.length then (keyOf k).map fun x => own (.dK (put kvs x v)) else none
  | ⟨true, .dT kvs⟩, .tup ks => if szOk kvs.length && decide (ks.length = 2) then (keysOf ks).map fun x => own (.dT (put kvs x v)) else none
  | _, _ => none
def putFD (f : Str) (v : D) : List (Str × D) → List (Str × D)
  | [] => [(f, v)]
  | (g, x) :: r => if g = f then (g, v) :: r else (g, x) :: putFD f v r
def setFldT (cs : List Str) (t : T) (f : Str) (v : D) : Option T := match t with
  | ⟨true, .obj c fs⟩ => if decide (fs.length < 1000) && cs.contains c then some (own (.obj c (putFD f v fs))) else none
  | _ => none
def someAt (ρ : Sl) (x : Nat) : Bool := match ρ[x]? with
  | some (some _) => true
  | _ => false
mutual
def exec : MS → Sl → R Fl
  | .set i e, ρ => (ev e ρ).bind fun t ρ1 => .ok .next (ρ1.set i (some t))
  | .tupset is e, ρ => (ev e ρ).bind fun t ρ1 => match bindT (.many is) t.d ρ1 with
    | some ρ2 => .ok .next ρ2
    | none => .bad
  | .par is es, ρ => (evTs es ρ).bind fun ts ρ1 => if is.length == ts.length then .ok .next (setAll is ts ρ1) else .bad
  | .setIx x k e, ρ => (ev e ρ).bind fun v ρ1 => if someAt ρ1 x then (ev k ρ1).bind fun i ρ2 => (match ρ2[x]? with
    | some (some t) => (match setIxT t i.d v.d with
      | some t' => .ok .next (ρ2.set x (some t'))
      | none => .bad)
    | _ => .bad) else .bad
  | .setFld x f cs e, ρ => (ev e ρ).bind fun v ρ1 => match ρ1[x]? with
    | some (some t) => (match setFldT cs t f v.d with
      | some t' => .ok .next (ρ1.set x (some t'))
      | none => .bad)
    | _ => .bad
  | .expr e, ρ => (ev e ρ).bind fun _ ρ1 => .ok .next ρ1
  | .ret e, ρ => (evRet e ρ).bind fun t ρ1 => .ok (.ret t) ρ1
  | .retN, ρ => .ok (.ret (sh .non)) ρ
  | .ite c t e, ρ => (ev c ρ).bind fun b ρ1 => match truth b with
    | some true => execs t ρ1
    | some false => execs e ρ1
    | none => .bad
  | .for_ tg k it body orelse, ρ => (evs it ρ).bind fun ds ρ1 => match walkD k ds with
    | some xs => (forL (bindT tg) (execs body) xs ρ1).bind fun l ρ2 => match l with
      | .done => execs orelse ρ2
      | .brk => .ok .next ρ2
      | .ret t => .ok (.ret t) ρ2
    | none => .bad
  | .while_ n c body, ρ => (whileL (ev c) (execs body) n ρ).bind fun l ρ2 => match l with
    | .done => .ok .next ρ2
    | .brk => .ok .next ρ2
    | .ret t => .ok (.ret t) ρ2
  | .brk, ρ => .ok .brk ρ
  | .cont, ρ => .ok .cont ρ
  | .pass, ρ => .ok .next ρ
  | .raise c f e, ρ => (ev e ρ).bind fun t ρ1 => .exc ⟨c, match f with
    | some n => [(n, t.d)]
    | none => []⟩ ρ1
def execs : List MS → Sl → R Fl
  | [], ρ => .ok .next ρ
  | s :: ss, ρ => (exec s ρ).bind fun f ρ1 => match f with
    | .next => execs ss ρ1
    | .ret t => .ok (.ret t) ρ1
    | .brk => .ok .brk ρ1
    | .cont => .ok .cont ρ1
end
/-- a def: n slots, its body -/
def outOf (io : Bool) (ρ : Sl) : Option T := if io then ρ[0]?.join else some (sh .non)
@[irreducible] def runD (io : Bool) (n : Nat) (body : List MS) (ts : List T) : FR := match execs body (ts.map some ++ List.replicate (n - ts.length) none) with
  | .ok f ρ => match f, outOf io ρ with
    | .ret t, some o => .ret t o
    | .next, some o => .ret (sh .non) o
    | _, _ => .bad
  | .exc x ρ => match outOf io ρ with
    | some o => .exc x o
    | none => .bad
  | .bad => .bad
def FS.of (name : Str) (io : Bool) (np n : Nat) (body : List MS) (dfl : List D := []) : FS := ⟨name, io, np, dfl, runD io n body⟩
end Mi

set_option Elab.async false
set_option linter.all false
set_option maxRecDepth 100000
/-! MSet: set(t), t a tuple of a few texts; how many are in it. -/
namespace Mi
open PySem PySem.Spec PyProof.Rows L2
theorem cntTo_le (xs : List Str) : ∀ i, cntTo xs i ≤ i
  | 0 => Nat.le_refl _
  | i + 1 => by
    have := cntTo_le xs i
    unfold cntTo
    split <;> omega
section
variable {prog : Program} {w : World} {A : Around} {R : Result → Shared → Prop} {I : Addr} {fp wr : List Addr} {G : Array GenState → Array GenState → Prop} {n : Nat} {P : Nat → Value → Prop} {St : Nat → Shared → Prop}
/-- the set holds the first i of them -/
abbrev HoldsTo (prog : Program) (w : World) (h : Heap) (S : Addr) (xs : List Str) (i : Nat) : Prop := h.SetOf (PySem.strKind prog w) S (fun k' => (xs.take i).any (· == k')) (cntTo xs i)
theorem take_any {xs : List Str} {i : Nat} (hi : i < xs.length) (k' : Str) : ((xs.take i).any (· == k') || decide (k' = xs.getD i Str.empty)) = (xs.take (i + 1)).any (· == k') := by
  have e : xs.getD i Str.empty = xs[i] := by simp [List.getD, hi]
  rw [List.take_add_one, List.getElem?_eq_getElem hi, List.any_append, e]
  congr 1
  simp only [Option.toList_some, List.any_cons, List.any_nil, Bool.or_false]
  by_cases q : k' = xs[i]
  · simp [q]
  · have : (xs[i] == k') = false := beq_eq_false_iff_ne.mpr fun z => q z.symm
    simp [q, this]
theorem set_fill (W : WalksS prog w A.in1 I fp wr G n P St) (S : Addr) (hSf : S ∉ fp) (xs : List Str) (hsz : xs.length = n) (hn1 : n ≤ 20)
    (hval : ∀ i v, P i v → ∃ t, v = .str (xs.getD i Str.empty) t) :
    ∀ (k i : Nat) (s : Shared), n - i = k → i ≤ n → St i s → HoldsTo prog w s.heap S xs i →
      (∀ s', Moved (S :: wr) G s s' → HoldsTo prog w s'.heap S xs n → R (.ok (.ret .none)) s') →
      codeAny (model prog w) A (.builtin "set.update.loop" ⟨[.ref S, .ref I], []⟩) R s := by
  have hSw : S ∉ wr := fun h => hSf (W.sub _ h)
  have up : ∀ b ∈ wr, b ∈ S :: wr := fun b hb => List.mem_cons_of_mem _ hb
  have still : ∀ {s s' : Shared} {i : Nat}, Moved wr G s s' → HoldsTo prog w s.heap S xs i → HoldsTo prog w s'.heap S xs i := fun hm hS => by
    obtain ⟨o, es, ep, t, ho, rest⟩ := hS
    exact ⟨o, es, ep, t, hm.heap S _ hSw ho, rest⟩
  intro k
  induction k with
  | zero =>
    intro i s hk hi hst hS hR
    obtain rfl : i = n := by omega
    refine codeAny_builtin PyProof.Rows.F.entry_set_update_loop ?_
    rw [Around.under_plainId PyProof.Rows.F.plain_set_update_loop _]
    show wpAny _ A.in1 (pyNext (.ref I) >>= _) _ _ s
    refine wpAny_bind (W.done s _ _ hst fun s' hm => ?_)
    show wpAny _ A.in1 (ret Value.none) _ _ s'
    exact wpAny_pure (hR s' (hm.mono up) (still hm hS))
  | succ k ih =>
    intro i s hk hi hst hS hR
    have hlt : i < n := by omega
    refine codeAny_builtin PyProof.Rows.F.entry_set_update_loop ?_
    rw [Around.under_plainId PyProof.Rows.F.plain_set_update_loop _]
    show wpAny _ A.in1 (pyNext (.ref I) >>= _) _ _ s
    refine wpAny_bind (W.item i s _ _ hlt hst fun v s' hP hst' hm => ?_)
    obtain ⟨t, rfl⟩ := hval i v hP
    show wpAny _ A.in1 (holding [Value.str (xs.getD i Str.empty) t] (setAdd S (.str (xs.getD i Str.empty) t)) >>= _) _ _ s'
    refine wpAny_bind (wpAny_holding ?_)
    unfold setAdd
    refine wpAny_holding ?_
    refine wpAny_bind ((PySem.strKind prog w).pyHash (k := xs.getD i Str.empty) (strKind_is _ _ _ _) ?_)
    have hc := cntTo_le xs i
    refine wpAny_setAddHashed_of (knd := PySem.strKind prog w) (s := { s' with toks := s'.toks + 1 }) (strKind_is _ _ _ _) rfl (show HoldsTo prog w s'.heap S xs i from still hm hS) (by unfold scanBound; omega) fun h' hsb hS2 => ?_
    have hS3 : HoldsTo prog w h' S xs (i + 1) := SetOf_congr hS2 (fun k' => take_any (by omega) k') rfl
    refine wpAny_pure ⟨plainId_quiet PyProof.Rows.F.plain_set_update_loop _, ih (i + 1) _ (by omega) hlt (W.frame _ s' _ _ hst' (Nat.le_succ _) fun b hb o e => ?_) hS3 fun s'' hm'' hS'' => ?_⟩
    · rw [hsb.2 b (fun h : b = S => hSf (by rw [← h]; exact hb))]; exact e
    · refine hR s'' (Moved.trans W.gtrans ((hm.mono up).then_heap (Nat.le_succ _) fun b o hb e => ?_) hm'') hS''
      rw [hsb.2 b (fun h : b = S => hb (by rw [h]; exact List.mem_cons_self))]; exact e
end
section
variable {prog : Program} {w : World} {A : Around} {E : Value → Shared → Prop} {s : Shared}
/-- a new set's object -/
abbrev newSet (led : Bool) : Obj := { cls := .type "set", dict := none, data := .set #[] 0 (.fresh 0 0 led) }
set_option maxHeartbeats 3200000 in
theorem call_setT {l : Addr} {items : Array Value} {xs : List Str} {Q : Value → Shared → Prop}
    (hh : A.handled = none) (hl : s.heap.IsTuple l items) (hi : PyProof.Rows.StrsAre items.toList xs) (hn1 : xs.length ≤ 20)
    (h : ∀ (h' : Heap) (tk : Nat), HoldsTo prog w h' s.heap.objs.size xs xs.length → (∀ b o, b < s.heap.objs.size → s.heap.get? b = some o → h'.get? b = some o) → Q (.ref s.heap.objs.size) { s with heap := h', toks := tk }) :
    wpAny (model prog w) A (call (.type "set") [.ref l]) Q E s := by
  have hsz : xs.length = items.size := by rw [← StrsAre.len_eq hi, Array.length_toList]
  obtain ⟨c, tl, hmro⟩ := PySem.F.called_set.mro
  have hmade := PySem.F.called_set.made
  have hsub := PySem.F.called_set.sub
  refine wpAny_call (codeAny_of_tree ?_)
  show wpAny _ _ (callAny (.type "set") _) _ _ _
  refine wpAny_pure ⟨Code.quiet_builtin _ (by decide +kernel), codeAny_builtin PySem.F.entry_type_call ?_⟩
  rw [Around.under_plain (weight_type_call_type "set" [.ref l] []) rfl]
  have h1 := PySem.F.called_set.notType
  have h2 := PySem.F.called_set.canCreate
  have hct := PySem.F.typeCall_set_1 (.ref l)
  repeat (any_goals (first | assumption | wp_step))
  refine codeAny_mono (code_set_new_1 (.ref l) (E := E) (Q₁ := fun obj s₁ => ∃ led : Bool, obj = .ref s.heap.objs.size ∧ s₁ = { s with heap := s.heap.push (newSet led) }) fun led => ⟨led, rfl, rfl⟩) fun r s₁ hr => ?_
  cases r with
  | error e => exact hr
  | ok fl =>
    cases fl with
    | ret obj =>
      obtain ⟨led, rfl, rfl⟩ := hr
      have hS : (s.heap.push (newSet led)).get? s.heap.objs.size = some (newSet led) := Heap.get?_push_size _ rfl
      have hT : Shared.TypeIs { s with heap := s.heap.push (newSet led) } (.ref s.heap.objs.size) "set" := ⟨_, hS, rfl⟩
      have hli := PySem.F.called_set.init.lookup
      have hbi := PySem.F.called_set.init.bind (.ref s.heap.objs.size)
      repeat (any_goals (first | assumption | wp_step))
      refine codeAny_mono (codeAny_call_builtin (R := wants (fun r s₂ => r = .none ∧ ∃ h' tk, s₂ = { s with heap := h', toks := tk } ∧ HoldsTo prog w h' s.heap.objs.size xs xs.length ∧
          (∀ b o, b < s.heap.objs.size → s.heap.get? b = some o → h'.get? b = some o)) E) PySem.F.called_set.init.plain PySem.F.entry_set_init (check_set_init_1 hT ?_)) fun r₂ s₂ hr₂ => ?_
      · obtain ⟨ol, hol, hcl, nl, hdl⟩ := hl
        obtain ⟨ocls, odict, odata, oslots⟩ := ol
        simp only at hcl hdl
        subst hcl; subst hdl
        have hol' : (s.heap.push (newSet led)).get? l = some { cls := .type "tuple", dict := odict, data := .seq items nl, slots := oslots } := Heap.get?_push_of_some _ hol
        have hsls := PySem.F.sub_tuple_set
        have hslf := PySem.F.sub_tuple_frozenset
        have hne : (Value.type "tuple" == Value.type "dict") = false := by decide
        have hl1 : (s.heap.push (newSet led)).IsTuple l items := ⟨_, hol', rfl, nl, rfl⟩
        unfold Builtin.«set.__init__» noKeywords Builtin.Frozenset.updateFrom
        generalize hPI : pyIter = PI
        wp_walk
        subst hPI
        refine wpAny_pyIter_tuple hl1 ?_
        refine wpAny_bind (wpAny_runValue ?_)
        have hlS : l < s.heap.objs.size := Heap.lt_size hol
        have hh3 : A.in1.in1.in1.handled = none := by simp [hh]
        have hp : (s.heap.push (newSet led)).objs.size = s.heap.objs.size + 1 := Heap.size_push ..
        have hneI : l ≠ (s.heap.push (newSet led)).objs.size := by rw [hp]; exact Nat.ne_of_lt (Nat.lt_succ_of_lt hlS)
        have hSf : s.heap.objs.size ∉ [(s.heap.push (newSet led)).objs.size, l] := by
          rw [hp]
          simp only [List.mem_cons, List.mem_singleton, List.not_mem_nil, or_false, not_or]
          exact ⟨Nat.ne_of_lt (Nat.lt_succ_self _), Nat.ne_of_gt hlS⟩
        have hval : ∀ (i : Nat) (v : Value), items[i]? = some v → ∃ t, v = .str (xs.getD i Str.empty) t := fun i v hv => SS.strs_at hi i v (by rw [Array.getElem?_toList]; exact hv)
        refine set_fill ((Walks.tuple hh3 _ l hneI items).toS) s.heap.objs.size hSf xs hsz (by omega) hval (items.size - 0) 0 _ (by omega) (Nat.zero_le _)
          ⟨⟨_, Heap.get?_push_size _ rfl, rfl, rfl⟩, (hl1.push _)⟩ ?hS0 ?hR
        case hS0 =>
          have hget : ((s.heap.push (newSet led)).push { cls := .type "tuple_iterator", data := .fields #[.ref l, .int 0 0] }).get? s.heap.objs.size = some (newSet led) := Heap.get?_push_of_some _ hS
          exact PyProof.Rows.SetOf_congr ((PyProof.Rows.setObjOf_fresh (knd := PySem.strKind prog w) led).setOf hget (by unfold scanBound; omega)) (fun _ => rfl) rfl
        case hR =>
          intro s' hm hS'
          obtain ⟨h', g', d', tk', os'⟩ := s'
          have eg : g' = s.gens := hm.gens
          have ed : d' = s.drawn := hm.drawn
          have eo : os' = s.os := hm.os
          subst eg; subst ed; subst eo
          show wpAny _ _ _ _ _ _
          refine wpAny_pure ?_
          show wpAny _ _ (ret Value.none) _ _ _
          rw [← hsz] at hS'
          refine wpAny_pure ⟨rfl, h', tk', rfl, hS', fun b o hb e => ?_⟩
          exact hm.heap b o (by rw [hp]; simp only [List.mem_cons, List.mem_singleton, List.not_mem_nil, or_false, not_or]; exact ⟨Nat.ne_of_lt hb, Nat.ne_of_lt (Nat.lt_succ_of_lt hb)⟩) (Heap.get?_push_of_some _ (Heap.get?_push_of_some _ e))
      · cases r₂ with
        | error e => exact hr₂
        | ok fl₂ =>
          cases fl₂ with
          | ret r =>
            obtain ⟨rfl, h', tk, rfl, hS', hk'⟩ := hr₂
            repeat (any_goals (first | assumption | wp_step))
            exact h _ _ hS' hk'
          | _ => exact hr₂.elim
    | _ => exact hr.elim
/-- len(set(t)) -/
theorem pe_lenSetT {X : Cx} {a : Expr} {ta : TA} {p p2 q pos : Pos} (hc : X.calm = true) (hg : Gl X "len") (hm : X.mg "len" = none) (hg2 : Gl X "set") (hm2 : X.mg "set" = none) (ha : PA X [a] ta)
    (na : starEach [a] X.env = (false, eval a X.env) :: starEach [] X.env) : PE X (.Call (.Name "len" p) [.Call (.Name "set" p2) [a] [] q] [] pos)
      (fun σ H Q => ta σ H fun vs H1 => ∃ l, ∃ xs : List Str, vs = [.ref l] ∧ SqT X.K H1 l (xs.map V.str) ∧ xs.length ≤ 20 ∧ Q (.int (cntTo xs xs.length)) H1) := by
  refine ⟨fun pins s σ H Q I h => ?_⟩
  refine Call_ (ld_blt I hg hm boot_len ?_)
  refine PyProof.Rows.callWith_builtin1 (PyProof.Rows.args_cons ?_ rfl) rfl rfl
  refine Call_ (ld_blt I hg2 hm2 boot_set ?_)
  refine PyProof.Rows.callWith_type1 (thn (ha.run q pins s σ H _ I h) fun us s1 ⟨vs, H1, I1, r1, q1⟩ => ?_) na rfl
  obtain ⟨l, xs, rfl, hq, h1, q1⟩ := q1
  obtain ⟨u, rfl, r2⟩ := vals1 r1
  obtain rfl : u = Value.ref l := r2
  obtain ⟨its, r, pl, hz⟩ := I1.tuple hq
  refine call_setT (I1.ok.hd hc) pl (by simpa using strsAre_of r) h1 fun h' tk hS hk => ?_
  refine PyProof.Rows.args_nil ?_
  obtain ⟨o, es, ep, t, ho, hex, hd, _, _, _, hf, hn⟩ := hS
  have I2 : Inv X pins σ H1 { s1 with heap := h', toks := tk } := I1.kept fun b o e => hk b o (Heap.lt_size e) e
  have hcl := cntTo_le xs xs.length
  refine call_len_set ho hex hd hf (by rw [hn]; omega) ⟨.int (cntTo xs xs.length), H1, I2.tok _, ⟨_, by rw [hn]⟩, q1⟩
end
end Mi

set_option Elab.async false
set_option linter.all false
set_option maxRecDepth 100000
set_option maxHeartbeats 1000000
/-! M2q: != of an instance by its own __eq__. -/
namespace PySem.W
open PySem PySem.Calls PyProof.Rows Builtin
section
variable {prog : Program} {w : World} {A : Around} {E : Value → Shared → Prop} {s : Shared} {K : Frag} {x y C L f : Addr} {h₀ : Heap} {m : Str → Option Value} {ox oy : Obj} {od od' : Option Obj}
theorem objNe_K {b : Value} (hu : A.units < cLine) (X : K.In s.heap) (I : InstAt s.heap x ox C od) (hs : findIn K (.ref C) "__eq__" = some (some (.ref f))) (hf : isFn K (.ref f) = true) {Q : Fin → Shared → Prop}
    (h : wpAny (model prog w) A (call (.ref f) [.ref x, b]) (fun v s' => ∃ k, v = .bool k ∧ Q (.done (.ret (.bool (!k)))) s') E s) : wpAny (model prog w) A (Builtin.«object.__ne__» ⟨[.ref x, b], []⟩) Q E s := by
  unfold Builtin.«object.__ne__»
  repeat (first
    | with_reducible refine wpAny_cRoomFor hu ?_
    | (refine wpAny_bind (m := callSpecialIfBound? (.ref x) (Str.ofString "__eq__") [b]) (ifBound_K X I hs hf (wpAny_mono h (fun r s' hr => by
          obtain ⟨k, rfl, hq⟩ := hr
          repeat (first | exact hq | exact wpAny_pure hq | exact wpAny_truthy_bool hq | (refine wpAny_bind (m := truthy (.bool _)) (wpAny_truthy_bool ?_)) | wp_step)) fun _ _ e => e)))
    | wp_step)
theorem checkNe_K {b : Value} {Q : Unit → Shared → Prop} (X : K.In s.heap) (I : InstAt s.heap x ox C od) (ho : subIn K (.ref C) (.type "object") = some true) (hq : Q () s) :
    wpAny (model prog w) A (checkBuiltinCall "object.__ne__" ⟨[.ref x, b], []⟩) Q E s := by
  simp only [checkBuiltinCall, PySem.F.cmpKind_ne, PySem.F.cmpSplit_ne]
  refine wpAny_bind ?_
  · unfold isInstance
    refine wpAny_bind (m := typeOf (.ref x)) (I.type.here ?_)
    refine (looks_subIn X ho).here ?_
    rw [if_neg (by simp)]
    have ha := PySem.F.cmpArgs_ne (.ref x) b
    cases hsig : Manifest.signature? "object.__ne__" with
    | none => exact wpAny_pure hq
    | some sig =>
      simp only [argsOk, hsig] at ha
      have h2 : Bind.checkArgs "object.__ne__" sig ⟨[.ref x, b], []⟩ = pure () := ha
      show wpAny (model prog w) A (Bind.checkArgs "object.__ne__" sig ⟨[.ref x, b], []⟩) Q E _
      rw [h2]
      exact wpAny_pure hq
theorem ne_K {b : Value} {tb : Value} {Q : Value → Shared → Prop} (hu : A.units + 1 < cLine) (F : Fr h₀ L s.heap m) (X₀ : K.In h₀) (I : InstAt s.heap x ox C od) (hb : Looks (model prog w) s.heap (typeOf b) tb) (hn : notFirst K C tb = true)
    (hne : findIn K (.ref C) "__ne__" = some (some (.builtin "object.__ne__"))) (hs : findIn K (.ref C) "__eq__" = some (some (.ref f))) (hf : isFn K (.ref f) = true) (ho : subIn K (.ref C) (.type "object") = some true)
    (h : wpAny (model prog w) A.in1 (call (.ref f) [.ref x, b]) (fun v s' => ∃ k, v = .bool k ∧ Q (.bool (!k)) s') E s) : wpAny (model prog w) A (richCompare .NotEq (.ref x) b) Q E s := by
  have X := X₀.keeps F.keep
  have one : wpAny (model prog w) A (tryCompare (.ref x) "__ne__" b) (fun r s' => ∃ v, r = some v ∧ Q v s') E s := by
    unfold tryCompare
    refine wpAny_bind ?_
    have hcall : wpAny (model prog w) A (call (.builtin "object.__ne__") [.ref x, b]) (fun v s' => ∃ k, v = .bool k ∧ Q (.bool k) s') E s := by
      refine wpAny_call (codeAny_call_builtin PySem.F.cmp_object.ne.plain PySem.F.cmpEntry_ne (checkNe_K X I ho (objNe_K (A := A.in1) (Nat.lt_of_lt_of_le hu (Nat.le_refl _)) X I hs hf (wpAny_mono h (fun v s' hv => ?_) fun _ _ e => e))))
      obtain ⟨k, rfl, hq⟩ := hv
      exact ⟨k, rfl, _, rfl, hq⟩
    simp only [callSpecialIfBound?, bindSpecialIfBound?]
    refine wpAny_holding (wpAny_bind (wpAny_bind (wpAny_bind (I.type.here ((looks_findIn X hne).here ?_)))))
    simp only [PySem.F.cmp_object.ne.bind]
    refine wpAny_bind (wpAny_askSetting (wpAny_ite ?_))
    have fin : wpAny (model prog w) A (call (.builtin "object.__ne__") ([.ref x] ++ [b]) >>= fun v => pure (some v)) (fun a s' => wpAny (model prog w) A (match a with
        | some Value.notImplemented => pure none
        | none => pure none
        | some z => pure (some z)) (fun r s' => ∃ v, r = some v ∧ Q v s') E s') E s :=
      wpAny_bind (wpAny_mono hcall (fun v s' ⟨k, e, q⟩ => by subst e; exact wpAny_pure (wpAny_pure ⟨_, rfl, q⟩)) fun _ _ h' => h')
    split
    · exact wpAny_bind (wpAny_pure (wpAny_pure fin))
    · exact wpAny_tryCatch (wpAny_bind (wpAny_pure (wpAny_pure fin)))
  unfold richCompare
  simp only [oneThing_ref]
  refine wpAny_holding (wpAny_bind (wpAny_cRoomFor (Nat.lt_of_succ_lt hu) ?_))
  refine wpAny_bind (I.type.here (wpAny_bind (hb.here ?_)))
  split
  · rename_i q
    have e : subIn K tb (.ref C) = some false := by
      rcases Bool.or_eq_true_iff.mp hn with e | e
      · rw [beq_iff_eq.mp e] at q; simp at q
      · exact beq_iff_eq.mp e
    refine wpAny_bind ((looks_subIn X e).here ?_)
    simp only [Bool.false_eq_true, if_false]
    refine wpAny_bind (wpAny_mono one (fun r s' z => ?_) fun _ _ e => e)
    obtain ⟨v, rfl, hq⟩ := z
    exact wpAny_pure hq
  · refine wpAny_bind (wpAny_pure ?_)
    simp only [Bool.false_eq_true, if_false]
    refine wpAny_bind (wpAny_mono one (fun r s' z => ?_) fun _ _ e => e)
    obtain ⟨v, rfl, hq⟩ := z
    exact wpAny_pure hq
end
end PySem.W

set_option Elab.async false
set_option linter.all false
set_option maxRecDepth 100000
set_option maxHeartbeats 2000000
/-! M2v: dicts compared whose keys are tuples and whose values are ints. -/
namespace PySem.W
open PySem PySem.Calls PyProof.Rows Builtin
section
variable {prog : Program} {w : World} {K : Type} [DecidableEq K] {knd : HeapKind prog w K} {A : Around} {E : Value → Shared → Prop} {s : Shared}
/-- whether an entry is in the other dict, too -/
def okx (ys : List (K × Addr × Value)) (x : K × Addr × Value) : Bool := match atKey ys x.1, x.2.2 with
  | some (_, .int j _), .int i _ => decide (i = j)
  | _, _ => false
theorem at_none {ys : List (K × Addr × Value)} {k : K} (h : ∀ (j : Nat) (p : Addr × Value), ys[j]? ≠ some (k, p)) : atKey ys k = none := by
  simp only [atKey, Option.map_eq_none_iff, List.find?_eq_none, decide_eq_true_eq]
  intro x hx e
  obtain ⟨j, hj⟩ := List.getElem?_of_mem hx
  exact h j x.2 (by rw [hj, ← e])
theorem at_some {ys : List (K × Addr × Value)} (hn : (ys.map (·.1)).Nodup) {k : K} {j : Nat} {p : Addr × Value} (h : ys[j]? = some (k, p)) : atKey ys k = some p := by
  induction ys generalizing j with
  | nil => simp at h
  | cons y ys ih =>
    rw [List.map_cons, List.nodup_cons] at hn
    cases j with
    | zero =>
      simp only [List.getElem?_cons_zero, Option.some.injEq] at h
      subst h
      simp [atKey]
    | succ j =>
      rw [List.getElem?_cons_succ] at h
      have hm := List.mem_of_getElem? h
      have hne : ¬ y.1 = k := fun e => hn.1 (e ▸ List.mem_map_of_mem (f := (·.1)) hm)
      have := ih hn.2 h
      simp only [atKey, List.find?_cons, hne, decide_false] at this ⊢
      exact this
theorem samePairsT {nm : String} {a b : Addr} {xs ys : List (K × Addr × Value)} {Q : Bool → Shared → Prop} (hu : knd.room A) (ha : (a == sysModules) = false) (hb : (b == sysModules) = false)
    (da : s.heap.DictOfH knd a xs) (db : s.heap.DictOfH knd b ys) (hx : ∀ x ∈ xs, ∃ i t, x.2.2 = Value.int i t) (hy : ∀ y ∈ ys, ∃ i t, y.2.2 = Value.int i t) (h : Q (xs.length == ys.length && xs.all (okx ys)) s) :
    wpAny (model prog w) A (Builtin.Dict.samePairs nm a b) Q E s := by
  obtain ⟨oa, es, ep, hoa, _, hda, hea, hia, hna⟩ := da
  obtain ⟨ob, es', ep', hob, _, hdb, heb, hib, hnb⟩ := db
  have hla : xs.length = es.size := (size_of_entries hea).symm
  have hlb : ys.length = es'.size := (size_of_entries heb).symm
  rw [hla, hlb] at h
  unfold Builtin.Dict.samePairs Builtin.Dict.showsAll
  rw [if_neg (show ¬ (a == sysModules) = true by rw [ha]; exact Bool.false_ne_true), if_neg (show ¬ (b == sysModules) = true by rw [hb]; exact Bool.false_ne_true)]
  refine wpAny_bind (wpAny_pure (wpAny_bind (wpAny_pure ?_)))
  refine wpAny_bind (wpAny_dictEntries hoa hda ?_)
  dsimp only
  refine wpAny_bind (wpAny_dictEntries hob hdb ?_)
  by_cases hsz : es.size = es'.size
  case neg =>
    rw [if_pos (by simpa using hsz)]
    have hbf : (es.size == es'.size) = false := by simpa using hsz
    rw [hbf, Bool.false_and] at h
    exact wpAny_bind (wpAny_rule (wpAny_pure h))
  case pos =>
    have h' : Q (xs.all (okx ys)) s := by simpa [hsz] using h
    rw [if_neg (by rw [hsz]; simp)]
    refine wpAny_bind (wpAny_dictEpoch hoa hda ?_)
    refine wpAny_bind ?_
    rw [Std.Legacy.Range.forIn_eq_forIn_range']
    simp only [Std.Legacy.Range.size, Nat.sub_zero, Nat.add_sub_cancel, Nat.div_one]
    refine wpAny_forIn_list _
      (fun rest q s' => s' = s ∧ q = (none, ()) ∧ ∃ i, rest = List.range' i (es.size - i) ∧ i ≤ es.size ∧ xs.all (okx ys) = (xs.drop i).all (okx ys))
      _ ?_ ?_ _ _ ⟨rfl, rfl, 0, by simp, Nat.zero_le _, by simp⟩
    · rintro x rest q s' ⟨rfl, rfl, i, hr, hi, hpre⟩
      have hlt : i < es.size := by
        rcases Nat.lt_or_ge i es.size with h | h
        · exact h
        · rw [Nat.sub_eq_zero_of_le h] at hr; simp at hr
      obtain ⟨rfl, hrest⟩ : x = i ∧ rest = List.range' (i + 1) (es.size - (i + 1)) := by
        have e : es.size - i = (es.size - (i + 1)) + 1 := by omega
        rw [e, List.range'_succ] at hr
        injection hr with h1 h2
        exact ⟨h1, h2⟩
      refine wpAny_bind (wpAny_dictEntries hoa hda ?_)
      have hlt' : x < xs.length := by rw [hla]; exact hlt
      have hxe : xs[x]? = some xs[x] := List.getElem?_eq_getElem hlt'
      have hdrop : xs.drop x = xs[x] :: xs.drop (x + 1) := List.drop_eq_getElem_cons hlt'
      obtain ⟨vi, vt, ev⟩ := hx _ (List.getElem_mem hlt')
      have hent : es[x]? = some (entryOfKey knd xs[x]) := by rw [entry_at hea, hxe]; rfl
      rw [hent]
      rw [hdrop, List.all_cons] at hpre
      have hkey := hia _ (List.getElem_mem hlt')
      generalize xs[x] = q at *
      obtain ⟨k, ka, kv⟩ := q
      simp only at ev hkey
      subst ev
      show wpAny _ _ (holding [_, _] _ >>= _) _ _ _
      refine wpAny_bind (wpAny_holding (wpAny_bind ?_))
      refine wpAny_dictFind_heap hu hkey hob hdb heb hib hnb ?_ ?_
      · intro hno
        have hok : okx ys (k, ka, .int vi vt) = false := by
          simp only [okx]
          rw [at_none hno]
        rw [hok, Bool.false_and] at hpre
        rw [hpre] at h'
        refine wpAny_pure ?_
        show wpAny _ _ (if (!false) = true then _ else _) _ _ _
        rw [if_pos (by decide)]
        exact wpAny_pure (wpAny_pure h')
      · rintro j ⟨pa, pv⟩ hj
        obtain ⟨wi, wt, ew⟩ := hy _ (List.mem_of_getElem? hj)
        simp only at ew
        subst ew
        have hok : okx ys (k, ka, .int vi vt) = decide (vi = wi) := by
          simp only [okx]
          rw [at_some hnb hj]
        have hent' : es'[j]? = some (entryOfKey knd (k, pa, .int wi wt)) := by rw [entry_at heb, hj]; rfl
        refine wpAny_bind (wpAny_dictEntries hob hdb ?_)
        rw [hent']
        rw [hok] at hpre
        refine wpAny_holding (wpAny_eqBool_int ?_)
        have eb : (vi == wi) = decide (vi = wi) := rfl
        rw [eb]
        cases hd : decide (vi = wi) with
        | false =>
          rw [hd, Bool.false_and] at hpre
          rw [hpre] at h'
          show wpAny _ _ (if (!false) = true then _ else _) _ _ _
          rw [if_pos (by decide)]
          exact wpAny_pure (wpAny_pure h')
        | true =>
          rw [hd, Bool.true_and] at hpre
          show wpAny _ _ (if (!true) = true then _ else _) _ _ _
          rw [if_neg (by decide)]
          refine wpAny_bind (wpAny_dictEpoch hoa hda ?_)
          rw [if_neg (by simp)]
          exact wpAny_pure ⟨rfl, rfl, x + 1, hrest, hlt, hpre⟩
    · rintro q s' ⟨rfl, rfl, i, hr, hi, hpre⟩
      have hin : i = es.size := by
        rcases Nat.lt_or_ge i es.size with h | h
        · have e : es.size - i = (es.size - (i + 1)) + 1 := by omega
          rw [e, List.range'_succ] at hr; exact nomatch hr
        · exact Nat.le_antisymm hi h
      refine wpAny_pure ?_
      rw [hin, ← hla, List.drop_length] at hpre
      rw [hpre] at h'
      exact h'
theorem eq_dT {a b : Addr} {xs ys : List (K × Addr × Value)} {Q : Value → Shared → Prop} (hr : knd.room A.in1) (ha : (a == sysModules) = false) (hb : (b == sysModules) = false)
    (da : s.heap.DictOfH knd a xs) (db : s.heap.DictOfH knd b ys) (hu : A.units < cLine) (hx : ∀ x ∈ xs, ∃ i t, x.2.2 = Value.int i t) (hy : ∀ y ∈ ys, ∃ i t, y.2.2 = Value.int i t) (h : Q (.bool (xs.length == ys.length && xs.all (okx ys))) s) :
    wpAny (model prog w) A (compareOp .Eq (.ref a) (.ref b)) Q E s := by
  refine wpAny_richCompare_same_room (op := .Eq) da.typeIs db.typeIs PySem.F.slot_dict_eq (wpAny_call_entry PySem.F.slot_dict_eq da.typeIs PySem.F.entry_dict_eq ?_ (PySem.F.args_dict_eq_2 _ _)) hu
  show wpAny _ _ (Builtin.Dict.dictSlotArgs "__eq__" ⟨[.ref a, .ref b], []⟩ >>= _) _ _ s
  refine wpAny_bind ?_
  unfold Builtin.Dict.dictSlotArgs
  refine wpAny_bind (wpAny_notOrdered_dict da.typeIs ?_)
  show wpAny _ _ (pure (Value.ref a, Value.ref b)) _ _ s
  refine wpAny_pure ?_
  refine wpAny_bind (wpAny_isInstance (T := "dict") db.typeIs PySem.F.sub_dict_dict ?_)
  simp only [Bool.not_true, Bool.false_eq_true, if_false]
  refine wpAny_bind (wpAny_pure (wpAny_bind (wpAny_pure ?_)))
  refine wpAny_bind (samePairsT hr ha hb da db hx hy ?_)
  refine wpAny_pure ⟨_, rfl, ?_, ?_⟩
  · exact fun x => nomatch x
  · simpa using h
theorem ne_dT {a b : Addr} {xs ys : List (K × Addr × Value)} {Q : Value → Shared → Prop} (hr : knd.room A.in1) (ha : (a == sysModules) = false) (hb : (b == sysModules) = false)
    (da : s.heap.DictOfH knd a xs) (db : s.heap.DictOfH knd b ys) (hu : A.units < cLine) (hx : ∀ x ∈ xs, ∃ i t, x.2.2 = Value.int i t) (hy : ∀ y ∈ ys, ∃ i t, y.2.2 = Value.int i t) (h : Q (.bool (!(xs.length == ys.length && xs.all (okx ys)))) s) :
    wpAny (model prog w) A (compareOp .NotEq (.ref a) (.ref b)) Q E s := by
  refine wpAny_richCompare_same_room (op := .NotEq) da.typeIs db.typeIs PySem.F.slot_dict_ne (wpAny_call_entry PySem.F.slot_dict_ne da.typeIs PySem.F.entry_dict_ne ?_ (PySem.F.args_dict_ne_2 _ _)) hu
  show wpAny _ _ (Builtin.Dict.dictSlotArgs "__ne__" ⟨[.ref a, .ref b], []⟩ >>= _) _ _ s
  refine wpAny_bind ?_
  unfold Builtin.Dict.dictSlotArgs
  refine wpAny_bind (wpAny_notOrdered_dict da.typeIs ?_)
  show wpAny _ _ (pure (Value.ref a, Value.ref b)) _ _ s
  refine wpAny_pure ?_
  refine wpAny_bind (wpAny_isInstance (T := "dict") db.typeIs PySem.F.sub_dict_dict ?_)
  simp only [Bool.not_true, Bool.false_eq_true, if_false]
  refine wpAny_bind (wpAny_pure (wpAny_bind (wpAny_pure ?_)))
  refine wpAny_bind (samePairsT hr ha hb da db hx hy ?_)
  refine wpAny_pure ⟨_, rfl, ?_, ?_⟩
  · exact fun x => nomatch x
  · simpa using h
end
end PySem.W

set_option Elab.async false
set_option linter.all false
set_option maxRecDepth 100000
/-! M2a: what a value's data are in a heap; the state: what is shared stands for good, what is owned stands alone. -/
namespace Mi
open PySem L2
open Evl (Ex)

/-- a tuple that is read; a pair stands tracked -/
def TpA (K : PySem.W.Frag) (F : Hp) (n : Nat) (a : Addr) (vs : List V) : Prop := F a = some (.tup vs) ∨ (n ≠ 2 ∧ SqT K F a vs)
theorem TpA.t {K : PySem.W.Frag} {F : Hp} {n : Nat} {a : Addr} {vs : List V} (h : TpA K F n a vs) : SqT K F a vs := h.elim (fun h => .inl (.inl h)) (·.2)
theorem TpA.ex {K : PySem.W.Frag} {F F' : Hp} {n : Nat} {a : Addr} {vs : List V} (e : Ex F F') (h : TpA K F n a vs) : TpA K F' n a vs := h.elim (fun h => .inl (e _ _ h)) fun h => .inr ⟨h.1, Evl.ex_t e h.2⟩
section
variable (K : PySem.W.Frag) (ca : Str → Addr)
mutual
/-- the data of a value, all of it in the part of the heap that stands for good -/
def RepD (F : Hp) : D → V → Prop
  | .non, v => v = .non
  | .bl b, v => v = .bl b
  | .int i, v => v = .int i
  | .str s, v => v = .str s
  | .lst ds, v => ∃ a vs, v = .ref a ∧ Rd F a (.lst vs) ∧ RepDs F ds vs
  | .tup ds, v => ∃ a vs, v = .ref a ∧ TpA K F ds.length a vs ∧ RepDs F ds vs
  | .dK kvs, v => ∃ a us, v = .ref a ∧ Rd F a (.dK us) ∧ RepKs F kvs us
  | .dT kvs, v => ∃ a us, v = .ref a ∧ Rd F a (.dT us) ∧ RepTs F kvs us
  | .obj c fs, v => ∃ a dx us, v = .ref a ∧ F a = some (.ins (ca c) dx us) ∧ RepFs F fs us
  | .cls c, v => v = .ref (ca c)
  | .ty n, v => v = .ty n
def RepDs (F : Hp) : List D → List V → Prop
  | [], vs => vs = []
  | d :: ds, vs => ∃ v r, vs = v :: r ∧ RepD F d v ∧ RepDs F ds r
def RepKs (F : Hp) : List (Key × D) → List (Key × V) → Prop
  | [], vs => vs = []
  | (k, d) :: ds, vs => ∃ v r, vs = (k, v) :: r ∧ RepD F d v ∧ RepKs F ds r
def RepTs (F : Hp) : List (List Key × D) → List (List Key × V) → Prop
  | [], vs => vs = []
  | (k, d) :: ds, vs => ∃ v r, vs = (k, v) :: r ∧ RepD F d v ∧ RepTs F ds r
def RepFs (F : Hp) : List (Str × D) → List (Str × V) → Prop
  | [], vs => vs = []
  | (k, d) :: ds, vs => ∃ v r, vs = (k, v) :: r ∧ RepD F d v ∧ RepFs F ds r
end
/-- the data of a value: its own object in H, what it holds in F -/
def RepB (F H : Hp) : D → V → Prop
  | .lst ds, v => ∃ a vs, v = .ref a ∧ Rd H a (.lst vs) ∧ RepDs K ca F ds vs
  | .dK kvs, v => ∃ a us, v = .ref a ∧ Rd H a (.dK us) ∧ RepKs K ca F kvs us
  | .dT kvs, v => ∃ a us, v = .ref a ∧ Rd H a (.dT us) ∧ RepTs K ca F kvs us
  | .obj c fs, v => ∃ a dx us, v = .ref a ∧ H a = some (.ins (ca c) dx us) ∧ RepFs K ca F fs us
  | d, v => RepD K ca F d v
/-- an object of data that are a container's -/
def RepH (F : Hp) : D → HO → Prop
  | .lst ds, .lst vs => RepDs K ca F ds vs
  | .dK ds, .dK vs => RepKs K ca F ds vs
  | .dT ds, .dT vs => RepTs K ca F ds vs
  | .obj c ds, .ins C _ vs => C = ca c ∧ RepFs K ca F ds vs
  | _, _ => False
def RepT (F H : Hp) (t : T) (v : V) : Prop := match t with
  | ⟨false, d⟩ => RepD K ca F d v
  | ⟨true, d⟩ => ∃ a u, v = .ref a ∧ F a = none ∧ H a = some u ∧ RepH K ca F d u
end

section
variable {K : PySem.W.Frag} {ca : Str → Addr} {F F' H H' : Hp}
mutual
theorem RepD.mono (e : Ex F F') : ∀ {d : D} {v : V}, RepD K ca F d v → RepD K ca F' d v
  | .non, _, h => h
  | .bl _, _, h => h
  | .int _, _, h => h
  | .str _, _, h => h
  | .lst _, _, ⟨a, vs, x, y, z⟩ => ⟨a, vs, x, Evl.ex_rd e y, RepDs.mono e z⟩
  | .tup _, _, ⟨a, vs, x, y, z⟩ => ⟨a, vs, x, y.ex e, RepDs.mono e z⟩
  | .dK _, _, ⟨a, vs, x, y, z⟩ => ⟨a, vs, x, Evl.ex_rd e y, RepKs.mono e z⟩
  | .dT _, _, ⟨a, vs, x, y, z⟩ => ⟨a, vs, x, Evl.ex_rd e y, RepTs.mono e z⟩
  | .obj _ _, _, ⟨a, dx, vs, x, y, z⟩ => ⟨a, dx, vs, x, e _ _ y, RepFs.mono e z⟩
  | .cls _, _, h => h
  | .ty _, _, h => h
theorem RepDs.mono (e : Ex F F') : ∀ {d : List D} {v : List V}, RepDs K ca F d v → RepDs K ca F' d v
  | [], _, h => h
  | _ :: _, _, ⟨v, r, x, y, z⟩ => ⟨v, r, x, RepD.mono e y, RepDs.mono e z⟩
theorem RepKs.mono (e : Ex F F') : ∀ {d : List (Key × D)} {v : List (Key × V)}, RepKs K ca F d v → RepKs K ca F' d v
  | [], _, h => h
  | (_, _) :: _, _, ⟨v, r, x, y, z⟩ => ⟨v, r, x, RepD.mono e y, RepKs.mono e z⟩
theorem RepTs.mono (e : Ex F F') : ∀ {d : List (List Key × D)} {v : List (List Key × V)}, RepTs K ca F d v → RepTs K ca F' d v
  | [], _, h => h
  | (_, _) :: _, _, ⟨v, r, x, y, z⟩ => ⟨v, r, x, RepD.mono e y, RepTs.mono e z⟩
theorem RepFs.mono (e : Ex F F') : ∀ {d : List (Str × D)} {v : List (Str × V)}, RepFs K ca F d v → RepFs K ca F' d v
  | [], _, h => h
  | (_, _) :: _, _, ⟨v, r, x, y, z⟩ => ⟨v, r, x, RepD.mono e y, RepFs.mono e z⟩
end
theorem RepH.mono (e : Ex F F') {d : D} {u : HO} (h : RepH K ca F d u) : RepH K ca F' d u := by
  cases d <;> cases u <;> first | exact h.elim | exact RepDs.mono e h | exact RepKs.mono e h | exact RepTs.mono e h | exact ⟨h.1, RepFs.mono e h.2⟩
theorem RepB.of (e : Ex F H) {d : D} {v : V} (h : RepD K ca F d v) : RepB K ca F H d v := by
  cases d with
  | lst ds => obtain ⟨a, vs, x, y, z⟩ := h; exact ⟨a, vs, x, Evl.ex_rd e y, z⟩
  | dK ds => obtain ⟨a, vs, x, y, z⟩ := h; exact ⟨a, vs, x, Evl.ex_rd e y, z⟩
  | dT ds => obtain ⟨a, vs, x, y, z⟩ := h; exact ⟨a, vs, x, Evl.ex_rd e y, z⟩
  | obj c fs => obtain ⟨a, dx, vs, x, y, z⟩ := h; exact ⟨a, dx, vs, x, e _ _ y, z⟩
  | _ => exact h
/-- read at the whole heap -/
theorem RepB.whole (e : Ex F H) {d : D} {v : V} (h : RepB K ca F H d v) : RepD K ca H d v := by
  cases d with
  | lst ds => obtain ⟨a, vs, x, y, z⟩ := h; exact ⟨a, vs, x, y, z.mono e⟩
  | tup ds => exact RepD.mono e h
  | dK ds => obtain ⟨a, vs, x, y, z⟩ := h; exact ⟨a, vs, x, y, z.mono e⟩
  | dT ds => obtain ⟨a, vs, x, y, z⟩ := h; exact ⟨a, vs, x, y, z.mono e⟩
  | obj c fs => obtain ⟨a, dx, vs, x, y, z⟩ := h; exact ⟨a, dx, vs, x, y, z.mono e⟩
  | non => exact h
  | bl _ => exact h
  | int _ => exact h
  | str _ => exact h
  | cls _ => exact h
  | ty _ => exact h
theorem RepT.b (e : Ex F H) {t : T} {v : V} (h : RepT K ca F H t v) : RepB K ca F H t.d v := by
  obtain ⟨ow, d⟩ := t
  cases ow with
  | false => exact RepB.of e h
  | true =>
    obtain ⟨a, u, rfl, h1, h2, h3⟩ := h
    cases d <;> cases u <;> first
      | exact h3.elim
      | exact ⟨a, _, rfl, .inl h2, h3⟩
      | (obtain ⟨rfl, h3⟩ := h3; exact ⟨a, _, _, rfl, h2, h3⟩)
theorem RepH.fr {a : Addr} {u : HO} {d : D} (h : RepH K ca F d u) (hF : Ex F F') (ha : F' a = some u) : RepD K ca F' d (.ref a) := by
  cases d <;> cases u <;> first
    | exact h.elim
    | exact ⟨a, _, rfl, .inl ha, RepDs.mono hF h⟩
    | exact ⟨a, _, rfl, .inl ha, RepKs.mono hF h⟩
    | exact ⟨a, _, rfl, .inl ha, RepTs.mono hF h⟩
    | (obtain ⟨rfl, h⟩ := h; exact ⟨a, _, _, rfl, ha, h.mono hF⟩)
theorem RepDs.length : ∀ {ds : List D} {vs : List V}, RepDs K ca F ds vs → vs.length = ds.length
  | [], _, h => by cases h; rfl
  | _ :: _, _, ⟨v, r, x, _, z⟩ => by rw [x, List.length_cons, List.length_cons, RepDs.length z]
theorem RepDs.append : ∀ {ds es : List D} {vs us : List V}, RepDs K ca F ds vs → RepDs K ca F es us → RepDs K ca F (ds ++ es) (vs ++ us)
  | [], _, _, _, h, g => by cases h; exact g
  | _ :: _, _, _, _, ⟨v, r, x, y, z⟩, g => ⟨v, r ++ _, by rw [x]; rfl, y, RepDs.append z g⟩
theorem RepDs.get : ∀ {ds : List D} {vs : List V} {i : Nat} {d : D}, RepDs K ca F ds vs → ds[i]? = some d → ∃ v, vs[i]? = some v ∧ RepD K ca F d v
  | [], _, _, _, _, e => by simp at e
  | _ :: _, _, 0, _, ⟨v, r, x, y, z⟩, e => by
    simp only [List.getElem?_cons_zero, Option.some.injEq] at e
    subst e
    exact ⟨v, by rw [x]; rfl, y⟩
  | _ :: _, _, i + 1, _, ⟨v, r, x, y, z⟩, e => by
    rw [List.getElem?_cons_succ] at e
    obtain ⟨v', h1, h2⟩ := RepDs.get z e
    exact ⟨v', by rw [x, List.getElem?_cons_succ]; exact h1, h2⟩
theorem RepDs.set : ∀ {ds : List D} {vs : List V} {d : D} {v : V} (i : Nat), RepDs K ca F ds vs → RepD K ca F d v → RepDs K ca F (ds.set i d) (vs.set i v)
  | [], _, _, _, _, h, _ => by cases h; exact rfl
  | _ :: _, _, _, _, 0, ⟨v, r, x, y, z⟩, g => ⟨_, r, by rw [x]; rfl, g, z⟩
  | _ :: _, _, _, _, i + 1, ⟨v, r, x, y, z⟩, g => ⟨v, _, by rw [x]; rfl, y, RepDs.set i z g⟩
theorem RepDs.take : ∀ {ds : List D} {vs : List V} (n : Nat), RepDs K ca F ds vs → RepDs K ca F (ds.take n) (vs.take n)
  | _, _, 0, _ => by simp [RepDs]
  | [], _, _ + 1, h => by cases h; simp [RepDs]
  | _ :: _, _, n + 1, ⟨v, r, x, y, z⟩ => ⟨v, _, by rw [x]; rfl, y, RepDs.take n z⟩
theorem RepDs.drop : ∀ {ds : List D} {vs : List V} (n : Nat), RepDs K ca F ds vs → RepDs K ca F (ds.drop n) (vs.drop n)
  | _, _, 0, h => by simpa using h
  | [], _, _ + 1, h => by cases h; simp [RepDs]
  | _ :: _, _, n + 1, ⟨v, r, x, y, z⟩ => by rw [x]; exact RepDs.drop n z
theorem RepDs.one {d : D} {v : V} (h : RepD K ca F d v) : RepDs K ca F [d] [v] := ⟨v, [], rfl, h, rfl⟩
end

/-! ### roots -/
section
variable (K : PySem.W.Frag) (ca : Str → Addr)
def Apart (r s : V × T) : Prop := r.2.ow = true → s.2.ow = true → r.1 ≠ s.1
structure Ok (F H : Hp) (rs : List (V × T)) : Prop where
  ex : Ex F H
  rep : ∀ r ∈ rs, RepT K ca F H r.2 r.1
  ap : rs.Pairwise Apart
end
theorem Apart.symm {r s : V × T} (h : Apart r s) : Apart s r := fun a b e => h b a e.symm
section
variable {K : PySem.W.Frag} {ca : Str → Addr} {F F' H H' : Hp} {rs qs : List (V × T)} {r : V × T}
theorem Ok.perm (h : Ok K ca F H rs) (p : rs.Perm qs) : Ok K ca F H qs :=
  ⟨h.ex, fun r hr => h.rep r (p.mem_iff.mpr hr), p.pairwise h.ap (fun x => x.symm)⟩
theorem Ok.sub (h : Ok K ca F H rs) (p : qs.Sublist rs) : Ok K ca F H qs :=
  ⟨h.ex, fun r hr => h.rep r (p.subset hr), h.ap.sublist p⟩
theorem Ok.tl (h : Ok K ca F H (r :: rs)) : Ok K ca F H rs := h.sub (List.sublist_cons_self _ _)
/-- a root more, of what is shared -/
theorem Ok.push {v : V} {d : D} (h : Ok K ca F H rs) (hd : RepD K ca F d v) : Ok K ca F H ((v, sh d) :: rs) :=
  ⟨h.ex, fun r hr => by
    rcases List.mem_cons.mp hr with rfl | hr
    · exact hd
    · exact h.rep r hr, List.pairwise_cons.mpr ⟨fun _ _ a => (by cases a), h.ap⟩⟩
theorem ow_at {F H : Hp} {t : T} {v : V} (h : RepT K ca F H t v) (ho : t.ow = true) : ∃ a u, v = .ref a ∧ F a = none ∧ H a = some u ∧ RepH K ca F t.d u := by
  obtain ⟨ow, d⟩ := t
  cases ow with
  | false => cases ho
  | true => exact h
theorem RepT.step {t : T} {v : V} (h : RepT K ca F H t v) (eF : Ex F F') (hF : ∀ a, t.ow = true → v = .ref a → F' a = none) (hH : ∀ a u, t.ow = true → v = .ref a → H a = some u → H' a = some u) : RepT K ca F' H' t v := by
  obtain ⟨ow, d⟩ := t
  cases ow with
  | false => exact RepD.mono eF h
  | true =>
    obtain ⟨a, u, rfl, h1, h2, h3⟩ := h
    exact ⟨a, u, rfl, hF a rfl rfl, hH a u rfl rfl h2, h3.mono eF⟩
/-- a new object, owned -/
theorem Ok.alloc {p : Addr} {u : HO} {d : D} (h : Ok K ca F H rs) (hp : H p = none) (hu : RepH K ca F d u) : Ok K ca F (upd H p u) ((.ref p, own d) :: rs) := by
  have fp : F p = none := by
    cases e : F p with
    | none => rfl
    | some o => rw [h.ex p o e] at hp; cases hp
  refine ⟨h.ex.trans (Evl.Ex.new hp), fun r hr => ?_, List.pairwise_cons.mpr ⟨fun r hr _ ho e => ?_, h.ap⟩⟩
  · rcases List.mem_cons.mp hr with rfl | hr
    · exact ⟨p, u, rfl, fp, upd_same, hu⟩
    · exact (h.rep r hr).step (fun _ _ e => e) (fun a ho e => by obtain ⟨b, _, e2, h1, _⟩ := ow_at (h.rep r hr) ho; rw [e] at e2; cases e2; exact h1)
        fun a u' _ _ e => by rw [upd_ne (ne_of_none e hp)]; exact e
  · obtain ⟨b, u', e2, _, h2, _⟩ := ow_at (h.rep r hr) ho
    have e' : V.ref p = r.1 := e
    rw [← e'] at e2
    cases e2
    rw [hp] at h2
    cases h2
/-- a new object, shared at once -/
theorem Ok.allocS {p : Addr} {u : HO} {d : D} (h : Ok K ca F H rs) (hp : H p = none) (hu : ∀ F', Ex F F' → F' p = some u → RepD K ca F' d (.ref p)) : Ok K ca (upd F p u) (upd H p u) ((.ref p, sh d) :: rs) ∧ Ex F (upd F p u) := by
  have fp : F p = none := by
    cases e : F p with
    | none => rfl
    | some o => rw [h.ex p o e] at hp; cases hp
  have eF : Ex F (upd F p u) := Evl.Ex.new fp
  refine ⟨⟨fun a o e => ?_, fun r hr => ?_, List.pairwise_cons.mpr ⟨fun r hr a => (by cases a), h.ap⟩⟩, eF⟩
  · by_cases ha : a = p
    · subst ha; rw [upd_same] at e ⊢; exact e
    · rw [upd_ne ha] at e ⊢; exact h.ex a o e
  · rcases List.mem_cons.mp hr with rfl | hr
    · exact hu _ eF upd_same
    · refine (h.rep r hr).step eF (fun a ho e => ?_) fun a u' _ _ e => by rw [upd_ne (ne_of_none e hp)]; exact e
      obtain ⟨b, u', e2, h1, h2, _⟩ := ow_at (h.rep r hr) ho
      rw [e] at e2
      cases e2
      rw [upd_ne (ne_of_none h2 hp)]
      exact h1
/-- an owned root is shared from now on -/
theorem Ok.frz {v : V} {d : D} (h : Ok K ca F H ((v, own d) :: rs)) : ∃ F', Ex F F' ∧ Ok K ca F' H ((v, sh d) :: rs) := by
  obtain ⟨a, u, rfl, h1, h2, h3⟩ := h.rep _ (List.mem_cons_self ..)
  have eF : Ex F (upd F a u) := Evl.Ex.new h1
  refine ⟨upd F a u, eF, fun b o e => ?_, fun r hr => ?_, List.pairwise_cons.mpr ⟨fun _ _ x => (by cases x), (List.pairwise_cons.mp h.ap).2⟩⟩
  · by_cases ha : b = a
    · subst ha; rw [upd_same] at e; cases e; exact h2
    · rw [upd_ne ha] at e; exact h.ex b o e
  · rcases List.mem_cons.mp hr with rfl | hr
    · exact h3.fr eF upd_same
    · refine (h.rep r (List.mem_cons_of_mem _ hr)).step eF (fun b ho e => ?_) fun _ _ _ _ e => e
      have ne : (V.ref a) ≠ r.1 := (List.pairwise_cons.mp h.ap).1 r hr rfl ho
      obtain ⟨b', u', e2, g1, g2, _⟩ := ow_at (h.rep r (List.mem_cons_of_mem _ hr)) ho
      rw [e] at e2
      cases e2
      rw [upd_ne (fun q => ne (by rw [e, q]))]
      exact g1
/-- a tuple that stands is taken for good -/
theorem Ok.tupF {b : Addr} {vs : List V} (h : Ok K ca F H rs) (hb : H b = some (.tup vs)) : ∃ F', Ex F F' ∧ F' b = some (.tup vs) ∧ Ok K ca F' H rs := by
  by_cases hF : F b = none
  · have eF : Ex F (upd F b (.tup vs)) := Evl.Ex.new hF
    refine ⟨upd F b (.tup vs), eF, upd_same, fun c o e => ?_, fun r hr => ?_, h.ap⟩
    · by_cases ha : c = b
      · subst ha; rw [upd_same] at e; cases e; exact hb
      · rw [upd_ne ha] at e; exact h.ex c o e
    · refine (h.rep r hr).step eF (fun c ho e => ?_) fun _ _ _ _ e => e
      obtain ⟨b', u', e2, g1, g2, g3⟩ := ow_at (h.rep r hr) ho
      rw [e] at e2
      cases e2
      by_cases hc : c = b
      · subst hc
        rw [hb] at g2
        cases g2
        generalize r.2.d = dd at g3
        cases dd <;> exact g3.elim
      · rw [upd_ne hc]
        exact g1
  · cases e : F b with
    | none => exact absurd e hF
    | some u =>
      have := h.ex b u e
      rw [hb] at this
      cases this
      exact ⟨F, Ex.refl F, e, h⟩
theorem Ok.tupsF : ∀ {us : List (List Key × V)} {bs : List Addr} {F : Hp}, Ok K ca F H rs → Paired (fun p b => H b = some (.tup (p.1.map kV))) us bs → ∃ F', Ex F F' ∧ Paired (fun p b => F' b = some (.tup (p.1.map kV))) us bs ∧ Ok K ca F' H rs
  | [], _, F, h, p => by
    cases p
    exact ⟨F, Ex.refl F, .nil, h⟩
  | u :: us, _, F, h, p => by
    cases p with
    | cons p1 p2 =>
      obtain ⟨F1, e1, g1, h1⟩ := h.tupF p1
      obtain ⟨F2, e2, g2, h2⟩ := Ok.tupsF h1 p2
      exact ⟨F2, fun a o e => e2 a o (e1 a o e), .cons (e2 _ _ g1) g2, h2⟩
/-- an owned object is changed -/
theorem Ok.write {a : Addr} {u : HO} {d d' : D} (h : Ok K ca F H ((.ref a, own d) :: rs)) (hu : RepH K ca F d' u) : Ok K ca F (upd H a u) ((.ref a, own d') :: rs) := by
  obtain ⟨a', u0, e0, h1, h2, h3⟩ := h.rep _ (List.mem_cons_self ..)
  cases e0
  refine ⟨fun b o e => ?_, fun r hr => ?_, List.pairwise_cons.mpr ⟨fun r hr x y => (List.pairwise_cons.mp h.ap).1 r hr rfl y, (List.pairwise_cons.mp h.ap).2⟩⟩
  · rw [upd_ne (ne_of_none e h1)]; exact h.ex b o e
  · rcases List.mem_cons.mp hr with rfl | hr
    · exact ⟨a, u, rfl, h1, upd_same, hu⟩
    · refine (h.rep r (List.mem_cons_of_mem _ hr)).step (fun _ _ e => e) (fun b ho e => ?_) fun b u' ho e e2 => ?_
      · obtain ⟨b', u', e2, g1, g2, _⟩ := ow_at (h.rep r (List.mem_cons_of_mem _ hr)) ho
        rw [e] at e2
        cases e2
        exact g1
      · have ne : (V.ref a) ≠ r.1 := (List.pairwise_cons.mp h.ap).1 r hr rfl ho
        rw [upd_ne (fun q => ne (by rw [e, q]))]
        exact e2
end

/-! ### slots -/
def rts : L2.St → Sl → List (V × T)
  | some v :: σ, some t :: ρ => (v, t) :: rts σ ρ
  | none :: σ, some _ :: ρ => rts σ ρ
  | _ :: σ, none :: ρ => rts σ ρ
  | _, _ => []
theorem rts_out : ∀ (σ : L2.St) (ρ : Sl) (i : Nat) (v : V) (t : T), σ[i]? = some (some v) → ρ[i]? = some (some t) → (rts σ ρ).Perm ((v, t) :: rts σ (ρ.set i none))
  | [], _, _, _, _, e, _ => by simp at e
  | _ :: _, [], _, _, _, _, e => by simp at e
  | x :: σ, y :: ρ, 0, v, t, e1, e2 => by
    simp at e1 e2
    subst e1 e2
    simp [rts]
  | x :: σ, y :: ρ, i + 1, v, t, e1, e2 => by
    rw [List.getElem?_cons_succ] at e1 e2
    have ih := rts_out σ ρ i v t e1 e2
    cases x with
    | none => cases y with
      | none => simpa [rts] using ih
      | some y => simpa [rts] using ih
    | some x => cases y with
      | none => simpa [rts] using ih
      | some y =>
        simp only [rts, List.set_cons_succ]
        exact (ih.cons _).trans (List.Perm.swap _ _ _)
theorem rts_none : ∀ (σ : L2.St) (ρ : Sl) (i : Nat) (o : Option V), rts (σ.set i o) (ρ.set i none) = rts σ (ρ.set i none)
  | [], _, _, _ => by simp [rts]
  | x :: σ, [], i, _ => by cases i <;> cases x <;> simp [rts] <;> (rename_i o; cases o <;> simp [rts])
  | x :: σ, y :: ρ, 0, o => by cases o <;> cases x <;> simp [rts]
  | x :: σ, y :: ρ, i + 1, o => by
    have ih := rts_none σ ρ i o
    cases x <;> cases y <;> simp [rts, ih]
theorem rts_sub : ∀ (σ : L2.St) (ρ : Sl) (i : Nat), (rts σ (ρ.set i none)).Sublist (rts σ ρ)
  | [], _, _ => by simp [rts]
  | x :: σ, [], i => by cases i <;> cases x <;> simp [rts]
  | x :: σ, y :: ρ, 0 => by
    cases x <;> cases y <;> simp [rts]
  | x :: σ, y :: ρ, i + 1 => by
    have ih := rts_sub σ ρ i
    cases x <;> cases y <;> simp [rts, ih]
theorem set_set_none (ρ : Sl) (i : Nat) (t : Option T) : (ρ.set i t).set i none = ρ.set i none := by rw [List.set_set]

section
variable (K : PySem.W.Frag) (ca : Str → Addr)
/-- the state: F stands for good; slots σ hold the data ρ; fr: roots beside -/
structure S (F H : Hp) (σ : L2.St) (ρ : Sl) (fr : List (V × T)) : Prop where
  len : σ.length = ρ.length
  df : ∀ (i : Nat) (t : T), ρ[i]? = some (some t) → ∃ v, σ[i]? = some (some v)
  ok : Ok K ca F H (rts σ ρ ++ fr)
end
section
variable {K : PySem.W.Frag} {ca : Str → Addr} {F F' H H' : Hp} {σ : L2.St} {ρ : Sl} {fr : List (V × T)} {v : V} {t : T} {d : D} {i : Nat}
theorem S.ex (s : S K ca F H σ ρ fr) : Ex F H := s.ok.ex
theorem S.of (s : S K ca F H σ ρ fr) {fr' : List (V × T)} (h : Ok K ca F' H' (rts σ ρ ++ fr')) : S K ca F' H' σ ρ fr' := ⟨s.len, s.df, h⟩
theorem S.head (s : S K ca F H σ ρ ((v, t) :: fr)) : Ok K ca F H ((v, t) :: (rts σ ρ ++ fr)) := s.ok.perm List.perm_middle
theorem S.unhead {rs : List (V × T)} {r : V × T} (s : S K ca F H σ ρ rs) (h : Ok K ca F' H' (r :: (rts σ ρ ++ fr))) : S K ca F' H' σ ρ (r :: fr) := s.of (h.perm List.perm_middle.symm)
theorem S.drop (s : S K ca F H σ ρ ((v, t) :: fr)) : S K ca F H σ ρ fr := s.of s.head.tl
theorem S.push (s : S K ca F H σ ρ fr) (h : RepD K ca F d v) : S K ca F H σ ρ ((v, sh d) :: fr) := s.unhead (s.ok.push h)
theorem S.top (s : S K ca F H σ ρ ((v, t) :: fr)) : RepT K ca F H t v := s.head.rep _ (List.mem_cons_self ..)
theorem S.alloc {p : Addr} {u : HO} (s : S K ca F H σ ρ fr) (hp : H p = none) (hu : RepH K ca F d u) : S K ca F (upd H p u) σ ρ ((.ref p, own d) :: fr) := s.unhead (s.ok.alloc hp hu)
theorem S.allocS {p : Addr} {u : HO} (s : S K ca F H σ ρ fr) (hp : H p = none) (hu : ∀ F', Ex F F' → F' p = some u → RepD K ca F' d (.ref p)) : S K ca (upd F p u) (upd H p u) σ ρ ((.ref p, sh d) :: fr) ∧ Ex F (upd F p u) :=
  let ⟨a, b⟩ := s.ok.allocS hp hu; ⟨s.unhead a, b⟩
theorem S.frz (s : S K ca F H σ ρ ((v, t) :: fr)) : ∃ F', Ex F F' ∧ S K ca F' H σ ρ ((v, sh t.d) :: fr) := by
  obtain ⟨ow, d⟩ := t
  cases ow with
  | false => exact ⟨F, fun _ _ e => e, s⟩
  | true =>
    obtain ⟨F', e, o⟩ := s.head.frz
    exact ⟨F', e, s.unhead o⟩
/-- a slot's root taken out -/
theorem S.out (s : S K ca F H σ ρ fr) (h1 : σ[i]? = some (some v)) (h2 : ρ[i]? = some (some t)) : S K ca F H σ (ρ.set i none) ((v, t) :: fr) := by
  refine ⟨by rw [s.len, List.length_set], fun j u e => ?_, ?_⟩
  · by_cases hj : i = j
    · subst hj
      rw [List.getElem?_set_self (by have := (List.getElem?_eq_some_iff.mp h2).1; omega)] at e
      cases e
    · rw [List.getElem?_set_ne hj] at e; exact s.df j u e
  · refine (s.ok.perm ((rts_out σ ρ i v t h1 h2).append_right fr)).perm ?_
    exact List.perm_middle.symm
/-- a root put into a slot -/
theorem S.put (s : S K ca F H σ ρ ((v, t) :: fr)) (hi : i < ρ.length) : S K ca F H (σ.set i (some v)) (ρ.set i (some t)) fr := by
  refine ⟨by rw [List.length_set, List.length_set, s.len], fun j u e => ?_, ?_⟩
  · by_cases hj : i = j
    · subst hj
      exact ⟨v, List.getElem?_set_self (by rw [s.len]; exact hi)⟩
    · rw [List.getElem?_set_ne hj] at e ⊢; exact s.df j u e
  · have h1 : (σ.set i (some v))[i]? = some (some v) := List.getElem?_set_self (by rw [s.len]; exact hi)
    have h2 : (ρ.set i (some t))[i]? = some (some t) := List.getElem?_set_self hi
    have p := rts_out _ _ i v t h1 h2
    rw [set_set_none, rts_none] at p
    refine Ok.perm ?_ (p.append_right fr).symm
    have o := s.head
    refine o.sub ?_
    exact List.Sublist.cons₂ _ ((rts_sub σ ρ i).append_right fr)
theorem S.lt (s : S K ca F H σ ρ fr) (h : ρ[i]? = some (some t)) : i < ρ.length := (List.getElem?_eq_some_iff.mp h).1
/-- the root back into the slot that held it -/
theorem S.back {t' : Option T} (s : S K ca F H σ (ρ.set i t') ((v, t) :: fr)) (h1 : σ[i]? = some (some v)) : S K ca F H σ (ρ.set i (some t)) fr := by
  have hi : i < ρ.length := by
    have := (List.getElem?_eq_some_iff.mp h1).1
    have e := s.len
    rw [List.length_set] at e
    omega
  have q := s.put (i := i) (by rw [List.length_set]; exact hi)
  rw [List.set_set] at q
  have e : σ.set i (some v) = σ := by
    apply List.ext_getElem?
    intro j
    by_cases hj : i = j
    · subst hj; rw [List.getElem?_set_self (by have := (List.getElem?_eq_some_iff.mp h1).1; omega), h1]
    · rw [List.getElem?_set_ne hj]
  rw [e] at q
  exact q
theorem S.at (s : S K ca F H σ ρ fr) (h : ρ[i]? = some (some t)) : ∃ v, σ[i]? = some (some v) ∧ RepT K ca F H t v := by
  obtain ⟨v, e⟩ := s.df i t h
  exact ⟨v, e, (s.out e h).top⟩
/-- a slot shared from now on -/
theorem S.frzAt (s : S K ca F H σ ρ fr) (h : ρ[i]? = some (some t)) : ∃ F', Ex F F' ∧ S K ca F' H σ (ρ.set i (some (sh t.d))) fr := by
  obtain ⟨v, e, _⟩ := s.at h
  obtain ⟨F', eF, s'⟩ := (s.out e h).frz
  exact ⟨F', eF, s'.back e⟩
/-- fewer roots -/
theorem S.less (s : S K ca F H σ ρ fr) (i : Nat) : S K ca F H σ (ρ.set i none) fr := by
  refine ⟨by rw [s.len, List.length_set], fun j u e => ?_, s.ok.sub ((rts_sub σ ρ i).append_right fr)⟩
  by_cases hj : i = j
  · subst hj
    by_cases hi : i < ρ.length
    · rw [List.getElem?_set_self hi] at e; cases e
    · rw [List.set_eq_of_length_le (by omega)] at e; exact s.df i u e
  · rw [List.getElem?_set_ne hj] at e; exact s.df j u e
end
end Mi

set_option Elab.async false
set_option linter.all false
set_option maxRecDepth 100000
set_option maxHeartbeats 1000000
/-! M2b: the operations by values. -/
namespace Mi
open PySem PySem.Spec PyProof.Rows L2
open Evl (Ex)

/-! ### data as the library's data -/
mutual
theorem nice_can : ∀ (n : Nat) (d : D) (p : PyData), nice n d = true → d.py = some p → p.canLay0 = true ∧ p.depth ≤ n
  | _, .non, _, _, e => by cases e; exact ⟨rfl, Nat.zero_le _⟩
  | _, .bl _, _, _, e => by cases e; exact ⟨rfl, Nat.zero_le _⟩
  | _, .int _, _, _, e => by cases e; exact ⟨rfl, Nat.zero_le _⟩
  | n, .str s, _, h, e => by
    cases e
    refine ⟨?_, Nat.zero_le _⟩
    cases n <;> simpa [nice, PyData.canLay0] using h
  | 0, .lst xs, _, h, _ => by simp [nice] at h
  | 0, .tup xs, _, h, _ => by simp [nice] at h
  | n + 1, .lst xs, p, h, e => by
    simp only [nice] at h
    simp only [D.py, Option.map_eq_some_iff] at e
    obtain ⟨ps, e, rfl⟩ := e
    obtain ⟨a, b⟩ := nice_cans n xs ps h e
    exact ⟨by simpa [PyData.canLay0] using a, by simp only [PyData.depth]; omega⟩
  | n + 1, .tup xs, p, h, e => by
    simp only [nice] at h
    simp only [D.py, Option.map_eq_some_iff] at e
    obtain ⟨ps, e, rfl⟩ := e
    obtain ⟨a, b⟩ := nice_cans n xs ps h e
    exact ⟨by simpa [PyData.canLay0] using a, by simp only [PyData.depth]; omega⟩
  | _, .dK _, _, _, e => by cases e
  | _, .dT _, _, _, e => by cases e
  | _, .obj _ _, _, _, e => by cases e
  | _, .cls _, _, _, e => by cases e
  | _, .ty _, _, _, e => by cases e
theorem nice_cans : ∀ (n : Nat) (ds : List D) (ps : List PyData), ds.all (nice n) = true → D.pys ds = some ps → PyData.canLayAll0 ps = true ∧ PyData.depthAll ps ≤ n
  | _, [], _, _, e => by cases e; exact ⟨rfl, Nat.zero_le _⟩
  | n, d :: ds, ps, h, e => by
    simp only [List.all_cons, Bool.and_eq_true] at h
    simp only [D.pys] at e
    split at e
    · rename_i a b e1 e2
      cases e
      obtain ⟨a1, a2⟩ := nice_can n d _ h.1 e1
      obtain ⟨b1, b2⟩ := nice_cans n ds _ h.2 e2
      exact ⟨by simp only [PyData.canLayAll0, a1, b1, Bool.and_self], by simp only [PyData.depthAll]; omega⟩
    · cases e
end
theorem nice_shaped {d : D} {p : PyData} (h : nice 50 d = true) (e : d.py = some p) : SeqAt.shaped p = true := by
  obtain ⟨a, b⟩ := nice_can 50 d p h e
  unfold SeqAt.shaped
  rw [a, Bool.true_and]
  exact decide_eq_true (by omega)
section
variable {K : PySem.W.Frag} {ca : Str → Addr} {H F : Hp}
mutual
theorem dp_of : ∀ (d : D) (v : V) (p : PyData), RepD K ca H d v → d.py = some p → Dp K H v p
  | .non, _, _, h, e => by cases h; cases e; exact .non
  | .bl _, _, _, h, e => by cases h; cases e; exact .bl _
  | .int _, _, _, h, e => by cases h; cases e; exact .int _
  | .str _, _, _, h, e => by cases h; cases e; exact .str _
  | .lst xs, _, p, ⟨a, vs, hv, hr, hs⟩, e => by
    simp only [D.py, Option.map_eq_some_iff] at e
    obtain ⟨ps, e, rfl⟩ := e
    subst hv
    exact .lst (.inl hr) (dps_of xs vs ps hs e)
  | .tup xs, _, p, ⟨a, vs, hv, hr, hs⟩, e => by
    simp only [D.py, Option.map_eq_some_iff] at e
    obtain ⟨ps, e, rfl⟩ := e
    subst hv
    exact .tup hr.t (dps_of xs vs ps hs e)
  | .dK _, _, _, _, e => by cases e
  | .dT _, _, _, _, e => by cases e
  | .obj _ _, _, _, _, e => by cases e
  | .cls _, _, _, _, e => by cases e
  | .ty _, _, _, _, e => by cases e
theorem dps_of : ∀ (ds : List D) (vs : List V) (ps : List PyData), RepDs K ca H ds vs → D.pys ds = some ps → DpAll K H vs ps
  | [], _, _, h, e => by cases h; cases e; exact .nil
  | d :: ds, _, ps, ⟨v, r, hv, h1, h2⟩, e => by
    subst hv
    simp only [D.pys] at e
    split at e
    · rename_i a b e1 e2
      cases e
      exact .cons (dp_of d v _ h1 e1) (dps_of ds r _ h2 e2)
    · cases e
end
end

section
variable (K : PySem.W.Frag) (ca : Str → Addr)
/-- what is wanted of a result -/
def Fin (F H : Hp) (σ : L2.St) (ρ : Sl) (fr : List (V × T)) (Q : VK) (t : T) : Prop := ∀ v H' F', Ex F F' → S K ca F' H' σ ρ ((v, t) :: fr) → Q v H'
end
section
variable {K : PySem.W.Frag} {ca : Str → Addr} {F H : Hp} {σ : L2.St} {ρ : Sl} {fr : List (V × T)} {Q : VK} {d : D} {v : V}
theorem Fin.old (s : S K ca F H σ ρ fr) (f : Fin K ca F H σ ρ fr Q (sh d)) (h : RepD K ca F d v) : Q v H := f v H F (Ex.refl F) (s.push h)
theorem Fin.new (s : S K ca F H σ ρ fr) (f : Fin K ca F H σ ρ fr Q (own d)) {p : Addr} {u : HO} (hp : H p = none) (hu : RepH K ca F d u) : Q (.ref p) (upd H p u) := f _ _ F (Ex.refl F) (s.alloc hp hu)
theorem Fin.newT {ds : List D} {vs : List V} (s : S K ca F H σ ρ fr) (f : Fin K ca F H σ ρ fr Q (sh (.tup ds))) {p : Addr} (hp : H p = none) (hu : RepDs K ca F ds vs) : Q (.ref p) (upd H p (.tup vs)) := by
  obtain ⟨s', e⟩ := s.allocS (u := .tup vs) (d := .tup ds) hp fun F' e h => ⟨p, vs, rfl, .inl h, hu.mono e⟩
  exact f _ _ _ e s'
theorem Fin.newL {ds : List D} {vs : List V} (s : S K ca F H σ ρ fr) (f : Fin K ca F H σ ρ fr Q (own (.lst ds))) {p : Addr} (hp : H p = none) (hu : RepDs K ca F ds vs) : Q (.ref p) (upd H p (.lst vs)) := f.new s hp (d := .lst ds) (u := .lst vs) hu
end

/-! ### lists, exactly as they stand -/
section
variable {X : Cx} {pins : List (Addr × Obj)} {σ : L2.St} {H : Hp} {s : Shared} {l : Addr} {xs : List V}
theorem lstR (I : Inv X pins σ H s) (h : Rd H l (.lst xs)) : xs.length ≤ sizeLine ∧ ∃ (its : List Value) (n : Nat), Vals xs its ∧ xs.length = its.length ∧ s.heap.get? l = some { cls := .type "list", data := .seq its.toArray n } := by
  obtain ⟨z, its, n, r, e⟩ := h.ok I.hok
  exact ⟨z, its, n, r, r.length, e⟩
def rCatR : R2 := fun x y H Q => ∃ l b xs zs, x = .ref l ∧ y = .ref b ∧ Rd H l (.lst xs) ∧ Rd H b (.lst zs) ∧ xs.length + zs.length ≤ sizeLine ∧ ∀ p, H p = none → Q (.ref p) (upd H p (.lst (xs ++ zs)))
theorem op_catR : OpR X (binaryOp .Add) rCatR := by
  intro pins s σ H x y v u Q I rx ry h
  obtain ⟨l, b, xs, zs, ex, ey, hH, hB, hz, q⟩ := h
  subst ex ey
  cases rx; cases ry
  obtain ⟨_, i1, n1, r1, hl1, e1⟩ := lstR I hH
  obtain ⟨_, i2, n2, r2, hl2, e2⟩ := lstR I hB
  refine PySem.P.add_list e1 e2 ?_ (by rw [List.size_toArray, List.size_toArray, ← hl1, ← hl2]; exact hz)
  rw [show i1.toArray ++ i2.toArray = (i1 ++ i2).toArray by simp]
  exact ⟨.ref _, _, I.lnew (t' := s.toks) (r1.append r2) (by rw [List.length_append]; exact hz), rfl, q _ I.fresh⟩
end

/-- xs * k -/
theorem rep_listR {X : Cx} {pins : List (Addr × Obj)} {σ : L2.St} {H : Hp} {s : Shared} {l : Addr} {xs : List V} {v u : Value} {k : Int} {Q : VK} (I : Inv X pins σ H s)
    (rx : RelV (.ref l) v) (ry : RelV (.int k) u) (h : Rd H l (.lst xs)) (h0 : 0 ≤ k) (hz : xs.length * k.toNat ≤ sizeLine) (hk : k < 2 ^ 63)
    (q : ∀ p, H p = none → Q (.ref p) (upd H p (.lst (List.replicate k.toNat xs).flatten))) :
    wpAny (model X.prog X.w) X.A (binaryOp .Mult v u) (EP X pins σ Q) X.xe s := by
  cases rx
  obtain ⟨t, rfl⟩ := ry
  obtain ⟨_, its, n, r, hl, e⟩ := lstR I h
  have n0 : its.toArray.size * k.toNat ≤ sizeLine := by
    rw [List.size_toArray, ← hl]
    exact hz
  have n1 : ¬ its.toArray.size * k.toNat > (2 ^ 63 - 1) / 8 := by
    have z : (sizeLine : Nat) ≤ (2 ^ 63 - 1) / 8 := by decide
    omega
  have n2 : ¬ (!Builtin.List.listFitsIndex k) = true := by
    rw [fitsIndex_both (by omega) hk]
    decide
  have n3 : ¬ Builtin.List.listTooLong (its.toArray.size * k.toNat) = true := by
    rw [notLongL n0]
    decide
  have f0 : ∀ m : Nat, List.foldl (fun a b => a ++ b) #[] (List.replicate m its.toArray) = (List.replicate m its).flatten.toArray := fun m => by
    have z := foldl_rep its m []
    rw [List.nil_append] at z
    exact z
  have new : List.foldl (fun a b => a ++ b) #[] (List.replicate (if its.toArray.isEmpty = true then 0 else k.toNat) its.toArray)
      = (List.replicate k.toNat its).flatten.toArray := by
    rw [f0]
    cases its with
    | nil => simp
    | cons a r' => rw [if_neg (by simp)]
  have inner := AutoListH.list___mul___list_int_3 l its.toArray n k t n2 n1 n3
  refine wpAny_binaryOp_repeat_ref (T := "list") (U := "int") (by decide) ⟨_, e, rfl⟩
    (fun s' => typeIs_int s' k t) noFill_list_mul F.fills_int_mul F.slot_int_rmul repeat_list F.slot_int_index.lookup ?_
  refine call_meets F.slot_int_rmul (typeIs_int s k t) F.entry_int_rmul (F.args_int_rmul_2 _ _)
    (int___rmul___int_list k t l its.toArray n) ⟨e, rfl, ⟨_, e, rfl⟩, ?_⟩
  refine call_meets F.slot_list_mul ⟨_, e, rfl⟩ F.entry_list_mul (F.args_list_mul_2 _ _) inner ⟨e, ?_⟩
  rw [new]
  refine ⟨.ref _, _, I.lnew (t' := s.toks) (r.rep k.toNat) ?_, rfl, q _ I.fresh⟩
  rw [PyProof.Rows.lm_len_rep_flat, Nat.mul_comm]
  exact hz

section
variable {X : Cx} {ca : Str → Addr}
abbrev big : Nat := 1000000
theorem sz_ok {n : Nat} (h : szOk n = true) : n ≤ sizeLine := Nat.le_trans (of_decide_eq_true h) (by decide)
theorem sz_lt' {n : Nat} (h : szOk n = true) : n < sizeLine := Nat.lt_of_le_of_lt (of_decide_eq_true h) (by decide)
/-- a op b, by data -/
def rBin (K : PySem.W.Frag) (ca : Str → Addr) (op : Operator) : R2 := fun x y H Q => ∃ F σ ρ fr dx dy t, S K ca F H σ ρ fr ∧ RepB K ca F H dx x ∧ RepB K ca F H dy y ∧ binD op dx dy = some t ∧ Fin K ca F H σ ρ fr Q t
theorem RepDs.flatten {K : PySem.W.Frag} {F : Hp} {ds : List D} {vs : List V} (h : RepDs K ca F ds vs) : ∀ n, RepDs K ca F (List.replicate n ds).flatten (List.replicate n vs).flatten
  | 0 => rfl
  | n + 1 => by rw [List.replicate_succ, List.replicate_succ, List.flatten_cons, List.flatten_cons]; exact h.append (RepDs.flatten h n)
theorem rep_flat_len (vs : List V) : ∀ n, ((List.replicate n vs).flatten).length = n * vs.length
  | 0 => by simp
  | n + 1 => by rw [List.replicate_succ, List.flatten_cons, List.length_append, rep_flat_len vs n, Nat.succ_mul]; omega
theorem of_mul {i j : Int} (h : mulOk i j = true) : CMulW i j := by
  unfold mulOk at h
  simpa [CMulW] using h
theorem op_bin (op : Operator) : OpR X (binaryOp op) (rBin X.K ca op) := by
  intro pins s σ H x y v u Q I rx ry h
  obtain ⟨F, σ', ρ, fr, dx, dy, t, st, hx, hy, e, f⟩ := h
  unfold binD at e
  split at e
  · cases e; cases hx; cases hy
    exact op_add pins s σ H _ _ v u Q I rx ry ⟨_, _, rfl, rfl, f.old st rfl⟩
  · split at e
    · rename_i hz
      cases e; cases hx; cases hy
      exact op_add_str pins s σ H _ _ v u Q I rx ry ⟨_, _, rfl, rfl, sz_ok hz, f.old st rfl⟩
    · cases e
  · split at e
    · rename_i xs ys hz
      cases e
      obtain ⟨a, vs, rfl, h1, h2⟩ := hx
      obtain ⟨b, us, rfl, g1, g2⟩ := hy
      refine op_catR pins s σ H _ _ v u Q I rx ry ⟨a, b, vs, us, rfl, rfl, h1, g1, ?_, fun p hp => f.newL st hp (h2.append g2)⟩
      rw [h2.length, g2.length]; exact sz_ok hz
    · cases e
  · split at e
    · rename_i xs ys hz
      cases e
      obtain ⟨a, vs, rfl, h1, h2⟩ := hx
      obtain ⟨b, us, rfl, g1, g2⟩ := hy
      refine op_catA pins s σ H _ _ v u Q I rx ry ⟨a, b, vs, us, rfl, rfl, Evl.ex_t st.ex h1.t, Evl.ex_t st.ex g1.t, ?_, fun z => ?_, fun _ z => ?_, fun _ _ p hp => f.newT st hp (h2.append g2)⟩
      · rw [h2.length, g2.length]; exact sz_ok hz
      · have e1 : xs = [] := by have := h2.length; rw [z] at this; exact List.eq_nil_of_length_eq_zero this.symm
        subst e1
        exact f.old st ⟨b, us, rfl, g1, g2⟩
      · have e1 : ys = [] := by have := g2.length; rw [z] at this; exact List.eq_nil_of_length_eq_zero this.symm
        subst e1
        rw [List.append_nil] at f
        exact f.old st ⟨a, vs, rfl, h1, h2⟩
    · cases e
  · cases e; cases hx; cases hy
    exact op_sub pins s σ H _ _ v u Q I rx ry ⟨_, _, rfl, rfl, f.old st rfl⟩
  · split at e
    · rename_i hz
      cases e; cases hx; cases hy
      exact op_mulW pins s σ H _ _ v u Q I rx ry ⟨_, _, rfl, rfl, of_mul hz, f.old st rfl⟩
    · cases e
  · split at e
    · rename_i xs k hz
      cases e
      obtain ⟨a, vs, rfl, h1, h2⟩ := hx
      cases hy
      simp only [Bool.and_eq_true, decide_eq_true_eq] at hz
      obtain ⟨⟨z1, z3⟩, z2⟩ := hz
      refine rep_listR I rx ry h1 z1 ?_ ?_ (fun p hp => f.newL st hp (h2.flatten _))
      · rw [h2.length]; exact Nat.le_trans z2 (by decide)
      · omega
    · cases e
  · split at e
    · rename_i xs k hz
      cases e
      obtain ⟨a, vs, rfl, h1, h2⟩ := hx
      cases hy
      simp only [Bool.and_eq_true, Bool.not_eq_true', decide_eq_true_eq] at hz
      obtain ⟨⟨⟨z1, z2⟩, z3⟩, z4⟩ := hz
      refine op_repT pins s σ H _ _ v u Q I rx ry ⟨a, k, vs, rfl, rfl, Evl.ex_t st.ex h1.t, ?_, z2, z3, by rw [h2.length]; exact z4, fun p hp => f.newT st hp (h2.flatten _)⟩
      rintro rfl
      have := h2.length
      rw [List.eq_nil_of_length_eq_zero this.symm] at z1
      cases z1
    · cases e
  · split at e
    · rename_i hz
      cases e; cases hx; cases hy
      simp only [divOk, Bool.and_eq_true, decide_eq_true_eq] at hz
      exact op_fdivW pins s σ H _ _ v u Q I rx ry ⟨_, _, rfl, rfl, hz, f.old st rfl⟩
    · cases e
  · split at e
    · rename_i hz
      cases e; cases hx; cases hy
      exact op_mod pins s σ H _ _ v u Q I rx ry ⟨_, _, rfl, rfl, of_decide_eq_true hz, f.old st rfl⟩
    · cases e
  · split at e
    · rename_i i j hz
      cases e; cases hx; cases hy
      simp only [powOk, Bool.and_eq_true, decide_eq_true_eq] at hz
      obtain ⟨t, rfl⟩ := rx
      obtain ⟨t', rfl⟩ := ry
      refine pow_int hz.1 ?_ ⟨.int _, H, I.tok _, ⟨_, rfl⟩, f.old st rfl⟩
      have h1 : Builtin.Int.intBits i ≤ i.natAbs.log2 + 1 := by unfold Builtin.Int.intBits; split <;> omega
      have h2 : (Builtin.Int.intBits i : Int) * j ≤ (i.natAbs.log2 + 1 : Int) * j := Int.mul_le_mul_of_nonneg_right (by omega) hz.1
      omega
    · cases e
  · cases e
end

/-! ### comparisons -/
section
variable {X : Cx} {ca : Str → Addr} {K : PySem.W.Frag} {F H : Hp} {v : V} {d : D}
theorem RepB.flat (h : flatD d = true) (r : RepB K ca F H d v) : flatV v = true := by
  cases d <;> first | (cases h; done) | (cases r; rfl)
theorem rep_flatEq {x : D} {u : V} (hx : flatD x = true) (hd : flatD d = true) (r : RepB K ca F H d v) (q : RepB K ca F H x u) : eqV v u = flatEq d x := by
  cases d <;> first | (cases hd; done) | cases r
  all_goals (cases x <;> first | (cases hx; done) | cases q)
  all_goals first | rfl | (simp only [eqV, flatEq]; first | exact Bool.beq_eq_decide_eq _ _ | rfl)
theorem flats (ds : List D) : ∀ (vs : List V), RepDs K ca F ds vs → ds.all flatD = true → vs.all flatV = true := by
  induction ds with
  | nil => intro vs h _; cases h; rfl
  | cons d ds ih =>
    rintro vs ⟨v, r, rfl, h1, h2⟩ h
    simp only [List.all_cons, Bool.and_eq_true] at h ⊢
    exact ⟨RepB.flat h.1 (RepB.of (H := F) (Ex.refl F) h1), ih r h2 h.2⟩
theorem any_flat {x : D} {u : V} (hx : flatD x = true) (q : RepB K ca F H x u) (ds : List D) : ∀ (vs : List V), RepDs K ca F ds vs → ds.all flatD = true → (Ex F H) → inV u vs = ds.any fun y => flatEq y x := by
  induction ds with
  | nil => intro vs h _ _; cases h; rfl
  | cons d ds ih =>
    rintro vs ⟨v, r, rfl, h1, h2⟩ h e
    simp only [List.all_cons, Bool.and_eq_true] at h
    have i := ih r h2 h.2 e
    unfold inV at i ⊢
    rw [List.any_cons, List.any_cons, i, rep_flatEq hx h.1 (RepB.of e h1) q]
theorem pyAny_eq (p : PyData) : ∀ ps : List PyData, pyAny p ps = ps.any fun z => PyData.eqv z p
  | [] => rfl
  | y :: ys => by rw [pyAny, List.any_cons, pyAny_eq p ys]
theorem look_ks {k : Key} : ∀ {kvs : List (Key × D)} {us : List (Key × V)}, RepKs K ca F kvs us → (∀ d, look kvs k = some d → ∃ v, valV us k = some v ∧ RepD K ca F d v) ∧ (look kvs k = none → valV us k = none)
  | [], _, h => by cases h; exact ⟨fun _ e => (by cases e), fun _ => rfl⟩
  | (j, x) :: r, _, ⟨v, us, hu, h1, h2⟩ => by
    subst hu
    obtain ⟨i1, i2⟩ := look_ks (k := k) h2
    by_cases e : j = k
    · subst e
      refine ⟨fun d h => ⟨v, by simp [valV], ?_⟩, fun h => by simp [look] at h⟩
      simp [look] at h
      subst h
      exact h1
    · refine ⟨fun d h => ?_, fun h => ?_⟩
      · simp [look, List.find?_cons, e] at h
        obtain ⟨w, g1, g2⟩ := i1 d (by simpa [look] using h)
        exact ⟨w, by simpa [valV, List.find?_cons, e] using g1, g2⟩
      · have := i2 (by simpa [look, List.find?_cons, e] using h)
        simpa [valV, List.find?_cons, e] using this
theorem look_ts {k : List Key} : ∀ {kvs : List (List Key × D)} {us : List (List Key × V)}, RepTs K ca F kvs us → (∀ d, look kvs k = some d → ∃ v, valV us k = some v ∧ RepD K ca F d v) ∧ (look kvs k = none → valV us k = none)
  | [], _, h => by cases h; exact ⟨fun _ e => (by cases e), fun _ => rfl⟩
  | (j, x) :: r, _, ⟨v, us, hu, h1, h2⟩ => by
    subst hu
    obtain ⟨i1, i2⟩ := look_ts (k := k) h2
    by_cases e : j = k
    · subst e
      refine ⟨fun d h => ⟨v, by simp [valV], ?_⟩, fun h => by simp [look] at h⟩
      simp [look] at h
      subst h
      exact h1
    · refine ⟨fun d h => ?_, fun h => ?_⟩
      · simp [look, List.find?_cons, e] at h
        obtain ⟨w, g1, g2⟩ := i1 d (by simpa [look] using h)
        exact ⟨w, by simpa [valV, List.find?_cons, e] using g1, g2⟩
      · have := i2 (by simpa [look, List.find?_cons, e] using h)
        simpa [valV, List.find?_cons, e] using this
theorem keyOf_v {x : D} {k : Key} {u : V} (h : keyOf x = some k) (r : RepB K ca F H x u) : u = kV k := by
  cases x <;> first | (cases h; done) | (cases r; cases h; rfl)
theorem keyOf_vD {x : D} {k : Key} {u : V} (h : keyOf x = some k) (r : RepD K ca F x u) : u = kV k := by
  cases x <;> first | (cases h; done) | (cases r; cases h; rfl)
theorem keysOf_v : ∀ {xs : List D} {ks : List Key} {us : List V}, keysOf xs = some ks → RepDs K ca F xs us → us = ks.map kV
  | [], _, _, h, r => by cases h; cases r; rfl
  | x :: xs, _, _, h, ⟨v, r, hu, h1, h2⟩ => by
    subst hu
    simp only [keysOf] at h
    split at h
    · rename_i a b e1 e2
      cases h
      rw [keyOf_vD e1 h1, keysOf_v e2 h2]
      rfl
    · cases h
def GetRel (K : PySem.W.Frag) (ca : Str → Addr) (F : Hp) : Option D → Option V → Prop
  | some z, o => ∃ v, o = some v ∧ RepD K ca F z v
  | none, o => o = none
/-- what a dict has at a key -/
theorem dget_v {k : D} {r : Option D} {x y : V} (h : dget d k = some r) (e : Ex F H) (hd : RepB K ca F H d x) (hk : RepB K ca F H k y) :
    ∃ a o, x = .ref a ∧ DGet H a y o ∧ GetRel K ca F r o := by
  unfold dget at h
  split at h
  · rename_i kvs
    split at h
    · rename_i key e1
      cases h
      obtain ⟨a, us, rfl, h1, h2⟩ := hd
      refine ⟨a, valV us key, rfl, .inl ⟨us, key, h1, keyOf_v e1 hk, rfl⟩, ?_⟩
      obtain ⟨i1, i2⟩ := look_ks (k := key) h2
      cases q : look kvs key with
      | none => exact i2 q
      | some z => exact i1 z q
    · cases h
  · rename_i kvs ks
    split at h
    · rename_i h2l
      split at h
      · rename_i key e1
        cases h
        obtain ⟨a, us, rfl, h1, h2⟩ := hd
        obtain ⟨b, vs, rfl, t1, t2⟩ := hk
        have tb : H b = some (.tup (key.map kV)) := by
          rw [← keysOf_v e1 t2]
          rcases t1 with t1 | t1
          · exact e _ _ t1
          · exact absurd h2l t1.1
        refine ⟨a, valV us key, rfl, .inr ⟨us, key, b, h1, rfl, tb, rfl⟩, ?_⟩
        obtain ⟨i1, i2⟩ := look_ts (k := key) h2
        cases q : look kvs key with
        | none => exact i2 q
        | some z => exact i1 z q
      · cases h
    · cases h
  · cases h
def rCmp (K : PySem.W.Frag) (ca : Str → Addr) (op : CmpOp) : R2 := fun x y H Q => ∃ F dx dy b, Ex F H ∧ RepB K ca F H dx x ∧ RepB K ca F H dy y ∧ cmpD op dx dy = some b ∧ Q (.bl b) H
theorem look_intV {kvs : List (List Key × D)} (h : kvs.all (fun p => intV p.2) = true) {k : List Key} {d : D} (e : look kvs k = some d) : ∃ j, d = .int j := by
  simp only [look, Option.map_eq_some_iff] at e
  obtain ⟨p, h1, rfl⟩ := e
  have := List.all_eq_true.mp h p (List.mem_of_find?_eq_some h1)
  rcases p with ⟨k', d⟩
  cases d <;> first | (cases this; done) | exact ⟨_, rfl⟩
theorem okx_eq {H : Hp} {a2 : List (List Key × D)} {us2 : List (List Key × V)} {ys : List (List Key × Addr × Value)} (r2 : RepTs K ca F a2 us2) (hi : a2.all (fun p => intV p.2) = true) (kt : KT H us2 ys) (k : List Key) (i : Int) (ka : Addr) (t : Tok) :
    PySem.W.okx ys (k, ka, .int i t) = okE2 a2 (k, .int i) := by
  obtain ⟨l1, l2⟩ := look_ts (k := k) r2
  have hv := kt.val k
  simp only [okE2, PySem.W.okx]
  rcases hl : look a2 k with _ | d
  · rw [l2 hl] at hv
    have := RelO.none_of hv
    rw [Option.map_eq_none_iff] at this
    rw [this]
  · obtain ⟨j, rfl⟩ := look_intV hi hl
    obtain ⟨v, e1, e2⟩ := l1 _ hl
    cases e2
    rw [e1] at hv
    obtain ⟨w, e3, e4⟩ := RelO.some_of hv
    obtain ⟨t', rfl⟩ := e4
    rw [Option.map_eq_some_iff] at e3
    obtain ⟨⟨pa, pv⟩, e5, e6⟩ := e3
    simp only at e6
    subst e6
    rw [e5]
theorem dT_ints {H : Hp} : ∀ {a1 : List (List Key × D)} {us1 : List (List Key × V)} {xs : List (List Key × Addr × Value)}, RepTs K ca F a1 us1 → a1.all (fun p => intV p.2) = true → KT H us1 xs → (∀ x ∈ xs, ∃ i t, x.2.2 = Value.int i t) ∧ xs.length = a1.length ∧
    ∀ (a2 : List (List Key × D)) (ys : List (List Key × Addr × Value)), (∀ k i ka t, PySem.W.okx ys (k, ka, .int i t) = okE2 a2 (k, .int i)) → xs.all (PySem.W.okx ys) = a1.all (okE2 a2)
  | [], _, _, r, _, kt => by
    cases r
    cases kt
    exact ⟨by simp, rfl, fun _ _ _ => rfl⟩
  | (k, d) :: a1, _, xs, ⟨v, us, rfl, h1, h2⟩, hi, kt => by
    rw [List.all_cons, Bool.and_eq_true] at hi
    cases d <;> first | (cases hi.1; done) | skip
    rename_i i
    cases h1
    cases kt with
    | @cons p q ps qs hq t =>
      obtain ⟨e1, e2, e3⟩ := hq
      obtain ⟨i1, i2, i3⟩ := dT_ints h2 hi.2 t
      obtain ⟨qk, qa, qv⟩ := q
      simp only at e1 e3
      subst e1
      obtain ⟨tt, rfl⟩ := e3
      refine ⟨fun x hx => ?_, by rw [List.length_cons, List.length_cons, i2], fun a2 ys hk => ?_⟩
      · rcases List.mem_cons.mp hx with rfl | hx
        · exact ⟨_, _, rfl⟩
        · exact i1 x hx
      · rw [List.all_cons, List.all_cons, hk, i3 a2 ys hk]
theorem eq_data {X : Cx} (hu : X.A.units + 64 < cLine) (neg : Bool) {pins : List (Addr × Obj)} {s : Shared} {σ : L2.St} {H : Hp} {x y : V} {u w : Value} {Q : VK} {F : Hp} {dx dy : D} {b : Bool} (I : Inv X pins σ H s) (rx : RelV x u) (ry : RelV y w)
    (e : Ex F H) (hx : RepB X.K ca F H dx x) (hy : RepB X.K ca F H dy y) (h : deqv dx dy = some b) (q : Q (.bl (if neg then !b else b)) H) :
    wpAny (model X.prog X.w) X.A (compareOp (if neg then .NotEq else .Eq) u w) (EP X pins σ Q) X.xe s := by
  have flat : ∀ {p q : V}, x = p → y = q → scal p q = true → decide (p = q) = b → wpAny (model X.prog X.w) X.A (compareOp (if neg then .NotEq else .Eq) u w) (EP X pins σ Q) X.xe s := by
    rintro p r rfl rfl h1 h2
    cases neg with
    | false => exact op_eq pins s σ H _ _ u w Q I rx ry ⟨h1, by rw [h2]; exact q⟩
    | true => exact op_ne pins s σ H _ _ u w Q I rx ry ⟨h1, by rw [h2]; exact q⟩
  unfold deqv at h
  split at h
  · rename_i a1 a2
    split at h
    · rename_i hc
      cases h
      rw [Bool.and_eq_true] at hc
      obtain ⟨a, us, rfl, ha, r1⟩ := hx
      obtain ⟨c, ws, rfl, hb, r2⟩ := hy
      cases rx
      cases ry
      obtain ⟨_, sa, xs, k1, d1⟩ := dt_rd I.hok ha
      obtain ⟨_, sb, ys, k2, d2⟩ := dt_rd I.hok hb
      obtain ⟨i1, l1, f1⟩ := dT_ints r1 hc.1 k1
      obtain ⟨i2, l2, _⟩ := dT_ints r2 hc.2 k2
      have fe : (xs.length == ys.length && xs.all (PySem.W.okx ys)) = eqT a1 a2 := by
        rw [f1 a2 ys (fun k i ka t => okx_eq r2 hc.2 k2 k i ka t), l1, l2]
        rfl
      cases neg with
      | false =>
        refine PySem.W.eq_dT (tupleKind_room_in1 (by omega)) sa sb d1 d2 (by omega) i1 i2 ?_
        rw [fe]
        exact ⟨.bl _, H, I, rfl, q⟩
      | true =>
        refine PySem.W.ne_dT (tupleKind_room_in1 (by omega)) sa sb d1 d2 (by omega) i1 i2 ?_
        rw [fe]
        exact ⟨.bl _, H, I, rfl, q⟩
    · cases h
  · cases h; cases hx; cases hy
    exact flat rfl rfl rfl (by simp)
  · cases h; cases hx; cases hy
    exact flat rfl rfl rfl (by simp)
  · cases h; cases hx; cases hy
    exact flat rfl rfl rfl (by simp)
  · cases h; cases hx; cases hy
    exact flat rfl rfl rfl (by simp)
  · split at h
    · rename_i p r e1 e2
      split at h
      · rename_i hn
        cases h
        rw [Bool.and_eq_true] at hn
        have d1 := dp_of (K := X.K) (ca := ca) dx x p (hx.whole e) e1
        have d2 := dp_of (K := X.K) (ca := ca) dy y r (hy.whole e) e2
        cases neg with
        | false => exact op_eqD hu pins s σ H _ _ u w Q I rx ry ⟨p, r, d1, d2, nice_shaped hn.1 e1, nice_shaped hn.2 e2, q⟩
        | true => exact op_neD hu pins s σ H _ _ u w Q I rx ry ⟨p, r, d1, d2, nice_shaped hn.1 e1, nice_shaped hn.2 e2, q⟩
      · cases h
    · cases h
theorem nices_shaped {ds : List D} {ps : List PyData} (h : ds.all (nice 50) = true) (e : D.pys ds = some ps) : SeqAt.shaped (.list ps) = true := by
  obtain ⟨a, b⟩ := nice_cans 50 ds ps h e
  unfold SeqAt.shaped
  rw [show (PyData.list ps).canLay0 = true by simpa [PyData.canLay0] using a, Bool.true_and]
  exact decide_eq_true (by simp only [PyData.depth]; omega)
theorem in_data {X : Cx} (hu : X.A.units + 65 < cLine) (neg : Bool) {pins : List (Addr × Obj)} {s : Shared} {σ : L2.St} {H : Hp} {x y : V} {u w : Value} {Q : VK} {F : Hp} {dx dy : D} {b : Bool} (I : Inv X pins σ H s) (rx : RelV x u) (ry : RelV y w)
    (e : Ex F H) (hx : RepB X.K ca F H dx x) (hy : RepB X.K ca F H dy y) (h : isIn dx dy = some b) (q : Q (.bl (if neg then !b else b)) H) :
    wpAny (model X.prog X.w) X.A (compareOp (if neg then .NotIn else .In) u w) (EP X pins σ Q) X.xe s := by
  have dict : (∀ r, dget dy dx = some r → b = r.isSome → wpAny (model X.prog X.w) X.A (compareOp (if neg then .NotIn else .In) u w) (EP X pins σ Q) X.xe s) := by
    intro r hr hb
    obtain ⟨a, o, rfl, g, hg⟩ := dget_v hr e hy hx
    have ho : o.isSome = b := by
      rw [hb]
      cases r with
      | none => rw [show o = none from hg]; rfl
      | some z => obtain ⟨v, e1, _⟩ := hg; rw [e1]; rfl
    cases ry
    cases neg with
    | false => exact d_in (by omega) I g rx fun s' I' => ⟨.bl _, H, I', rfl, by rw [ho]; exact q⟩
    | true => exact d_notIn (by omega) I g rx fun s' I' => ⟨.bl _, H, I', rfl, by rw [ho]; exact q⟩
  unfold isIn at h
  split at h
  · rename_i ys
    obtain ⟨a, vs, rfl, h1, h2⟩ := hy
    split at h
    · rename_i hf
      cases h
      rw [Bool.and_eq_true] at hf
      have fx := RepB.flat hf.1 hx
      have fa := flats ys vs h2 hf.2
      have ea := any_flat hf.1 hx ys vs h2 hf.2 e
      cases neg with
      | false => exact op_in_seq pins s σ H _ _ u w Q I rx ry ⟨a, vs, rfl, .inl (.inl h1), fx, fa, by rw [ea]; exact q⟩
      | true => exact op_notIn_seq pins s σ H _ _ u w Q I rx ry ⟨a, vs, rfl, .inl (.inl h1), fx, fa, by rw [ea]; exact q⟩
    · split at h
      · rename_i p qs e1 e2
        split at h
        · rename_i hn
          cases h
          rw [Bool.and_eq_true] at hn
          have d1 := dp_of (K := X.K) (ca := ca) dx x p (hx.whole e) e1
          have d2 : Dp X.K H (.ref a) (.list qs) := .lst (.inl h1) (dps_of (ca := ca) ys vs qs (h2.mono e) e2)
          rw [pyAny_eq] at q
          cases neg with
          | false => exact op_inD hu pins s σ H _ _ u w Q I rx ry ⟨p, qs, d1, d2, nice_shaped hn.1 e1, nices_shaped hn.2 e2, q⟩
          | true => exact op_notInD hu pins s σ H _ _ u w Q I rx ry ⟨p, qs, d1, d2, nice_shaped hn.1 e1, nices_shaped hn.2 e2, q⟩
        · cases h
      · cases h
  · rename_i ys
    obtain ⟨a, vs, rfl, h1, h2⟩ := hy
    split at h
    · rename_i hf
      cases h
      rw [Bool.and_eq_true] at hf
      have fx := RepB.flat hf.1 hx
      have fa := flats ys vs h2 hf.2
      have ea := any_flat hf.1 hx ys vs h2 hf.2 e
      cases neg with
      | false => exact op_in_seq pins s σ H _ _ u w Q I rx ry ⟨a, vs, rfl, .inr (Evl.ex_t e h1.t), fx, fa, by rw [ea]; exact q⟩
      | true => exact op_notIn_seq pins s σ H _ _ u w Q I rx ry ⟨a, vs, rfl, .inr (Evl.ex_t e h1.t), fx, fa, by rw [ea]; exact q⟩
    · cases h
  · rename_i z c
    split at h
    · rename_i k hk
      cases h; cases hx; cases hy
      have ec : c = ⟨#[k]⟩ := by
        obtain ⟨⟨l⟩⟩ := c
        have : l = [k] := hk
        rw [this]
      subst ec
      cases neg with
      | false => exact op_in_sign pins s σ H _ _ u w Q I rx ry ⟨k, z, rfl, rfl, q⟩
      | true => exact op_notIn_sign pins s σ H _ _ u w Q I rx ry ⟨k, z, rfl, rfl, q⟩
    · cases h
  · rename_i kvs
    simp only [Option.map_eq_some_iff] at h
    obtain ⟨r, hr, hb⟩ := h
    exact dict r hr hb.symm
  · rename_i kvs
    simp only [Option.map_eq_some_iff] at h
    obtain ⟨r, hr, hb⟩ := h
    exact dict r hr hb.symm
  · cases h
theorem not_non (h : d ≠ .non) (r : RepB K ca F H d v) : v ≠ .non := by
  rintro rfl
  cases d <;> simp [RepB, RepD] at r h
theorem op_cmp {X : Cx} (hu : X.A.units + 65 < cLine) (op : CmpOp) : OpR X (compareOp op) (rCmp X.K ca op) := by
  intro pins s σ H x y u w Q I rx ry h
  obtain ⟨F, dx, dy, b, e, hx, hy, h, q⟩ := h
  have lem : ∀ {i j : Int}, dx = .int i → dy = .int j → x = .int i ∧ y = .int j := by
    rintro i j rfl rfl
    cases hx; cases hy
    exact ⟨rfl, rfl⟩
  cases op with
  | Eq => exact eq_data (by omega) false I rx ry e hx hy h q
  | NotEq =>
    simp only [cmpD, Option.map_eq_some_iff] at h
    obtain ⟨c, h, rfl⟩ := h
    exact eq_data (by omega) true I rx ry e hx hy h q
  | In => exact in_data hu false I rx ry e hx hy h q
  | NotIn =>
    simp only [cmpD, Option.map_eq_some_iff] at h
    obtain ⟨c, h, rfl⟩ := h
    exact in_data hu true I rx ry e hx hy h q
  | Lt =>
    simp only [cmpD] at h
    split at h
    · cases h
      obtain ⟨rfl, rfl⟩ := lem rfl rfl
      exact op_lt pins s σ H _ _ u w Q I rx ry ⟨_, _, rfl, rfl, q⟩
    · cases h
  | LtE =>
    simp only [cmpD] at h
    split at h
    · cases h
      obtain ⟨rfl, rfl⟩ := lem rfl rfl
      exact op_le pins s σ H _ _ u w Q I rx ry ⟨_, _, rfl, rfl, q⟩
    · cases h
  | Gt =>
    simp only [cmpD] at h
    split at h
    · cases h
      obtain ⟨rfl, rfl⟩ := lem rfl rfl
      exact op_gt pins s σ H _ _ u w Q I rx ry ⟨_, _, rfl, rfl, q⟩
    · cases h
  | GtE =>
    simp only [cmpD] at h
    split at h
    · cases h
      obtain ⟨rfl, rfl⟩ := lem rfl rfl
      exact op_ge pins s σ H _ _ u w Q I rx ry ⟨_, _, rfl, rfl, q⟩
    · cases h
  | Is =>
    simp only [cmpD] at h
    split at h
    · cases h; cases hx; cases hy
      exact op_isN pins s σ H _ _ u w Q I rx ry ⟨rfl, q⟩
    · rename_i hne
      cases h; cases hy
      have := not_non (fun z => hne z) hx
      exact op_isN pins s σ H _ _ u w Q I rx ry ⟨rfl, by rw [decide_eq_false this]; exact q⟩
    · cases h; cases hx; cases hy
      exact op_isBl pins s σ H _ _ u w Q I rx ry ⟨_, _, rfl, rfl, by rw [← Bool.beq_eq_decide_eq]; exact q⟩
    · cases h
  | IsNot =>
    simp only [cmpD] at h
    split at h
    · cases h; cases hx; cases hy
      exact op_notN pins s σ H _ _ u w Q I rx ry ⟨rfl, q⟩
    · rename_i hne
      cases h; cases hy
      have := not_non (fun z => hne z) hx
      exact op_notN pins s σ H _ _ u w Q I rx ry ⟨rfl, by rw [decide_eq_false this]; exact q⟩
    · cases h; cases hx; cases hy
      exact op_notBl pins s σ H _ _ u w Q I rx ry ⟨_, _, rfl, rfl, by rw [← Bool.beq_eq_decide_eq]; exact q⟩
    · cases h
end
end Mi

set_option Elab.async false
set_option linter.all false
set_option maxRecDepth 100000
set_option maxHeartbeats 1000000
/-! M2c: items, slices, built-in functions, methods, by values. -/
namespace Mi
open PySem PySem.Spec PyProof.Rows L2
open Evl (Ex)

section
variable {X : Cx} {ca : Str → Addr} {K : PySem.W.Frag} {F H : Hp} {v : V} {d : D}
theorem RepDs.atI {ds : List D} {vs : List V} {i : Int} {d : D} (h : RepDs K ca F ds vs) (e : atI ds i = some d) : ∃ v, L2.atI vs i = some v ∧ RepD K ca F d v := by
  unfold L2.atI at e ⊢
  rw [h.length]
  cases q : ixN ds.length i with
  | none => rw [q] at e; cases e
  | some j =>
    rw [q] at e
    exact h.get (i := j) e
def rIxD (K : PySem.W.Frag) (ca : Str → Addr) : R2 := fun x y H Q => ∃ F dx dy d, Ex F H ∧ RepB K ca F H dx x ∧ RepB K ca F H dy y ∧ ixD dx dy = some d ∧ ∀ v, RepD K ca F d v → Q v H
theorem ix_D (hu : X.A.units + 1 < cLine) : IxR X (rIxD X.K ca) := by
  intro value slice pins s σ H x y u w Q I rx ry h hs
  obtain ⟨F, dx, dy, d, e, hx, hy, h, q⟩ := h
  have dict : ∀ z, dget dx dy = some (some z) → d = z → wpAny (model X.prog X.w) X.A (subscriptTail value slice u w) (EP X pins σ Q) X.xe s := by
    rintro z hz rfl
    obtain ⟨a, o, rfl, g, v, rfl, hv⟩ := dget_v hz e hx hy
    cases rx
    exact tail_any (dict_typeIs I g) PySem.F.slot_dict_getitem.lookup (d_getItem hu I g ry fun w' s' I' r' => ⟨v, H, I', r', q v hv⟩) hs
  unfold ixD at h
  split at h
  · cases hy
    obtain ⟨a, vs, rfl, h1, h2⟩ := hx
    obtain ⟨v, e1, e2⟩ := h2.atI h
    exact ix_list value slice pins s σ H _ _ u w Q I rx ry ⟨a, vs, _, v, rfl, rfl, .inl h1, e1, q v e2⟩ hs
  · cases hy
    obtain ⟨a, vs, rfl, h1, h2⟩ := hx
    obtain ⟨v, e1, e2⟩ := h2.atI h
    exact ix_tup value slice pins s σ H _ _ u w Q I rx ry ⟨a, vs, _, v, rfl, rfl, Evl.ex_t e h1.t, e1, q v e2⟩ hs
  · split at h
    · rename_i hz
      cases hx; cases hy
      simp only [Option.map_eq_some_iff] at h
      obtain ⟨c, hc, rfl⟩ := h
      exact ix_str value slice pins s σ H _ _ u w Q I rx ry ⟨_, _, c, rfl, rfl, sz_ok hz, hc, q _ rfl⟩ hs
    · cases h
  · split at h
    · rename_i v' hv
      cases h
      exact dict _ hv rfl
    · cases h
  · split at h
    · rename_i v' hv
      cases h
      exact dict _ hv rfl
    · cases h
  · cases h

/-! ### slices -/
theorem RepDs.cut {ds : List D} {vs : List V} (h : RepDs K ca F ds vs) (lo hi : Option Int) : RepDs K ca F (cutD ds lo hi) (cutV vs lo hi) := by
  unfold cutD cutV
  rw [h.length]
  exact (h.drop _).take _
theorem cutD_whole {ds : List D} {lo hi : Option Int} (h : HT.sIx ds.length 0 lo = 0 ∧ HT.sIx ds.length ds.length hi = ds.length) : cutD ds lo hi = ds := by
  unfold cutD
  rw [h.1, h.2]
  simp
def rSlD (K : PySem.W.Frag) (ca : Str → Addr) : V → Option Int → Option Int → Hp → VK → Prop := fun x lo hi H Q =>
  ∃ F σ ρ fr dx t, S K ca F H σ ρ fr ∧ RepB K ca F H dx x ∧ sliceD dx lo hi = some t ∧ Fin K ca F H σ ρ fr Q t
theorem sl_D : SlR X (rSlD X.K ca) := by
  intro pins s σ H x u vl vu lo hi sl Q I rx hs pl pu h
  obtain ⟨F, σ', ρ, fr, dx, t, st, hx, h, f⟩ := h
  unfold sliceD at h
  split at h
  · cases h
    obtain ⟨a, vs, rfl, h1, h2⟩ := hx
    exact sl_list pins s σ H _ u vl vu lo hi sl Q I rx hs pl pu ⟨a, vs, rfl, .inl h1, fun p hp => f.newL st hp (h2.cut lo hi)⟩
  · rename_i ds
    cases h
    obtain ⟨a, vs, rfl, h1, h2⟩ := hx
    refine sl_tupA pins s σ H _ u vl vu lo hi sl Q I rx hs pl pu ⟨a, vs, rfl, Evl.ex_t st.ex h1.t, fun z => ?_, fun _ p hp => f.newT st hp (h2.cut lo hi)⟩
    rw [h2.length] at z
    rw [cutD_whole z] at f
    exact f.old st ⟨a, vs, rfl, h1, h2⟩
  · split at h
    · rename_i hz
      cases h; cases hx
      exact sl_str pins s σ H _ u vl vu lo hi sl Q I rx hs pl pu ⟨_, rfl, sz_ok hz, f.old st rfl⟩
    · cases h
  · cases h

/-! ### built-in functions -/
/-- the data of several values -/
def RepBs (K : PySem.W.Frag) (ca : Str → Addr) (F H : Hp) : List D → List V → Prop
  | [], vs => vs = []
  | d :: ds, vs => ∃ v r, vs = v :: r ∧ RepB K ca F H d v ∧ RepBs K ca F H ds r
theorem rep_ints : ∀ {ds : List D} {vs : List V} {ns : List Int}, RepDs K ca F ds vs → intsD ds = some ns → vs = ns.map V.int
  | [], _, _, h, e => by cases h; cases e; rfl
  | .int i :: ds, _, _, ⟨v, r, hv, h1, h2⟩, e => by
    simp only [intsD, Option.map_eq_some_iff] at e
    obtain ⟨ns, e, rfl⟩ := e
    cases h1
    rw [hv, rep_ints h2 e]
    rfl
  | .non :: _, _, _, _, e | .bl _ :: _, _, _, _, e | .str _ :: _, _, _, _, e | .lst _ :: _, _, _, _, e | .tup _ :: _, _, _, _, e | .dK _ :: _, _, _, _, e
  | .dT _ :: _, _, _, _, e | .obj _ _ :: _, _, _, _, e | .cls _ :: _, _, _, _, e | .ty _ :: _, _, _, _, e => by cases e
theorem rep_bools : ∀ {ds : List D} {vs : List V} {ns : List Bool}, RepDs K ca F ds vs → boolsD ds = some ns → vs = ns.map V.bl
  | [], _, _, h, e => by cases h; cases e; rfl
  | .bl i :: ds, _, _, ⟨v, r, hv, h1, h2⟩, e => by
    simp only [boolsD, Option.map_eq_some_iff] at e
    obtain ⟨ns, e, rfl⟩ := e
    cases h1
    rw [hv, rep_bools h2 e]
    rfl
  | .non :: _, _, _, _, e | .int _ :: _, _, _, _, e | .str _ :: _, _, _, _, e | .lst _ :: _, _, _, _, e | .tup _ :: _, _, _, _, e | .dK _ :: _, _, _, _, e
  | .dT _ :: _, _, _, _, e | .obj _ _ :: _, _, _, _, e | .cls _ :: _, _, _, _, e | .ty _ :: _, _, _, _, e => by cases e
theorem rep_strs : ∀ {ds : List D} {vs : List V} {ns : List Str}, RepDs K ca F ds vs → strsD ds = some ns → vs = ns.map V.str
  | [], _, _, h, e => by cases h; cases e; rfl
  | .str i :: ds, _, _, ⟨v, r, hv, h1, h2⟩, e => by
    simp only [strsD, Option.map_eq_some_iff] at e
    obtain ⟨ns, e, rfl⟩ := e
    cases h1
    rw [hv, rep_strs h2 e]
    rfl
  | .non :: _, _, _, _, e | .int _ :: _, _, _, _, e | .bl _ :: _, _, _, _, e | .lst _ :: _, _, _, _, e | .tup _ :: _, _, _, _, e | .dK _ :: _, _, _, _, e
  | .dT _ :: _, _, _, _, e | .obj _ _ :: _, _, _, _, e | .cls _ :: _, _, _, _, e | .ty _ :: _, _, _, _, e => by cases e
theorem maxI_is : ∀ {ns : List Int} {m : Int}, maxI ns = some m → 0 < ns.length ∧ ∀ k, k ∈ ns → (∀ y, y ∈ ns → y ≤ k) → k = m
  | [], _, e => by cases e
  | [x], _, e => by
    cases e
    exact ⟨by simp, fun k hk _ => by simpa using hk⟩
  | x :: y :: r, m, e => by
    simp only [maxI, Option.map_eq_some_iff] at e
    obtain ⟨m', e, rfl⟩ := e
    refine ⟨by simp, fun k hk hle => ?_⟩
    have bound : ∀ {l : List Int} {m : Int}, maxI l = some m → m ∈ l ∧ ∀ y, y ∈ l → y ≤ m := by
      intro l
      induction l with
      | nil => intro m e; cases e
      | cons a l ih =>
        intro m e
        cases l with
        | nil => cases e; simp
        | cons b l =>
          simp only [maxI, Option.map_eq_some_iff] at e
          obtain ⟨m', e, rfl⟩ := e
          obtain ⟨i1, i2⟩ := ih e
          refine ⟨?_, fun y hy => ?_⟩
          · by_cases h : a ≤ m'
            · rw [Int.max_eq_right h]; exact List.mem_cons_of_mem _ i1
            · rw [Int.max_eq_left (by omega)]; exact List.mem_cons_self ..
          · rcases List.mem_cons.mp hy with rfl | hy
            · omega
            · have := i2 y hy; omega
    obtain ⟨b1, b2⟩ := bound (l := x :: y :: r) (m := max x m') (by simp only [maxI] at e ⊢; rw [e]; rfl)
    have h1 := b2 k hk
    have h2 := hle _ b1
    omega
theorem minI_is : ∀ {ns : List Int} {m : Int}, minI ns = some m → 0 < ns.length ∧ ∀ k, k ∈ ns → (∀ y, y ∈ ns → k ≤ y) → k = m
  | [], _, e => by cases e
  | [x], _, e => by
    cases e
    exact ⟨by simp, fun k hk _ => by simpa using hk⟩
  | x :: y :: r, m, e => by
    simp only [minI, Option.map_eq_some_iff] at e
    obtain ⟨m', e, rfl⟩ := e
    refine ⟨by simp, fun k hk hle => ?_⟩
    have bound : ∀ {l : List Int} {m : Int}, minI l = some m → m ∈ l ∧ ∀ y, y ∈ l → m ≤ y := by
      intro l
      induction l with
      | nil => intro m e; cases e
      | cons a l ih =>
        intro m e
        cases l with
        | nil => cases e; simp
        | cons b l =>
          simp only [minI, Option.map_eq_some_iff] at e
          obtain ⟨m', e, rfl⟩ := e
          obtain ⟨i1, i2⟩ := ih e
          refine ⟨?_, fun y hy => ?_⟩
          · by_cases h : a ≤ m'
            · rw [Int.min_eq_left h]; exact List.mem_cons_self ..
            · rw [Int.min_eq_right (by omega)]; exact List.mem_cons_of_mem _ i1
          · rcases List.mem_cons.mp hy with rfl | hy
            · omega
            · have := i2 y hy; omega
    obtain ⟨b1, b2⟩ := bound (l := x :: y :: r) (m := min x m') (by simp only [minI] at e ⊢; rw [e]; rfl)
    have h1 := b2 k hk
    have h2 := hle _ b1
    omega
theorem rep_key : ∀ ks : List Key, RepDs K ca F (ks.map dkey) (ks.map kV)
  | [] => rfl
  | .inl i :: ks => ⟨.int i, _, rfl, rfl, rep_key ks⟩
  | .inr s :: ks => ⟨.str s, _, rfl, rfl, rep_key ks⟩
theorem rep_keys {F0 : Hp} : ∀ {kvs : List (List Key × D)} {us : List (List Key × V)} {bs : List Addr}, RepTs K ca F0 kvs us → Paired (fun p b => F b = some (.tup (p.1.map kV))) us bs → RepDs K ca F (kvs.map fun p => keyTuple p.1) (bs.map V.ref)
  | [], _, _, h, p => by
    cases h
    cases p
    rfl
  | (k, d) :: kvs, _, _, h, p => by
    obtain ⟨v, r, rfl, h1, h2⟩ := h
    cases p with
    | cons p1 p2 => exact ⟨_, _, rfl, ⟨_, _, rfl, .inl p1, rep_key k⟩, rep_keys h2 p2⟩
theorem rep_keyL : ∀ {kvs : List (Key × D)} {us : List (Key × V)}, RepKs K ca F kvs us → RepDs K ca F (kvs.map fun p => dkey p.1) (us.map fun kv => kV kv.1)
  | [], _, h => by
    cases h
    rfl
  | (.inl i, d) :: kvs, _, h => by
    obtain ⟨v, r, rfl, h1, h2⟩ := h
    exact ⟨.int i, _, rfl, rfl, rep_keyL h2⟩
  | (.inr s, d) :: kvs, _, h => by
    obtain ⟨v, r, rfl, h1, h2⟩ := h
    exact ⟨.str s, _, rfl, rfl, rep_keyL h2⟩
/-- the built-in function's value in the machine -/
def biVal : Bi → Option Value
  | .len => some (.builtin "len") | .abs => some (.builtin "abs") | .max2 => some (.builtin "max") | .min2 => some (.builtin "min")
  | .maxL => some (.builtin "max") | .minL => some (.builtin "min") | .sum => some (.builtin "sum") | .all => some (.builtin "all") | .any => some (.builtin "any")
  | .int => some (.type "int") | .list => some (.type "list") | .tuple => some (.type "tuple") | .str => some (.type "str") | .dictc => some (.type "dict")
  | _ => none
def rBi (K : PySem.W.Frag) (ca : Str → Addr) (b : Bi) : List V → Hp → VK → Prop := fun vs H Q =>
  ∃ F σ ρ fr ds t, S K ca F H σ ρ fr ∧ RepBs K ca F H ds vs ∧ biD b ds = some t ∧ Fin K ca F H σ ρ fr Q t
theorem RepBs.one {d : D} {vs : List V} (h : RepBs K ca F H [d] vs) : ∃ v, vs = [v] ∧ RepB K ca F H d v := by
  obtain ⟨v, r, rfl, h1, h2⟩ := h
  cases h2
  exact ⟨v, rfl, h1⟩
theorem RepBs.two {d e : D} {vs : List V} (h : RepBs K ca F H [d, e] vs) : ∃ v u, vs = [v, u] ∧ RepB K ca F H d v ∧ RepB K ca F H e u := by
  obtain ⟨v, r, rfl, h1, h2⟩ := h
  obtain ⟨u, r, rfl, h2, h3⟩ := h2
  cases h3
  exact ⟨v, u, rfl, h1, h2⟩
theorem bi_D (hc : X.calm = true) (b : Bi) {f : Value} (hf : biVal b = some f) : CallR X f (rBi X.K ca b) := by
  intro pins s σ H xs us Q I r h
  obtain ⟨F, σ', ρ, fr, ds, t, st, hx, h, fin⟩ := h
  have e := st.ex
  have lst : ∀ {ys : List D} {v : V}, RepB X.K ca F H (.lst ys) v → ∃ a vs, v = .ref a ∧ Rd H a (.lst vs) ∧ RepDs X.K ca F ys vs := fun h => h
  have tup : ∀ {ys : List D} {v : V}, RepB X.K ca F H (.tup ys) v → ∃ a vs, v = .ref a ∧ SqT X.K H a vs ∧ RepDs X.K ca F ys vs := fun h => by
    obtain ⟨a, vs, e1, e2, e3⟩ := h
    exact ⟨a, vs, e1, Evl.ex_t e e2.t, e3⟩
  unfold biD at h
  cases b <;> simp only [biVal, Option.some.injEq, reduceCtorEq] at hf <;> subst hf
  case len =>
    split at h <;> first | (cases h; done) | skip
    all_goals (rename_i heq; first | (cases heq; done) | skip)
    · cases h
      obtain ⟨v, rfl, hv⟩ := hx.one
      obtain ⟨a, vs, rfl, h1, h2⟩ := lst hv
      exact call_len_seq pins s σ H _ us Q I r ⟨a, vs, rfl, .inl (.inl h1), by rw [h2.length]; exact fin.old st rfl⟩
    · cases h
      obtain ⟨v, rfl, hv⟩ := hx.one
      obtain ⟨a, vs, rfl, h1, h2⟩ := tup hv
      exact call_len_seq pins s σ H _ us Q I r ⟨a, vs, rfl, .inr h1, by rw [h2.length]; exact fin.old st rfl⟩
    · split at h
      · rename_i hz
        cases h
        obtain ⟨v, rfl, hv⟩ := hx.one
        cases hv
        exact call_len_str pins s σ H _ us Q I r ⟨_, rfl, sz_ok hz, fin.old st rfl⟩
      · cases h
  case int =>
    split at h <;> first | (cases h; done) | skip
    all_goals (rename_i heq; first | (cases heq; done) | skip)
    · cases h
      obtain ⟨v, rfl, hv⟩ := hx.one
      cases hv
      exact call_int1 pins s σ H _ us Q I r (.inl ⟨_, rfl, fin.old st rfl⟩)
    · cases h
      obtain ⟨v, rfl, hv⟩ := hx.one
      cases hv
      exact call_int1 pins s σ H _ us Q I r (.inr ⟨_, rfl, fin.old st rfl⟩)
  case abs =>
    split at h <;> first | (cases h; done) | skip
    all_goals (rename_i heq; first | (cases heq; done) | skip)
    · cases h
      obtain ⟨v, rfl, hv⟩ := hx.one
      cases hv
      exact call_abs pins s σ H _ us Q I r ⟨_, rfl, fin.old st rfl⟩
  case max2 =>
    split at h <;> first | (cases h; done) | skip
    all_goals (rename_i heq; first | (cases heq; done) | skip)
    · cases h
      obtain ⟨v, w, rfl, hv, hw⟩ := hx.two
      cases hv; cases hw
      exact call_max2 hc pins s σ H _ us Q I r ⟨_, _, rfl, fin.old st rfl⟩
  case min2 =>
    split at h <;> first | (cases h; done) | skip
    all_goals (rename_i heq; first | (cases heq; done) | skip)
    · cases h
      obtain ⟨v, w, rfl, hv, hw⟩ := hx.two
      cases hv; cases hw
      exact call_min2 hc pins s σ H _ us Q I r ⟨_, _, rfl, fin.old st rfl⟩
  case maxL =>
    split at h <;> first | (cases h; done) | skip
    all_goals (rename_i heq; first | (cases heq; done) | skip)
    · simp only [Option.map_eq_some_iff, Option.bind_eq_some_iff] at h
      obtain ⟨m, ⟨ns, e1, e2⟩, rfl⟩ := h
      obtain ⟨v, rfl, hv⟩ := hx.one
      obtain ⟨a, vs, rfl, h1, h2⟩ := lst hv
      have e3 := rep_ints h2 e1
      subst e3
      obtain ⟨l0, l1⟩ := maxI_is e2
      exact cr_max hc pins s σ H _ us Q I r ⟨a, ns, rfl, .inl h1, l0, fun k hk hle => by rw [l1 k hk hle]; exact fin.old st rfl⟩
  case minL =>
    split at h <;> first | (cases h; done) | skip
    all_goals (rename_i heq; first | (cases heq; done) | skip)
    · simp only [Option.map_eq_some_iff, Option.bind_eq_some_iff] at h
      obtain ⟨m, ⟨ns, e1, e2⟩, rfl⟩ := h
      obtain ⟨v, rfl, hv⟩ := hx.one
      obtain ⟨a, vs, rfl, h1, h2⟩ := lst hv
      have e3 := rep_ints h2 e1
      subst e3
      obtain ⟨l0, l1⟩ := minI_is e2
      exact cr_min hc pins s σ H _ us Q I r ⟨a, ns, rfl, .inl h1, l0, fun k hk hle => by rw [l1 k hk hle]; exact fin.old st rfl⟩
  case sum =>
    split at h <;> first | (cases h; done) | skip
    all_goals (rename_i heq; first | (cases heq; done) | skip)
    · simp only [Option.map_eq_some_iff] at h
      obtain ⟨ns, e1, rfl⟩ := h
      obtain ⟨v, rfl, hv⟩ := hx.one
      obtain ⟨a, vs, rfl, h1, h2⟩ := lst hv
      have e3 := rep_ints h2 e1
      subst e3
      exact cr_sum hc pins s σ H _ us Q I r ⟨a, ns, rfl, .inl h1, fin.old st rfl⟩
  case all =>
    split at h <;> first | (cases h; done) | skip
    all_goals (rename_i heq; first | (cases heq; done) | skip)
    · simp only [Option.map_eq_some_iff] at h
      obtain ⟨ns, e1, rfl⟩ := h
      obtain ⟨v, rfl, hv⟩ := hx.one
      obtain ⟨a, vs, rfl, h1, h2⟩ := lst hv
      have e3 := rep_bools h2 e1
      subst e3
      exact cr_all hc pins s σ H _ us Q I r ⟨a, ns, rfl, .inl h1, fin.old st rfl⟩
  case any =>
    split at h <;> first | (cases h; done) | skip
    all_goals (rename_i heq; first | (cases heq; done) | skip)
    · simp only [Option.map_eq_some_iff] at h
      obtain ⟨ns, e1, rfl⟩ := h
      obtain ⟨v, rfl, hv⟩ := hx.one
      obtain ⟨a, vs, rfl, h1, h2⟩ := lst hv
      have e3 := rep_bools h2 e1
      subst e3
      exact cr_any hc pins s σ H _ us Q I r ⟨a, ns, rfl, .inl h1, fin.old st rfl⟩
  case list =>
    split at h <;> first | (cases h; done) | skip
    all_goals (rename_i heq; first | (cases heq; done) | skip)
    · cases h
      obtain ⟨v, rfl, hv⟩ := hx.one
      obtain ⟨a, vs, rfl, h1, h2⟩ := lst hv
      exact call_list_of pins s σ H _ us Q I r ⟨a, vs, rfl, .inl (.inl h1), fun p hp => fin.newL st hp h2⟩
    · cases h
      obtain ⟨v, rfl, hv⟩ := hx.one
      obtain ⟨a, vs, rfl, h1, h2⟩ := tup hv
      exact call_list_of pins s σ H _ us Q I r ⟨a, vs, rfl, .inr h1, fun p hp => fin.newL st hp h2⟩
    · cases h
      obtain ⟨v, rfl, hv⟩ := hx.one
      obtain ⟨a, ws, rfl, h1, h2⟩ := hv
      refine call_list_dT hc pins s σ H _ us Q I r ⟨a, ws, rfl, h1, fun p bs hp hk => ?_⟩
      obtain ⟨F', e1, g1, ok1⟩ := st.ok.tupsF hk
      exact fin _ _ F' e1 ((st.of ok1).alloc hp (u := .lst (bs.map V.ref)) (d := .lst _) (rep_keys h2 g1))
    · cases h
      obtain ⟨v, rfl, hv⟩ := hx.one
      obtain ⟨a, ws, rfl, h1, h2⟩ := hv
      exact call_listD hc pins s σ H _ us Q I r ⟨a, ws, rfl, h1, fun p hp => fin.newL st hp (rep_keyL h2)⟩
  case tuple =>
    split at h <;> first | (cases h; done) | skip
    all_goals (rename_i heq; first | (cases heq; done) | skip)
    · cases h
      obtain ⟨v, rfl, hv⟩ := hx.one
      obtain ⟨a, vs, rfl, h1, h2⟩ := lst hv
      exact call_tuple_of pins s σ H _ us Q I r ⟨a, vs, rfl, .inl ⟨.inl h1, fun p hp => fin.newT st hp h2⟩⟩
    · cases h
      obtain ⟨v, rfl, hv⟩ := hx.one
      obtain ⟨a, vs, rfl, h1, h2⟩ := hv
      exact call_tuple_of pins s σ H _ us Q I r ⟨a, vs, rfl, .inr ⟨Evl.ex_t e h1.t, fin.old st ⟨a, vs, rfl, h1, h2⟩⟩⟩
  case dictc =>
    split at h <;> first | (cases h; done) | skip
    all_goals (rename_i heq; first | (cases heq; done) | skip)
    · cases h
      obtain ⟨v, rfl, hv⟩ := hx.one
      obtain ⟨a, ws, rfl, h1, h2⟩ := hv
      refine call_dictD pins s σ H _ us Q I r ⟨a, ws, rfl, h1, fun p hp => ?_⟩
      exact fin.new st hp (d := .dK _) (u := .dK ws) h2
  case str =>
    split at h <;> first | (cases h; done) | skip
    all_goals (rename_i heq; first | (cases heq; done) | skip)
    · cases h
      obtain ⟨v, rfl, hv⟩ := hx.one
      cases hv
      exact SkE.call_str_str pins s σ H _ us Q I r ⟨_, rfl, fin.old st rfl⟩
    · split at h
      · rename_i hz
        cases h
        obtain ⟨v, rfl, hv⟩ := hx.one
        cases hv
        exact call_str_int pins s σ H _ us Q I r ⟨_, rfl, of_decide_eq_true hz, fin.old st rfl⟩
      · cases h
end
end Mi

set_option Elab.async false
set_option linter.all false
set_option maxRecDepth 100000
set_option maxHeartbeats 1000000
/-! M2d: readings. -/
namespace Mi
open PySem PySem.Spec PyProof.Rows L2
open Evl (Ex)

def Post {α : Type} (r : R α) (P : α → Sl → Prop) : Prop := match r with
  | .ok a ρ => P a ρ
  | _ => False
theorem Post.bind {α β : Type} {r : R α} {f : α → Sl → R β} {P : β → Sl → Prop} (h : Post (r.bind f) P) : Post r fun a ρ => Post (f a ρ) P := by
  cases r with
  | ok a ρ => exact h
  | exc _ _ => exact h
  | bad => exact h
theorem Post.mono {α : Type} {r : R α} {P Q : α → Sl → Prop} (h : Post r P) (i : ∀ a ρ, P a ρ → Q a ρ) : Post r Q := by
  cases r with
  | ok a ρ => exact i a ρ h
  | exc _ _ => exact h
  | bad => exact h
theorem Post.opt {α : Type} {o : Option α} {ρ : Sl} {P : α → Sl → Prop} (h : Post (R.opt o ρ) P) : ∃ a, o = some a ∧ P a ρ := by
  cases o with
  | none => exact h.elim
  | some a => exact ⟨a, rfl, h⟩

section
variable (K : PySem.W.Frag) (ca : Str → Addr)
/-- an expression's reading -/
def tE (f : Sl → R T) : TE := fun σ H Q => ∃ F ρ fr, S K ca F H σ ρ fr ∧ Post (f ρ) fun t ρ' => Fin K ca F H σ ρ' fr Q t
/-- a test's -/
def tT (f : Sl → R T) : TT := fun σ H Q => ∃ F ρ fr, S K ca F H σ ρ fr ∧ Post (f ρ) fun t ρ' => ∃ b, truth t = some b ∧ ∀ H' F', Ex F F' → S K ca F' H' σ ρ' fr → Q b H'
/-- arguments, shared -/
def tEs (f : Sl → R (List D)) : TA := fun σ H Q => ∃ F ρ fr, S K ca F H σ ρ fr ∧ Post (f ρ) fun ds ρ' => ∀ vs H' F', Ex F F' → S K ca F' H' σ ρ' fr → RepDs K ca F' ds vs → Q vs H'
/-- operands -/
def OpV (σ : L2.St) : Opd → V → Prop
  | .tmp _, _ => True
  | .slot i, v => σ[i]? = some (some v)
def tm : List Opd → List V → List (V × T)
  | .tmp t :: os, v :: vs => tm os vs ++ [(v, t)]
  | .slot _ :: os, _ :: vs => tm os vs
  | _, _ => []
def OpVs (σ : L2.St) : List Opd → List V → Prop
  | [], vs => vs = []
  | o :: os, vs => ∃ v r, vs = v :: r ∧ OpV σ o v ∧ OpVs σ os r
def tO (f : Sl → R Opd) : TE := fun σ H Q => ∃ F ρ fr, S K ca F H σ ρ fr ∧ Post (f ρ) fun o ρ' => ∀ v H' F', Ex F F' → S K ca F' H' σ ρ' (tm [o] [v] ++ fr) → OpV σ o v → Q v H'
def tOs (f : Sl → R (List Opd)) : TA := fun σ H Q => ∃ F ρ fr, S K ca F H σ ρ fr ∧ Post (f ρ) fun os ρ' => ∀ vs H' F', Ex F F' → S K ca F' H' σ ρ' (tm os vs ++ fr) → OpVs σ os vs → Q vs H'
def tI (f : Sl → R (Option Int)) : TO := fun σ H Q => ∃ F ρ fr, S K ca F H σ ρ fr ∧ Post (f ρ) fun o ρ' => ∀ H' F', Ex F F' → S K ca F' H' σ ρ' fr → Q o H'
end
section
variable {K : PySem.W.Frag} {ca : Str → Addr} {F F' H H' : Hp} {σ : L2.St} {ρ : Sl} {fr gr : List (V × T)} {v : V} {t : T} {d : D} {i : Nat}
theorem S.sub (s : S K ca F H σ ρ fr) (h : gr.Sublist fr) : S K ca F H σ ρ gr := s.of (s.ok.sub (List.Sublist.append_left h _))
theorem S.dropL (s : S K ca F H σ ρ (gr ++ fr)) : S K ca F H σ ρ fr := s.sub (List.sublist_append_right _ _)
theorem S.mem (s : S K ca F H σ ρ fr) (h : (v, t) ∈ fr) : RepT K ca F H t v := s.ok.rep (v, t) (List.mem_append_right _ h)
theorem drf_rep {o : Opd} (s : S K ca F H σ ρ fr) (hs : ∀ t, o = .tmp t → (v, t) ∈ fr) (hv : OpV σ o v) (e : drf o ρ = some d) : RepB K ca F H d v := by
  cases o with
  | tmp t =>
    cases e
    exact (s.mem (hs t rfl)).b s.ex
  | slot i =>
    simp only [drf] at e
    split at e
    · rename_i t ht
      cases e
      obtain ⟨v', e', r⟩ := s.at ht
      rw [show σ[i]? = some (some v) from hv] at e'
      cases e'
      exact r.b s.ex
    · cases e
theorem drf_one {o : Opd} (s : S K ca F H σ ρ (tm [o] [v] ++ fr)) (hv : OpV σ o v) (e : drf o ρ = some d) : RepB K ca F H d v :=
  drf_rep s (fun t h => by subst h; simp [tm]) hv e
theorem drf_two {o p : Opd} {u : V} {c : D} (s : S K ca F H σ ρ (tm [p] [u] ++ (tm [o] [v] ++ fr))) (hv : OpV σ o v) (hu : OpV σ p u) (e : drf o ρ = some d) (e2 : drf p ρ = some c) : RepB K ca F H d v ∧ RepB K ca F H c u :=
  ⟨drf_rep s (fun t h => by subst h; simp [tm]) hv e, drf_rep s (fun t h => by subst h; simp [tm]) hu e2⟩
theorem drfs_rep : ∀ {os : List Opd} {vs : List V} {ds : List D}, S K ca F H σ ρ fr → (∀ r, r ∈ tm os vs → r ∈ fr) → OpVs σ os vs → drfs os ρ = some ds → RepBs K ca F H ds vs
  | [], _, _, _, _, h, e => by cases h; cases e; exact rfl
  | o :: os, _, ds, s, hm, ⟨v, r, hv, h1, h2⟩, e => by
    subst hv
    simp only [drfs] at e
    split at e
    · rename_i a b e1 e2
      cases e
      refine ⟨v, r, rfl, drf_rep s (fun t ht => hm _ ?_) h1 e1, drfs_rep s (fun q hq => hm q ?_) h2 e2⟩
      · subst ht; simp [tm]
      · cases o <;> simp [tm, hq]
    · cases e
theorem S.dropTm {os : List Opd} {vs : List V} (s : S K ca F H σ ρ (tm os vs ++ fr)) : S K ca F H σ ρ fr := s.dropL
/-- the root shared, and forgotten -/
theorem S.share (s : S K ca F H σ ρ ((v, t) :: fr)) : ∃ F', Ex F F' ∧ S K ca F' H σ ρ fr ∧ RepD K ca F' t.d v := by
  obtain ⟨F', e, s'⟩ := s.frz
  exact ⟨F', e, s'.drop, s'.top⟩
end

section
variable {X : Cx} {ca : Str → Addr} {e e2 : Expr} {f g : Sl → R T} {pos : Pos}
theorem exT {A B C : Hp} (a : Ex A B) (b : Ex B C) : Ex A C := Evl.Ex.trans a b
/-- an expression as a temporary operand -/
theorem o_of (h : PE X e (tE X.K ca f)) : PE X e (tO X.K ca fun ρ => (f ρ).bind fun t ρ' => .ok (.tmp t) ρ') := by
  refine ⟨fun pins s σ H Q I ⟨F, ρ, fr, st, q⟩ => h.run pins s σ H Q I ⟨F, ρ, fr, st, ?_⟩⟩
  refine (Post.bind q).mono fun t ρ' q => ?_
  intro v H' F' eF s'
  exact q v H' F' eF s' trivial
/-- a slot as an operand -/
theorem o_var {i : Nat} {f : Sl → R T} (h : PE X e (tVar i)) : PE X e (tO X.K ca (opd (.var i) f)) := by
  refine ⟨fun pins s σ H Q I ⟨F, ρ, fr, st, q⟩ => h.run pins s σ H Q I ?_⟩
  simp only [opd] at q
  split at q
  · rename_i t ht
    obtain ⟨v, hv, r⟩ := st.at ht
    refine ⟨v, hv, ?_⟩
    split at q
    · exact q v H F (Ex.refl F) st hv
    · rename_i ho
      obtain ⟨ow, d⟩ := t
      cases ow with
      | true => exact absurd rfl ho
      | false => exact q v H F (Ex.refl F) (st.push r) trivial
  · exact q.elim
theorem e_var {i : Nat} (h : PE X e (tVar i)) : PE X e (tE X.K ca (ev (.var i))) := by
  refine ⟨fun pins s σ H Q I ⟨F, ρ, fr, st, q⟩ => h.run pins s σ H Q I ?_⟩
  simp only [ev] at q
  split at q
  · rename_i t ht
    obtain ⟨v, hv, r⟩ := st.at ht
    refine ⟨v, hv, ?_⟩
    obtain ⟨F', eF, s'⟩ := st.frzAt ht
    obtain ⟨ow, d⟩ := t
    have s2 : S X.K ca F' H σ (if ow = true then ρ.set i (some (sh d)) else ρ) fr := by
      cases ow with
      | true => exact s'
      | false =>
        rw [if_neg (by decide)]
        have e : ρ.set i (some (sh d)) = ρ := by
          apply List.ext_getElem?
          intro j
          by_cases hj : i = j
          · subst hj; rw [List.getElem?_set_self (st.lt ht), ht]
          · rw [List.getElem?_set_ne hj]
        rw [← e]
        exact s'
    have r2 : RepD X.K ca F' d v := by
      have ht2 : (ρ.set i (some (sh d)))[i]? = some (some (sh d)) := List.getElem?_set_self (st.lt ht)
      obtain ⟨v2, hv2, r2⟩ := s'.at ht2
      rw [hv] at hv2
      cases hv2
      exact r2
    exact q v H F' eF (s2.push r2)
  · exact q.elim
theorem e_const {d : D} {v : V} (h : PE X e (tC v)) (hd : ∀ F, RepD X.K ca F d v) (hf : ∀ ρ, f ρ = .ok (sh d) ρ) : PE X e (tE X.K ca f) := by
  refine ⟨fun pins s σ H Q I ⟨F, ρ, fr, st, q⟩ => h.run pins s σ H Q I ?_⟩
  rw [hf] at q
  exact q v H F (Ex.refl F) (st.push (hd F))
/-- two operands -/
theorem two {op : R2} {fa fb : Sl → R Opd} {g : Opd → Opd → Sl → R T} {σ : L2.St} {H : Hp} {Q : VK}
    (h : tE X.K ca (fun ρ => (fa ρ).bind fun x ρ1 => (fb ρ1).bind fun y ρ2 => g x y ρ2) σ H Q)
    (hop : ∀ F H' ρ fr x y v u, S X.K ca F H' σ ρ (tm [y] [u] ++ (tm [x] [v] ++ fr)) → OpV σ x v → OpV σ y u → Post (g x y ρ) (fun t ρ' => Fin X.K ca F H' σ ρ' fr Q t) → op v u H' Q) :
    tOp op (tO X.K ca fa) (tO X.K ca fb) σ H Q := by
  obtain ⟨F, ρ, fr, st, q⟩ := h
  refine ⟨F, ρ, fr, st, (Post.bind q).mono fun x ρ1 q1 => ?_⟩
  intro v H1 F1 e1 s1 hv
  refine ⟨F1, ρ1, _, s1, (Post.bind q1).mono fun y ρ2 q2 => ?_⟩
  intro u H2 F2 e2 s2 hu
  refine hop F2 H2 ρ2 fr x y v u s2 hv hu (q2.mono fun t ρ' q => ?_)
  exact fun w H3 F3 e3 s3 => q w H3 F3 (exT e1 (exT e2 e3)) s3
end
end Mi

set_option Elab.async false
set_option linter.all false
set_option maxRecDepth 100000
set_option maxHeartbeats 1000000
/-! M2e: expressions, one by one. -/
namespace Mi
open PySem PySem.Spec PyProof.Rows L2
open Evl (Ex)

section
variable {X : Cx} {ca : Str → Addr} {a b c e : Expr} {fa fb fc : Sl → R T} {oa ob oc : Sl → R Opd} {pos : Pos} {op op' : Operator}
theorem bad_bin {op : Operator} {cs : List (Str × FS)} {x y : Opd} {ρ : Sl} (hx : cs = []) {P : T → Sl → Prop} (h : Post (opBin op cs x y ρ) P) : ∃ d1 d2 t, drf x ρ = some d1 ∧ drf y ρ = some d2 ∧ binD op d1 d2 = some t ∧ P t ρ := by
  subst hx
  unfold opBin at h
  split at h
  · split at h
    · exact absurd ‹fnd [] _ = some _› (by simp [fnd])
    · exact h.elim
  · split at h
    · rename_i d1 d2 e1 e2
      obtain ⟨t, e, q⟩ := Post.opt h
      exact ⟨d1, d2, t, e1, e2, e, q⟩
    · exact h.elim
theorem fin_two {K : PySem.W.Frag} {F H : Hp} {σ : L2.St} {ρ : Sl} {fr : List (V × T)} {Q : VK} {t : T} {H2 : Hp} (f : Fin K ca F H σ ρ fr Q t) : Fin K ca F H2 σ ρ fr Q t := f
/-- a op b, of plain data -/
theorem e_bin {op : Operator} (ha : PE X a ((tO X.K ca) oa)) (hb : PE X b ((tO X.K ca) ob)) : PE X (.BinOp a op b pos) ((tE X.K ca) fun ρ => (oa ρ).bind fun x ρ1 => (ob ρ1).bind fun y ρ2 => opBin op [] x y ρ2) := by
  refine ⟨fun pins s σ H Q I h => (pe_op (op_bin (X := X) (ca := ca) op) ha hb).run pins s σ H Q I (two h ?_)⟩
  intro F H' ρ fr x y v u st hv hu q
  obtain ⟨d1, d2, t, e1, e2, e3, q⟩ := bad_bin rfl q
  obtain ⟨r1, r2⟩ := drf_two st hv hu e1 e2
  exact ⟨F, σ, ρ, fr, d1, d2, t, st.dropL.dropL, r1, r2, e3, q⟩
theorem bad_cmp {op : CmpOp} {x y : Opd} {ρ : Sl} {P : T → Sl → Prop} (h : Post (opCmp op [] x y ρ) P) : ∃ d1 d2 b, drf x ρ = some d1 ∧ drf y ρ = some d2 ∧ cmpD op d1 d2 = some b ∧ P (sh (.bl b)) ρ := by
  unfold opCmp at h
  split at h
  · split at h
    · exact absurd ‹fnd [] _ = some _› (by simp [fnd])
    · exact h.elim
  · split at h
    · exact absurd ‹fnd [] _ = some _› (by simp [fnd])
    · exact h.elim
  · split at h
    · exact absurd ‹fnd [] _ = some _› (by simp [fnd])
    · exact h.elim
  · split at h
    · exact absurd ‹fnd [] _ = some _› (by simp [fnd])
    · exact h.elim
  · split at h
    · rename_i d1 d2 e1 e2
      obtain ⟨t, e, q⟩ := Post.opt h
      simp only [Option.map_eq_some_iff] at e
      obtain ⟨b, e, rfl⟩ := e
      exact ⟨d1, d2, b, e1, e2, e, q⟩
    · exact h.elim
theorem cmp_ready {op : CmpOp} {σ : L2.St} {H : Hp} {Q : VK} (h : (tE X.K ca) (fun ρ => (oa ρ).bind fun x ρ1 => (ob ρ1).bind fun y ρ2 => opCmp op [] x y ρ2) σ H Q) : tOp (rCmp X.K ca op) ((tO X.K ca) oa) ((tO X.K ca) ob) σ H Q := by
  refine two h ?_
  intro F H' ρ fr x y v u st hv hu q
  obtain ⟨d1, d2, b, e1, e2, e3, q⟩ := bad_cmp q
  obtain ⟨r1, r2⟩ := drf_two st hv hu e1 e2
  exact ⟨F, d1, d2, b, st.ex, r1, r2, e3, q.old st.dropL.dropL rfl⟩
theorem e_cmp {op : CmpOp} (hu : X.A.units + 65 < cLine) (hm : behindInMarks op b = false) (ha : PE X a ((tO X.K ca) oa)) (hb : PE X b ((tO X.K ca) ob)) : PE X (.Compare a [op] [b] pos) ((tE X.K ca) fun ρ => (oa ρ).bind fun x ρ1 => (ob ρ1).bind fun y ρ2 => opCmp op [] x y ρ2) :=
  ⟨fun pins s σ H Q I h => (pe_cmpR (op_cmp hu op) ha hb hm).run pins s σ H Q I (cmp_ready h)⟩
/-- from a test's reading to a value's -/
theorem tT_val {f : Sl → R T} {σ : L2.St} {H : Hp} {Q : Bool → Hp → Prop} (h : tT X.K ca f σ H Q) : (tE X.K ca) f σ H (fun x H' => ∃ k, x = .bl k ∧ Q k H') := by
  obtain ⟨F, ρ, fr, st, q⟩ := h
  refine ⟨F, ρ, fr, st, q.mono fun t ρ' ⟨b, e, q⟩ v H' F' eF s' => ?_⟩
  obtain ⟨ow, d⟩ := t
  cases d <;> simp only [truth, Option.some.injEq, reduceCtorEq] at e
  subst e
  have hv := s'.top.b s'.ex
  exact ⟨_, hv, q H' F' eF s'.drop⟩
theorem t_cmp {op : CmpOp} (hu : X.A.units + 65 < cLine) (hm : behindInMarks op b = false) (ha : PE X a ((tO X.K ca) oa)) (hb : PE X b ((tO X.K ca) ob)) : PT X (.Compare a [op] [b] pos) (tT X.K ca fun ρ => (oa ρ).bind fun x ρ1 => (ob ρ1).bind fun y ρ2 => opCmp op [] x y ρ2) :=
  ⟨fun pins s σ H Q I h => (pt_cmpR (op_cmp hu op) ha hb hm).run pins s σ H Q I (cmp_ready (tT_val h))⟩
/-- a test by its value -/
theorem t_val {f : Sl → R T} (h : PE X a ((tE X.K ca) f)) (he : ∀ whole, isTrue a X.env whole = (do let v ← whole; standAt a.pos; holding [v] (truthy v))) : PT X a (tT X.K ca f) :=
  ⟨fun pins s σ H Q I q => (pt_val h he).run pins s σ H Q I (tT_val q)⟩
/-- a chain of two -/
theorem chain_ready {op1 op2 : CmpOp} {σ : L2.St} {H : Hp} {Q : VK} (h : (tE X.K ca) (fun ρ => (oa ρ).bind fun x ρ1 => (ob ρ1).bind fun y ρ2 => (opCmp op1 [] x y ρ2).bind fun r ρ3 => match truth r with
    | some true => (oc ρ3).bind fun z ρ4 => opCmp op2 [] y z ρ4
    | some false => .ok (sh (.bl false)) ρ3
    | none => .bad) σ H Q) : tChain (rCmp X.K ca op1) (rCmp X.K ca op2) ((tO X.K ca) oa) ((tO X.K ca) ob) ((tO X.K ca) oc) σ H Q := by
  obtain ⟨F, ρ, fr, st, q⟩ := h
  refine ⟨F, ρ, fr, st, (Post.bind q).mono fun x ρ1 q1 => ?_⟩
  intro v H1 F1 e1 s1 hv
  refine ⟨F1, ρ1, _, s1, (Post.bind q1).mono fun y ρ2 q2 => ?_⟩
  intro u H2 F2 e2 s2 hu
  obtain ⟨d1, d2, r, g1, g2, g3, q3⟩ := bad_cmp (Post.bind q2)
  obtain ⟨r1, r2⟩ := drf_two s2 hv hu g1 g2
  refine ⟨F2, d1, d2, r, s2.ex, r1, r2, g3, r, rfl, ?_⟩
  cases r with
  | false => exact q3 _ _ _ (exT e1 e2) (s2.dropL.dropL.push rfl)
  | true =>
    refine ⟨F2, ρ2, _, s2, (Post.bind q3).mono fun z ρ3 q4 => ?_⟩
    intro w H3 F3 e3 s3 hw
    obtain ⟨d3, d4, r', g4, g5, g6, q5⟩ := bad_cmp q4
    have r3 : RepB X.K ca F3 H3 d3 u := drf_rep s3 (fun t h => by subst h; simp [tm]) hu g4
    have r4 : RepB X.K ca F3 H3 d4 w := drf_rep s3 (fun t h => by subst h; simp [tm]) hw g5
    exact ⟨F3, d3, d4, r', s3.ex, r3, r4, g6, q5 _ _ _ (exT e1 (exT e2 e3)) (s3.dropL.dropL.dropL.push rfl)⟩
theorem e_cmp2 {op1 op2 : CmpOp} (hu : X.A.units + 65 < cLine) (hm : lastMarks [op1, op2] [b, c] = false) (ha : PE X a ((tO X.K ca) oa)) (hb : PE X b ((tO X.K ca) ob)) (hc : PE X c ((tO X.K ca) oc)) : PE X (.Compare a [op1, op2] [b, c] pos)
    ((tE X.K ca) fun ρ => (oa ρ).bind fun x ρ1 => (ob ρ1).bind fun y ρ2 => (opCmp op1 [] x y ρ2).bind fun r ρ3 => match truth r with
    | some true => (oc ρ3).bind fun z ρ4 => opCmp op2 [] y z ρ4
    | some false => .ok (sh (.bl false)) ρ3
    | none => .bad) :=
  ⟨fun pins s σ H Q I h => (pe_chain (op_cmp hu op1) (op_cmp hu op2) ha hb hc hm).run pins s σ H Q I (chain_ready h)⟩
theorem t_cmp2 {op1 op2 : CmpOp} (hu : X.A.units + 65 < cLine) (hm : lastMarks [op1, op2] [b, c] = false) (ha : PE X a ((tO X.K ca) oa)) (hb : PE X b ((tO X.K ca) ob)) (hc : PE X c ((tO X.K ca) oc)) : PT X (.Compare a [op1, op2] [b, c] pos)
    (tT X.K ca fun ρ => (oa ρ).bind fun x ρ1 => (ob ρ1).bind fun y ρ2 => (opCmp op1 [] x y ρ2).bind fun r ρ3 => match truth r with
    | some true => (oc ρ3).bind fun z ρ4 => opCmp op2 [] y z ρ4
    | some false => .ok (sh (.bl false)) ρ3
    | none => .bad) :=
  ⟨fun pins s σ H Q I h => (pt_chain (op_cmp hu op1) (op_cmp hu op2) ha hb hc hm).run pins s σ H Q I (chain_ready (tT_val h))⟩
theorem e_neg (ha : PE X a ((tE X.K ca) fa)) : PE X (.UnaryOp .USub a pos) ((tE X.K ca) fun ρ => (fa ρ).bind fun x ρ1 => R.opt ((asInt x).map fun i => sh (.int (-i))) ρ1) := by
  refine ⟨fun pins s σ H Q I h => (pe_un un_neg ha).run pins s σ H Q I ?_⟩
  obtain ⟨F, ρ, fr, st, q⟩ := h
  refine ⟨F, ρ, fr, st, (Post.bind q).mono fun x ρ1 q1 v H1 F1 e1 s1 => ?_⟩
  obtain ⟨t, e, q2⟩ := Post.opt q1
  simp only [Option.map_eq_some_iff] at e
  obtain ⟨i, e, rfl⟩ := e
  obtain ⟨ow, d⟩ := x
  cases d <;> simp only [asInt, Option.some.injEq, reduceCtorEq] at e
  subst e
  have hv := s1.top.b s1.ex
  exact ⟨_, hv, q2 _ _ _ e1 (s1.drop.push rfl)⟩
theorem truth_v {K : PySem.W.Frag} {F H : Hp} {σ : L2.St} {ρ : Sl} {fr : List (V × T)} {x : T} {v : V} {b : Bool} (s : S K ca F H σ ρ ((v, x) :: fr)) (e : truth x = some b) : v = .bl b := by
  obtain ⟨ow, d⟩ := x
  cases d <;> simp only [truth, Option.some.injEq, reduceCtorEq] at e
  subst e
  exact s.top.b s.ex
abbrev andR (fa fb : Sl → R T) : Sl → R T := fun ρ => (fa ρ).bind fun x ρ1 => match truth x with
    | some true => (fb ρ1).bind fun y ρ2 => R.opt ((truth y).map fun k => sh (.bl k)) ρ2
    | some false => .ok (sh (.bl false)) ρ1
    | none => .bad
abbrev orR (fa fb : Sl → R T) : Sl → R T := fun ρ => (fa ρ).bind fun x ρ1 => match truth x with
    | some false => (fb ρ1).bind fun y ρ2 => R.opt ((truth y).map fun k => sh (.bl k)) ρ2
    | some true => .ok (sh (.bl true)) ρ1
    | none => .bad
theorem tail_bool {F H : Hp} {σ : L2.St} {ρ1 : Sl} {fr : List (V × T)} {Q : VK} {F0 : Hp} (e1 : Ex F0 F) (s1 : S X.K ca F H σ ρ1 fr) (q : Post ((fb ρ1).bind fun y ρ2 => R.opt ((truth y).map fun k => sh (.bl k)) ρ2) fun t ρ' => Fin X.K ca F0 H σ ρ' fr Q t) : (tE X.K ca) fb σ H Q := by
  refine ⟨F, ρ1, fr, s1, (Post.bind q).mono fun y ρ2 q2 u H2 F2 e2 s2 => ?_⟩
  obtain ⟨t, e, q3⟩ := Post.opt q2
  simp only [Option.map_eq_some_iff] at e
  obtain ⟨k, e, rfl⟩ := e
  have hu := truth_v s2 e
  subst hu
  exact q3 _ _ _ (exT e1 e2) (s2.drop.push rfl)
theorem e_and {rest : List Expr} (ha : PE X a ((tE X.K ca) fa)) (hb : PE X (.BoolOp .And (b :: rest) pos) ((tE X.K ca) fb)) : PE X (.BoolOp .And (a :: b :: rest) pos) ((tE X.K ca) (andR fa fb)) := by
  refine ⟨fun pins s σ H Q I h => (pe_and ha hb).run pins s σ H Q I ?_⟩
  obtain ⟨F, ρ, fr, st, q⟩ := h
  refine ⟨F, ρ, fr, st, (Post.bind q).mono fun x ρ1 q1 v H1 F1 e1 s1 => ?_⟩
  split at q1
  · rename_i ht
    exact ⟨true, truth_v s1 ht, tail_bool e1 s1.drop q1⟩
  · rename_i ht
    exact ⟨false, truth_v s1 ht, q1 _ _ _ e1 (s1.drop.push rfl)⟩
  · exact q1.elim
theorem e_or {rest : List Expr} (ha : PE X a ((tE X.K ca) fa)) (hb : PE X (.BoolOp .Or (b :: rest) pos) ((tE X.K ca) fb)) : PE X (.BoolOp .Or (a :: b :: rest) pos) ((tE X.K ca) (orR fa fb)) := by
  refine ⟨fun pins s σ H Q I h => (pe_or ha hb).run pins s σ H Q I ?_⟩
  obtain ⟨F, ρ, fr, st, q⟩ := h
  refine ⟨F, ρ, fr, st, (Post.bind q).mono fun x ρ1 q1 v H1 F1 e1 s1 => ?_⟩
  split at q1
  · rename_i ht
    exact ⟨false, truth_v s1 ht, tail_bool e1 s1.drop q1⟩
  · rename_i ht
    exact ⟨true, truth_v s1 ht, q1 _ _ _ e1 (s1.drop.push rfl)⟩
  · exact q1.elim
theorem tail_test {F H : Hp} {σ : L2.St} {ρ1 : Sl} {fr : List (V × T)} {Q : Bool → Hp → Prop} {F0 : Hp} (e1 : Ex F0 F) (s1 : S X.K ca F H σ ρ1 fr) (q : Post ((fb ρ1).bind fun y ρ2 => R.opt ((truth y).map fun k => sh (.bl k)) ρ2) fun t ρ' => ∃ b, truth t = some b ∧ ∀ H' F', Ex F0 F' → S X.K ca F' H' σ ρ' fr → Q b H') : tT X.K ca fb σ H Q := by
  refine ⟨F, ρ1, fr, s1, (Post.bind q).mono fun y ρ2 q2 => ?_⟩
  obtain ⟨t, e, b, ht, q3⟩ := Post.opt q2
  simp only [Option.map_eq_some_iff] at e
  obtain ⟨k, e, rfl⟩ := e
  simp only [truth, Option.some.injEq] at ht; subst ht
  exact ⟨k, e, fun H' F' e2 s2 => q3 _ _ (exT e1 e2) s2⟩
theorem w_and {rest : List Expr} (ha : PT X a (tT X.K ca fa)) (hb : PW X (.BoolOp .And (b :: rest) pos) (tT X.K ca fb)) : PW X (.BoolOp .And (a :: b :: rest) pos) (tT X.K ca (andR fa fb)) := by
  refine ⟨fun wh pins s σ H Q I h => (pw_and ha hb).run wh pins s σ H Q I ?_⟩
  obtain ⟨F, ρ, fr, st, q⟩ := h
  refine ⟨F, ρ, fr, st, (Post.bind q).mono fun x ρ1 q1 => ?_⟩
  split at q1
  · rename_i ht
    exact ⟨true, ht, fun H1 F1 e1 s1 => tail_test e1 s1 q1⟩
  · rename_i ht
    refine ⟨false, ht, fun H1 F1 e1 s1 => ?_⟩
    obtain ⟨b, hb, q2⟩ := q1
    cases hb
    exact q2 _ _ e1 s1
  · exact q1.elim
theorem w_or {rest : List Expr} (ha : PT X a (tT X.K ca fa)) (hb : PW X (.BoolOp .Or (b :: rest) pos) (tT X.K ca fb)) : PW X (.BoolOp .Or (a :: b :: rest) pos) (tT X.K ca (orR fa fb)) := by
  refine ⟨fun wh pins s σ H Q I h => (pw_or ha hb).run wh pins s σ H Q I ?_⟩
  obtain ⟨F, ρ, fr, st, q⟩ := h
  refine ⟨F, ρ, fr, st, (Post.bind q).mono fun x ρ1 q1 => ?_⟩
  split at q1
  · rename_i ht
    exact ⟨false, ht, fun H1 F1 e1 s1 => tail_test e1 s1 q1⟩
  · rename_i ht
    refine ⟨true, ht, fun H1 F1 e1 s1 => ?_⟩
    obtain ⟨b, hb, q2⟩ := q1
    cases hb
    exact q2 _ _ e1 s1
  · exact q1.elim
abbrev notR (fa : Sl → R T) : Sl → R T := fun ρ => (fa ρ).bind fun x ρ1 => R.opt ((truth x).map fun k => sh (.bl (!k))) ρ1
theorem e_not (ha : PE X a ((tE X.K ca) fa)) : PE X (.UnaryOp .Not a pos) ((tE X.K ca) (notR fa)) := by
  refine ⟨fun pins s σ H Q I h => (pe_not ha).run pins s σ H Q I ?_⟩
  obtain ⟨F, ρ, fr, st, q⟩ := h
  refine ⟨F, ρ, fr, st, (Post.bind q).mono fun x ρ1 q1 v H1 F1 e1 s1 => ?_⟩
  obtain ⟨t, e, q2⟩ := Post.opt q1
  simp only [Option.map_eq_some_iff] at e
  obtain ⟨k, e, rfl⟩ := e
  exact ⟨_, truth_v s1 e, q2 _ _ _ e1 (s1.drop.push rfl)⟩
theorem t_not (ha : PT X a (tT X.K ca fa)) : PT X (.UnaryOp .Not a pos) (tT X.K ca (notR fa)) := by
  refine ⟨fun pins s σ H Q I h => (pt_not ha).run pins s σ H Q I ?_⟩
  obtain ⟨F, ρ, fr, st, q⟩ := h
  refine ⟨F, ρ, fr, st, (Post.bind q).mono fun x ρ1 q1 => ?_⟩
  obtain ⟨t, e, b, ht, q2⟩ := Post.opt q1
  simp only [Option.map_eq_some_iff] at e
  obtain ⟨k, e, rfl⟩ := e
  cases ht
  exact ⟨k, e, fun H1 F1 e1 s1 => q2 _ _ e1 s1⟩
theorem e_ite (hc : PT X c (tT X.K ca fc)) (ha : PE X a ((tE X.K ca) fa)) (hb : PE X b ((tE X.K ca) fb)) : PE X (.IfExp c a b pos) ((tE X.K ca) fun ρ => (fc ρ).bind fun x ρ1 => match truth x with
    | some true => fa ρ1
    | some false => fb ρ1
    | none => .bad) := by
  refine ⟨fun pins s σ H Q I h => (pe_ifExp hc ha hb).run pins s σ H Q I ?_⟩
  obtain ⟨F, ρ, fr, st, q⟩ := h
  refine ⟨F, ρ, fr, st, (Post.bind q).mono fun x ρ1 q1 => ?_⟩
  split at q1
  · rename_i ht
    exact ⟨true, ht, fun H1 F1 e1 s1 => ⟨F1, ρ1, fr, s1, q1.mono fun t ρ2 q2 v H2 F2 e2 s2 => q2 _ _ _ (exT e1 e2) s2⟩⟩
  · rename_i ht
    exact ⟨false, ht, fun H1 F1 e1 s1 => ⟨F1, ρ1, fr, s1, q1.mono fun t ρ2 q2 v H2 F2 e2 s2 => q2 _ _ _ (exT e1 e2) s2⟩⟩
  · exact q1.elim
/-! argument lists -/
variable {es : List Expr} {f : Sl → R T} {g : Sl → R (List D)} {go : Sl → R (List Opd)} {of : Sl → R Opd}
theorem s_nil : PA X [] (tEs X.K ca fun ρ => .ok [] ρ) := by
  refine ⟨fun pos pins s σ H Q I h => pa_nil.run pos pins s σ H Q I ?_⟩
  obtain ⟨F, ρ, fr, st, q⟩ := h
  exact q [] H F (Ex.refl F) st rfl
theorem s_cons (ha : PE X e ((tE X.K ca) f)) (hr : PA X es (tEs X.K ca g)) (hs : starEach (e :: es) X.env = (false, eval e X.env) :: starEach es X.env) : PA X (e :: es) (tEs X.K ca fun ρ => (f ρ).bind fun t ρ1 => (g ρ1).bind fun ys ρ2 => .ok (t.d :: ys) ρ2) := by
  refine ⟨fun pos pins s σ H Q I h => (pa_cons ha hr hs).run pos pins s σ H Q I ?_⟩
  obtain ⟨F, ρ, fr, st, q⟩ := h
  refine ⟨F, ρ, fr, st, (Post.bind q).mono fun t ρ1 q1 v H1 F1 e1 s1 => ?_⟩
  obtain ⟨F2, e2, s2, r⟩ := s1.share
  refine ⟨F2, ρ1, fr, s2, (Post.bind q1).mono fun ys ρ2 q2 vs H3 F3 e3 s3 r3 => ?_⟩
  exact q2 _ _ _ (exT e1 (exT e2 e3)) s3 ⟨v, vs, rfl, RepD.mono e3 r, r3⟩
theorem items_sq {K : PySem.W.Frag} {F H : Hp} {d : D} {v : V} {xs : List D} (eF : Ex F H) (h : RepB K ca F H d v) (e : items d = some xs) : ∃ a vs, v = .ref a ∧ (SqT K H a vs ∨ SqL K H a vs) ∧ RepDs K ca F xs vs := by
  cases d <;> simp only [items, Option.some.injEq, reduceCtorEq] at e
  · subst e
    obtain ⟨a, vs, e1, e2, e3⟩ := h
    exact ⟨a, vs, e1, .inr (.inl e2), e3⟩
  · subst e
    obtain ⟨a, vs, e1, e2, e3⟩ := h
    exact ⟨a, vs, e1, .inl (Evl.ex_t eF e2.t), e3⟩
theorem s_star {p : Pos} (ha : PE X e ((tO X.K ca) of)) (hr : PA X es (tEs X.K ca g)) : PA X (.Starred e p :: es) (tEs X.K ca fun ρ => (of ρ).bind fun x ρ1 => match (drf x ρ1).bind items with
    | some xs => (g ρ1).bind fun ys ρ2 => .ok (xs ++ ys) ρ2
    | none => .bad) := by
  refine ⟨fun pos pins s σ H Q I h => (StX.pa_star ha hr).run pos pins s σ H Q I ?_⟩
  obtain ⟨F, ρ, fr, st, q⟩ := h
  refine ⟨F, ρ, fr, st, (Post.bind q).mono fun x ρ1 q1 v H1 F1 e1 s1 hv => ?_⟩
  split at q1
  · rename_i xs hx
    simp only [Option.bind_eq_some_iff] at hx
    obtain ⟨d, hd, hx⟩ := hx
    obtain ⟨a, vs, ev, hq, r⟩ := items_sq s1.ex (drf_one s1 hv hd) hx
    refine ⟨a, vs, ev, hq, F1, ρ1, fr, s1.dropTm, (Post.bind q1).mono fun ys ρ2 q2 us H3 F3 e3 s3 r3 => ?_⟩
    exact q2 _ _ _ (exT e1 e3) s3 ((r.mono e3).append r3)
  · exact q1.elim
theorem o_nil : PA X [] (tOs X.K ca fun ρ => .ok [] ρ) := by
  refine ⟨fun pos pins s σ H Q I h => pa_nil.run pos pins s σ H Q I ?_⟩
  obtain ⟨F, ρ, fr, st, q⟩ := h
  exact q [] H F (Ex.refl F) st rfl
theorem tm_cons (o : Opd) (os : List Opd) (v : V) (vs : List V) (fr : List (V × T)) : tm os vs ++ (tm [o] [v] ++ fr) = tm (o :: os) (v :: vs) ++ fr := by
  cases o <;> simp [tm]
theorem o_cons (ha : PE X e ((tO X.K ca) of)) (hr : PA X es (tOs X.K ca go)) (hs : starEach (e :: es) X.env = (false, eval e X.env) :: starEach es X.env) : PA X (e :: es) (tOs X.K ca fun ρ => (of ρ).bind fun x ρ1 => (go ρ1).bind fun ys ρ2 => .ok (x :: ys) ρ2) := by
  refine ⟨fun pos pins s σ H Q I h => (pa_cons ha hr hs).run pos pins s σ H Q I ?_⟩
  obtain ⟨F, ρ, fr, st, q⟩ := h
  refine ⟨F, ρ, fr, st, (Post.bind q).mono fun t ρ1 q1 v H1 F1 e1 s1 hv => ?_⟩
  refine ⟨F1, ρ1, _, s1, (Post.bind q1).mono fun ys ρ2 q2 vs H3 F3 e3 s3 h3 => ?_⟩
  rw [tm_cons] at s3
  exact q2 _ _ _ (exT e1 e3) s3 ⟨v, vs, rfl, hv, h3⟩
theorem e_tup {k : Nat} (h : PA X es (tEs X.K ca g)) : PE X (.Tuple es k pos) ((tE X.K ca) fun ρ => (g ρ).bind fun ds ρ1 => if szOk ds.length then .ok (sh (.tup ds)) ρ1 else .bad) := by
  refine ⟨fun pins s σ H Q I h' => (pe_tup h).run pins s σ H Q I ?_⟩
  obtain ⟨F, ρ, fr, st, q⟩ := h'
  refine ⟨F, ρ, fr, st, (Post.bind q).mono fun ds ρ1 q1 vs H1 F1 e1 s1 r => ?_⟩
  split at q1
  · rename_i hz
    refine ⟨by rw [r.length]; exact sz_ok hz, fun p hp => ?_⟩
    exact Fin.newT s1 (fun v H' F' eF s' => q1 v H' F' (exT e1 eF) s') hp r
  · exact q1.elim
theorem e_lst (h : PA X es (tEs X.K ca g)) : PE X (.List es pos) ((tE X.K ca) fun ρ => (g ρ).bind fun ds ρ1 => if szOk ds.length then .ok (own (.lst ds)) ρ1 else .bad) := by
  refine ⟨fun pins s σ H Q I h' => (pe_lst h).run pins s σ H Q I ?_⟩
  obtain ⟨F, ρ, fr, st, q⟩ := h'
  refine ⟨F, ρ, fr, st, (Post.bind q).mono fun ds ρ1 q1 vs H1 F1 e1 s1 r => ?_⟩
  split at q1
  · rename_i hz
    refine ⟨by rw [r.length]; exact sz_ok hz, fun p hp => ?_⟩
    exact Fin.newL s1 (fun v H' F' eF s' => q1 v H' F' (exT e1 eF) s') hp r
  · exact q1.elim
/-! items, slices, fields -/
theorem e_sub (hu : X.A.units + 1 < cLine) (hp : PlainIx b) (ha : PE X a ((tO X.K ca) oa)) (hb : PE X b ((tO X.K ca) ob)) : PE X (.Subscript a b pos) ((tE X.K ca) fun ρ => (oa ρ).bind fun x ρ1 => (ob ρ1).bind fun y ρ2 => match drf x ρ2, drf y ρ2 with
    | some d, some k => R.opt ((ixD d k).map sh) ρ2
    | _, _ => .bad) := by
  refine ⟨fun pins s σ H Q I h => (pe_ix (ix_D (ca := ca) hu) ha hb hp).run pins s σ H Q I (two h ?_)⟩
  intro F H' ρ fr x y v u st hv hu q
  split at q
  · rename_i d k h1 h2
    obtain ⟨t, e, q⟩ := Post.opt q
    simp only [Option.map_eq_some_iff] at e
    obtain ⟨z, e, rfl⟩ := e
    obtain ⟨r1, r2⟩ := drf_two st hv hu h1 h2
    exact ⟨F, d, k, z, st.ex, r1, r2, e, fun v r => q.old st.dropL.dropL r⟩
  · exact q.elim
theorem i_none : PO X none (tI X.K ca fun ρ => .ok none ρ) := by
  refine ⟨fun pins s σ H Q I h => po_none.run pins s σ H Q I ?_⟩
  obtain ⟨F, ρ, fr, st, q⟩ := h
  exact q H F (Ex.refl F) st
theorem i_some (ha : PE X e ((tE X.K ca) f)) : PO X (some e) (tI X.K ca fun ρ => (f ρ).bind fun t ρ1 => R.opt ((asInt t).map some) ρ1) := by
  refine ⟨fun pins s σ H Q I h => (po_some ha).run pins s σ H Q I ?_⟩
  obtain ⟨F, ρ, fr, st, q⟩ := h
  refine ⟨F, ρ, fr, st, (Post.bind q).mono fun x ρ1 q1 v H1 F1 e1 s1 => ?_⟩
  obtain ⟨t, e, q2⟩ := Post.opt q1
  simp only [Option.map_eq_some_iff] at e
  obtain ⟨i, e, rfl⟩ := e
  obtain ⟨ow, d⟩ := x
  cases d <;> simp only [asInt, Option.some.injEq, reduceCtorEq] at e
  subst e
  exact ⟨_, s1.top.b s1.ex, q2 _ _ e1 s1.drop⟩
theorem e_slice {lo hi : Option Expr} {fl fh : Sl → R (Option Int)} {p2 : Pos} (ha : PE X a ((tO X.K ca) oa)) (hl : PO X lo (tI X.K ca fl)) (hh : PO X hi (tI X.K ca fh)) : PE X (.Subscript a (.Slice lo hi none p2) pos) ((tE X.K ca) fun ρ => (oa ρ).bind fun x ρ1 => (fl ρ1).bind fun l ρ2 => (fh ρ2).bind fun h ρ3 => match drf x ρ3 with
    | some d => R.opt (sliceD d l h) ρ3
    | none => .bad) := by
  refine ⟨fun pins s σ H Q I h => (pe_slice (sl_D (ca := ca)) ha hl hh).run pins s σ H Q I ?_⟩
  obtain ⟨F, ρ, fr, st, q⟩ := h
  refine ⟨F, ρ, fr, st, (Post.bind q).mono fun x ρ1 q1 v H1 F1 e1 s1 hv => ?_⟩
  refine ⟨F1, ρ1, _, s1, (Post.bind q1).mono fun l ρ2 q2 H2 F2 e2 s2 => ?_⟩
  refine ⟨F2, ρ2, _, s2, (Post.bind q2).mono fun h ρ3 q3 H3 F3 e3 s3 => ?_⟩
  split at q3
  · rename_i d hd
    obtain ⟨t, e, q4⟩ := Post.opt q3
    exact ⟨F3, σ, ρ3, fr, d, t, s3.dropTm, drf_one s3 hv hd, e, fun v H' F' eF s' => q4 v H' F' (exT e1 (exT e2 (exT e3 eF))) s'⟩
  · exact q3.elim
theorem RepFs.get {K : PySem.W.Frag} {F : Hp} {f : Str} : ∀ {fs : List (Str × D)} {us : List (Str × V)} {d : D}, RepFs K ca F fs us → fs.lookup f = some d → ∃ v, us.lookup f = some v ∧ RepD K ca F d v
  | [], _, _, _, e => by cases e
  | (g, x) :: fs, _, d, ⟨v, r, hv, h1, h2⟩, e => by
    subst hv
    rw [List.lookup_cons] at e ⊢
    cases hb : f == g with
    | true => rw [hb] at e; cases e; exact ⟨v, rfl, h1⟩
    | false => rw [hb] at e; exact RepFs.get h2 e
theorem e_fld {n : Str} {cs : List Str} (hc : ∀ c ∈ cs, Cls X.K (ca c) ∧ NoAttr X.K (ca c) n) (hb : attributeBase a n X.env (eval a X.env) = eval a X.env) (ha : PE X a ((tO X.K ca) oa)) : PE X (.Attribute a n pos) ((tE X.K ca) fun ρ => (oa ρ).bind fun x ρ1 => opFld cs n x ρ1) := by
  refine ⟨fun pins s σ H Q I h => (pe_fld ha hb).run pins s σ H Q I ?_⟩
  obtain ⟨F, ρ, fr, st, q⟩ := h
  refine ⟨F, ρ, fr, st, (Post.bind q).mono fun x ρ1 q1 v H1 F1 e1 s1 hv => ?_⟩
  unfold opFld at q1
  split at q1
  · rename_i c fs hd
    split at q1
    · rename_i hcs
      obtain ⟨t, e, q2⟩ := Post.opt q1
      simp only [Option.map_eq_some_iff] at e
      obtain ⟨z, e, rfl⟩ := e
      obtain ⟨p, dx, us, rfl, h1, h2⟩ := drf_one s1 hv hd
      obtain ⟨w, h3, h4⟩ := RepFs.get h2 e
      obtain ⟨g1, g2⟩ := hc c (by simpa using hcs)
      exact ⟨p, ca c, dx, us, w, rfl, h1, g1, g2, h3, q2 _ _ _ e1 (s1.dropTm.push h4)⟩
    · exact q1.elim
  · exact q1.elim
/-! built-in functions -/
theorem b_ready {b : Bi} {σ : L2.St} {H : Hp} {Q : VK} (h : (tE X.K ca) (fun ρ => (go ρ).bind fun os ρ1 => match drfs os ρ1 with
    | some ds => R.opt (biD b ds) ρ1
    | none => .bad) σ H Q) : tCB (rBi X.K ca b) (tOs X.K ca go) σ H Q := by
  obtain ⟨F, ρ, fr, st, q⟩ := h
  refine ⟨F, ρ, fr, st, (Post.bind q).mono fun os ρ1 q1 vs H1 F1 e1 s1 hv => ?_⟩
  split at q1
  · rename_i ds hd
    obtain ⟨t, e, q2⟩ := Post.opt q1
    exact ⟨F1, σ, ρ1, fr, ds, t, s1.dropTm, drfs_rep s1 (fun r hr => List.mem_append_left _ hr) hv hd, e, fun v H' F' eF s' => q2 v H' F' (exT e1 eF) s'⟩
  · exact q1.elim
end
end Mi

set_option Elab.async false
set_option linter.all false
set_option maxRecDepth 100000
set_option maxHeartbeats 1000000
/-! M2f: defs, calls. -/
namespace Mi
open PySem PySem.Spec PyProof.Rows L2
open Evl (Ex)

/-- a def's promise, where no repr is under way -/
structure FnG (P : Program) (w : World) (K : PySem.W.Frag) (mg : Str → Option Value) (base : Heap) (k : Nat) (f : Addr) (fd : FuncData) (ps : List Str) (sp : Sp) : Prop where
  len : ∀ vs H Q E, sp vs H Q E → vs.length = ps.length
  run : ∀ (A : Around) (outer : List Env) (s : Shared) (H : Hp) (args : Args) (us : List Value) (vs : List V) (Q : VK) (E : XK), Room k A → A.guards = some [] → Env0 P w K mg base A outer s H → BindsTo s fd args (ps.zip us) → Vals vs us → sp vs H Q E →
    codeAny (model P w) A (.call (.ref f) args) (CR CX0 outer P w H s Q E) s
theorem FnG.mono {P : Program} {w : World} {K : PySem.W.Frag} {mg : Str → Option Value} {base : Heap} {j k : Nat} {f : Addr} {fd : FuncData} {ps : List Str} {sp : Sp} (F : FnG P w K mg base j f fd ps sp) (h : j ≤ k) : FnG P w K mg base k f fd ps sp :=
  ⟨F.len, fun A outer s H args us vs Q E hr => F.run A outer s H args us vs Q E (hr.mono h)⟩
theorem gd_deeper {A : Around} (h : A.guards = some []) (env : Env) : (A.deeper env).guards = some [] := by
  first | exact h | simpa [Around.deeper] using h
theorem gd_make {A : Around} (h : A.guards = some []) (C : Addr) (us : List Value) (kw : List (Str × Value)) : (A.under (.builtin "type.__call__" ⟨.ref C :: us, kw⟩)).guards = some [] := by
  first | exact h | (simp [Around.under, Code.guards, Code.isGuard, pushGuards, guardIds, h])
section
variable {X : Cx} {k : Nat} {f C : Addr} {fd : FuncData} {ps : List Str} {sp : Sp} {dvs : List V} {ds : List Value}
theorem run_fnG {pins : List (Addr × Obj)} {σ : L2.St} {H : Hp} {s : Shared} {Q : VK} {us : List Value} {vs : List V} (F : FnG X.prog X.w X.K X.mg X.base k f fd ps sp) (hr : Room k X.A) (hg : X.A.guards = some []) (hb : Binds X.K fd ps ds) (hd : Vals dvs ds)
    (I : Inv X pins σ H s) (r : Vals vs us) (h : sp (vs ++ dvs) H Q E0) : wpAny (model X.prog X.w) X.A (call (.ref f) us) (EP X pins σ Q) X.xe s := by
  have r2 : Vals (vs ++ dvs) (us ++ ds) := r.append hd
  have hl : (us ++ ds).length = ps.length := by rw [← r2.length]; exact F.len _ _ _ _ h
  refine wpAny_call (codeAny_mono (F.run X.A X.stack s H ⟨us, []⟩ (us ++ ds) (vs ++ dvs) Q E0 hr hg I.env0 (hb s us I.kIn hl) r2 h) fun r s' hq => ?_)
  cases r with
  | error e => exact hq.elim
  | ok fl =>
    cases fl with
    | ret u => exact I.after hq
    | next => exact False.elim hq
    | brk => exact False.elim hq
    | cont => exact False.elim hq
theorem run_makeG {pins : List (Addr × Obj)} {σ : L2.St} {H : Hp} {s : Shared} {Q : VK} {us : List Value} {vs : List V} (M : Mk X.K C f) (F : FnG X.prog X.w X.K X.mg X.base k f fd ps sp) (hr : Room (k + 1) X.A) (hg : X.A.guards = some []) (hb : Binds X.K fd ps ds) (hd : Vals dvs ds)
    (I : Inv X pins σ H s) (r : Vals vs us)
    (h : ∀ x dx, H x = none → H dx = none → dx ≠ x → sp (.ref x :: (vs ++ dvs)) (upd (upd H dx (.own x)) x (.ins C dx [])) (fun v H2 => v = .non ∧ Q (.ref x) H2) E0) :
    wpAny (model X.prog X.w) X.A (call (.ref C) us) (EP X pins σ Q) X.xe s := by
  have hq := h (s.heap.objs.size + 1) s.heap.objs.size (I.hok.fresh (Nat.le_succ _)) (I.hok.fresh (Nat.le_refl _)) (Nat.ne_of_lt (Nat.lt_succ_self _))
  have I2 := Inv.made (C := C) I
  have r2 : Vals (V.ref (s.heap.objs.size + 1) :: (vs ++ dvs)) (Value.ref (s.heap.objs.size + 1) :: (us ++ ds)) := .cons rfl (r.append hd)
  have hl : (Value.ref (s.heap.objs.size + 1) :: us ++ ds).length = ps.length := by
    have e := r2.length
    rw [F.len _ _ _ _ hq] at e
    exact e.symm
  refine wpAny_call (make_map (f := f) I.kIn M.makes M.init (beq_iff_eq.mp M.fn) (codeAny_mono (F.run _ X.stack _ _ ⟨Value.ref (s.heap.objs.size + 1) :: us, []⟩ (Value.ref (s.heap.objs.size + 1) :: (us ++ ds)) _ _ E0 (hr.make C us []) (gd_make hg C us [])
    (I2.env0.make C us []) (hb _ (Value.ref (s.heap.objs.size + 1) :: us) I2.kIn hl) r2 hq) fun r s' hq' => ?_))
  cases r with
  | error e => exact hq'.elim
  | ok fl =>
    cases fl with
    | ret u =>
      obtain ⟨v, H', I3, rv, ev, q3⟩ := I2.after hq'
      subst ev
      exact ⟨rv, ⟨V.ref (s.heap.objs.size + 1), H', I3, rfl, q3⟩⟩
    | next => exact False.elim hq'
    | brk => exact False.elim hq'
    | cont => exact False.elim hq'
end

/-! ### what a def of data promises -/
def ioR (io : Bool) (vs : List V) (out : T) : List (V × T) := match io, vs with
  | true, v :: _ => [(v, out)]
  | _, _ => []
def spOf (K : PySem.W.Frag) (ca : Str → Addr) (f : FS) : Sp := fun vs H Q _ => ∃ F ts fr, Ok K ca F H (vs.zip ts ++ fr) ∧ vs.length = ts.length ∧ ts.length = f.np ∧
  match f.sem ts with
  | .ret t out => ∀ v H' F', Ex F F' → Ok K ca F' H' ((v, t) :: (ioR f.io vs out ++ fr)) → Q v H'
  | _ => False
/-- the world of a law -/
structure Wd where
  P : Program
  w : World
  K : PySem.W.Frag
  mg : Str → Option Value
  base : Heap
  ca : Str → Addr
abbrev _root_.L2.Cx.wd (X : Cx) (ca : Str → Addr) : Wd := ⟨X.prog, X.w, X.K, X.mg, X.base, ca⟩
/-- the last j defaults bind -/
def DflOk (W : Wd) (f : FS) (fd : FuncData) (ps : List Str) : Prop := ∀ j, j ≤ f.dfl.length → ∃ (dvs : List V) (ds : List Value), Binds W.K fd ps ds ∧ Vals dvs ds ∧ ∀ F, RepDs W.K W.ca F (f.dfl.drop (f.dfl.length - j)) dvs
/-- a def of the module -/
structure FnC (W : Wd) (k : Nat) (f : FS) : Prop where
  ex : ∃ (fa : Addr) (fd : FuncData) (ps : List Str), FnG W.P W.w W.K W.mg W.base k fa fd ps (spOf W.K W.ca f) ∧ W.mg f.name = some (.ref fa) ∧ PySem.W.keepIn W.K (.ref fa) = true ∧ DflOk W f fd ps
/-- a method of a class -/
structure MtC (W : Wd) (k : Nat) (c m : Str) (f : FS) : Prop where
  ex : ∃ (fa : Addr) (fd : FuncData) (ps : List Str), Cls W.K (W.ca c) ∧ Meth W.K (W.ca c) m fa ∧ FnG W.P W.w W.K W.mg W.base k fa fd ps (spOf W.K W.ca f) ∧ DflOk W f fd ps
/-- a class, by its __init__ -/
structure MkC (W : Wd) (k : Nat) (c : Str) (f : FS) : Prop where
  ex : ∃ (fa : Addr) (fd : FuncData) (ps : List Str), Mk W.K (W.ca c) fa ∧ FnG W.P W.w W.K W.mg W.base k fa fd ps (spOf W.K W.ca f) ∧ W.mg c = some (.ref (W.ca c)) ∧ DflOk W f fd ps

section
variable {K : PySem.W.Frag} {ca : Str → Addr} {F H : Hp} {rs : List (V × T)}
theorem Ok.pushAll : ∀ {ds : List D} {vs : List V}, Ok K ca F H rs → RepDs K ca F ds vs → Ok K ca F H (vs.zip (ds.map sh) ++ rs)
  | [], _, h, r => by cases r; exact h
  | d :: ds, _, h, ⟨v, r, e, h1, h2⟩ => by subst e; exact (Ok.pushAll h h2).push h1
theorem zip_app {vs us : List V} {ts us' : List T} (h : vs.length = ts.length) : (vs ++ us).zip (ts ++ us') = vs.zip ts ++ us.zip us' := List.zip_append h
end
section
variable {X : Cx} {ca : Str → Addr} {k : Nat} {f : FS}
theorem fill_len {f : FS} {ts ts' : List T} (h : fillT f ts = some ts') : ∃ j, j ≤ f.dfl.length ∧ ts' = ts ++ (f.dfl.drop (f.dfl.length - j)).map sh ∧ ts'.length = f.np := by
  unfold fillT at h
  split at h
  · rename_i hc
    cases h
    refine ⟨f.np - ts.length, by omega, rfl, ?_⟩
    rw [List.length_append, List.length_map, List.length_drop]
    omega
  · cases h
/-- what an io-less call is ready with -/
theorem call_ready {σ : L2.St} {ρ : Sl} {F H : Hp} {fr : List (V × T)} {ds : List D} {vs : List V} {Q : VK} {F0 : Hp} (e0 : Ex F0 F) (st : S X.K ca F H σ ρ fr) (r : RepDs X.K ca F ds vs) (q : Post (callF f (ds.map sh) ρ) fun t ρ' => Fin X.K ca F0 H σ ρ' fr Q t) :
    f.io = false ∧ ∃ j, j ≤ f.dfl.length ∧ ∀ dvs, (∀ F, RepDs X.K ca F (f.dfl.drop (f.dfl.length - j)) dvs) → spOf X.K ca f (vs ++ dvs) H Q E0 := by
  unfold callF at q
  split at q
  · exact q.elim
  · rename_i hio
    have hio : f.io = false := by simpa using hio
    refine ⟨hio, ?_⟩
    split at q
    · rename_i ts hts
      obtain ⟨j, hj, e, hl⟩ := fill_len hts
      refine ⟨j, hj, fun dvs hd => ?_⟩
      have ok : Ok X.K ca F H ((vs ++ dvs).zip ts ++ (rts σ ρ ++ fr)) := by
        rw [e, zip_app (by rw [List.length_map, r.length]), List.append_assoc]
        exact (st.ok.pushAll (hd F)).pushAll r
      refine ⟨F, ts, _, ok, ?_, hl, ?_⟩
      · rw [e, List.length_append, List.length_append, List.length_map, List.length_map, r.length, (hd F).length]
      · split at q
        · rename_i t out hsem
          rw [hsem]
          intro v H' F' eF o
          rw [hio] at o
          exact q v H' F' (exT e0 eF) (st.unhead (r := (v, t)) o)
        · exact q.elim
        · exact q.elim
    · exact q.elim
/-- io: the changed root ahead -/
theorem io_ready {σ : L2.St} {ρ : Sl} {F H : Hp} {fr : List (V × T)} {ds : List D} {v0 : V} {vs : List V} {o : Opd} {Q : VK} {F0 : Hp} (e0 : Ex F0 F) (st : S X.K ca F H σ ρ (tm [o] [v0] ++ fr)) (hv : OpV σ o v0) (r : RepDs X.K ca F ds vs)
    (q : Post (callIO f o (ds.map sh) ρ) fun t ρ' => Fin X.K ca F0 H σ ρ' fr Q t) : f.io = true ∧ spOf X.K ca f (v0 :: vs) H Q E0 := by
  unfold callIO at q
  split at q
  · exact q.elim
  · rename_i hc
    simp only [Bool.or_eq_true, Bool.not_eq_true', beq_eq_false_iff_ne, not_or, Bool.not_eq_false, Decidable.not_not, ne_eq] at hc
    obtain ⟨hio, hl⟩ := hc
    refine ⟨hio, ?_⟩
    cases o with
    | slot i =>
      simp only at q
      split at q
      · rename_i t ht
        have st' : S X.K ca F H σ ρ fr := st
        have so := st'.out (show σ[i]? = some (some v0) from hv) ht
        have ok : Ok X.K ca F H ((v0 :: vs).zip (t :: ds.map sh) ++ (rts σ (ρ.set i none) ++ fr)) := by
          have h1 := so.head.pushAll r
          exact h1.perm List.perm_middle
        refine ⟨F, t :: ds.map sh, _, ok, by simp [r.length], by simpa using hl, ?_⟩
        split at q
        · rename_i rt out hsem
          rw [hsem]
          intro v H' F' eF ok'
          rw [hio] at ok'
          have s2 : S X.K ca F' H' σ (ρ.set i none) ((v, rt) :: (v0, out) :: fr) := so.of (ok'.perm (by
            refine List.Perm.trans ?_ (List.perm_middle (a := (v, rt)) (l₁ := rts σ (ρ.set i none)) (l₂ := (v0, out) :: fr)).symm
            refine List.Perm.cons _ ?_
            exact (List.perm_middle (a := (v0, out)) (l₁ := rts σ (ρ.set i none)) (l₂ := fr)).symm))
          have s3 : S X.K ca F' H' σ (ρ.set i none) ((v0, out) :: (v, rt) :: fr) := s2.of (s2.ok.perm (List.Perm.append_left _ (List.Perm.swap ..)))
          exact q v H' F' (exT e0 eF) (s3.back hv)
        · exact q.elim
        · exact q.elim
      · exact q.elim
    | tmp t =>
      simp only at q
      have st' : S X.K ca F H σ ρ ((v0, t) :: fr) := by simpa [tm] using st
      have ok : Ok X.K ca F H ((v0 :: vs).zip (t :: ds.map sh) ++ (rts σ ρ ++ fr)) := (st'.head.pushAll r).perm List.perm_middle
      refine ⟨F, t :: ds.map sh, _, ok, by simp [r.length], by simpa using hl, ?_⟩
      split at q
      · rename_i rt out hsem
        rw [hsem]
        intro v H' F' eF ok'
        rw [hio] at ok'
        refine q v H' F' (exT e0 eF) (st.unhead (r := (v, rt)) ?_)
        exact ok'.sub (List.Sublist.cons₂ _ (List.sublist_cons_self _ _))
      · exact q.elim
      · exact q.elim
variable {es : List Expr} {e : Expr} {pos p : Pos} {g : Sl → R (List D)} {x : Str}
/-- f(..), f leaves its arguments -/
theorem e_call (c : FnC (X.wd ca) k f) (hr : Room k X.A) (hgd : X.A.guards = some []) (hg : Gl X f.name) (hdb : (f.name == ("__debug__" : Str)) = false) (ha : PA X (e :: es) (tEs X.K ca g))
    (he : starEach (e :: es) X.env = (false, eval e X.env) :: starEach es X.env) (hpl : (backTo pos (starEach es X.env)).any (·.1) = false) :
    PE X (.Call (.Name f.name p) (e :: es) [] pos) (tE X.K ca fun ρ => (g ρ).bind fun ds ρ1 => callF f (ds.map sh) ρ1) := by
  obtain ⟨fa, fd, ps, F, hm, hk, hd⟩ := c.ex
  refine ⟨fun pins s σ H Q I h => ?_⟩
  refine wpAny_Call_Name_kw (ld_glob I hg hm ?_ hdb)
  have hA : tEs X.K ca g σ H fun vs H1 => f.io = false ∧ ∃ j, j ≤ f.dfl.length ∧ ∀ dvs, (∀ F, RepDs X.K ca F (f.dfl.drop (f.dfl.length - j)) dvs) → spOf X.K ca f (vs ++ dvs) H1 Q E0 := by
    obtain ⟨F, ρ, fr, st, q⟩ := h
    exact ⟨F, ρ, fr, st, (Post.bind q).mono fun ds ρ1 q1 vs H1 F1 e1 s1 r => call_ready e1 s1 r q1⟩
  refine PySem.W.callWith_K (h₀ := X.base) I.ok.mod.kin hk (thn (ha.run pos pins s σ H _ I hA) fun us s1 ⟨vs, H1, I1, r, hio, j, hj, q⟩ => ⟨I1.kIn, ?_⟩) he hpl
  obtain ⟨dvs, ds, hb, hv, hrep⟩ := hd j hj
  exact run_fnG F hr hgd hb hv I1 r (q dvs hrep)
theorem e_call0 (c : FnC (X.wd ca) k f) (hr : Room k X.A) (hgd : X.A.guards = some []) (hg : Gl X f.name) (hdb : (f.name == ("__debug__" : Str)) = false) :
    PE X (.Call (.Name f.name p) [] [] pos) (tE X.K ca fun ρ => ((fun ρ => .ok [] ρ : Sl → R (List D)) ρ).bind fun ds ρ1 => callF f (ds.map sh) ρ1) := by
  obtain ⟨fa, fd, ps, F, hm, hk, hd⟩ := c.ex
  refine ⟨fun pins s σ H Q I h => ?_⟩
  refine wpAny_Call_Name_kw (ld_glob I hg hm ?_ hdb)
  obtain ⟨F1, ρ, fr, st, q⟩ := h
  obtain ⟨hio, j, hj, q⟩ := call_ready (f := f) (ds := []) (vs := []) (Ex.refl F1) st rfl (show Post (callF f [] ρ) _ from q)
  obtain ⟨dvs, ds, hb, hv, hrep⟩ := hd j hj
  exact PySem.W.callWith_K0 I.kIn hk (run_fnG F hr hgd hb hv I .nil (q dvs hrep))
/-- f(x, ..), x changed -/
theorem e_callIO {of : Sl → R Opd} (c : FnC (X.wd ca) k f) (hr : Room k X.A) (hgd : X.A.guards = some []) (hg : Gl X f.name) (hdb : (f.name == ("__debug__" : Str)) = false) (ho : PE X e (tO X.K ca of)) (ha : PA X es (tEs X.K ca g))
    (he : starEach (e :: es) X.env = (false, eval e X.env) :: starEach es X.env) (hpl : (backTo pos (starEach es X.env)).any (·.1) = false) :
    PE X (.Call (.Name f.name p) (e :: es) [] pos) (tE X.K ca fun ρ => (of ρ).bind fun o ρ1 => (g ρ1).bind fun ds ρ2 => callIO f o (ds.map sh) ρ2) := by
  obtain ⟨fa, fd, ps, F, hm, hk, hd⟩ := c.ex
  refine ⟨fun pins s σ H Q I h => ?_⟩
  refine wpAny_Call_Name_kw (ld_glob I hg hm ?_ hdb)
  have hA : (tCons (tO X.K ca of) (tEs X.K ca g)) σ H fun vs H1 => spOf X.K ca f vs H1 Q E0 := by
    obtain ⟨F, ρ, fr, st, q⟩ := h
    refine ⟨F, ρ, fr, st, (Post.bind q).mono fun o ρ1 q1 v H1 F1 e1 s1 hv => ?_⟩
    exact ⟨F1, ρ1, _, s1, (Post.bind q1).mono fun ds ρ2 q2 vs H2 F2 e2 s2 r => (io_ready (exT e1 e2) s2 hv r q2).2⟩
  refine PySem.W.callWith_K (h₀ := X.base) I.ok.mod.kin hk (thn ((pa_cons ho ha he).run pos pins s σ H _ I hA) fun us s1 ⟨vs, H1, I1, r, q⟩ => ⟨I1.kIn, ?_⟩) he hpl
  obtain ⟨dvs, ds, hb, hv, hrep⟩ := hd 0 (Nat.zero_le _)
  have e0 : dvs = [] := by
    have := (hrep (fun _ => none)).length
    rw [List.length_drop] at this
    exact List.eq_nil_of_length_eq_zero (by omega)
  subst e0
  cases hv
  exact run_fnG F hr hgd hb .nil I1 r (by simpa using q)
end
end Mi

set_option Elab.async false
set_option linter.all false
set_option maxRecDepth 100000
set_option maxHeartbeats 1000000
/-! M2g: methods, new instances, operators by instances. -/
namespace Mi
open PySem PySem.Spec PyProof.Rows L2
open Evl (Ex)
section
variable {K : PySem.W.Frag} {ca : Str → Addr} {F H : Hp} {rs : List (V × T)} {f : Str}
theorem RepFs.none : ∀ {fs : List (Str × D)} {us : List (Str × V)}, RepFs K ca F fs us → fs.lookup f = none → us.lookup f = none
  | [], _, h, _ => by cases h; rfl
  | (g, x) :: fs, _, ⟨v, r, hv, h1, h2⟩, e => by
    subst hv
    rw [List.lookup_cons] at e ⊢
    cases hb : f == g with
    | true => rw [hb] at e; cases e
    | false => rw [hb] at e; exact RepFs.none h2 e
theorem Ok.grow {p : Addr} {o : HO} (h : Ok K ca F H rs) (hp : H p = none) : Ok K ca F (upd H p o) rs :=
  ⟨Evl.Ex.trans h.ex (Evl.Ex.new hp), fun r hr => (h.rep r hr).step (Ex.refl F) (fun a ho e => by obtain ⟨b, u, e2, h1, _⟩ := ow_at (h.rep r hr) ho; rw [e] at e2; cases e2; exact h1) fun a u _ _ e => by rw [upd_ne (ne_of_none e hp)]; exact e, h.ap⟩
end
section
variable {X : Cx} {ca : Str → Addr} {k : Nat} {f : FS} {c m : Str} {cs : List (Str × FS)} {a b e o : Expr} {es : List Expr} {pos p apos : Pos} {g : Sl → R (List D)} {of oa ob : Sl → R Opd}
theorem fnd_mem {x : Str} {cs : List (Str × FS)} (h : fnd cs x = some f) : (x, f) ∈ cs := by
  unfold fnd at h
  induction cs with
  | nil => cases h
  | cons q cs ih =>
    rw [List.lookup_cons] at h
    cases hb : x == q.1 with
    | true =>
      rw [hb] at h
      cases h
      rw [beq_iff_eq.mp hb]
      exact List.mem_cons_self ..
    | false => rw [hb] at h; exact List.mem_cons_of_mem _ (ih h)
theorem shO_is {x : Opd} {d : D} (h : shO x = some d) : x = .tmp (sh d) := by
  cases x with
  | slot i => cases h
  | tmp t =>
    obtain ⟨ow, d'⟩ := t
    cases ow with
    | true => cases h
    | false => cases h; rfl
theorem objO_is {x : Opd} {c : Str} {d : D} (h : objO x = some (c, d)) : ∃ fs, d = .obj c fs ∧ x = .tmp (sh d) := by
  unfold objO at h
  split at h
  · cases h; exact ⟨_, rfl, rfl⟩
  · cases h
/-- o.m(..) -/
theorem e_methAny {pl : Sem Bool} {first : Prop} (hcs : ∀ q ∈ cs, MtC (X.wd ca) k q.1 m q.2 ∧ q.2.name = m) (hr : Room k X.A) (hgd : X.A.guards = some []) (ho : PE X o (tO X.K ca of))
    (hgo : ∀ {fa : Addr} {a0 : Addr} {pins : List (Addr × Obj)} {s : Shared} {σ : L2.St} {H : Hp} {Q : VK}, PySem.W.keepIn X.K (.ref fa) = true → Inv X pins σ H s →
      tEs X.K ca g σ H (fun vs H1 => ∀ (us : List Value) (s1 : Shared), Inv X pins σ H1 s1 → Vals vs us → wpAny (model X.prog X.w) X.A (call (.ref fa) (.ref a0 :: us)) (EP X pins σ Q) X.xe s1) →
      wpAny (model X.prog X.w) X.A (callWith pos (.ref fa) [.ref a0] (backTo pos (starEach es X.env)) (backToKw pos (keywordEach [] X.env))) (EP X pins σ Q) X.xe s)
    (ht : eval (.Call (.Attribute o m apos) es [] pos) X.env = (do
      let ov ← eval o X.env
      standAt apos.atName
      let (f, first) ← holding [ov] (getMethod ov m pl)
      callWith pos f first (backTo pos (starEach es X.env)) (backToKw pos (keywordEach [] X.env)))) :
    PE X (.Call (.Attribute o m apos) es [] pos) (tE X.K ca fun ρ => (of ρ).bind fun x ρ1 => (g ρ1).bind fun ds ρ2 => match drf x ρ2 with
      | some (.obj c fs) => match fnd cs c, shO x with
        | some f, some dx => if (fs.lookup f.name).isSome then .bad else callF f ((dx :: ds).map sh) ρ2
        | _, _ => .bad
      | _ => .bad) := by
  refine ⟨fun pins s σ H Q I h => ?_⟩
  have hA : tO X.K ca of σ H fun x0 H1 => ∃ (a0 dx0 : Addr) (us : List (Str × V)) (c : Str) (f : FS), x0 = .ref a0 ∧ H1 a0 = some (.ins (ca c) dx0 us) ∧ us.lookup m = none ∧ (c, f) ∈ cs ∧
      tEs X.K ca g σ H1 fun vs H2 => f.io = false ∧ ∃ j, j ≤ f.dfl.length ∧ ∀ dvs, (∀ F, RepDs X.K ca F (f.dfl.drop (f.dfl.length - j)) dvs) → spOf X.K ca f (x0 :: (vs ++ dvs)) H2 Q E0 := by
    obtain ⟨F, ρ, fr, st, q⟩ := h
    refine ⟨F, ρ, fr, st, (Post.bind q).mono fun x ρ1 q1 v H1 F1 e1 s1 hv => ?_⟩
    cases x with
    | slot i =>
      exfalso
      have := Post.bind q1
      cases hg : g ρ1 with
      | ok ds ρ2 =>
        rw [hg] at this
        have this : Post (match drf (.slot i) ρ2 with
          | some (.obj c fs) => match fnd cs c, shO (.slot i) with
            | some f, some dx => if (fs.lookup f.name).isSome then .bad else callF f ((dx :: ds).map sh) ρ2
            | _, _ => .bad
          | _ => .bad) _ := this
        split at this
        · split at this
          · rename_i hx; cases hx
          · exact this.elim
        · exact this.elim
      | exc _ _ => rw [hg] at this; exact this.elim
      | bad => rw [hg] at this; exact this.elim
    | tmp t =>
      obtain ⟨ow, d⟩ := t
      have key : ∃ c fs f, ow = false ∧ d = .obj c fs ∧ fnd cs c = some f ∧ fs.lookup f.name = none ∧ Post (g ρ1) fun ds ρ2 => Post (callF f ((d :: ds).map sh) ρ2) fun t ρ' => Fin X.K ca F H σ ρ' fr Q t := by
        have q2 := Post.bind q1
        cases hg : g ρ1 with
        | ok ds ρ2 =>
          rw [hg] at q2
          have q2 : Post (match drf (.tmp ⟨ow, d⟩) ρ2 with
            | some (.obj c fs) => match fnd cs c, shO (.tmp ⟨ow, d⟩) with
              | some f, some dx => if (fs.lookup f.name).isSome then .bad else callF f ((dx :: ds).map sh) ρ2
              | _, _ => .bad
            | _ => .bad) _ := q2
          split at q2
          · rename_i c fs hd
            cases hd
            split at q2
            · rename_i f dx hf hx
              split at q2
              · exact q2.elim
              · rename_i hn
                cases ow with
                | true => cases hx
                | false =>
                  cases hx
                  exact ⟨c, fs, f, rfl, rfl, hf, by cases hq : fs.lookup f.name with
                    | none => rfl
                    | some v => rw [hq] at hn; exact absurd rfl hn, q2⟩
            · exact q2.elim
          · exact q2.elim
        | exc _ _ => rw [hg] at q2; exact q2.elim
        | bad => rw [hg] at q2; exact q2.elim
      obtain ⟨c, fs, f, rfl, rfl, hf, hn, q2⟩ := key
      have hmem := fnd_mem hf
      have s1' : S X.K ca F1 H1 σ ρ1 ((v, sh (.obj c fs)) :: fr) := by simpa [tm] using s1
      have rep := s1'.top
      obtain ⟨a0, dx0, us, ev, ha0, hus⟩ := RepB.of s1'.ex rep
      have hm := (hcs _ hmem).2
      refine ⟨a0, dx0, us, c, f, ev, ha0, hus.none (by rw [← hm]; exact hn), hmem, F1, ρ1, fr, s1'.drop, q2.mono fun ds ρ2 q3 vs H2 F2 e2 s2 r => ?_⟩
      have := call_ready (f := f) (ds := (.obj c fs) :: ds) (vs := v :: vs) (Q := Q) (exT e1 e2) s2 ⟨v, vs, rfl, RepD.mono e2 rep, r⟩ q3
      simpa using this
  refine PySem.W.methodCall_KW (pl := pl) (thn (ho.run pins s σ H _ I hA) fun u s1 ⟨x0, H1, I1, rx, a0, dx0, us, c, f, ex, ea, l, hmem, q⟩ => ?_) ht
  subst ex
  obtain rfl : u = Value.ref a0 := rx
  obtain ⟨fa, fd, ps, hc, hm, F, hd⟩ := (hcs _ hmem).1.ex
  refine getmeth_ok I1 ea hc hm l ?_
  refine hgo hm.kp I1 ?_
  obtain ⟨F1, ρ1, fr, st, q⟩ := q
  refine ⟨F1, ρ1, fr, st, q.mono fun ds ρ2 q2 vs H2 F2 e2 s2 r us1 s3 I3 rv => ?_⟩
  obtain ⟨hio, j, hj, q3⟩ := q2 vs H2 F2 e2 s2 r
  obtain ⟨dvs, ds', hb, hv, hrep⟩ := hd j hj
  exact run_fnG (us := .ref a0 :: us1) (vs := .ref a0 :: vs) F hr hgd hb hv I3 (.cons rfl rv) (q3 dvs hrep)
theorem e_meth {pl : Sem Bool} (hcs : ∀ q ∈ cs, MtC (X.wd ca) k q.1 m q.2 ∧ q.2.name = m) (hr : Room k X.A) (hgd : X.A.guards = some []) (ho : PE X o (tO X.K ca of)) (ha : PA X (e :: es) (tEs X.K ca g))
    (he : starEach (e :: es) X.env = (false, eval e X.env) :: starEach es X.env) (hpl : (backTo pos (starEach es X.env)).any (·.1) = false)
    (ht : eval (.Call (.Attribute o m apos) (e :: es) [] pos) X.env = (do
      let ov ← eval o X.env
      standAt apos.atName
      let (f, first) ← holding [ov] (getMethod ov m pl)
      callWith pos f first (backTo pos (starEach (e :: es) X.env)) (backToKw pos (keywordEach [] X.env)))) :
    PE X (.Call (.Attribute o m apos) (e :: es) [] pos) (tE X.K ca fun ρ => (of ρ).bind fun x ρ1 => (g ρ1).bind fun ds ρ2 => match drf x ρ2 with
      | some (.obj c fs) => match fnd cs c, shO x with
        | some f, some dx => if (fs.lookup f.name).isSome then .bad else callF f ((dx :: ds).map sh) ρ2
        | _, _ => .bad
      | _ => .bad) :=
  e_methAny (first := True) hcs hr hgd ho (fun hk I h => PySem.W.callWith_K (h₀ := X.base) I.ok.mod.kin hk (thn (ha.run pos _ _ _ _ _ I h) fun us s1 ⟨vs, H1, I1, r, q⟩ => ⟨I1.kIn, q us s1 I1 r⟩) he hpl) ht
theorem e_meth0 {pl : Sem Bool} (hcs : ∀ q ∈ cs, MtC (X.wd ca) k q.1 m q.2 ∧ q.2.name = m) (hr : Room k X.A) (hgd : X.A.guards = some []) (ho : PE X o (tO X.K ca of))
    (ht : eval (.Call (.Attribute o m apos) [] [] pos) X.env = (do
      let ov ← eval o X.env
      standAt apos.atName
      let (f, first) ← holding [ov] (getMethod ov m pl)
      callWith pos f first (backTo pos (starEach [] X.env)) (backToKw pos (keywordEach [] X.env)))) :
    PE X (.Call (.Attribute o m apos) [] [] pos) (tE X.K ca fun ρ => (of ρ).bind fun x ρ1 => ((fun ρ => .ok [] ρ : Sl → R (List D)) ρ1).bind fun ds ρ2 => match drf x ρ2 with
      | some (.obj c fs) => match fnd cs c, shO x with
        | some f, some dx => if (fs.lookup f.name).isSome then .bad else callF f ((dx :: ds).map sh) ρ2
        | _, _ => .bad
      | _ => .bad) :=
  e_methAny (first := True) (g := fun ρ => .ok [] ρ) hcs hr hgd ho (fun {fa a0 pins s σ H Q} hk I h => by
    obtain ⟨F, ρ, fr, st, q⟩ := h
    exact PySem.W.callWith_K0 I.kIn hk (q [] H F (Ex.refl F) st rfl [] s I .nil)) ht
/-- C(..) -/
theorem make_ready {σ : L2.St} {ρ : Sl} {F H : Hp} {fr : List (V × T)} {ds : List D} {vs : List V} {Q : VK} {F0 : Hp} (e0 : Ex F0 F) (st : S X.K ca F H σ ρ fr) (r : RepDs X.K ca F ds vs) (q : Post (callIO2 c f (ds.map sh) ρ) fun t ρ' => Fin X.K ca F0 H σ ρ' fr Q t) :
    ∃ j, j ≤ f.dfl.length ∧ ∀ dvs, (∀ F, RepDs X.K ca F (f.dfl.drop (f.dfl.length - j)) dvs) →
      ∀ x dx, H x = none → H dx = none → dx ≠ x → spOf X.K ca f (.ref x :: (vs ++ dvs)) (upd (upd H dx (.own x)) x (.ins (ca c) dx [])) (fun v H2 => v = .non ∧ Q (.ref x) H2) E0 := by
  unfold callIO2 at q
  split at q
  · exact q.elim
  · rename_i hio
    have hio : f.io = true := by simpa using hio
    split at q
    · rename_i ts hts
      obtain ⟨j, hj, e, hl⟩ := fill_len hts
      refine ⟨j, hj, fun dvs hd x dx hx hdx hne => ?_⟩
      have hx2 : (upd H dx (.own x)) x = none := by rw [upd_ne (Ne.symm hne)]; exact hx
      have ok : Ok X.K ca F (upd (upd H dx (.own x)) x (.ins (ca c) dx [])) ((V.ref x :: (vs ++ dvs)).zip ts ++ (rts σ ρ ++ fr)) := by
        have h1 : Ok X.K ca F H ((vs ++ dvs).zip (ds.map sh ++ (f.dfl.drop (f.dfl.length - j)).map sh) ++ (rts σ ρ ++ fr)) := by
          rw [zip_app (by rw [List.length_map, r.length]), List.append_assoc]
          exact (st.ok.pushAll (hd F)).pushAll r
        have h2 := (h1.grow (o := .own x) hdx).alloc (d := .obj c []) (u := .ins (ca c) dx []) hx2 ⟨rfl, rfl⟩
        rw [e]
        exact h2
      refine ⟨F, ts, _, ok, ?_, hl, ?_⟩
      · rw [e, List.length_append, List.length_cons, List.length_cons, List.length_append, List.length_map, List.length_map, r.length, (hd F).length]
        omega
      · split at q
        · rename_i out hsem
          rw [hsem]
          intro v H' F' eF o
          rw [hio] at o
          have hv : v = .non := o.rep (v, ⟨false, .non⟩) (List.mem_cons_self ..)
          refine ⟨hv, ?_⟩
          have s2 : S X.K ca F' H' σ ρ ((.ref x, out) :: fr) := st.unhead (r := (.ref x, out)) o.tl
          obtain ⟨F'', e'', s3⟩ := s2.frz
          exact q _ _ _ (exT e0 (exT eF e'')) s3
        · exact q.elim
        · exact q.elim
    · exact q.elim
theorem e_new (mk : MkC (X.wd ca) k c f) (hr : Room (k + 1) X.A) (hgd : X.A.guards = some []) (hg : Gl X c) (hdb : (c == ("__debug__" : Str)) = false) (ha : PA X (e :: es) (tEs X.K ca g))
    (he : starEach (e :: es) X.env = (false, eval e X.env) :: starEach es X.env) (hpl : (backTo pos (starEach es X.env)).any (·.1) = false) :
    PE X (.Call (.Name c p) (e :: es) [] pos) (tE X.K ca fun ρ => (g ρ).bind fun ds ρ1 => callIO2 c f (ds.map sh) ρ1) := by
  obtain ⟨fa, fd, ps, M, F, hm, hd⟩ := mk.ex
  refine ⟨fun pins s σ H Q I h => ?_⟩
  refine wpAny_Call_Name_kw (ld_glob I hg hm ?_ hdb)
  have hA : tEs X.K ca g σ H fun vs H1 => ∃ j, j ≤ f.dfl.length ∧ ∀ dvs, (∀ F, RepDs X.K ca F (f.dfl.drop (f.dfl.length - j)) dvs) →
      ∀ x dx, H1 x = none → H1 dx = none → dx ≠ x → spOf X.K ca f (.ref x :: (vs ++ dvs)) (upd (upd H1 dx (.own x)) x (.ins (ca c) dx [])) (fun v H2 => v = .non ∧ Q (.ref x) H2) E0 := by
    obtain ⟨F, ρ, fr, st, q⟩ := h
    exact ⟨F, ρ, fr, st, (Post.bind q).mono fun ds ρ1 q1 vs H1 F1 e1 s1 r => make_ready e1 s1 r q1⟩
  refine PySem.W.callWith_K (h₀ := X.base) I.ok.mod.kin M.kp (thn (ha.run pos pins s σ H _ I hA) fun us s1 ⟨vs, H1, I1, r, j, hj, q⟩ => ⟨I1.kIn, ?_⟩) he hpl
  obtain ⟨dvs, ds, hb, hv, hrep⟩ := hd j hj
  exact run_makeG M F hr hgd hb hv I1 r (q dvs hrep)
end
end Mi

set_option Elab.async false
set_option linter.all false
set_option maxRecDepth 100000
set_option maxHeartbeats 1000000
/-! M2p: new instances by keywords; join. -/
namespace Mi
open PySem PySem.Spec PyProof.Rows L2
open Evl (Ex)
section
variable {X : Cx} {ca : Str → Addr} {k : Nat} {f : FS} {c : Str} {e : Expr} {kws : List Keyword} {pos p kpos : Pos} {g : Sl → R (List D)} {h : Sl → R T} {nm : Option Str}
/-- by these keywords, these places -/
structure MwC (W : Wd) (k : Nat) (c : Str) (f : FS) (kn : List Str) (pm : List Nat) : Prop where
  ex : ∃ (fa : Addr) (fd : FuncData) (ps : List Str), Mk W.K (W.ca c) fa ∧ FnG W.P W.w W.K W.mg W.base k fa fd ps (spOf W.K W.ca f) ∧ W.mg c = some (.ref (W.ca c)) ∧
    ∀ (s : Shared) (self : Value) (ws ws' : List Value), W.K.In s.heap → ws.length = kn.length → permD pm ws = some ws' → BindsTo s fd ⟨[self], kn.zip ws⟩ (ps.zip (self :: ws'))
theorem permD_len {α : Type} : ∀ {pm : List Nat} {xs ys : List α}, permD pm xs = some ys → ys.length = pm.length
  | [], _, _, h => by cases h; rfl
  | i :: is, xs, ys, h => by
    simp only [permD] at h
    split at h
    · rename_i a b e1 e2
      cases h
      rw [List.length_cons, List.length_cons, permD_len e2]
    · cases h
theorem permD_vals : ∀ {pm : List Nat} {ws : List Value} {zs : List V} {ws' : List Value}, Vals zs ws → permD pm ws = some ws' → ∃ zs', permD pm zs = some zs' ∧ Vals zs' ws'
  | [], _, _, _, _, h => by cases h; exact ⟨[], rfl, .nil⟩
  | i :: is, ws, zs, ws', r, h => by
    simp only [permD] at h
    split at h
    · rename_i a b e1 e2
      cases h
      obtain ⟨zs', h1, h2⟩ := permD_vals r e2
      have hi : i < zs.length := by rw [r.length]; exact (List.getElem?_eq_some_iff.mp e1).1
      obtain ⟨u, hu, ru⟩ := r.get (List.getElem?_eq_getElem hi)
      rw [e1] at hu
      cases hu
      exact ⟨zs[i] :: zs', by simp only [permD, List.getElem?_eq_getElem hi, h1], .cons ru h2⟩
    · cases h
theorem permD_reps {K : PySem.W.Frag} {F : Hp} : ∀ {pm : List Nat} {ds ds' : List D} {zs : List V}, RepDs K ca F ds zs → permD pm ds = some ds' → ∃ zs', permD pm zs = some zs' ∧ RepDs K ca F ds' zs'
  | [], _, _, _, _, h => by cases h; exact ⟨[], rfl, rfl⟩
  | i :: is, ds, ds', zs, r, h => by
    simp only [permD] at h
    split at h
    · rename_i a b e1 e2
      cases h
      obtain ⟨zs', h1, h2⟩ := permD_reps r e2
      obtain ⟨v, hv, rv⟩ := r.get e1
      exact ⟨v :: zs', by simp only [permD, hv, h1], v, zs', rfl, rv, h2⟩
    · cases h
theorem permD_all {α β : Type} : ∀ {pm : List Nat} {xs : List α} {ys : List β} {xs' : List α}, xs.length = ys.length → permD pm xs = some xs' → ∃ ys', permD pm ys = some ys'
  | [], _, _, _, _, _ => ⟨[], rfl⟩
  | i :: is, xs, ys, xs', hl, h => by
    simp only [permD] at h
    split at h
    · rename_i a b e1 e2
      cases h
      obtain ⟨ys', h1⟩ := permD_all hl e2
      have hi : i < ys.length := by rw [← hl]; exact (List.getElem?_eq_some_iff.mp e1).1
      exact ⟨ys[i] :: ys', by simp only [permD, List.getElem?_eq_getElem hi, h1]⟩
    · cases h
theorem k_nil : PK X [] (tEs X.K ca fun ρ => .ok [] ρ) := by
  refine ⟨fun pos pins s σ H Q I hq => pk_nil.run pos pins s σ H Q I ?_⟩
  obtain ⟨F, ρ, fr, st, q⟩ := hq
  exact q [] H F (Ex.refl F) st rfl
theorem k_cons (ha : PE X e (tE X.K ca h)) (hr : PK X kws (tEs X.K ca g)) : PK X (⟨nm, e, kpos⟩ :: kws) (tEs X.K ca fun ρ => (h ρ).bind fun t ρ1 => (g ρ1).bind fun ys ρ2 => .ok (t.d :: ys) ρ2) := by
  refine ⟨fun pos pins s σ H Q I hq => (pk_cons ha hr).run pos pins s σ H Q I ?_⟩
  obtain ⟨F, ρ, fr, st, q⟩ := hq
  refine ⟨F, ρ, fr, st, (Post.bind q).mono fun t ρ1 q1 v H1 F1 e1 s1 => ?_⟩
  obtain ⟨F2, e2, s2, r⟩ := s1.share
  refine ⟨F2, ρ1, fr, s2, (Post.bind q1).mono fun ys ρ2 q2 vs H3 F3 e3 s3 r3 => ?_⟩
  exact q2 _ _ _ (exT e1 (exT e2 e3)) s3 ⟨v, vs, rfl, RepD.mono e3 r, r3⟩
theorem make_ready0 {σ : L2.St} {ρ : Sl} {F H : Hp} {fr : List (V × T)} {ds : List D} {vs : List V} {Q : VK} {F0 : Hp} (e0 : Ex F0 F) (st : S X.K ca F H σ ρ fr) (r : RepDs X.K ca F ds vs) (hn : ds.length + 1 = f.np) (q : Post (callIO2 c f (ds.map sh) ρ) fun t ρ' => Fin X.K ca F0 H σ ρ' fr Q t) :
    ∀ x dx, H x = none → H dx = none → dx ≠ x → spOf X.K ca f (.ref x :: vs) (upd (upd H dx (.own x)) x (.ins (ca c) dx [])) (fun v H2 => v = .non ∧ Q (.ref x) H2) E0 := by
  have hts : fillT f (own (.obj c []) :: ds.map sh) = some (own (.obj c []) :: ds.map sh) := by
    have hl : (own (.obj c []) :: ds.map sh).length = f.np := by rw [List.length_cons, List.length_map]; exact hn
    unfold fillT
    rw [if_pos ⟨by omega, by omega⟩, hl]
    simp
  unfold callIO2 at q
  rw [hts] at q
  split at q
  · exact q.elim
  · rename_i hio
    have hio : f.io = true := by simpa using hio
    intro x dx hx hdx hne
    have hx2 : (upd H dx (.own x)) x = none := by rw [upd_ne (Ne.symm hne)]; exact hx
    have h2 := ((st.ok.pushAll r).grow (o := .own x) hdx).alloc (d := .obj c []) (u := .ins (ca c) dx []) hx2 ⟨rfl, rfl⟩
    refine ⟨F, own (.obj c []) :: ds.map sh, _, h2, ?_, ?_, ?_⟩
    · rw [List.length_cons, List.length_cons, List.length_map, r.length]
    · rw [List.length_cons, List.length_map]; exact hn
    · simp only at q
      split at q
      · rename_i out hsem
        rw [hsem]
        intro v H' F' eF o
        rw [hio] at o
        have hv : v = .non := o.rep (v, ⟨false, .non⟩) (List.mem_cons_self ..)
        refine ⟨hv, ?_⟩
        have s2 : S X.K ca F' H' σ ρ ((.ref x, out) :: fr) := st.unhead (r := (.ref x, out)) o.tl
        obtain ⟨F'', e'', s3⟩ := s2.frz
        exact q _ _ _ (exT e0 (exT eF e'')) s3
      · exact q.elim
      · exact q.elim
theorem e_newK {kn : List Str} {pm : List Nat} (mk : MwC (X.wd ca) k c f kn pm) (hr : Room (k + 1) X.A) (hgd : X.A.guards = some []) (hg : Gl X c) (hdb : (c == ("__debug__" : Str)) = false) (hkw : PK X kws (tEs X.K ca g))
    (hall : (backToKw pos (keywordEach kws X.env)).all (·.1.isSome) = true) (hks : (backToKw pos (keywordEach kws X.env)).filterMap (·.1) = kn)
    (hpl : ((backTo pos (starEach [] X.env)).any (·.1) || (backToKw pos (keywordEach kws X.env)).any (·.1.isNone)) = false) :
    PE X (.Call (.Name c p) [] kws pos) (tE X.K ca fun ρ => (g ρ).bind fun ds ρ1 => if ds.length == kn.length then (match permD pm ds with
    | some ds' => if ds'.length + 1 == f.np then callIO2 c f (ds'.map sh) ρ1 else .bad
    | none => .bad) else .bad) := by
  obtain ⟨fa, fd, ps, M, F, hm, hd⟩ := mk.ex
  refine ⟨fun pins s σ H Q I hq => ?_⟩
  refine wpAny_Call_Name_kw (ld_glob I hg hm ?_ hdb)
  have hA : tEs X.K ca g σ H fun vs H1 => vs.length = kn.length ∧ ∃ vs', permD pm vs = some vs' ∧ ∀ x dx, H1 x = none → H1 dx = none → dx ≠ x → spOf X.K ca f (.ref x :: vs') (upd (upd H1 dx (.own x)) x (.ins (ca c) dx [])) (fun v H2 => v = .non ∧ Q (.ref x) H2) E0 := by
    obtain ⟨F, ρ, fr, st, q⟩ := hq
    refine ⟨F, ρ, fr, st, (Post.bind q).mono fun ds ρ1 q1 vs H1 F1 e1 s1 r => ?_⟩
    split at q1
    · rename_i hl
      have hl : ds.length = kn.length := by simpa using hl
      split at q1
      · rename_i ds' hp
        split at q1
        · rename_i hn
          obtain ⟨vs', h1, h2⟩ := permD_reps r hp
          refine ⟨by rw [r.length]; exact hl, vs', h1, ?_⟩
          exact make_ready0 e1 s1 h2 (by simpa using hn) q1
        · exact q1.elim
      · exact q1.elim
    · exact q1.elim
  refine PySem.W.callWith_KW0 (h₀ := X.base) I.ok.mod.kin M.kp hall ?_ hpl
  refine thn (hkw.run pos pins s σ H _ I hA) fun ws s2 ⟨zs, H2, I2, rz, hl, zs', hp, q2⟩ => ⟨I2.kIn, ?_⟩
  rw [hks]
  have hlw : ws.length = kn.length := by rw [← rz.length]; exact hl
  obtain ⟨ws', hw⟩ := permD_all (ys := ws) rz.length hp
  obtain ⟨zs2, hz2, rz'⟩ := permD_vals rz hw
  rw [hp] at hz2
  cases hz2
  have hq3 := q2 (s2.heap.objs.size + 1) s2.heap.objs.size (I2.hok.fresh (Nat.le_succ _)) (I2.hok.fresh (Nat.le_refl _)) (Nat.ne_of_lt (Nat.lt_succ_self _))
  have I3 := Inv.made (C := ca c) I2
  have r2 : Vals (V.ref (s2.heap.objs.size + 1) :: zs') (Value.ref (s2.heap.objs.size + 1) :: ws') := .cons rfl rz'
  refine wpAny_call (make_map (f := fa) (vs := []) (kw := kn.zip ws) I2.kIn M.makes M.init (beq_iff_eq.mp M.fn) (codeAny_mono (F.run _ X.stack _ _ ⟨[Value.ref (s2.heap.objs.size + 1)], kn.zip ws⟩ (Value.ref (s2.heap.objs.size + 1) :: ws') _ _ E0 (hr.make (ca c) [] (kn.zip ws)) (gd_make hgd (ca c) [] (kn.zip ws))
    (I3.env0.make (ca c) [] (kn.zip ws)) (hd _ _ ws ws' I3.kIn hlw hw) r2 hq3) fun r s' hq' => ?_))
  cases r with
  | error e => exact hq'.elim
  | ok fl =>
    cases fl with
    | ret u =>
      obtain ⟨v, H', I4, rv, ev, q4⟩ := I3.after hq'
      subst ev
      exact ⟨rv, ⟨V.ref (s2.heap.objs.size + 1), H', I4, rfl, q4⟩⟩
    | next => exact False.elim hq'
    | brk => exact False.elim hq'
    | cont => exact False.elim hq'
/-- z.join(l) -/
theorem e_join {o l : Expr} {apos : Pos} {fo fl : Sl → R Opd} (ho : PE X o (tO X.K ca fo)) (hl : PE X l (tO X.K ca fl)) (hst : starEach [l] X.env = [(false, eval l X.env)]) (hb : attributeBase o "join" X.env (eval o X.env) = eval o X.env) (hline : (apos.endLine == pos.line) = true) :
    PE X (.Call (.Attribute o "join" apos) [l] [] pos) (tE X.K ca fun ρ => (fo ρ).bind fun x ρ1 => match x with
    | .tmp ⟨_, .str z⟩ => (fl ρ1).bind fun y ρ2 => (match drf y ρ2 with
      | some d => R.opt (biD .join [.str z, d]) ρ2
      | none => .bad)
    | _ => .bad) := by
  refine ⟨fun pins s σ H Q I hq => (pe_join ho hl hst hb hline).run pins s σ H Q I ?_⟩
  obtain ⟨F, ρ, fr, st, q⟩ := hq
  refine ⟨F, ρ, fr, st, (Post.bind q).mono fun x ρ1 q1 v H1 F1 e1 s1 hv => ?_⟩
  split at q1
  · rename_i ow z
    have sv : v = .str z := by
      have hm : S X.K ca F1 H1 σ ρ1 ((v, ⟨ow, .str z⟩) :: fr) := by simpa [tm] using s1
      have := hm.top.b hm.ex
      exact this
    subst sv
    refine ⟨⟨z, rfl⟩, F1, ρ1, _, s1, (Post.bind q1).mono fun y ρ2 q2 u H2 F2 e2 s2 hu => ?_⟩
    split at q2
    · rename_i d hd
      obtain ⟨t, e, q3⟩ := Post.opt q2
      have rep := drf_one s2 hu hd
      cases d <;> simp only [biD, reduceCtorEq] at e
      rename_i xs
      rw [Option.bind_eq_some_iff] at e
      obtain ⟨ss, hss, e⟩ := e
      split at e
      · rename_i hz
        cases e
        obtain ⟨a, vs, rfl, h1, h2⟩ := rep
        have h3 := rep_strs h2 hss
        subst h3
        refine ⟨z, a, ss, rfl, rfl, .inl (.inl h1), Nat.le_trans (of_decide_eq_true hz) (by decide), q3 _ _ _ (exT e1 e2) (s2.dropL.dropL.push rfl)⟩
      · cases e
    · exact q2.elim
  · exact q1.elim
end
end Mi

set_option Elab.async false
set_option linter.all false
set_option maxRecDepth 100000
set_option maxHeartbeats 1000000
/-! M2w: methods by keywords. -/
namespace Mi
open PySem PySem.Spec PyProof.Rows L2
open Evl (Ex)
section
variable {X : Cx} {ca : Str → Addr} {k : Nat} {f : FS} {c m : Str} {cs : List (Str × FS)} {e o : Expr} {kws : List Keyword} {pos p apos : Pos} {g : Sl → R (List D)} {of : Sl → R Opd}
/-- a method by these keywords, these places -/
structure MtwC (W : Wd) (k : Nat) (c m : Str) (f : FS) (kn : List Str) (pm : List Nat) : Prop where
  ex : ∃ (fa : Addr) (fd : FuncData) (ps : List Str), Cls W.K (W.ca c) ∧ Meth W.K (W.ca c) m fa ∧ FnG W.P W.w W.K W.mg W.base k fa fd ps (spOf W.K W.ca f) ∧
    ∀ (s : Shared) (self : Value) (ws ws' : List Value), W.K.In s.heap → ws.length = kn.length → permD pm ws = some ws' → BindsTo s fd ⟨[self], kn.zip ws⟩ (ps.zip (self :: ws'))
theorem call_ready0 {σ : L2.St} {ρ : Sl} {F H : Hp} {fr : List (V × T)} {ds : List D} {vs : List V} {Q : VK} {F0 : Hp} (e0 : Ex F0 F) (st : S X.K ca F H σ ρ fr) (r : RepDs X.K ca F ds vs) (hn : ds.length = f.np) (q : Post (callF f (ds.map sh) ρ) fun t ρ' => Fin X.K ca F0 H σ ρ' fr Q t) :
    f.io = false ∧ spOf X.K ca f vs H Q E0 := by
  have hts : fillT f (ds.map sh) = some (ds.map sh) := by
    have hl : (ds.map sh).length = f.np := by rw [List.length_map]; exact hn
    unfold fillT
    rw [if_pos ⟨by omega, by omega⟩, hl]
    simp
  unfold callF at q
  split at q
  · exact q.elim
  · rename_i hio
    have hio : f.io = false := by simpa using hio
    refine ⟨hio, ?_⟩
    rw [hts] at q
    have ok : Ok X.K ca F H (vs.zip (ds.map sh) ++ (rts σ ρ ++ fr)) := st.ok.pushAll r
    refine ⟨F, ds.map sh, _, ok, ?_, by rw [List.length_map]; exact hn, ?_⟩
    · rw [List.length_map, r.length]
    · simp only at q
      split at q
      · rename_i t out hsem
        rw [hsem]
        intro v H' F' eF o
        rw [hio] at o
        exact q v H' F' (exT e0 eF) (st.unhead (r := (v, t)) o)
      · exact q.elim
      · exact q.elim
theorem e_methW {kn : List Str} {pm : List Nat} {pl : Sem Bool} (hcs : ∀ q ∈ cs, MtwC (X.wd ca) k q.1 m q.2 kn pm ∧ q.2.name = m) (hr : Room k X.A) (hgd : X.A.guards = some []) (ho : PE X o (tO X.K ca of)) (hkw : PK X kws (tEs X.K ca g))
    (hall : (backToKw pos (keywordEach kws X.env)).all (·.1.isSome) = true) (hks : (backToKw pos (keywordEach kws X.env)).filterMap (·.1) = kn)
    (hpl : ((backTo pos (starEach [] X.env)).any (·.1) || (backToKw pos (keywordEach kws X.env)).any (·.1.isNone)) = false)
    (ht : eval (.Call (.Attribute o m apos) [] kws pos) X.env = (do
      let ov ← eval o X.env
      standAt apos.atName
      let (f, first) ← holding [ov] (getMethod ov m pl)
      callWith pos f first (backTo pos (starEach [] X.env)) (backToKw pos (keywordEach kws X.env)))) :
    PE X (.Call (.Attribute o m apos) [] kws pos) (tE X.K ca fun ρ => (of ρ).bind fun x ρ1 => (g ρ1).bind fun ds ρ2 => if ds.length == kn.length then (match permD pm ds with
      | some ds' => (match drf x ρ2 with
        | some (.obj c fs) => match fnd cs c, shO x with
          | some f, some dx => if (fs.lookup f.name).isSome then .bad else if ds'.length + 1 == f.np then callF f ((dx :: ds').map sh) ρ2 else .bad
          | _, _ => .bad
        | _ => .bad)
      | none => .bad) else .bad) := by
  refine ⟨fun pins s σ H Q I h => ?_⟩
  have hA : tO X.K ca of σ H fun x0 H1 => ∃ (a0 dx0 : Addr) (us : List (Str × V)) (c : Str) (f : FS), x0 = .ref a0 ∧ H1 a0 = some (.ins (ca c) dx0 us) ∧ us.lookup m = none ∧ (c, f) ∈ cs ∧
      tEs X.K ca g σ H1 fun vs H2 => vs.length = kn.length ∧ ∃ vs', permD pm vs = some vs' ∧ f.io = false ∧ spOf X.K ca f (x0 :: vs') H2 Q E0 := by
    obtain ⟨F, ρ, fr, st, q⟩ := h
    refine ⟨F, ρ, fr, st, (Post.bind q).mono fun x ρ1 q1 v H1 F1 e1 s1 hv => ?_⟩
    have key : ∃ c fs f, x = .tmp (sh (.obj c fs)) ∧ fnd cs c = some f ∧ fs.lookup f.name = none ∧ Post (g ρ1) fun ds ρ2 => ds.length = kn.length ∧ ∃ ds', permD pm ds = some ds' ∧ ds'.length + 1 = f.np ∧ Post (callF f ((.obj c fs :: ds').map sh) ρ2) fun t ρ' => Fin X.K ca F H σ ρ' fr Q t := by
      have q2 := Post.bind q1
      cases hg : g ρ1 with
      | ok ds ρ2 =>
        rw [hg] at q2
        have q4 : Post (if ds.length == kn.length then (match permD pm ds with
          | some ds' => (match drf x ρ2 with
            | some (.obj c fs) => match fnd cs c, shO x with
              | some f, some dx => if (fs.lookup f.name).isSome then .bad else if ds'.length + 1 == f.np then callF f ((dx :: ds').map sh) ρ2 else .bad
              | _, _ => .bad
            | _ => .bad)
          | none => .bad) else .bad) _ := q2
        clear q2 q1 q
        split at q4
        · rename_i hl
          split at q4
          · rename_i ds' hp
            split at q4
            · rename_i c fs hd
              split at q4
              · rename_i f dx hf hx
                obtain rfl := shO_is hx
                cases hd
                split at q4
                · exact q4.elim
                · rename_i hn
                  split at q4
                  · rename_i hnp
                    exact ⟨c, fs, f, rfl, hf, by cases hq : fs.lookup f.name with
                      | none => rfl
                      | some v => rw [hq] at hn; exact absurd rfl hn, by simpa using hl, ds', hp, by simpa using hnp, q4⟩
                  · exact q4.elim
              · exact q4.elim
            · exact q4.elim
          · exact q4.elim
        · exact q4.elim
      | exc _ _ => rw [hg] at q2; exact q2.elim
      | bad => rw [hg] at q2; exact q2.elim
    obtain ⟨c, fs, f, rfl, hf, hn, q2⟩ := key
    have hmem := fnd_mem hf
    have s1' : S X.K ca F1 H1 σ ρ1 ((v, sh (.obj c fs)) :: fr) := by simpa [tm] using s1
    have rep := s1'.top
    obtain ⟨a0, dx0, us, ev, ha0, hus⟩ := RepB.of s1'.ex rep
    have hm := (hcs _ hmem).2
    refine ⟨a0, dx0, us, c, f, ev, ha0, hus.none (by rw [← hm]; exact hn), hmem, F1, ρ1, fr, s1'.drop, q2.mono fun ds ρ2 q3 vs H2 F2 e2 s2 r => ?_⟩
    obtain ⟨hl, ds', hp, hnp, q3⟩ := q3
    obtain ⟨vs', h1, h2⟩ := permD_reps r hp
    exact ⟨by rw [r.length]; exact hl, vs', h1, call_ready0 (f := f) (ds := (.obj c fs) :: ds') (vs := v :: vs') (Q := Q) (exT e1 e2) s2 ⟨v, vs', rfl, RepD.mono e2 rep, h2⟩ (by simpa using hnp) q3⟩
  refine PySem.W.methodCall_KW (pl := pl) (thn (ho.run pins s σ H _ I hA) fun u s1 ⟨x0, H1, I1, rx, a0, dx0, us, c, f, ex, ea, l, hmem, q⟩ => ?_) ht
  subst ex
  obtain rfl : u = Value.ref a0 := rx
  obtain ⟨fa, fd, ps, hc, hm, F, hd⟩ := (hcs _ hmem).1.ex
  refine getmeth_ok I1 ea hc hm l ?_
  refine PySem.W.callWith_KW0 (h₀ := X.base) I1.ok.mod.kin hm.kp hall ?_ hpl
  refine thn (hkw.run pos pins s1 σ H1 _ I1 q) fun ws s2 ⟨zs, H2, I2, rz, hl, zs', hp, hio, q2⟩ => ⟨I2.kIn, ?_⟩
  rw [hks]
  have hlw : ws.length = kn.length := by rw [← rz.length]; exact hl
  obtain ⟨ws', hw⟩ := permD_all (ys := ws) rz.length hp
  obtain ⟨zs2, hz2, rz'⟩ := permD_vals rz hw
  rw [hp] at hz2
  cases hz2
  have r2 : Vals (V.ref a0 :: zs') (Value.ref a0 :: ws') := .cons rfl rz'
  refine wpAny_call (codeAny_mono (F.run X.A X.stack s2 H2 ⟨[Value.ref a0], kn.zip ws⟩ (Value.ref a0 :: ws') (V.ref a0 :: zs') Q E0 hr hgd I2.env0 (hd _ _ ws ws' I2.kIn hlw hw) r2 q2) fun r s' hq => ?_)
  cases r with
  | error e => exact hq.elim
  | ok fl =>
    cases fl with
    | ret u => exact I2.after hq
    | next => exact False.elim hq
    | brk => exact False.elim hq
    | cont => exact False.elim hq
end
end Mi

set_option Elab.async false
set_option linter.all false
set_option maxRecDepth 100000
set_option maxHeartbeats 4000000
/-! M2s: slices by steps; min with a default. -/
namespace HT
open PySem PySem.Spec PyProof.Rows
section
variable {prog : Program} {w : World} {A : Around} {E : Value → Shared → Prop} {s : Shared}
theorem sliceApplied_step {sl : Addr} {vl vu vs : Value} {lo hi : Option Int} {st : Int} {n : Nat} {Q : Int × Int × Nat → Shared → Prop} (hs : s.heap.IsSliceOf sl vl vu vs) (pl : IsPart vl lo) (pu : IsPart vu hi) (ps : IsPart vs (some st)) (h0 : st ≠ 0)
    (h : Q ((Builtin.Slice.sliceAdjust lo hi st (n : Int)).1, st, Builtin.Slice.slicePlaces (Builtin.Slice.sliceAdjust lo hi st (n : Int)).1 (Builtin.Slice.sliceAdjust lo hi st (n : Int)).2 st) s) :
    wpAny (model prog w) A (Builtin.Slice.sliceApplied (.ref sl) (pure (n : Int))) Q E s := by
  obtain ⟨os, hos, hcs, hds⟩ := id hs
  unfold Builtin.Slice.sliceApplied Builtin.Slice.sliceFields
  refine wpAny_bind (wpAny_bind (wpAny_field hos hds (x := vl) rfl (wpAny_bind (wpAny_field hos hds (x := vu) rfl (wpAny_bind (wpAny_field hos hds (x := vs) rfl (wpAny_pure ?_)))))))
  refine wpAny_bind (slicePart_ ps ?_)
  show wpAny _ _ (if (st == 0) = true then _ else _) _ _ s
  rw [if_neg (by simpa using h0)]
  refine wpAny_bind (slicePart_ pl (wpAny_bind (slicePart_ pu (wpAny_bind (wpAny_pure ?_)))))
  exact wpAny_pure h
theorem getItem_tuple_step {t sl : Addr} {items : Array Value} {vl vu vs : Value} {lo hi : Option Int} {st : Int} {Q : Value → Shared → Prop} (ht : IsTup s.heap t items) (hs : s.heap.IsSliceOf sl vl vu vs) (pl : IsPart vl lo) (pu : IsPart vu hi) (ps : IsPart vs (some st)) (h0 : st ≠ 0)
    (hz : (Builtin.Slice.slicePlaces (Builtin.Slice.sliceAdjust lo hi st (items.size : Int)).1 (Builtin.Slice.sliceAdjust lo hi st (items.size : Int)).2 st) ≤ sizeLine)
    (hw : (Builtin.Slice.sliceAdjust lo hi st (items.size : Int)).1 = 0 → st = 1 → (Builtin.Slice.slicePlaces (Builtin.Slice.sliceAdjust lo hi st (items.size : Int)).1 (Builtin.Slice.sliceAdjust lo hi st (items.size : Int)).2 st) = items.size → Q (.ref t) s)
    (h : Q (.ref s.heap.objs.size) { s with heap := s.heap.push { cls := .type "tuple", data := .seq ((List.range (Builtin.Slice.slicePlaces (Builtin.Slice.sliceAdjust lo hi st (items.size : Int)).1 (Builtin.Slice.sliceAdjust lo hi st (items.size : Int)).2 st)).filterMap fun (k : Nat) => items[((Builtin.Slice.sliceAdjust lo hi st (items.size : Int)).1 + (k : Int) * st).toNat]?).toArray } }) :
    wpAny (model prog w) A (getItem (.ref t) (.ref sl)) Q E s := by
  obtain ⟨os, hos, hcs, hds⟩ := id hs
  have hTs : s.TypeIs (.ref sl) "slice" := ⟨os, hos, hcs⟩
  unfold getItem
  try with_reducible refine wpAny_holding ?_
  first | refine wpAny_bind (wpAny_pure ?_) | skip
  refine wpAny_bind (wpAny_sequenceKey ht.typeIs (by decide) ?_)
  refine wpAny_bind (wpAny_callSpecial?_slot (name := Str.ofString "__getitem__") ht.typeIs PyProof.Rows.slot_tuple_getitem
    (wpAny_call_entry PyProof.Rows.slot_tuple_getitem ht.typeIs entry_tuple_getitem ?_ (args_tuple_getitem _ _)))
  show wpAny _ _ (Builtin.Tuple.tupleItemsOf (.ref t) >>= _) _ _ s
  refine wpAny_bind (tupleItemsOf_ ht ?_)
  refine wpAny_bind (wpAny_typeOf hTs ?_)
  rw [if_pos (by decide)]
  refine wpAny_bind (sliceApplied_step hs pl pu ps h0 ?_)
  generalize hL : (Builtin.Slice.sliceAdjust lo hi st (items.size : Int)).1 = L at *
  generalize hK : Builtin.Slice.slicePlaces L (Builtin.Slice.sliceAdjust lo hi st (items.size : Int)).2 st = K at *
  have htake : sizeOk (.seq ((List.range K).filterMap fun (k : Nat) => items[(L + (k : Int) * st).toNat]?).toArray) := by
    show ((List.range K).filterMap fun (k : Nat) => items[(L + (k : Int) * st).toNat]?).toArray.size ≤ sizeLine
    rw [List.size_toArray]
    have := List.length_filterMap_le (fun (k : Nat) => items[(L + (k : Int) * st).toNat]?) (List.range K)
    rw [List.length_range] at this
    omega
  show wpAny _ _ (if (L == 0 && st == 1 && K == items.size) = true then _ else _) _ _ s
  by_cases hb : (L == 0 && st == 1 && K == items.size) = true
  · rw [if_pos hb]
    rw [Bool.and_eq_true, Bool.and_eq_true] at hb
    have h := hw (eq_of_beq hb.1.1) (eq_of_beq hb.1.2) (eq_of_beq hb.2)
    refine wpAny_bind ?_
    show wpAny _ _ (typeOf (.ref t) >>= fun T => pure (T == .type "tuple")) _ _ s
    refine wpAny_bind (wpAny_typeOf ht.typeIs (wpAny_pure ?_))
    first
      | rw [if_pos (by decide)]
      | simp only [beq_self_eq_true, if_true]
    first
      | exact wpAny_bind (wpAny_rule (wpAny_pure ⟨_, rfl, wpAny_pure h⟩))
      | exact wpAny_bind (wpAny_rule (wpAny_bind (wpAny_pure (wpAny_pure ⟨_, rfl, wpAny_pure h⟩))))
  · rw [if_neg hb]
    first
      | exact wpAny_bind (m := Builtin.Tuple.tupleExact _) (wpAny_newObj_type (wpAny_pure ⟨_, rfl, wpAny_pure h⟩) htake)
      | exact wpAny_bind (m := Builtin.Tuple.tupleExact _) (wpAny_newObj_type (wpAny_bind (wpAny_pure (wpAny_pure ⟨_, rfl, wpAny_pure h⟩))) htake)
      | exact wpAny_bind (wpAny_bind (m := Builtin.Tuple.tupleExact _) (wpAny_newObj_type (wpAny_pure (wpAny_pure ⟨_, rfl, wpAny_pure h⟩)) htake))
      | exact wpAny_bind (wpAny_bind (m := Builtin.Tuple.tupleExact _) (wpAny_newObj_type (wpAny_pure ⟨_, rfl, wpAny_pure h⟩) htake))
end
end HT
namespace Mi
open PySem PySem.Spec PyProof.Rows L2
open Evl (Ex)
section
variable {X : Cx}
def SlR3 (X : Cx) (r : V → Option Int → Option Int → Option Int → Hp → VK → Prop) : Prop :=
  ∀ (pins : List (Addr × Obj)) (s : Shared) (σ : L2.St) (H : Hp) (x : V) (v vl vu vs : Value) (lo hi st : Option Int) (sl : Addr) (Q : VK), Inv X pins σ H s → RelV x v → s.heap.IsSliceOf sl vl vu vs → IsPart vl lo → IsPart vu hi → IsPart vs st → r x lo hi st H Q →
    ∃ T id, typeLookup (.type T) "__getitem__" = pure (some (.builtin id)) ∧ s.TypeIs v T ∧ wpAny (model X.prog X.w) X.A (getItem v (.ref sl)) (EP X pins σ Q) X.xe s
def tSl3 (r : V → Option Int → Option Int → Option Int → Hp → VK → Prop) (te : TE) (tl th ts : TO) : TE := fun σ H Q => te σ H fun x H1 => tl σ H1 fun l H2 => th σ H2 fun u H3 => ts σ H3 fun z H4 => r x l u z H4 Q
theorem pe_slice3 {e st : Expr} {te : TE} {lo hi : Option Expr} {tl th ts : TO} {pos p2 : Pos} {r : V → Option Int → Option Int → Option Int → Hp → VK → Prop} (hr : SlR3 X r) (he : PE X e te) (hl : PO X lo tl) (hu : PO X hi th) (hs : PO X (some st) ts) : PE X (.Subscript e (.Slice lo hi (some st) p2) pos) (tSl3 r te tl th ts) := by
  refine ⟨fun pins s σ H Q I h => ?_⟩
  refine Subscript_ (thn (he.run pins s σ H _ I h) fun v s1 ⟨x, H1, I1, r1, q1⟩ => ?_)
  refine wpAny_Slice (thn (hl.run pins s1 σ H1 _ I1 q1) fun vl s2 ⟨l, H2, I2, pl, q2⟩ => thn (hu.run pins s2 σ H2 _ I2 q2) fun vu s3 ⟨u, H3, I3, pu, q3⟩ => thn (hs.run pins s3 σ H3 _ I3 q3) fun vs s4 ⟨z, H4, I4, ps, q4⟩ => ?_)
  have I5 : Inv X pins σ H4 { s4 with heap := s4.heap.push { cls := .type "slice", data := .fields #[vl, vu, vs] } } := I4.kept (t' := s4.toks) fun b ob q => Heap.get?_push_of_some _ q
  obtain ⟨T, id, hT, ht, hg⟩ := hr pins { s4 with heap := s4.heap.push { cls := .type "slice", data := .fields #[vl, vu, vs] } } σ H4 x v vl vu vs l u z s4.heap.objs.size Q I5 r1 (Heap.IsSliceOf.new ..) pl pu ps q4
  show wpAny (model X.prog X.w) X.A (subscriptTail e (.Slice lo hi (some st) p2) v (.ref s4.heap.objs.size)) (EP X pins σ Q) X.xe { s4 with heap := s4.heap.push { cls := .type "slice", data := .fields #[vl, vu, vs] } }
  exact tail_any (ops := [v, .ref s4.heap.objs.size]) ht hT hg (by with_unfolding_all rfl)
theorem filt_reps {K : PySem.W.Frag} {ca : Str → Addr} {F : Hp} {ds : List D} {vs : List V} (h : RepDs K ca F ds vs) (g : Nat → Nat) : ∀ ks : List Nat, RepDs K ca F (ks.filterMap fun k => ds[g k]?) (ks.filterMap fun k => vs[g k]?)
  | [] => rfl
  | k :: ks => by
    have ih := filt_reps h g ks
    rw [List.filterMap_cons, List.filterMap_cons]
    rcases e : ds[g k]? with _ | d
    · have : vs[g k]? = none := by
        rw [List.getElem?_eq_none_iff] at e ⊢
        rw [h.length]
        exact e
      rw [this]
      exact ih
    · obtain ⟨v, ev, rv⟩ := h.get e
      rw [ev]
      exact ⟨v, _, rfl, rv, ih⟩
theorem filt_vals {vs : List V} {us : List Value} (h : Vals vs us) (g : Nat → Nat) : ∀ ks : List Nat, Vals (ks.filterMap fun k => vs[g k]?) (ks.filterMap fun k => us[g k]?)
  | [] => .nil
  | k :: ks => by
    have ih := filt_vals h g ks
    rw [List.filterMap_cons, List.filterMap_cons]
    rcases e : vs[g k]? with _ | d
    · have : us[g k]? = none := by
        rw [List.getElem?_eq_none_iff] at e ⊢
        rw [← h.length]
        exact e
      rw [this]
      exact ih
    · obtain ⟨v, ev, rv⟩ := h.get e
      rw [ev]
      exact .cons rv ih
theorem stepX_whole {α : Type} (xs : List α) : stepX xs 0 xs.length 1 = xs := by
  have e : (fun (m : Nat) => xs[((0 : Int) + (m : Int) * 1).toNat]?) = fun m => xs[m]? := by
    funext m
    have : ((0 : Int) + (m : Int) * 1).toNat = m := by omega
    rw [this]
  simp only [stepX, e]
  apply List.ext_getElem?
  intro i
  have key : ∀ n, n ≤ xs.length → (List.range n).filterMap (fun m => xs[m]?) = xs.take n := by
    intro n
    induction n with
    | zero => intro _; simp
    | succ n ih =>
      intro hn
      rw [List.range_succ, List.filterMap_append, ih (by omega), List.take_add_one]
      have : n < xs.length := by omega
      simp [this]
  rw [key _ (Nat.le_refl _), List.take_length]
variable {ca : Str → Addr}
def rSlD3 (K : PySem.W.Frag) (ca : Str → Addr) : V → Option Int → Option Int → Option Int → Hp → VK → Prop := fun x lo hi z H Q =>
  ∃ F σ ρ fr dx t, S K ca F H σ ρ fr ∧ RepB K ca F H dx x ∧ sliceD3 dx lo hi z = some t ∧ Fin K ca F H σ ρ fr Q t
theorem sl3_D : SlR3 X (rSlD3 X.K ca) := by
  intro pins s σ H x u vl vu vs lo hi z sl Q I rx hs pl pu ps h
  obtain ⟨F, σ', ρ, fr, dx, t, st, hx, h, f⟩ := h
  unfold sliceD3 at h
  split at h
  · rename_i ds z
    split at h
    · rename_i hc
      cases h
      rw [Bool.and_eq_true] at hc
      have h0 : z ≠ 0 := by simpa using hc.1
      obtain ⟨a, xs, rfl, h1, h2⟩ := hx
      have hT : SqT X.K H a xs := Evl.ex_t st.ex h1.t
      cases rx
      obtain ⟨its, r, ht, hz⟩ := I.tuple hT
      have hlen : its.toArray.size = xs.length := by rw [List.size_toArray]; exact r.length.symm
      have hlen2 : xs.length = ds.length := h2.length
      refine ⟨"tuple", _, PyProof.Rows.slot_tuple_getitem.lookup, ht.typeIs, ?_⟩
      refine HT.getItem_tuple_step ht hs pl pu ps h0 ?_ ?_ ?_
      · rw [hlen, hlen2]
        exact sz_ok hc.2
      · rw [hlen, hlen2]
        intro e1 e2 e3
        subst e2
        have e4 : stepD ds lo hi 1 = ds := by
          unfold stepD adjS
          rw [e3, e1]
          exact stepX_whole ds
        rw [e4] at f
        exact ⟨.ref a, H, I, rfl, f.old st ⟨a, xs, rfl, h1, h2⟩⟩
      · rw [hlen, hlen2]
        have hr := filt_reps h2 (fun k => ((adjS ds.length lo hi z).1 + (k : Int) * z).toNat) (List.range (adjS ds.length lo hi z).2)
        have hv := filt_vals r (fun k => ((adjS ds.length lo hi z).1 + (k : Int) * z).toNat) (List.range (adjS ds.length lo hi z).2)
        have hle : (List.filterMap (fun (k : Nat) => xs[((adjS ds.length lo hi z).1 + (k : Int) * z).toNat]?) (List.range (adjS ds.length lo hi z).2)).length ≤ sizeLine := by
          have h1 := List.length_filterMap_le (fun (k : Nat) => xs[((adjS ds.length lo hi z).1 + (k : Int) * z).toNat]?) (List.range (adjS ds.length lo hi z).2)
          rw [List.length_range] at h1
          exact Nat.le_trans h1 (sz_ok hc.2)
        refine ⟨.ref s.heap.objs.size, _, I.laid (t' := s.toks) (o := .tup _) (fun b ob q => Heap.get?_push_of_some _ q) (Nat.le_refl _) ?_, rfl, f.newT st (I.hok.fresh (Nat.le_refl _)) hr⟩
        refine ⟨hle, _, hv, ?_⟩
        have ea : (fun (k : Nat) => its.toArray[((Builtin.Slice.sliceAdjust lo hi z (ds.length : Int)).1 + (k : Int) * z).toNat]?) = fun (k : Nat) => its[((adjS ds.length lo hi z).1 + (k : Int) * z).toNat]? := by
          funext k
          rw [List.getElem?_toArray]
          rfl
        rw [ea]
        exact IsTup.new _ _
    · cases h
  · cases h
section
variable {a : Expr} {oa : Sl → R Opd} {pos : Pos}
theorem e_slice3 {lo hi : Option Expr} {z : Expr} {fl fh fz : Sl → R (Option Int)} {p2 : Pos} (ha : PE X a ((tO X.K ca) oa)) (hl : PO X lo (tI X.K ca fl)) (hh : PO X hi (tI X.K ca fh)) (hz : PO X (some z) (tI X.K ca fz)) : PE X (.Subscript a (.Slice lo hi (some z) p2) pos) ((tE X.K ca) fun ρ => (oa ρ).bind fun x ρ1 => (fl ρ1).bind fun l ρ2 => (fh ρ2).bind fun h ρ3 => (fz ρ3).bind fun q ρ4 => match drf x ρ4 with
    | some d => R.opt (sliceD3 d l h q) ρ4
    | none => .bad) := by
  refine ⟨fun pins s σ H Q I h => (pe_slice3 (sl3_D (ca := ca)) ha hl hh hz).run pins s σ H Q I ?_⟩
  obtain ⟨F, ρ, fr, st, q⟩ := h
  refine ⟨F, ρ, fr, st, (Post.bind q).mono fun x ρ1 q1 v H1 F1 e1 s1 hv => ?_⟩
  refine ⟨F1, ρ1, _, s1, (Post.bind q1).mono fun l ρ2 q2 H2 F2 e2 s2 => ?_⟩
  refine ⟨F2, ρ2, _, s2, (Post.bind q2).mono fun h ρ3 q3 H3 F3 e3 s3 => ?_⟩
  refine ⟨F3, ρ3, _, s3, (Post.bind q3).mono fun z ρ4 q4 H4 F4 e4 s4 => ?_⟩
  split at q4
  · rename_i d hd
    obtain ⟨t, e, q5⟩ := Post.opt q4
    exact ⟨F4, σ, ρ4, fr, d, t, s4.dropTm, drf_one s4 hv hd, e, fun v H' F' eF s' => q5 v H' F' (exT e1 (exT e2 (exT e3 (exT e4 eF)))) s'⟩
  · exact q4.elim
theorem minOf_int : ∀ (ys : List Int) (y : Int), PySem.W.minOf y ys ∈ y :: ys ∧ ∀ z ∈ y :: ys, PySem.W.minOf y ys ≤ z
  | [], y => by simp [PySem.W.minOf]
  | x :: ys, y => by
    have e : PySem.W.minOf y (x :: ys) = PySem.W.minOf (if decide (x < y) = true then x else y) ys := rfl
    obtain ⟨h1, h2⟩ := minOf_int ys (if decide (x < y) = true then x else y)
    rw [e]
    by_cases h : x < y
    · simp only [h, decide_true, if_true] at h1 h2 ⊢
      refine ⟨?_, fun z hz => ?_⟩
      · rcases List.mem_cons.mp h1 with h1 | h1
        · rw [h1]; simp
        · exact List.mem_cons_of_mem _ (List.mem_cons_of_mem _ h1)
      · rcases List.mem_cons.mp hz with rfl | hz
        · have := h2 x (List.mem_cons_self ..)
          omega
        · exact h2 z hz
    · simp only [h, decide_false, Bool.false_eq_true, if_false] at h1 h2 ⊢
      refine ⟨?_, fun z hz => ?_⟩
      · rcases List.mem_cons.mp h1 with h1 | h1
        · rw [h1]; simp
        · exact List.mem_cons_of_mem _ (List.mem_cons_of_mem _ h1)
      · rcases List.mem_cons.mp hz with rfl | hz
        · exact h2 z (List.mem_cons_self ..)
        · rcases List.mem_cons.mp hz with rfl | hz
          · have := h2 y (List.mem_cons_self ..)
            omega
          · exact h2 z (List.mem_cons_of_mem _ hz)
/-- min(l, default=i) -/
theorem e_min0 {of : Sl → R Opd} {p kp kq : Pos} {i : Int} {k : Nat} (hc : X.calm = true) (hu : X.A.units + 65 < cLine) (hg : Gl X "min") (hm : X.mg "min" = none) (ha : PE X a (tO X.K ca of))
    (na : starEach [a] X.env = (false, eval a X.env) :: starEach [] X.env) : PE X (.Call (.Name "min" p) [a] [⟨some "default", .Constant (.int i) k kq, kp⟩] pos) (tE X.K ca fun ρ => ((fun ρ => (of ρ).bind fun x ρ1 => ((fun ρ => .ok [] ρ : Sl → R (List Opd)) ρ1).bind fun ys ρ2 => .ok (x :: ys) ρ2 : Sl → R (List Opd)) ρ).bind fun os ρ1 => match drfs os ρ1 with
      | some ds => R.opt (biD (.minL0 (.int i)) ds) ρ1
      | none => .bad) := by
  refine ⟨fun pins s σ H Q I hq => ?_⟩
  refine wpAny_Call_Name_kw (ld_blt I hg hm (u := .builtin "min") boot_min ?_ (by decide) (by decide))
  have hA : tCons (tO X.K ca of) tNil σ H fun vs H1 => ∃ v a xs is, vs = [v] ∧ v = V.ref a ∧ Rd H1 a (.lst xs) ∧ xs = is.map V.int ∧ (is = [] → Q (.int i) H1) ∧ (∀ m, 0 < is.length → m ∈ is → (∀ y ∈ is, m ≤ y) → Q (.int m) H1) := by
    obtain ⟨F, ρ, fr, st, qq⟩ := hq
    refine ⟨F, ρ, fr, st, (Post.bind (Post.bind qq)).mono fun x ρ1 q1 v H1 F1 e1 s1 hv => ?_⟩
    have q1 : Post (match drfs [x] ρ1 with
      | some ds => R.opt (biD (.minL0 (.int i)) ds) ρ1
      | none => .bad) _ := q1
    split at q1
    · rename_i ds hd
      obtain ⟨t, e, q2⟩ := Post.opt q1
      simp only [drfs] at hd
      split at hd
      · rename_i d _ hx hn
        cases hn
        cases hd
        have rep := drf_one s1 hv hx
        cases d <;> simp only [biD, reduceCtorEq] at e
        rename_i xs
        obtain ⟨a, vs, rfl, h1, h2⟩ := rep
        split at e
        · rename_i hem
          cases e
          have hem : xs = [] := List.isEmpty_iff.mp hem
          subst hem
          cases h2
          refine ⟨_, a, [], [], rfl, rfl, h1, rfl, fun _ => q2 _ _ _ e1 (s1.dropTm.push rfl), fun m h => absurd h (by simp)⟩
        · simp only [Option.map_eq_some_iff, Option.bind_eq_some_iff] at e
          obtain ⟨m, ⟨ns, g1, g2⟩, rfl⟩ := e
          have g3 := rep_ints h2 g1
          obtain ⟨l0, l1⟩ := minI_is g2
          refine ⟨_, a, vs, ns, rfl, rfl, h1, g3, fun h => by subst h; simp at l0, fun k _ hk hle => ?_⟩
          rw [l1 k hk hle]
          exact q2 _ _ _ e1 (s1.dropTm.push rfl)
      · cases hd
    · exact q1.elim
  refine PyProof.Rows.callWith_kw ?_ (by rw [na]; rfl) (by rw [na]; rfl) rfl rfl
  refine thn ((pa_cons ha pa_nil na).run pos pins s σ H _ I hA) fun us s1 ⟨vs, H1, I1, r1, q1⟩ => ?_
  obtain ⟨v, a, xs, is, rfl, rfl, hl, rfl, h0, h1⟩ := q1
  have hK : tCons (tC (.int i)) tNil σ H1 fun ws H2 => ws = [V.int i] ∧ H2 = H1 := ⟨rfl, rfl⟩
  refine thn ((pk_cons (nm := some "default") (kpos := kp) pe_int pk_nil).run pos pins s1 σ H1 _ I1 hK) fun kvs s2 ⟨ws, H2, I2, r2, q2⟩ => ?_
  obtain ⟨rfl, rfl⟩ := q2
  obtain ⟨u, rfl, ru⟩ := r2.one
  obtain ⟨t, rfl⟩ := ru
  rw [Vals.ref1 r1]
  obtain ⟨z, its, n, rv, hlen, hget⟩ := lstR I2 hl
  have hi : IntsAre its is := rv.ints
  have hH : PySem.W.HoldAll s2.heap its.toArray.toList is := PySem.W.HoldAll.of_ints hi
  have hd1 : PySem.W.Datum.depth Int ≤ 1 := by decide
  refine PySem.W.min_list_datum_default (α := Int) (I2.ok.hd hc) ⟨_, hget, rfl, _, rfl⟩ hH (by omega) (fun e h' tk kk => ?_) (fun y ys j v h' tk e hv r kk => ?_)
  · exact ⟨.int i, _, I2.kept kk, ⟨_, rfl⟩, h0 e⟩
  · obtain ⟨as, r⟩ := r
    obtain ⟨t1, rfl⟩ : ∃ t, v = .int (PySem.W.minOf y ys) t := by
      cases r
      exact ⟨_, rfl⟩
    obtain ⟨m1, m2⟩ := minOf_int ys y
    subst e
    exact ⟨.int _, _, I2.kept kk, ⟨_, rfl⟩, h1 _ (by simp) m1 m2⟩
end
end
end Mi

set_option Elab.async false
set_option linter.all false
set_option maxRecDepth 100000
set_option maxHeartbeats 1000000
/-! M2h: operators by instances. -/
namespace Mi
open PySem PySem.Spec PyProof.Rows L2
open Evl (Ex)
section
variable {X : Cx} {ca : Str → Addr} {k : Nat} {f : FS} {c m : Str} {cs : List (Str × FS)} {a b e o : Expr} {es : List Expr} {pos p apos : Pos} {oa ob : Sl → R Opd}
/-- by an instance's own method: x the instance, y the other -/
def rOwn (K : PySem.W.Frag) (ca : Str → Addr) (cs : List (Str × FS)) (g : V → Option V) (x y : V) (H : Hp) (Q : VK) : Prop :=
  ∃ c f a0 dx us, x = .ref a0 ∧ H a0 = some (.ins (ca c) dx us) ∧ (c, f) ∈ cs ∧ ∃ j, j ≤ f.dfl.length ∧ ∀ dvs, (∀ F, RepDs K ca F (f.dfl.drop (f.dfl.length - j)) dvs) → spOf K ca f (x :: y :: dvs) H (fun v H' => ∃ z, g v = some z ∧ Q z H') E0
def gB : V → Option V
  | .bl b => some (.bl b)
  | _ => none
def gN : V → Option V
  | .bl b => some (.bl (!b))
  | _ => none
theorem run_own {pins : List (Addr × Obj)} {σ : L2.St} {H : Hp} {s : Shared} {Q : VK} {g : V → Option V} {x y : V} {u w : Value} (hcs : ∀ q ∈ cs, MtC (X.wd ca) k q.1 m q.2) (hr : Room k X.A) (hgd : X.A.guards = some [])
    (I : Inv X pins σ H s) (rx : RelV x u) (ry : RelV y w) (h : rOwn X.K ca cs g x y H Q) : ∃ (a0 C fa : Addr) (ob : Obj) (od : Option Obj), u = .ref a0 ∧ PySem.W.InstAt s.heap a0 ob C od ∧ PySem.W.findIn X.K (.ref C) m = some (some (.ref fa)) ∧ PySem.W.isFn X.K (.ref fa) = true ∧
      wpAny (model X.prog X.w) X.A (call (.ref fa) [.ref a0, w]) (EP X pins σ fun v H' => ∃ z, g v = some z ∧ Q z H') X.xe s := by
  obtain ⟨c, f, a0, dx, us, rfl, ha, hmem, j, hj, q⟩ := h
  cases rx
  obtain ⟨fa, fd, ps, hc, hm, F, hd⟩ := (hcs _ hmem).ex
  obtain ⟨mA, J, _⟩ := ins_get I.hok ha
  obtain ⟨od, J, _⟩ := J.look
  obtain ⟨dvs, ds, hb, hv, hrep⟩ := hd j hj
  exact ⟨a0, ca c, fa, _, some od, rfl, J, hm.at_, hm.fn, run_fnG (us := [.ref a0, w]) (vs := [.ref a0, y]) F hr hgd hb hv I (.cons rfl (.cons ry .nil)) (q dvs hrep)⟩
theorem op_inO (hcs : ∀ q ∈ cs, MtC (X.wd ca) k q.1 "__contains__" q.2) (hr : Room k X.A) (hgd : X.A.guards = some []) : OpR X (compareOp .In) (fun x y H Q => rOwn X.K ca cs gB y x H Q) := by
  intro pins s σ H x y u w Q I rx ry h
  obtain ⟨a0, C, fa, ob, od, rfl, J, hs, hf, q⟩ := run_own hcs hr hgd I ry rx h
  obtain ⟨m, hF⟩ := I.fr
  refine PySem.W.in_K hF I.ok.mod.kin J hs hf (wpAny_mono q (fun v s' ⟨x', H', I', r', z, hz, qz⟩ => ?_) fun _ _ e => e)
  cases x' <;> simp only [gB, Option.some.injEq, reduceCtorEq] at hz
  subst hz
  cases r'
  exact wpAny_truthy_bool ⟨.bl _, H', I', rfl, qz⟩
theorem op_notInO (hcs : ∀ q ∈ cs, MtC (X.wd ca) k q.1 "__contains__" q.2) (hr : Room k X.A) (hgd : X.A.guards = some []) : OpR X (compareOp .NotIn) (fun x y H Q => rOwn X.K ca cs gN y x H Q) := by
  intro pins s σ H x y u w Q I rx ry h
  obtain ⟨a0, C, fa, ob, od, rfl, J, hs, hf, q⟩ := run_own hcs hr hgd I ry rx h
  obtain ⟨m, hF⟩ := I.fr
  refine PySem.W.notIn_K hF I.ok.mod.kin J hs hf (wpAny_mono q (fun v s' ⟨x', H', I', r', z, hz, qz⟩ => ?_) fun _ _ e => e)
  cases x' <;> simp only [gN, Option.some.injEq, reduceCtorEq] at hz
  subst hz
  cases r'
  exact wpAny_truthy_bool ⟨.bl _, H', I', rfl, qz⟩
/-- which method -/
def cmpM : CmpOp → Str
  | .In => "__contains__"
  | .NotIn => "__contains__"
  | _ => "__eq__"
/-- ops that an instance may answer here -/
def ownOp : CmpOp → Bool
  | .In | .NotIn | .Eq | .NotEq => true
  | _ => false
/-- what must be known of an instance's answer -/
def CmpC (W : Wd) (k : Nat) (op : CmpOp) (c : Str) (f : FS) : Prop := match op with
  | .NotEq => (∃ j, j + 1 ≤ k ∧ MtC W j c "__eq__" f) ∧ PySem.W.findIn W.K (.ref (W.ca c)) "__ne__" = some (some (.builtin "object.__ne__")) ∧ PySem.W.subIn W.K (.ref (W.ca c)) (.type "object") = some true
  | op => MtC W k c (cmpM op) f
/-- two instances of one class -/
def rOwn2 (K : PySem.W.Frag) (ca : Str → Addr) (cs : List (Str × FS)) (g : V → Option V) (x y : V) (H : Hp) (Q : VK) : Prop :=
  ∃ c f a0 dx us b0 dy ws, x = .ref a0 ∧ H a0 = some (.ins (ca c) dx us) ∧ y = .ref b0 ∧ H b0 = some (.ins (ca c) dy ws) ∧ (c, f) ∈ cs ∧ ∃ j, j ≤ f.dfl.length ∧ ∀ dvs, (∀ F, RepDs K ca F (f.dfl.drop (f.dfl.length - j)) dvs) → spOf K ca f (x :: y :: dvs) H (fun v H' => ∃ z, g v = some z ∧ Q z H') E0
theorem op_eqO (hu : X.A.units < cLine) (hcs : ∀ q ∈ cs, MtC (X.wd ca) k q.1 "__eq__" q.2) (hr : Room k X.A) (hgd : X.A.guards = some []) : OpR X (compareOp .Eq) (fun x y H Q => rOwn2 X.K ca cs gB x y H Q) := by
  intro pins s σ H x y u w Q I rx ry h
  obtain ⟨c, f, a0, dx, us, b0, dy, ws, rfl, ha, rfl, hb0, hmem, j, hj, q⟩ := h
  cases rx
  cases ry
  obtain ⟨fa, fd, ps, hc, hm, F, hd⟩ := (hcs _ hmem).ex
  obtain ⟨mA, J, _⟩ := ins_get I.hok ha
  obtain ⟨od, J, _⟩ := J.look
  obtain ⟨mB, JB, _⟩ := ins_get I.hok hb0
  obtain ⟨odB, JB, _⟩ := JB.look
  obtain ⟨dvs, ds, hb, hv, hrep⟩ := hd j hj
  have run := run_fnG (us := [.ref a0, .ref b0]) (vs := [.ref a0, .ref b0]) F hr hgd hb hv I (.cons rfl (.cons rfl .nil)) (q dvs hrep)
  obtain ⟨m, hF⟩ := I.fr
  show wpAny (model X.prog X.w) X.A (richCompare .Eq _ _) (EP X pins σ Q) X.xe s
  refine PySem.W.cmp_K (op := .Eq) (tb := .ref (ca c)) hu hF I.ok.mod.kin J JB.type (by simp [PySem.W.notFirst]) hm.at_ hm.fn (wpAny_mono run (fun v s' z => ?_) fun _ _ e => e)
  obtain ⟨x', H', I', r', z, hz, qz⟩ := z
  cases x' <;> simp only [gB, Option.some.injEq, reduceCtorEq] at hz
  subst hz
  exact SlX.cmpback r' ⟨.bl _, H', I', r', qz⟩
theorem op_neO (hu : X.A.units + 1 < cLine) (hcs : ∀ q ∈ cs, CmpC (X.wd ca) k .NotEq q.1 q.2) (hr : Room k X.A) (hgd : X.A.guards = some []) : OpR X (compareOp .NotEq) (fun x y H Q => rOwn2 X.K ca cs gN x y H Q) := by
  intro pins s σ H x y u w Q I rx ry h
  obtain ⟨c, f, a0, dx, us, b0, dy, ws, rfl, ha, rfl, hb0, hmem, j, hj, q⟩ := h
  cases rx
  cases ry
  obtain ⟨⟨k0, hk0, hmt⟩, hne, hob⟩ := hcs _ hmem
  obtain ⟨fa, fd, ps, hc, hm, F, hd⟩ := hmt.ex
  obtain ⟨mA, J, _⟩ := ins_get I.hok ha
  obtain ⟨od, J, _⟩ := J.look
  obtain ⟨mB, JB, _⟩ := ins_get I.hok hb0
  obtain ⟨odB, JB, _⟩ := JB.look
  obtain ⟨dvs, ds, hb, hv, hrep⟩ := hd j hj
  have hsp := q dvs hrep
  have r2 : Vals (V.ref a0 :: V.ref b0 :: dvs) (Value.ref a0 :: Value.ref b0 :: ds) := .cons rfl (.cons rfl hv)
  have hl : (Value.ref a0 :: Value.ref b0 :: ds).length = ps.length := by rw [← r2.length]; exact F.len _ _ _ _ hsp
  have run : wpAny (model X.prog X.w) X.A.in1 (call (.ref fa) [.ref a0, .ref b0]) (EP X pins σ fun v H' => ∃ z, gN v = some z ∧ Q z H') X.xe s := by
    refine wpAny_call (codeAny_mono (F.run X.A.in1 X.stack s H ⟨[.ref a0, .ref b0], []⟩ (Value.ref a0 :: Value.ref b0 :: ds) (V.ref a0 :: V.ref b0 :: dvs) _ E0 (hr.mono hk0).in1 hgd (by
      have e := I.env0
      exact ⟨e.frames, e.mod, e.bs, e.bsz, e.funs, e.frf, e.hok, e.bare⟩) (hb s _ I.kIn hl) r2 hsp) fun r s' hq => ?_)
    cases r with
    | error e => exact hq.elim
    | ok fl =>
      cases fl with
      | ret u => exact I.after hq
      | next => exact False.elim hq
      | brk => exact False.elim hq
      | cont => exact False.elim hq
  obtain ⟨m, hF⟩ := I.fr
  show wpAny (model X.prog X.w) X.A (richCompare .NotEq _ _) (EP X pins σ Q) X.xe s
  refine PySem.W.ne_K (tb := .ref (ca c)) hu hF I.ok.mod.kin J JB.type (by simp [PySem.W.notFirst]) hne hm.at_ hm.fn hob (wpAny_mono run (fun v s' z => ?_) fun _ _ e => e)
  obtain ⟨x', H', I', r', z, hz, qz⟩ := z
  cases x' <;> simp only [gN, Option.some.injEq, reduceCtorEq] at hz
  subst hz
  cases r'
  exact ⟨_, rfl, .bl _, H', I', rfl, qz⟩
def rCmpO (K : PySem.W.Frag) (ca : Str → Addr) (op : CmpOp) (cs : List (Str × FS)) : R2 := fun x y H Q => rCmp K ca op x y H Q ∨ (match op with
  | .In => rOwn K ca cs gB y x H Q
  | .NotIn => rOwn K ca cs gN y x H Q
  | .Eq => rOwn2 K ca cs gB x y H Q
  | .NotEq => rOwn2 K ca cs gN x y H Q
  | _ => False)
theorem op_cmpO {op : CmpOp} (hu : X.A.units + 65 < cLine) (hcs : ∀ q ∈ cs, CmpC (X.wd ca) k op q.1 q.2) (hr : Room k X.A) (hgd : X.A.guards = some []) : OpR X (compareOp op) (rCmpO X.K ca op cs) := by
  intro pins s σ H x y u w Q I rx ry h
  rcases h with h | h
  · exact op_cmp hu op pins s σ H x y u w Q I rx ry h
  · cases op with
    | In => exact op_inO hcs hr hgd pins s σ H x y u w Q I rx ry h
    | NotIn => exact op_notInO hcs hr hgd pins s σ H x y u w Q I rx ry h
    | Eq => exact op_eqO (by omega) hcs hr hgd pins s σ H x y u w Q I rx ry h
    | NotEq => exact op_neO (by omega) hcs hr hgd pins s σ H x y u w Q I rx ry h
    | _ => exact h.elim
theorem own_ready {F H : Hp} {σ : L2.St} {ρ : Sl} {fr : List (V × T)} {c : Str} {fs : List (Str × D)} {f : FS} {v u : V} {d : D} {Q : VK} {gT : T → Option T} {gV : V → Option V} (hg : ∀ t t' v, gT t = some t' → RepD X.K ca F t.d v → True)
    (st : S X.K ca F H σ ρ fr) (hf : fnd cs c = some f) (r1 : RepD X.K ca F (.obj c fs) v) (r2 : RepD X.K ca F d u)
    (q : Post ((callF f [sh (.obj c fs), sh d] ρ).bind fun t ρ' => R.opt (gT t) ρ') fun t ρ' => Fin X.K ca F H σ ρ' fr Q t)
    (hgg : ∀ t t' v F H' ρ', S X.K ca F H' σ ρ' ((v, t) :: fr) → gT t = some t' → ∃ z, gV v = some z ∧ S X.K ca F H' σ ρ' ((z, t') :: fr)) : rOwn X.K ca cs gV v u H Q := by
  have rb := RepB.of st.ex r1
  obtain ⟨a0, dx, us, rfl, ha, hus⟩ := rb
  have q' := Post.bind q
  have := call_ready (X := X) (ca := ca) (f := f) (ds := [.obj c fs, d]) (vs := [.ref a0, u]) (Q := fun w H' => ∃ z, gV w = some z ∧ Q z H') (Ex.refl F) st ⟨_, _, rfl, r1, _, _, rfl, r2, rfl⟩
    (q'.mono fun t ρ' q2 w H' F' eF s' => by
      obtain ⟨t', e, q3⟩ := Post.opt q2
      obtain ⟨z, hz, s2⟩ := hgg t t' w F' H' ρ' s' e
      exact ⟨z, hz, q3 _ _ _ eF s2⟩)
  obtain ⟨_, j, hj, q4⟩ := this
  exact ⟨c, f, a0, dx, us, rfl, ha, fnd_mem hf, j, hj, fun dvs hd => by simpa using q4 dvs hd⟩
theorem own_ready2 {F H : Hp} {σ : L2.St} {ρ : Sl} {fr : List (V × T)} {c : Str} {fs gs : List (Str × D)} {f : FS} {v u : V} {Q : VK} {gT : T → Option T} {gV : V → Option V}
    (st : S X.K ca F H σ ρ fr) (hf : fnd cs c = some f) (r1 : RepD X.K ca F (.obj c fs) v) (r2 : RepD X.K ca F (.obj c gs) u)
    (q : Post ((callF f [sh (.obj c fs), sh (.obj c gs)] ρ).bind fun t ρ' => R.opt (gT t) ρ') fun t ρ' => Fin X.K ca F H σ ρ' fr Q t)
    (hgg : ∀ t t' v F H' ρ', S X.K ca F H' σ ρ' ((v, t) :: fr) → gT t = some t' → ∃ z, gV v = some z ∧ S X.K ca F H' σ ρ' ((z, t') :: fr)) : rOwn2 X.K ca cs gV v u H Q := by
  obtain ⟨a0, dx, us, rfl, ha, hus⟩ := RepB.of st.ex r1
  obtain ⟨b0, dy, ws, rfl, hb, hws⟩ := RepB.of st.ex r2
  have q' := Post.bind q
  have := call_ready (X := X) (ca := ca) (f := f) (ds := [.obj c fs, .obj c gs]) (vs := [.ref a0, .ref b0]) (Q := fun w H' => ∃ z, gV w = some z ∧ Q z H') (Ex.refl F) st ⟨_, _, rfl, r1, _, _, rfl, r2, rfl⟩
    (q'.mono fun t ρ' q2 w H' F' eF s' => by
      obtain ⟨t', e, q3⟩ := Post.opt q2
      obtain ⟨z, hz, s2⟩ := hgg t t' w F' H' ρ' s' e
      exact ⟨z, hz, q3 _ _ _ eF s2⟩)
  obtain ⟨_, j, hj, q4⟩ := this
  exact ⟨c, f, a0, dx, us, b0, dy, ws, rfl, ha, rfl, hb, fnd_mem hf, j, hj, fun dvs hd => by simpa using q4 dvs hd⟩
theorem gg_B {σ : L2.St} {fr : List (V × T)} (t t' : T) (v : V) (F H' : Hp) (ρ' : Sl) (s : S X.K ca F H' σ ρ' ((v, t) :: fr)) (e : boolT t = some t') : ∃ z, gB v = some z ∧ S X.K ca F H' σ ρ' ((z, t') :: fr) := by
  obtain ⟨ow, d⟩ := t
  cases d <;> simp only [boolT, Option.some.injEq, reduceCtorEq] at e
  subst e
  have hv := s.top.b s.ex
  cases hv
  exact ⟨_, rfl, s.drop.push rfl⟩
theorem gg_N {σ : L2.St} {fr : List (V × T)} (t t' : T) (v : V) (F H' : Hp) (ρ' : Sl) (s : S X.K ca F H' σ ρ' ((v, t) :: fr)) (e : notT t = some t') : ∃ z, gN v = some z ∧ S X.K ca F H' σ ρ' ((z, t') :: fr) := by
  obtain ⟨ow, d⟩ := t
  cases d <;> simp only [notT, Option.some.injEq, reduceCtorEq] at e
  subst e
  have hv := s.top.b s.ex
  cases hv
  exact ⟨_, rfl, s.drop.push rfl⟩
theorem sh_rep {F H : Hp} {σ : L2.St} {ρ : Sl} {fr : List (V × T)} {x : Opd} {d : D} {v : V} (st : S X.K ca F H σ ρ fr) (hm : ∀ t, x = .tmp t → (v, t) ∈ fr) (h : shO x = some d) : RepD X.K ca F d v := by
  have e := shO_is h
  exact st.mem (hm _ e)
theorem cmpO_ready {op : CmpOp} {σ : L2.St} {H : Hp} {Q : VK} (hop : ownOp op = true) (h : tE X.K ca (fun ρ => (oa ρ).bind fun x ρ1 => (ob ρ1).bind fun y ρ2 => opCmp op cs x y ρ2) σ H Q) : tOp (rCmpO X.K ca op cs) (tO X.K ca oa) (tO X.K ca ob) σ H Q := by
  refine two h ?_
  intro F H' ρ fr x y v u st hv hu q
  have m1 : ∀ t, x = .tmp t → (v, t) ∈ tm [y] [u] ++ (tm [x] [v] ++ fr) := fun t h => by subst h; simp [tm]
  have m2 : ∀ t, y = .tmp t → (u, t) ∈ tm [y] [u] ++ (tm [x] [v] ++ fr) := fun t h => by subst h; simp [tm]
  have sf : S X.K ca F H' σ ρ fr := st.dropL.dropL
  unfold opCmp at q
  split at q
  · split at q
    · rename_i hx _ _ f p hf hy
      split at q
      · rename_i hpc
        obtain ⟨c', dy⟩ := p
        have hpc : c' = _ := of_decide_eq_true hpc
        subst hpc
        obtain ⟨fs, rfl, ex⟩ := objO_is hx
        obtain ⟨gs, rfl, ey⟩ := objO_is hy
        have r1 : RepD X.K ca F (.obj _ fs) v := st.mem (m1 _ ex)
        have r2 : RepD X.K ca F (.obj _ gs) u := st.mem (m2 _ ey)
        exact .inr (own_ready2 sf hf r1 r2 q gg_B)
      · exact q.elim
    · exact q.elim
  · split at q
    · rename_i hx _ _ f p hf hy
      split at q
      · rename_i hpc
        obtain ⟨c', dy⟩ := p
        have hpc : c' = _ := of_decide_eq_true hpc
        subst hpc
        obtain ⟨fs, rfl, ex⟩ := objO_is hx
        obtain ⟨gs, rfl, ey⟩ := objO_is hy
        have r1 : RepD X.K ca F (.obj _ fs) v := st.mem (m1 _ ex)
        have r2 : RepD X.K ca F (.obj _ gs) u := st.mem (m2 _ ey)
        exact .inr (own_ready2 sf hf r1 r2 q gg_N)
      · exact q.elim
    · exact q.elim
  · split at q
    · rename_i hy _ _ f dx hf hx
      obtain ⟨fs, rfl, ey⟩ := objO_is hy
      have r1 : RepD X.K ca F (.obj _ fs) u := st.mem (m2 _ ey)
      exact .inr (own_ready (fun _ _ _ _ _ => trivial) sf hf r1 (sh_rep st m1 hx) q gg_B)
    · exact q.elim
  · split at q
    · rename_i hy _ _ f dx hf hx
      obtain ⟨fs, rfl, ey⟩ := objO_is hy
      have r1 : RepD X.K ca F (.obj _ fs) u := st.mem (m2 _ ey)
      exact .inr (own_ready (fun _ _ _ _ _ => trivial) sf hf r1 (sh_rep st m1 hx) q gg_N)
    · exact q.elim
  · split at q
    · rename_i d1 d2 e1 e2
      obtain ⟨t, e, q⟩ := Post.opt q
      simp only [Option.map_eq_some_iff] at e
      obtain ⟨b, e, rfl⟩ := e
      obtain ⟨r1, r2⟩ := drf_two st hv hu e1 e2
      exact .inl ⟨F, d1, d2, b, st.ex, r1, r2, e, q.old sf rfl⟩
    · exact q.elim
theorem e_cmpO {op : CmpOp} (hop : ownOp op = true) (hu : X.A.units + 65 < cLine) (hm : behindInMarks op b = false) (hcs : ∀ q ∈ cs, CmpC (X.wd ca) k op q.1 q.2) (hr : Room k X.A) (hgd : X.A.guards = some []) (ha : PE X a (tO X.K ca oa)) (hb : PE X b (tO X.K ca ob)) :
    PE X (.Compare a [op] [b] pos) (tE X.K ca fun ρ => (oa ρ).bind fun x ρ1 => (ob ρ1).bind fun y ρ2 => opCmp op cs x y ρ2) :=
  ⟨fun pins s σ H Q I h => (pe_cmpR (op_cmpO hu hcs hr hgd) ha hb hm).run pins s σ H Q I (cmpO_ready hop h)⟩
theorem t_cmpO {op : CmpOp} (hop : ownOp op = true) (hu : X.A.units + 65 < cLine) (hm : behindInMarks op b = false) (hcs : ∀ q ∈ cs, CmpC (X.wd ca) k op q.1 q.2) (hr : Room k X.A) (hgd : X.A.guards = some []) (ha : PE X a (tO X.K ca oa)) (hb : PE X b (tO X.K ca ob)) :
    PT X (.Compare a [op] [b] pos) (tT X.K ca fun ρ => (oa ρ).bind fun x ρ1 => (ob ρ1).bind fun y ρ2 => opCmp op cs x y ρ2) :=
  ⟨fun pins s σ H Q I h => (pt_cmpR (op_cmpO hu hcs hr hgd) ha hb hm).run pins s σ H Q I (cmpO_ready hop (tT_val h))⟩
end
end Mi

set_option Elab.async false
set_option linter.all false
set_option maxRecDepth 100000
set_option maxHeartbeats 1000000
/-! M2t: two instances of a class joined by an operator. -/
namespace Mi
open PySem PySem.Spec PyProof.Rows L2
open Evl (Ex)
section
variable {X : Cx} {ca : Str → Addr} {k : Nat} {f : FS} {c m : Str} {cs : List (Str × FS)} {a b : Expr} {pos : Pos} {oa ob : Sl → R Opd}
def binM : Operator → Str
  | .BitAnd => "__and__"
  | .Mult => "__mul__"
  | _ => ""
def binOwn : Operator → Bool
  | .BitAnd | .Mult => true
  | _ => false
theorem binM_eq {op : Operator} (h : binOwn op = true) : PySem.dunder op.info.2 = binM op := by
  cases op <;> first | (cases h; done) | decide +kernel
def rOwnB (K : PySem.W.Frag) (ca : Str → Addr) (cs : List (Str × FS)) : R2 := fun x y H Q =>
  ∃ c f a0 dx us b0 dy ws, x = .ref a0 ∧ H a0 = some (.ins (ca c) dx us) ∧ y = .ref b0 ∧ H b0 = some (.ins (ca c) dy ws) ∧ (c, f) ∈ cs ∧ ∃ j, j ≤ f.dfl.length ∧ ∀ dvs, (∀ F, RepDs K ca F (f.dfl.drop (f.dfl.length - j)) dvs) → spOf K ca f (x :: y :: dvs) H Q E0
theorem op_binO {op : Operator} (hop : binOwn op = true) (hcs : ∀ q ∈ cs, MtC (X.wd ca) k q.1 (binM op) q.2 ∧ PySem.W.selfFirst X.K (ca q.1) = true) (hr : Room k X.A) (hgd : X.A.guards = some []) : OpR X (binaryOp op) (fun x y H Q => rBin X.K ca op x y H Q ∨ rOwnB X.K ca cs x y H Q) := by
  intro pins s σ H x y u w Q I rx ry h
  rcases h with h | h
  · exact op_bin (X := X) (ca := ca) op pins s σ H x y u w Q I rx ry h
  obtain ⟨c, f, a0, dx, us, b0, dy, ws, rfl, ha, rfl, hb0, hmem, j, hj, q⟩ := h
  cases rx
  cases ry
  obtain ⟨⟨fa, fd, ps, hc, hm, F, hd⟩, hs⟩ := (hcs _ hmem).imp (fun h => h.ex) id
  obtain ⟨mA, J, _⟩ := ins_get I.hok ha
  obtain ⟨od, J, _⟩ := J.look
  obtain ⟨mB, JB, _⟩ := ins_get I.hok hb0
  obtain ⟨odB, JB, _⟩ := JB.look
  obtain ⟨dvs, ds, hb, hv, hrep⟩ := hd j hj
  have run := run_fnG (us := [.ref a0, .ref b0]) (vs := [.ref a0, .ref b0]) F hr hgd hb hv I (.cons rfl (.cons rfl .nil)) (q dvs hrep)
  obtain ⟨m, hF⟩ := I.fr
  refine PySem.W.binop_K hF I.ok.mod.kin J JB.type hs (by rw [binM_eq hop]; exact hm.at_) hm.fn (wpAny_mono run (fun v s' z => ?_) fun _ _ e => e)
  obtain ⟨x', H', I', r', q'⟩ := z
  exact SlX.cmpback r' ⟨x', H', I', r', q'⟩
theorem binO_ready {op : Operator} {σ : L2.St} {H : Hp} {Q : VK} (h : tE X.K ca (fun ρ => (oa ρ).bind fun x ρ1 => (ob ρ1).bind fun y ρ2 => opBin op cs x y ρ2) σ H Q) : tOp (fun x y H Q => rBin X.K ca op x y H Q ∨ rOwnB X.K ca cs x y H Q) (tO X.K ca oa) (tO X.K ca ob) σ H Q := by
  refine two h ?_
  intro F H' ρ fr x y v u st hv hu q
  have m1 : ∀ t, x = .tmp t → (v, t) ∈ tm [y] [u] ++ (tm [x] [v] ++ fr) := fun t h => by subst h; simp [tm]
  have m2 : ∀ t, y = .tmp t → (u, t) ∈ tm [y] [u] ++ (tm [x] [v] ++ fr) := fun t h => by subst h; simp [tm]
  have sf : S X.K ca F H' σ ρ fr := st.dropL.dropL
  unfold opBin at q
  split at q
  · rename_i hx
    split at q
    · rename_i f p hf hy
      split at q
      · rename_i hpc
        obtain ⟨c', dy⟩ := p
        have hpc : c' = _ := of_decide_eq_true hpc
        subst hpc
        obtain ⟨fs, rfl, ex⟩ := objO_is hx
        obtain ⟨gs, rfl, ey⟩ := objO_is hy
        have r1 : RepD X.K ca F (.obj _ fs) v := st.mem (m1 _ ex)
        have r2 : RepD X.K ca F (.obj _ gs) u := st.mem (m2 _ ey)
        have q : Post (callF f [sh (.obj c' fs), sh (.obj c' gs)] ρ) _ := q
        obtain ⟨a0, dx, us, rfl, ha, hus⟩ := RepB.of sf.ex r1
        obtain ⟨b0, dy, ws, rfl, hb, hws⟩ := RepB.of sf.ex r2
        have := call_ready (X := X) (ca := ca) (f := f) (ds := [.obj c' fs, .obj c' gs]) (vs := [.ref a0, .ref b0]) (Q := Q) (Ex.refl F) sf ⟨_, _, rfl, r1, _, _, rfl, r2, rfl⟩ q
        obtain ⟨_, j, hj, q4⟩ := this
        exact .inr ⟨c', f, a0, dx, us, b0, dy, ws, rfl, ha, rfl, hb, fnd_mem hf, j, hj, fun dvs hd => by simpa using q4 dvs hd⟩
      · exact q.elim
    · exact q.elim
  · split at q
    · rename_i d1 d2 e1 e2
      obtain ⟨t, e, q⟩ := Post.opt q
      obtain ⟨r1, r2⟩ := drf_two st hv hu e1 e2
      exact .inl ⟨F, σ, ρ, fr, d1, d2, t, sf, r1, r2, e, q⟩
    · exact q.elim
theorem e_binO {op : Operator} (hop : binOwn op = true) (hcs : ∀ q ∈ cs, MtC (X.wd ca) k q.1 (binM op) q.2 ∧ PySem.W.selfFirst X.K (ca q.1) = true) (hr : Room k X.A) (hgd : X.A.guards = some []) (ha : PE X a (tO X.K ca oa)) (hb : PE X b (tO X.K ca ob)) :
    PE X (.BinOp a op b pos) (tE X.K ca fun ρ => (oa ρ).bind fun x ρ1 => (ob ρ1).bind fun y ρ2 => opBin op cs x y ρ2) :=
  ⟨fun pins s σ H Q I h => (pe_op (op_binO hop hcs hr hgd) ha hb).run pins s σ H Q I (binO_ready h)⟩
end
end Mi

set_option Elab.async false
set_option linter.all false
set_option maxRecDepth 100000
set_option maxHeartbeats 1000000
/-! M2i: targets, walks, comprehensions. -/
namespace Mi
open PySem PySem.Spec PyProof.Rows L2
open Evl (Ex)
section
variable {K : PySem.W.Frag} {ca : Str → Addr} {F F' H H' : Hp} {σ τ : L2.St} {ρ π : Sl} {fr : List (V × T)} {v : V} {t : T} {d : D} {i : Nat} {vs : List Nat}
theorem S.put' (s : S K ca F H σ ρ ((v, t) :: fr)) (i : Nat) : S K ca F H (σ.set i (some v)) (ρ.set i (some t)) fr := by
  by_cases hi : i < ρ.length
  · exact s.put hi
  · rw [List.set_eq_of_length_le (by rw [s.len]; omega), List.set_eq_of_length_le (by omega)]
    exact s.drop
theorem S.setN (s : S K ca F H σ ρ fr) (i : Nat) (o : Option V) : S K ca F H (σ.set i o) (ρ.set i none) fr := by
  have h := s.less i
  refine ⟨by rw [List.length_set]; exact h.len, fun j u e => ?_, by rw [rts_none]; exact h.ok⟩
  by_cases hj : i = j
  · subst hj
    by_cases hi : i < ρ.length
    · rw [List.getElem?_set_self hi] at e; cases e
    · rw [List.set_eq_of_length_le (by omega)] at e
      have := (List.getElem?_eq_some_iff.mp e).1
      omega
  · obtain ⟨w, hw⟩ := h.df j u e
    exact ⟨w, by rw [List.getElem?_set_ne hj]; exact hw⟩
theorem S.wipe (s : S K ca F H σ ρ fr) : ∀ vs : List Nat, S K ca F H (L2.wipe σ vs) (wipeS vs ρ) fr
  | [] => s
  | v :: vs => (S.wipe s vs).setN v none
def backV (ws : List Nat) (σ σ' : L2.St) : L2.St := ws.foldr (fun i r => r.set i (σ[i]?.join)) σ'
theorem backV_len (σ σ' : L2.St) : ∀ ws : List Nat, (backV ws σ σ').length = σ'.length
  | [] => rfl
  | i :: ws => by show ((backV ws σ σ').set i _).length = _; rw [List.length_set, backV_len σ σ' ws]
theorem backV_get (hl : σ.length = τ.length) : ∀ (ws : List Nat) (j : Nat), (backV ws σ τ)[j]? = if j ∈ ws then σ[j]? else τ[j]?
  | [], j => by simp [backV]
  | i :: ws, j => by
    show ((backV ws σ τ).set i _)[j]? = _
    by_cases hij : i = j
    · subst hij
      rw [if_pos (List.mem_cons_self ..)]
      by_cases hi : i < τ.length
      · rw [List.getElem?_set_self (by rw [backV_len]; exact hi)]
        have : i < σ.length := by omega
        rw [List.getElem?_eq_getElem this]
        rfl
      · rw [List.getElem?_eq_none (by rw [List.length_set, backV_len]; omega), List.getElem?_eq_none (by omega)]
    · rw [List.getElem?_set_ne hij, backV_get hl ws j]
      have : j ∈ i :: ws ↔ j ∈ ws := by simp [Ne.symm hij]
      by_cases hj : j ∈ ws
      · rw [if_pos hj, if_pos (this.mpr hj)]
      · rw [if_neg hj, if_neg (fun h => hj (this.mp h))]
theorem backV_wipe (vs : List Nat) : backV vs σ (L2.wipe σ vs) = σ := by
  apply List.ext_getElem?
  intro j
  rw [backV_get (by rw [wipe_length])]
  split
  · rfl
  · rename_i h; exact wipe_out h
theorem wipeS_len (ρ : Sl) : ∀ ws : List Nat, (wipeS ws ρ).length = ρ.length
  | [] => rfl
  | i :: ws => by show ((wipeS ws ρ).set i _).length = _; rw [List.length_set, wipeS_len ρ ws]
theorem backS_len (ρ π : Sl) : ∀ ws : List Nat, (backS ws ρ π).length = π.length
  | [] => rfl
  | i :: ws => by show ((backS ws ρ π).set i _).length = _; rw [List.length_set, backS_len ρ π ws]
theorem backS_out : ∀ (ws : List Nat) (π π' : Sl), π.length = π'.length → (∀ j, j ∉ ws → π[j]? = π'[j]?) → backS ws ρ π = backS ws ρ π'
  | [], π, π', _, h => List.ext_getElem? fun j => h j (by simp)
  | i :: ws, π, π', hl, h => by
    show (backS ws ρ π).set i _ = (backS ws ρ π').set i _
    apply List.ext_getElem?
    intro j
    have key : ∀ (ws : List Nat) (π : Sl) (j : Nat), j ∉ ws → (backS ws ρ π)[j]? = π[j]? := by
      intro ws
      induction ws with
      | nil => intro π j _; rfl
      | cons a ws ih =>
        intro π j hj
        show ((backS ws ρ π).set a _)[j]? = _
        rw [List.getElem?_set_ne (fun e => hj (by simp [e]))]
        exact ih π j (fun e => hj (List.mem_cons_of_mem _ e))
    have key2 : ∀ (ws : List Nat) (π π' : Sl) (j : Nat), π.length = π'.length → j ∈ ws → (backS ws ρ π)[j]? = (backS ws ρ π')[j]? := by
      intro ws
      induction ws with
      | nil => intro π π' j _ hj; cases hj
      | cons a ws ih =>
        intro π π' j hl hj
        show ((backS ws ρ π).set a _)[j]? = ((backS ws ρ π').set a _)[j]?
        by_cases ha : a = j
        · subst ha
          by_cases hi : a < π.length
          · rw [List.getElem?_set_self (by rw [backS_len]; exact hi), List.getElem?_set_self (by rw [backS_len, ← hl]; exact hi)]
          · rw [List.getElem?_eq_none (by rw [List.length_set, backS_len]; omega), List.getElem?_eq_none (by rw [List.length_set, backS_len]; omega)]
        · rw [List.getElem?_set_ne ha, List.getElem?_set_ne ha]
          exact ih π π' j hl ((List.mem_cons.mp hj).resolve_left (Ne.symm ha))
    by_cases hij : j = i
    · subst hij
      by_cases hi : j < π.length
      · rw [List.getElem?_set_self (by rw [backS_len]; exact hi), List.getElem?_set_self (by rw [backS_len, ← hl]; exact hi)]
      · rw [List.getElem?_eq_none (by rw [List.length_set, backS_len]; omega), List.getElem?_eq_none (by rw [List.length_set, backS_len]; omega)]
    · rw [List.getElem?_set_ne (Ne.symm hij), List.getElem?_set_ne (Ne.symm hij)]
      by_cases hj : j ∈ ws
      · exact key2 ws π π' j hl hj
      · rw [key ws π j hj, key ws π' j hj]
        exact h j (by simp [hij, hj])
theorem wipeS_out : ∀ (ws : List Nat) (j : Nat), j ∉ ws → (wipeS ws ρ)[j]? = ρ[j]?
  | [], _, _ => rfl
  | i :: ws, j, h => by
    show ((wipeS ws ρ).set i none)[j]? = _
    rw [List.getElem?_set_ne (fun e => h (by simp [e]))]
    exact wipeS_out ws j fun e => h (List.mem_cons_of_mem _ e)
theorem S.backAll (s0 : S K ca F H σ ρ fr) {gr : List (V × T)} (e : Ex F F') : ∀ (ws : List Nat), freeS ws ρ = true → S K ca F' H' τ π gr → S K ca F' H' (backV ws σ τ) (backS ws ρ π) gr
  | [], _, s => s
  | i :: ws, hf, s => by
    simp only [freeS, List.all_cons, Bool.and_eq_true] at hf
    have ih := S.backAll s0 e ws hf.2 s
    show S K ca F' H' ((backV ws σ τ).set i _) ((backS ws ρ π).set i _) gr
    have h1 := hf.1
    split at h1
    · rename_i t ht
      obtain ⟨ow, d⟩ := t
      cases ow with
      | true => cases h1
      | false =>
        obtain ⟨v, hv, r⟩ := s0.at ht
        rw [hv, ht]
        exact (ih.push (RepD.mono e r)).put' i
    · rename_i ht
      rw [ht]
      exact ih.setN i _
    · cases h1
/-- back from a block -/
theorem S.unwipe (s0 : S K ca F H σ ρ fr) {gr : List (V × T)} (e : Ex F F') (hf : freeS vs ρ = true) (s : S K ca F' H' (L2.wipe σ vs) (wipeS vs π) gr) : S K ca F' H' σ (backS vs ρ π) gr := by
  have h := s0.backAll e vs hf s
  rw [backV_wipe, backS_out vs (wipeS vs π) π (wipeS_len π vs) fun j hj => wipeS_out vs j hj] at h
  exact h
/-! ### several slots -/
def setsV (is : List Nat) (vs : List V) (σ : L2.St) : L2.St := (is.zip vs).foldl (fun r p => r.set p.1 (some p.2)) σ
theorem S.sets : ∀ {is : List Nat} {ds : List D} {us : List V} {σ : L2.St} {ρ : Sl}, S K ca F H σ ρ fr → RepDs K ca F ds us → S K ca F H (setsV is us σ) ((is.zip ds).foldl (fun r p => r.set p.1 (some (sh p.2))) ρ) fr
  | [], _, _, _, _, s, _ => s
  | i :: is, [], _, _, _, s, h => by cases h; exact s
  | i :: is, d :: ds, _, _, _, s, ⟨v, r, e, h1, h2⟩ => by
    subst e
    have h := S.sets (is := is) ((s.push h1).put' i) h2
    exact h
theorem setsV_out {j : Nat} : ∀ {is : List Nat} {us : List V} {σ : L2.St}, j ∉ is → (setsV is us σ)[j]? = σ[j]?
  | [], _, _, _ => rfl
  | i :: is, [], _, _ => rfl
  | i :: is, u :: us, σ, h => by
    show (setsV is us (σ.set i (some u)))[j]? = _
    rw [setsV_out (fun e => h (List.mem_cons_of_mem _ e)), List.getElem?_set_ne (fun e => h (by simp [e]))]
theorem setsV_len : ∀ {is : List Nat} {us : List V} {σ : L2.St}, (setsV is us σ).length = σ.length
  | [], _, _ => rfl
  | i :: is, [], _ => rfl
  | i :: is, u :: us, σ => by show (setsV is us (σ.set i (some u))).length = _; rw [setsV_len, List.length_set]
theorem wipe_get : ∀ {vs : List Nat} {σ : L2.St} {j : Nat}, j ∈ vs → (L2.wipe σ vs)[j]? = if j < σ.length then some none else none
  | v :: vs, σ, j, h => by
    show ((L2.wipe σ vs).set v none)[j]? = _
    by_cases hv : v = j
    · subst hv
      by_cases hl : v < σ.length
      · rw [List.getElem?_set_self (by rw [wipe_length]; exact hl), if_pos hl]
      · rw [List.getElem?_eq_none (by rw [List.length_set, wipe_length]; omega), if_neg hl]
    · rw [List.getElem?_set_ne hv]
      exact wipe_get ((List.mem_cons.mp h).resolve_left (Ne.symm hv))
theorem wipe_same (hl : σ.length = τ.length) (h : ∀ j, j ∉ vs → σ[j]? = τ[j]?) : L2.wipe σ vs = L2.wipe τ vs := by
  apply List.ext_getElem?
  intro j
  by_cases hj : j ∈ vs
  · rw [wipe_get hj, wipe_get hj, hl]
  · rw [wipe_out hj, wipe_out hj]; exact h j hj
theorem wipe_wipe : L2.wipe (L2.wipe σ vs) vs = L2.wipe σ vs := wipe_same (wipe_length σ vs) fun j hj => wipe_out hj
end

/-! ### targets -/
def Tg.slots : Tg → List Nat
  | .one i => [i]
  | .many is => is
/-- what is stored at a target -/
def gT (K : PySem.W.Frag) (ca : Str → Addr) (tg : Tg) : TG := fun v σ H Q => ∃ F ρ fr d ρ', S K ca F H σ ρ fr ∧ RepD K ca F d v ∧ bindT tg d ρ = some ρ' ∧
  ∀ σ', S K ca F H σ' ρ' fr → σ'.length = σ.length → (∀ j, j ∉ tg.slots → σ'[j]? = σ[j]?) → Q σ' H
section
variable {X : Cx} {ca : Str → Addr}
theorem g_one {i : Nat} {e : Expr} (h : PG X e (gName i)) : PG X e (gT X.K ca (.one i)) := by
  refine ⟨fun pins s σ H v u Q I r hq => h.run pins s σ H v u Q I r ?_⟩
  obtain ⟨F, ρ, fr, d, ρ', st, rd, hb, q⟩ := hq
  simp only [bindT, Option.some.injEq] at hb
  subst hb
  refine q _ ((st.push rd).put' i) (by rw [List.length_set]) fun j hj => ?_
  rw [List.getElem?_set_ne (fun e => hj (by simp [Tg.slots, e]))]
def gMany (is : List Nat) : TGs := fun vs σ H Q => vs.length = is.length ∧ Q (setsV is vs σ) H
theorem gs_nil : PGs X [] (gMany []) := by
  refine ⟨fun pins s σ H vs us Q I r h => pgs_nil.run pins s σ H vs us Q I r ⟨List.eq_nil_of_length_eq_zero h.1, ?_⟩⟩
  obtain ⟨h1, h2⟩ := h
  rw [List.eq_nil_of_length_eq_zero h1] at h2
  exact h2
theorem gs_cons {e : Expr} {es : List Expr} {i : Nat} {is : List Nat} (h1 : PG X e (gName i)) (h2 : PGs X es (gMany is)) (hs : (assignEach (e :: es) X.env).map (·.2) = assign e X.env :: (assignEach es X.env).map (·.2)) : PGs X (e :: es) (gMany (i :: is)) := by
  refine ⟨fun pins s σ H vs us Q I r h => (pgs_cons h1 h2 hs).run pins s σ H vs us Q I r ?_⟩
  obtain ⟨hl, q⟩ := h
  cases vs with
  | nil => cases hl
  | cons v vs => exact ⟨v, vs, rfl, by simpa using hl, q⟩
theorem g_many {es : List Expr} {k : Nat} {is : List Nat} {pos : Pos} (hc : X.calm = true) (h : PGs X es (gMany is)) (hn : (assignEach es X.env).length = is.length) (hst : (assignEach es X.env).findIdx? (·.1) = none) : PG X (.Tuple es k pos) (gT X.K ca (.many is)) := by
  refine ⟨fun pins s σ H v u Q I r hq => ?_⟩
  obtain ⟨F, ρ, fr, d, ρ', st, rd, hb, q⟩ := hq
  cases d <;> simp only [bindT, reduceCtorEq] at hb
  · rename_i ds
    refine (pg_lst hc h hn hst).run pins s σ H v u Q I r ?_
    split at hb
    · rename_i hl
      cases hb
      obtain ⟨a, vs, rfl, h1, h2⟩ := RepB.of st.ex rd
      have hl' : is.length = ds.length := by simpa using hl
      refine ⟨a, vs, rfl, .inl h1, by rw [h2.length]; exact hl'.symm, by rw [h2.length]; exact hl'.symm, ?_⟩
      exact q _ (st.sets h2) setsV_len fun j hj => setsV_out hj
    · cases hb
  · rename_i ds
    refine (pg_tup hc h hn hst).run pins s σ H v u Q I r ?_
    split at hb
    · rename_i hl
      cases hb
      obtain ⟨a, vs, rfl, h1, h2⟩ := rd
      have hl' : is.length = ds.length := by simpa using hl
      refine ⟨a, vs, rfl, Evl.ex_t st.ex h1.t, by rw [h2.length]; exact hl'.symm, by rw [h2.length]; exact hl'.symm, ?_⟩
      exact q _ (st.sets h2) setsV_len fun j hj => setsV_out hj
    · cases hb
end

/-! ### walks -/
/-- what a turn gives -/
def YOk (K : PySem.W.Frag) (ca : Str → Addr) (F : Hp) (xs : List D) (i : Nat) (H : Hp) (x : V) (H' : Hp) : Prop := ∃ d, xs[i]? = some d ∧
  ((H' = H ∧ RepD K ca F d x) ∨ ∃ p vs ds, x = .ref p ∧ H p = none ∧ H' = upd H p (.tup vs) ∧ d = .tup ds ∧ RepDs K ca F ds vs)
/-- J goes over these, while F stands -/
def WOk (K : PySem.W.Frag) (ca : Str → Addr) (F : Hp) (xs : List D) (J : It) : Prop := Walk J xs.length (fun H => Ex F H) (fun i H x H' => YOk K ca F xs i H x H')
theorem YOk.mono {K : PySem.W.Frag} {ca : Str → Addr} {F F' : Hp} {xs : List D} {i : Nat} {H : Hp} {x : V} {H' : Hp} (e : Ex F F') (h : YOk K ca F xs i H x H') : YOk K ca F' xs i H x H' := by
  obtain ⟨d, h1, h2⟩ := h
  refine ⟨d, h1, ?_⟩
  rcases h2 with ⟨h2, h3⟩ | ⟨p, vs, ds, a, b, c, e', f⟩
  · exact .inl ⟨h2, RepD.mono e h3⟩
  · exact .inr ⟨p, vs, ds, a, b, c, e', RepDs.mono e f⟩
theorem YOk.s {K : PySem.W.Frag} {ca : Str → Addr} {F : Hp} {xs : List D} {i : Nat} {H : Hp} {x : V} {H' : Hp} {σ : L2.St} {ρ : Sl} {fr : List (V × T)} (h : YOk K ca F xs i H x H') (st : S K ca F H σ ρ fr) :
    ∃ d F', xs[i]? = some d ∧ Ex F F' ∧ S K ca F' H' σ ρ fr ∧ RepD K ca F' d x := by
  obtain ⟨d, h1, h2⟩ := h
  rcases h2 with ⟨rfl, h3⟩ | ⟨p, vs, ds, rfl, hp, rfl, rfl, hr⟩
  · exact ⟨d, F, h1, Ex.refl F, st, h3⟩
  · obtain ⟨s', e⟩ := st.allocS (u := .tup vs) (d := .tup ds) hp fun F' e h => ⟨p, vs, rfl, .inl h, hr.mono e⟩
    exact ⟨.tup ds, _, h1, e, s'.drop, s'.top⟩
def tW (K : PySem.W.Frag) (ca : Str → Addr) (k : ItK) (f : Sl → R (List D)) : TI := fun σ H R => ∃ F ρ fr, S K ca F H σ ρ fr ∧ Post (f ρ) fun ds ρ' => ∃ xs, walkD k ds = some xs ∧ ∀ J H' F', Ex F F' → S K ca F' H' σ ρ' fr → WOk K ca F' xs J → R J H'
section
variable {X : Cx} {ca : Str → Addr} {f : Sl → R T} {g : Sl → R (List D)} {e tg : Expr} {es : List Expr} {pos p : Pos}
theorem wk_list {K : PySem.W.Frag} {F : Hp} {a : Addr} {vs : List V} {xs : List D} (h : SqL K F a vs) (r : RepDs K ca F xs vs) : WOk K ca F xs (Itl K a) := by
  have w := (walk_list (K := K) (a := a) (xs := vs)).mono (G' := fun H => Ex F H) (Y' := fun i H x H' => YOk K ca F xs i H x H') (fun H e => Evl.ex_l e h) (fun i H x H' hi e y => by
    obtain ⟨e1, e2⟩ := y
    have hl : i < xs.length := by rw [← r.length]; exact hi
    obtain ⟨v, h1, h2⟩ := r.get (List.getElem?_eq_getElem hl)
    rw [e2] at h1
    cases h1
    exact ⟨_, List.getElem?_eq_getElem hl, .inl ⟨e1, h2⟩⟩)
  rw [r.length] at w
  exact w
theorem wk_tup {K : PySem.W.Frag} {F : Hp} {a : Addr} {vs : List V} {xs : List D} (h : SqT K F a vs) (r : RepDs K ca F xs vs) : WOk K ca F xs (Itt K a) := by
  have w := (walk_tup (K := K) (a := a) (xs := vs)).mono (G' := fun H => Ex F H) (Y' := fun i H x H' => YOk K ca F xs i H x H') (fun H e => Evl.ex_t e h) (fun i H x H' hi e y => by
    obtain ⟨e1, e2⟩ := y
    have hl : i < xs.length := by rw [← r.length]; exact hi
    obtain ⟨v, h1, h2⟩ := r.get (List.getElem?_eq_getElem hl)
    rw [e2] at h1
    cases h1
    exact ⟨_, List.getElem?_eq_getElem hl, .inl ⟨e1, h2⟩⟩)
  rw [r.length] at w
  exact w
theorem wk_str {K : PySem.W.Frag} {F : Hp} {z : Str} : WOk K ca F (z.cps.toList.map fun c => D.str ⟨#[c]⟩) (Its z) := by
  have w := (walk_str (z := z)).mono (G' := fun H => Ex F H) (Y' := fun i H x H' => YOk K ca F (z.cps.toList.map fun c => D.str ⟨#[c]⟩) i H x H') (fun H e => trivial) (fun i H x H' hi e y => by
    obtain ⟨e1, c, e2, rfl⟩ := y
    exact ⟨.str ⟨#[c]⟩, by simp [e2], .inl ⟨e1, rfl⟩⟩)
  have hl : (z.cps.toList.map fun c => D.str ⟨#[c]⟩).length = z.cps.size := by simp
  unfold WOk
  rw [hl]
  exact w
theorem wk_range {K : PySem.W.Frag} {F : Hp} {lo : Int} {n : Nat} : WOk K ca F (rangeL lo n) (Itr lo n) := by
  have w := (walk_range (lo := lo) (n := n)).mono (G' := fun H => Ex F H) (Y' := fun i H x H' => YOk K ca F (rangeL lo n) i H x H') (fun H e => trivial) (fun i H x H' hi e y => by
    obtain ⟨e1, rfl⟩ := y
    exact ⟨.int (lo + i), by simp [rangeL, hi], .inl ⟨e1, rfl⟩⟩)
  have hl : (rangeL lo n).length = n := by simp [rangeL]
  unfold WOk
  rw [hl]
  exact w
theorem w_val (h : PE X e (tE X.K ca f)) : PI X tg e (tW X.K ca .val fun ρ => (f ρ).bind fun t ρ1 => .ok [t.d] ρ1) := by
  refine ⟨fun pins s σ H R I hq => ?_⟩
  obtain ⟨F, ρ, fr, st, q⟩ := hq
  have q := Post.bind q
  cases hf : f ρ with
  | exc _ _ => rw [hf] at q; exact q.elim
  | bad => rw [hf] at q; exact q.elim
  | ok t ρ1 =>
    rw [hf] at q
    obtain ⟨xs, hw, q⟩ := q
    have rd : ∀ {Q : VK}, (∀ v H' F', Ex F F' → S X.K ca F' H' σ ρ1 fr → RepD X.K ca F' t.d v → Q v H') → tE X.K ca f σ H Q := fun {Q} hQ => by
      refine ⟨F, ρ, fr, st, ?_⟩
      rw [hf]
      intro v H' F' eF s'
      obtain ⟨F2, e2, s2, r2⟩ := s'.share
      exact hQ v H' F2 (exT eF e2) s2 r2
    obtain ⟨ow, d⟩ := t
    cases d <;> simp only [walkD, Option.some.injEq, reduceCtorEq] at hw
    · subst hw
      refine (pi_str h).run pins s σ H R I (rd fun v H' F' eF s' r => ?_)
      exact ⟨_, r, q _ _ _ eF s' wk_str⟩
    · subst hw
      refine (pi_list h).run pins s σ H R I (rd fun v H' F' eF s' r => ?_)
      obtain ⟨a, vs, rfl, h1, h2⟩ := r
      exact ⟨a, rfl, ⟨vs, Evl.ex_l s'.ex (.inl h1)⟩, q _ _ _ eF s' (wk_list (.inl h1) h2)⟩
    · subst hw
      refine (pi_tup h).run pins s σ H R I (rd fun v H' F' eF s' r => ?_)
      obtain ⟨a, vs, rfl, h1, h2⟩ := r
      exact ⟨a, rfl, ⟨vs, Evl.ex_t s'.ex h1.t⟩, q _ _ _ eF s' (wk_tup h1.t h2)⟩
theorem w_range1 (hg : Gl X "range") (hm : X.mg "range" = none) (ha : PA X [e] (tEs X.K ca g)) (hs : starEach [e] X.env = [(false, eval e X.env)]) (h1 : ∀ ρ ds ρ', g ρ = .ok ds ρ' → ds.length = 1) : PI X tg (.Call (.Name "range" p) [e] [] pos) (tW X.K ca .range g) := by
  refine ⟨fun pins s σ H R I hq => (pi_range1 hg hm ha hs).run pins s σ H R I ?_⟩
  obtain ⟨F, ρ, fr, st, q⟩ := hq
  cases hf : g ρ with
  | exc _ _ => rw [hf] at q; exact q.elim
  | bad => rw [hf] at q; exact q.elim
  | ok ds ρ1 =>
    rw [hf] at q
    obtain ⟨xs, hw, q⟩ := q
    refine ⟨F, ρ, fr, st, ?_⟩
    rw [hf]
    intro vs H' F' eF s' r
    have hl := h1 _ _ _ hf
    match ds, hl with
    | [d], hl1 =>
      cases d <;> simp only [walkD, reduceCtorEq] at hw
      rename_i n
      split at hw
      · rename_i hn
        simp only [Bool.and_eq_true, decide_eq_true_eq] at hn
        cases hw
        obtain ⟨v, rr, rfl, h2, h3⟩ := r
        cases h2; cases h3
        exact ⟨n, rfl, by omega, by omega, q _ _ _ eF s' wk_range⟩
      · cases hw
theorem w_range2 {e2 : Expr} (hg : Gl X "range") (hm : X.mg "range" = none) (ha : PA X [e, e2] (tEs X.K ca g)) (hs : starEach [e, e2] X.env = [(false, eval e X.env), (false, eval e2 X.env)]) (hs2 : starEach [e2] X.env = [(false, eval e2 X.env)]) (h1 : ∀ ρ ds ρ', g ρ = .ok ds ρ' → ds.length = 2) : PI X tg (.Call (.Name "range" p) [e, e2] [] pos) (tW X.K ca .range g) := by
  refine ⟨fun pins s σ H R I hq => (pi_range2 hg hm ha hs hs2).run pins s σ H R I ?_⟩
  obtain ⟨F, ρ, fr, st, q⟩ := hq
  cases hf : g ρ with
  | exc _ _ => rw [hf] at q; exact q.elim
  | bad => rw [hf] at q; exact q.elim
  | ok ds ρ1 =>
    rw [hf] at q
    obtain ⟨xs, hw, q⟩ := q
    refine ⟨F, ρ, fr, st, ?_⟩
    rw [hf]
    intro vs H' F' eF s' r
    have hl := h1 _ _ _ hf
    match ds, hl with
    | [d, c], hl1 =>
      cases d <;> cases c <;> simp only [walkD, reduceCtorEq] at hw
      rename_i n m
      split at hw
      · rename_i hn
        simp only [Bool.and_eq_true, decide_eq_true_eq] at hn
        cases hw
        obtain ⟨v, rr, rfl, h2, v2, rr2, rfl, h3, h4⟩ := r
        cases h2; cases h3; cases h4
        exact ⟨n, m, rfl, ⟨by omega, by omega, by omega, by omega⟩, q _ _ _ eF s' wk_range⟩
      · cases hw
theorem zip_get {xs ys : List D} {i : Nat} {f : D × D → D} {d : D} (h : ((xs.zip ys).map f)[i]? = some d) : ∃ x y, xs[i]? = some x ∧ ys[i]? = some y ∧ d = f (x, y) := by
  rw [List.getElem?_map, Option.map_eq_some_iff] at h
  obtain ⟨p, h, rfl⟩ := h
  obtain ⟨h1, h2⟩ := List.getElem?_zip_eq_some.mp h
  exact ⟨p.1, p.2, h1, h2, rfl⟩
end
end Mi

set_option Elab.async false
set_option linter.all false
set_option maxRecDepth 100000
set_option maxHeartbeats 1000000
/-! M2j: zip, enumerate, comprehensions. -/
namespace Mi
open PySem PySem.Spec PyProof.Rows L2
open Evl (Ex)
section
variable {X : Cx} {ca : Str → Addr} {f : Sl → R T} {g : Sl → R (List D)} {e e2 tg : Expr} {es : List Expr} {pos p : Pos}
theorem yk_pair {K : PySem.W.Frag} {F : Hp} {fx fy : Nat → Option V} {xs : List D} {i : Nat} {H : Hp} {x : V} {H' : Hp} (y : YPair fx fy i H x H') (h : ∀ a b, fx i = some a → fy i = some b → ∃ d c, xs[i]? = some (.tup [d, c]) ∧ RepD K ca F d a ∧ RepD K ca F c b) : YOk K ca F xs i H x H' := by
  obtain ⟨T, a, b, rfl, hT, rfl, h1, h2⟩ := y
  obtain ⟨d, c, h3, h4, h5⟩ := h a b h1 h2
  exact ⟨_, h3, .inr ⟨T, [a, b], [d, c], rfl, hT, rfl, rfl, _, _, rfl, h4, _, _, rfl, h5, rfl⟩⟩
theorem wk_zip {K : PySem.W.Frag} {F : Hp} {a b : Addr} {vs us : List V} {xs ys : List D} (h : SqL K F a vs) (h' : SqL K F b us) (r : RepDs K ca F xs vs) (r' : RepDs K ca F ys us) : WOk K ca F ((xs.zip ys).map fun p => .tup [p.1, p.2]) (Itz K a b) := by
  have w := (walk_zip (K := K) (a := a) (b := b) (xs := vs) (ys := us) rfl).mono (G' := fun H => Ex F H) (Y' := fun i H x H' => YOk K ca F ((xs.zip ys).map fun p => .tup [p.1, p.2]) i H x H') (fun H e => ⟨Evl.ex_l e h, Evl.ex_l e h'⟩) (fun i H x H' hi e y => by
    rw [r.length, r'.length] at hi
    have h1 : i < xs.length := by omega
    have h2 : i < ys.length := by omega
    refine yk_pair y fun p q hp hq => ⟨xs[i], ys[i], by rw [List.getElem?_map, (List.getElem?_zip_eq_some (z := (xs[i], ys[i]))).mpr ⟨List.getElem?_eq_getElem h1, List.getElem?_eq_getElem h2⟩]; rfl, ?_, ?_⟩
    · obtain ⟨v, e1, e2⟩ := r.get (List.getElem?_eq_getElem h1)
      rw [hp] at e1; cases e1; exact e2
    · obtain ⟨v, e1, e2⟩ := r'.get (List.getElem?_eq_getElem h2)
      rw [hq] at e1; cases e1; exact e2)
  have hl : ((xs.zip ys).map fun p => D.tup [p.1, p.2]).length = min vs.length us.length := by rw [List.length_map, List.length_zip, r.length, r'.length]
  unfold WOk
  rw [hl]
  exact w
theorem walk_zipT {K : PySem.W.Frag} {a b : Addr} {xs ys : List V} {n : Nat} (hn : n = min xs.length ys.length) : Walk (RZ.ItzT K a b) n (fun H => SqT K H a xs ∧ SqT K H b ys) (YPair (fun i => xs[i]?) (fun i => ys[i]?)) := by
  subst hn
  refine ⟨fun i _ hi q => ?_, fun _ q => ⟨xs, ys, q.1, q.2, by omega⟩, fun i H v H' _ q y => ?_⟩
  · have h1 : i < xs.length := by omega
    have h2 : i < ys.length := by omega
    exact ⟨xs, ys, xs[i], ys[i], q.1, q.2, by simp [h1], by simp [h2]⟩
  · obtain ⟨T, x, z, h1, h2, h3, h4, h5⟩ := y
    exact ⟨T, x, z, h1, h2, h3, h4 xs q.1, h5 ys q.2⟩
theorem wk_zipT {K : PySem.W.Frag} {F : Hp} {a b : Addr} {vs us : List V} {xs ys : List D} (h : SqT K F a vs) (h' : SqT K F b us) (r : RepDs K ca F xs vs) (r' : RepDs K ca F ys us) : WOk K ca F ((xs.zip ys).map fun p => .tup [p.1, p.2]) (RZ.ItzT K a b) := by
  have w := (walk_zipT (K := K) (a := a) (b := b) (xs := vs) (ys := us) rfl).mono (G' := fun H => Ex F H) (Y' := fun i H x H' => YOk K ca F ((xs.zip ys).map fun p => .tup [p.1, p.2]) i H x H') (fun H e => ⟨Evl.ex_t e h, Evl.ex_t e h'⟩) (fun i H x H' hi e y => by
    rw [r.length, r'.length] at hi
    have h1 : i < xs.length := by omega
    have h2 : i < ys.length := by omega
    refine yk_pair y fun p q hp hq => ⟨xs[i], ys[i], by rw [List.getElem?_map, (List.getElem?_zip_eq_some (z := (xs[i], ys[i]))).mpr ⟨List.getElem?_eq_getElem h1, List.getElem?_eq_getElem h2⟩]; rfl, ?_, ?_⟩
    · obtain ⟨v, e1, e2⟩ := r.get (List.getElem?_eq_getElem h1)
      rw [hp] at e1; cases e1; exact e2
    · obtain ⟨v, e1, e2⟩ := r'.get (List.getElem?_eq_getElem h2)
      rw [hq] at e1; cases e1; exact e2)
  have hl : ((xs.zip ys).map fun p => D.tup [p.1, p.2]).length = min vs.length us.length := by rw [List.length_map, List.length_zip, r.length, r'.length]
  unfold WOk
  rw [hl]
  exact w
theorem each_get (f : Int → D → D) : ∀ (xs : List D) (s : Int) (i : Nat), (eachFrom f s xs)[i]? = xs[i]?.map (f (s + i))
  | [], _, _ => by simp [eachFrom]
  | x :: xs, s, 0 => by simp [eachFrom]
  | x :: xs, s, i + 1 => by
    show (eachFrom f (s + 1) xs)[i]? = xs[i]?.map (f (s + (i + 1 : Nat)))
    rw [each_get f xs (s + 1) i]
    congr 2
    omega
theorem each_len (f : Int → D → D) : ∀ (xs : List D) (s : Int), (eachFrom f s xs).length = xs.length
  | [], _ => rfl
  | x :: xs, s => by show (eachFrom f (s + 1) xs).length + 1 = _; rw [each_len f xs]; rfl
theorem wk_enum {K : PySem.W.Frag} {F : Hp} {a : Addr} {vs : List V} {xs : List D} (h : SqL K F a vs) (r : RepDs K ca F xs vs) : WOk K ca F (eachFrom (fun i x => .tup [.int i, x]) 0 xs) (Ite K a) := by
  have w := (walk_enum (K := K) (a := a) (xs := vs)).mono (G' := fun H => Ex F H) (Y' := fun i H x H' => YOk K ca F (eachFrom (fun i x => .tup [.int i, x]) 0 xs) i H x H') (fun H e => Evl.ex_l e h) (fun i H x H' hi e y => by
    rw [r.length] at hi
    refine yk_pair y fun p q hp hq => ⟨.int (i : Nat), xs[i], by rw [each_get, List.getElem?_eq_getElem hi]; simp, by cases hp; rfl, ?_⟩
    obtain ⟨v, e1, e2⟩ := r.get (List.getElem?_eq_getElem hi)
    rw [hq] at e1; cases e1; exact e2)
  have hl : (eachFrom (fun i x => .tup [.int i, x]) 0 xs).length = vs.length := by rw [each_len, r.length]
  unfold WOk
  rw [hl]
  exact w
theorem w_zip {elts : List Expr} {kk : Nat} {tpos : Pos} (hg : Gl X "zip") (hm : X.mg "zip" = none) (ha : PA X [e, e2] (tEs X.K ca g)) (hs : starEach [e, e2] X.env = (false, eval e X.env) :: starEach [e2] X.env) (hpl : (backTo pos (starEach [e2] X.env)).any (·.1) = false) :
    PI X (.Tuple elts kk tpos) (.Call (.Name "zip" p) [e, e2] [] pos) (tW X.K ca .zip g) := by
  refine ⟨fun pins s σ H R I hq => (RZ.pi_zipA hg hm ha hs hpl).run pins s σ H R I ?_⟩
  obtain ⟨F, ρ, fr, st, q⟩ := hq
  refine ⟨F, ρ, fr, st, q.mono fun ds ρ1 ⟨xs, hw, q⟩ vs H' F' eF s' r => ?_⟩
  unfold walkD at hw
  split at hw <;> first | (cases hw; done) | skip
  all_goals first | (rename_i hk _; cases hk; done) | (rename_i hk; cases hk; done) | skip
  · cases hw
    obtain ⟨v, rr, rfl, h2, v2, rr2, rfl, h3, h4⟩ := r
    cases h4
    obtain ⟨a, as, rfl, h5, h6⟩ := h2
    obtain ⟨b, bs, rfl, h7, h8⟩ := h3
    exact ⟨a, b, as, bs, rfl, .inl ⟨Evl.ex_l s'.ex (.inl h5), Evl.ex_l s'.ex (.inl h7), q _ _ _ eF s' (wk_zip (.inl h5) (.inl h7) h6 h8)⟩⟩
  · cases hw
    obtain ⟨v, rr, rfl, h2, v2, rr2, rfl, h3, h4⟩ := r
    cases h4
    obtain ⟨a, as, rfl, h5, h6⟩ := h2
    obtain ⟨b, bs, rfl, h7, h8⟩ := h3
    exact ⟨a, b, as, bs, rfl, .inr ⟨Evl.ex_t s'.ex h5.t, Evl.ex_t s'.ex h7.t, q _ _ _ eF s' (wk_zipT h5.t h7.t h6 h8)⟩⟩
/-! ### comprehensions -/
def tC (K : PySem.W.Frag) (ca : Str → Addr) (f : Sl → R Bool) : TT := fun σ H Q => ∃ F ρ fr, S K ca F H σ ρ fr ∧ Post (f ρ) fun b ρ' => ∀ H' F', Ex F F' → S K ca F' H' σ ρ' fr → Q b H'
theorem c_none : PTs X [] (tC X.K ca fun ρ => .ok true ρ) := by
  refine ⟨fun pins s σ H Q I h => pts_nil.run pins s σ H Q I ?_⟩
  obtain ⟨F, ρ, fr, st, q⟩ := h
  exact q H F (Ex.refl F) st
theorem c_some {f : Sl → R T} (h : PT X e (tT X.K ca f)) : PTs X [e] (tC X.K ca fun ρ => (f ρ).bind fun t ρ1 => R.opt (truth t) ρ1) := by
  refine ⟨fun pins s σ H Q I hq => (pts_one h).run pins s σ H Q I ?_⟩
  obtain ⟨F, ρ, fr, st, q⟩ := hq
  refine ⟨F, ρ, fr, st, (Post.bind q).mono fun t ρ1 q1 => ?_⟩
  obtain ⟨b, e, q2⟩ := Post.opt q1
  exact ⟨b, e, q2⟩
theorem noX_post {α : Type} {r : R α} {P : α → Sl → Prop} (h : Post (noX r) P) : Post r P := by
  cases r with
  | ok a ρ => exact h
  | exc _ _ => exact h.elim
  | bad => exact h
variable {k : ItK} {t : Tg} {vs : List Nat} {git : Sl → R (List D)} {fc : Sl → R Bool} {fe : Sl → R T} {te : TE}
abbrev turnF (t : Tg) (ws : List Nat) (fc : Sl → R Bool) (fe : Sl → R T) : D → Sl → R (Option D) := fun d r => match bindT t d (wipeS ws r) with
  | some r1 => (fc r1).bind fun b r2 => if b then (fe r2).bind fun t r3 => .ok (some t.d) r3 else .ok none r2
  | none => .bad
theorem comp_ready {σ : L2.St} {H : Hp} {Q : VK} (hts : ∀ j ∈ t.slots, j ∈ vs)
    (h : tE X.K ca (fun ρ => (git ρ).bind fun ds ρ1 => match walkD k ds with
      | some xs => if freeS vs ρ1 then (noX (compL (turnF t vs fc fe) xs (wipeS vs ρ1))).bind fun ys ρ2 => if szOk xs.length then .ok (own (.lst ys)) (backS vs ρ1 ρ2) else .bad
        else .bad
      | none => .bad) σ H Q) : tLc (tW X.K ca k git) (gT X.K ca t) (tC X.K ca fc) (tE X.K ca fe) vs σ H Q := by
  obtain ⟨F, ρ, fr, st, q⟩ := h
  refine ⟨F, ρ, fr, st, (Post.bind q).mono fun ds ρ1 q1 => ?_⟩
  split at q1
  · rename_i xs hx
    split at q1
    · rename_i hfree
      refine ⟨xs, hx, fun J H1 F1 e1 s1 w => fun Dl hD => ?_⟩
      have q1 := noX_post (Post.bind q1)
      have sz : szOk xs.length = true ∨ ¬ szOk xs.length = true := by cases szOk xs.length <;> simp
      rcases sz with hz | hz
      · simp only [hz, if_true] at q1
        let Pv : Nat → Hp → Prop := fun i H2 => ∃ F2 ρ2 acc, Ex F1 F2 ∧ S X.K ca F2 H2 (L2.wipe σ vs) (wipeS vs ρ2) ((.ref Dl, own (.lst acc)) :: fr) ∧ acc.length ≤ i ∧ i ≤ xs.length ∧
          Post (compL (turnF t vs fc fe) (xs.drop i) ρ2) fun ys ρ3 => ∀ v H' F', Ex F F' → S X.K ca F' H' σ (backS vs ρ1 ρ3) ((v, own (.lst (acc ++ ys))) :: fr) → Q v H'
        have wk : Walk J xs.length (fun H => Ex F1 H) (fun i H x H' => YOk X.K ca F1 xs i H x H') := w
        refine lc_it wk Pv ?_ ?_ ?_ ?_
        · have s2 := (s1.wipe vs).alloc (u := .lst []) (d := .lst []) hD rfl
          have ww : wipeS vs (wipeS vs ρ1) = wipeS vs ρ1 := by
            apply List.ext_getElem?
            intro j
            by_cases hj : j ∈ vs
            · have key : ∀ (ws : List Nat) (r : Sl), j ∈ ws → (wipeS ws r)[j]? = if j < r.length then some none else none := by
                intro ws
                induction ws with
                | nil => intro r hj; cases hj
                | cons a ws ih =>
                  intro r hj
                  show ((wipeS ws r).set a none)[j]? = _
                  by_cases ha : a = j
                  · subst ha
                    by_cases hl : a < r.length
                    · rw [List.getElem?_set_self (by rw [wipeS_len]; exact hl), if_pos hl]
                    · rw [List.getElem?_eq_none (by rw [List.length_set, wipeS_len]; omega), if_neg hl]
                  · rw [List.getElem?_set_ne ha]
                    exact ih r ((List.mem_cons.mp hj).resolve_left (Ne.symm ha))
              rw [key vs _ hj, key vs _ hj, wipeS_len]
            · rw [wipeS_out vs j hj]
          exact ⟨F1, wipeS vs ρ1, [], Ex.refl F1, by rw [ww]; exact s2, Nat.le_refl _, Nat.zero_le _, by rw [List.drop_zero]; exact q1⟩
        · rintro i H2 _ ⟨F2, ρ2, acc, e2, s2, _⟩
          exact exT e2 s2.ex
        · rintro i x H2 H3 hi ⟨F2, ρ2, acc, e2, s2, hacc, _, q2⟩ y
          obtain ⟨d, F3, hd, e3, s3, rd⟩ := (y.mono e2).s s2
          rw [List.drop_eq_getElem_cons hi] at q2
          have hd' : xs[i] = d := by rw [List.getElem?_eq_getElem hi] at hd; exact Option.some.inj hd
          rw [hd'] at q2
          simp only [compL] at q2
          have q2 := Post.bind q2
          unfold turnF at q2
          cases hb : bindT t d (wipeS vs ρ2) with
          | none => rw [hb] at q2; exact q2.elim
          | some r1 =>
            rw [hb] at q2
            refine ⟨F3, _, _, d, r1, s3, rd, hb, fun σ2 s4 hl hs => ?_⟩
            have hw : L2.wipe σ2 vs = L2.wipe σ vs := by
              rw [← wipe_wipe (σ := σ)]
              exact wipe_same hl fun j hj => hs j fun hj2 => hj (hts j hj2)
            refine ⟨hw, F3, r1, _, s4, (Post.bind q2).mono fun b r2 q3 H4 F4 e4 s5 => ?_⟩
            cases b with
            | true =>
              simp only [if_true] at q3 ⊢
              refine ⟨F4, r2, _, s5, (Post.bind q3).mono fun tv r3 q4 v H5 F5 e5 s6 => ?_⟩
              obtain ⟨F6, e6, s7, rv⟩ := s6.share
              have s8 := s7.wipe vs
              rw [hw] at s8
              obtain ⟨a, u, hDl, h1, h2, h3⟩ := s8.top
              cases hDl
              cases u <;> first | exact h3.elim | skip
              rename_i accV
              have h3 : RepDs X.K ca F6 acc accV := h3
              have s9 : S X.K ca F6 (upd H5 Dl (.lst (accV ++ [v]))) (L2.wipe σ vs) (wipeS vs r3) ((.ref Dl, own (.lst (acc ++ [tv.d]))) :: fr) :=
                s8.unhead (s8.head.write (d' := .lst (acc ++ [tv.d])) (u := .lst (accV ++ [v])) (h3.append (RepDs.one rv)))
              refine ⟨accV, h2, ?_, F6, r3, acc ++ [tv.d], ?_, s9, ?_, hi, ?_⟩
              · rw [h3.length]; exact Nat.lt_of_le_of_lt hacc (Nat.lt_of_lt_of_le hi (sz_ok hz))
              · exact exT e2 (exT e3 (exT e4 (exT e5 e6)))
              · rw [List.length_append]; simpa using hacc
              · refine (Post.bind q4).mono fun ys r4 q5 v' H' F' eF s' => ?_
                refine q5 v' H' F' eF ?_
                rw [show acc ++ tv.d :: ys = acc ++ [tv.d] ++ ys by simp]
                exact s'
            | false =>
              simp only [Bool.false_eq_true, if_false] at q3 ⊢
              have s8 := s5.wipe vs
              rw [hw] at s8
              refine ⟨F4, r2, acc, exT e2 (exT e3 e4), s8, by omega, hi, ?_⟩
              exact (Post.bind q3).mono fun ys r4 q5 => q5
        · rintro H2 ⟨F2, ρ2, acc, e2, s2, _, _, q2⟩
          rw [List.drop_length] at q2
          have q2 : ∀ v H' F', Ex F F' → S X.K ca F' H' σ (backS vs ρ1 ρ2) ((v, own (.lst (acc ++ []))) :: fr) → Q v H' := q2
          rw [List.append_nil] at q2
          exact q2 _ _ _ (exT e1 e2) (s1.unwipe e2 hfree s2)
      · simp only [hz, if_false] at q1
        exfalso
        revert q1
        cases compL (turnF t vs fc fe) xs (wipeS vs ρ1) <;> exact fun q => q.elim
    · exact q1.elim
  · exact q1.elim
end
end Mi

set_option Elab.async false
set_option linter.all false
set_option maxRecDepth 100000
set_option maxHeartbeats 1000000
/-! MEnum: enumerate over lists and tuples. -/
namespace PySem
theorem meets_enumerate_new1 {v : Value} {o : Obj} {H : Heap → Prop} (B : Begins v o H) :
    Meets (Builtin.«enumerate.__new__» ⟨[.type "enumerate", v], []⟩) (fun _ R s => H s.heap ∧
      R (.ok (.ret (.ref (s.heap.push o).objs.size))) { s with heap := (s.heap.push o).push { cls := .type "enumerate", data := .fields #[.none, .bool false, .ref s.heap.objs.size, rawInt 0, .none, .none] } }) :=
  .of_wp fun prog w A R s h => by
    obtain ⟨hp, g, d, tk, os⟩ := s; obtain ⟨h1, h⟩ := h
    have hsub := sub_enumerate
    have q1 : ∀ {A' : Around} {E : Value → Shared → Prop} {Q : Value → Shared → Prop}, Q (.ref hp.objs.size) ⟨hp.push o, g, d, tk, os⟩ → wpAny (model prog w) A' (pyIter v) Q E ⟨hp, g, d, tk, os⟩ :=
      fun q => B.iter prog w _ _ ⟨hp, g, d, tk, os⟩ _ h1 q
    wp_walk using q1
    refine wpAny_stack_any fun st => wpAny_pure ?_
    split
    · rename_i c _ _ _ _ _
      cases (c == Value.type "enumerate")
      · wp_walk using q1
        exact ⟨_, rfl, h⟩
      · wp_walk using q1
        exact ⟨_, rfl, h⟩
    · wp_walk using q1
      exact ⟨_, rfl, h⟩
theorem enum_begins1 {prog : Program} {w : World} {A : Around} {E : Value → Shared → Prop} {s : Shared} {v : Value} {o : Obj} {H : Heap → Prop} {Q : Value → Shared → Prop} (B : Begins v o H) (h1 : H s.heap)
    (h : ∀ h', IsEnum h' (s.heap.objs.size + 1) s.heap.objs.size 0 .none → h'.get? s.heap.objs.size = some o → h'.objs.size = s.heap.objs.size + 2 →
      (∀ b o, s.heap.get? b = some o → h'.get? b = some o) → Q (.ref (s.heap.objs.size + 1)) { s with heap := h' }) :
    wpAny (model prog w) A (call (.type "enumerate") [v]) Q E s := by
  refine callType_new F.called_enumerate (by decide) (F.typeCall_enumerate_1 _) (F.newCall_enumerate_1 _) (fun obj => F.args_object_init_2 obj _) F.entry_enumerate_new
    (meets_enumerate_new1 B) ⟨h1, ?_⟩
  have hz : (s.heap.push o).objs.size = s.heap.objs.size + 1 := Heap.size_push ..
  show _ ∧ _
  rw [hz]
  have he : IsEnum ((s.heap.push o).push { cls := .type "enumerate", data := .fields #[.none, .bool false, .ref s.heap.objs.size, rawInt 0, .none, .none] }) (s.heap.objs.size + 1) s.heap.objs.size 0 .none := by
    have := Heap.get?_push_size (s.heap.push o) (o := { cls := .type "enumerate", data := .fields #[.none, .bool false, .ref s.heap.objs.size, rawInt 0, .none, .none] }) rfl
    rw [hz] at this; exact this
  refine ⟨⟨_, he, rfl⟩, h _ he (Heap.get?_push_of_some _ (Heap.get?_push_size _ B.free)) (by rw [Heap.size_push, hz]) fun b o x => Heap.get?_push_of_some _ (Heap.get?_push_of_some _ x)⟩
end PySem
namespace Mi
open PySem PySem.Spec PyProof.Rows L2
open Evl (Ex)
/-- the tuple at a, each item in a new pair -/
def Itet (K : PySem.W.Frag) (a : Addr) : It :=
  ⟨fun i H => ∃ (xs : List V) (x : V), SqT K H a xs ∧ xs[i]? = some x, fun i H v H' => ∃ T x, v = .ref T ∧ H T = none ∧ H' = upd H T (.tup [.int (i : Nat), x]) ∧ ∀ xs, SqT K H a xs → xs[i]? = some x, fun i H => ∃ xs : List V, SqT K H a xs ∧ xs.length ≤ i⟩
theorem turn_enumT {P : Program} {w : World} {K : PySem.W.Frag} {elts : List Expr} {kk : Nat} {tpos : Pos} (a e it : Addr) (hai : a ≠ it) (hea : e ≠ a) :
    Turn P w K (.Tuple elts kk tpos) (Itet K a) [e, it] e (fun i h => (∃ old, IsEnum h e it ((i : Nat) : Int) old) ∧ h.IsTupleIter it a i ∧ e ≠ it) where
  mem := by simp
  obj := fun i h st b hb => by
    obtain ⟨⟨old, he⟩, ⟨o, ho, hc, hd⟩, _⟩ := st
    have e' : b = e ∨ b = it := by simpa using hb
    rcases e' with z | z
    · rw [z]; exact ⟨_, he, fun v q => nomatch q⟩
    · rw [z]; exact ⟨o, ho, fun v q => by rw [hd] at q; cases q⟩
  keep := fun i h h' st k => let ⟨⟨old, he⟩, hi, hne⟩ := st; ⟨⟨old, k e (by simp) _ he⟩, hi.at fun o q => k it (by simp) o q, hne⟩
  item := by
    intro X hP hw hK hc i pins s σ H E I hf st hg
    subst hP hw hK
    obtain ⟨⟨old, he⟩, hit, hne⟩ := st
    obtain ⟨xs, x, hq, hx⟩ := hg
    obtain ⟨its, rv, p, hz⟩ := I.tuple hq
    obtain ⟨u, hu, ru⟩ := rv.get hx
    have hel : e < s.heap.objs.size := Heap.lt_size he
    have hil : it < s.heap.objs.size := by obtain ⟨_, q, _⟩ := hit; exact Heap.lt_size q
    have hlt : i < its.toArray.size := by
      have := (List.getElem?_eq_some_iff.mp hu).1
      simpa using this
    refine wpAny_pyNext_enum_itemD (Draws.tuple (A := X.A.in1) (I.ok.hd hc) it a hai its.toArray) he ⟨hit, p⟩ hlt hne (by simp [hne, hea]) fun x' h' tk hx' ho hst hT hsz hk => ?_
    have hxu : x' = u := by
      have h1 : its.toArray[i]? = some x' := hx'
      have h2 : its.toArray[i]? = some u := by simpa using hu
      rw [h1] at h2; cases h2; rfl
    subst hxu
    obtain ⟨hit', p'⟩ := hst
    refine ⟨_, rfl, wpAny_letOwnedTupleGo_enum (s := { s with heap := h', toks := tk + 1 }) ho fun h'' he' sb => ?_⟩
    have hT2 : h''.get? s.heap.objs.size = some { cls := .type "tuple", data := .seq #[.int i tk, x'] } := (sb.2 _ (Nat.ne_of_gt hel)).trans hT
    have new : ObjOk X.prog X.w (upd H s.heap.objs.size (.tup [.int (i : Nat), x])) h'' s.heap.objs.size (.tup [.int (i : Nat), x]) :=
      ⟨by show 2 ≤ sizeLine; decide, [.int i tk, x'], .cons ⟨_, rfl⟩ (.cons ru .nil), ⟨_, hT2, rfl, _, rfl⟩⟩
    have I1 : Inv X pins σ (upd H s.heap.objs.size (.tup [.int (i : Nat), x])) { s with heap := h'', toks := tk + 1 } :=
      I.turnedNew (ch := [e, it]) (fun b ob hb q => (sb.2 b (fun z => hb (by simp [z]))).trans (hk b ob (fun z => hb (by simp [z])) (fun z => hb (by simp [z])) q)) hf (Nat.le_refl _) new
    refine ⟨.ref s.heap.objs.size, _, I1, rfl, ⟨_, x, rfl, I.hok.fresh (Nat.le_refl _), rfl, fun ys hy => by rw [I.tuple_inj hy hq]; exact hx⟩, ⟨⟨x', ?_⟩, hit'.at fun o q => (sb.2 it (Ne.symm hne)).trans q, hne⟩, fun b hb => ?_⟩
    · have e1 : ((i + 1 : Nat) : Int) = (i : Int) + 1 := by omega
      rw [e1]; exact he'
    · have hb' : b < s.heap.objs.size := by
        have e' : b = e ∨ b = it := by simpa using hb
        rcases e' with z | z
        · rw [z]; exact hel
        · rw [z]; exact hil
      rw [upd_ne (Nat.ne_of_lt hb')]
      exact (hf b hb).1
  done := by
    intro X hP hw hK hc i pins s σ H E I hf st hg
    subst hP hw hK
    obtain ⟨⟨old, he⟩, hit, hne⟩ := st
    obtain ⟨xs, hq, hx⟩ := hg
    obtain ⟨its, rv, p, hz⟩ := I.tuple hq
    obtain ⟨f0, f1, f2, f3, f4, f5⟩ := hf it (by simp)
    have hl := rv.length
    have hn : its.toArray[i]? = none := by simp; omega
    have hT : s.TypeIs (.ref e) "enumerate" := ⟨_, he, rfl⟩
    unfold pyNext
    refine wpAny_bind (wpAny_attempt (wpAny_callSpecial?_slot (name := Str.ofString "__next__") hT F.slot_enumerate_next
      (wpAny_call_entry F.slot_enumerate_next hT F.entry_enumerate_next ?_ (F.args_enumerate_next_1 _))))
    show wpAny _ _ (field (.ref e) 2 >>= _) _ _ _
    refine wpAny_bind (wpAny_field he rfl (x := .ref it) rfl ?_)
    refine wpAny_bind (wpAny_nextOf_tuple_end (A := X.A.in1) (I.ok.hd hc) hit p hn fun h' x eb hx' => ?_)
    obtain ⟨o, ho, hcl⟩ := hx'
    refine wpAny_bind (wpAny_isInstance (T := "StopIteration") (b := true) ⟨o, ho, hcl⟩ isSubtype_stop ?_)
    exact wpAny_pure ⟨rfl, I.turned (t' := s.toks) (fun b o hb q => eb b o hb q) f0 f1 f3 f4 f5⟩
  self := fun A i s Q E st h => let ⟨⟨_, he⟩, _⟩ := st; wpAny_pyIter_enum he h
def iEnumT (K : PySem.W.Frag) (ta : TA) : TI := fun σ H R => ta σ H fun vs H1 => ∃ a xs, vs = [.ref a] ∧ ((SqL K H1 a xs ∧ R (Ite K a) H1) ∨ (SqT K H1 a xs ∧ R (Itet K a) H1))
theorem pi_enumT {X : Cx} {e : Expr} {ta : TA} {p pos tpos : Pos} {elts : List Expr} {kk : Nat} (hg : Gl X "enumerate") (hm : X.mg "enumerate" = none) (ha : PA X [e] ta) (hs : starEach [e] X.env = [(false, eval e X.env)]) :
    PI X (.Tuple elts kk tpos) (.Call (.Name "enumerate" p) [e] [] pos) (iEnumT X.K ta) := by
  refine ⟨fun pins s σ H R I h => ?_⟩
  refine Call_ (ld_blt I hg hm boot_enumerate (PyProof.Rows.callWith_type1 (thn (ha.run pos pins s σ H _ I h) fun us s1 ⟨vs, H1, I1, r1, q1⟩ => ?_) hs rfl))
  obtain ⟨a, xs, ex, hq⟩ := q1
  subst ex
  cases r1 with
  | cons r rr =>
    cases rr
    cases r
    have own : ∀ h' : Heap, ∀ b ∈ [s1.heap.objs.size + 1, s1.heap.objs.size], b = s1.heap.objs.size + 1 ∨ b = s1.heap.objs.size := fun _ b hb => by simpa using hb
    have hfp : ∀ b ∈ [s1.heap.objs.size + 1, s1.heap.objs.size], s1.heap.objs.size ≤ b := fun b hb => by
      rcases own s1.heap b hb with z | z
      · rw [z]; exact Nat.le_add_right _ _
      · rw [z]; exact Nat.le_refl _
    rcases hq with ⟨hq, q⟩ | ⟨hq, q⟩
    · obtain ⟨its, rv, p', hz⟩ := I1.list hq
      refine call_enumerate_list p'.isList fun h' he hit hsz hk => wpAny_pyIter_enum he ?_
      have I2 : Inv X pins σ H1 { s1 with heap := h' } := I1.kept (t' := s1.toks) hk
      exact ⟨s1.heap.objs.size + 1, [s1.heap.objs.size + 1, s1.heap.objs.size], _, _, H1, rfl, I2, turn_enum a (s1.heap.objs.size + 1) s1.heap.objs.size, ⟨⟨.none, he⟩, hit, Nat.succ_ne_self _⟩, fun b hb => I1.fpOk (hfp b hb) (I1.hok.fresh (hfp b hb)), q⟩
    · obtain ⟨its, rv, p', hz⟩ := I1.tuple hq
      have hal : a < s1.heap.objs.size := by obtain ⟨_, y, _⟩ := p'; exact Heap.lt_size y
      refine enum_begins1 (begins_tuple a its.toArray) p' fun h' he hit hsz hk => wpAny_pyIter_enum he ?_
      have I2 : Inv X pins σ H1 { s1 with heap := h' } := I1.kept (t' := s1.toks) hk
      exact ⟨s1.heap.objs.size + 1, [s1.heap.objs.size + 1, s1.heap.objs.size], _, _, H1, rfl, I2, turn_enumT a (s1.heap.objs.size + 1) s1.heap.objs.size (Nat.ne_of_lt hal) (Nat.ne_of_gt (Nat.lt_succ_of_lt hal)), ⟨⟨.none, he⟩, ⟨_, hit, rfl, rfl⟩, Nat.succ_ne_self _⟩, fun b hb => I1.fpOk (hfp b hb) (I1.hok.fresh (hfp b hb)), q⟩
theorem walk_enumT {K : PySem.W.Frag} {a : Addr} {xs : List V} : Walk (Itet K a) xs.length (fun H => SqT K H a xs) (YPair (fun i => some (.int (i : Nat))) (fun i => xs[i]?)) := by
  refine ⟨fun i _ hi q => ⟨xs, xs[i], q, by simp [hi]⟩, fun _ q => ⟨xs, q, Nat.le_refl _⟩, fun i H v H' _ q y => ?_⟩
  obtain ⟨T, x, h1, h2, h3, h4⟩ := y
  exact ⟨T, .int (i : Nat), x, h1, h2, h3, rfl, h4 xs q⟩
section
variable {X : Cx} {ca : Str → Addr} {g : Sl → R (List D)} {e : Expr} {pos p : Pos}
theorem wk_enumT {K : PySem.W.Frag} {F : Hp} {a : Addr} {vs : List V} {xs : List D} (h : SqT K F a vs) (r : RepDs K ca F xs vs) : WOk K ca F (eachFrom (fun i x => .tup [.int i, x]) 0 xs) (Itet K a) := by
  have w := (walk_enumT (K := K) (a := a) (xs := vs)).mono (G' := fun H => Ex F H) (Y' := fun i H x H' => YOk K ca F (eachFrom (fun i x => .tup [.int i, x]) 0 xs) i H x H') (fun H e => Evl.ex_t e h) (fun i H x H' hi e y => by
    rw [r.length] at hi
    refine yk_pair y fun p q hp hq => ⟨.int (i : Nat), xs[i], by rw [each_get, List.getElem?_eq_getElem hi]; simp, by cases hp; rfl, ?_⟩
    obtain ⟨v, e1, e2⟩ := r.get (List.getElem?_eq_getElem hi)
    rw [hq] at e1; cases e1; exact e2)
  have hl : (eachFrom (fun i x => .tup [.int i, x]) 0 xs).length = vs.length := by rw [each_len, r.length]
  unfold WOk
  rw [hl]
  exact w
theorem w_enum {elts : List Expr} {kk : Nat} {tpos : Pos} (hg : Gl X "enumerate") (hm : X.mg "enumerate" = none) (ha : PA X [e] (tEs X.K ca g)) (hs : starEach [e] X.env = [(false, eval e X.env)]) (h1 : ∀ ρ ds ρ', g ρ = .ok ds ρ' → ds.length = 1) :
    PI X (.Tuple elts kk tpos) (.Call (.Name "enumerate" p) [e] [] pos) (tW X.K ca (.enum 0) g) := by
  refine ⟨fun pins s σ H R I hq => (pi_enumT hg hm ha hs).run pins s σ H R I ?_⟩
  obtain ⟨F, ρ, fr, st, q⟩ := hq
  refine ⟨F, ρ, fr, st, q.mono fun ds ρ1 ⟨xs, hw, q⟩ vs H' F' eF s' r => ?_⟩
  rcases ds with _ | ⟨d, _ | ⟨c, cs⟩⟩
  · cases hw
  · cases d <;> first | (cases hw; done) | skip
    all_goals simp only [walkD, reduceCtorEq, Option.some.injEq] at hw
    all_goals subst hw
    · obtain ⟨v, rr, rfl, h2, h4⟩ := r
      cases h4
      obtain ⟨a, as, rfl, h5, h6⟩ := h2
      exact ⟨a, as, rfl, .inl ⟨Evl.ex_l s'.ex (.inl h5), q _ _ _ eF s' (wk_enum (.inl h5) h6)⟩⟩
    · obtain ⟨v, rr, rfl, h2, h4⟩ := r
      cases h4
      obtain ⟨a, as, rfl, h5, h6⟩ := h2
      exact ⟨a, as, rfl, .inr ⟨Evl.ex_t s'.ex h5.t, q _ _ _ eF s' (wk_enumT h5.t h6)⟩⟩
  · cases d <;> cases hw
end
end Mi

set_option Elab.async false
set_option linter.all false
set_option maxRecDepth 100000
set_option maxHeartbeats 1000000
/-! M2k: comprehensions' expressions, dicts, methods. -/
namespace Mi
open PySem PySem.Spec PyProof.Rows L2
open Evl (Ex)
section
variable {K : PySem.W.Frag} {ca : Str → Addr} {F : Hp}
theorem RepKs.any {k : Key} : ∀ {kvs : List (Key × D)} {us : List (Key × V)}, RepKs K ca F kvs us → (kvs.any fun kv => decide (kv.1 = k)) = us.any fun kv => decide (kv.1 = k)
  | [], _, h => by cases h; rfl
  | (g, x) :: kvs, _, ⟨v, r, e, _, h2⟩ => by subst e; rw [List.any_cons, List.any_cons, RepKs.any h2]
theorem RepKs.map {k : Key} {d : D} {v : V} (hd : RepD K ca F d v) : ∀ {kvs : List (Key × D)} {us : List (Key × V)}, RepKs K ca F kvs us → RepKs K ca F (kvs.map fun kv => if kv.1 = k then (kv.1, d) else kv) (us.map fun kv => if kv.1 = k then (kv.1, v) else kv)
  | [], _, h => by cases h; rfl
  | (g, x) :: kvs, _, ⟨w, r, e, h1, h2⟩ => by
    subst e
    simp only [List.map_cons]
    by_cases hg : g = k
    · rw [if_pos hg, if_pos hg]; exact ⟨v, _, rfl, hd, RepKs.map hd h2⟩
    · rw [if_neg hg, if_neg hg]; exact ⟨w, _, rfl, h1, RepKs.map hd h2⟩
theorem RepKs.snoc {k : Key} {d : D} {v : V} (hd : RepD K ca F d v) : ∀ {kvs : List (Key × D)} {us : List (Key × V)}, RepKs K ca F kvs us → RepKs K ca F (kvs ++ [(k, d)]) (us ++ [(k, v)])
  | [], _, h => by cases h; exact ⟨v, [], rfl, hd, rfl⟩
  | (g, x) :: kvs, _, ⟨w, r, e, h1, h2⟩ => by subst e; exact ⟨w, _, rfl, h1, RepKs.snoc hd h2⟩
theorem RepKs.put {kvs : List (Key × D)} {us : List (Key × V)} {k : Key} {d : D} {v : V} (h : RepKs K ca F kvs us) (hd : RepD K ca F d v) : RepKs K ca F (put kvs k d) (putK us k v) := by
  unfold Mi.put putK
  rw [h.any]
  split
  · exact h.map hd
  · exact h.snoc hd
theorem RepKs.length : ∀ {kvs : List (Key × D)} {us : List (Key × V)}, RepKs K ca F kvs us → us.length = kvs.length
  | [], _, h => by cases h; rfl
  | (_, _) :: kvs, _, ⟨w, r, e, h1, h2⟩ => by subst e; rw [List.length_cons, List.length_cons, RepKs.length h2]
theorem RepTs.any {k : List Key} : ∀ {kvs : List (List Key × D)} {us : List (List Key × V)}, RepTs K ca F kvs us → (kvs.any fun kv => decide (kv.1 = k)) = us.any fun kv => decide (kv.1 = k)
  | [], _, h => by cases h; rfl
  | (g, x) :: kvs, _, ⟨v, r, e, _, h2⟩ => by subst e; rw [List.any_cons, List.any_cons, RepTs.any h2]
theorem RepTs.map {k : List Key} {d : D} {v : V} (hd : RepD K ca F d v) : ∀ {kvs : List (List Key × D)} {us : List (List Key × V)}, RepTs K ca F kvs us → RepTs K ca F (kvs.map fun kv => if kv.1 = k then (kv.1, d) else kv) (us.map fun kv => if kv.1 = k then (kv.1, v) else kv)
  | [], _, h => by cases h; rfl
  | (g, x) :: kvs, _, ⟨w, r, e, h1, h2⟩ => by
    subst e
    simp only [List.map_cons]
    by_cases hg : g = k
    · rw [if_pos hg, if_pos hg]; exact ⟨v, _, rfl, hd, RepTs.map hd h2⟩
    · rw [if_neg hg, if_neg hg]; exact ⟨w, _, rfl, h1, RepTs.map hd h2⟩
theorem RepTs.snoc {k : List Key} {d : D} {v : V} (hd : RepD K ca F d v) : ∀ {kvs : List (List Key × D)} {us : List (List Key × V)}, RepTs K ca F kvs us → RepTs K ca F (kvs ++ [(k, d)]) (us ++ [(k, v)])
  | [], _, h => by cases h; exact ⟨v, [], rfl, hd, rfl⟩
  | (g, x) :: kvs, _, ⟨w, r, e, h1, h2⟩ => by subst e; exact ⟨w, _, rfl, h1, RepTs.snoc hd h2⟩
theorem RepTs.put {kvs : List (List Key × D)} {us : List (List Key × V)} {k : List Key} {d : D} {v : V} (h : RepTs K ca F kvs us) (hd : RepD K ca F d v) : RepTs K ca F (put kvs k d) (putK us k v) := by
  unfold Mi.put putK
  rw [h.any]
  split
  · exact h.map hd
  · exact h.snoc hd
theorem RepTs.length : ∀ {kvs : List (List Key × D)} {us : List (List Key × V)}, RepTs K ca F kvs us → us.length = kvs.length
  | [], _, h => by cases h; rfl
  | (_, _) :: kvs, _, ⟨w, r, e, h1, h2⟩ => by subst e; rw [List.length_cons, List.length_cons, RepTs.length h2]
theorem put_len {κ : Type} [DecidableEq κ] (kvs : List (κ × D)) (k : κ) (d : D) : (put kvs k d).length ≤ kvs.length + 1 := by
  unfold put
  split
  · rw [List.length_map]; omega
  · rw [List.length_append]; exact Nat.le_refl _
theorem key_v {d : D} {k : Key} {v : V} (e : keyOf d = some k) (h : RepD K ca F d v) : v = kV k := by
  cases d <;> simp only [keyOf, Option.some.injEq, reduceCtorEq] at e
  · subst e; exact h
  · subst e; exact h
theorem keys_v : ∀ {ds : List D} {ks : List Key} {vs : List V}, keysOf ds = some ks → RepDs K ca F ds vs → vs = ks.map kV
  | [], _, _, e, h => by cases e; cases h; rfl
  | d :: ds, _, _, e, ⟨v, r, ev, h1, h2⟩ => by
    simp only [keysOf] at e
    split at e
    · rename_i a b e1 e2
      cases e
      subst ev
      rw [key_v e1 h1, keys_v e2 h2]
      rfl
    · cases e
end
section
variable {X : Cx} {ca : Str → Addr} {f : Sl → R T} {g : Sl → R (List D)} {e tg iter elt : Expr} {es ifs : List Expr} {pos p : Pos} {k : ItK} {t : Tg} {vs : List Nat} {git : Sl → R (List D)} {fc : Sl → R Bool} {fe fk fv : Sl → R T} {scope : Scope} {own : List (Str × Nat)}
abbrev compR (k : ItK) (t : Tg) (vs : List Nat) (git : Sl → R (List D)) (fc : Sl → R Bool) (fe : Sl → R T) : Sl → R T := fun ρ => (git ρ).bind fun ds ρ1 => match walkD k ds with
      | some xs => if freeS vs ρ1 then (noX (compL (turnF t vs fc fe) xs (wipeS vs ρ1))).bind fun ys ρ2 => if szOk xs.length then .ok (Mi.own (.lst ys)) (backS vs ρ1 ρ2) else .bad
        else .bad
      | none => .bad
theorem e_comp (hc : X.calm = true) (hN : X.N.Nodup) (hts : ∀ j ∈ t.slots, j ∈ own.map (·.2)) (hi : PI X tg iter (tW X.K ca k git)) (ok : BlkOk X.N X.env.scope scope own)
    (hg : ∀ (s : Shared) (H : Hp) (C : Addr) (cl : List (Str × Addr)) (fp : List Addr), PG (X.blk s H scope (compEnvC scope cl C X.env) fp) tg (gT X.K ca t)) (ht : ∀ (s : Shared) (H : Hp) (C : Addr) (cl : List (Str × Addr)) (fp : List Addr), PTs (X.blk s H scope (compEnvC scope cl C X.env) fp) ifs (tC X.K ca fc))
    (he : ∀ (s : Shared) (H : Hp) (C : Addr) (cl : List (Str × Addr)) (fp : List Addr), PE (X.blk s H scope (compEnvC scope cl C X.env) fp) elt (tE X.K ca fe)) (hs : ∀ x, foldedSetIterable iter X.env x = pure x) :
    PE X (.ListComp elt [⟨tg, iter, ifs, 0⟩] scope pos) (tE X.K ca (compR k t (own.map (·.2)) git fc fe)) :=
  ⟨fun pins s σ H Q I h => (pe_lc hc hN hi ok hg ht he hs).run pins s σ H Q I (comp_ready hts h)⟩
/-- name = [..] on one line -/
theorem x_setLc {i : Nat} {y : Str} {py spos : Pos} {io : Bool} {tS : TS} (hc : X.calm = true) (hN : X.N.Nodup) (hy : X.N[i]? = some y) (hyl : X.env.scope.names.lookup y = some .local)
    (hsw : swapsWith (.ListComp elt [⟨tg, iter, ifs, 0⟩] scope pos) (some (.Name y py)) spos.line X.env = pure true) (hts : ∀ j ∈ t.slots, j ∈ own.map (·.2)) (hi : PI X tg iter (tW X.K ca k git)) (ok : BlkOk X.N X.env.scope scope own)
    (hg : ∀ (s : Shared) (H : Hp) (C : Addr) (cl : List (Str × Addr)) (fp : List Addr), PG (X.blk s H scope (compEnvC scope cl C X.env) fp) tg (gT X.K ca t)) (ht : ∀ (s : Shared) (H : Hp) (C : Addr) (cl : List (Str × Addr)) (fp : List Addr), PTs (X.blk s H scope (compEnvC scope cl C X.env) fp) ifs (tC X.K ca fc))
    (he : ∀ (s : Shared) (H : Hp) (C : Addr) (cl : List (Str × Addr)) (fp : List Addr), PE (X.blk s H scope (compEnvC scope cl C X.env) fp) elt (tE X.K ca fe)) (hs : ∀ x, foldedSetIterable iter X.env x = pure x)
    (hS : ∀ D σ H, tS D σ H → tAsg (tE X.K ca (compR k t (own.map (·.2)) git fc fe)) (gName i) D σ H) : PS X (.Assign [.Name y py] (.ListComp elt [⟨tg, iter, ifs, 0⟩] scope pos) spos) tS :=
  ⟨fun pins s σ H D I h => (ps_setLc hc hN hy hyl hsw hi ok hg ht he hs).run pins s σ H D I (comp_ready hts (hS D σ H h))⟩
abbrev turnD (t : Tg) (ws : List Nat) (fk fv : Sl → R T) : D → Sl → R (Option (Key × D)) := fun d r => match bindT t d (wipeS ws r) with
        | some r1 => (fk r1).bind fun a r2 => (fv r2).bind fun b r3 => R.opt ((keyOf a.d).map fun x => some (x, b.d)) r3
        | none => .bad
abbrev dcompR (k : ItK) (t : Tg) (vs : List Nat) (git : Sl → R (List D)) (fk fv : Sl → R T) : Sl → R T := fun ρ => (git ρ).bind fun ds ρ1 => match walkD k ds with
      | some xs => if freeS vs ρ1 then (noX (compL (turnD t vs fk fv) xs (wipeS vs ρ1))).bind fun ys ρ2 => if szOk xs.length then .ok (Mi.own (.dK (putAll ys))) (backS vs ρ1 ρ2) else .bad
        else .bad
      | none => .bad
theorem putAll_snoc (acc : List (Key × D)) (x : Key) (d : D) : putAll (acc ++ [(x, d)]) = put (putAll acc) x d := by
  unfold putAll
  rw [List.foldl_append]
  rfl
theorem putAll_len (acc : List (Key × D)) : (putAll acc).length ≤ acc.length := by
  have key : ∀ (l : List (Key × D)) (b : List (Key × D)), (l.foldl (fun acc p => put acc p.1 p.2) b).length ≤ b.length + l.length := by
    intro l
    induction l with
    | nil => intro b; exact Nat.le_refl _
    | cons p l ih =>
      intro b
      have h1 := ih (put b p.1 p.2)
      have h2 := put_len b p.1 p.2
      show (l.foldl _ (put b p.1 p.2)).length ≤ _
      rw [List.length_cons]
      omega
  have := key acc []
  rw [List.length_nil] at this
  unfold putAll
  omega
theorem wipeS_idem {ρ1 : Sl} : wipeS vs (wipeS vs ρ1) = wipeS vs ρ1 := by
  apply List.ext_getElem?
  intro j
  by_cases hj : j ∈ vs
  · have key : ∀ (ws : List Nat) (r : Sl), j ∈ ws → (wipeS ws r)[j]? = if j < r.length then some none else none := by
      intro ws
      induction ws with
      | nil => intro r hj; cases hj
      | cons a ws ih =>
        intro r hj
        show ((wipeS ws r).set a none)[j]? = _
        by_cases ha : a = j
        · subst ha
          by_cases hl : a < r.length
          · rw [List.getElem?_set_self (by rw [wipeS_len]; exact hl), if_pos hl]
          · rw [List.getElem?_eq_none (by rw [List.length_set, wipeS_len]; omega), if_neg hl]
        · rw [List.getElem?_set_ne ha]
          exact ih r ((List.mem_cons.mp hj).resolve_left (Ne.symm ha))
    rw [key vs _ hj, key vs _ hj, wipeS_len]
  · rw [wipeS_out vs j hj]
theorem dcomp_ready {σ : L2.St} {H : Hp} {Q : VK} (hts : ∀ j ∈ t.slots, j ∈ vs) (h : tE X.K ca (dcompR k t vs git fk fv) σ H Q) : tDc (tW X.K ca k git) (gT X.K ca t) (tC X.K ca fun ρ => .ok true ρ) (tE X.K ca fk) (tE X.K ca fv) vs σ H Q := by
  obtain ⟨F, ρ, fr, st, q⟩ := h
  refine ⟨F, ρ, fr, st, (Post.bind q).mono fun ds ρ1 q1 => ?_⟩
  split at q1
  · rename_i xs hx
    split at q1
    · rename_i hfree
      refine ⟨xs, hx, fun J H1 F1 e1 s1 w => fun Dl hD => ?_⟩
      have q1 := noX_post (Post.bind q1)
      have sz : szOk xs.length = true ∨ ¬ szOk xs.length = true := by cases szOk xs.length <;> simp
      rcases sz with hz | hz
      · simp only [hz, if_true] at q1
        let Pv : Nat → Hp → Prop := fun i H2 => ∃ F2 ρ2 acc, Ex F1 F2 ∧ S X.K ca F2 H2 (L2.wipe σ vs) (wipeS vs ρ2) ((.ref Dl, Mi.own (.dK (putAll acc))) :: fr) ∧ acc.length ≤ i ∧ i ≤ xs.length ∧
          Post (compL (turnD t vs fk fv) (xs.drop i) ρ2) fun ys ρ3 => ∀ v H' F', Ex F F' → S X.K ca F' H' σ (backS vs ρ1 ρ3) ((v, Mi.own (.dK (putAll (acc ++ ys)))) :: fr) → Q v H'
        have wk : Walk J xs.length (fun H => Ex F1 H) (fun i H x H' => YOk X.K ca F1 xs i H x H') := w
        refine ⟨fun i m H => m = xs.length - i ∧ i ≤ xs.length ∧ Pv i H, ⟨xs.length, by simp, Nat.zero_le _, ?_⟩, ?_⟩
        · have s2 := (s1.wipe vs).alloc (u := .dK []) (d := .dK []) hD rfl
          exact ⟨F1, wipeS vs ρ1, [], Ex.refl F1, by rw [wipeS_idem]; exact s2, Nat.le_refl _, Nat.zero_le _, by rw [List.drop_zero]; exact q1⟩
        · rintro i m H2 ⟨rfl, hi0, F2, ρ2, acc, e2, s2, hacc, _, q2⟩
          by_cases hi : i < xs.length
          · refine .inr ⟨wk.goes i H2 hi (exT e2 s2.ex), Pv (i + 1), fun H' p' => ⟨xs.length - (i + 1), by omega, rfl, hi, p'⟩, fun x H3 y => ?_⟩
            obtain ⟨d, F3, hd, e3, s3, rd⟩ := ((wk.yields i H2 x H3 hi (exT e2 s2.ex) y).mono e2).s s2
            rw [List.drop_eq_getElem_cons hi] at q2
            have hd' : xs[i] = d := by rw [List.getElem?_eq_getElem hi] at hd; exact Option.some.inj hd
            rw [hd'] at q2
            simp only [compL] at q2
            have q2 := Post.bind q2
            unfold turnD at q2
            cases hb : bindT t d (wipeS vs ρ2) with
            | none => rw [hb] at q2; exact q2.elim
            | some r1 =>
              rw [hb] at q2
              refine ⟨F3, _, _, d, r1, s3, rd, hb, fun σ2 s4 hl hs => ?_⟩
              have hw : L2.wipe σ2 vs = L2.wipe σ vs := by
                rw [← wipe_wipe (σ := σ)]
                exact wipe_same hl fun j hj => hs j fun hj2 => hj (hts j hj2)
              refine ⟨hw, F3, r1, _, s4, ?_⟩
              intro H4 F4 e4 s5
              simp only [if_true]
              refine ⟨F4, r1, _, s5, (Post.bind q2).mono fun ka r2 q3 kv H5 F5 e5 s6 => ?_⟩
              obtain ⟨F6, e6, s7, rk⟩ := s6.share
              refine ⟨F6, r2, _, s7, (Post.bind q3).mono fun tv r3 q4 v H7 F7 e7 s8 => ?_⟩
              obtain ⟨F8, e8, s9, rv⟩ := s8.share
              obtain ⟨o, ho, q5⟩ := Post.opt q4
              simp only [Option.map_eq_some_iff] at ho
              obtain ⟨key, hk, rfl⟩ := ho
              have s10 := s9.wipe vs
              rw [hw] at s10
              obtain ⟨a, u, hDl, h1, h2, h3⟩ := s10.top
              cases hDl
              cases u <;> first | exact h3.elim | skip
              rename_i accV
              have h3 : RepKs X.K ca F8 (putAll acc) accV := h3
              have ev : kv = kV key := key_v hk rk
              have hz2 := putAll_len acc
              have s11 : S X.K ca F8 (upd H7 Dl (.dK (putK accV key v))) (L2.wipe σ vs) (wipeS vs r3) ((.ref Dl, Mi.own (.dK (putAll (acc ++ [(key, tv.d)])))) :: fr) := by
                rw [putAll_snoc]
                exact s10.unhead (s10.head.write (d' := .dK (put (putAll acc) key tv.d)) (u := .dK (putK accV key v)) (h3.put rv))
              refine ⟨accV, key, ev, h2, ?_, F8, r3, acc ++ [(key, tv.d)], ?_, s11, ?_, hi, ?_⟩
              · rw [h3.length]; exact Nat.lt_of_le_of_lt (Nat.le_trans hz2 hacc) (Nat.lt_of_lt_of_le hi (sz_ok hz))
              · exact exT e2 (exT e3 (exT e4 (exT e5 (exT e6 (exT e7 e8)))))
              · rw [List.length_append]; simpa using hacc
              · refine (Post.bind q5).mono fun ys r4 q6 v' H' F' eF s' => ?_
                refine q6 v' H' F' eF ?_
                rw [show acc ++ (key, tv.d) :: ys = acc ++ [(key, tv.d)] ++ ys by simp]
                exact s'
          · have e : i = xs.length := by omega
            subst e
            refine .inl ⟨wk.stops H2 (exT e2 s2.ex), ?_⟩
            rw [List.drop_length] at q2
            have q2 : ∀ v H' F', Ex F F' → S X.K ca F' H' σ (backS vs ρ1 ρ2) ((v, Mi.own (.dK (putAll (acc ++ [])))) :: fr) → Q v H' := q2
            rw [List.append_nil] at q2
            exact q2 _ _ _ (exT e1 e2) (s1.unwipe e2 hfree s2)
      · simp only [hz, if_false] at q1
        exfalso
        revert q1
        cases compL (turnD t vs fk fv) xs (wipeS vs ρ1) <;> exact fun q => q.elim
    · exact q1.elim
  · exact q1.elim
theorem e_dcomp {kx vx : Expr} (hc : X.calm = true) (hN : X.N.Nodup) (hts : ∀ j ∈ t.slots, j ∈ own.map (·.2)) (hi : PI X tg iter (tW X.K ca k git)) (ok : BlkOk X.N X.env.scope scope own)
    (hg : ∀ (s : Shared) (H : Hp) (C : Addr) (cl : List (Str × Addr)) (fp : List Addr), PG (X.blk s H scope (compEnvC scope cl C X.env) fp) tg (gT X.K ca t))
    (hk : ∀ (s : Shared) (H : Hp) (C : Addr) (cl : List (Str × Addr)) (fp : List Addr), PE (X.blk s H scope (compEnvC scope cl C X.env) fp) kx (tE X.K ca fk))
    (hv : ∀ (s : Shared) (H : Hp) (C : Addr) (cl : List (Str × Addr)) (fp : List Addr), PE (X.blk s H scope (compEnvC scope cl C X.env) fp) vx (tE X.K ca fv)) (hs : ∀ x, foldedSetIterable iter X.env x = pure x) :
    PE X (.DictComp kx vx [⟨tg, iter, [], 0⟩] scope pos) (tE X.K ca (dcompR k t (own.map (·.2)) git fk fv)) :=
  ⟨fun pins s σ H Q I h => (pe_dc hc hN hi ok hg (fun s H C cl fp => c_none) hk hv hs).run pins s σ H Q I (dcomp_ready hts h)⟩
/-! dict displays -/
theorem e_dict0 (b : Bool) : PE X (.Dict [] [] pos) (tE X.K ca fun ρ => ((fun ρ => .ok [] ρ : Sl → R (List D)) ρ).bind fun ds ρ1 => R.opt ((evKeys b ds).map Mi.own) ρ1) := by
  cases b with
  | false =>
    refine ⟨fun pins s σ H Q I h => pe_dnewK.run pins s σ H Q I fun p hp => ?_⟩
    obtain ⟨F, ρ, fr, st, q⟩ := h
    have q : Fin X.K ca F H σ ρ fr Q (Mi.own (.dK [])) := q
    exact q.new st hp (d := .dK []) (u := .dK []) rfl
  | true =>
    refine ⟨fun pins s σ H Q I h => pe_dnewT.run pins s σ H Q I fun p hp => ?_⟩
    obtain ⟨F, ρ, fr, st, q⟩ := h
    have q : Fin X.K ca F H σ ρ fr Q (Mi.own (.dT [])) := q
    exact q.new st hp (d := .dT []) (u := .dT []) rfl
theorem e_dict1 {a c : Expr} {fa fc : Sl → R T} (ha : PE X a (tE X.K ca fa)) (hc : PE X c (tE X.K ca fc)) : PE X (.Dict [some a] [c] pos) (tE X.K ca fun ρ => (((fun ρ => (fa ρ).bind fun t ρ1 => ((fc ρ1).bind fun u ρ2 => .ok [u.d] ρ2).bind fun ys ρ2 => .ok (t.d :: ys) ρ2) : Sl → R (List D)) ρ).bind fun ds ρ1 => R.opt ((evKeys false ds).map Mi.own) ρ1) := by
  refine ⟨fun pins s σ H Q I h => (pe_disp (pps_cons ha hc pps_nil) rfl rfl (by simp) (by simp)).run pins s σ H Q I fun p hp => ?_⟩
  obtain ⟨F, ρ, fr, st, q⟩ := h
  have s1 := st.alloc (u := .dK []) (d := .dK []) hp rfl
  have q := Post.bind (Post.bind q)
  refine ⟨F, ρ, _, s1, q.mono fun ta ρ1 q1 va H1 F1 e1 s2 => ?_⟩
  obtain ⟨F2, e2, s3, ra⟩ := s2.share
  have q1 := Post.bind (Post.bind q1)
  refine ⟨F2, ρ1, _, s3, q1.mono fun tc ρ2 q2 vc H3 F3 e3 s4 => ?_⟩
  obtain ⟨F4, e4, s5, rc⟩ := s4.share
  obtain ⟨t0, ht, q3⟩ := Post.opt q2
  simp only [Option.map_eq_some_iff] at ht
  obtain ⟨d0, hd, rfl⟩ := ht
  simp only [evKeys, List.length_cons, List.length_nil, pairsOf] at hd
  cases hk : keyOf ta.d with
  | none => rw [hk] at hd; simp at hd
  | some key =>
    rw [hk] at hd
    simp only [Nat.reduceAdd, Nat.reduceLeDiff, if_true, Option.map_some, Option.some.injEq] at hd
    subst hd
    obtain ⟨a', u, hDl, h1, h2, h3⟩ := s5.top
    cases hDl
    cases u <;> first | exact h3.elim | skip
    rename_i accV
    have h3 : RepKs X.K ca F4 [] accV := h3
    cases h3
    refine ⟨h2, [(key, vc)], ?_, by simp, ?_⟩
    · rw [key_v hk (RepD.mono (exT e3 e4) ra)]; rfl
    · refine q3 _ _ F4 (exT e1 (exT e2 (exT e3 e4))) ?_
      exact s5.unhead (s5.head.write (d' := .dK [(key, tc.d)]) (u := .dK [(key, vc)]) ⟨vc, [], rfl, rc, rfl⟩)
/-! methods that read -/
theorem dget_DGet {F H : Hp} {d k : D} {x y : V} {r : Option D} (e : dget d k = some r) (eF : Ex F H) (hx : RepB X.K ca F H d x) (hy : RepB X.K ca F H k y) : ∃ a o, x = .ref a ∧ DGet H a y o ∧ (∀ z w, RepD X.K ca F z w → RepD X.K ca F (r.getD z) (o.getD w)) := by
  obtain ⟨a, o, rfl, g, h⟩ := dget_v e eF hx hy
  refine ⟨a, o, rfl, g, fun z w hz => ?_⟩
  unfold GetRel at h
  cases r with
  | none => rw [show o = none from h]; exact hz
  | some d' => obtain ⟨v, rfl, hv⟩ := h; exact hv
end
end Mi

set_option Elab.async false
set_option linter.all false
set_option maxRecDepth 100000
set_option maxHeartbeats 1000000
/-! M2x: a comprehension over the keys of a dict of one's own. -/
namespace Mi
open PySem PySem.Spec PyProof.Rows L2
open Evl (Ex)
section
variable {K : PySem.W.Frag} {ca : Str → Addr} {F H : Hp} {d : Addr} {od : Obj} {us : List (Key × V)}
theorem rd_unl {u : HO} {a : Addr} (hd : F d = some (.frz od (.dK us))) (hu : ∀ o z, u ≠ .frz o z) (h : Rd F a u) : Rd (upd F d (.dK us)) a u := by
  by_cases ha : a = d
  · subst ha
    rcases h with h | ⟨o, h⟩
    · rw [hd] at h
      cases h
      exact absurd rfl (hu _ _)
    · rw [hd] at h
      cases h
      exact .inl upd_same
  · rcases h with h | ⟨o, h⟩
    · exact .inl (by rw [upd_ne ha]; exact h)
    · exact .inr ⟨o, by rw [upd_ne ha]; exact h⟩
theorem at_unl {u : HO} {a : Addr} (hd : F d = some (.frz od (.dK us))) (hu : ∀ o z, u ≠ .frz o z) (h : F a = some u) : upd F d (.dK us) a = some u := by
  have ha : a ≠ d := fun e => by
    subst e
    rw [hd] at h
    cases h
    exact absurd rfl (hu _ _)
  rw [upd_ne ha]
  exact h
theorem tpa_unl {n : Nat} {a : Addr} {vs : List V} (hd : F d = some (.frz od (.dK us))) (h : TpA K F n a vs) : TpA K (upd F d (.dK us)) n a vs := by
  rcases h with h | ⟨hn, h | h⟩
  · exact .inl (at_unl hd (by intro o z e; cases e) h)
  · exact .inr ⟨hn, .inl (rd_unl hd (by intro o z e; cases e) h)⟩
  · exact .inr ⟨hn, .inr h⟩
mutual
theorem RepD.unl (hd : F d = some (.frz od (.dK us))) : ∀ {x : D} {v : V}, RepD K ca F x v → RepD K ca (upd F d (.dK us)) x v
  | .non, _, h => h
  | .bl _, _, h => h
  | .int _, _, h => h
  | .str _, _, h => h
  | .lst _, _, ⟨a, vs, x, y, z⟩ => ⟨a, vs, x, rd_unl hd (by intro o z e; cases e) y, RepDs.unl hd z⟩
  | .tup _, _, ⟨a, vs, x, y, z⟩ => ⟨a, vs, x, tpa_unl hd y, RepDs.unl hd z⟩
  | .dK _, _, ⟨a, vs, x, y, z⟩ => ⟨a, vs, x, rd_unl hd (by intro o z e; cases e) y, RepKs.unl hd z⟩
  | .dT _, _, ⟨a, vs, x, y, z⟩ => ⟨a, vs, x, rd_unl hd (by intro o z e; cases e) y, RepTs.unl hd z⟩
  | .obj _ _, _, ⟨a, dx, vs, x, y, z⟩ => ⟨a, dx, vs, x, at_unl hd (by intro o z e; cases e) y, RepFs.unl hd z⟩
  | .cls _, _, h => h
  | .ty _, _, h => h
theorem RepDs.unl (hd : F d = some (.frz od (.dK us))) : ∀ {x : List D} {v : List V}, RepDs K ca F x v → RepDs K ca (upd F d (.dK us)) x v
  | [], _, h => h
  | _ :: _, _, ⟨v, r, x, y, z⟩ => ⟨v, r, x, RepD.unl hd y, RepDs.unl hd z⟩
theorem RepKs.unl (hd : F d = some (.frz od (.dK us))) : ∀ {x : List (Key × D)} {v : List (Key × V)}, RepKs K ca F x v → RepKs K ca (upd F d (.dK us)) x v
  | [], _, h => h
  | (_, _) :: _, _, ⟨v, r, x, y, z⟩ => ⟨v, r, x, RepD.unl hd y, RepKs.unl hd z⟩
theorem RepTs.unl (hd : F d = some (.frz od (.dK us))) : ∀ {x : List (List Key × D)} {v : List (List Key × V)}, RepTs K ca F x v → RepTs K ca (upd F d (.dK us)) x v
  | [], _, h => h
  | (_, _) :: _, _, ⟨v, r, x, y, z⟩ => ⟨v, r, x, RepD.unl hd y, RepTs.unl hd z⟩
theorem RepFs.unl (hd : F d = some (.frz od (.dK us))) : ∀ {x : List (Str × D)} {v : List (Str × V)}, RepFs K ca F x v → RepFs K ca (upd F d (.dK us)) x v
  | [], _, h => h
  | (_, _) :: _, _, ⟨v, r, x, y, z⟩ => ⟨v, r, x, RepD.unl hd y, RepFs.unl hd z⟩
end
theorem RepH.unl (hd : F d = some (.frz od (.dK us))) {x : D} {u : HO} (h : RepH K ca F x u) : RepH K ca (upd F d (.dK us)) x u := by
  cases x <;> cases u <;> first | exact h.elim | exact RepDs.unl hd h | exact RepKs.unl hd h | exact RepTs.unl hd h | exact ⟨h.1, RepFs.unl hd h.2⟩
theorem Ok.unl {rs : List (V × T)} (h : Ok K ca F H rs) (hd : F d = some (.frz od (.dK us))) : Ok K ca (upd F d (.dK us)) (upd H d (.dK us)) rs := by
  refine ⟨fun a o e => ?_, fun r hr => ?_, h.ap⟩
  · by_cases ha : a = d
    · subst ha
      rw [upd_same] at e ⊢
      exact e
    · rw [upd_ne ha] at e ⊢
      exact h.ex a o e
  · have := h.rep r hr
    obtain ⟨v, ow, x⟩ := r
    cases ow with
    | false => exact RepD.unl hd this
    | true =>
      obtain ⟨a, u, rfl, h1, h2, h3⟩ := this
      have ha : a ≠ d := fun e => by
        subst e
        rw [hd] at h1
        cases h1
      exact ⟨a, u, rfl, by rw [upd_ne ha]; exact h1, by rw [upd_ne ha]; exact h2, h3.unl hd⟩
theorem S.unl {σ : L2.St} {ρ : Sl} {fr : List (V × T)} (s : S K ca F H σ ρ fr) (hd : F d = some (.frz od (.dK us))) : S K ca (upd F d (.dK us)) (upd H d (.dK us)) σ ρ fr := s.of (s.ok.unl hd)
/-- an owned dict is locked, and shared -/
theorem Ok.lock {kvs : List (Key × D)} {rs : List (V × T)} (od : Obj) (h : Ok K ca F H ((.ref d, own (.dK kvs)) :: rs)) (hH : H d = some (.dK us)) : Ok K ca (upd F d (.frz od (.dK us))) (upd H d (.frz od (.dK us))) ((.ref d, sh (.dK kvs)) :: rs) := by
  obtain ⟨a, u, e, h1, h2, h3⟩ := h.rep _ (List.mem_cons_self ..)
  cases e
  rw [hH] at h2
  cases h2
  have h3 : RepKs K ca F kvs us := h3
  have eF : Ex F (upd F d (.frz od (.dK us))) := Evl.Ex.new h1
  refine ⟨fun b o e => ?_, fun r hr => ?_, List.pairwise_cons.mpr ⟨fun _ _ x => (by cases x), (List.pairwise_cons.mp h.ap).2⟩⟩
  · by_cases ha : b = d
    · subst ha
      rw [upd_same] at e ⊢
      exact e
    · rw [upd_ne ha] at e ⊢
      exact h.ex b o e
  · rcases List.mem_cons.mp hr with rfl | hr2
    · exact ⟨d, us, rfl, .inr ⟨od, upd_same⟩, h3.mono eF⟩
    · have ne : ∀ b, r.2.ow = true → r.1 = .ref b → b ≠ d := fun b ho e q => by
        subst q
        exact (List.pairwise_cons.mp h.ap).1 r hr2 rfl ho e.symm
      refine (h.rep r (List.mem_cons_of_mem _ hr2)).step eF (fun b ho e => ?_) fun b u' ho e e2 => ?_
      · obtain ⟨b', u', e2, g1, g2, _⟩ := ow_at (h.rep r (List.mem_cons_of_mem _ hr2)) ho
        rw [e] at e2
        cases e2
        rw [upd_ne (ne b ho e)]
        exact g1
      · rw [upd_ne (ne b ho e)]
        exact e2
theorem RepKs.get : ∀ {kvs : List (Key × D)} {vs : List (Key × V)} {i : Nat} {k : Key} {v : V}, RepKs K ca F kvs vs → vs[i]? = some (k, v) → ∃ x, kvs[i]? = some (k, x)
  | [], _, _, _, _, h, e => by cases h; simp at e
  | (g, x) :: kvs, _, 0, k, v, ⟨w, r, e, _, h2⟩, e1 => by
    subst e
    simp only [List.getElem?_cons_zero, Option.some.injEq, Prod.mk.injEq] at e1
    exact ⟨x, by rw [← e1.1]; rfl⟩
  | (g, x) :: kvs, _, i + 1, k, v, ⟨w, r, e, _, h2⟩, e1 => by
    subst e
    rw [List.getElem?_cons_succ] at e1 ⊢
    exact RepKs.get h2 e1
theorem wk_keys {kvs : List (Key × D)} (hd : F d = some (.frz od (.dK us))) (r : RepKs K ca F kvs us) : WOk K ca F (kvs.map fun p => dkey p.1) (Itk d od us) := by
  have w := (walk_keys (d := d) (o := od) (kvs := us)).mono (G' := fun H => Ex F H) (Y' := fun i H x H' => YOk K ca F (kvs.map fun p => dkey p.1) i H x H') (fun H e => e _ _ hd) (fun i H x H' hi e y => by
    obtain ⟨e1, k, v, e2, rfl⟩ := y
    obtain ⟨z, ez⟩ := r.get e2
    refine ⟨dkey k, by simp [ez], .inl ⟨e1, ?_⟩⟩
    cases k <;> rfl)
  have hl : (kvs.map fun p => dkey p.1).length = us.length := by rw [List.length_map, r.length]
  unfold WOk
  rw [hl]
  exact w
end
section
variable {X : Cx} {ca : Str → Addr} {tg iter elt : Expr} {ifs : List Expr} {pos p : Pos} {t : Tg} {vs : List Nat} {fc : Sl → R Bool} {fe : Sl → R T} {scope : Scope} {own' : List (Str × Nat)}
abbrev takR (t : Tg) (vs : List Nat) (fc : Sl → R Bool) (fe : Sl → R T) (x : Nat) : Sl → R T := fun ρ => (keysTake x ρ).bind fun xs ρ1 => if freeS vs ρ1 then (noX (compL (turnF t vs fc fe) xs (wipeS vs ρ1))).bind fun ys ρ2 => if szOk xs.length then .ok (Mi.own (.lst ys)) (backS vs ρ1 ρ2) else .bad
        else .bad
theorem comp_readyW {wi : TI} {σ : L2.St} {H : Hp} {Q : VK} {F : Hp} {ρ1 : Sl} {fr : List (V × T)} {xs : List D} (hts : ∀ j ∈ t.slots, j ∈ vs)
    (hw : ∀ R : It → Hp → Prop, (∀ J H1 F1, Ex F F1 → S X.K ca F1 H1 σ ρ1 fr → WOk X.K ca F1 xs J → R J H1) → wi σ H R)
    (q1 : Post (if freeS vs ρ1 then (noX (compL (turnF t vs fc fe) xs (wipeS vs ρ1))).bind fun ys ρ2 => if szOk xs.length then .ok (Mi.own (.lst ys)) (backS vs ρ1 ρ2) else .bad else .bad) fun t ρ' => Fin X.K ca F H σ ρ' fr Q t) :
    tLc wi (gT X.K ca t) (tC X.K ca fc) (tE X.K ca fe) vs σ H Q := by
  split at q1
  · rename_i hfree
    refine hw _ fun J H1 F1 e1 s1 w => fun Dl hD => ?_
    have q1 := noX_post (Post.bind q1)
    have sz : szOk xs.length = true ∨ ¬ szOk xs.length = true := by cases szOk xs.length <;> simp
    rcases sz with hz | hz
    · simp only [hz, if_true] at q1
      let Pv : Nat → Hp → Prop := fun i H2 => ∃ F2 ρ2 acc, Ex F1 F2 ∧ S X.K ca F2 H2 (L2.wipe σ vs) (wipeS vs ρ2) ((.ref Dl, Mi.own (.lst acc)) :: fr) ∧ acc.length ≤ i ∧ i ≤ xs.length ∧
        Post (compL (turnF t vs fc fe) (xs.drop i) ρ2) fun ys ρ3 => ∀ v H' F', Ex F F' → S X.K ca F' H' σ (backS vs ρ1 ρ3) ((v, Mi.own (.lst (acc ++ ys))) :: fr) → Q v H'
      have wk : Walk J xs.length (fun H => Ex F1 H) (fun i H x H' => YOk X.K ca F1 xs i H x H') := w
      refine lc_it wk Pv ?_ ?_ ?_ ?_
      · have s2 := (s1.wipe vs).alloc (u := .lst []) (d := .lst []) hD rfl
        have ww : wipeS vs (wipeS vs ρ1) = wipeS vs ρ1 := by
          apply List.ext_getElem?
          intro j
          by_cases hj : j ∈ vs
          · have key : ∀ (ws : List Nat) (r : Sl), j ∈ ws → (wipeS ws r)[j]? = if j < r.length then some none else none := by
              intro ws
              induction ws with
              | nil => intro r hj; cases hj
              | cons a ws ih =>
                intro r hj
                show ((wipeS ws r).set a none)[j]? = _
                by_cases ha : a = j
                · subst ha
                  by_cases hl : a < r.length
                  · rw [List.getElem?_set_self (by rw [wipeS_len]; exact hl), if_pos hl]
                  · rw [List.getElem?_eq_none (by rw [List.length_set, wipeS_len]; omega), if_neg hl]
                · rw [List.getElem?_set_ne ha]
                  exact ih r ((List.mem_cons.mp hj).resolve_left (Ne.symm ha))
            rw [key vs _ hj, key vs _ hj, wipeS_len]
          · rw [wipeS_out vs j hj]
        exact ⟨F1, wipeS vs ρ1, [], Ex.refl F1, by rw [ww]; exact s2, Nat.le_refl _, Nat.zero_le _, by rw [List.drop_zero]; exact q1⟩
      · rintro i H2 _ ⟨F2, ρ2, acc, e2, s2, _⟩
        exact exT e2 s2.ex
      · rintro i x H2 H3 hi ⟨F2, ρ2, acc, e2, s2, hacc, _, q2⟩ y
        obtain ⟨d, F3, hd, e3, s3, rd⟩ := (y.mono e2).s s2
        rw [List.drop_eq_getElem_cons hi] at q2
        have hd' : xs[i] = d := by rw [List.getElem?_eq_getElem hi] at hd; exact Option.some.inj hd
        rw [hd'] at q2
        simp only [compL] at q2
        have q2 := Post.bind q2
        unfold turnF at q2
        cases hb : bindT t d (wipeS vs ρ2) with
        | none => rw [hb] at q2; exact q2.elim
        | some r1 =>
          rw [hb] at q2
          refine ⟨F3, _, _, d, r1, s3, rd, hb, fun σ2 s4 hl hs => ?_⟩
          have hw : L2.wipe σ2 vs = L2.wipe σ vs := by
            rw [← wipe_wipe (σ := σ)]
            exact wipe_same hl fun j hj => hs j fun hj2 => hj (hts j hj2)
          refine ⟨hw, F3, r1, _, s4, (Post.bind q2).mono fun b r2 q3 H4 F4 e4 s5 => ?_⟩
          cases b with
          | true =>
            simp only [if_true] at q3 ⊢
            refine ⟨F4, r2, _, s5, (Post.bind q3).mono fun tv r3 q4 v H5 F5 e5 s6 => ?_⟩
            obtain ⟨F6, e6, s7, rv⟩ := s6.share
            have s8 := s7.wipe vs
            rw [hw] at s8
            obtain ⟨a, u, hDl, h1, h2, h3⟩ := s8.top
            cases hDl
            cases u <;> first | exact h3.elim | skip
            rename_i accV
            have h3 : RepDs X.K ca F6 acc accV := h3
            have s9 : S X.K ca F6 (upd H5 Dl (.lst (accV ++ [v]))) (L2.wipe σ vs) (wipeS vs r3) ((.ref Dl, Mi.own (.lst (acc ++ [tv.d]))) :: fr) :=
              s8.unhead (s8.head.write (d' := .lst (acc ++ [tv.d])) (u := .lst (accV ++ [v])) (h3.append (RepDs.one rv)))
            refine ⟨accV, h2, ?_, F6, r3, acc ++ [tv.d], ?_, s9, ?_, hi, ?_⟩
            · rw [h3.length]; exact Nat.lt_of_le_of_lt hacc (Nat.lt_of_lt_of_le hi (sz_ok hz))
            · exact exT e2 (exT e3 (exT e4 (exT e5 e6)))
            · rw [List.length_append]; simpa using hacc
            · refine (Post.bind q4).mono fun ys r4 q5 v' H' F' eF s' => ?_
              refine q5 v' H' F' eF ?_
              rw [show acc ++ tv.d :: ys = acc ++ [tv.d] ++ ys by simp]
              exact s'
          | false =>
            simp only [Bool.false_eq_true, if_false] at q3 ⊢
            have s8 := s5.wipe vs
            rw [hw] at s8
            refine ⟨F4, r2, acc, exT e2 (exT e3 e4), s8, by omega, hi, ?_⟩
            exact (Post.bind q3).mono fun ys r4 q5 => q5
      · rintro H2 ⟨F2, ρ2, acc, e2, s2, _, _, q2⟩
        rw [List.drop_length] at q2
        have q2 : ∀ v H' F', Ex F F' → S X.K ca F' H' σ (backS vs ρ1 ρ2) ((v, Mi.own (.lst (acc ++ []))) :: fr) → Q v H' := q2
        rw [List.append_nil] at q2
        exact q2 _ _ _ (exT e1 e2) (s1.unwipe e2 hfree s2)
    · simp only [hz, if_false] at q1
      exfalso
      revert q1
      cases compL (turnF t vs fc fe) xs (wipeS vs ρ1) <;> exact fun q => q.elim
  · exact q1.elim
theorem comp_readyK {x : Nat} {σ : L2.St} {H : Hp} {Q : VK} (hts : ∀ j ∈ t.slots, j ∈ vs) (h : tE X.K ca (takR t vs fc fe x) σ H Q) : tLockE (tLc (iKeys (tVar x)) (gT X.K ca t) (tC X.K ca fc) (tE X.K ca fe) vs) σ H Q := by
  obtain ⟨F, ρ, fr, st, q⟩ := h
  have q := Post.bind q
  unfold keysTake at q
  split at q
  · rename_i kvs e
    obtain ⟨v, ev, rt⟩ := st.at e
    obtain ⟨d, u, rfl, h1, h2, h3⟩ := rt
    cases u <;> first | exact h3.elim | skip
    rename_i us
    have h3 : RepKs X.K ca F kvs us := h3
    refine ⟨d, .dK us, h2, trivial, fun od => ?_⟩
    have eF : Ex F (upd F d (.frz od (.dK us))) := Evl.Ex.new h1
    have so := st.out ev e
    have st1 : S X.K ca (upd F d (.frz od (.dK us))) (upd H d (.frz od (.dK us))) σ (ρ.set x none) ((.ref d, sh (.dK kvs)) :: fr) := so.unhead (so.head.lock od h2)
    have st2 : S X.K ca (upd F d (.frz od (.dK us))) (upd H d (.frz od (.dK us))) σ (ρ.set x (some (sh (.dK kvs)))) fr := st1.back ev
    refine comp_readyW (F := upd F d (.frz od (.dK us))) (ρ1 := ρ.set x (some (sh (.dK kvs)))) (fr := fr) (xs := kvs.map fun p => dkey p.1) hts ?_ ?_
    · intro R hR
      exact ⟨.ref d, ev, d, od, rfl, .inl ⟨us, upd_same, hR _ _ _ (Ex.refl _) st2 (wk_keys upd_same (h3.mono eF))⟩⟩
    · have q2 : Post (if freeS vs (ρ.set x (some (sh (.dK kvs)))) then (noX (compL (turnF t vs fc fe) (kvs.map fun p => dkey p.1) (wipeS vs (ρ.set x (some (sh (.dK kvs))))))).bind fun ys ρ2 => if szOk (kvs.map fun p => dkey p.1).length then .ok (Mi.own (.lst ys)) (backS vs (ρ.set x (some (sh (.dK kvs)))) ρ2) else .bad else .bad) fun t ρ' => Fin X.K ca F H σ ρ' fr Q t := q
      refine q2.mono fun t ρ' f v H' F' e1 s' => ?_
      have hd := e1 _ _ upd_same
      refine ⟨s'.ex _ _ hd, f v _ (upd F' d (.dK us)) (fun a o ea => ?_) (s'.unl hd)⟩
      have ha : a ≠ d := fun ed => by
        subst ed
        rw [h1] at ea
        cases ea
      rw [upd_ne ha]
      exact e1 _ _ (eF _ _ ea)
  · exact q.elim
theorem e_compK {x : Nat} (hc : X.calm = true) (hN : X.N.Nodup) (hts : ∀ j ∈ t.slots, j ∈ own'.map (·.2)) (hx : PE X iter (tVar x)) (ok : BlkOk X.N X.env.scope scope own')
    (hg : ∀ (s : Shared) (H : Hp) (C : Addr) (cl : List (Str × Addr)) (fp : List Addr), PG (X.blk s H scope (compEnvC scope cl C X.env) fp) tg (gT X.K ca t)) (ht : ∀ (s : Shared) (H : Hp) (C : Addr) (cl : List (Str × Addr)) (fp : List Addr), PTs (X.blk s H scope (compEnvC scope cl C X.env) fp) ifs (tC X.K ca fc))
    (he : ∀ (s : Shared) (H : Hp) (C : Addr) (cl : List (Str × Addr)) (fp : List Addr), PE (X.blk s H scope (compEnvC scope cl C X.env) fp) elt (tE X.K ca fe)) (hs : ∀ x, foldedSetIterable iter X.env x = pure x) :
    PE X (.ListComp elt [⟨tg, iter, ifs, 0⟩] scope pos) (tE X.K ca (takR t (own'.map (·.2)) fc fe x)) :=
  ⟨fun pins s σ H Q I h => (pe_lock (pe_lc hc hN (pi_keys hx) ok hg ht he hs)).run pins s σ H Q I (comp_readyK hts h)⟩
end
end Mi

set_option Elab.async false
set_option linter.all false
set_option maxRecDepth 100000
set_option maxHeartbeats 1000000
/-! M2l: methods, statements. -/
namespace Mi
open PySem PySem.Spec PyProof.Rows L2
open Evl (Ex)
section
variable {X : Cx} {ca : Str → Addr} {a b e o : Expr} {es : List Expr} {pos p apos : Pos} {fo : Sl → R Opd} {go : Sl → R (List Opd)} {g : Sl → R (List D)}
theorem dict_isD {F H : Hp} {d : D} {v : V} {m : Bm} (hk : m = .get1 ∨ m = .get2) (h : bmKind m d = true) (r : RepB X.K ca F H d v) : ∃ a, v = .ref a ∧ IsD H a := by
  rcases hk with rfl | rfl <;> cases d <;> first | (cases h; done) | skip
  all_goals (obtain ⟨a, us, e, h1, _⟩ := r; first | exact ⟨a, e, .inl ⟨us, h1⟩⟩ | exact ⟨a, e, .inr ⟨us, h1⟩⟩)
abbrev bmR (m : Bm) (fo : Sl → R Opd) (go : Sl → R (List Opd)) : Sl → R T := fun ρ => (fo ρ).bind fun x ρ1 => if ((drf x ρ1).map (bmKind m)).getD false then (go ρ1).bind fun os ρ2 => (match drf x ρ2, drfs os ρ2, bmOs m os with
    | some d, some ds, true => R.opt (bmD m d ds) ρ2
    | _, _, _ => .bad) else .bad
theorem kind_some {m : Bm} {x : Opd} {ρ : Sl} (h : ((drf x ρ).map (bmKind m)).getD false = true) : ∃ d, drf x ρ = some d ∧ bmKind m d = true := by
  cases e : drf x ρ with
  | none => rw [e] at h; cases h
  | some d => rw [e] at h; exact ⟨d, rfl, h⟩
abbrev oneR (f : Sl → R Opd) : Sl → R (List Opd) := fun ρ => (f ρ).bind fun x ρ1 => ((fun ρ => .ok [] ρ : Sl → R (List Opd)) ρ1).bind fun ys ρ2 => .ok (x :: ys) ρ2
abbrev twoR (f h : Sl → R Opd) : Sl → R (List Opd) := fun ρ => (f ρ).bind fun x ρ1 => (oneR h ρ1).bind fun ys ρ2 => .ok (x :: ys) ρ2
/-- d.get(k) -/
theorem e_get1 {fk : Sl → R Opd} (hu : X.A.units + 1 < cLine) (m : M1 X o "get" apos a pos) (ho : PE X o (tO X.K ca fo)) (ha : PE X a (tO X.K ca fk)) : PE X (.Call (.Attribute o "get" apos) [a] [] pos) (tE X.K ca (bmR .get1 fo (oneR fk))) := by
  refine ⟨fun pins s σ H Q I h => (pe_dget1 hu ho ha m).run pins s σ H Q I ?_⟩
  obtain ⟨F, ρ, fr, st, q⟩ := h
  refine ⟨F, ρ, fr, st, (Post.bind q).mono fun x ρ1 q1 v H1 F1 e1 s1 hv => ?_⟩
  split at q1
  · rename_i hk
    obtain ⟨d, hd, hk⟩ := kind_some hk
    obtain ⟨a0, rfl, isd⟩ := dict_isD (.inl rfl) hk (drf_one s1 hv hd)
    refine ⟨a0, rfl, isd, F1, ρ1, _, s1, (Post.bind (Post.bind q1)).mono fun y ρ2 q2 u H2 F2 e2 s2 hu2 => ?_⟩
    have q2 : Post (match drf x ρ2, drfs [y] ρ2, bmOs .get1 [y] with
      | some d, some ds, true => R.opt (bmD .get1 d ds) ρ2
      | _, _, _ => .bad) _ := q2
    split at q2
    · rename_i d2 ds hd2 hds _
      simp only [drfs] at hds
      split at hds
      · rename_i k _ hk2 hn
        cases hn
        cases hds
        obtain ⟨t, e, q3⟩ := Post.opt q2
        simp only [bmD, Option.map_eq_some_iff] at e
        obtain ⟨r, hr, rfl⟩ := e
        obtain ⟨r1, r2⟩ := drf_two s2 hv hu2 hd2 hk2
        obtain ⟨a1, oo, ea, hg, hq⟩ := dget_DGet hr s2.ex r1 r2
        cases ea
        exact ⟨oo, hg, q3 _ _ _ (exT e1 e2) (s2.dropL.dropL.push (hq .non .non rfl))⟩
      · cases hds
    · exact q2.elim
  · exact q1.elim
/-- d.get(k, z) -/
theorem e_get2 {fk fz : Sl → R Opd} (hu : X.A.units + 1 < cLine) (m : M2 X o "get" apos a b pos) (ho : PE X o (tO X.K ca fo)) (ha : PE X a (tO X.K ca fk)) (hb : PE X b (tO X.K ca fz)) : PE X (.Call (.Attribute o "get" apos) [a, b] [] pos) (tE X.K ca (bmR .get2 fo (twoR fk fz))) := by
  refine ⟨fun pins s σ H Q I h => (pe_dget2 hu ho ha hb m).run pins s σ H Q I ?_⟩
  obtain ⟨F, ρ, fr, st, q⟩ := h
  refine ⟨F, ρ, fr, st, (Post.bind q).mono fun x ρ1 q1 v H1 F1 e1 s1 hv => ?_⟩
  split at q1
  · rename_i hk
    obtain ⟨d, hd, hk⟩ := kind_some hk
    obtain ⟨a0, rfl, isd⟩ := dict_isD (.inr rfl) hk (drf_one s1 hv hd)
    refine ⟨a0, rfl, isd, F1, ρ1, _, s1, (Post.bind (Post.bind q1)).mono fun y ρ2 q2 u H2 F2 e2 s2 hu2 => ?_⟩
    have q2 := Post.bind (Post.bind q2)
    refine ⟨F2, ρ2, _, s2, q2.mono fun z ρ3 q3 w H3 F3 e3 s3 hw => ?_⟩
    have q3 : Post (match drf x ρ3, drfs [y, z] ρ3, bmOs .get2 [y, z] with
      | some d, some ds, true => R.opt (bmD .get2 d ds) ρ3
      | _, _, _ => .bad) _ := q3
    split at q3
    · rename_i d2 ds hd2 hds hbo
      cases z with
      | slot i => cases hbo
      | tmp t =>
      simp only [drfs] at hds
      cases hk2 : drf y ρ3 with
      | none => rw [hk2] at hds; simp at hds
      | some kk =>
          rw [hk2] at hds
          simp only [drf, Option.some.injEq] at hds
          subst hds
          obtain ⟨t', e, q4⟩ := Post.opt q3
          simp only [bmD, Option.map_eq_some_iff] at e
          obtain ⟨r, hr, rfl⟩ := e
          have r1 : RepB X.K ca F3 H3 d2 (.ref a0) := drf_rep s3 (fun t h => by subst h; simp [tm]) hv hd2
          have r2 : RepB X.K ca F3 H3 kk u := drf_rep s3 (fun t h => by subst h; simp [tm]) hu2 hk2
          obtain ⟨a1, oo, ea, hg, hq⟩ := dget_v hr s3.ex r1 r2
          cases ea
          refine ⟨oo, hg, ?_⟩
          have s4 : S X.K ca F3 H3 σ ρ3 ((w, t) :: (tm [y] [u] ++ (tm [x] [.ref a0] ++ fr))) := by simpa [tm] using s3
          obtain ⟨F4, e4, s5, r5⟩ := s4.share
          refine q4 _ _ F4 (exT e1 (exT e2 (exT e3 e4))) (s5.dropL.dropL.push ?_)
          unfold GetRel at hq
          cases r with
          | none => rw [show oo = none from hq]; exact r5
          | some d' => obtain ⟨v', rfl, hv'⟩ := hq; exact RepD.mono e4 hv'
    · exact q3.elim
  · exact q1.elim
end
end Mi

set_option Elab.async false
set_option linter.all false
set_option maxRecDepth 100000
set_option maxHeartbeats 1000000
/-! M2m: methods that change, statements. -/
namespace Mi
open PySem PySem.Spec PyProof.Rows L2
open Evl (Ex)
section
variable {X : Cx} {ca : Str → Addr} {a b e o : Expr} {es : List Expr} {pos p apos : Pos} {fo : Sl → R Opd} {go : Sl → R (List Opd)} {g : Sl → R (List D)} {f : Sl → R T}
/-- the list behind, by values -/
def rMt (K : PySem.W.Frag) (ca : Str → Addr) (m : Mt) : V → List V → Hp → VK → Prop := fun x vs H Q => ∃ l xs F dxs ds ys r, x = .ref l ∧ H l = some (.lst xs) ∧ F l = none ∧ Ex F H ∧ RepDs K ca F dxs xs ∧ RepDs K ca F ds vs ∧ mtD m dxs ds = some (ys, r) ∧
  ∀ us v, RepDs K ca F ys us → RepD K ca F r v → Q v (upd H l (.lst us))
def mtId : Mt → String
  | .append => "list.append"
  | .extend => "list.extend"
  | .insert => "list.insert"
  | .popAt => "list.pop"
theorem RepDs.erase {K : PySem.W.Frag} {F : Hp} : ∀ {ds : List D} {vs : List V} (i : Nat), RepDs K ca F ds vs → RepDs K ca F (ds.eraseIdx i) (vs.eraseIdx i)
  | [], _, _, h => by cases h; simp [RepDs]
  | _ :: _, _, 0, ⟨v, r, x, y, z⟩ => by rw [x]; exact z
  | _ :: _, _, i + 1, ⟨v, r, x, y, z⟩ => by rw [x]; exact ⟨v, _, rfl, y, RepDs.erase i z⟩
theorem mt_D (m : Mt) : MtR X (mtId m) (rMt X.K ca m) := by
  intro pins s σ H x vs v us Q I rx rv h
  obtain ⟨l, xs, F, dxs, ds, ys, r, rfl, hH, hF, eF, h1, h2, h3, q⟩ := h
  cases m with
  | append =>
    unfold mtD at h3
    split at h3 <;> first | (cases h3; done) | skip
    all_goals first | (rename_i hm _; cases hm; done) | (rename_i hm; cases hm; done) | skip
    split at h3
    · rename_i hz
      cases h3
      obtain ⟨y, rr, rfl, h4, h5⟩ := h2
      cases h5
      exact mt_append pins s σ H _ _ v us Q I rx rv ⟨l, xs, y, rfl, rfl, hH, by rw [h1.length]; exact sz_lt' hz, q _ _ (h1.append (RepDs.one h4)) rfl⟩
    · cases h3
  | insert =>
    unfold mtD at h3
    split at h3 <;> first | (cases h3; done) | skip
    all_goals first | (rename_i hm _; cases hm; done) | (rename_i hm; cases hm; done) | skip
    split at h3
    · rename_i i _ hz
      simp only [Bool.and_eq_true, decide_eq_true_eq] at hz
      obtain ⟨⟨z1, z2⟩, z3⟩ := hz
      have z3 := sz_lt' (n := dxs.length) (by simpa using z3)
      cases h3
      obtain ⟨y, rr, rfl, h4, y2, rr2, rfl, h5, h6⟩ := h2
      cases h4; cases h6
      exact mt_insert pins s σ H _ _ v us Q I rx rv ⟨l, xs, _, y2, rfl, rfl, hH, by rw [h1.length]; exact z3, z1, by omega, q _ _ (((h1.take _).append (RepDs.one h5)).append (h1.drop _)) rfl⟩
    · cases h3
  | popAt =>
    unfold mtD at h3
    split at h3 <;> first | (cases h3; done) | skip
    all_goals first | (rename_i hm _; cases hm; done) | (rename_i hm; cases hm; done) | skip
    split at h3
    · rename_i i _ hz
      simp only [Bool.and_eq_true, decide_eq_true_eq] at hz
      obtain ⟨⟨z1, z2⟩, z3⟩ := hz
      have z3 := sz_ok (n := dxs.length) (by simpa using z3)
      simp only [Option.map_eq_some_iff] at h3
      obtain ⟨y, hy, e⟩ := h3
      cases e
      obtain ⟨y0, rr, rfl, h4, h5⟩ := h2
      cases h4; cases h5
      obtain ⟨w, hw, rw'⟩ := h1.get hy
      refine mt_popAt pins s σ H _ _ v us Q I rx rv ⟨l, xs, i, i.toNat, w, rfl, rfl, hH, ?_, ?_, ?_, hw, q _ _ (h1.erase _) rw'⟩
      · omega
      · have := line63; omega
      · exact seqIndex_of z1 (by rw [h1.length]; omega)
    · cases h3
  | extend =>
    unfold mtD at h3
    split at h3 <;> first | (cases h3; done) | skip
    all_goals first | (rename_i hm _; cases hm; done) | (rename_i hm; cases hm; done) | skip
    rename_i ys
    split at h3
    · rename_i hz
      cases h3
      obtain ⟨y, rr, rfl, ⟨b, bs, rfl, hb, h4⟩, h5⟩ := h2
      cases h5
      cases rx
      obtain ⟨u, rfl, ru⟩ := rv.one
      cases ru
      obtain ⟨z, its, n, r, hl, e⟩ := I.lstM hH
      obtain ⟨z2, its2, n2, r2, hl2, e2⟩ := lstR I (by
        rcases hb with hb | ⟨o, hb⟩
        · exact .inl (eF _ _ hb)
        · exact .inr ⟨o, eF _ _ hb⟩ : Rd H b (.lst bs))
      have hz' := sz_ok hz
      have hl1 := h1.length
      have hl3 := h4.length
      have hsz : its.toArray.size + its2.toArray.size ≤ sizeLine := by rw [List.size_toArray, List.size_toArray]; omega
      have hlong : ¬ (!its.toArray.isEmpty && Builtin.List.listTooLong (its.toArray.size + its2.toArray.size)) = true := by
        rw [notLongL hsz, Bool.and_false]
        exact Bool.false_ne_true
      refine call_meets PySem.F.slot_list_extend ⟨_, e, rfl⟩ PySem.F.entry_list_extend (PySem.F.args_list_extend_2 _ _)
        (AutoSeq1.list_extend_list_list_0 l its.toArray n b its2.toArray n2 hlong (by rw [List.size_toArray]; omega) (by omega)) ⟨e, e2, ?_⟩
      · refine ⟨.non, _, I.lset (its' := its ++ its2) hH e (by simp) (r.append r2) ?_, rfl, q _ _ (h1.append h4) rfl⟩
        rw [List.length_append]
        omega
    · cases h3
end
end Mi

set_option Elab.async false
set_option linter.all false
set_option maxRecDepth 100000
set_option maxHeartbeats 1000000
/-! M2n: statements. -/
namespace Mi
open PySem PySem.Spec PyProof.Rows L2
open Evl (Ex)
section
variable (K : PySem.W.Frag) (ca : Str → Addr)
/-- what is wanted behind a flow -/
def flW (F' H' : Hp) (σ' : L2.St) (ρ' : Sl) (fr : List (V × T)) (D : Ends) : Fl → Prop
  | .next => S K ca F' H' σ' ρ' fr → D.nx σ' H'
  | .brk => S K ca F' H' σ' ρ' fr → D.bk σ' H'
  | .cont => S K ca F' H' σ' ρ' fr → D.ct σ' H'
  | .ret t => ∀ v, S K ca F' H' σ' ρ' ((v, t) :: fr) → D.rt v H'
/-- a statement's reading; io: slot 0 keeps its value -/
def tS (io : Bool) (f : Sl → R Fl) : TS := fun D σ H => ∃ F ρ fr, S K ca F H σ ρ fr ∧ Post (f ρ) fun fl ρ' => ∀ σ' H' F', Ex F F' → (io = true → σ'[0]? = σ[0]?) → flW K ca F' H' σ' ρ' fr D fl
end
section
variable {X : Cx} {ca : Str → Addr} {a b e o : Expr} {es : List Expr} {pos p apos : Pos} {fo : Sl → R Opd} {go : Sl → R (List Opd)} {g : Sl → R (List D)} {f : Sl → R T} {io : Bool} {fs fr' : Sl → R Fl} {st : Stmt} {sts : List Stmt}
abbrev mtR (m : Mt) (x : Nat) (g : Sl → R (List D)) : Sl → R T := fun ρ => if ownL ρ x then (g ρ).bind fun ds ρ1 => (match ρ1[x]? with
    | some (some ⟨true, .lst xs⟩) => (match mtD m xs ds with
      | some (ys, r) => .ok (sh r) (ρ1.set x (some (own (.lst ys))))
      | none => .bad)
    | _ => .bad) else .bad
/-- x.m(..), x a list of its own -/
theorem e_mt {m : Mt} {x : Nat} {nm : Str} (slot : Slot "list" nm (mtId m)) (hty : typeOf (.builtin (mtId m)) = pure (.type "method_descriptor")) (ho : PE X o (tVar x)) (ha : PA X (e :: es) (tEs X.K ca g))
    (hbase : attributeBase o nm X.env (eval o X.env) = eval o X.env)
    (hfew : ((backTo pos (starEach (e :: es) X.env)).all (fun x => !x.1) && (backToKw pos (keywordEach [] X.env)).all (fun x => x.1.isSome)
      && decide ((e :: es).length + ([] : List Keyword).length + (if ([] : List Keyword).isEmpty then 0 else 1) < 30)) = true)
    (hline : (apos.endLine == pos.line) = true) (hs : starEach (e :: es) X.env = (false, eval e X.env) :: starEach es X.env) (hplain : (backTo pos (starEach es X.env)).any (·.1) = false) :
    PE X (.Call (.Attribute o nm apos) (e :: es) [] pos) (tE X.K ca (mtR m x g)) := by
  refine ⟨fun pins s σ H Q I h => (pe_bm PySem.F.plainAttrs_list slot hty (mt_D (ca := ca) m) ho ha hbase hfew hline hs hplain).run pins s σ H Q I ?_⟩
  obtain ⟨F, ρ, fr, st, q⟩ := h
  unfold mtR at q
  split at q
  · rename_i hown
    unfold ownL at hown
    split at hown
    · rename_i xs0 hx0
      obtain ⟨v, hv, r⟩ := st.at hx0
      obtain ⟨l, u, rfl, h1, h2, h3⟩ := r
      cases u <;> first | exact h3.elim | skip
      rename_i xsV
      refine ⟨_, hv, .inl ⟨rfl, xsV, .inl (.inl h2)⟩, F, ρ, fr, st, (Post.bind q).mono fun ds ρ1 q1 vs H1 F1 e1 s1 rd => ?_⟩
      split at q1
      · rename_i xs hx
        split at q1
        · rename_i ys r hm
          obtain ⟨v2, hv2, r2⟩ := s1.at hx
          rw [hv] at hv2
          cases hv2
          obtain ⟨l', u, e', h4, h5, h6⟩ := r2
          cases e'
          cases u <;> first | exact h6.elim | skip
          rename_i xsV1
          refine ⟨l, xsV1, F1, xs, ds, ys, r, rfl, h5, h4, s1.ex, h6, rd, hm, fun us w hus hw => ?_⟩
          have s2 := s1.out hv hx
          have s3 : S X.K ca F1 (upd H1 l (.lst us)) σ (ρ1.set x none) ((.ref l, own (.lst ys)) :: fr) := s2.unhead (s2.head.write (d' := .lst ys) (u := .lst us) hus)
          exact q1 _ _ _ e1 ((s3.back hv).push hw)
        · exact q1.elim
      · exact q1.elim
    · cases hown
  · exact q.elim
/-! ### blocks -/
theorem x_nil : PSs X [] (tS X.K ca io fun ρ => .ok .next ρ) := by
  refine ⟨fun pins s σ H D I h => pss_nil.run pins s σ H D I ?_⟩
  obtain ⟨F, ρ, fr, st, q⟩ := h
  exact q σ H F (Ex.refl F) (fun _ => rfl) st
abbrev seqR (fs fr : Sl → R Fl) : Sl → R Fl := fun ρ => (fs ρ).bind fun f ρ1 => match f with
    | .next => fr ρ1
    | .ret t => .ok (.ret t) ρ1
    | .brk => .ok .brk ρ1
    | .cont => .ok .cont ρ1
theorem x_cons (h1 : PS X st (tS X.K ca io fs)) (h2 : PSs X sts (tS X.K ca io fr')) : PSs X (st :: sts) (tS X.K ca io (seqR fs fr')) := by
  refine ⟨fun pins s σ H D I h => (pss_cons h1 h2).run pins s σ H D I ?_⟩
  obtain ⟨F, ρ, fr, st, q⟩ := h
  refine ⟨F, ρ, fr, st, (Post.bind q).mono fun fl ρ1 q1 σ1 H1 F1 e1 hio => ?_⟩
  cases fl with
  | next =>
    intro s1
    exact ⟨F1, ρ1, fr, s1, q1.mono fun fl2 ρ2 q2 σ2 H2 F2 e2 hio2 => q2 σ2 H2 F2 (exT e1 e2) fun h => (hio2 h).trans (hio h)⟩
  | ret t => exact q1 σ1 H1 F1 e1 hio
  | brk => exact q1 σ1 H1 F1 e1 hio
  | cont => exact q1 σ1 H1 F1 e1 hio
theorem x_pass : PS X (.Pass pos) (tS X.K ca io fun ρ => .ok .next ρ) := by
  refine ⟨fun pins s σ H D I h => ps_pass.run pins s σ H D I ?_⟩
  obtain ⟨F, ρ, fr, st, q⟩ := h
  exact q σ H F (Ex.refl F) (fun _ => rfl) st
theorem x_brk : PS X (.Break pos) (tS X.K ca io fun ρ => .ok .brk ρ) := by
  refine ⟨fun pins s σ H D I h => ps_break.run pins s σ H D I ?_⟩
  obtain ⟨F, ρ, fr, st, q⟩ := h
  exact q σ H F (Ex.refl F) (fun _ => rfl) st
theorem x_cont : PS X (.Continue pos) (tS X.K ca io fun ρ => .ok .cont ρ) := by
  refine ⟨fun pins s σ H D I h => ps_continue.run pins s σ H D I ?_⟩
  obtain ⟨F, ρ, fr, st, q⟩ := h
  exact q σ H F (Ex.refl F) (fun _ => rfl) st
theorem x_retN : PS X (.Return none pos) (tS X.K ca io fun ρ => .ok (.ret (sh .non)) ρ) := by
  refine ⟨fun pins s σ H D I h => ps_retN.run pins s σ H D I ?_⟩
  obtain ⟨F, ρ, fr, st, q⟩ := h
  exact q σ H F (Ex.refl F) (fun _ => rfl) _ (st.push rfl)
/-- what never ends well -/
theorem x_never (h : ∀ ρ, (fs ρ = .bad ∨ ∃ x ρ', fs ρ = .exc x ρ')) : PS X st (tS X.K ca io fs) := by
  refine ⟨fun pins s σ H D I hq => ?_⟩
  obtain ⟨F, ρ, fr, st, q⟩ := hq
  rcases h ρ with h | ⟨x, ρ', h⟩
  · rw [h] at q; exact q.elim
  · rw [h] at q; exact q.elim
theorem x_ret (h : PE X e (tE X.K ca f)) : PS X (.Return (some e) pos) (tS X.K ca io fun ρ => (f ρ).bind fun t ρ1 => .ok (.ret t) ρ1) := by
  refine ⟨fun pins s σ H D I hq => (ps_ret h).run pins s σ H D I ?_⟩
  obtain ⟨F, ρ, fr, st, q⟩ := hq
  exact ⟨F, ρ, fr, st, (Post.bind q).mono fun t ρ1 q1 v H1 F1 e1 s1 => q1 σ H1 F1 e1 (fun _ => rfl) v s1⟩
theorem x_retVar {i : Nat} (h : PE X e (tVar i)) : PS X (.Return (some e) pos) (tS X.K ca io fun ρ => (evRet (.var i) ρ).bind fun t ρ1 => .ok (.ret t) ρ1) := by
  refine ⟨fun pins s σ H D I hq => (ps_ret h).run pins s σ H D I ?_⟩
  obtain ⟨F, ρ, fr, st, q⟩ := hq
  have q := Post.bind q
  simp only [evRet] at q
  split at q
  · rename_i t ht
    obtain ⟨v, hv, r⟩ := st.at ht
    exact ⟨v, hv, q σ H F (Ex.refl F) (fun _ => rfl) v (st.out hv ht)⟩
  · exact q.elim
theorem x_expr (h : PE X e (tE X.K ca f)) (hs : swapsWith e none pos.line X.env = pure false) : PS X (.Expr e pos) (tS X.K ca io fun ρ => (f ρ).bind fun _ ρ1 => .ok .next ρ1) := by
  refine ⟨fun pins s σ H D I hq => (ps_expr h hs).run pins s σ H D I ?_⟩
  obtain ⟨F, ρ, fr, st, q⟩ := hq
  exact ⟨F, ρ, fr, st, (Post.bind q).mono fun t ρ1 q1 v H1 F1 e1 s1 => q1 σ H1 F1 e1 (fun _ => rfl) s1.drop⟩
theorem set0 {σ : L2.St} {i : Nat} {v : V} (hi : (io && i == 0) = false) : io = true → (σ.set i (some v))[0]? = σ[0]? := by
  intro h
  rw [h, Bool.true_and] at hi
  rw [List.getElem?_set_ne (by intro e; subst e; simp at hi)]
theorem asg_ready {i : Nat} {D : Ends} {σ : L2.St} {H : Hp} (hi : (io && i == 0) = false) (h : tS X.K ca io (fun ρ => (f ρ).bind fun t ρ1 => .ok .next (ρ1.set i (some t))) D σ H) : tAsg (tE X.K ca f) (gName i) D σ H := by
  obtain ⟨F, ρ, fr, st, q⟩ := h
  exact ⟨F, ρ, fr, st, (Post.bind q).mono fun t ρ1 q1 v H1 F1 e1 s1 => q1 (σ.set i (some v)) H1 F1 e1 (set0 hi) (s1.put' i)⟩
theorem x_set {i : Nat} {x : Str} {pos' : Pos} (hN : X.N.Nodup) (hx : X.N[i]? = some x) (hl : Loc X.env.scope x) (hf : X.fn x = true ∨ X.env.scope.names.lookup x = some .local) (hi : (io && i == 0) = false) (h : PE X e (tE X.K ca f))
    (hs : swapsWith e (some (.Name x pos')) pos.line X.env = pure false) : PS X (.Assign [.Name x pos'] e pos) (tS X.K ca io fun ρ => (f ρ).bind fun t ρ1 => .ok .next (ρ1.set i (some t))) :=
  ⟨fun pins s σ H D I hq => (ps_set hN hx hl h hs hf).run pins s σ H D I (asg_ready hi hq)⟩
/-- (a, b, ..) = a tuple -/
theorem x_tupset {is : List Nat} {ts : List Expr} {k : Nat} {tp : Pos} (hg : PG X (.Tuple ts k tp) (gT X.K ca (.many is))) (hi : (io && is.contains 0) = false) (h : PE X e (tE X.K ca f)) (hs : swapsWithSole [.Tuple ts k tp] e pos.line X.env = pure false) (hw : swappedStores [.Tuple ts k tp] e X.env = pure none)
    (h1 : (assignEach [.Tuple ts k tp] X.env).map (·.2) = [assign (.Tuple ts k tp) X.env]) : PS X (.Assign [.Tuple ts k tp] e pos) (tS X.K ca io fun ρ => (f ρ).bind fun t ρ1 => match bindT (.many is) t.d ρ1 with
    | some ρ2 => .ok .next ρ2
    | none => .bad) := by
  refine ⟨fun pins s σ H D I hq => (ps_asg h hg hs hw h1).run pins s σ H D I ?_⟩
  obtain ⟨F, ρ, fr, st, q⟩ := hq
  refine ⟨F, ρ, fr, st, (Post.bind q).mono fun t ρ1 q1 v H1 F1 e1 s1 => ?_⟩
  obtain ⟨F2, e2, s2, r⟩ := s1.share
  split at q1
  · rename_i ρ2 hb
    refine ⟨F2, ρ1, fr, t.d, ρ2, s2, r, hb, fun σ' s3 hl ho => q1 σ' H1 F2 (exT e1 e2) (fun hio => ?_) s3⟩
    rw [hio, Bool.true_and] at hi
    exact ho 0 (by simpa [Tg.slots] using hi)
  · exact q1.elim
/-! several at once -/
def tTs (K : PySem.W.Frag) (ca : Str → Addr) (f : Sl → R (List T)) : TA := fun σ H Q => ∃ F ρ fr, S K ca F H σ ρ fr ∧ Post (f ρ) fun ts ρ' => ∀ vs H' F', Ex F F' → S K ca F' H' σ ρ' ((vs.zip ts).reverse ++ fr) → vs.length = ts.length → Q vs H'
theorem ts_nil : PA X [] (tTs X.K ca fun ρ => .ok [] ρ) := by
  refine ⟨fun pos pins s σ H Q I h => pa_nil.run pos pins s σ H Q I ?_⟩
  obtain ⟨F, ρ, fr, st, q⟩ := h
  exact q [] H F (Ex.refl F) st rfl
theorem ts_cons {gt : Sl → R (List T)} (ha : PE X e (tE X.K ca f)) (hr : PA X es (tTs X.K ca gt)) (hs : starEach (e :: es) X.env = (false, eval e X.env) :: starEach es X.env) : PA X (e :: es) (tTs X.K ca fun ρ => (f ρ).bind fun t ρ1 => (gt ρ1).bind fun ts ρ2 => .ok (t :: ts) ρ2) := by
  refine ⟨fun pos pins s σ H Q I h => (pa_cons ha hr hs).run pos pins s σ H Q I ?_⟩
  obtain ⟨F, ρ, fr, st, q⟩ := h
  refine ⟨F, ρ, fr, st, (Post.bind q).mono fun t ρ1 q1 v H1 F1 e1 s1 => ?_⟩
  refine ⟨F1, ρ1, _, s1, (Post.bind q1).mono fun ys ρ2 q2 vs H3 F3 e3 s3 h3 => ?_⟩
  refine q2 (v :: vs) _ _ (exT e1 e3) ?_ (by simp [h3])
  simpa using s3
theorem S.perm {K : PySem.W.Frag} {F H : Hp} {σ : L2.St} {ρ : Sl} {fr gr : List (V × T)} (s : S K ca F H σ ρ fr) (h : fr.Perm gr) : S K ca F H σ ρ gr := s.of (s.ok.perm (List.Perm.append_left _ h))
theorem S.putsT {K : PySem.W.Frag} {F H : Hp} {fr : List (V × T)} : ∀ {is : List Nat} {vs : List V} {ts : List T} {σ : L2.St} {ρ : Sl}, S K ca F H σ ρ (vs.zip ts ++ fr) → vs.length = ts.length → S K ca F H (setsV is vs σ) (setAll is ts ρ) fr
  | [], vs, ts, σ, ρ, s, _ => s.dropL
  | i :: is, [], [], σ, ρ, s, _ => s
  | i :: is, v :: vs, t :: ts, σ, ρ, s, hl => by
    have s' : S K ca F H σ ρ ((v, t) :: (vs.zip ts ++ fr)) := s
    have h := S.putsT (is := is) (s'.put' i) (by simpa using hl)
    exact h
theorem sets0 {is : List Nat} {vs : List V} {σ : L2.St} (hi : (io && is.contains 0) = false) : io = true → (setsV is vs σ)[0]? = σ[0]? := by
  intro h
  rw [h, Bool.true_and] at hi
  exact setsV_out (by simpa using hi)
theorem len2 {α : Type} : ∀ {l : List α}, l.length = 2 → ∃ a b, l = [a, b]
  | [a, b], _ => ⟨a, b, rfl⟩
theorem len3 {α : Type} : ∀ {l : List α}, l.length = 3 → ∃ a b c, l = [a, b, c]
  | [a, b, c], _ => ⟨a, b, c, rfl⟩
abbrev parR (is : List Nat) (gt : Sl → R (List T)) : Sl → R Fl := fun ρ => (gt ρ).bind fun ts ρ1 => if is.length == ts.length then .ok .next (setAll is ts ρ1) else .bad
theorem x_par2 {gt : Sl → R (List T)} {i j : Nat} {x y : Str} {px py pt : Pos} {kt k2 : Nat} {pt2 : Pos} (hc : X.calm = true) (hN : X.N.Nodup) (hi : X.N[i]? = some x) (hj : X.N[j]? = some y) (hij : i ≠ j)
    (hx : X.env.scope.names.lookup x = some .local) (hy : X.env.scope.names.lookup y = some .local) (ha : PA X [a, b] (tTs X.K ca gt)) (h0 : (io && [i, j].contains 0) = false)
    (hw : swappedStores [.Tuple [.Name x px, .Name y py] kt pt] (.Tuple [a, b] k2 pt2) X.env = pure (some [x, y])) :
    PS X (.Assign [.Tuple [.Name x px, .Name y py] kt pt] (.Tuple [a, b] k2 pt2) pos) (tS X.K ca io (parR [i, j] gt)) := by
  refine ⟨fun pins s σ H D I hq => (ps_par hc hN hi hj hij hx hy ha hw).run pins s σ H D I ?_⟩
  obtain ⟨F, ρ, fr, st, q⟩ := hq
  refine ⟨F, ρ, fr, st, (Post.bind q).mono fun ts ρ1 q1 vs H1 F1 e1 s1 hl => ?_⟩
  split at q1
  · rename_i hn
    have hn : 2 = ts.length := by simpa using hn
    obtain ⟨v, w, rfl⟩ := len2 (hl.trans hn.symm)
    obtain ⟨t, u, rfl⟩ := len2 hn.symm
    · refine ⟨v, w, rfl, ?_⟩
      have s2 := (s1.perm (List.Perm.append_right fr (List.reverse_perm _))).putsT (is := [i, j]) hl
      exact q1 _ H1 F1 e1 (sets0 (vs := [v, w]) h0) s2
  · exact q1.elim
theorem x_par3 {gt : Sl → R (List T)} {i j l : Nat} {x y z : Str} {c : Expr} {px py pz pt : Pos} {kt k2 : Nat} {pt2 : Pos} (hc : X.calm = true) (hN : X.N.Nodup) (hi : X.N[i]? = some x) (hj : X.N[j]? = some y) (hk : X.N[l]? = some z) (hij : i ≠ j) (hil : i ≠ l) (hjl : j ≠ l)
    (hx : X.env.scope.names.lookup x = some .local) (hy : X.env.scope.names.lookup y = some .local) (hz : X.env.scope.names.lookup z = some .local) (ha : PA X [a, b, c] (tTs X.K ca gt)) (h0 : (io && [i, j, l].contains 0) = false)
    (hw : swappedStores [.Tuple [.Name x px, .Name y py, .Name z pz] kt pt] (.Tuple [a, b, c] k2 pt2) X.env = pure (some [x, y, z])) :
    PS X (.Assign [.Tuple [.Name x px, .Name y py, .Name z pz] kt pt] (.Tuple [a, b, c] k2 pt2) pos) (tS X.K ca io (parR [i, j, l] gt)) := by
  refine ⟨fun pins s σ H D I hq => (ps_par3 hc hN hi hj hk hij hil hjl hx hy hz ha hw).run pins s σ H D I ?_⟩
  obtain ⟨F, ρ, fr, st, q⟩ := hq
  refine ⟨F, ρ, fr, st, (Post.bind q).mono fun ts ρ1 q1 vs H1 F1 e1 s1 hl => ?_⟩
  split at q1
  · rename_i hn
    have hn : 3 = ts.length := by simpa using hn
    obtain ⟨v, w, w2, rfl⟩ := len3 (hl.trans hn.symm)
    obtain ⟨t, u, u2, rfl⟩ := len3 hn.symm
    · refine ⟨v, w, w2, rfl, ?_⟩
      have s2 := (s1.perm (List.Perm.append_right fr (List.reverse_perm _))).putsT (is := [i, j, l]) hl
      exact q1 _ H1 F1 e1 (sets0 (vs := [v, w, w2]) h0) s2
  · exact q1.elim
/-- by a tuple that is made and taken apart -/
theorem x_parT {gt : Sl → R (List T)} {is : List Nat} {ts' : List Expr} {k k2 : Nat} {tp pt2 : Pos} (hc : X.calm = true) (hgs : PGs X ts' (gMany is)) (hn : (assignEach ts' X.env).length = is.length) (hst : (assignEach ts' X.env).findIdx? (·.1) = none) (ha : PA X es (tTs X.K ca gt)) (h0 : (io && is.contains 0) = false)
    (hsz : is.length ≤ 1000) (hs : swapsWithSole [.Tuple ts' k tp] (.Tuple es k2 pt2) pos.line X.env = pure false) (hw : swappedStores [.Tuple ts' k tp] (.Tuple es k2 pt2) X.env = pure none)
    (h1 : (assignEach [.Tuple ts' k tp] X.env).map (·.2) = [assign (.Tuple ts' k tp) X.env]) : PS X (.Assign [.Tuple ts' k tp] (.Tuple es k2 pt2) pos) (tS X.K ca io (parR is gt)) := by
  refine ⟨fun pins s σ H D I hq => (ps_asg (pe_tup ha) (pg_tup hc hgs hn hst) hs hw h1).run pins s σ H D I ?_⟩
  obtain ⟨F, ρ, fr, st, q⟩ := hq
  refine ⟨F, ρ, fr, st, (Post.bind q).mono fun ts ρ1 q1 vs H1 F1 e1 s1 hl => ?_⟩
  split at q1
  · rename_i hn
    have hn : is.length = ts.length := by simpa using hn
    refine ⟨by rw [hl, ← hn]; exact Nat.le_trans hsz (by decide), fun p hp => ⟨p, vs, rfl, .inl (.inl (upd_same)), by omega, by omega, ?_⟩⟩
    have sg : S X.K ca F1 (upd H1 p (.tup vs)) σ ρ1 ((vs.zip ts).reverse ++ fr) := s1.of (s1.ok.grow hp)
    have s2 := (sg.perm (List.Perm.append_right fr (List.reverse_perm _))).putsT (is := is) hl
    exact q1 _ _ F1 e1 (sets0 h0) s2
  · exact q1.elim
/-! stores into what stands -/
theorem x_setIx {x : Nat} {c : Expr} {fk fv : Sl → R T} {tp : Pos} (hu : X.A.units + 1 < cLine) (ho : PE X o (tVar x)) (hk : PE X c (tE X.K ca fk)) (hv : PE X e (tE X.K ca fv))
    (hs : swapsWithSole [.Subscript o c tp] e pos.line X.env = pure false) (hw : swappedStores [.Subscript o c tp] e X.env = pure none) (h1 : (assignEach [.Subscript o c tp] X.env).map (·.2) = [assign (.Subscript o c tp) X.env])
    (ha : ∀ v, assign (.Subscript o c tp) X.env v = (do
      let ov ← holding [v] (eval o X.env)
      let iv ← holding [v, ov] (eval c X.env)
      standAt tp
      holding [v, ov, iv] (setItem ov iv v)
      release [v, ov, iv] [])) :
    PS X (.Assign [.Subscript o c tp] e pos) (tS X.K ca io fun ρ => (fv ρ).bind fun v ρ1 => if someAt ρ1 x then (fk ρ1).bind fun i ρ2 => (match ρ2[x]? with
    | some (some t) => (match setIxT t i.d v.d with
      | some t' => .ok Fl.next (ρ2.set x (some t'))
      | none => .bad)
    | _ => .bad) else .bad) := by
  have hS : PSet X (fun o i v H Q => rSetL o i v H Q ∨ rSetD o i v H Q) := fun pins s σ H o i v ov iv u Q I ro ri rv h => h.elim (set_list pins s σ H o i v ov iv u Q I ro ri rv) (set_dict hu pins s σ H o i v ov iv u Q I ro ri rv)
  refine ⟨fun pins s σ H D I hq => (ps_asg hv (pg_sub ho hk hS ha) hs hw h1).run pins s σ H D I ?_⟩
  obtain ⟨F, ρ, fr, st, q⟩ := hq
  refine ⟨F, ρ, fr, st, (Post.bind q).mono fun tv ρ1 q1 v H1 F1 e1 s1 => ?_⟩
  obtain ⟨F2, e2, s2, rv⟩ := s1.share
  split at q1
  rotate_left
  · exact q1.elim
  rename_i hsome
  have q1 := Post.bind q1
  have key : ∃ vx, σ[x]? = some (some vx) := by
    unfold someAt at hsome
    split at hsome
    · rename_i t0 ht0
      exact s2.df x t0 ht0
    · cases hsome
  obtain ⟨vx, hvx⟩ := key
  refine ⟨vx, hvx, F2, ρ1, fr, s2, q1.mono fun ti ρ2 q2 i H2 F3 e3 s3 => ?_⟩
  obtain ⟨F4, e4, s4, ri⟩ := s3.share
  split at q2
  · rename_i t ht
    split at q2
    · rename_i t' hset
      obtain ⟨v2, hv2, r2⟩ := s4.at ht
      rw [hvx] at hv2
      cases hv2
      have so := s4.out hvx ht
      have rv4 := RepD.mono (exT e3 e4) rv
      have fin : ∀ (a0 : Addr) (u : HO) (d' : Mi.D), vx = .ref a0 → t.ow = true → t' = own d' → RepH X.K ca F4 d' u → D.nx σ (upd H2 a0 u) := fun a0 u d' ea how et hu' => by
        subst ea et
        obtain ⟨ow, d0⟩ := t
        cases how
        have s5 : S X.K ca F4 (upd H2 a0 u) σ (ρ2.set x none) ((.ref a0, own d') :: fr) := so.unhead (so.head.write hu')
        exact q2 σ _ F4 (exT e1 (exT e2 (exT e3 e4))) (fun _ => rfl) (s5.back hvx)
      unfold setIxT at hset
      split at hset
      · rename_i xs n hi
        simp only [Option.map_eq_some_iff] at hset
        obtain ⟨j, hj, rfl⟩ := hset
        obtain ⟨a0, u, rfl, h5, h6, h7⟩ := r2
        cases u <;> first | exact h7.elim | skip
        rename_i xsV
        have h7 : RepDs X.K ca F4 xs xsV := h7
        rw [hi] at ri
        have ri : i = .int n := ri
        exact .inl ⟨a0, xsV, n, j, rfl, ri, h6, by rw [h7.length]; exact hj, fin a0 _ _ rfl rfl rfl (h7.set j rv4)⟩
      · rename_i kvs
        split at hset
        · rename_i hz
          simp only [Option.map_eq_some_iff] at hset
          obtain ⟨key, hkey, rfl⟩ := hset
          obtain ⟨a0, u, rfl, h5, h6, h7⟩ := r2
          cases u <;> first | exact h7.elim | skip
          rename_i kvV
          have h7 : RepKs X.K ca F4 kvs kvV := h7
          exact .inr ⟨a0, _, rfl, .inl ⟨kvV, key, h6, key_v hkey ri, by rw [h7.length]; exact sz_lt' hz, rfl⟩, fin a0 _ _ rfl rfl rfl (h7.put rv4)⟩
        · cases hset
      · rename_i kvs ks hik
        split at hset
        · rename_i hz
          simp only [Bool.and_eq_true, decide_eq_true_eq] at hz
          simp only [Option.map_eq_some_iff] at hset
          obtain ⟨key, hkey, rfl⟩ := hset
          obtain ⟨a0, u, rfl, h5, h6, h7⟩ := r2
          cases u <;> first | exact h7.elim | skip
          rename_i kvV
          have h7 : RepTs X.K ca F4 kvs kvV := h7
          rw [hik] at ri
          obtain ⟨b0, bs, rfl, hb, hbs⟩ := ri
          have hb' : F4 b0 = some (.tup bs) := hb.elim id fun hn => absurd hz.2 hn.1
          have hk' := keys_v hkey hbs
          subst hk'
          exact .inr ⟨a0, _, rfl, .inr ⟨kvV, key, b0, h6, rfl, s4.ex _ _ hb', by rw [h7.length]; exact sz_lt' (by simpa using hz.1), rfl⟩, fin a0 _ _ rfl rfl rfl (h7.put rv4)⟩
        · cases hset
      · cases hset
    · exact q2.elim
  · exact q2.elim
end
end Mi

set_option Elab.async false
set_option linter.all false
set_option maxRecDepth 100000
set_option maxHeartbeats 1000000
/-! M2o: fields stored, branches, loops. -/
namespace Mi
open PySem PySem.Spec PyProof.Rows L2
open Evl (Ex)
section
variable {X : Cx} {ca : Str → Addr} {a b e o iter tg : Expr} {es : List Expr} {pos p apos : Pos} {f fc : Sl → R T} {io : Bool} {fa fb : Sl → R Fl} {body orelse : List Stmt}
theorem RepFs.put {K : PySem.W.Frag} {F : Hp} {n : Str} {d : D} {v : V} (hd : RepD K ca F d v) : ∀ {fs : List (Str × D)} {us : List (Str × V)}, RepFs K ca F fs us → RepFs K ca F (putFD n d fs) (putF n v us)
  | [], _, h => by cases h; exact ⟨v, [], rfl, hd, rfl⟩
  | (g, x) :: fs, _, ⟨w, r, e, h1, h2⟩ => by
    subst e
    unfold putFD putF
    by_cases hg : g = n
    · rw [if_pos hg, if_pos hg]; exact ⟨v, r, rfl, hd, h2⟩
    · rw [if_neg hg, if_neg hg]; exact ⟨w, _, rfl, h1, RepFs.put hd h2⟩
theorem RepFs.length {K : PySem.W.Frag} {F : Hp} : ∀ {fs : List (Str × D)} {us : List (Str × V)}, RepFs K ca F fs us → us.length = fs.length
  | [], _, h => by cases h; rfl
  | (_, _) :: fs, _, ⟨w, r, e, h1, h2⟩ => by subst e; rw [List.length_cons, List.length_cons, RepFs.length h2]
abbrev setFldR (x : Nat) (n : Str) (cs : List Str) (f : Sl → R T) : Sl → R Fl := fun ρ => (f ρ).bind fun v ρ1 => match ρ1[x]? with
    | some (some t) => (match setFldT cs t n v.d with
      | some t' => .ok .next (ρ1.set x (some t'))
      | none => .bad)
    | _ => .bad
theorem x_setFld {x : Nat} {n : Str} {cs : List Str} (hc : ∀ c ∈ cs, Cls X.K (ca c) ∧ NoAttr X.K (ca c) n) (ho : PE X o (tVar x)) (hv : PE X e (tE X.K ca f)) (hs : swapsWith e (some (.Attribute o n apos)) pos.line X.env = pure false) :
    PS X (.Assign [.Attribute o n apos] e pos) (tS X.K ca io (setFldR x n cs f)) := by
  refine ⟨fun pins s σ H D I hq => (ps_fld ho hv hs).run pins s σ H D I ?_⟩
  obtain ⟨F, ρ, fr, st, q⟩ := hq
  refine ⟨F, ρ, fr, st, (Post.bind q).mono fun tv ρ1 q1 v H1 F1 e1 s1 => ?_⟩
  obtain ⟨F2, e2, s2, rv⟩ := s1.share
  split at q1
  · rename_i t ht
    split at q1
    · rename_i t' hset
      obtain ⟨v0, hv0, r0⟩ := s2.at ht
      refine ⟨v0, hv0, ?_⟩
      unfold setFldT at hset
      split at hset
      · rename_i c fs
        split at hset
        · rename_i hz
          cases hset
          simp only [Bool.and_eq_true, decide_eq_true_eq] at hz
          obtain ⟨a0, u, rfl, h5, h6, h7⟩ := r0
          cases u <;> first | exact h7.elim | skip
          rename_i C dx us
          obtain ⟨hC, h7⟩ := h7
          subst hC
          obtain ⟨g1, g2⟩ := hc c (by simpa using hz.2)
          refine ⟨a0, ca c, dx, us, rfl, h6, g1, g2, by rw [h7.length]; exact hz.1, ?_⟩
          have so := s2.out hv0 ht
          have s5 : S X.K ca F2 (upd H1 a0 (.ins (ca c) dx (putF n v us))) σ (ρ1.set x none) ((.ref a0, own (.obj c (putFD n tv.d fs))) :: fr) := so.unhead (so.head.write (u := .ins (ca c) dx (putF n v us)) ⟨rfl, h7.put rv⟩)
          exact q1 σ _ F2 (exT e1 e2) (fun _ => rfl) (s5.back hv0)
        · cases hset
      · cases hset
    · exact q1.elim
  · exact q1.elim
abbrev iteR (fc : Sl → R T) (fa fb : Sl → R Fl) : Sl → R Fl := fun ρ => (fc ρ).bind fun b ρ1 => match truth b with
    | some true => fa ρ1
    | some false => fb ρ1
    | none => .bad
theorem x_ite {c : Expr} (hc : PT X c (tT X.K ca fc)) (ha : PSs X body (tS X.K ca io fa)) (hb : PSs X orelse (tS X.K ca io fb)) : PS X (.If c body orelse pos) (tS X.K ca io (iteR fc fa fb)) := by
  refine ⟨fun pins s σ H D I hq => (ps_if hc ha hb).run pins s σ H D I ?_⟩
  obtain ⟨F, ρ, fr, st, q⟩ := hq
  refine ⟨F, ρ, fr, st, (Post.bind q).mono fun t ρ1 q1 => ?_⟩
  split at q1
  · rename_i ht
    exact ⟨true, ht, fun H1 F1 e1 s1 => ⟨F1, ρ1, fr, s1, q1.mono fun fl ρ2 q2 σ2 H2 F2 e2 hio => q2 σ2 H2 F2 (exT e1 e2) hio⟩⟩
  · rename_i ht
    exact ⟨false, ht, fun H1 F1 e1 s1 => ⟨F1, ρ1, fr, s1, q1.mono fun fl ρ2 q2 σ2 H2 F2 e2 hio => q2 σ2 H2 F2 (exT e1 e2) hio⟩⟩
  · exact q1.elim
variable {k : ItK} {t : Tg} {git : Sl → R (List D)}
abbrev afterR (fb : Sl → R Fl) : LF → Sl → R Fl := fun l ρ2 => match l with
      | .done => fb ρ2
      | .brk => .ok .next ρ2
      | .ret t => .ok (.ret t) ρ2
abbrev forR (k : ItK) (t : Tg) (git : Sl → R (List D)) (fa fb : Sl → R Fl) : Sl → R Fl := fun ρ => (git ρ).bind fun ds ρ1 => match walkD k ds with
    | some xs => (forL (bindT t) fa xs ρ1).bind (afterR fb)
    | none => .bad
theorem x_for (hp : PassesOwn (model X.prog X.w) X.A X.env X.xe) (hc : X.calm = true) (hi : PI X tg iter (tW X.K ca k git)) (hg : PG X tg (gT X.K ca t)) (h0 : (io && t.slots.contains 0) = false) (ha : PSs X body (tS X.K ca io fa)) (hb : PSs X orelse (tS X.K ca io fb))
    (hs : ∀ x, foldedSetIterable iter X.env x = pure x) : PS X (.For tg iter body orelse pos) (tS X.K ca io (forR k t git fa fb)) := by
  refine ⟨fun pins s σ H D I hq => (ps_forE hp hc hi hg ha hb hs).run pins s σ H D I ?_⟩
  obtain ⟨F, ρ, fr, st, q⟩ := hq
  refine ⟨F, ρ, fr, st, (Post.bind q).mono fun ds ρ1 q1 => ?_⟩
  split at q1
  · rename_i xs hx
    refine ⟨xs, hx, fun J H1 F1 e1 s1 w => ?_⟩
    have q1 := Post.bind q1
    let Pv : Nat → L2.St → Hp → Prop := fun i σ2 H2 => ∃ F2 ρ2, Ex F1 F2 ∧ (io = true → σ2[0]? = σ[0]?) ∧ S X.K ca F2 H2 σ2 ρ2 fr ∧
      Post (forL (bindT t) fa (xs.drop i) ρ2) fun l ρ3 => Post (afterR fb l ρ3) fun fl ρ' => ∀ σ' H' F', Ex F F' → (io = true → σ'[0]? = σ[0]?) → flW X.K ca F' H' σ' ρ' fr D fl
    have wk : Walk J xs.length (fun H => Ex F1 H) (fun i H x H' => YOk X.K ca F1 xs i H x H') := w
    refine forE_by xs.length Pv ⟨F1, ρ1, Ex.refl F1, fun _ => rfl, s1, by rw [List.drop_zero]; exact q1⟩ ?_ ?_ ?_ ?_
    · rintro i σ2 H2 hi ⟨F2, ρ2, e2, _, s2, _⟩
      exact wk.goes i H2 hi (exT e2 s2.ex)
    · rintro σ2 H2 ⟨F2, ρ2, e2, _, s2, _⟩
      exact wk.stops H2 (exT e2 s2.ex)
    · rintro i x σ2 H2 H3 hi ⟨F2, ρ2, e2, hio, s2, q2⟩ y
      obtain ⟨d, F3, hd, e3, s3, rd⟩ := ((wk.yields i H2 x H3 hi (exT e2 s2.ex) y).mono e2).s s2
      rw [List.drop_eq_getElem_cons hi] at q2
      have hd' : xs[i] = d := by rw [List.getElem?_eq_getElem hi] at hd; exact Option.some.inj hd
      rw [hd'] at q2
      simp only [forL] at q2
      cases hbt : bindT t d ρ2 with
      | none => rw [hbt] at q2; exact q2.elim
      | some r1 =>
        rw [hbt] at q2
        have q2 := Post.bind q2
        refine ⟨F3, ρ2, fr, d, r1, s3, rd, hbt, fun σ3 s4 hl ho => ?_⟩
        have hio3 : io = true → σ3[0]? = σ[0]? := fun h => by
          rw [h, Bool.true_and] at h0
          exact (ho 0 (by simpa using h0)).trans (hio h)
        refine ⟨F3, r1, fr, s4, q2.mono fun fl r2 q3 σ4 H4 F4 e4 hio4 => ?_⟩
        have hio5 : io = true → σ4[0]? = σ[0]? := fun h => (hio4 h).trans (hio3 h)
        cases fl with
        | next => exact fun s5 => ⟨F4, r2, exT e2 (exT e3 e4), hio5, s5, q3⟩
        | cont => exact fun s5 => ⟨F4, r2, exT e2 (exT e3 e4), hio5, s5, q3⟩
        | brk => exact q3 σ4 H4 F4 (exT e1 (exT e2 (exT e3 e4))) hio5
        | ret tv => exact q3 σ4 H4 F4 (exT e1 (exT e2 (exT e3 e4))) hio5
    · rintro σ2 H2 ⟨F2, ρ2, e2, hio, s2, q2⟩
      rw [List.drop_length] at q2
      have q2 : Post (fb ρ2) fun fl ρ' => ∀ σ' H' F', Ex F F' → (io = true → σ'[0]? = σ[0]?) → flW X.K ca F' H' σ' ρ' fr D fl := q2
      exact ⟨F2, ρ2, fr, s2, q2.mono fun fl ρ3 q3 σ3 H3 F3 e3 hio3 => q3 σ3 H3 F3 (exT e1 (exT e2 e3)) fun h => (hio3 h).trans (hio h)⟩
  · exact q1.elim
end
end Mi

set_option Elab.async false
set_option linter.all false
set_option maxRecDepth 100000
set_option maxHeartbeats 1000000
/-! M3a: looks at the text. -/
namespace Mi
open PySem PySem.Spec PyProof.Rows L2
open Evl (Ex)
/-- what a body stands in: its slots' names, its scope, the cells that are its own -/
structure Bd where
  N : List Str
  sc : Scope
  own : Str → Bool
def visB (sc : Scope) (x : Str) : Bool := sc.names.lookup x == some .local || sc.names.lookup x == some .cell || sc.names.lookup x == some .free
def locB (sc : Scope) (x : Str) : Bool := sc.names.lookup x == some .local || sc.names.lookup x == some .cell
def plainN (x : Str) : Bool := !(x == ("__debug__" : Str)) && !(x == ("__classdict__" : Str))
def glB (sc : Scope) (x : Str) : Bool := sc.names.lookup x == some .globalImplicit && plainN x
def notStar : Expr → Bool
  | .Starred _ _ => false
  | _ => true
def notSet : Expr → Bool
  | .Set _ _ _ => false
  | _ => true
def notSlice : Expr → Bool
  | .Slice _ _ _ _ => false
  | _ => true
def noSuper : Expr → Bool
  | .Call (.Name _ _) [] [] _ => false
  | _ => true
def notComp : Expr → Bool
  | .ListComp _ _ _ _ => false
  | .SetComp _ _ _ _ => false
  | .DictComp _ _ _ _ _ => false
  | _ => true
theorem star_cons {e : Expr} {es : List Expr} {env : Env} (h : notStar e = true) : starEach (e :: es) env = (false, eval e env) :: starEach es env := by
  cases e <;> first | rfl | cases h
theorem star_all {es : List Expr} {env : Env} (pos : Pos) (h : es.all notStar = true) : (backTo pos (starEach es env)).any (·.1) = false := by
  induction es with
  | nil => rfl
  | cons e es ih =>
    simp only [List.all_cons, Bool.and_eq_true] at h
    rw [star_cons h.1]
    have := ih h.2
    simp only [backTo, List.map_cons, List.any_cons, Bool.false_or] at this ⊢
    exact this
theorem star_few {es : List Expr} {env : Env} (pos : Pos) (h : es.all notStar = true) : (backTo pos (starEach es env)).all (fun x => !x.1) = true := by
  have := star_all (env := env) pos h
  rw [List.any_eq_false] at this
  rw [List.all_eq_true]
  intro x hx
  have h2 := this x hx
  simpa using h2
theorem set_marks {e : Expr} (op : CmpOp) (h : notSet e = true) : behindInMarks op e = false := by
  cases e <;> first | rfl | cases h
theorem set_folded {e : Expr} {env : Env} (h : notSet e = true) : ∀ x, foldedSetIterable e env x = pure x := by
  intro x
  cases e <;> first | rfl | cases h
theorem slice_plain {e : Expr} (h : notSlice e = true) : PlainIx e := by
  intro o i
  cases e <;> first | rfl | cases h
theorem super_base {e : Expr} {env : Env} {n : Str} (h : noSuper e = true) : attributeBase e n env (eval e env) = eval e env := by
  unfold attributeBase
  split
  · cases h
  · rfl
theorem lookup_beq {l : List (Str × NameKind)} {x : Str} {k : NameKind} (h : (l.lookup x == some k) = true) : l.lookup x = some k := by
  cases e : l.lookup x with
  | none => rw [e] at h; cases k <;> cases h
  | some j => rw [e] at h; cases j <;> cases k <;> first | rfl | cases h
/-- what is known of the context of a body -/
structure Gd (c : Bd) (k : Nat) (X : Cx) : Prop where
  hN : X.N = c.N
  nd : X.N.Nodup
  hs : X.env.scope = c.sc
  kind : c.sc.kind = .function
  calm : X.calm = true
  rm : Room k X.A
  gd : X.A.guards = some []
  st : ∀ x, c.own x = true → X.fn x = true
section
variable {c : Bd} {k : Nat} {X : Cx} {x : Str}
theorem Gd.vis (g : Gd c k X) (h : visB c.sc x = true) : Vis X.env.scope x := by
  unfold Vis
  rw [g.hs]
  simp only [visB, Bool.or_eq_true] at h
  rcases h with (h | h) | h
  · exact .inl (lookup_beq h)
  · exact .inr (.inl (lookup_beq h))
  · exact .inr (.inr (lookup_beq h))
theorem Gd.loc (g : Gd c k X) (h : locB c.sc x = true) : Loc X.env.scope x := by
  unfold L2.Loc
  rw [g.hs]
  simp only [locB, Bool.or_eq_true] at h
  rcases h with h | h
  · exact .inl (lookup_beq h)
  · exact .inr (lookup_beq h)
theorem Gd.gl (g : Gd c k X) (h : glB c.sc x = true) : Gl X x ∧ (x == ("__debug__" : Str)) = false := by
  simp only [glB, plainN, Bool.and_eq_true, Bool.not_eq_true'] at h
  refine ⟨?_, h.2.1⟩
  show X.env.scope.names.lookup x = _
  rw [g.hs]
  exact lookup_beq h.1
theorem Gd.u1 (g : Gd c k X) : X.A.units + 1 < cLine := by have := g.rm.units; omega
theorem Gd.u65 (g : Gd c k X) : X.A.units + 65 < cLine := by have := g.rm.un; omega
/-- a name that is stored -/
def stB (c : Bd) (x : Str) : Bool := locB c.sc x && (c.own x || c.sc.names.lookup x == some .local)
theorem Gd.sto (g : Gd c k X) (h : stB c x = true) : Loc X.env.scope x ∧ (X.fn x = true ∨ X.env.scope.names.lookup x = some .local) := by
  simp only [stB, Bool.and_eq_true, Bool.or_eq_true] at h
  refine ⟨g.loc h.1, ?_⟩
  rcases h.2 with h | h
  · exact .inl (g.st x h)
  · exact .inr (by rw [g.hs]; exact lookup_beq h)
/-- a variable -/
def varB (c : Bd) (i : Nat) : Expr → Bool
  | .Name x _ => c.N[i]? == some x && visB c.sc x && plainN x
  | _ => false
theorem Gd.var (g : Gd c k X) {i : Nat} {e : Expr} (h : varB c i e = true) : PE X e (tVar i) := by
  cases e <;> simp only [varB, Bool.false_eq_true] at h
  rename_i x p
  simp only [Bool.and_eq_true, beq_iff_eq, plainN, Bool.not_eq_true'] at h
  exact pe_var (by rw [g.hN]; exact h.1.1) (g.vis h.1.2) h.2.1 h.2.2
/-- a target that is one name -/
def tg1B (c : Bd) (i : Nat) : Expr → Bool
  | .Name x _ => c.N[i]? == some x && stB c x
  | _ => false
def tgsB (c : Bd) : List Nat → List Expr → Bool
  | [], [] => true
  | i :: is, e :: es => tg1B c i e && tgsB c is es
  | _, _ => false
def tgB (c : Bd) : Tg → Expr → Bool
  | .one i, e => tg1B c i e
  | .many is, .Tuple es _ _ => tgsB c is es
  | _, _ => false
theorem Gd.tg1 (g : Gd c k X) {i : Nat} {e : Expr} (h : tg1B c i e = true) : PG X e (gName i) ∧ notStar e = true := by
  cases e <;> simp only [tg1B, Bool.false_eq_true] at h
  rename_i x p
  simp only [Bool.and_eq_true, beq_iff_eq] at h
  obtain ⟨h1, h2⟩ := g.sto h.2
  exact ⟨pg_name g.nd (by rw [g.hN]; exact h.1) h1 h2, rfl⟩
theorem assign_cons {e : Expr} {es : List Expr} {env : Env} (h : notStar e = true) : assignEach (e :: es) env = (false, assign e env) :: assignEach es env := by
  cases e <;> first | rfl | cases h
theorem Gd.tgs (g : Gd c k X) : ∀ {is : List Nat} {es : List Expr}, tgsB c is es = true → PGs X es (gMany is) ∧ (assignEach es X.env).length = is.length ∧ (assignEach es X.env).findIdx? (·.1) = none
  | [], [], _ => ⟨gs_nil, rfl, rfl⟩
  | i :: is, e :: es, h => by
    simp only [tgsB, Bool.and_eq_true] at h
    obtain ⟨h1, hs⟩ := g.tg1 h.1
    obtain ⟨h2, h3, h4⟩ := Gd.tgs g h.2
    refine ⟨gs_cons h1 h2 (by rw [assign_cons hs]; rfl), ?_, ?_⟩
    · rw [assign_cons hs, List.length_cons, h3, List.length_cons]
    · rw [assign_cons hs, List.findIdx?_cons, h4]
      rfl
  | [], _ :: _, h => by cases h
  | _ :: _, [], h => by cases h
theorem Gd.tg (g : Gd c k X) {ca : Str → Addr} {t : Tg} {e : Expr} (h : tgB c t e = true) : PG X e (gT X.K ca t) := by
  cases t with
  | one i => exact g_one (g.tg1 (show tg1B c i e = true from h)).1
  | many is =>
    cases e <;> simp only [tgB, Bool.false_eq_true] at h
    rename_i es kk p
    obtain ⟨h1, h2, h3⟩ := g.tgs h
    exact g_many g.calm h1 h2 h3
/-- the block of a comprehension -/
def Bd.blk (c : Bd) (scope : Scope) : Bd := ⟨c.N, relS scope c.sc, fun x => scope.names.lookup x == some .cell⟩
theorem Gd.blk (g : Gd c k X) (scope : Scope) (hk : scope.kind = .function) (s : Shared) (H : Hp) (C : Addr) (cl : List (Str × Addr)) (fp : List Addr) : Gd (c.blk scope) k (X.blk s H scope (compEnvC scope cl C X.env) fp) := by
  refine ⟨g.hN, g.nd, ?_, hk, g.calm, g.rm, g.gd, fun x h => h⟩
  show relabel scope X.env = relS scope c.sc
  rw [← g.hs]
  rfl
end
end Mi

set_option Elab.async false
set_option linter.all false
set_option maxRecDepth 100000
set_option maxHeartbeats 1000000
/-! M3b: repr, isinstance. -/
namespace Mi
open PySem PySem.Spec PyProof.Rows L2
open Evl (Ex)
mutual
theorem py_noDict : ∀ (d : D) (p : PyData), d.py = some p → p.hasDict = false
  | .non, _, e => by cases e; rfl
  | .bl _, _, e => by cases e; rfl
  | .int _, _, e => by cases e; rfl
  | .str _, _, e => by cases e; rfl
  | .lst xs, _, e => by
    simp only [D.py, Option.map_eq_some_iff] at e
    obtain ⟨ps, e, rfl⟩ := e
    simpa [PyData.hasDict] using pys_noDict xs ps e
  | .tup xs, _, e => by
    simp only [D.py, Option.map_eq_some_iff] at e
    obtain ⟨ps, e, rfl⟩ := e
    simpa [PyData.hasDict] using pys_noDict xs ps e
  | .dK _, _, e => by cases e
  | .dT _, _, e => by cases e
  | .obj _ _, _, e => by cases e
  | .cls _, _, e => by cases e
  | .ty _, _, e => by cases e
theorem pys_noDict : ∀ (ds : List D) (ps : List PyData), D.pys ds = some ps → PyData.hasDictAll ps = false
  | [], _, e => by cases e; rfl
  | d :: ds, _, e => by
    simp only [D.pys] at e
    split at e
    · rename_i a b e1 e2
      cases e
      simp only [PyData.hasDictAll, py_noDict d a e1, pys_noDict ds b e2, Bool.or_self]
    · cases e
end
section
variable {X : Cx} {ca : Str → Addr}
theorem repr_D (hgd : X.A.guards = some []) (hu : X.A.units + 65 < cLine) : CallR X (.builtin "repr") (rBi X.K ca .repr) := by
  intro pins s σ H xs us Q I r h
  obtain ⟨F, σ', ρ, fr, ds, t, st, hx, h, fin⟩ := h
  unfold biD at h
  split at h <;> first | (cases h; done) | skip
  all_goals (rename_i heq; first | (cases heq; done) | skip)
  rename_i d
  split at h
  · rename_i p hp
    split at h
    · rename_i hc
      simp only [Bool.and_eq_true] at hc
      obtain ⟨⟨hn, hs⟩, hz⟩ := hc
      cases h
      obtain ⟨v, rfl, hv⟩ := hx.one
      obtain ⟨u, rfl, ru⟩ := vals1 r
      have dp := dp_of (K := X.K) (ca := ca) d v p (hv.whole st.ex) hp
      obtain ⟨as, rd⟩ := Dp.reads I p v u dp ru
      have hdep := (nice_can 50 d p hn hp).2
      have hsz := sz_ok (n := p.shown.length) hz
      have out : ∀ h' (k tk : Nat), (∀ b o, s.heap.get? b = some o → h'.get? b = some o) → EP X pins σ Q (.str p.shown k) { s with heap := h', toks := tk } := fun h' k tk hk =>
        ⟨.str p.shown, H, I.kept hk, ⟨_, rfl⟩, fin.old st rfl⟩
      cases rd with
      | none => exact PySem.P.repr_of_none (out s.heap _ _ fun _ _ e => e)
      | bool b => exact PySem.P.repr_of_bool (by
          have := out s.heap s.toks (s.toks + 1) fun _ _ e => e
          simpa only [PyData.shown] using this)
      | int i t => exact PySem.P.repr_of_int (by simpa [PyData.showable] using hs) (by
          have := out s.heap s.toks (s.toks + 1) fun _ _ e => e
          simpa only [PyData.shown] using this)
      | str x t => exact PySem.P.repr_of_str (by
          have := out s.heap s.toks (s.toks + 1) fun _ _ e => e
          simpa only [PyData.shown] using this) (by simpa only [PyData.shown] using hsz)
      | list h1 h2 h3 h4 => exact repr_of_reads' (.list h1 h2 h3 h4) hs (fun e => by rw [py_noDict d _ hp] at e; cases e) hgd (by omega) (fun _ _ e => e) out hsz
      | tuple h1 h2 h3 h4 => exact repr_of_reads' (.tuple h1 h2 h3 h4) hs (fun e => by rw [py_noDict d _ hp] at e; cases e) hgd (by omega) (fun _ _ e => e) out hsz
      | dict h1 h2 h3 h4 h5 => have := py_noDict d _ hp; simp [PyData.hasDict] at this
    · cases h
  · cases h
/-! isinstance -/
def isTy (a n : String) : Bool := a == n || (a == "bool" && n == "int")
/-- what must be known of the classes -/
structure IsiOk (K : PySem.W.Frag) (ca : Str → Addr) (ok : List Str) : Prop where
  tt : ∀ a ∈ "NoneType" :: tyNames, ∀ n ∈ tyNames, PySem.W.kitOne K (.type a) (.type n) = some (isTy a n)
  tc : ∀ a ∈ "NoneType" :: tyNames, ∀ c ∈ ok, PySem.W.kitOne K (.type a) (.ref (ca c)) = some false
  ct : ∀ c ∈ ok, ∀ n ∈ tyNames, PySem.W.kitOne K (.ref (ca c)) (.type n) = some false
  cc : ∀ c ∈ ok, ∀ e ∈ ok, PySem.W.kitOne K (.ref (ca c)) (.ref (ca e)) = some (decide (c = e))
  own : ∀ c ∈ ok, Cls K (ca c) ∧ PySem.W.findIn K (.ref (ca c)) "__class__" = some (some (.builtin "object.__class__")) ∧ PySem.W.specialIn K (.builtin "object.__class__") "__get__" = some (some (.builtin "getset_descriptor.__get__")) ∧
    PySem.W.takesIn K (.builtin "object.__class__") = some true ∧ PySem.W.mroIn K (ca c) (.type "object") = some true
theorem tup_ty {F H : Hp} {n : Nat} {a : Addr} {vs : List V} (e : Ex F H) (h : TpA X.K F n a vs) : TyX X.K H (.ref a) (.type "tuple") := by
  rcases h with h | ⟨_, (h | ⟨o, h⟩) | ⟨o, its, k, h1, h2, _⟩⟩
  · exact .base (.tup (e _ _ h))
  · exact .base (.tup (e _ _ h))
  · exact .fTuple (e _ _ h)
  · exact .kTuple h1 h2
/-- a value's type -/
def tyOfD (ca : Str → Addr) : D → Option Value
  | .non => some (.type "NoneType")
  | .bl _ => some (.type "bool")
  | .int _ => some (.type "int")
  | .str _ => some (.type "str")
  | .lst _ => some (.type "list")
  | .tup _ => some (.type "tuple")
  | .dK _ => some (.type "dict")
  | .obj c _ => some (.ref (ca c))
  | _ => none
theorem ty_rep {ok : List Str} (k : IsiOk X.K ca ok) {F H : Hp} {d : D} {v : V} {t : Value} (e : Ex F H) (h : RepB X.K ca F H d v) (ho : ∀ c fs, d = .obj c fs → c ∈ ok) (ht : tyOfD ca d = some t) : TyX X.K H v t := by
  cases d <;> simp only [tyOfD, Option.some.injEq, reduceCtorEq] at ht <;> subst ht
  · cases h; exact .base .non
  · cases h; exact .base (.bl _)
  · cases h; exact .base (.int _)
  · cases h; exact .base (.str _)
  · obtain ⟨a, vs, rfl, h | ⟨o, h⟩, _⟩ := h
    · exact .base (.lst h)
    · exact .base (.frz h)
  · obtain ⟨a, vs, rfl, h, _⟩ := h
    exact tup_ty e h
  · obtain ⟨a, vs, rfl, h | ⟨o, h⟩, _⟩ := h
    · exact .base (.dK h)
    · exact .fDict h
  · rename_i c fs
    obtain ⟨a, dx, us, rfl, h, _⟩ := h
    obtain ⟨c1, c2, c3, c4, c5⟩ := k.own c (ho c fs rfl)
    exact .base (.ins h c1 c2 c3 c4 c5)
theorem isi_shape {ok : List Str} : ∀ {ds : List D} {t : T}, biD (.isinst ok) ds = some t → ∃ x c b, ds = [x, c] ∧ isClsB ok x c = some b ∧ t = sh (.bl b)
  | [x, c], t, h => by
    have h : (isClsB ok x c).map (fun b => sh (.bl b)) = some t := h
    rw [Option.map_eq_some_iff] at h
    obtain ⟨b, hb, rfl⟩ := h
    exact ⟨x, c, b, rfl, hb, rfl⟩
  | [], _, h => by cases h
  | [_], _, h => by cases h
  | _ :: _ :: _ :: _, _, h => by cases h
theorem isi_D {ok : List Str} (k : IsiOk X.K ca ok) : CallR X (.builtin "isinstance") (rBi X.K ca (.isinst ok)) := by
  intro pins s σ H xs us Q I r h
  obtain ⟨F, σ', ρ, fr, ds, t, st, hx, h, fin⟩ := h
  obtain ⟨x, c, b, rfl, hb, rfl⟩ := isi_shape h
  obtain ⟨v, w, rfl, hv, hw⟩ := hx.two
  refine call_isi pins s σ H _ us Q I r ?_
  have go : ∀ (u : Value) (t : Value), ClsV w u → tyOfD ca x = some t → (∀ c fs, x = .obj c fs → c ∈ ok) → PySem.W.kitOne X.K t u = some b → rIsi X.K [v, w] H Q := fun u t hc ht ho hk =>
    ⟨v, w, t, u, b, rfl, hc, ty_rep k st.ex hv ho ht, hk, fin.old st rfl⟩
  unfold isClsB at hb
  split at hb
  · rename_i n
    cases hw
    split at hb
    · cases hb
    · rename_i hn
      have hn : n ∈ tyNames := by simpa using hn
      have nt : ∀ a, a ∈ "NoneType" :: tyNames → PySem.W.kitOne X.K (.type a) (.type n) = some (isTy a n) := fun a ha => k.tt a ha n hn
      have sub : ∀ a : String, a ∈ tyNames → a ∈ "NoneType" :: tyNames := fun a ha => List.mem_cons_of_mem _ ha
      have sy : ∀ a : String, (a == n) = (n == a) := fun a => by rw [Bool.eq_iff_iff, beq_iff_eq, beq_iff_eq]; exact ⟨Eq.symm, Eq.symm⟩
      cases x <;> simp only [Option.some.injEq, reduceCtorEq] at hb
      · refine go _ _ (.ty n) rfl (fun _ _ e => by cases e) ((nt "NoneType" (by decide)).trans ?_)
        rw [← hb]
        have : ("NoneType" == n) = false := by
          rw [sy]
          refine beq_eq_false_iff_ne.mpr fun e => ?_
          subst e
          revert hn
          decide
        simp [isTy, this]
      · refine go _ _ (.ty n) rfl (fun _ _ e => by cases e) ((nt "bool" (by decide)).trans ?_)
        rw [← hb]
        simp [isTy, sy "bool"]
      · refine go _ _ (.ty n) rfl (fun _ _ e => by cases e) ((nt "int" (by decide)).trans ?_)
        rw [← hb]
        simp [isTy, sy "int"]
      · refine go _ _ (.ty n) rfl (fun _ _ e => by cases e) ((nt "str" (by decide)).trans ?_)
        rw [← hb]
        simp [isTy, sy "str"]
      · refine go _ _ (.ty n) rfl (fun _ _ e => by cases e) ((nt "list" (by decide)).trans ?_)
        rw [← hb]
        simp [isTy, sy "list"]
      · refine go _ _ (.ty n) rfl (fun _ _ e => by cases e) ((nt "tuple" (by decide)).trans ?_)
        rw [← hb]
        simp [isTy, sy "tuple"]
      · refine go _ _ (.ty n) rfl (fun _ _ e => by cases e) ((nt "dict" (by decide)).trans ?_)
        rw [← hb]
        simp [isTy, sy "dict"]
      · split at hb
        · rename_i hc
          have hc := List.contains_iff_mem.mp hc
          refine go _ _ (.ty n) rfl (fun _ _ e => by cases e; exact hc) ((k.ct _ hc n hn).trans ?_)
          exact hb
        · cases hb
  · rename_i c0
    cases hw
    split at hb
    · cases hb
    · rename_i hn
      have hn : c0 ∈ ok := by simpa using hn
      cases x <;> simp only [Option.some.injEq, reduceCtorEq] at hb
      · exact go _ _ (.own _) rfl (fun _ _ e => by cases e) ((k.tc "NoneType" (by decide) c0 hn).trans (by rw [← hb]))
      · exact go _ _ (.own _) rfl (fun _ _ e => by cases e) ((k.tc "bool" (by decide) c0 hn).trans (by rw [← hb]))
      · exact go _ _ (.own _) rfl (fun _ _ e => by cases e) ((k.tc "int" (by decide) c0 hn).trans (by rw [← hb]))
      · exact go _ _ (.own _) rfl (fun _ _ e => by cases e) ((k.tc "str" (by decide) c0 hn).trans (by rw [← hb]))
      · exact go _ _ (.own _) rfl (fun _ _ e => by cases e) ((k.tc "list" (by decide) c0 hn).trans (by rw [← hb]))
      · exact go _ _ (.own _) rfl (fun _ _ e => by cases e) ((k.tc "tuple" (by decide) c0 hn).trans (by rw [← hb]))
      · exact go _ _ (.own _) rfl (fun _ _ e => by cases e) ((k.tc "dict" (by decide) c0 hn).trans (by rw [← hb]))
      · split at hb
        · rename_i hc
          have hc := List.contains_iff_mem.mp hc
          exact go _ _ (.own _) rfl (fun _ _ e => by cases e; exact hc) ((k.cc _ hc c0 hn).trans hb)
        · cases hb
  · cases hb
end
end Mi

set_option Elab.async false
set_option linter.all false
set_option maxRecDepth 100000
set_option maxHeartbeats 4000000
/-! MSort: sorted of tuples of two texts and a number. -/
namespace Mi
open PySem PySem.Spec PyProof.Rows L2
open PySem.W (EachIs AllAlike Sortable dataLe dataLt alike alikeAll)
open Evl (Ex)
open PySem.W PySem.Calls
def encT (d : D) : PyData := d.py.getD .none
theorem tri_is {d : D} (h : isTri d = true) : ∃ a b i, d = .tup [.str a, .str b, .int i] := by
  unfold isTri at h
  split at h
  · exact ⟨_, _, _, rfl⟩
  · cases h
theorem encT_tri (a b : Str) (i : Int) : encT (.tup [.str a, .str b, .int i]) = .tuple [.str a, .str b, .int i] := rfl
theorem lex_total {x y : List Nat} (h : x ≠ y) : (!decide (y < x)) = decide (x < y) := by
  rw [PySem.W.not_lt_str]
  by_cases hl : x < y
  · have : x ≤ y := List.le_of_lt hl
    simp [hl, this]
  · have h1 : y ≤ x := List.not_lt.mp hl
    have h2 : ¬ x ≤ y := fun h3 => h (List.le_antisymm h3 h1)
    simp [hl, h2]
theorem tri_le {a b : D} (ha : isTri a = true) (hb : isTri b = true) : dataLe false encT a b = leTri a b := by
  obtain ⟨a1, a2, i, rfl⟩ := tri_is ha
  obtain ⟨b1, b2, j, rfl⟩ := tri_is hb
  rw [PySem.W.dataLe_eq]
  simp only [cond_false, encT_tri]
  rw [PySem.W.dataLt_tuple, PySem.W.dataLt_cons (by simp [alike]), PySem.W.dataLt_cons (by simp [alike]), PySem.W.dataLt_cons (by simp [alike])]
  have e0 : PyProof.Rows.lexLt itemOrd (PySem.W.keyToksAll []) (PySem.W.keyToksAll []) = false := lex_irrefl _
  rw [e0, PySem.W.dataLt_str, PySem.W.dataLt_str, PySem.W.dataLt_int]
  simp only [PyData.eqv, beq_iff_eq, leTri, ltS]
  have hne : ∀ {x y : Str}, x ≠ y → x.cps.toList ≠ y.cps.toList := fun h e => h (TL.ext_tl e)
  by_cases h1 : a1 = b1
  · subst h1
    by_cases h2 : a2 = b2
    · subst h2
      simp only [if_true]
      by_cases h3 : j = i
      · simp [h3]
      · simp only [h3, if_false]
        by_cases h4 : j < i
        · have : ¬ i ≤ j := by omega
          simp [h4, this]
        · have : i ≤ j := by omega
          simp [h4, this]
    · have h2' : ¬ b2 = a2 := fun e => h2 e.symm
      simp only [if_true, h2, h2', if_false]
      exact lex_total (hne h2)
  · have h1' : ¬ b1 = a1 := fun e => h1 e.symm
    simp only [h1, h1', if_false]
    exact lex_total (hne h1)
theorem sort_tri {ys : List D} (h : ys.all isTri = true) : ys.mergeSort (dataLe false encT) = ys.mergeSort leTri := by
  have h' : ∀ y ∈ ys, isTri y = true := by simpa using h
  have := List.map_mergeSort (r := dataLe false encT) (s := leTri) (f := id) (l := ys) (fun a ha b hb => tri_le (h' a ha) (h' b hb))
  simpa using this
section
variable {X : Cx} {ca : Str → Addr} {F H : Hp}
theorem rep_each : ∀ {ys : List D} {ws : List V} {its : List Value}, RepDs X.K ca F ys ws → Vals ws its → EachIs (fun v d => ∃ w, RelV w v ∧ RepD X.K ca F d w) its ys
  | [], _, _, h, r => by
    cases h
    cases r
    exact .nil
  | y :: ys, _, _, h, r => by
    obtain ⟨w, ws, rfl, h1, h2⟩ := h
    cases r with
    | cons r1 r2 => exact .cons ⟨w, r1, h1⟩ (rep_each h2 r2)
theorem each_rep : ∀ {ys : List D} {its : List Value}, EachIs (fun v d => ∃ w, RelV w v ∧ RepD X.K ca F d w) its ys → ∃ ws, Vals ws its ∧ RepDs X.K ca F ys ws
  | [], _, h => by
    cases h
    exact ⟨[], .nil, rfl⟩
  | y :: ys, _, h => by
    cases h with
    | cons h1 h2 =>
      obtain ⟨w, r1, d1⟩ := h1
      obtain ⟨ws, r2, d2⟩ := each_rep h2
      exact ⟨w :: ws, .cons r1 r2, w, ws, rfl, d1, d2⟩
theorem sort_D (hu : X.A.units + 65 < cLine) : CallR X (.builtin "sorted") (rBi X.K ca .sorted) := by
  intro pins s σ H xs us Q I r h
  obtain ⟨F, σ', ρ, fr, ds, t, st, hx, h, fin⟩ := h
  unfold biD at h
  split at h <;> first | (cases h; done) | skip
  all_goals (rename_i heq; first | (cases heq; done) | skip)
  rename_i ys
  split at h
  · rename_i hc
    simp only [Bool.and_eq_true] at hc
    obtain ⟨htri, hz⟩ := hc
    cases h
    obtain ⟨v, rfl, hv⟩ := hx.one
    obtain ⟨a, vs, rfl, h1, h2⟩ := hv
    obtain ⟨its, rv, hl, hz2⟩ := I.list (.inl h1)
    obtain ⟨u, rfl, ru⟩ := vals1 r
    obtain rfl : u = Value.ref a := ru
    have htri' : ∀ y ∈ ys, isTri y = true := by simpa using htri
    have e0 := rep_each h2 rv
    have er : EachIs (fun v d => ∃ as, Reads s.heap v (encT d) as) its ys := by
      refine (PySem.W.each_mem e0).mono fun v d ⟨⟨w, r1, d1⟩, hm⟩ => ?_
      obtain ⟨a1, a2, i, rfl⟩ := tri_is (htri' _ hm)
      have dp := dp_of (K := X.K) (ca := ca) _ w (encT (.tup [.str a1, .str a2, .int i])) (d1.mono st.ex) rfl
      exact Dp.reads I _ w v dp r1
    have hal : AllAlike (ys.map encT) := by
      intro d hd d' hd'
      obtain ⟨b, hb, rfl⟩ := List.mem_map.mp hd
      obtain ⟨b', hb', rfl⟩ := List.mem_map.mp hd'
      obtain ⟨a1, a2, i, rfl⟩ := tri_is (htri' _ hb)
      obtain ⟨b1, b2, j, rfl⟩ := tri_is (htri' _ hb')
      simp [encT_tri, alike, alikeAll]
    have hk : Sortable (ys.map encT) := .inl fun d hd => by
      obtain ⟨b, hb, rfl⟩ := List.mem_map.mp hd
      obtain ⟨a1, a2, i, rfl⟩ := tri_is (htri' _ hb)
      exact ⟨_, _, rfl⟩
    have hlen : ys.length = vs.length := h2.length.symm
    refine PySem.W.sorted_data (s := s) hl.isList e0 er hal hk (by rw [hlen]; exact hz2) (fun b hb => ?_) fun out ho eo => ?_
    · obtain ⟨a1, a2, i, rfl⟩ := tri_is (htri' _ hb)
      have : (encT (.tup [.str a1, .str a2, .int i])).depth ≤ 3 := by
        rw [encT_tri]
        simp [PyData.depth, PyData.depthAll]
      omega
    · rw [sort_tri htri] at eo
      obtain ⟨ws, r2, d2⟩ := each_rep eo
      obtain ⟨c, hcell⟩ := sortedAll_at s.heap its out.toArray
      have hfr : s.heap.objs.size ≤ s.heap.objs.size + 1 := Nat.le_succ _
      refine ⟨.ref (s.heap.objs.size + 1), upd H (s.heap.objs.size + 1) (.lst ws), I.laid (t' := s.toks) (fun _ _ => sortedAll_old) hfr ⟨?_, out, c, r2, hcell⟩, rfl, fin.newL st (I.hok.fresh hfr) d2⟩
      rw [r2.length, ho, hlen]
      exact hz2
  · cases h
end
end Mi

set_option Elab.async false
set_option linter.all false
set_option maxRecDepth 100000
set_option maxHeartbeats 4000000
/-! M3c: an expression's text and its tree. -/
namespace Mi
open PySem PySem.Spec PyProof.Rows L2
open Evl (Ex)
/-! ### built-in functions by name -/
def biName : Bi → Str
  | .len => "len" | .int => "int" | .abs => "abs" | .max2 => "max" | .min2 => "min" | .maxL => "max" | .minL => "min" | .sum => "sum" | .all => "all" | .any => "any"
  | .dictc => "dict" | .minL0 _ => "min"
  | .list => "list" | .tuple => "tuple" | .repr => "repr" | .str => "str" | .isinst _ => "isinstance" | .lenset => "len" | .sorted => "sorted"
  | _ => ""
def biV : Bi → Option Value
  | .repr => some (.builtin "repr")
  | .isinst _ => some (.builtin "isinstance")
  | .sorted => some (.builtin "sorted")
  | b => biVal b
def biOk (K : PySem.W.Frag) (ca : Str → Addr) : Bi → Prop
  | .isinst ok => IsiOk K ca ok
  | _ => True
theorem bootB {b : Bi} {f : Value} (h : biV b = some f) : bootBuiltins (biName b) = some f ∧ biName b ≠ "__name__" := by
  cases b <;> simp only [biV, biVal, Option.some.injEq, reduceCtorEq] at h <;> subst h <;> refine ⟨?_, by first | decide | (show ("isinstance" : Str) ≠ _; decide)⟩
  · exact boot_len
  · exact PyProof.Rows.boot_int
  · exact boot_abs
  · exact boot_max
  · exact boot_min
  · exact boot_max
  · exact boot_min
  · exact boot_sum
  · exact boot_all
  · exact boot_any
  · exact boot_sorted
  · exact boot_list
  · exact boot_tuple
  · exact boot_repr
  · exact boot_str
  · exact boot_isinstance
  · exact PyProof.Rows.boot_dict
theorem bi_any {X : Cx} {ca : Str → Addr} {b : Bi} {f : Value} (hc : X.calm = true) (hgd : X.A.guards = some []) (hu : X.A.units + 65 < cLine) (h : biV b = some f) (hk : biOk X.K ca b) : CallR X f (rBi X.K ca b) := by
  cases b <;> first
    | exact bi_D hc _ h
    | (simp only [biV, Option.some.injEq] at h; subst h; first | exact repr_D hgd hu | exact isi_D hk | exact sort_D hu)
section
variable {X : Cx} {ca : Str → Addr} {e : Expr} {es : List Expr} {p pos : Pos} {go : Sl → R (List Opd)}
theorem e_bi {b : Bi} {f : Value} (hc : X.calm = true) (hgd : X.A.guards = some []) (hu : X.A.units + 65 < cLine) (h : biV b = some f) (hk : biOk X.K ca b) (hg : Gl X (biName b)) (hdb : (biName b == ("__debug__" : Str)) = false) (hm : X.mg (biName b) = none)
    (ha : PA X (e :: es) (tOs X.K ca go)) (he : starEach (e :: es) X.env = (false, eval e X.env) :: starEach es X.env) (hpl : (backTo pos (starEach es X.env)).any (·.1) = false) :
    PE X (.Call (.Name (biName b) p) (e :: es) [] pos) (tE X.K ca fun ρ => (go ρ).bind fun os ρ1 => match drfs os ρ1 with
      | some ds => R.opt (biD b ds) ρ1
      | none => .bad) := by
  have hcr := bi_any (X := X) (ca := ca) hc hgd hu h hk
  obtain ⟨hb, hn⟩ := bootB h
  have : (∃ id, f = .builtin id) ∨ ∃ t, f = .type t := by
    cases b <;> simp only [biV, biVal, Option.some.injEq, reduceCtorEq] at h <;> subst h <;> first | exact .inl ⟨_, rfl⟩ | exact .inr ⟨_, rfl⟩
  rcases this with ⟨id, rfl⟩ | ⟨t, rfl⟩
  · exact ⟨fun pins s σ H Q I hq => (pe_callB hcr hg hm hb ha hn hdb he hpl).run pins s σ H Q I (b_ready hq)⟩
  · exact ⟨fun pins s σ H Q I hq => (pe_callTy hcr hg hm hb ha hn hdb he hpl).run pins s σ H Q I (b_ready hq)⟩
/-- len(set(t)) -/
theorem e_lenset {a : Expr} {of : Sl → R Opd} {p2 q : Pos} (hc : X.calm = true) (hg : Gl X "len") (hm : X.mg "len" = none) (hg2 : Gl X "set") (hm2 : X.mg "set" = none) (ha : PE X a (tO X.K ca of))
    (na : starEach [a] X.env = (false, eval a X.env) :: starEach [] X.env) : PE X (.Call (.Name "len" p) [.Call (.Name "set" p2) [a] [] q] [] pos) (tE X.K ca fun ρ => ((fun ρ => (of ρ).bind fun x ρ1 => ((fun ρ => .ok [] ρ : Sl → R (List Opd)) ρ1).bind fun ys ρ2 => .ok (x :: ys) ρ2 : Sl → R (List Opd)) ρ).bind fun os ρ1 => match drfs os ρ1 with
      | some ds => R.opt (biD .lenset ds) ρ1
      | none => .bad) := by
  refine ⟨fun pins s σ H Q I hq => (pe_lenSetT hc hg hm hg2 hm2 (pa_cons ha pa_nil na) na).run pins s σ H Q I ?_⟩
  obtain ⟨F, ρ, fr, st, qq⟩ := hq
  refine ⟨F, ρ, fr, st, (Post.bind (Post.bind qq)).mono fun x ρ1 q1 v H1 F1 e1 s1 hv => ?_⟩
  have q1 : Post (match drfs [x] ρ1 with
      | some ds => R.opt (biD .lenset ds) ρ1
      | none => .bad) _ := q1
  split at q1
  · rename_i ds hd
    obtain ⟨t, e, q2⟩ := Post.opt q1
    simp only [drfs] at hd
    split at hd
    · rename_i d _ hx hn
      cases hn
      cases hd
      have rep := drf_one s1 hv hx
      cases d <;> simp only [biD, reduceCtorEq] at e
      rename_i xs
      rw [Option.bind_eq_some_iff] at e
      obtain ⟨ss, hss, e⟩ := e
      split at e
      · rename_i hl
        cases e
        obtain ⟨a, vs, rfl, h1, h2⟩ := rep
        have h3 := rep_strs h2 hss
        subst h3
        exact ⟨a, ss, rfl, Evl.ex_t s1.ex h1.t, hl, q2 _ _ _ e1 (s1.dropTm.push rfl)⟩
      · cases e
    · cases hd
  · exact q1.elim
end
/-! ### what the text must be -/
def litB : D → Expr → Bool
  | .non, .Constant .none _ _ => true
  | .bl b, .Constant (.bool b') _ _ => b == b'
  | .int i, .Constant (.int j) _ _ => decide (i = j)
  | .str s, .Constant (.str t) _ _ => decide (s = t)
  | _, _ => false
def litI : D → Expr → Bool
  | .int i, .Constant (.int j) _ _ => decide (i = j)
  | _, _ => false
def min0B (b : Bi) (n : Str) (ed : Expr) : Bool := match b with
  | .minL0 d => n == "default" && litI d ed
  | _ => false
def plainT : Expr → Bool
  | .UnaryOp _ _ _ => false
  | .BoolOp _ _ _ => false
  | .IfExp _ _ _ _ => false
  | .Compare _ _ _ _ => false
  | _ => true
theorem plain_test {e : Expr} {env : Env} (h : plainT e = true) : ∀ whole, isTrue e env whole = (do let v ← whole; standAt e.pos; holding [v] (truthy v)) := by
  intro whole
  cases e <;> first | rfl | cases h
def iterArgs : ItK → Expr → List Expr
  | .val, e => [e]
  | _, .Call (.Name _ _) es [] _ => es
  | _, _ => []
def iterB (c : Bd) : ItK → Nat → Expr → Bool
  | .val, n, e => decide (n = 1) && notSet e && notStar e
  | .range, n, .Call (.Name x _) es [] _ => x == "range" && glB c.sc x && es.all notStar && decide (es.length = n) && (decide (n = 1) || decide (n = 2))
  | .zip, n, .Call (.Name x _) es [] _ => x == "zip" && glB c.sc x && es.all notStar && decide (es.length = n) && decide (n = 2)
  | .enum s, n, .Call (.Name x _) es [] _ => decide (s = 0) && x == "enumerate" && glB c.sc x && es.all notStar && decide (es.length = n) && decide (n = 1)
  | _, _, _ => false
def iterN : ItK → Str
  | .range => "range" | .zip => "zip" | .enum _ => "enumerate" | .revRange => "reversed" | .val => ""
def isStarM : ME → Bool
  | .star _ => true
  | .srange _ => true
  | _ => false
/-- the slots of a block with their names -/
def ownOf (c : Bd) (ws : List Nat) : List (Str × Nat) := ws.map fun i => (c.N.getD i "", i)
def blkB (c : Bd) (scope : Scope) (ws : List Nat) (t : Tg) : Bool := decide (scope.kind = .function) && blkC c.N c.sc scope (ownOf c ws) && t.slots.all fun j => ws.contains j
def mtName : Mt → Str
  | .append => "append" | .extend => "extend" | .insert => "insert" | .popAt => "pop"
def isTupE : Expr → Bool
  | .Tuple _ _ _ => true
  | _ => false
def tst : ME → Expr → Bool
  | .and_ a b, .BoolOp _ (ea :: rest) pos => tst a ea && (match rest with
    | [eb] => tst b eb
    | rest => tst b (.BoolOp .And rest pos))
  | .or_ a b, .BoolOp _ (ea :: rest) pos => tst a ea && (match rest with
    | [eb] => tst b eb
    | rest => tst b (.BoolOp .Or rest pos))
  | .not_ a, .UnaryOp _ ea _ => tst a ea
  | .cmp _ _ _ _, _ => true
  | .cmp2 _ _ _ _ _, _ => true
  | _, e => plainT e
def dctE : List (Option Expr) → List Expr → List Expr
  | [some k], [v] => [k, v]
  | _, _ => []
/-- the operands of a built-in function -/
def biE (b : Bi) (es : List Expr) : List Expr := match b, es with
  | .lenset, [.Call (.Name _ _) [ea] [] _] => [ea]
  | .lenset, _ => []
  | _, es => es
def biB (c : Bd) (b : Bi) (es : List Expr) : Bool := match b, es with
  | .lenset, [.Call (.Name y _) [ea] [] _] => y == "set" && glB c.sc y && notStar ea
  | .lenset, _ => false
  | b, _ => (biV b).isSome
def bmB (b : Bm) (m : Str) (n : Nat) : Bool := match b with
  | .get1 => m == "get" && decide (n = 1)
  | .get2 => m == "get" && decide (n = 2)
  | _ => false
mutual
def chkE : ME → Bd → Expr → Bool
  | .var i, c, e => varB c i e
  | .lit d, _, e => litB d e
  | .glob x _, c, .Name y _ => x == y && glB c.sc y
  | .bin op cs a b, c, .BinOp ea op' eb _ => decide (op = op') && (cs.isEmpty || binOwn op) && chkE a c ea && chkE b c eb
  | .neg a, c, .UnaryOp op ea _ => decide (op = .USub) && chkE a c ea
  | .cmp op cs a b, c, .Compare ea [op'] [eb] _ => decide (op = op') && notSet eb && (cs.isEmpty || ownOp op) && chkE a c ea && chkE b c eb
  | .cmp2 o1 o2 a b d, c, .Compare ea [p1, p2] [eb, ed] _ => decide (o1 = p1) && decide (o2 = p2) && notSet ed && chkE a c ea && chkE b c eb && chkE d c ed
  | .and_ a b, c, .BoolOp op (ea :: rest) pos => decide (op = .And) && chkE a c ea && (match rest with
    | [] => false
    | [eb] => chkE b c eb
    | rest => chkE b c (.BoolOp .And rest pos))
  | .or_ a b, c, .BoolOp op (ea :: rest) pos => decide (op = .Or) && chkE a c ea && (match rest with
    | [] => false
    | [eb] => chkE b c eb
    | rest => chkE b c (.BoolOp .Or rest pos))
  | .not_ a, c, .UnaryOp op ea _ => decide (op = .Not) && chkE a c ea
  | .ite t a b, c, .IfExp et ea eb _ => chkE t c et && tst t et && chkE a c ea && chkE b c eb
  | .tup es, c, .Tuple es' _ _ => chkEs es c es'
  | .lst es, c, .List es' _ => chkEs es c es'
  | .dct t es, c, .Dict ks vs _ => ((ks.isEmpty && vs.isEmpty && es.isEmpty) || (!t && !(dctE ks vs).isEmpty)) && !es.any isStarM && chkEs es c (dctE ks vs)
  | .sub a b, c, .Subscript ea eb _ => notSlice eb && chkE a c ea && chkE b c eb
  | .slice a lo hi, c, .Subscript ea (.Slice lo' hi' none _) _ => chkE a c ea && chkI lo c lo' && chkI hi c hi'
  | .slice3 a lo hi st, c, .Subscript ea (.Slice lo' hi' st' _) _ => st.isSome && chkE a c ea && chkI lo c lo' && chkI hi c hi' && chkI st c st'
  | .fld a f _, c, .Attribute ea f' _ => f == f' && noSuper ea && chkE a c ea
  | .call f args, c, .Call (.Name x _) es [] _ => x == f.name && glB c.sc x && es.all notStar && !args.any isStarM && (!f.io || !es.isEmpty) && chkEs args c es
  | .new k _ args, c, .Call (.Name x _) es [] _ => x == k && glB c.sc x && es.all notStar && !es.isEmpty && !args.any isStarM && chkEs args c es
  | .newK k _ kn _ args, c, .Call (.Name x _) [] kws _ => x == k && glB c.sc x && decide (kws.map (·.arg) = kn.map some) && chkKs args c kws
  | .join o l, c, .Call (.Attribute eo m ap) [el] [] cp => m == "join" && noSuper eo && notStar el && (ap.endLine == cp.line) && chkE o c eo && chkE l c el
  | .meth cs o args, c, .Call (.Attribute eo m ap) es [] cp => (cs.all fun q => q.2.name == m) && decide (es.length < 10) && (ap.endLine == cp.line) && noSuper eo && es.all notStar && !args.any isStarM && chkE o c eo && chkEs args c es
  | .methW cs kn _ o args, c, .Call (.Attribute eo m ap) [] kws cp => (cs.all fun q => q.2.name == m) && decide (kws.length < 10) && (ap.endLine == cp.line) && noSuper eo && decide (kws.map (·.arg) = kn.map some) && chkE o c eo && chkKs args c kws
  | .bi b args, c, .Call (.Name x _) es ks _ => (match ks with
    | [] => x == biName b && glB c.sc x && es.all notStar && !es.isEmpty && biB c b es && chkOs args c (biE b es)
    | [⟨some n, ed, _⟩] => x == biName b && glB c.sc x && es.all notStar && decide (es.length = 1) && min0B b n ed && chkOs args c es
    | _ => false)
  | .bm b o args, c, .Call (.Attribute eo m ap) es [] cp => bmB b m es.length && noSuper eo && es.all notStar && (ap.endLine == cp.line) && chkE o c eo && chkOs args c es
  | .mt m x args, c, .Call (.Attribute eo n ap) es [] cp => n == mtName m && varB c x eo && es.all notStar && !es.isEmpty && decide (es.length < 10) && (ap.endLine == cp.line) && !args.any isStarM && chkEs args c es
  | .comp t k it cond elt ws, c, .ListComp elt' [⟨tg, iter, ifs, a⟩] scope _ => decide (a = 0) && blkB c scope ws t && iterB c k it.length iter && (decide (k = .val) || isTupE tg || decide (k = .range)) && !it.any isStarM && chkEs it c (iterArgs k iter) && notSet iter && tgB (c.blk scope) t tg && chkC cond (c.blk scope) ifs && chkE elt (c.blk scope) elt'
  | .compK t x cond elt ws, c, .ListComp elt' [⟨tg, iter, ifs, a⟩] scope _ => decide (a = 0) && blkB c scope ws t && varB c x iter && notSet iter && tgB (c.blk scope) t tg && chkC cond (c.blk scope) ifs && chkE elt (c.blk scope) elt'
  | .dcomp t k it kx vx ws, c, .DictComp kx' vx' [⟨tg, iter, ifs, a⟩] scope _ => decide (a = 0) && ifs.isEmpty && blkB c scope ws t && iterB c k it.length iter && (decide (k = .val) || isTupE tg || decide (k = .range)) && !it.any isStarM && chkEs it c (iterArgs k iter) && notSet iter && tgB (c.blk scope) t tg && chkE kx (c.blk scope) kx' && chkE vx (c.blk scope) vx'
  | _, _, _ => false
def chkI : Option ME → Bd → Option Expr → Bool
  | none, _, none => true
  | some m, c, some e => chkE m c e
  | _, _, _ => false
def chkC : Option ME → Bd → List Expr → Bool
  | none, _, [] => true
  | some m, c, [e] => chkE m c e && tst m e
  | _, _, _ => false
def chkEs : List ME → Bd → List Expr → Bool
  | [], _, [] => true
  | .star m :: ms, c, .Starred e _ :: es => chkE m c e && chkEs ms c es
  | m :: ms, c, e :: es => !isStarM m && notStar e && chkE m c e && chkEs ms c es
  | _, _, _ => false
def chkKs : List ME → Bd → List Keyword → Bool
  | [], _, [] => true
  | m :: ms, c, ⟨_, e, _⟩ :: ks => !isStarM m && chkE m c e && chkKs ms c ks
  | _, _, _ => false
def chkOs : List ME → Bd → List Expr → Bool
  | [], _, [] => true
  | m :: ms, c, e :: es => notStar e && chkE m c e && chkOs ms c es
  | _, _, _ => false
end
/-! ### what must be known -/
def GlC (W : Wd) (x : Str) (d : D) : Prop := ∃ (u : Value) (v : V), ((W.mg x = some u) ∨ (W.mg x = none ∧ bootBuiltins x = some u ∧ x ≠ "__name__")) ∧ RelV v u ∧ ∀ F, RepD W.K W.ca F d v
def MkK (W : Wd) (k : Nat) (c : Str) (f : FS) : Prop := ∃ j, j + 1 ≤ k ∧ MkC W j c f
mutual
def okE (W : Wd) (k : Nat) : ME → Prop
  | .var _ => True
  | .lit _ => True
  | .glob x d => GlC W x d
  | .bin op cs a b => (∀ q ∈ cs, MtC W k q.1 (binM op) q.2 ∧ PySem.W.selfFirst W.K (W.ca q.1) = true) ∧ okE W k a ∧ okE W k b
  | .neg a => okE W k a
  | .cmp op cs a b => (∀ q ∈ cs, CmpC W k op q.1 q.2) ∧ okE W k a ∧ okE W k b
  | .cmp2 _ _ a b d => okE W k a ∧ okE W k b ∧ okE W k d
  | .and_ a b => okE W k a ∧ okE W k b
  | .or_ a b => okE W k a ∧ okE W k b
  | .not_ a => okE W k a
  | .ite t a b => okE W k t ∧ okE W k a ∧ okE W k b
  | .tup es => okEs W k es
  | .lst es => okEs W k es
  | .star e => okE W k e
  | .srange es => okEs W k es
  | .dct _ es => okEs W k es
  | .sub a b => okE W k a ∧ okE W k b
  | .slice a lo hi => okE W k a ∧ okO W k lo ∧ okO W k hi
  | .slice3 a lo hi st => okE W k a ∧ okO W k lo ∧ okO W k hi ∧ okO W k st
  | .fld a f cs => (∀ c ∈ cs, Cls W.K (W.ca c) ∧ NoAttr W.K (W.ca c) f) ∧ okE W k a
  | .call f args => FnC W k f ∧ okEs W k args
  | .new c f args => MkK W k c f ∧ okEs W k args
  | .newK c f kn pm args => (∃ j, j + 1 ≤ k ∧ MwC W j c f kn pm) ∧ okEs W k args
  | .join o l => okE W k o ∧ okE W k l
  | .meth cs o args => (∀ q ∈ cs, MtC W k q.1 q.2.name q.2) ∧ okE W k o ∧ okEs W k args
  | .methW cs kn pm o args => (∀ q ∈ cs, MtwC W k q.1 q.2.name q.2 kn pm) ∧ okE W k o ∧ okEs W k args
  | .bi b args => (W.mg (biName b) = none ∧ W.mg "set" = none ∧ biOk W.K W.ca b) ∧ okEs W k args
  | .bm _ o args => okE W k o ∧ okEs W k args
  | .mt _ _ args => okEs W k args
  | .comp _ i it cond elt _ => W.mg (iterN i) = none ∧ okEs W k it ∧ okO W k cond ∧ okE W k elt
  | .compK _ _ cond elt _ => okO W k cond ∧ okE W k elt
  | .dcomp _ i it kx vx _ => W.mg (iterN i) = none ∧ okEs W k it ∧ okE W k kx ∧ okE W k vx
  | .fstr ps => okEs W k ps
def okO (W : Wd) (k : Nat) : Option ME → Prop
  | none => True
  | some m => okE W k m
def okEs (W : Wd) (k : Nat) : List ME → Prop
  | [] => True
  | m :: ms => okE W k m ∧ okEs W k ms
end
end Mi

set_option Elab.async false
set_option linter.all false
set_option maxRecDepth 100000
set_option maxHeartbeats 8000000
/-! M3d: an expression's tree tells what the expression does. -/
namespace Mi
open PySem PySem.Spec PyProof.Rows L2
open Evl (Ex)
theorem FnG.mono' {P : Program} {w : World} {K : PySem.W.Frag} {mg : Str → Option Value} {base : Heap} {j k : Nat} {f : Addr} {fd : FuncData} {ps : List Str} {sp : Sp} (F : FnG P w K mg base j f fd ps sp) (h : j ≤ k) : FnG P w K mg base k f fd ps sp := F.mono h
section
variable {X : Cx} {ca : Str → Addr} {k : Nat} {c : Bd}
theorem pw_any {op : PySem.BoolOp} {vs : List Expr} {p : Pos} {t : TT} (h : PT X (.BoolOp op vs p) t) : PW X (.BoolOp op vs p) t :=
  ⟨fun wh pins s σ H Q I q => by
    have e : PySem.isTrue (.BoolOp op vs p) X.env wh = PySem.isTrue (.BoolOp op vs p) X.env (eval (.BoolOp op vs p) X.env) := rfl
    rw [e]
    exact h.run pins s σ H Q I q⟩
theorem lit_e (g : Gd c k X) {d : D} {e : Expr} (h : litB d e = true) : PE X e (tE X.K ca (ev (.lit d))) := by
  cases d <;> cases e <;> first | (cases h; done) | skip
  all_goals (rename_i cst _ _; cases cst <;> first | (cases h; done) | skip)
  · exact e_const (d := .non) pe_non (fun F => rfl) fun ρ => rfl
  · simp only [litB, beq_iff_eq] at h
    subst h; exact e_const (d := .bl _) pe_bl (fun F => rfl) fun ρ => rfl
  · simp only [litB, decide_eq_true_eq] at h
    subst h; exact e_const (d := .int _) pe_int (fun F => rfl) fun ρ => rfl
  · simp only [litB, decide_eq_true_eq] at h
    subst h; exact e_const (d := .str _) pe_str (fun F => rfl) fun ρ => rfl
theorem opd_e (g : Gd c k X) {m : ME} {e : Expr} (h : chkE m c e = true) (hE : PE X e (tE X.K ca (ev m))) : PE X e (tO X.K ca (opd m (ev m))) := by
  cases m with
  | var i => exact o_var (g.var (by simpa only [chkE] using h))
  | _ => exact o_of hE
theorem star_no {m : ME} {e : Expr} (h : chkE m c e = true) : isStarM m = false := by
  cases m <;> first | rfl | (cases e <;> cases h)
theorem evs_cons {m : ME} {ms : List ME} (h : isStarM m = false) : evs (m :: ms) = fun ρ => (ev m ρ).bind fun t ρ1 => (evs ms ρ1).bind fun ys ρ2 => .ok (t.d :: ys) ρ2 := by
  funext ρ
  cases m <;> first | rfl | cases h
theorem chkEs_cons {m : ME} {ms : List ME} {e : Expr} {es : List Expr} (hm : isStarM m = false) (h : chkEs (m :: ms) c (e :: es) = true) : notStar e = true ∧ chkE m c e = true ∧ chkEs ms c es = true := by
  cases m <;> first | (cases hm; done) | (simp only [chkEs, Bool.and_eq_true] at h; exact ⟨h.1.1.2, h.1.2, h.2⟩)
theorem gl_e (g : Gd c k X) {x : Str} {d : D} {p : Pos} (hg : glB c.sc x = true) (h : GlC (X.wd ca) x d) : PE X (.Name x p) (tE X.K ca (ev (.glob x d))) := by
  obtain ⟨u, v, hm, r, hd⟩ := h
  obtain ⟨g1, g2⟩ := g.gl hg
  rcases hm with hm | ⟨h1, h2, h3⟩
  · exact e_const (pe_glob g1 hm r g2) hd fun ρ => rfl
  · exact e_const (pe_bltn g1 h1 h2 r h3 g2) hd fun ρ => rfl
theorem evs_len : ∀ {ms : List ME} {ρ ρ' : Sl} {ds : List D}, (ms.any isStarM) = false → evs ms ρ = .ok ds ρ' → ds.length = ms.length
  | [], _, _, _, _, h => by cases h; rfl
  | m :: ms, ρ, ρ', ds, hs, h => by
    simp only [List.any_cons, Bool.or_eq_false_iff] at hs
    rw [evs_cons hs.1] at h
    simp only at h
    cases h1 : ev m ρ with
    | ok t ρ1 =>
      rw [h1] at h
      simp only [R.bind_ok] at h
      cases h2 : evs ms ρ1 with
      | ok ys ρ2 =>
        rw [h2] at h
        simp only [R.bind_ok] at h
        cases h
        rw [List.length_cons, List.length_cons, evs_len hs.2 h2]
      | exc _ _ => rw [h2] at h; cases h
      | bad => rw [h2] at h; cases h
    | exc _ _ => rw [h1] at h; cases h
    | bad => rw [h1] at h; cases h
theorem MtC.mono {W : Wd} {j k : Nat} {c m : Str} {f : FS} (h : MtC W j c m f) (hj : j ≤ k) : MtC W k c m f := by
  obtain ⟨fa, fd, ps, a, b, F, d⟩ := h.ex
  exact ⟨fa, fd, ps, a, b, F.mono hj, d⟩
theorem FnC.mono {W : Wd} {j k : Nat} {f : FS} (h : FnC W j f) (hj : j ≤ k) : FnC W k f := by
  obtain ⟨fa, fd, ps, F, a, b, d⟩ := h.ex
  exact ⟨fa, fd, ps, F.mono hj, a, b, d⟩
theorem meth_pl {o : Expr} {m : Str} {apos pos : Pos} {es : List Expr} (h : noSuper o = true) (hs : es.all notStar = true) (hn : es.length < 10) (hl : (apos.endLine == pos.line) = true) : eval (.Call (.Attribute o m apos) es [] pos) X.env = (do
      let ov ← eval o X.env
      standAt apos.atName
      let (f, first) ← holding [ov] (getMethod ov m (do return (← importBound o X.env).getD true))
      callWith pos f first (backTo pos (starEach es X.env)) (backToKw pos (keywordEach [] X.env))) := by
  have form : methodCallForm (es.length + ([] : List Keyword).length) (backTo pos (starEach es X.env)) (backToKw pos (keywordEach [] X.env)) = true := by
    unfold methodCallForm
    rw [star_few pos hs]
    simp only [Bool.true_and, Bool.and_eq_true, decide_eq_true_eq]
    refine ⟨rfl, ?_⟩
    show es.length + 0 + 0 < 30
    omega
  show (do
    let ov ← attributeBase o m X.env (eval o X.env)
    standAt apos.atName
    methodCall o m apos pos X.env ov (es.length + ([] : List Keyword).length) (backTo pos (starEach es X.env)) (backToKw pos (keywordEach [] X.env))) = _
  rw [super_base h]
  unfold methodCall calleeOf methodCallPos
  rw [form]
  simp only [Bool.not_true, Bool.false_or, hl, if_true, pure_bind]
theorem meth_plW {o : Expr} {m : Str} {apos pos : Pos} {kws : List Keyword} (h : noSuper o = true) (hall : (backToKw pos (keywordEach kws X.env)).all (·.1.isSome) = true) (hn : kws.length < 10) (hl : (apos.endLine == pos.line) = true) : eval (.Call (.Attribute o m apos) [] kws pos) X.env = (do
      let ov ← eval o X.env
      standAt apos.atName
      let (f, first) ← holding [ov] (getMethod ov m (do return (← importBound o X.env).getD true))
      callWith pos f first (backTo pos (starEach [] X.env)) (backToKw pos (keywordEach kws X.env))) := by
  have form : methodCallForm (([] : List Expr).length + kws.length) (backTo pos (starEach [] X.env)) (backToKw pos (keywordEach kws X.env)) = true := by
    unfold methodCallForm
    rw [hall]
    simp only [Bool.true_and, Bool.and_eq_true, decide_eq_true_eq]
    refine ⟨⟨rfl, trivial⟩, ?_⟩
    show ([] : List Expr).length + kws.length + _ < 30
    have : (if (backToKw pos (keywordEach kws X.env)).isEmpty then 0 else 1) ≤ 1 := by split <;> omega
    simp only [List.length_nil]
    omega
  show (do
    let ov ← attributeBase o m X.env (eval o X.env)
    standAt apos.atName
    methodCall o m apos pos X.env ov (([] : List Expr).length + kws.length) (backTo pos (starEach [] X.env)) (backToKw pos (keywordEach kws X.env))) = _
  rw [super_base h]
  unfold methodCall calleeOf methodCallPos
  rw [form]
  simp only [Bool.not_true, Bool.false_or, hl, if_true, pure_bind]
end
end Mi

set_option Elab.async false
set_option linter.all false
set_option maxRecDepth 100000
set_option maxHeartbeats 16000000
/-! M3e: the theorem. -/
namespace Mi
open PySem PySem.Spec PyProof.Rows L2
open Evl (Ex)
theorem len1 {α : Type} : ∀ {l : List α}, l.length = 1 → ∃ a, l = [a]
  | [a], _ => ⟨a, rfl⟩
theorem all_any {es : List Expr} {e : Expr} (h : (e :: es).all notStar = true) : notStar e = true ∧ es.all notStar = true := by
  simpa only [List.all_cons, Bool.and_eq_true] using h
theorem no_any {m : ME} {ms : List ME} (h : (!(m :: ms).any isStarM) = true) : isStarM m = false ∧ (!ms.any isStarM) = true := by
  simpa only [List.any_cons, Bool.not_or, Bool.and_eq_true, Bool.not_eq_true'] using h
section
variable {ca : Str → Addr} {k : Nat}
/-- a walk's text -/
theorem sW {X : Cx} {c : Bd} (g : Gd c k X) {kd : ItK} {it : List ME} {iter tg : Expr} (hm : X.mg (iterN kd) = none) (hb : iterB c kd it.length iter = true) (ht : (decide (kd = .val) || isTupE tg || decide (kd = .range)) = true) (hs : (!it.any isStarM) = true)
    (hv : ∀ m, it = [m] → kd = .val → PE X iter (tE X.K ca (ev m))) (ha : PA X (iterArgs kd iter) (tEs X.K ca (evs it))) : PI X tg iter (tW X.K ca kd (evs it)) := by
  have hs' : it.any isStarM = false := by simpa using hs
  have hlen : ∀ ρ ds ρ', evs it ρ = .ok ds ρ' → ds.length = it.length := fun ρ ds ρ' h => evs_len hs' h
  cases kd with
  | val =>
    simp only [iterB, Bool.and_eq_true, decide_eq_true_eq] at hb
    obtain ⟨m, rfl⟩ : ∃ m, it = [m] := by
      match it, hb.1.1 with
      | [m], _ => exact ⟨m, rfl⟩
    have := w_val (tg := tg) (hv m rfl rfl)
    have e : evs [m] = fun ρ => (ev m ρ).bind fun t ρ1 => .ok [t.d] ρ1 := by
      rw [evs_cons (by simpa using hs')]
      rfl
    rw [e]
    exact this
  | range =>
    cases iter <;> first | (cases hb; done) | skip
    rename_i f es ks p
    cases f <;> first | (cases hb; done) | skip
    cases ks <;> first | (cases hb; done) | skip
    rename_i x q
    simp only [iterB, Bool.and_eq_true, Bool.or_eq_true, decide_eq_true_eq, beq_iff_eq] at hb
    obtain ⟨⟨⟨⟨rfl, h2⟩, h3⟩, h4⟩, h5⟩ := hb
    obtain ⟨g1, g2⟩ := g.gl h2
    rcases h5 with h5 | h5
    · obtain ⟨e, rfl⟩ := len1 (h4.trans h5)
      · exact w_range1 g1 hm ha (star_cons (all_any h3).1) fun ρ ds ρ' h => (hlen ρ ds ρ' h).trans h5
    · obtain ⟨e, e2, rfl⟩ := len2 (h4.trans h5)
      · obtain ⟨s1, s2⟩ := all_any h3
        have s3 := (all_any s2).1
        exact w_range2 g1 hm ha (by rw [star_cons s1, star_cons s3]; rfl) (by rw [star_cons s3]; rfl) fun ρ ds ρ' h => (hlen ρ ds ρ' h).trans h5
  | zip =>
    cases iter <;> first | (cases hb; done) | skip
    rename_i f es ks p
    cases f <;> first | (cases hb; done) | skip
    cases ks <;> first | (cases hb; done) | skip
    rename_i x q
    simp only [iterB, Bool.and_eq_true, Bool.or_eq_true, decide_eq_true_eq, beq_iff_eq] at hb
    obtain ⟨⟨⟨⟨rfl, h2⟩, h3⟩, h4⟩, h5⟩ := hb
    obtain ⟨g1, g2⟩ := g.gl h2
    simp only [reduceCtorEq, decide_false, Bool.or_false, Bool.false_or] at ht
    cases tg <;> first | (cases ht; done) | skip
    obtain ⟨e, e2, rfl⟩ := len2 (h4.trans h5)
    · obtain ⟨s1, s2⟩ := all_any h3
      exact w_zip g1 hm ha (star_cons s1) (star_all _ s2)
  | enum s =>
    cases iter <;> first | (cases hb; done) | skip
    rename_i f es ks p
    cases f <;> first | (cases hb; done) | skip
    cases ks <;> first | (cases hb; done) | skip
    rename_i x q
    simp only [iterB, Bool.and_eq_true, Bool.or_eq_true, decide_eq_true_eq, beq_iff_eq] at hb
    obtain ⟨⟨⟨⟨⟨rfl, rfl⟩, h2⟩, h3⟩, h4⟩, h5⟩ := hb
    obtain ⟨g1, g2⟩ := g.gl h2
    simp only [reduceCtorEq, decide_false, Bool.or_false, Bool.false_or] at ht
    cases tg <;> first | (cases ht; done) | skip
    obtain ⟨e, rfl⟩ := len1 (h4.trans h5)
    · exact w_enum g1 hm ha (by rw [star_cons (all_any h3).1]; rfl) fun ρ ds ρ' h => (hlen ρ ds ρ' h).trans h5
  | revRange => cases hb
theorem blk_ok {X : Cx} {c : Bd} (g : Gd c k X) {scope : Scope} {ws : List Nat} {t : Tg} (h : blkB c scope ws t = true) : scope.kind = .function ∧ BlkOk X.N X.env.scope scope (ownOf c ws) ∧ (∀ j ∈ t.slots, j ∈ (ownOf c ws).map (·.2)) ∧ (ownOf c ws).map (·.2) = ws := by
  simp only [blkB, Bool.and_eq_true, decide_eq_true_eq] at h
  have e : (ownOf c ws).map (·.2) = ws := by
    unfold ownOf
    rw [List.map_map]
    exact List.map_id ws
  refine ⟨h.1.1, ?_, fun j hj => ?_, e⟩
  · rw [g.hN, g.hs]
    exact blkOk_by h.1.2
  · rw [e]
    have := List.all_eq_true.mp h.2 j hj
    simpa using this
theorem kw_all {kws : List Keyword} {kn : List Str} {env : Env} (pos : Pos) (h : kws.map (·.arg) = kn.map some) : (backToKw pos (keywordEach kws env)).all (·.1.isSome) = true ∧ (backToKw pos (keywordEach kws env)).filterMap (·.1) = kn ∧ ((backTo pos (starEach [] env)).any (·.1) || (backToKw pos (keywordEach kws env)).any (·.1.isNone)) = false := by
  induction kws generalizing kn with
  | nil =>
    cases kn with
    | nil => exact ⟨rfl, rfl, rfl⟩
    | cons a r => cases h
  | cons q kws ih =>
    cases kn with
    | nil => cases h
    | cons a r =>
      obtain ⟨nm, e, p⟩ := q
      simp only [List.map_cons, List.cons.injEq] at h
      obtain ⟨h1, h2⟩ := h
      subst h1
      obtain ⟨i1, i2, i3⟩ := ih h2
      simp only [backToKw, backTo, starEach, keywordEach, List.map_cons, List.all_cons, List.any_cons, List.filterMap_cons, List.map_nil, List.any_nil, Bool.false_or] at i1 i2 i3 ⊢
      refine ⟨by simp only [Option.isSome_some, Bool.true_and]; exact i1, by simp only [i2], by simp only [Option.isNone_some, Bool.false_or]; exact i3⟩
theorem both {X : Cx} {e : Expr} {f : Sl → R T} (h : PE X e (tE X.K ca f)) : PE X e (tE X.K ca f) ∧ (plainT e = true → PT X e (tT X.K ca f)) := ⟨h, fun ht => t_val h (plain_test ht)⟩
mutual
theorem sB : ∀ (m : ME) {X : Cx} {c : Bd} {e : Expr}, Gd c k X → okE (X.wd ca) k m → chkE m c e = true → PE X e (tE X.K ca (ev m)) ∧ (tst m e = true → PT X e (tT X.K ca (ev m)))
  | .var i, X, c, e, g, o, h => both (e_var (g.var (by simpa only [chkE] using h)))
  | .lit d, X, c, e, g, o, h => both (lit_e g (by simpa only [chkE] using h))
  | .glob x d, X, c, e, g, o, h => both (by
    cases e <;> first | (cases h; done) | skip
    simp only [chkE, Bool.and_eq_true, beq_iff_eq] at h
    obtain ⟨rfl, h⟩ := h
    exact gl_e g h o)
  | .bin op cs a b, X, c, e, g, o, h => both (by
    cases e <;> first | (cases h; done) | skip
    simp only [chkE, Bool.and_eq_true, decide_eq_true_eq] at h
    obtain ⟨⟨⟨rfl, hc⟩, h1⟩, h2⟩ := h
    obtain ⟨oc, o1, o2⟩ := o
    have p1 := opd_e g h1 ((sB a g o1 h1).1)
    have p2 := opd_e g h2 ((sB b g o2 h2).1)
    cases cs with
    | nil => exact e_bin p1 p2
    | cons q cs => exact e_binO (by simpa using hc) oc g.rm g.gd p1 p2)
  | .neg a, X, c, e, g, o, h => both (by
    cases e <;> first | (cases h; done) | skip
    simp only [chkE, Bool.and_eq_true, decide_eq_true_eq] at h
    obtain ⟨rfl, h1⟩ := h
    exact e_neg ((sB a g o h1).1))
  | .cmp op cs a b, X, c, e, g, o, h => ⟨by
    cases e <;> first | (cases h; done) | skip
    rename_i l ops rs p
    match ops, rs, h with
    | [op'], [r], h =>
      simp only [chkE, Bool.and_eq_true, Bool.or_eq_true, decide_eq_true_eq] at h
      obtain ⟨⟨⟨⟨rfl, h0⟩, hc⟩, h1⟩, h2⟩ := h
      obtain ⟨oc, o1, o2⟩ := o
      have p1 := opd_e g h1 ((sB a g o1 h1).1)
      have p2 := opd_e g h2 ((sB b g o2 h2).1)
      rcases hc with hc | hc
      · cases cs with
        | nil => exact e_cmp g.u65 (set_marks op h0) p1 p2
        | cons q cs => cases hc
      · exact e_cmpO hc g.u65 (set_marks op h0) oc g.rm g.gd p1 p2, fun ht => by
    cases e <;> first | (cases h; done) | skip
    rename_i l ops rs p
    match ops, rs, h with
    | [op'], [r], h =>
      simp only [chkE, Bool.and_eq_true, Bool.or_eq_true, decide_eq_true_eq] at h
      obtain ⟨⟨⟨⟨rfl, h0⟩, hc⟩, h1⟩, h2⟩ := h
      obtain ⟨oc, o1, o2⟩ := o
      have p1 := opd_e g h1 ((sB a g o1 h1).1)
      have p2 := opd_e g h2 ((sB b g o2 h2).1)
      rcases hc with hc | hc
      · cases cs with
        | nil => exact t_cmp g.u65 (set_marks op h0) p1 p2
        | cons q cs => cases hc
      · exact t_cmpO hc g.u65 (set_marks op h0) oc g.rm g.gd p1 p2⟩
  | .cmp2 o1 o2 a b d, X, c, e, g, o, h => ⟨by
    cases e <;> first | (cases h; done) | skip
    rename_i l ops rs p
    match ops, rs, h with
    | [p1, p2], [r1, r2], h =>
      simp only [chkE, Bool.and_eq_true, decide_eq_true_eq] at h
      obtain ⟨⟨⟨⟨⟨rfl, rfl⟩, h0⟩, h1⟩, h2⟩, h3⟩ := h
      obtain ⟨k1, k2, k3⟩ := o
      exact e_cmp2 g.u65 (set_marks o2 h0) (opd_e g h1 ((sB a g k1 h1).1)) (opd_e g h2 ((sB b g k2 h2).1)) (opd_e g h3 ((sB d g k3 h3).1)), fun ht => by
    cases e <;> first | (cases h; done) | skip
    rename_i l ops rs p
    match ops, rs, h with
    | [p1, p2], [r1, r2], h =>
      simp only [chkE, Bool.and_eq_true, decide_eq_true_eq] at h
      obtain ⟨⟨⟨⟨⟨rfl, rfl⟩, h0⟩, h1⟩, h2⟩, h3⟩ := h
      obtain ⟨k1, k2, k3⟩ := o
      exact t_cmp2 g.u65 (set_marks o2 h0) (opd_e g h1 ((sB a g k1 h1).1)) (opd_e g h2 ((sB b g k2 h2).1)) (opd_e g h3 ((sB d g k3 h3).1))⟩
  | .and_ a b, X, c, e, g, o, h => ⟨by
    cases e <;> first | (cases h; done) | skip
    rename_i op vs p
    match vs, h with
    | ea :: rest, h =>
      simp only [chkE, Bool.and_eq_true, decide_eq_true_eq] at h
      obtain ⟨⟨rfl, h1⟩, h2⟩ := h
      match rest, h2 with
      | [eb], h2 => exact e_and ((sB a g o.1 h1).1) (pe_one ((sB b g o.2 h2).1))
      | eb :: ec :: r, h2 => exact e_and ((sB a g o.1 h1).1) ((sB b g o.2 h2).1), fun ht => by
    cases e <;> first | (cases h; done) | skip
    rename_i op vs p
    cases vs with
    | nil => cases h
    | cons ea rest =>
      simp only [chkE, Bool.and_eq_true, decide_eq_true_eq] at h
      simp only [tst, Bool.and_eq_true] at ht
      obtain ⟨⟨rfl, h1⟩, h2⟩ := h
      obtain ⟨t1, t2⟩ := ht
      match rest, h2, t2 with
      | [eb], h2, t2 => exact (w_and (((sB a g o.1 h1).2 t1)) (pw_and1 (((sB b g o.2 h2).2 t2)))).pt
      | eb :: ec :: r, h2, t2 => exact (w_and (((sB a g o.1 h1).2 t1)) (pw_any (((sB b g o.2 h2).2 t2)))).pt⟩
  | .or_ a b, X, c, e, g, o, h => ⟨by
    cases e <;> first | (cases h; done) | skip
    rename_i op vs p
    match vs, h with
    | ea :: rest, h =>
      simp only [chkE, Bool.and_eq_true, decide_eq_true_eq] at h
      obtain ⟨⟨rfl, h1⟩, h2⟩ := h
      match rest, h2 with
      | [eb], h2 => exact e_or ((sB a g o.1 h1).1) (pe_one ((sB b g o.2 h2).1))
      | eb :: ec :: r, h2 => exact e_or ((sB a g o.1 h1).1) ((sB b g o.2 h2).1), fun ht => by
    cases e <;> first | (cases h; done) | skip
    rename_i op vs p
    cases vs with
    | nil => cases h
    | cons ea rest =>
      simp only [chkE, Bool.and_eq_true, decide_eq_true_eq] at h
      simp only [tst, Bool.and_eq_true] at ht
      obtain ⟨⟨rfl, h1⟩, h2⟩ := h
      obtain ⟨t1, t2⟩ := ht
      match rest, h2, t2 with
      | [eb], h2, t2 => exact (w_or (((sB a g o.1 h1).2 t1)) (pw_or1 (((sB b g o.2 h2).2 t2)))).pt
      | eb :: ec :: r, h2, t2 => exact (w_or (((sB a g o.1 h1).2 t1)) (pw_any (((sB b g o.2 h2).2 t2)))).pt⟩
  | .not_ a, X, c, e, g, o, h => ⟨by
    cases e <;> first | (cases h; done) | skip
    simp only [chkE, Bool.and_eq_true, decide_eq_true_eq] at h
    obtain ⟨rfl, h1⟩ := h
    exact e_not ((sB a g o h1).1), fun ht => by
    cases e <;> first | (cases h; done) | skip
    simp only [chkE, Bool.and_eq_true, decide_eq_true_eq] at h
    obtain ⟨rfl, h1⟩ := h
    exact t_not (((sB a g o h1).2 ht))⟩
  | .ite t a b, X, c, e, g, o, h => both (by
    cases e <;> first | (cases h; done) | skip
    simp only [chkE, Bool.and_eq_true] at h
    obtain ⟨⟨⟨h1, h2⟩, h3⟩, h4⟩ := h
    exact e_ite (((sB t g o.1 h1).2 h2)) ((sB a g o.2.1 h3).1) ((sB b g o.2.2 h4).1))
  | .tup es, X, c, e, g, o, h => both (by
    cases e <;> first | (cases h; done) | skip
    exact e_tup (sEs es g o (by simpa only [chkE] using h)).1)
  | .lst es, X, c, e, g, o, h => both (by
    cases e <;> first | (cases h; done) | skip
    exact e_lst (sEs es g o (by simpa only [chkE] using h)).1)
  | .star a, X, c, e, g, o, h => both (by cases e <;> cases h)
  | .srange a, X, c, e, g, o, h => both (by cases e <;> cases h)
  | .dct t es, X, c, e, g, o, h => both (by
    cases e <;> first | (cases h; done) | skip
    rename_i ks vs p
    simp only [chkE, Bool.and_eq_true, Bool.or_eq_true] at h
    obtain ⟨⟨h0, h1⟩, h2⟩ := h
    have shape : (ks = [] ∧ vs = []) ∨ ∃ ea eb, ks = [some ea] ∧ vs = [eb] ∧ t = false := by
      rcases h0 with ⟨⟨h0, h3⟩, _⟩ | ⟨h0, h3⟩
      · exact .inl ⟨List.isEmpty_iff.mp h0, List.isEmpty_iff.mp h3⟩
      · refine .inr ?_
        have ht : t = false := by simpa using h0
        unfold dctE at h3
        split at h3
        · exact ⟨_, _, rfl, rfl, ht⟩
        · cases h3
    rcases shape with ⟨rfl, rfl⟩ | ⟨ea, eb, rfl, rfl, rfl⟩
    · cases es with
      | nil => exact e_dict0 t
      | cons a as => cases a <;> cases h2
    · have h2 : chkEs es c [ea, eb] = true := h2
      match es, o, h1, h2 with
      | [a, b], o, h1, h2 =>
        obtain ⟨s1, h1⟩ := no_any h1
        obtain ⟨s2, _⟩ := no_any h1
        obtain ⟨_, c1, h2⟩ := chkEs_cons s1 h2
        obtain ⟨_, c2, _⟩ := chkEs_cons s2 h2
        have := e_dict1 (pos := p) ((sB a g o.1 c1).1) ((sB b g o.2.1 c2).1)
        have e0 : ev (.dct false [a, b]) = fun ρ => (((fun ρ => (ev a ρ).bind fun t ρ1 => ((ev b ρ1).bind fun u ρ2 => .ok [u.d] ρ2).bind fun ys ρ2 => .ok (t.d :: ys) ρ2) : Sl → R (List D)) ρ).bind fun ds ρ1 => R.opt ((evKeys false ds).map own) ρ1 := by
          funext ρ
          show (evs [a, b] ρ).bind _ = _
          rw [evs_cons s1, evs_cons s2]
          rfl
        rw [e0]
        exact this
      | [], o, h1, h2 => cases h2
      | [a], o, h1, h2 =>
        obtain ⟨s1, _⟩ := no_any h1
        cases (chkEs_cons s1 h2).2.2
      | a :: b :: d :: r, o, h1, h2 =>
        obtain ⟨s1, h1⟩ := no_any h1
        obtain ⟨s2, h1⟩ := no_any h1
        have h3 := (chkEs_cons s2 (chkEs_cons s1 h2).2.2).2.2
        cases d <;> cases h3)
  | .sub a b, X, c, e, g, o, h => both (by
    cases e <;> first | (cases h; done) | skip
    rename_i ea eb p
    have h : notSlice eb = true ∧ chkE a c ea = true ∧ chkE b c eb = true := by
      simpa only [chkE, Bool.and_eq_true, and_assoc] using h
    exact e_sub g.u1 (slice_plain h.1) (opd_e g h.2.1 ((sB a g o.1 h.2.1).1)) (opd_e g h.2.2 ((sB b g o.2 h.2.2).1)))
  | .slice a lo hi, X, c, e, g, o, h => both (by
    cases e <;> first | (cases h; done) | skip
    rename_i ea eb p
    cases eb <;> first | (cases h; done) | skip
    rename_i l u st q
    cases st <;> first | (cases h; done) | skip
    simp only [chkE, Bool.and_eq_true] at h
    obtain ⟨⟨h1, h2⟩, h3⟩ := h
    exact e_slice (opd_e g h1 ((sB a g o.1 h1).1)) (sI lo g o.2.1 h2) (sI hi g o.2.2 h3))
  | .slice3 a lo hi st, X, c, e, g, o, h => both (by
    cases e <;> first | (cases h; done) | skip
    rename_i ea eb p
    cases eb <;> first | (cases h; done) | skip
    rename_i l u z q
    simp only [chkE, Bool.and_eq_true] at h
    obtain ⟨⟨⟨⟨h0, h1⟩, h2⟩, h3⟩, h4⟩ := h
    cases z with
    | none => cases st <;> first | (cases h0; done) | (cases h4; done)
    | some z => exact e_slice3 (opd_e g h1 ((sB a g o.1 h1).1)) (sI lo g o.2.1 h2) (sI hi g o.2.2.1 h3) (sI st g o.2.2.2 h4))
  | .fld a f cs, X, c, e, g, o, h => both (by
    cases e <;> first | (cases h; done) | skip
    simp only [chkE, Bool.and_eq_true, beq_iff_eq] at h
    obtain ⟨⟨rfl, h0⟩, h1⟩ := h
    exact e_fld o.1 (super_base h0) (opd_e g h1 ((sB a g o.2 h1).1)))
  | .call f args, X, c, e, g, o, h => both (by
    cases e <;> first | (cases h; done) | skip
    rename_i fn es ks p
    cases fn <;> first | (cases h; done) | skip
    cases ks <;> first | (cases h; done) | skip
    rename_i x q
    simp only [chkE, Bool.and_eq_true, beq_iff_eq] at h
    obtain ⟨⟨⟨⟨⟨rfl, h1⟩, h2⟩, h3⟩, h4⟩, h5⟩ := h
    obtain ⟨g1, g2⟩ := g.gl h1
    have ha := (sEs args g o.2 h5).1
    cases hio : f.io with
    | false =>
      have e0 : ev (.call f args) = fun ρ => (evs args ρ).bind fun ds ρ1 => callF f (ds.map sh) ρ1 := by
        funext ρ
        cases args with
        | nil =>
          have : ev (.call f []) ρ = if f.io = true then .bad else (evs [] ρ).bind fun ds ρ1 => callF f (ds.map sh) ρ1 := rfl
          rw [this, hio]; rfl
        | cons m ms =>
          have : ev (.call f (m :: ms)) ρ = if f.io = true then ((opd m (ev m) ρ).bind fun o ρ1 => (evs ms ρ1).bind fun ds ρ2 => callIO f o (ds.map sh) ρ2) else (evs (m :: ms) ρ).bind fun ds ρ1 => callF f (ds.map sh) ρ1 := rfl
          rw [this, hio]; rfl
      rw [e0]
      match es, args, h2, h3, h5, ha with
      | [], [], h2, h3, h5, ha => exact e_call0 o.1 g.rm g.gd g1 g2
      | e :: es, m :: ms, h2, h3, h5, ha => exact e_call o.1 g.rm g.gd g1 g2 ha (star_cons (all_any h2).1) (star_all _ (all_any h2).2)
      | [], m :: ms, h2, h3, h5, ha => cases m <;> cases h5
      | e :: es, [], h2, h3, h5, ha => cases h5
    | true =>
      match es, args, h2, h3, h4, h5, o with
      | e :: es, m :: ms, h2, h3, h4, h5, o =>
        obtain ⟨n1, n2⟩ := no_any h3
        obtain ⟨c1, c2, c3⟩ := chkEs_cons n1 h5
        have e0 : ev (.call f (m :: ms)) = fun ρ => (opd m (ev m) ρ).bind fun o ρ1 => (evs ms ρ1).bind fun ds ρ2 => callIO f o (ds.map sh) ρ2 := by
          funext ρ
          have : ev (.call f (m :: ms)) ρ = if f.io = true then ((opd m (ev m) ρ).bind fun o ρ1 => (evs ms ρ1).bind fun ds ρ2 => callIO f o (ds.map sh) ρ2) else (evs (m :: ms) ρ).bind fun ds ρ1 => callF f (ds.map sh) ρ1 := rfl
          rw [this, hio]; rfl
        rw [e0]
        exact e_callIO o.1 g.rm g.gd g1 g2 (opd_e g c2 ((sB m g o.2.1 c2).1)) (sEs ms g o.2.2 c3).1 (star_cons c1) (star_all _ (all_any h2).2)
      | [], _, h2, h3, h4, h5, o => rw [hio] at h4; cases h4
      | e :: es, [], h2, h3, h4, h5, o => cases h5)
  | .new cl f args, X, c, e, g, o, h => both (by
    cases e <;> first | (cases h; done) | skip
    rename_i fn es ks p
    cases fn <;> first | (cases h; done) | skip
    cases ks <;> first | (cases h; done) | skip
    rename_i x q
    simp only [chkE, Bool.and_eq_true, beq_iff_eq] at h
    obtain ⟨⟨⟨⟨⟨rfl, h1⟩, h2⟩, h3⟩, h4⟩, h5⟩ := h
    obtain ⟨g1, g2⟩ := g.gl h1
    have ha := (sEs args g o.2 h5).1
    obtain ⟨j, hj, mk⟩ := o.1
    match es, h2, h3, ha with
    | e :: es, h2, h3, ha => exact e_new mk (g.rm.mono hj) g.gd g1 g2 ha (star_cons (all_any h2).1) (star_all _ (all_any h2).2)
    | [], h2, h3, ha => cases h3)
  | .newK cl f kn pm args, X, c, e, g, o, h => both (by
    cases e <;> first | (cases h; done) | skip
    rename_i fn es ks p
    cases fn <;> first | (cases h; done) | skip
    cases es <;> first | (cases h; done) | skip
    rename_i x q
    simp only [chkE, Bool.and_eq_true, beq_iff_eq, decide_eq_true_eq] at h
    obtain ⟨⟨⟨rfl, h1⟩, h2⟩, h3⟩ := h
    obtain ⟨g1, g2⟩ := g.gl h1
    obtain ⟨j, hj, mk⟩ := o.1
    obtain ⟨k1, k2, k3⟩ := kw_all (env := X.env) p h2
    exact e_newK mk (g.rm.mono hj) g.gd g1 g2 (sKs args g o.2 h3) k1 k2 k3)
  | .join ob l, X, c, e, g, o, h => both (by
    cases e <;> first | (cases h; done) | skip
    rename_i fn es ks p
    cases fn <;> first | (cases h; done) | skip
    rename_i eo m ap
    match es, ks, h with
    | [el], [], h =>
      simp only [chkE, Bool.and_eq_true, beq_iff_eq] at h
      obtain ⟨⟨⟨⟨⟨rfl, h1⟩, h2⟩, h3⟩, h4⟩, h5⟩ := h
      exact e_join (opd_e g h4 ((sB ob g o.1 h4).1)) (opd_e g h5 ((sB l g o.2 h5).1)) (by rw [star_cons h2]; rfl) (super_base h1) (by simpa using h3))
  | .methW cs kn pm ob args, X, c, e, g, o, h => both (by
    cases e <;> first | (cases h; done) | skip
    rename_i fn es ks p
    cases fn <;> first | (cases h; done) | skip
    cases es <;> first | (cases h; done) | skip
    rename_i eo m ap
    simp only [chkE, Bool.and_eq_true, decide_eq_true_eq] at h
    obtain ⟨⟨⟨⟨⟨⟨h0, hn⟩, hl⟩, h1⟩, h2⟩, h4⟩, h5⟩ := h
    have hcs : ∀ q ∈ cs, MtwC (X.wd ca) k q.1 m q.2 kn pm ∧ q.2.name = m := fun q hq => by
      have e := beq_iff_eq.mp (List.all_eq_true.mp h0 q hq)
      exact ⟨e ▸ o.1 q hq, e⟩
    have ho := opd_e g h4 ((sB ob g o.2.1 h4).1)
    obtain ⟨k1, k2, k3⟩ := kw_all (env := X.env) p h2
    exact e_methW hcs g.rm g.gd ho (sKs args g o.2.2 h5) k1 k2 k3 (meth_plW h1 k1 hn hl))
  | .meth cs ob args, X, c, e, g, o, h => both (by
    cases e <;> first | (cases h; done) | skip
    rename_i fn es ks p
    cases fn <;> first | (cases h; done) | skip
    cases ks <;> first | (cases h; done) | skip
    rename_i eo m ap
    simp only [chkE, Bool.and_eq_true, decide_eq_true_eq] at h
    obtain ⟨⟨⟨⟨⟨⟨⟨h0, hn⟩, hl⟩, h1⟩, h2⟩, h3⟩, h4⟩, h5⟩ := h
    have ha := (sEs args g o.2.2 h5).1
    have hcs : ∀ q ∈ cs, MtC (X.wd ca) k q.1 m q.2 ∧ q.2.name = m := fun q hq => by
      have e := beq_iff_eq.mp (List.all_eq_true.mp h0 q hq)
      exact ⟨e ▸ o.1 q hq, e⟩
    have ho := opd_e g h4 ((sB ob g o.2.1 h4).1)
    match es, args, h2, hn, ha, h5 with
    | [], [], h2, hn, ha, h5 => exact e_meth0 hcs g.rm g.gd ho (meth_pl h1 h2 hn hl)
    | e :: es, m :: ms, h2, hn, ha, h5 => exact e_meth hcs g.rm g.gd ho ha (star_cons (all_any h2).1) (star_all _ (all_any h2).2) (meth_pl h1 h2 hn hl)
    | [], m :: ms, h2, hn, ha, h5 => cases m <;> cases h5
    | e :: es, [], h2, hn, ha, h5 => cases h5)
  | .bi b args, X, c, e, g, o, h => both (by
    cases e <;> first | (cases h; done) | skip
    rename_i fn es ks p
    cases fn <;> first | (cases h; done) | skip
    rename_i x q
    rcases ks with _ | ⟨⟨nm, ed, kp⟩, ks⟩
    · skip
      simp only [chkE, Bool.and_eq_true, beq_iff_eq] at h
      obtain ⟨⟨⟨⟨⟨rfl, h1⟩, h2⟩, h3⟩, h0⟩, h4⟩ := h
      obtain ⟨g1, g2⟩ := g.gl h1
      have ha := sOs args g o.2 h4
      by_cases hl : b = .lenset
      · subst hl
        unfold biB at h0
        split at h0 <;> first | (cases h0; done) | skip
        · rename_i y q2 ea q3 _
          simp only [Bool.and_eq_true, beq_iff_eq] at h0
          obtain ⟨⟨rfl, h5⟩, h6⟩ := h0
          obtain ⟨g3, g4⟩ := g.gl h5
          have h4 : chkOs args c [ea] = true := h4
          match args, o, h4 with
          | [a], o, h4 =>
            simp only [chkOs, Bool.and_eq_true] at h4
            exact e_lenset g.calm g1 o.1.1 g3 o.1.2.1 (opd_e g h4.1.2 ((sB a g o.2.1 h4.1.2).1)) (star_cons h6)
          | [], o, h4 => cases h4
          | _ :: _ :: _, o, h4 => simp only [chkOs, Bool.and_false] at h4; cases h4
      · have hE : biE b es = es := by cases b <;> first | rfl | exact absurd rfl hl
        have hB : biB c b es = (biV b).isSome := by cases b <;> first | rfl | exact absurd rfl hl
        rw [hE] at ha
        rw [hB] at h0
        obtain ⟨f, hf⟩ := Option.isSome_iff_exists.mp h0
        match es, h2, h3, ha with
        | e :: es, h2, h3, ha => exact e_bi g.calm g.gd g.u65 hf o.1.2.2 g1 g2 o.1.1 ha (star_cons (all_any h2).1) (star_all _ (all_any h2).2)
        | [], h2, h3, ha => cases h3
    · rcases nm with _ | nm
      · cases h
      rcases ks with _ | ⟨_, _⟩
      · simp only [chkE, Bool.and_eq_true, beq_iff_eq, decide_eq_true_eq] at h
        obtain ⟨⟨⟨⟨⟨rfl, h1⟩, h2⟩, h3⟩, h0⟩, h4⟩ := h
        obtain ⟨g1, g2⟩ := g.gl h1
        unfold min0B at h0
        split at h0
        · rename_i d
          simp only [Bool.and_eq_true, beq_iff_eq] at h0
          obtain ⟨rfl, h5⟩ := h0
          unfold litI at h5
          split at h5
          · simp only [decide_eq_true_eq] at h5
            subst h5
            obtain ⟨ea, rfl⟩ := len1 h3
            match args, o, h4 with
            | [a], o, h4 =>
              simp only [chkOs, Bool.and_eq_true] at h4
              exact e_min0 g.calm g.u65 g1 o.1.1 (opd_e g h4.1.2 ((sB a g o.2.1 h4.1.2).1)) (star_cons (all_any h2).1)
            | [], o, h4 => cases h4
            | _ :: _ :: _, o, h4 => simp only [chkOs, Bool.and_false] at h4; cases h4
          · cases h5
        · cases h0
      · cases h)
  | .bm b ob args, X, c, e, g, o, h => both (by
    cases e <;> first | (cases h; done) | skip
    rename_i fn es ks p
    cases fn <;> first | (cases h; done) | skip
    cases ks <;> first | (cases h; done) | skip
    rename_i eo m ap
    simp only [chkE, Bool.and_eq_true] at h
    obtain ⟨⟨⟨⟨⟨h0, h1⟩, h2⟩, h3⟩, h4⟩, h5⟩ := h
    have po := opd_e g h4 ((sB ob g o.1 h4).1)
    cases b <;> simp only [bmB, Bool.and_eq_true, beq_iff_eq, decide_eq_true_eq, Bool.false_eq_true] at h0
    · obtain ⟨rfl, hl⟩ := h0
      obtain ⟨ea, rfl⟩ := len1 hl
      match args, o, h5 with
      | [a], o, h5 =>
        simp only [chkOs, Bool.and_eq_true] at h5
        have st : starEach [ea] X.env = [(false, eval ea X.env)] := by rw [star_cons h5.1.1]; rfl
        exact e_get1 g.u1 ⟨super_base h1, by rw [st]; rfl, by simpa using h3, by rw [st]; rfl⟩ po (opd_e g h5.1.2 ((sB a g o.2.1 h5.1.2).1))
      | [], o, h5 => cases h5
      | _ :: _ :: _, o, h5 => simp only [chkOs, Bool.and_false] at h5; cases h5
    · obtain ⟨rfl, hl⟩ := h0
      obtain ⟨ea, eb, rfl⟩ := len2 hl
      match args, o, h5 with
      | [a, b], o, h5 =>
        simp only [chkOs, Bool.and_eq_true] at h5
        obtain ⟨⟨n1, c1⟩, ⟨n2, c2⟩, _⟩ := h5
        have st : starEach [ea, eb] X.env = [(false, eval ea X.env), (false, eval eb X.env)] := by rw [star_cons n1, star_cons n2]; rfl
        exact e_get2 g.u1 ⟨super_base h1, by rw [st]; rfl, by simpa using h3, by rw [st]; rfl⟩ po (opd_e g c1 ((sB a g o.2.1 c1).1)) (opd_e g c2 ((sB b g o.2.2.1 c2).1))
      | [], o, h5 => cases h5
      | [_], o, h5 => simp only [chkOs, Bool.and_false] at h5; cases h5
      | _ :: _ :: _ :: _, o, h5 => simp only [chkOs, Bool.and_false] at h5; cases h5)
  | .mt b x args, X, c, e, g, o, h => both (by
    cases e <;> first | (cases h; done) | skip
    rename_i fn es ks p
    cases fn <;> first | (cases h; done) | skip
    cases ks <;> first | (cases h; done) | skip
    rename_i eo n ap
    simp only [chkE, Bool.and_eq_true, decide_eq_true_eq, beq_iff_eq] at h
    obtain ⟨⟨⟨⟨⟨⟨⟨h0, h1⟩, h2⟩, h3⟩, h4⟩, h5⟩, h6⟩, h7⟩ := h
    have ha := (sEs args g o h7).1
    subst h0
    have hb : noSuper eo = true := by cases eo <;> first | rfl | cases h1
    match es, h2, h3, h4, ha with
    | e :: es, h2, h3, h4, ha =>
      have hfew : ((backTo p (starEach (e :: es) X.env)).all (fun x => !x.1) && (backToKw p (keywordEach [] X.env)).all (fun x => x.1.isSome)
        && decide ((e :: es).length + ([] : List Keyword).length + (if ([] : List Keyword).isEmpty then 0 else 1) < 30)) = true := by
        rw [star_few p h2]
        simp only [Bool.true_and, Bool.and_eq_true, decide_eq_true_eq]
        refine ⟨rfl, ?_⟩
        show (e :: es).length + 0 + 0 < 30
        omega
      cases b with
      | append => exact e_mt (m := .append) PySem.F.slot_list_append PySem.F.type_list_append (g.var h1) ha (super_base hb) hfew (by simpa using h5) (star_cons (all_any h2).1) (star_all _ (all_any h2).2)
      | extend => exact e_mt (m := .extend) PySem.F.slot_list_extend PySem.F.type_list_extend (g.var h1) ha (super_base hb) hfew (by simpa using h5) (star_cons (all_any h2).1) (star_all _ (all_any h2).2)
      | insert => exact e_mt (m := .insert) PySem.F.slot_list_insert PySem.F.type_list_insert (g.var h1) ha (super_base hb) hfew (by simpa using h5) (star_cons (all_any h2).1) (star_all _ (all_any h2).2)
      | popAt => exact e_mt (m := .popAt) PySem.F.slot_list_pop PySem.F.type_list_pop (g.var h1) ha (super_base hb) hfew (by simpa using h5) (star_cons (all_any h2).1) (star_all _ (all_any h2).2)
    | [], h2, h3, h4, ha => cases h3)
  | .comp t kd it cond elt ws, X, c, e, g, o, h => both (by
    cases e <;> first | (cases h; done) | skip
    rename_i elt' gens scope p
    match gens, h with
    | [⟨tg, iter, ifs, a⟩], h =>
      simp only [chkE, Bool.and_eq_true, decide_eq_true_eq] at h
      obtain ⟨⟨⟨⟨⟨⟨⟨⟨⟨rfl, hb⟩, h1⟩, h2⟩, h3⟩, h4⟩, h5⟩, h6⟩, h7⟩, h8⟩ := h
      obtain ⟨hk, hok, hts, hws⟩ := blk_ok g hb
      obtain ⟨om, oi, oc, oe⟩ := o
      have hW : PI X tg iter (tW X.K ca kd (evs it)) := sW g om h1 (by simpa using h2) h3 (fun m hm hkd => by
        subst hkd
        refine (sEs it g oi h4).2 m iter hm rfl ?_
        rw [hm] at h3
        exact (no_any h3).1) (sEs it g oi h4).1
      have := e_comp (pos := p) (ca := ca) g.calm g.nd hts hW hok (fun s H C cl fp => (g.blk scope hk s H C cl fp).tg h6) (fun s H C cl fp => sC cond (g.blk scope hk s H C cl fp) oc h7) (fun s H C cl fp => (sB elt (g.blk scope hk s H C cl fp) oe h8).1) (set_folded h5)
      rw [hws] at this
      exact this)
  | .compK t x cond elt ws, X, c, e, g, o, h => both (by
    cases e <;> first | (cases h; done) | skip
    rename_i elt' gens scope p
    match gens, h with
    | [⟨tg, iter, ifs, a⟩], h =>
      simp only [chkE, Bool.and_eq_true, decide_eq_true_eq] at h
      obtain ⟨⟨⟨⟨⟨⟨rfl, hb⟩, h1⟩, h5⟩, h6⟩, h7⟩, h8⟩ := h
      obtain ⟨hk, hok, hts, hws⟩ := blk_ok g hb
      obtain ⟨oc, oe⟩ := o
      have := e_compK (pos := p) (ca := ca) (x := x) g.calm g.nd hts (g.var h1) hok (fun s H C cl fp => (g.blk scope hk s H C cl fp).tg h6) (fun s H C cl fp => sC cond (g.blk scope hk s H C cl fp) oc h7) (fun s H C cl fp => (sB elt (g.blk scope hk s H C cl fp) oe h8).1) (set_folded h5)
      rw [hws] at this
      exact this)
  | .dcomp t kd it kx vx ws, X, c, e, g, o, h => both (by
    cases e <;> first | (cases h; done) | skip
    rename_i kx' vx' gens scope p
    match gens, h with
    | [⟨tg, iter, ifs, a⟩], h =>
      simp only [chkE, Bool.and_eq_true, decide_eq_true_eq] at h
      obtain ⟨⟨⟨⟨⟨⟨⟨⟨⟨⟨rfl, hi⟩, hb⟩, h1⟩, h2⟩, h3⟩, h4⟩, h5⟩, h6⟩, h7⟩, h8⟩ := h
      cases ifs <;> first | (cases hi; done) | skip
      obtain ⟨hk, hok, hts, hws⟩ := blk_ok g hb
      obtain ⟨om, oi, oc, oe⟩ := o
      have hW : PI X tg iter (tW X.K ca kd (evs it)) := sW g om h1 (by simpa using h2) h3 (fun m hm hkd => by
        subst hkd
        refine (sEs it g oi h4).2 m iter hm rfl ?_
        rw [hm] at h3
        exact (no_any h3).1) (sEs it g oi h4).1
      have := e_dcomp (pos := p) (ca := ca) g.calm g.nd hts hW hok (fun s H C cl fp => (g.blk scope hk s H C cl fp).tg h6) (fun s H C cl fp => (sB kx (g.blk scope hk s H C cl fp) oc h7).1) (fun s H C cl fp => (sB vx (g.blk scope hk s H C cl fp) oe h8).1) (set_folded h5)
      rw [hws] at this
      exact this)
  | .fstr ps, X, c, e, g, o, h => both (by cases e <;> cases h)
termination_by structural x => x
theorem sI : ∀ (m : Option ME) {X : Cx} {c : Bd} {e : Option Expr}, Gd c k X → okO (X.wd ca) k m → chkI m c e = true → PO X e (tI X.K ca (evI m))
  | none, X, c, e, g, o, h => by
    cases e <;> first | (cases h; done) | skip
    exact i_none
  | some m, X, c, e, g, o, h => by
    cases e <;> first | (cases h; done) | skip
    exact i_some ((sB m g o (by simpa only [chkI] using h)).1)
termination_by structural x => x
theorem sC : ∀ (m : Option ME) {X : Cx} {c : Bd} {es : List Expr}, Gd c k X → okO (X.wd ca) k m → chkC m c es = true → PTs X es (tC X.K ca (evC m))
  | none, X, c, es, g, o, h => by
    cases es <;> first | (cases h; done) | skip
    exact c_none
  | some m, X, c, es, g, o, h => by
    match es, h with
    | [e], h =>
      simp only [chkC, Bool.and_eq_true] at h
      exact c_some (((sB m g o h.1).2 h.2))
termination_by structural x => x
theorem sEs : ∀ (ms : List ME) {X : Cx} {c : Bd} {es : List Expr}, Gd c k X → okEs (X.wd ca) k ms → chkEs ms c es = true → PA X es (tEs X.K ca (evs ms)) ∧ ∀ m e, ms = [m] → es = [e] → isStarM m = false → PE X e (tE X.K ca (ev m))
  | [], X, c, es, g, o, h => by
    cases es <;> first | (cases h; done) | skip
    exact ⟨s_nil, fun m e h1 => by cases h1⟩
  | m :: ms, X, c, es, g, o, h => by
    cases es with
    | nil => cases m <;> cases h
    | cons e es =>
      cases hm : isStarM m with
      | false =>
        obtain ⟨h1, h2, h3⟩ := chkEs_cons hm h
        rw [evs_cons hm]
        exact ⟨s_cons ((sB m g o.1 h2).1) (sEs ms g o.2 h3).1 (star_cons h1), fun m' e' q1 q2 _ => by
          cases q1; cases q2
          exact (sB m g o.1 h2).1⟩
      | true =>
        match m, hm, o, h with
        | .star a, _, o, h =>
          cases e <;> first | (cases h; done) | skip
          simp only [chkEs, Bool.and_eq_true] at h
          exact ⟨s_star (opd_e g h.1 ((sB a g o.1 h.1).1)) (sEs ms g o.2 h.2).1, fun m' e' q1 q2 q3 => by
            cases q1
            cases q3⟩
        | .srange as, _, o, h => cases e <;> cases h
termination_by structural x => x
theorem sKs : ∀ (ms : List ME) {X : Cx} {c : Bd} {ks : List Keyword}, Gd c k X → okEs (X.wd ca) k ms → chkKs ms c ks = true → PK X ks (tEs X.K ca (evs ms))
  | [], X, c, ks, g, o, h => by
    cases ks <;> first | (cases h; done) | skip
    exact k_nil
  | m :: ms, X, c, ks, g, o, h => by
    cases ks <;> first | (cases h; done) | skip
    rename_i q ks
    obtain ⟨nm, e, p⟩ := q
    simp only [chkKs, Bool.and_eq_true, Bool.not_eq_true'] at h
    rw [evs_cons h.1.1]
    exact k_cons (sB m g o.1 h.1.2).1 (sKs ms g o.2 h.2)
termination_by structural x => x
theorem sOs : ∀ (ms : List ME) {X : Cx} {c : Bd} {es : List Expr}, Gd c k X → okEs (X.wd ca) k ms → chkOs ms c es = true → PA X es (tOs X.K ca (evos ms))
  | [], X, c, es, g, o, h => by
    cases es <;> first | (cases h; done) | skip
    exact o_nil
  | m :: ms, X, c, es, g, o, h => by
    cases es <;> first | (cases h; done) | skip
    simp only [chkOs, Bool.and_eq_true] at h
    exact o_cons (opd_e g h.1.2 ((sB m g o.1 h.1.2).1)) (sOs ms g o.2 h.2) (star_cons h.1.1)
termination_by structural x => x
end
end
end Mi

set_option Elab.async false
set_option linter.all false
set_option maxRecDepth 100000
set_option maxHeartbeats 8000000
/-! M3f: statements. -/
namespace Mi
open PySem PySem.Spec PyProof.Rows L2
open Evl (Ex)
/-! ### a, b = x, y -/
def swNames (sc : Scope) (ts : List Expr) : List Str := ts.filterMap fun
    | .Name id pos => if sc.names.lookup id == some .local && pos.line == ((ts.head?.map (·.pos.line)).getD 0) then some id else none
    | _ => none
/-- stored from the right, by these names; none: as a tuple -/
def swRes (sc : Scope) (ts vs : List Expr) : Option (Option (List Str)) :=
  if !(ts.length == 2 || ts.length == 3) || vs.length != ts.length then some none
  else if (vs.any fun | .Starred .. => true | _ => false) then some none
  else if (swNames sc ts).length != ts.length || (swNames sc ts).eraseDups.length != (swNames sc ts).length then some none
  else if vs.all (foldedForSure 8) then some none
  else if vs.all (constantsAlone 8) then none
  else some (some (swNames sc ts))
theorem sw_is {env : Env} {ts vs : List Expr} {k k2 : Nat} {p p2 : Pos} {r : Option (List Str)} (hk : env.scope.kind = .function) (h : swRes env.scope ts vs = some r) : swappedStores [.Tuple ts k p] (.Tuple vs k2 p2) env = pure r := by
  have hb : env.blockKind = .function := by unfold Env.blockKind; rw [hk]; rfl
  have hn : (ts.filterMap fun
    | .Name id pos => if env.kindOf id == some .local && pos.line == ((ts.head?.map (·.pos.line)).getD 0) then some id else none
    | _ => none) = swNames env.scope ts := rfl
  unfold swRes at h
  unfold swappedStores
  simp only [hb]
  split at h
  · rename_i c
    cases h
    exact if_pos (by simpa using c)
  · rename_i c
    refine (if_neg (by simpa using c)).trans ?_
    split at h
    · rename_i c2
      cases h
      exact if_pos c2
    · rename_i c2
      refine (if_neg c2).trans ?_
      split at h
      · rename_i c3
        cases h
        exact if_pos c3
      · rename_i c3
        refine (if_neg c3).trans ?_
        split at h
        · rename_i c4
          cases h
          exact if_pos c4
        · rename_i c4
          refine (if_neg c4).trans ?_
          split at h
          · cases h
          · rename_i c5
            cases h
            exact if_neg c5
theorem swap_no {v : Expr} {t : Option Expr} {l : Nat} {env : Env} (h : notComp v = true) : swapsWith v t l env = pure false := by
  cases v <;> first | rfl | cases h
theorem swap_cell {v : Expr} {x : Str} {p : Pos} {l : Nat} {env : Env} (h : (env.kindOf x == some .local) = false) : swapsWith v (some (.Name x p)) l env = pure false := by
  cases v <;> first
    | rfl
    | (unfold swapsWith
       simp only [h, Bool.and_false, Bool.false_and] <;> rfl)
theorem store_no {ts : List Expr} {k : Nat} {p : Pos} {v : Expr} {env : Env} (h : isTupE v = false) : swappedStores [.Tuple ts k p] v env = pure none := by
  cases v <;> first | rfl | cases h
def isKeysM : ME → Bool
  | .compK _ _ _ _ _ => true
  | _ => false
def isVarM : ME → Bool
  | .var _ => true
  | _ => false
/-- may be stored by its value -/
def asgB (c : Bd) (x : Str) (v : Expr) : Bool := notComp v || !(c.sc.names.lookup x == some .local)
def namesOf (ts : List Expr) : List Str := ts.filterMap fun
  | .Name x _ => some x
  | _ => none
mutual
def chkS : MS → Bd → Bool → Stmt → Bool
  | .set i e, c, io, .Assign [.Name x px] v pos => c.N[i]? == some x && stB c x && !(io && i == 0) && chkE e c v && (asgB c x v || (match v with
    | .ListComp _ _ scope p => !isKeysM e && (c.sc.names.lookup x == some .local) && (px.line == p.line) && !(scope.names.any fun (n, k) => n == x && (k == .local || k == .cell))
    | _ => false))
  | .tupset is e, c, io, .Assign [.Tuple ts _ _] v _ => tgsB c is ts && !(io && is.contains 0) && !isTupE v && chkE e c v
  | .par is es, c, io, .Assign [.Tuple ts _ _] (.Tuple vs _ _) _ => tgsB c is ts && !(io && is.contains 0) && decide (is.length ≤ 1000) && decide is.Nodup && vs.all notStar && !es.any isStarM && chkEs es c vs && (match swRes c.sc ts vs with
    | some none => true
    | some (some ns) => (decide (ts.length = 2) || decide (ts.length = 3)) && decide (ns = namesOf ts) && ns.all fun x => c.sc.names.lookup x == some .local
    | none => false)
  | .setIx x k e, c, _, .Assign [.Subscript o i _] v _ => varB c x o && notComp v && notSlice i && chkE k c i && chkE e c v
  | .setFld x f _ e, c, _, .Assign [.Attribute o f' _] v _ => f == f' && varB c x o && notComp v && chkE e c v
  | .expr e, c, _, .Expr v _ => notComp v && chkE e c v
  | .ret e, c, _, .Return (some v) _ => chkE e c v
  | .retN, _, _, .Return none _ => true
  | .ite t a b, c, io, .If et ea eb _ => chkE t c et && tst t et && chkSs a c io ea && chkSs b c io eb
  | .for_ t k it body orelse, c, io, .For tg iter body' orelse' _ => iterB c k it.length iter && (decide (k = .val) || isTupE tg || decide (k = .range)) && !it.any isStarM && chkEs it c (iterArgs k iter) && notSet iter && tgB c t tg && !(io && t.slots.contains 0) && chkSs body c io body' && chkSs orelse c io orelse'
  | .brk, _, _, .Break _ => true
  | .cont, _, _, .Continue _ => true
  | .pass, _, _, .Pass _ => true
  | .raise _ _ _, _, _, .Raise _ _ _ => true
  | _, _, _, _ => false
def chkSs : List MS → Bd → Bool → List Stmt → Bool
  | [], _, _, [] => true
  | s :: ss, c, io, t :: ts => chkS s c io t && chkSs ss c io ts
  | _, _, _, _ => false
end
mutual
def okS (W : Wd) (k : Nat) : MS → Prop
  | .set _ e => okE W k e
  | .tupset _ e => okE W k e
  | .par _ es => okEs W k es
  | .setIx _ i e => okE W k i ∧ okE W k e
  | .setFld _ f cs e => (∀ c ∈ cs, Cls W.K (W.ca c) ∧ NoAttr W.K (W.ca c) f) ∧ okE W k e
  | .expr e => okE W k e
  | .ret e => okE W k e
  | .ite t a b => okE W k t ∧ okSs W k a ∧ okSs W k b
  | .for_ _ i it body orelse => W.mg (iterN i) = none ∧ okEs W k it ∧ okSs W k body ∧ okSs W k orelse
  | .while_ _ t body => okE W k t ∧ okSs W k body
  | _ => True
def okSs (W : Wd) (k : Nat) : List MS → Prop
  | [] => True
  | s :: ss => okS W k s ∧ okSs W k ss
end
section
variable {ca : Str → Addr} {k : Nat}
/-- a body's context lets exceptions out -/
structure Gf (c : Bd) (k : Nat) (X : Cx) : Prop extends Gd c k X where
  po : PassesOwn (model X.prog X.w) X.A X.env X.xe
theorem ts_of {X : Cx} {c : Bd} (g : Gd c k X) : ∀ {es : List ME} {vs : List Expr}, okEs (X.wd ca) k es → (!es.any isStarM) = true → vs.all notStar = true → chkEs es c vs = true → PA X vs (tTs X.K ca (evTs es))
  | [], [], _, _, _, _ => ts_nil
  | m :: ms, e :: es, o, h1, h2, h3 => by
    obtain ⟨n1, n2⟩ := no_any h1
    obtain ⟨a1, a2⟩ := all_any h2
    obtain ⟨c1, c2, c3⟩ := chkEs_cons n1 h3
    exact ts_cons (sB m g o.1 c2).1 (ts_of g o.2 n2 a2 c3) (star_cons a1)
  | [], e :: es, _, _, _, h => by cases h
  | m :: ms, [], _, _, _, h => by cases m <;> cases h
theorem io_no {io : Bool} {b : Bool} (h : (!(io && b)) = true) : (io && b) = false := by cases io <;> cases b <;> first | rfl | cases h
theorem sS_set {X : Cx} {c : Bd} {io : Bool} (g : Gf c k X) {i : Nat} {e : ME} {st : Stmt} (o : okE (X.wd ca) k e) (h : chkS (.set i e) c io st = true) : PS X st (tS X.K ca io (exec (.set i e))) := by
  cases st <;> first | (cases h; done) | skip
  rename_i ts v pos
  cases ts with
  | nil => cases h
  | cons t ts =>
    cases ts with
    | cons _ _ => cases t <;> cases h
    | nil =>
      cases t <;> first | (cases h; done) | skip
      rename_i x px
      simp only [chkS, Bool.and_eq_true, Bool.or_eq_true, beq_iff_eq] at h
      obtain ⟨⟨⟨⟨h1, h2⟩, h3⟩, h4⟩, h5⟩ := h
      obtain ⟨l1, l2⟩ := g.sto h2
      have hN : X.N[i]? = some x := by rw [g.hN]; exact h1
      rcases h5 with h5 | h5
      · refine x_set g.nd hN l1 l2 (io_no h3) (sB e g.toGd o h4).1 ?_
        unfold asgB at h5
        cases hn : notComp v with
        | true => exact swap_no hn
        | false =>
          rw [hn, Bool.false_or] at h5
          refine swap_cell ?_
          show (X.env.scope.names.lookup x == some .local) = false
          rw [g.hs]
          simpa using h5
      · cases v <;> first | (cases h5; done) | skip
        rename_i elt' gens scope p
        simp only [Bool.and_eq_true] at h5
        obtain ⟨⟨⟨q0, q1⟩, q2⟩, q3⟩ := h5
        have hloc : X.env.scope.names.lookup x = some .local := by rw [g.hs]; exact lookup_beq q1
        cases e <;> first | (cases h4; done) | skip
        · rename_i d; cases d <;> cases h4
        rotate_left
        · cases q0
        rename_i t kd it cond elt ws
        match gens, h4 with
        | [⟨tg, iter, ifs, a⟩], h =>
          simp only [chkE, Bool.and_eq_true, decide_eq_true_eq] at h
          obtain ⟨⟨⟨⟨⟨⟨⟨⟨⟨rfl, hb⟩, h1'⟩, h2'⟩, h3'⟩, h4'⟩, h5'⟩, h6⟩, h7⟩, h8⟩ := h
          obtain ⟨hk, hok, hts, hws⟩ := blk_ok g.toGd hb
          obtain ⟨om, oi, oc, oe⟩ := o
          have hW : PI X tg iter (tW X.K ca kd (evs it)) := sW g.toGd om h1' (by simpa using h2') h3' (fun m hm hkd => by
            subst hkd
            refine (sEs it g.toGd oi h4').2 m iter hm rfl ?_
            rw [hm] at h3'
            exact (no_any h3').1) (sEs it g.toGd oi h4').1
          refine x_setLc (ca := ca) (io := io) (t := t) (k := kd) (git := evs it) (fc := evC cond) (fe := ev elt) g.calm g.nd hN hloc ?_ hts hW hok (fun s H C cl fp => (g.toGd.blk scope hk s H C cl fp).tg h6) (fun s H C cl fp => sC cond (g.toGd.blk scope hk s H C cl fp) oc h7) (fun s H C cl fp => (sB elt (g.toGd.blk scope hk s H C cl fp) oe h8).1) (set_folded h5') ?_
          · exact sw_true (by rw [g.hs]; exact g.kind) hloc q2 (by simpa using q3)
          · intro D σ H hq
            have := asg_ready (f := ev (.comp t kd it cond elt ws)) (io_no h3) hq
            rw [hws]
            exact this
end
end Mi

set_option Elab.async false
set_option linter.all false
set_option maxRecDepth 100000
set_option maxHeartbeats 2000000
/-! M3g: a body's tree tells what the body does. -/
namespace Mi
open PySem PySem.Spec PyProof.Rows L2
open Evl (Ex)
theorem swap_sole {t v : Expr} {l : Nat} {env : Env} (h : notComp v = true) : swapsWithSole [t] v l env = pure false := by
  show swapsWith v (some t) l env = pure false
  exact swap_no h
theorem swap_tup {ts : List Expr} {k : Nat} {p : Pos} {v : Expr} {l : Nat} {env : Env} : swapsWithSole [.Tuple ts k p] v l env = pure false := by
  show swapsWith v (some (.Tuple ts k p)) l env = pure false
  cases v <;> rfl
section
variable {ca : Str → Addr} {k : Nat} {X : Cx} {c : Bd} {io : Bool}
theorem sS_tup (g : Gf c k X) {is : List Nat} {e : ME} {st : Stmt} (o : okE (X.wd ca) k e) (h : chkS (.tupset is e) c io st = true) : PS X st (tS X.K ca io (exec (.tupset is e))) := by
  cases st <;> first | (cases h; done) | skip
  rename_i ts v pos
  match ts, h with
  | [.Tuple ts kk tp], h =>
    simp only [chkS, Bool.and_eq_true] at h
    obtain ⟨⟨⟨h1, h2⟩, h4⟩, h5⟩ := h
    obtain ⟨p1, p2, p3⟩ := g.tgs h1
    exact x_tupset (g_many g.calm p1 p2 p3) (io_no h2) (sB e g.toGd o h5).1 swap_tup (store_no (by simpa using h4)) rfl
theorem names_len : ∀ {is : List Nat} {ts : List Expr}, tgsB c is ts = true → ts.length = is.length
  | [], [], _ => rfl
  | i :: is, t :: ts, h => by
    simp only [tgsB, Bool.and_eq_true] at h
    rw [List.length_cons, List.length_cons, names_len h.2]
  | [], _ :: _, h => by cases h
  | _ :: _, [], h => by cases h
theorem tg1_name {i : Nat} {e : Expr} (h : tg1B c i e = true) : ∃ x p, e = .Name x p ∧ c.N[i]? = some x := by
  cases e <;> first | (cases h; done) | skip
  simp only [tg1B, Bool.and_eq_true, beq_iff_eq] at h
  exact ⟨_, _, rfl, h.1⟩
theorem evs_len2 : ∀ {es : List ME} {vs : List Expr}, (!es.any isStarM) = true → chkEs es c vs = true → vs.length = es.length
  | [], [], _, _ => rfl
  | m :: ms, e :: es, h1, h => by
    obtain ⟨n1, n2⟩ := no_any h1
    rw [List.length_cons, List.length_cons, evs_len2 n2 (chkEs_cons n1 h).2.2]
  | [], _ :: _, _, h => by cases h
  | m :: _, [], _, h => by cases m <;> cases h
theorem sw_lens {sc : Scope} {ts vs : List Expr} {ns : List Str} (h : swRes sc ts vs = some (some ns)) : vs.length = ts.length := by
  unfold swRes at h
  split at h
  · cases h
  · rename_i c
    simp only [Bool.or_eq_true, not_or, bne_iff_ne, ne_eq, Decidable.not_not] at c
    exact c.2
theorem sS_par (g : Gf c k X) {is : List Nat} {es : List ME} {st : Stmt} (o : okEs (X.wd ca) k es) (h : chkS (.par is es) c io st = true) : PS X st (tS X.K ca io (exec (.par is es))) := by
  cases st <;> first | (cases h; done) | skip
  rename_i ts v pos
  match ts, v, h with
  | [.Tuple ts kk tp], .Tuple vs k2 p2, h =>
    simp only [chkS, Bool.and_eq_true, decide_eq_true_eq] at h
    obtain ⟨⟨⟨⟨⟨⟨⟨h1, h2⟩, h3⟩, hnd⟩, h4⟩, h5⟩, h6⟩, h7⟩ := h
    obtain ⟨p1, p2', p3⟩ := g.tgs h1
    have ha := ts_of g.toGd o h5 h4 h6
    have hk : X.env.scope.kind = .function := by rw [g.hs]; exact g.kind
    cases hr : swRes c.sc ts vs with
    | none => rw [hr] at h7; cases h7
    | some r =>
      have hw := sw_is (k := kk) (k2 := k2) (p := tp) (p2 := p2) hk (by rw [g.hs]; exact hr)
      cases r with
      | none => exact x_parT g.calm p1 p2' p3 ha (io_no h2) h3 rfl hw rfl
      | some ns =>
        rw [hr] at h7
        simp only [Bool.and_eq_true, Bool.or_eq_true, decide_eq_true_eq] at h7
        obtain ⟨⟨hl, hns⟩, hloc⟩ := h7
        have hloc : ∀ x ∈ ns, X.env.scope.names.lookup x = some .local := fun x hx => by
          rw [g.hs]
          exact lookup_beq (List.all_eq_true.mp hloc x hx)
        have hil := names_len h1
        have hvl := sw_lens hr
        rcases hl with hl | hl
        · obtain ⟨t1, t2, rfl⟩ := len2 hl
          obtain ⟨v1, v2, rfl⟩ := len2 (hvl.trans hl)
          obtain ⟨i, j, rfl⟩ := len2 (hil.symm.trans hl)
          simp only [tgsB, Bool.and_eq_true] at h1
          obtain ⟨x, px, rfl, hx⟩ := tg1_name h1.1
          obtain ⟨y, py, rfl, hy⟩ := tg1_name h1.2.1
          have hns : ns = [x, y] := hns
          subst hns
          refine x_par2 g.calm g.nd (by rw [g.hN]; exact hx) (by rw [g.hN]; exact hy) (by simpa using hnd) (hloc x (by simp)) (hloc y (by simp)) ha (io_no h2) hw
        · obtain ⟨t1, t2, t3, rfl⟩ := len3 hl
          obtain ⟨v1, v2, v3, rfl⟩ := len3 (hvl.trans hl)
          obtain ⟨i, j, l, rfl⟩ := len3 (hil.symm.trans hl)
          simp only [tgsB, Bool.and_eq_true] at h1
          obtain ⟨x, px, rfl, hx⟩ := tg1_name h1.1
          obtain ⟨y, py, rfl, hy⟩ := tg1_name h1.2.1
          obtain ⟨z, pz, rfl, hz⟩ := tg1_name h1.2.2.1
          have hns : ns = [x, y, z] := hns
          subst hns
          have hnd' : (i ≠ j ∧ i ≠ l) ∧ j ≠ l := by simpa using hnd
          refine x_par3 g.calm g.nd (by rw [g.hN]; exact hx) (by rw [g.hN]; exact hy) (by rw [g.hN]; exact hz) hnd'.1.1 hnd'.1.2 hnd'.2 (hloc x (by simp)) (hloc y (by simp)) (hloc z (by simp)) ha (io_no h2) hw
theorem sub_assign {o i : Expr} {tp : Pos} {env : Env} (h : notSlice i = true) : ∀ v, assign (.Subscript o i tp) env v = (do
      let ov ← holding [v] (eval o env)
      let iv ← holding [v, ov] (eval i env)
      standAt tp
      holding [v, ov, iv] (setItem ov iv v)
      release [v, ov, iv] []) := by
  intro v
  cases i <;> first | rfl | cases h
theorem store_sub {o i : Expr} {p : Pos} {v : Expr} {env : Env} : swappedStores [.Subscript o i p] v env = pure none := rfl
mutual
theorem sS : ∀ (m : MS) {st : Stmt}, Gf c k X → okS (X.wd ca) k m → chkS m c io st = true → PS X st (tS X.K ca io (exec m))
  | .set i e, st, g, o, h => sS_set g o h
  | .tupset is e, st, g, o, h => sS_tup g o h
  | .par is es, st, g, o, h => sS_par g o h
  | .setIx x i e, st, g, o, h => by
    cases st <;> first | (cases h; done) | skip
    rename_i ts v pos
    match ts, h with
    | [.Subscript ob ix tp], h =>
      simp only [chkS, Bool.and_eq_true] at h
      obtain ⟨⟨⟨⟨h1, h2⟩, h3⟩, h5⟩, h6⟩ := h
      exact x_setIx g.u1 (g.var h1) (sB i g.toGd o.1 h5).1 (sB e g.toGd o.2 h6).1 (swap_sole h2) store_sub rfl (sub_assign h3)
  | .setFld x f cs e, st, g, o, h => by
    cases st <;> first | (cases h; done) | skip
    rename_i ts v pos
    match ts, h with
    | [.Attribute ob f' ap], h =>
      simp only [chkS, Bool.and_eq_true, beq_iff_eq] at h
      obtain ⟨⟨⟨rfl, h1⟩, h2⟩, h3⟩ := h
      exact x_setFld o.1 (g.var h1) (sB e g.toGd o.2 h3).1 (swap_no h2)
  | .expr e, st, g, o, h => by
    cases st <;> first | (cases h; done) | skip
    simp only [chkS, Bool.and_eq_true] at h
    exact x_expr (sB e g.toGd o h.2).1 (swap_no h.1)
  | .ret e, st, g, o, h => by
    cases st <;> first | (cases h; done) | skip
    rename_i v pos
    cases v <;> first | (cases h; done) | skip
    have h : chkE e c _ = true := h
    cases e with
    | var i => exact x_retVar (g.var (by simpa only [chkE] using h))
    | _ => exact x_ret (sB _ g.toGd o h).1
  | .retN, st, g, o, h => by
    cases st <;> first | (cases h; done) | skip
    rename_i v pos
    cases v <;> first | (cases h; done) | skip
    exact x_retN
  | .ite t a b, st, g, o, h => by
    cases st <;> first | (cases h; done) | skip
    simp only [chkS, Bool.and_eq_true] at h
    obtain ⟨⟨⟨h1, h2⟩, h3⟩, h4⟩ := h
    exact x_ite ((sB t g.toGd o.1 h1).2 h2) (sSs a g o.2.1 h3) (sSs b g o.2.2 h4)
  | .for_ t kd it body orelse, st, g, o, h => by
    cases st <;> first | (cases h; done) | skip
    rename_i tg iter body' orelse' pos
    simp only [chkS, Bool.and_eq_true] at h
    obtain ⟨⟨⟨⟨⟨⟨⟨⟨h1, h2⟩, h3⟩, h4⟩, h5⟩, h6⟩, h7⟩, h8⟩, h9⟩ := h
    obtain ⟨om, oi, ob, oo⟩ := o
    have hW : PI X tg iter (tW X.K ca kd (evs it)) := sW g.toGd om h1 h2 h3 (fun m hm hkd => by
      subst hkd
      refine (sEs it g.toGd oi h4).2 m iter hm rfl ?_
      rw [hm] at h3
      exact (no_any h3).1) (sEs it g.toGd oi h4).1
    exact x_for g.po g.calm hW (g.tg h6) (io_no h7) (sSs body g ob h8) (sSs orelse g oo h9) (set_folded h5)
  | .while_ n t body, st, g, o, h => by cases st <;> cases h
  | .brk, st, g, o, h => by
    cases st <;> first | (cases h; done) | skip
    exact x_brk
  | .cont, st, g, o, h => by
    cases st <;> first | (cases h; done) | skip
    exact x_cont
  | .pass, st, g, o, h => by
    cases st <;> first | (cases h; done) | skip
    exact x_pass
  | .raise cl f e, st, g, o, h => by
    refine x_never fun ρ => ?_
    show (((ev e ρ).bind fun t ρ1 => R.exc _ ρ1 : R Fl) = .bad) ∨ _
    cases hv : ev e ρ with
    | ok t ρ1 => exact .inr ⟨_, ρ1, by show ((ev e ρ).bind _ : R Fl) = _; rw [hv]; rfl⟩
    | exc x ρ1 => exact .inr ⟨x, ρ1, by show ((ev e ρ).bind _ : R Fl) = _; rw [hv]; rfl⟩
    | bad => exact .inl rfl
termination_by structural x => x
theorem sSs : ∀ (ms : List MS) {sts : List Stmt}, Gf c k X → okSs (X.wd ca) k ms → chkSs ms c io sts = true → PSs X sts (tS X.K ca io (execs ms))
  | [], sts, g, o, h => by
    cases sts <;> first | (cases h; done) | skip
    exact x_nil
  | m :: ms, sts, g, o, h => by
    cases sts <;> first | (cases h; done) | skip
    simp only [chkSs, Bool.and_eq_true] at h
    exact x_cons (sS m g o.1 h.1) (sSs ms g o.2 h.2)
termination_by structural x => x
end
end
end Mi

set_option Elab.async false
set_option linter.all false
set_option maxRecDepth 100000
set_option maxHeartbeats 2000000
/-! M3h: a def by its tree. -/
namespace Mi
open PySem PySem.Spec PyProof.Rows L2
open Evl (Ex)
/-- a def's body keeps a promise, where no repr is under way (the road of the library's rule for a body) -/
theorem fnG_of {P : Program} {w : World} {K : PySem.W.Frag} {mg : Str → Option Value} {base : Heap} {k : Nat} {f : Addr} {name qual : Str} {params : Arguments} {body : List Stmt} {scope : Scope} {dV kV doc pm cdv ct oc : Value} {an od : Option Addr}
    {osl : Array (Option Value)} {N ps : List Str} {sp : Sp} (lk : K.lookup f = some ⟨oc, od, .func (PySem.W.fnOf name qual params body scope dV kV doc pm an cdv ct), osl⟩) (hcd : PySem.W.codeIn K cdv qual = true) (S : FnScope N ps scope)
    (len : ∀ vs H Q E, sp vs H Q E → vs.length = ps.length)
    (hbody : ∀ (A : Around) (outer : List Env) (s : Shared) (H : Hp) (vs : List V) (Q : VK) (E : XK), Room k (A.deeper (envOfC qual scope s.heap.objs.size f cdv)) → A.guards = some [] → sp vs H Q E →
      ∃ t, PSs (cxOf CX0 P w K mg base N qual scope f cdv A outer s H E) body t ∧ t { nx := fun _ H' => Q .non H', rt := Q } (start N vs) H) :
    FnG P w K mg base (k + 1) f (PySem.W.fnOf name qual params body scope dV kV doc pm an cdv ct) ps sp := by
  refine ⟨len, fun A outer s H args us vs Q E hr hgd e0 hb r hsp => ?_⟩
  have hl := len _ _ _ _ hsp
  have KX : K.In s.heap := e0.mod.kin.keeps fun b o e => (e0.bs b o e).1
  have lim : s.heap.NoLimit := e0.mod.nolimit.keeps fun b o e => (e0.bs b o e).1
  have hkind : ∀ y ∈ ps.zip us, scope.names.lookup y.1 = some .local ∨ (scope.names.lookup y.1 = some .cell ∧ ((cellsFrom (s.heap.objs.size + 1) scope.names []).lookup y.1).isSome = true) := fun ⟨n, v⟩ hy => by
    rcases S.par n (List.of_mem_zip hy).1 with q | q
    · exact .inl q
    · exact .inr ⟨q, PySem.W.cellsFrom_some _ _ _ (.inl q)⟩
  refine codeAny_call_function hr.depth (KX _ _ lk) rfl S.co S.gen rfl (PySem.W.codeRec_of KX hcd) (hb _ _ _ _ ?_)
  refine wpAny_newFunctionEnv_cells S.kind hkind fun env he s1 x => ?_
  subst he
  refine ⟨lim.keeps x.toInCall.keep, codeAny_func ?_⟩
  obtain ⟨t, ht, hq⟩ := hbody A outer s H vs Q E (hr.deeper _) hgd hsp
  have I : Inv (cxOf CX0 P w K mg base N qual scope f cdv A outer s H E) [] (start N vs) H s1 := inv_start S hr.hd e0 hl r x
  refine wpAny_mono (ht.run [] s1 (start N vs) H _ I hq) (fun fl s' hs => ?_) fun e s' hs => hs
  have fin : ∀ {σ' : L2.St} {H' : Hp} {v : V} {u : Value}, Inv (cxOf CX0 P w K mg base N qual scope f cdv A outer s H E) [] σ' H' s' → RelV v u → Q v H' → CE outer P w H s Q u s' :=
    fun {σ' H' v u} J rv q => ⟨v, H', J.os, J.bare, J.base, J.hok, rv, q⟩
  cases fl with
  | ret u =>
    obtain ⟨v, σ', H', J, rv, q⟩ := hs
    exact fin J rv q
  | next =>
    obtain ⟨σ', H', J, q⟩ := hs
    exact fin (v := V.non) (u := Value.none) J rfl q
  | brk =>
    obtain ⟨_, _, _, q⟩ := hs
    exact False.elim q
  | cont =>
    obtain ⟨_, _, _, q⟩ := hs
    exact False.elim q
theorem rts_app : ∀ {vs : List V} {ts : List T} {σ : L2.St} {ρ : Sl}, vs.length = ts.length → rts (vs.map some ++ σ) (ts.map some ++ ρ) = vs.zip ts ++ rts σ ρ
  | [], [], _, _, _ => rfl
  | v :: vs, t :: ts, σ, ρ, h => by
    show (v, t) :: rts (vs.map some ++ σ) (ts.map some ++ ρ) = _
    rw [rts_app (by simpa using h)]
    rfl
theorem rts_rep : ∀ (n m : Nat), rts (List.replicate n none) (List.replicate m (none : Option T)) = []
  | 0, _ => by simp [rts]
  | n + 1, 0 => by simp [rts, List.replicate_succ]
  | n + 1, m + 1 => by rw [List.replicate_succ, List.replicate_succ]; show rts _ _ = _; exact rts_rep n m
section
variable {K : PySem.W.Frag} {ca : Str → Addr}
theorem start_S {F H : Hp} {N : List Str} {vs : List V} {ts : List T} {fr : List (V × T)} (ok : Ok K ca F H (vs.zip ts ++ fr)) (hl : vs.length = ts.length) (hN : vs.length ≤ N.length) :
    S K ca F H (start N vs) (ts.map some ++ List.replicate (N.length - ts.length) none) fr := by
  refine ⟨?_, fun i t e => ?_, ?_⟩
  · unfold L2.start
    rw [List.length_append, List.length_append, List.length_map, List.length_map, List.length_replicate, List.length_replicate, hl]
  · by_cases hi : i < ts.length
    · unfold L2.start
      rw [List.getElem?_append_left (by simpa [hl] using hi), List.getElem?_map, List.getElem?_eq_getElem (by omega)]
      exact ⟨_, rfl⟩
    · rw [List.getElem?_append_right (by simpa using hi), List.getElem?_replicate] at e
      split at e <;> cases e
  · unfold L2.start
    rw [rts_app hl, rts_rep, List.append_nil]
    exact ok
/-- what a body is asked, from the promise -/
theorem body_S {f : FS} {io : Bool} {np : Nat} {body : List MS} {N : List Str} {dfl : List D} {name : Str} (hf : f = FS.of name io np N.length body dfl) (hnp : np ≤ N.length) (hio : (io && np == 0) = false) {vs : List V} {H : Hp} {Q : VK} {E : XK} (h : spOf K ca f vs H Q E) :
    tS K ca io (execs body) { nx := fun _ H' => Q .non H', rt := Q } (start N vs) H := by
  subst hf
  obtain ⟨F, ts, fr, ok, hl, hn, hsem⟩ := h
  have hn : ts.length = np := hn
  have st := start_S (N := N) ok hl (by omega)
  refine ⟨F, _, fr, st, ?_⟩
  have hsem : match runD io N.length body ts with
    | .ret t out => ∀ v H' F', Ex F F' → Ok K ca F' H' ((v, t) :: (ioR io vs out ++ fr)) → Q v H'
    | _ => False := hsem
  unfold runD at hsem
  cases hx : execs body (ts.map some ++ List.replicate (N.length - ts.length) none) with
  | exc x ρ => rw [hx] at hsem; cases ho : outOf io ρ <;> (simp only [ho] at hsem)
  | bad => rw [hx] at hsem; exact hsem.elim
  | ok fl ρ' =>
    rw [hx] at hsem
    show ∀ σ' H' F', Ex F F' → (io = true → σ'[0]? = (start N vs)[0]?) → flW K ca F' H' σ' ρ' fr _ fl
    intro σ' H' F' eF h0
    have fin : ∀ (t o : T), outOf io ρ' = some o → (∀ v H' F', Ex F F' → Ok K ca F' H' ((v, t) :: (ioR io vs o ++ fr)) → Q v H') → ∀ v, S K ca F' H' σ' ρ' ((v, t) :: fr) → Q v H' := fun t o ho q v s => by
      refine q v H' F' eF ?_
      cases io with
      | false =>
        have e : ioR false vs o = [] := by cases vs <;> rfl
        rw [e, List.nil_append]
        exact s.ok.sub (List.sublist_append_right _ _)
      | true =>
        have h0 := h0 rfl
        have hpos : 0 < np := by
          cases np with
          | zero => cases hio
          | succ n => omega
        cases vs with
        | nil => simp only [List.length_nil] at hl; omega
        | cons v0 vs =>
          have hs0 : σ'[0]? = some (some v0) := h0
          have ho' : ρ'[0]? = some (some o) := by
            unfold outOf at ho
            simp only [if_true] at ho
            cases hq : ρ'[0]? with
            | none => rw [hq] at ho; cases ho
            | some x => rw [hq] at ho; cases x with
              | none => cases ho
              | some y => cases ho; rfl
          have s2 := s.out hs0 ho'
          have s3 : S K ca F' H' σ' (ρ'.set 0 none) ((v, t) :: (v0, o) :: fr) := s2.perm (List.Perm.swap ..)
          exact s3.ok.sub (List.sublist_append_right _ _)
    cases ho : outOf io ρ' with
    | none => cases fl <;> (simp only [ho] at hsem)
    | some o =>
      cases fl with
      | ret t =>
        simp only [ho] at hsem
        exact fun v s => fin t o ho hsem v s
      | next =>
        simp only [ho] at hsem
        exact fun s => fin (sh .non) o ho hsem .non (s.push rfl)
      | brk => simp only [ho] at hsem
      | cont => simp only [ho] at hsem
end
/-- THE RULE: a def of the law's text by its tree -/
theorem fnG_tree {W : Wd} {k : Nat} {fa : Addr} {name qual : Str} {params : Arguments} {body : List Stmt} {scope : Scope} {dV kV doc pm cdv ct oc : Value} {an od : Option Addr} {osl : Array (Option Value)} {N ps : List Str} {f : FS} {io : Bool} {np : Nat} {mbody : List MS} {dfl : List D} {nm : Str}
    (lk : W.K.lookup fa = some ⟨oc, od, .func (PySem.W.fnOf name qual params body scope dV kV doc pm an cdv ct), osl⟩) (hcd : PySem.W.codeIn W.K cdv qual = true) (S : FnScope N ps scope)
    (hf : f = FS.of nm io np N.length mbody dfl) (hps : ps.length = np) (hnp : np ≤ N.length) (hio : (io && np == 0) = false) (hk : okSs W k mbody) (hc : chkSs mbody ⟨N, scope, fun _ => true⟩ io body = true) :
    FnG W.P W.w W.K W.mg W.base (k + 1) fa (PySem.W.fnOf name qual params body scope dV kV doc pm an cdv ct) ps (spOf W.K W.ca f) := by
  refine fnG_of lk hcd S (fun vs H Q E h => ?_) fun A outer s H vs Q E hr hgd hsp => ?_
  · obtain ⟨F, ts, fr, ok, hl, hn, _⟩ := h
    subst hf
    have hn : ts.length = np := hn
    omega
  · refine ⟨_, sSs (ca := W.ca) (k := k) (c := ⟨N, scope, fun _ => true⟩) (io := io) mbody ?_ hk hc, body_S hf hnp hio hsp⟩
    exact { hN := rfl, nd := S.nd, hs := rfl, kind := S.kind, calm := rfl, rm := hr, gd := gd_deeper hgd _, st := fun _ _ => rfl, po := passes_of rfl }
end Mi

set_option Elab.async false
set_option linter.all false
set_option maxRecDepth 100000
set_option maxHeartbeats 2000000
/-! M4a: a law's end, by its tree; the head's facts. -/
namespace Mi
open PySem PySem.Spec PyProof.Rows L2
open Evl (Ex)
/-- the law's call, where no list stands in the written part -/
theorem law_callG {P : Program} {w : World} {K : PySem.W.Frag} {mg mb : Str → Option Value} {k : Nat} {fa a : Addr} {fd : FuncData} {x : Str} {sp : Sp} {s₁ : Shared} {vs : List Value} {ns : List Int}
    (KX : K.In s₁.heap) (hns : s₁.heap.Ns mainGlobals mg) (hb : s₁.heap.Ns builtinsNs mb) (hbb : ∀ x : Str, x ≠ "__name__" → mb x = bootBuiltins x) (hlim : s₁.heap.NoLimit) (hg : s₁.gens = #[])
    (ha : s₁.heap.get? a = some { cls := .type "list", data := .seq vs.toArray }) (hi : IntsAre vs ns) (hl : ns.length ≤ sizeLine) (hr : Room k callerA) (hk : K.lookup a = none)
    (F : ∀ base : Heap, K.In base → base.Ns mainGlobals mg → FnG P w K mg base k fa fd [x] sp) (hbind : ∀ (s : Shared) (u : Value), BindsTo s fd ⟨[u], []⟩ [(x, u)])
    (hsp : ∀ H : Hp, H a = some (.frz { cls := .type "list", data := .seq vs.toArray } (.lst (ns.map V.int))) → sp [.ref a] H (fun v _ => v = .bl true) E0) :
    codeAny (model P w) callerA (.call (.ref fa) ⟨[.ref a], []⟩) (fun r s' => r = .ok (.ret (.bool true)) ∧ OldK s₁.heap s'.heap ∧ s'.os = s₁.os ∧ AllBare s'.gens) s₁ := by
  have rv := vals_ints hi
  have lenV := hi.length
  let o0 : Obj := { cls := .type "list", data := .seq vs.toArray }
  let H : Hp := fun b => if b = a then some (.frz o0 (.lst (ns.map V.int))) else none
  have hA : ∀ b u, H b = some u → b = a ∧ u = .frz o0 (.lst (ns.map V.int)) := fun b u z => by
    by_cases hb : b = a
    · have z' := (if_pos hb).symm.trans z
      cases z'
      exact ⟨hb, rfl⟩
    · have z' := (if_neg hb).symm.trans z
      cases z'
  have Ha : H a = some (.frz o0 (.lst (ns.map V.int))) := if_pos rfl
  have hok : HOk P w H s₁.heap := fun b u z => by
    obtain ⟨rfl, rfl⟩ := hA b u z
    exact ⟨ha, by rw [List.length_map]; exact hl, vs, _, rv, ha⟩
  have free : ∀ b, b ≠ a → H b = none := fun b hb => if_neg hb
  have noA : ∀ {b : Addr} {o : Obj} {es : Array DictEntry} {ep : Nat}, s₁.heap.get? b = some o → o.data = .dict es ep → H b = none := fun {b o es ep} e d => by
    refine free b fun e' => ?_
    rw [e', ha] at e
    cases e
    have d' : Data.seq vs.toArray _ = Data.dict es ep := d
    cases d'
  have nsK : ∀ {b : Addr} {m : Str → Option Value}, s₁.heap.Ns b m → (hidT s₁.heap H).Ns b m := fun {b m} ⟨o, es, ep, e, d, r⟩ => ⟨o, es, ep, hidT_get e (noA e d), d, r⟩
  have hKb : K.In (hidT s₁.heap H) := fun b o e => hidT_get (KX b o e) (free b fun z => by rw [z, hk] at e; cases e)
  have hM : Mod K mg (hidT s₁.heap H) := ⟨hKb, nsK hns, ⟨mb, nsK hb, hbb⟩, let ⟨mc, h1, h2⟩ := hlim; ⟨mc, nsK h1, h2⟩⟩
  have e0 : Env0 P w K mg (hidT s₁.heap H) callerA [] s₁ H := ⟨rfl, hM, fun b o e => of_hidT e, Nat.le_of_eq (hidT_size _ _), trivial, fun b hb => absurd (show b ∈ ([] : List Addr) from hb) (by simp), hok, .of_eq hg⟩
  refine codeAny_mono ((F _ hKb (nsK hns)).run callerA [] s₁ H ⟨[.ref a], []⟩ [.ref a] [.ref a] _ _ hr rfl e0 (hbind s₁ (.ref a)) (.cons rfl .nil) (hsp H Ha)) fun r s' h => ?_
  cases r with
  | error e => exact h.elim
  | ok fl =>
    cases fl with
    | next => exact False.elim h
    | brk => exact False.elim h
    | cont => exact False.elim h
    | ret u =>
      obtain ⟨v, H', os, bare, un, hok', r', q⟩ := h
      have q' : v = .bl true := q
      subst q'
      obtain rfl : u = Value.bool true := r'
      refine ⟨rfl, OldK.of_keep fun b o e => ?_, os, bare⟩
      by_cases hb : b = a
      · have z2 := un.frzs b o0 _ (by rw [hb]; exact Ha)
        obtain ⟨e2, _⟩ := hok' b _ z2
        have e1 := ha
        rw [← hb, e] at e1
        cases e1
        exact e2
      · exact un.keep b o e (free b hb) (by intro z; exact absurd (show b ∈ ([] : List Addr) from z) (by simp)) (by simp)
/-- no list in the written part -/
def noLists (K : PySem.W.Frag) : Bool := K.all fun p => !(p.2.cls == .type "list")
theorem noLists_at {K : PySem.W.Frag} {a : Addr} {o : Obj} (h : noLists K = true) (e : K.lookup a = some o) (hc : o.cls = .type "list") : False := by
  have hm : (a, o) ∈ K := by
    have key : ∀ l : List (Addr × Obj), l.lookup a = some o → (a, o) ∈ l := by
      intro l
      induction l with
      | nil => intro h; cases h
      | cons q l ih =>
        intro h
        rw [List.lookup_cons] at h
        cases hb : a == q.1 with
        | true =>
          rw [hb] at h
          cases h
          rw [beq_iff_eq.mp hb]
          exact List.mem_cons_self ..
        | false => rw [hb] at h; exact List.mem_cons_of_mem _ (ih h)
    exact key K e
  have := List.all_eq_true.mp h _ hm
  simp [hc] at this
/-- what the law's own def is to answer -/
def LawOk (f : FS) (n : Nat) : Prop := f.np = 1 ∧ ∀ ns : List Int, ns.length ≤ n → ∃ t out, f.sem [sh (.lst (ns.map D.int))] = .ret t out ∧ t.d = .bl true
theorem repInts {K : PySem.W.Frag} {ca : Str → Addr} {F : Hp} : ∀ ns : List Int, RepDs K ca F (ns.map D.int) (ns.map V.int)
  | [] => rfl
  | n :: ns => ⟨.int n, _, rfl, rfl, repInts ns⟩
theorem law_sp {K : PySem.W.Frag} {ca : Str → Addr} {f : FS} {n : Nat} (hL : LawOk f n) {H : Hp} {a : Addr} {o : Obj} {ns : List Int} (hl : ns.length ≤ n) (h : H a = some (.frz o (.lst (ns.map V.int)))) : spOf K ca f [.ref a] H (fun v _ => v = .bl true) E0 := by
  obtain ⟨hnp, hL⟩ := hL
  obtain ⟨t, out, hs, ht⟩ := hL ns hl
  have rep : RepD K ca H (.lst (ns.map D.int)) (.ref a) := ⟨a, ns.map V.int, rfl, .inr ⟨o, h⟩, repInts ns⟩
  refine ⟨H, [sh (.lst (ns.map D.int))], [], ⟨Ex.refl H, fun r hr => ?_, List.pairwise_singleton ..⟩, rfl, hnp.symm, ?_⟩
  · have hr' : r ∈ [(V.ref a, sh (.lst (ns.map D.int)))] := by simpa using hr
    obtain rfl := List.mem_singleton.mp hr'
    exact rep
  · rw [hs]
    intro v H' F' eF ok
    have := (ok.rep _ (List.mem_cons_self ..)).b ok.ex
    have this : RepB K ca F' H' t.d v := this
    rw [ht] at this
    exact this
/-- a law over facts of the head -/
theorem walk_ofG {l : PySem.W.OpenLaw} {n k : Nat} {q : Program} {loose : List Str} {XP : (Str → Option Value) → Heap → Prop} {YP : World → Heap → Prop} {d : DefRec} {x : Str} {f : FS}
    (hn : l.most = some n) (hn2 : n ≤ sizeLine) (hdf : d.params.defaults = []) (hr : Room k callerA) (hL : LawOk f n)
    (F : ∀ (w : World) (mg : Str → Option Value) (fa : Addr) (h : Heap), YP w h → h.Ns mainGlobals mg → mg d.name = some (.ref fa) →
      ∃ (K : PySem.W.Frag) (ca : Str → Addr) (fd : FuncData), K.In h ∧ noLists K = true ∧ (∀ (s : Shared) (u : Value), BindsTo s fd ⟨[u], []⟩ [(x, u)]) ∧
        ∀ base : Heap, K.In base → base.Ns mainGlobals mg → FnG l.prog w K mg base k fa fd [x] (spOf K ca f)) :
    PySem.W.WalkO q loose XP YP l.row.toRowW d [] (fun f vs => PySem.call f vs) := by
  refine Att.attach_call hn hdf fun w s₀ s₁ mg mb fa o pm cd doc a vs ns G Y ho hd hcd hmg hobj hints hlen hg => ?_
  obtain ⟨K, ca, fd, KX, hnl, hb, hF⟩ := F w mg fa _ Y G.T.g hmg
  have hk : K.lookup a = none := by
    cases e : K.lookup a with
    | none => rfl
    | some o' =>
      have e2 := KX a o' e
      rw [hobj] at e2
      cases e2
      exact (noLists_at hnl e rfl).elim
  exact law_callG KX G.T.g G.T.b G.T.builtins G.T.nolimit hg hobj hints (Nat.le_trans hlen hn2) hr hk hF hb fun H hH => law_sp hL hlen hH
end Mi

set_option Elab.async false
set_option linter.all false
set_option maxRecDepth 100000
set_option maxHeartbeats 2000000
/-! M4b: a hook of the head with any test of the written part. -/
namespace Mi
open PySem PySem.Spec PyProof.Rows L2
/-- what the head shows: a test, and the defs as the text has them -/
def obsM (p : PySem.W.Frag → Bool) (fn : List He.DefD) (K : PySem.W.Frag) : He.AlD := (p K && fn.all fun d => d.ok K, fn.map fun d => He.fnW K d.at_)
def obsMG (n : Nat) (p : PySem.W.Frag → Bool) (fn : List He.DefD) (g : Addr → Option Obj) : He.AlD := obsM p fn (He.frG g (He.asD g n))
def hookM (n : Nat) (p : PySem.W.Frag → Bool) (fn : List He.DefD) : PySem.W.Hook where
  α := He.AlD
  obs := fun s => obsMG n p fn s.heap.get?
  val := fun _ => He.valD fn
  says := fun _ h => ∃ K : PySem.W.Frag, K.In h ∧ obsM p fn K = He.valD fn
  of := fun _ _ e => ⟨_, He.frG_in, e⟩
  keeps := fun _ _ _ ⟨K, hK, c⟩ k => ⟨K, PySem.W.Frag.In.keeps hK k, c⟩
theorem obsMG_eq {n : Nat} {p : PySem.W.Frag → Bool} {fn : List He.DefD} {g : Addr → Option Obj} {s : Shared} (h : ∀ a, g a = s.heap.get? a) : obsMG n p fn g = (hookM n p fn).obs s := by
  have e : g = s.heap.get? := funext h
  rw [e]
  rfl
section
variable {p : PySem.W.Frag → Bool} {fn : List He.DefD} {K : PySem.W.Frag}
theorem says_p (c : obsM p fn K = He.valD fn) : p K = true := (He.ba (show (p K && fn.all fun d => d.ok K) = true from congrArg (fun z : He.AlD => z.1) c)).1
theorem says_def (c : obsM p fn K = He.valD fn) (i : Nat) {d : He.DefD} (h : fn[i]? = some d) : ∃ fd, FunD K d.name d.qual d.params d.body d.scope (d.dvs K) (d.kws K) (He.fAd K d.at_) fd := by
  have c2 := (He.ba (show (p K && fn.all fun d => d.ok K) = true from congrArg (fun z : He.AlD => z.1) c)).2
  have e : fn.map (fun d => He.fnW K d.at_) = fn.map He.DefD.val := congrArg (fun z : He.AlD => z.2) c
  have e2 : (fn.map fun d => He.fnW K d.at_)[i]? = (fn.map He.DefD.val)[i]? := by rw [e]
  rw [List.getElem?_map, List.getElem?_map, h] at e2
  exact He.DefD.funD (Option.some.inj e2) (List.all_eq_true.mp c2 d (List.mem_of_getElem? h))
end
/-! the classes, by a look -/
def kitB (K : PySem.W.Frag) (t c : Value) (b : Bool) : Bool := match PySem.W.kitOne K t c with
  | some x => x == b
  | none => false
theorem kitB_ok {K : PySem.W.Frag} {t c : Value} {b : Bool} (h : kitB K t c b = true) : PySem.W.kitOne K t c = some b := by
  unfold kitB at h
  split at h
  · rename_i x e
    rw [e, beq_iff_eq.mp h]
  · cases h
def isiB (K : PySem.W.Frag) (ok : List Str) : Bool :=
  (("NoneType" :: tyNames).all fun a => tyNames.all fun n => kitB K (.type a) (.type n) (isTy a n)) &&
  (("NoneType" :: tyNames).all fun a => ok.all fun c => kitB K (.type a) (.ref (He.ga K c)) false) &&
  (ok.all fun c => tyNames.all fun n => kitB K (.ref (He.ga K c)) (.type n) false) &&
  (ok.all fun c => ok.all fun e => kitB K (.ref (He.ga K c)) (.ref (He.ga K e)) (decide (c = e))) &&
  (ok.all fun c => (He.Fa.cls c).ok K && (He.eqO (PySem.W.findIn K (.ref (He.ga K c)) "__class__") (some (some (.builtin "object.__class__"))) && (He.eqO (PySem.W.specialIn K (.builtin "object.__class__") "__get__") (some (some (.builtin "getset_descriptor.__get__"))) &&
    (decide (PySem.W.takesIn K (.builtin "object.__class__") = some true) && decide (PySem.W.mroIn K (He.ga K c) (.type "object") = some true)))))
theorem isiB_ok {K : PySem.W.Frag} {ok : List Str} (h : isiB K ok = true) : IsiOk K (He.ga K) ok := by
  unfold isiB at h
  simp only [Bool.and_eq_true, List.all_eq_true] at h
  obtain ⟨⟨⟨⟨h1, h2⟩, h3⟩, h4⟩, h5⟩ := h
  refine ⟨fun a ha n hn => kitB_ok (h1 a ha n hn), fun a ha c hc => kitB_ok (h2 a ha c hc), fun c hc n hn => kitB_ok (h3 c hc n hn), fun c hc e he => kitB_ok (h4 c hc e he), fun c hc => ?_⟩
  obtain ⟨a, b, c', d, e⟩ := h5 c hc
  exact ⟨He.cls_ok a, He.eqO_ok b, He.eqO_ok c', of_decide_eq_true d, of_decide_eq_true e⟩
end Mi
namespace Mi
def clsB : PySem.Stmt → List PySem.Stmt
  | .ClassDef (body := b) .. => b
  | _ => []
end Mi

set_option Elab.async false
set_option linter.all false
set_option maxRecDepth 100000
set_option maxHeartbeats 2000000
/-! M5: from the head's facts to what a def is asked. -/
namespace Mi
open PySem PySem.Spec PyProof.Rows L2
open Evl (Ex)
theorem fnG_def {W : Wd} {k : Nat} {name qual : Str} {params : Arguments} {body : List Stmt} {scope : Scope} {dvs : List V} {kws : List (Str × V)} {fa : Addr} {fd : FuncData} {N ps : List Str} {f : FS} {io : Bool} {np : Nat} {mbody : List MS} {dfl : List D} {nm : Str}
    (F : FunD W.K name qual params body scope dvs kws fa fd) (S : FnScope N ps scope) (hf : f = FS.of nm io np N.length mbody dfl) (hps : ps.length = np) (hnp : np ≤ N.length) (hio : (io && np == 0) = false) (hk : okSs W k mbody) (hc : chkSs mbody ⟨N, scope, fun _ => true⟩ io body = true) :
    FnG W.P W.w W.K W.mg W.base (k + 1) fa fd ps (spOf W.K W.ca f) := by
  obtain ⟨oc, od, dV, kV, doc, pm, an, cdv, ct, osl, rfl, lk, hcd, _, _⟩ := F.ex
  exact fnG_tree lk hcd S hf hps hnp hio hk hc
theorem dfl0 {W : Wd} {f : FS} {fd : FuncData} {ps : List Str} (h0 : f.dfl = []) (b : Binds W.K fd ps []) : DflOk W f fd ps := by
  intro j hj
  rw [h0] at hj ⊢
  obtain rfl : j = 0 := by simpa using hj
  exact ⟨[], [], b, .nil, fun F => rfl⟩
theorem FnC.up {W : Wd} {j k : Nat} {f : FS} (h : FnC W j f) (hj : j ≤ k) : FnC W k f := by
  obtain ⟨fa, fd, ps, F, r⟩ := h.ex
  exact ⟨fa, fd, ps, F.mono hj, r⟩
theorem MtC.up {W : Wd} {j k : Nat} {c m : Str} {f : FS} (h : MtC W j c m f) (hj : j ≤ k) : MtC W k c m f := by
  obtain ⟨fa, fd, ps, a, b, F, r⟩ := h.ex
  exact ⟨fa, fd, ps, a, b, F.mono hj, r⟩
theorem MkC.up {W : Wd} {j k : Nat} {c : Str} {f : FS} (h : MkC W j c f) (hj : j ≤ k) : MkC W k c f := by
  obtain ⟨fa, fd, ps, a, F, r⟩ := h.ex
  exact ⟨fa, fd, ps, a, F.mono hj, r⟩
theorem MtwC.up {W : Wd} {j k : Nat} {c m : Str} {f : FS} {kn : List Str} {pm : List Nat} (h : MtwC W j c m f kn pm) (hj : j ≤ k) : MtwC W k c m f kn pm := by
  obtain ⟨fa, fd, ps, a, b, F, r⟩ := h.ex
  exact ⟨fa, fd, ps, a, b, F.mono hj, r⟩
theorem MwC.up {W : Wd} {j k : Nat} {c : Str} {f : FS} {kn : List Str} {pm : List Nat} (h : MwC W j c f kn pm) (hj : j ≤ k) : MwC W k c f kn pm := by
  obtain ⟨fa, fd, ps, a, F, r⟩ := h.ex
  exact ⟨fa, fd, ps, a, F.mono hj, r⟩
/-- an empty tuple of the module -/
def etB (K : PySem.W.Frag) (a : Addr) : Bool := match K.lookup a with
  | some o => o.cls == .type "tuple" && (match o.data with
    | .seq its _ => its.size == 0
    | _ => false)
  | none => false
theorem etB_ok {K : PySem.W.Frag} {ca : Str → Addr} {a : Addr} (h : etB K a = true) (F : Hp) : RepD K ca F (.tup []) (.ref a) := by
  unfold etB at h
  split at h
  · rename_i o e
    simp only [Bool.and_eq_true, beq_iff_eq] at h
    obtain ⟨h1, h2⟩ := h
    split at h2
    · rename_i its n hd
      have h2 : its.size = 0 := beq_iff_eq.mp h2
      have hz : its = #[] := Array.eq_empty_of_size_eq_zero h2
      subst hz
      exact ⟨a, [], rfl, .inr ⟨by simp, .inr ⟨o, #[], n, e, h1, hd, by simp, .nil⟩⟩, rfl⟩
    · cases h2
  · cases h
/-- one default, at the end, an empty tuple -/
theorem dfl1 {W : Wd} {x qual : Str} {params : Arguments} {body : List Stmt} {scope : Scope} {p : PySem.W.Frag → Addr} {kws : List (Str × V)} {fa : Addr} {fd : FuncData} {f : FS} {ps : List Str} {n : Nat}
    (F : FunD W.K x qual params body scope [.ref (p W.K)] kws fa fd) (h0 : f.dfl = [.tup []]) (ht : etB W.K (p W.K) = true) (hn : n + 1 = ps.length)
    (h : ∀ (m : Nat), (m = n ∨ m = n + 1) → ∀ (T : Addr) (kV doc pm : Value) (an : Option Addr) (cdv ct : Value) (us its : List Value), us.length = m → its.length = 1 →
      ∃ k, bindArgs (PySem.W.fnOf x qual params body scope (.ref T) kV doc pm an cdv ct) ⟨us, []⟩ = seqItems? (.ref T) >>= k ∧ k (some its.toArray) = pure (ps.zip (us ++ its.drop (m - n)))) : DflOk W f fd ps := by
  intro j hj
  rw [h0] at hj ⊢
  have hj' : j = 0 ∨ j = 1 := by
    have : j ≤ 1 := by simpa using hj
    omega
  rcases hj' with rfl | rfl
  · obtain ⟨ds, r, b⟩ := F.binds1 (ps := ps) (n + 1) 1 (by simp) (by simpa using hn) fun T kV doc pm an cdv ct us its l1 l2 => by
      obtain ⟨k, a, b⟩ := h (n + 1) (.inr rfl) T kV doc pm an cdv ct us its l1 l2
      exact ⟨k, a, by rw [b]; simp⟩
    exact ⟨_, ds, b, r, fun F => rfl⟩
  · obtain ⟨ds, r, b⟩ := F.binds1 (ps := ps) n 0 (by simp) (by simpa using hn) fun T kV doc pm an cdv ct us its l1 l2 => by
      obtain ⟨k, a, b⟩ := h n (.inl rfl) T kV doc pm an cdv ct us its l1 l2
      exact ⟨k, a, by rw [b]; simp⟩
    exact ⟨_, ds, b, r, fun F => ⟨_, [], rfl, etB_ok ht F, rfl⟩⟩
/-- by keywords -/
theorem mw_binds {K : PySem.W.Frag} {x qual : Str} {params : Arguments} {body : List Stmt} {scope : Scope} {dvs : List V} {kws : List (Str × V)} {fa : Addr} {fd : FuncData} {ps kn : List Str} {pm : List Nat}
    (F : FunD K x qual params body scope dvs kws fa fd) (hd : dvs ≠ [])
    (h : ∀ (T : Addr) (kV doc pmv : Value) (an : Option Addr) (cdv ct : Value) (self : Value) (its ws ws' : List Value), its.length = dvs.length → ws.length = kn.length → permD pm ws = some ws' →
      ∃ k, bindArgs (PySem.W.fnOf x qual params body scope (.ref T) kV doc pmv an cdv ct) ⟨[self], kn.zip ws⟩ = seqItems? (.ref T) >>= k ∧ k (some its.toArray) = pure (ps.zip (self :: ws'))) :
    ∀ (s : Shared) (self : Value) (ws ws' : List Value), K.In s.heap → ws.length = kn.length → permD pm ws = some ws' → BindsTo s fd ⟨[self], kn.zip ws⟩ (ps.zip (self :: ws')) := by
  obtain ⟨oc, od, dV, kV, doc, pmv, an, cdv, ct, osl, rfl, lk, hcd, hD, hK⟩ := F.ex
  rcases hD with ⟨e, _⟩ | ⟨_, T, o, its, m, rfl, lT, oT, rT⟩
  · exact absurd e hd
  · intro s self ws ws' X l1 l2
    obtain ⟨k, e1, e2⟩ := h T kV doc pmv an cdv ct self its ws ws' rT.length.symm l1 l2
    refine BindsTo.of_looks fun M => ?_
    rw [e1]
    exact looks_items X lT oT (.of_pure e2)
/-! constants -/
theorem glC_int {W : Wd} {x : Str} {i : Int} (X : W.K.In W.base) (G : W.base.Ns mainGlobals W.mg) (c : (He.Fa.int x i).ok W.K = true) : GlC W x (.int i) := by
  obtain ⟨t, e⟩ := He.int_ok X G c
  exact ⟨_, .int i, .inl e, ⟨t, rfl⟩, fun F => rfl⟩
theorem glC_str {W : Wd} {x z : Str} (X : W.K.In W.base) (G : W.base.Ns mainGlobals W.mg) (c : (He.Fa.str x z).ok W.K = true) : GlC W x (.str z) := by
  obtain ⟨t, e⟩ := He.str_ok X G c
  exact ⟨_, .str z, .inl e, ⟨t, rfl⟩, fun F => rfl⟩
theorem glC_ty {W : Wd} {x : Str} {n : String} (X : W.K.In W.base) (G : W.base.Ns mainGlobals W.mg) (c : (He.Fa.free x).ok W.K = true) (hb : bootBuiltins x = some (.type n)) (hn : x ≠ "__name__") : GlC W x (.ty n) :=
  ⟨_, .ty n, .inr ⟨He.free_ok X G c, hb, hn⟩, rfl, fun F => rfl⟩
theorem glC_cls {W : Wd} {x : Str} (hca : W.ca = He.ga W.K) (X : W.K.In W.base) (G : W.base.Ns mainGlobals W.mg) (c : (He.Fa.glo x).ok W.K = true) : GlC W x (.cls x) :=
  ⟨_, .ref (He.ga W.K x), .inl (He.glo_ok X G c), rfl, fun F => by show V.ref _ = V.ref _; rw [hca]⟩
/-- a flat tuple of the module, of texts and numbers -/
def tcB (K : PySem.W.Frag) (x : Str) (ks : List Key) : Bool := match PySem.W.nsIn K mainGlobals x with
  | some (some (.ref a)) => (match K.lookup a with
    | some o => o.cls == .type "tuple" && (match o.data with
      | .seq its _ => its.size == ks.length && its.size != 2 && decide (its.size ≤ 1000) && (its.toList.zip ks).all fun p => keyIs p.2 p.1
      | _ => false)
    | none => false)
  | _ => false
theorem keys_vals : ∀ {vs : List Value} {ks : List Key}, vs.length = ks.length → (vs.zip ks).all (fun p => keyIs p.2 p.1) = true → Vals (ks.map kV) vs
  | [], [], _, _ => .nil
  | v :: vs, k :: ks, h, e => by
    simp only [List.zip_cons_cons, List.all_cons, Bool.and_eq_true] at e
    exact .cons (keyIs_rel e.1) (keys_vals (by simpa using h) e.2)
  | [], _ :: _, h, _ => by simp at h
  | _ :: _, [], h, _ => by simp at h
theorem glC_tup {W : Wd} {x : Str} {ks : List Key} (X : W.K.In W.base) (G : W.base.Ns mainGlobals W.mg) (c : tcB W.K x ks = true) : GlC W x (.tup (ks.map dkey)) := by
  unfold tcB at c
  split at c
  · rename_i a e1
    split at c
    · rename_i o e2
      simp only [Bool.and_eq_true, beq_iff_eq] at c
      obtain ⟨hc, c⟩ := c
      split at c
      · rename_i its n hd
        simp only [Bool.and_eq_true, decide_eq_true_eq] at c
        obtain ⟨⟨⟨l1, l2⟩, l3⟩, l4⟩ := c
        have l1 : its.size = ks.length := beq_iff_eq.mp l1
        have l2 : its.size ≠ 2 := by simpa using l2
        refine ⟨.ref a, .ref a, .inl (PySem.W.mg_of X G e1), rfl, fun F => ⟨a, ks.map kV, rfl, .inr ⟨by rw [List.length_map]; omega, .inr ⟨o, its, n, e2, hc, hd, ?_, ?_⟩⟩, rep_key ks⟩⟩
        · exact Nat.le_trans l3 (by decide)
        · exact keys_vals (by simpa using l1) l4
      · cases c
    · cases c
  · cases c
/-- all that the head shows -/
structure Hd (W : Wd) (fns : List He.DefD) (fas : List He.Fa) (ok : List Str) : Prop where
  hca : W.ca = He.ga W.K
  kin : W.K.In W.base
  ns : W.base.Ns mainGlobals W.mg
  fa : ∀ f ∈ fas, f.ok W.K = true
  isi : IsiOk W.K W.ca ok
  fn : ∀ (i : Nat) (d : He.DefD), fns[i]? = some d → ∃ fd, FunD W.K d.name d.qual d.params d.body d.scope (d.dvs W.K) (d.kws W.K) (He.fAd W.K d.at_) fd
section
variable {W : Wd} {fns : List He.DefD} {fas : List He.Fa} {ok : List Str}
theorem Hd.at_ (h : Hd W fns fas ok) (i : Nat) {f : He.Fa} (hf : fas[i]? = some f) : f.ok W.K = true := h.fa f (List.mem_of_getElem? hf)
/-- a def of the module, no defaults -/
theorem Hd.fnC (h : Hd W fns fas ok) {k : Nat} {f : FS} {N ps : List Str} {io : Bool} {np : Nat} {mbody : List MS} (i ig : Nat) {x qual : Str} {params : Arguments} {body : List Stmt} {scope : Scope}
    (hd : fns[i]? = some ⟨(x, none), x, qual, params, body, scope, [], []⟩) (hg : fas[ig]? = some (.glo x)) (S : FnScope N ps scope) (hf : f = FS.of x io np N.length mbody []) (hps : ps.length = np) (hnp : np ≤ N.length) (hio : (io && np == 0) = false)
    (hc : chkSs mbody ⟨N, scope, fun _ => true⟩ io body = true)
    (hb : ∀ (kV doc pm : Value) (an : Option Addr) (cdv ct : Value) (us : List Value), us.length = ps.length → bindArgs (PySem.W.fnOf x qual params body scope .none kV doc pm an cdv ct) ⟨us, []⟩ = pure (ps.zip us))
    (hk : okSs W k mbody) : FnC W (k + 1) f := by
  obtain ⟨fd, F⟩ := h.fn i _ hd
  have F : FunD W.K x qual params body scope [] [] (He.ga W.K x) fd := F
  refine ⟨He.ga W.K x, fd, ps, fnG_def F S hf hps hnp hio hk hc, ?_, F.kp, dfl0 ?_ (F.bindsN hb)⟩
  · rw [hf]
    exact He.glo_ok h.kin h.ns (h.at_ ig hg)
  · rw [hf]; rfl
/-- a method, no defaults -/
theorem Hd.mtC (h : Hd W fns fas ok) {k : Nat} {f : FS} {N ps : List Str} {io : Bool} {np : Nat} {mbody : List MS} (i ic im : Nat) {c m qual : Str} {params : Arguments} {body : List Stmt} {scope : Scope}
    (hd : fns[i]? = some ⟨(c, some m), m, qual, params, body, scope, [], []⟩) (hcl : fas[ic]? = some (.cls c)) (hm : fas[im]? = some (.meth c m)) (S : FnScope N ps scope) (hf : f = FS.of m io np N.length mbody []) (hps : ps.length = np) (hnp : np ≤ N.length) (hio : (io && np == 0) = false)
    (hc : chkSs mbody ⟨N, scope, fun _ => true⟩ io body = true)
    (hb : ∀ (kV doc pm : Value) (an : Option Addr) (cdv ct : Value) (us : List Value), us.length = ps.length → bindArgs (PySem.W.fnOf m qual params body scope .none kV doc pm an cdv ct) ⟨us, []⟩ = pure (ps.zip us))
    (hk : okSs W k mbody) : MtC W (k + 1) c m f := by
  obtain ⟨fd, F⟩ := h.fn i _ hd
  have F : FunD W.K m qual params body scope [] [] (He.ma W.K (He.ga W.K c) m) fd := F
  refine ⟨He.ma W.K (He.ga W.K c) m, fd, ps, ?_, ?_, fnG_def F S hf hps hnp hio hk hc, dfl0 ?_ (F.bindsN hb)⟩
  · rw [h.hca]
    exact He.cls_ok (h.at_ ic hcl)
  · rw [h.hca]
    exact He.meth_ok (h.at_ im hm)
  · rw [hf]; rfl
/-- a method by keywords, no defaults -/
theorem Hd.mtwC (h : Hd W fns fas ok) {k : Nat} {f : FS} {N ps kn : List Str} {pm : List Nat} {io : Bool} {np : Nat} {mbody : List MS} (i ic im : Nat) {c m qual : Str} {params : Arguments} {body : List Stmt} {scope : Scope}
    (hd : fns[i]? = some ⟨(c, some m), m, qual, params, body, scope, [], []⟩) (hcl : fas[ic]? = some (.cls c)) (hm : fas[im]? = some (.meth c m)) (S : FnScope N ps scope) (hf : f = FS.of m io np N.length mbody []) (hps : ps.length = np) (hnp : np ≤ N.length) (hio : (io && np == 0) = false)
    (hc : chkSs mbody ⟨N, scope, fun _ => true⟩ io body = true)
    (hb : ∀ (kV doc pmv : Value) (an : Option Addr) (cdv ct : Value) (self : Value) (ws ws' : List Value), ws.length = kn.length → permD pm ws = some ws' → bindArgs (PySem.W.fnOf m qual params body scope .none kV doc pmv an cdv ct) ⟨[self], kn.zip ws⟩ = pure (ps.zip (self :: ws')))
    (hk : okSs W k mbody) : MtwC W (k + 1) c m f kn pm := by
  obtain ⟨fd, F⟩ := h.fn i _ hd
  have F : FunD W.K m qual params body scope [] [] (He.ma W.K (He.ga W.K c) m) fd := F
  refine ⟨He.ma W.K (He.ga W.K c) m, fd, ps, ?_, ?_, fnG_def F S hf hps hnp hio hk hc, ?_⟩
  · rw [h.hca]
    exact He.cls_ok (h.at_ ic hcl)
  · rw [h.hca]
    exact He.meth_ok (h.at_ im hm)
  · intro s self ws ws' _ l1 l2
    obtain ⟨oc, od, dV, kV, doc, pmv, an, cdv, ct, osl, rfl, lk, hcd, hD, hK⟩ := F.ex
    rcases hD with ⟨_, rfl⟩ | ⟨e, _⟩
    · exact .of_eq (hb kV doc pmv an cdv ct self ws ws' l1 l2)
    · exact absurd rfl e
/-- __init__ with one default, an empty tuple -/
theorem Hd.mkC1 (h : Hd W fns fas ok) {k : Nat} {f : FS} {N ps : List Str} {io : Bool} {np n : Nat} {mbody : List MS} (i ig im : Nat) {c qual : Str} {params : Arguments} {body : List Stmt} {scope : Scope} {p : PySem.W.Frag → Addr}
    (hd : fns[i]? = some ⟨(c, some "__init__"), "__init__", qual, params, body, scope, [.adr p], []⟩) (hg : fas[ig]? = some (.glo c)) (hm : fas[im]? = some (.mkr c)) (S : FnScope N ps scope) (hf : f = FS.of "__init__" io np N.length mbody [.tup []]) (hps : ps.length = np) (hnp : np ≤ N.length) (hio : (io && np == 0) = false)
    (hc : chkSs mbody ⟨N, scope, fun _ => true⟩ io body = true) (ht : etB W.K (p W.K) = true) (hn : n + 1 = ps.length)
    (hb : ∀ (m : Nat), (m = n ∨ m = n + 1) → ∀ (T : Addr) (kV doc pm : Value) (an : Option Addr) (cdv ct : Value) (us its : List Value), us.length = m → its.length = 1 →
      ∃ k, bindArgs (PySem.W.fnOf "__init__" qual params body scope (.ref T) kV doc pm an cdv ct) ⟨us, []⟩ = seqItems? (.ref T) >>= k ∧ k (some its.toArray) = pure (ps.zip (us ++ its.drop (m - n))))
    (hk : okSs W k mbody) : MkC W (k + 1) c f := by
  obtain ⟨fd, F⟩ := h.fn i _ hd
  have F : FunD W.K "__init__" qual params body scope [.ref (p W.K)] [] (He.ma W.K (He.ga W.K c) "__init__") fd := F
  refine ⟨He.ma W.K (He.ga W.K c) "__init__", fd, ps, ?_, fnG_def F S hf hps hnp hio hk hc, ?_, dfl1 F ?_ ht hn hb⟩
  · rw [h.hca]
    exact He.mkr_ok (h.at_ im hm)
  · rw [h.hca]
    exact He.glo_ok h.kin h.ns (h.at_ ig hg)
  · rw [hf]; rfl
theorem Hd.mwC1 (h : Hd W fns fas ok) {k : Nat} {f : FS} {N ps kn : List Str} {pm : List Nat} {io : Bool} {np : Nat} {mbody : List MS} (i ig im : Nat) {c qual : Str} {params : Arguments} {body : List Stmt} {scope : Scope} {p : PySem.W.Frag → Addr}
    (hd : fns[i]? = some ⟨(c, some "__init__"), "__init__", qual, params, body, scope, [.adr p], []⟩) (hg : fas[ig]? = some (.glo c)) (hm : fas[im]? = some (.mkr c)) (S : FnScope N ps scope) (hf : f = FS.of "__init__" io np N.length mbody [.tup []]) (hps : ps.length = np) (hnp : np ≤ N.length) (hio : (io && np == 0) = false)
    (hc : chkSs mbody ⟨N, scope, fun _ => true⟩ io body = true)
    (hb : ∀ (T : Addr) (kV doc pmv : Value) (an : Option Addr) (cdv ct : Value) (self : Value) (its ws ws' : List Value), its.length = 1 → ws.length = kn.length → permD pm ws = some ws' →
      ∃ k, bindArgs (PySem.W.fnOf "__init__" qual params body scope (.ref T) kV doc pmv an cdv ct) ⟨[self], kn.zip ws⟩ = seqItems? (.ref T) >>= k ∧ k (some its.toArray) = pure (ps.zip (self :: ws')))
    (hk : okSs W k mbody) : MwC W (k + 1) c f kn pm := by
  obtain ⟨fd, F⟩ := h.fn i _ hd
  have F : FunD W.K "__init__" qual params body scope [.ref (p W.K)] [] (He.ma W.K (He.ga W.K c) "__init__") fd := F
  refine ⟨He.ma W.K (He.ga W.K c) "__init__", fd, ps, ?_, fnG_def F S hf hps hnp hio hk hc, ?_, mw_binds F (by simp) hb⟩
  · rw [h.hca]
    exact He.mkr_ok (h.at_ im hm)
  · rw [h.hca]
    exact He.glo_ok h.kin h.ns (h.at_ ig hg)
end
end Mi

set_option Elab.async false
set_option linter.all false
set_option maxRecDepth 100000
namespace Mi.Law
open PySem
def N_law_draw : List Str := ["_law_purse_here", "_law_many", "_law_stirred", "_law_found"]
def b_law_draw : List MS :=
  [
   .ite (.cmp .Gt [] (.sub (.var 0) (.lit (.int 0))) (.lit (.int 0)))
     [
      .set 3 (.bin .Mod [] (.bi .int [(.sub (.var 0) (.lit (.int 0)))]) (.var 1)),
      .setIx 0 (.lit (.int 0)) (.bin .FloorDiv [] (.sub (.var 0) (.lit (.int 0))) (.var 1)),
      .ret (.var 3)]
     [],
   .setIx 0 (.lit (.int 2)) (.bin .Add [] (.sub (.var 0) (.lit (.int 2))) (.lit (.int 1))),
   .set 2 (.bin .Mod [] (.bi .int [(.bin .Add [] (.bin .Mult [] (.sub (.var 0) (.lit (.int 1))) (.bin .Add [] (.bin .Mult [] (.lit (.int 7368787)) (.sub (.var 0) (.lit (.int 2)))) (.lit (.int 611953)))) (.sub (.var 0) (.lit (.int 2))))]) (.lit (.int 170141183460469231731687303715884105727))),
   .set 2 (.bin .Mod [] (.bi .int [(.bin .Add [] (.bin .Pow [] (.var 2) (.lit (.int 3))) (.bin .Mult [] (.lit (.int 40503)) (.sub (.var 0) (.lit (.int 2)))))]) (.lit (.int 162259276829213363391578010288127))),
   .ret (.bin .Mod [] (.bi .int [(.bin .FloorDiv [] (.var 2) (.bin .Pow [] (.lit (.int 10)) (.lit (.int 9))))]) (.var 1))]
def f_law_draw : FS := FS.of "_law_draw" true 2 N_law_draw.length b_law_draw []
def N_law_words : List Str := ["_law_purse_here", "_law_many", "_law_letters", "_law_found", "_law_others", "_law_k", "_law_way", "_law_word", "_law_mark", "_law_j"]
def b_law_words : List MS :=
  [
   .par [2, 3] [(.lit (.str "abcdefghijklmnopqrstuvwxyz")), (.lst [])],
   .set 4 (.lst [(.lit (.str "names")), (.lit (.str "lot")), (.lit (.str "x")), (.lit (.str "y")), (.lit (.str "step")), (.lit (.str "to")), (.lit (.str "none")), (.lit (.str "at")), (.lit (.str "undo")), (.lit (.str "span"))]),
   .for_ (.one 5) .range [(.var 1)]
     [
      .set 6 (.call f_law_draw [(.var 0), (.lit (.int 6))]),
      .set 7 (.join (.lit (.str "")) (.comp (.one 9) .range [(.bin .Add [] (.lit (.int 1)) (.call f_law_draw [(.var 0), (.lit (.int 8))]))] none (.sub (.var 2) (.call f_law_draw [(.var 0), (.lit (.int 26))])) [9])),
      .ite (.cmp .Eq [] (.var 6) (.lit (.int 0)))
        [
         .set 7 (.sub (.var 4) (.call f_law_draw [(.var 0), (.lit (.int 10))]))]
        [],
      .ite (.and_ (.cmp .Eq [] (.var 6) (.lit (.int 1))) (.cmp .Gt [] (.var 5) (.lit (.int 0))))
        [
         .set 7 (.slice (.bin .Add [] (.sub (.var 3) (.lit (.int 0))) (.var 7)) none (some (.lit (.int 8))))]
        [],
      .ite (.and_ (.cmp .Eq [] (.var 6) (.lit (.int 2))) (.cmp .Gt [] (.var 5) (.lit (.int 0))))
        [
         .set 7 (.bin .Add [] (.slice (.var 7) none (some (.lit (.int 1)))) (.slice (.sub (.var 3) (.lit (.int 0))) (some (.lit (.int 1))) none))]
        [],
      .for_ (.one 8) .val [(.var 2)]
        [
         .ite (.cmp .In [] (.var 7) (.var 3))
           [
            .set 7 (.bin .Add [] (.slice (.var 7) none (some (.lit (.int 7)))) (.var 8))]
           []]
        [],
      .expr (.mt .append 3 [(.var 7)])]
     [],
   .ret (.bi .tuple [(.var 3)])]
def f_law_words : FS := FS.of "_law_words" true 2 N_law_words.length b_law_words []
def N_law_great : List Str := ["_law_purse_here", "_law_far", "_law_way", "_law_some", "_law_lap", "_law_most"]
def b_law_great : List MS :=
  [
   .set 2 (.call f_law_draw [(.var 0), (.lit (.int 6))]),
   .ite (.cmp .Lt [] (.var 2) (.lit (.int 3)))
     [
      .ret (.bin .Sub [] (.call f_law_draw [(.var 0), (.lit (.int 19))]) (.lit (.int 9)))]
     [],
   .set 3 (.lit (.int 0)),
   .for_ (.one 4) .range [(.lit (.int 4))]
     [
      .set 3 (.bin .Add [] (.bin .Mult [] (.var 3) (.bin .Pow [] (.lit (.int 10)) (.lit (.int 15)))) (.call f_law_draw [(.var 0), (.bin .Pow [] (.lit (.int 10)) (.lit (.int 15)))]))]
     [],
   .set 5 (.sub (.lst [(.bin .Pow [] (.lit (.int 10)) (.lit (.int 6))), (.bin .Pow [] (.lit (.int 10)) (.lit (.int 20))), (.var 1)]) (.bin .Sub [] (.var 2) (.lit (.int 3)))),
   .ret (.bin .Sub [] (.bin .Mod [] (.bi .int [(.var 3)]) (.bin .Add [] (.bin .Mult [] (.lit (.int 2)) (.var 5)) (.lit (.int 1)))) (.var 5))]
def f_law_great : FS := FS.of "_law_great" true 2 N_law_great.length b_law_great []
def N_law_told : List Str := ["_law_purse_here", "_law_tips_here", "_law_worth_here", "_law_many", "_law_far", "_law_found", "_law_k", "_law_way", "_law_slack", "_law_left", "_law_right_here"]
def b_law_told : List MS :=
  [
   .set 5 (.lst []),
   .for_ (.one 6) .range [(.var 3)]
     [
      .par [7, 8] [(.call f_law_draw [(.var 0), (.lit (.int 5))]), (.lit (.int 0))],
      .par [9, 10] [(.sub (.var 1) (.call f_law_draw [(.var 0), (.bi .len [(.var 1)])])), (.sub (.var 1) (.call f_law_draw [(.var 0), (.bi .len [(.var 1)])]))],
      .ite (.cmp .Eq [] (.var 7) (.lit (.int 2)))
        [
         .set 8 (.bin .Add [] (.lit (.int 1)) (.call f_law_draw [(.var 0), (.lit (.int 3))]))]
        [],
      .ite (.cmp .Eq [] (.var 7) (.lit (.int 3)))
        [
         .set 8 (.bi .abs [(.call f_law_great [(.var 0), (.var 4)])])]
        [],
      .expr (.mt .append 5 [(.tup [(.var 9), (.var 10), (.bin .Add [] (.bin .Sub [] (.sub (.var 2) (.var 9)) (.sub (.var 2) (.var 10))) (.var 8))])])]
     [],
   .ret (.var 5)]
def f_law_told : FS := FS.of "_law_told" true 5 N_law_told.length b_law_told []
def N_law_tips : List Str := ["_law_called", "_law_name"]
def b_law_tips : List MS :=
  [
   .ret (.bin .Add [] (.bin .Add [] (.lst [(.lit (.str ""))]) (.bi .list [(.var 0)])) (.comp (.one 1) .val [(.var 0)] none (.bin .Add [] (.var 1) (.lit (.str "'"))) [1]))]
def f_law_tips : FS := FS.of "_law_tips" false 1 N_law_tips.length b_law_tips []
def N_law_worth : List Str := ["_law_called", "_law_ahead", "_law_behind", "_law_worth_here", "_law_k"]
def b_law_worth : List MS :=
  [
   .set 3 (.dct false [(.lit (.str "")), (.lit (.int 0))]),
   .for_ (.one 4) .range [(.bi .len [(.var 0)])]
     [
      .setIx 3 (.sub (.var 0) (.var 4)) (.sub (.var 1) (.var 4)),
      .setIx 3 (.bin .Add [] (.sub (.var 0) (.var 4)) (.lit (.str "'"))) (.sub (.var 2) (.var 4))]
     [],
   .ret (.var 3)]
def f_law_worth : FS := FS.of "_law_worth" false 3 N_law_worth.length b_law_worth []
def N_law_mingled : List Str := ["_law_purse_here", "_law_told_here", "_law_more", "_law_found", "_law_item"]
def b_law_mingled : List MS :=
  [
   .set 3 (.bi .list [(.var 1)]),
   .for_ (.one 4) .val [(.var 2)]
     [
      .expr (.mt .insert 3 [(.call f_law_draw [(.var 0), (.bin .Add [] (.bi .len [(.var 3)]) (.lit (.int 1)))]), (.var 4)])]
     [],
   .ret (.var 3)]
def f_law_mingled : FS := FS.of "_law_mingled" true 3 N_law_mingled.length b_law_mingled []
def N_law_ring : List Str := ["_law_purse_here", "_law_tips_here", "_law_worth_here", "_law_first", "_law_many", "_law_found", "_law_k", "_law_left", "_law_right_here"]
def b_law_ring : List MS :=
  [
   .par [3, 4, 5] [(.call f_law_draw [(.var 0), (.bi .len [(.var 1)])]), (.bin .Add [] (.lit (.int 1)) (.call f_law_draw [(.var 0), (.lit (.int 3))])), (.lst [])],
   .for_ (.one 6) .range [(.var 4)]
     [
      .set 7 (.sub (.var 1) (.bin .Mod [] (.bi .int [(.bin .Add [] (.var 3) (.var 6))]) (.bi .len [(.var 1)]))),
      .set 8 (.sub (.var 1) (.bin .Mod [] (.bi .int [(.bin .Add [] (.var 3) (.bin .Mod [] (.bi .int [(.bin .Add [] (.var 6) (.lit (.int 1)))]) (.var 4)))]) (.bi .len [(.var 1)]))),
      .expr (.mt .append 5 [(.tup [(.var 7), (.var 8), (.bin .Sub [] (.bin .Sub [] (.sub (.var 2) (.var 7)) (.sub (.var 2) (.var 8))) (.bi .int [(.cmp .Eq [] (.var 6) (.bin .Sub [] (.var 4) (.lit (.int 1))))]))])])]
     [],
   .ret (.var 5)]
def f_law_ring : FS := FS.of "_law_ring" true 3 N_law_ring.length b_law_ring []
def N_law_made : List Str := ["_law_purse_here", "_law_called", "_law_ahead", "_law_behind", "_law_size", "_law_far", "_law_empty", "_law_tips_here", "_law_worth_here", "_law_told_here"]
def b_law_made : List MS :=
  [
   .par [6, 7, 8] [(.cmp .Eq [] (.call f_law_draw [(.var 0), (.lit (.int 5))]) (.lit (.int 0))), (.call f_law_tips [(.var 1)]), (.call f_law_worth [(.var 1), (.var 2), (.var 3)])],
   .set 9 (.call f_law_told [(.var 0), (.var 7), (.var 8), (.var 4), (.var 5)]),
   .ite (.var 6)
     [
      .set 9 (.call f_law_mingled [(.var 0), (.var 9), (.call f_law_ring [(.var 0), (.var 7), (.var 8)])])]
     [],
   .ret (.tup [(.bi .tuple [(.var 9)]), (.not_ (.var 6))])]
def f_law_made : FS := FS.of "_law_made" true 6 N_law_made.length b_law_made []
def N_is_word : List Str := ["thing", "char"]
def b_is_word : List MS :=
  [
   .ite (.or_ (.not_ (.bi (.isinst ["Lot", "Step"]) [(.var 0), (.glob "str" (.ty "str"))])) (.not_ (.cmp2 .LtE .LtE (.lit (.int 1)) (.bi .len [(.var 0)]) (.glob "MOST_LETTERS" (.int 8)))))
     [
      .ret (.lit (.bl false))]
     [],
   .ret (.bi .all [(.comp (.one 1) .val [(.var 0)] none (.cmp .In [] (.var 1) (.glob "LETTERS" (.str "abcdefghijklmnopqrstuvwxyz"))) [1])])]
def f_is_word : FS := FS.of "is_word" false 1 N_is_word.length b_is_word []
def N_are_names : List Str := ["thing", "name"]
def b_are_names : List MS :=
  [
   .ite (.or_ (.not_ (.bi (.isinst ["Lot", "Step"]) [(.var 0), (.glob "tuple" (.ty "tuple"))])) (.not_ (.cmp2 .LtE .LtE (.lit (.int 1)) (.bi .len [(.var 0)]) (.glob "MOST_NAMES" (.int 3)))))
     [
      .ret (.lit (.bl false))]
     [],
   .ret (.and_ (.bi .all [(.comp (.one 1) .val [(.var 0)] none (.call f_is_word [(.var 1)]) [1])]) (.cmp .Eq [] (.bi .lenset [(.var 0)]) (.bi .len [(.var 0)])))]
def f_are_names : FS := FS.of "are_names" false 1 N_are_names.length b_are_names []
def N_check_called : List Str := ["names"]
def b_check_called : List MS :=
  [
   .ite (.not_ (.call f_are_names [(.var 0)]))
     [
      .raise "" none (.lit .non)]
     []]
def f_check_called : FS := FS.of "check_called" false 1 N_check_called.length b_check_called []
def N_ends_of : List Str := ["names", "name"]
def b_ends_of : List MS :=
  [
   .ret (.bin .Add [] (.lst [(.lit (.str "")), (.star (.var 0))]) (.comp (.one 1) .val [(.var 0)] none (.bin .Add [] (.var 1) (.lit (.str "'"))) [1]))]
def f_ends_of : FS := FS.of "ends_of" false 1 N_ends_of.length b_ends_of []
def N_is_end : List Str := ["ends", "thing"]
def b_is_end : List MS :=
  [
   .ret (.and_ (.bi (.isinst ["Lot", "Step"]) [(.var 1), (.glob "str" (.ty "str"))]) (.cmp .In [] (.var 1) (.var 0)))]
def f_is_end : FS := FS.of "is_end" false 2 N_is_end.length b_is_end []
def N_is_whole : List Str := ["thing"]
def b_is_whole : List MS :=
  [
   .ret (.and_ (.bi (.isinst ["Lot", "Step"]) [(.var 0), (.glob "int" (.ty "int"))]) (.not_ (.bi (.isinst ["Lot", "Step"]) [(.var 0), (.glob "bool" (.ty "bool"))])))]
def f_is_whole : FS := FS.of "is_whole" false 1 N_is_whole.length b_is_whole []
def N_is_bound : List Str := ["ends", "thing"]
def b_is_bound : List MS :=
  [
   .ite (.or_ (.not_ (.bi (.isinst ["Lot", "Step"]) [(.var 1), (.glob "tuple" (.ty "tuple"))])) (.cmp .NotEq [] (.bi .len [(.var 1)]) (.lit (.int 3))))
     [
      .ret (.lit (.bl false))]
     [],
   .ret (.and_ (.call f_is_end [(.var 0), (.sub (.var 1) (.lit (.int 0)))]) (.and_ (.call f_is_end [(.var 0), (.sub (.var 1) (.lit (.int 1)))]) (.call f_is_whole [(.sub (.var 1) (.lit (.int 2)))])))]
def f_is_bound : FS := FS.of "is_bound" false 2 N_is_bound.length b_is_bound []
def N_check_bounds : List Str := ["ends", "bounds", "index", "item"]
def b_check_bounds : List MS :=
  [
   .ite (.not_ (.bi (.isinst ["Lot", "Step"]) [(.var 1), (.glob "tuple" (.ty "tuple"))]))
     [
      .raise "" none (.lit .non)]
     [],
   .for_ (.many [2, 3]) (.enum 0) [(.var 1)]
     [
      .ite (.or_ (.cmp .GtE [] (.var 2) (.glob "MOST_BOUNDS" (.int 50))) (.not_ (.call f_is_bound [(.var 0), (.var 3)])))
        [
         .raise "" none (.lit .non)]
        []]
     []]
def f_check_bounds : FS := FS.of "check_bounds" false 2 N_check_bounds.length b_check_bounds []
def N_less : List Str := ["one", "two"]
def b_less : List MS :=
  [
   .ret (.and_ (.cmp .IsNot [] (.var 0) (.lit .non)) (.or_ (.cmp .Is [] (.var 1) (.lit .non)) (.cmp .Lt [] (.var 0) (.var 1))))]
def f_less : FS := FS.of "less" false 2 N_less.length b_less []
def N_tightest : List Str := ["one", "two"]
def b_tightest : List MS :=
  [
   .ret (.ite (.call f_less [(.var 1), (.var 0)]) (.var 1) (.var 0))]
def f_tightest : FS := FS.of "tightest" false 2 N_tightest.length b_tightest []
def N_added : List Str := ["one", "two"]
def b_added : List MS :=
  [
   .ret (.ite (.or_ (.cmp .Is [] (.var 0) (.lit .non)) (.cmp .Is [] (.var 1) (.lit .non))) (.lit .non) (.bin .Add [] (.var 0) (.var 1)))]
def f_added : FS := FS.of "added" false 2 N_added.length b_added []
def N_shortened : List Str := ["row", "way", "others", "number", "further"]
def b_shortened : List MS :=
  [
   .ret (.ite (.cmp .Is [] (.var 1) (.lit .non)) (.var 0) (.comp (.many [3, 4]) .zip [(.var 0), (.var 2)] none (.call f_tightest [(.var 3), (.call f_added [(.var 1), (.var 4)])]) [3, 4]))]
def f_shortened : FS := FS.of "shortened" false 3 N_shortened.length b_shortened []
def N_closed : List Str := ["table", "found", "middle", "row", "end"]
def b_closed : List MS :=
  [
   .set 1 (.var 0),
   .for_ (.one 2) .range [(.bi .len [(.var 0)])]
     [
      .set 1 (.comp (.one 3) .val [(.var 1)] none (.call f_shortened [(.var 3), (.sub (.var 3) (.var 2)), (.sub (.var 1) (.var 2))]) [3])]
     [],
   .ret (.ite (.bi .any [(.comp (.many [4, 3]) (.enum 0) [(.var 1)] none (.cmp .Lt [] (.sub (.var 3) (.var 4)) (.lit (.int 0))) [4, 3])]) (.lit .non) (.var 1))]
def f_closed : FS := FS.of "closed" false 1 N_closed.length b_closed []
def N_table_of : List Str := ["size", "rows", "least", "end", "row", "column", "number"]
def b_table_of : List MS :=
  [
   .set 2 (.dct true []),
   .for_ (.one 3) .range [(.var 0)]
     [
      .setIx 2 (.tup [(.var 3), (.var 3)]) (.lit (.int 0))]
     [],
   .for_ (.many [4, 5, 6]) .val [(.var 1)]
     [
      .ite (.call f_less [(.var 6), (.bm .get1 (.var 2) [(.tup [(.var 4), (.var 5)])])])
        [
         .setIx 2 (.tup [(.var 4), (.var 5)]) (.var 6)]
        []]
     [],
   .ret (.call f_closed [(.comp (.one 4) .range [(.var 0)] none (.comp (.one 5) .range [(.var 0)] none (.bm .get1 (.var 2) [(.tup [(.var 4), (.var 5)])]) [5]) [4])])]
def f_table_of : FS := FS.of "table_of" false 2 N_table_of.length b_table_of []
def N_rows_of : List Str := ["ends", "bounds", "places", "place", "end", "left", "right", "number"]
def b_rows_of : List MS :=
  [
   .set 2 (.dcomp (.many [3, 4]) (.enum 0) [(.var 0)] (.var 4) (.var 3) [3, 4]),
   .ret (.comp (.many [5, 6, 7]) .val [(.var 1)] none (.tup [(.sub (.var 2) (.var 5)), (.sub (.var 2) (.var 6)), (.var 7)]) [5, 6, 7])]
def f_rows_of : FS := FS.of "rows_of" false 2 N_rows_of.length b_rows_of []
def N_Step_init : List Str := ["self", "names", "bounds", "ends"]
def b_Step_init : List MS :=
  [
   .expr (.call f_check_called [(.var 1)]),
   .set 3 (.call f_ends_of [(.var 1)]),
   .expr (.call f_check_bounds [(.var 3), (.var 2)]),
   .setFld 0 "called" ["Lot", "Step"] (.var 1),
   .setFld 0 "made_of" ["Lot", "Step"] (.var 2),
   .setFld 0 "table" ["Lot", "Step"] (.call f_table_of [(.bi .len [(.var 3)]), (.call f_rows_of [(.var 3), (.var 2)])])]
def f_Step_init : FS := FS.of "__init__" true 3 N_Step_init.length b_Step_init [(.tup [])]
def N_law_state : List Str := ["_law_purse_here", "_law_many", "_law_far", "_law_k"]
def b_law_state : List MS :=
  [
   .ret (.bi .tuple [(.comp (.one 3) .range [(.var 1)] none (.call f_law_great [(.var 0), (.var 2)]) [3])])]
def f_law_state : FS := FS.of "_law_state" true 3 N_law_state.length b_law_state []
def N_is_state : List Str := ["names", "thing", "number"]
def b_is_state : List MS :=
  [
   .ite (.or_ (.not_ (.bi (.isinst ["Lot", "Step"]) [(.var 1), (.glob "tuple" (.ty "tuple"))])) (.cmp .NotEq [] (.bi .len [(.var 1)]) (.bi .len [(.var 0)])))
     [
      .ret (.lit (.bl false))]
     [],
   .ret (.bi .all [(.comp (.one 2) .val [(.var 1)] none (.call f_is_whole [(.var 2)]) [2])])]
def f_is_state : FS := FS.of "is_state" false 2 N_is_state.length b_is_state []
def N_check_state : List Str := ["names", "state"]
def b_check_state : List MS :=
  [
   .ite (.not_ (.call f_is_state [(.var 0), (.var 1)]))
     [
      .raise "" none (.lit .non)]
     []]
def f_check_state : FS := FS.of "check_state" false 2 N_check_state.length b_check_state []
def N_has_state : List Str := ["table", "state", "numbers", "row", "one", "column", "other"]
def b_has_state : List MS :=
  [
   .ite (.cmp .Is [] (.var 0) (.lit .non))
     [
      .ret (.lit (.bl false))]
     [],
   .set 2 (.lst [(.lit (.int 0)), (.star (.var 1))]),
   .for_ (.many [3, 4]) (.enum 0) [(.var 2)]
     [
      .for_ (.many [5, 6]) (.enum 0) [(.var 2)]
        [
         .ite (.and_ (.cmp .IsNot [] (.sub (.sub (.var 0) (.var 3)) (.var 5)) (.lit .non)) (.cmp .Gt [] (.bin .Sub [] (.var 4) (.var 6)) (.sub (.sub (.var 0) (.var 3)) (.var 5))))
           [
            .ret (.lit (.bl false))]
           []]
        []]
     [],
   .ret (.lit (.bl true))]
def f_has_state : FS := FS.of "has_state" false 2 N_has_state.length b_has_state []
def N_Step_holds : List Str := ["self", "before", "after"]
def b_Step_holds : List MS :=
  [
   .expr (.call f_check_state [(.fld (.var 0) "called" ["Lot", "Step"]), (.var 1)]),
   .expr (.call f_check_state [(.fld (.var 0) "called" ["Lot", "Step"]), (.var 2)]),
   .ret (.call f_has_state [(.fld (.var 0) "table" ["Lot", "Step"]), (.tup [(.star (.var 1)), (.star (.var 2))])])]
def f_Step_holds : FS := FS.of "holds" false 3 N_Step_holds.length b_Step_holds []
def N_law_near : List Str := ["_law_purse_here", "_law_state_here", "_law_spot", "_law_by"]
def b_law_near : List MS :=
  [
   .par [2, 3] [(.call f_law_draw [(.var 0), (.bi .len [(.var 1)])]), (.sub (.lst [(.lit (.int 1)), (.neg (.lit (.int 1))), (.lit (.int 2)), (.neg (.lit (.int 3))), (.bin .Pow [] (.lit (.int 10)) (.lit (.int 6)))]) (.call f_law_draw [(.var 0), (.lit (.int 5))]))],
   .ret (.bin .Add [] (.bin .Add [] (.slice (.var 1) none (some (.var 2))) (.tup [(.bin .Add [] (.sub (.var 1) (.var 2)) (.var 3))])) (.slice (.var 1) (some (.bin .Add [] (.var 2) (.lit (.int 1)))) none))]
def f_law_near : FS := FS.of "_law_near" true 2 N_law_near.length b_law_near []
def N_Lot_given : List Str := ["self"]
def b_Lot_given : List MS :=
  [
   .ret (.fld (.var 0) "made_of" ["Lot", "Step"])]
def f_Lot_given : FS := FS.of "given" false 1 N_Lot_given.length b_Lot_given []
def N_Step_given : List Str := ["self"]
def b_Step_given : List MS :=
  [
   .ret (.fld (.var 0) "made_of" ["Lot", "Step"])]
def f_Step_given : FS := FS.of "given" false 1 N_Step_given.length b_Step_given []
def N_Lot_is_empty : List Str := ["self"]
def b_Lot_is_empty : List MS :=
  [
   .ret (.cmp .Is [] (.fld (.var 0) "table" ["Lot", "Step"]) (.lit .non))]
def f_Lot_is_empty : FS := FS.of "is_empty" false 1 N_Lot_is_empty.length b_Lot_is_empty []
def N_Step_is_empty : List Str := ["self"]
def b_Step_is_empty : List MS :=
  [
   .ret (.cmp .Is [] (.fld (.var 0) "table" ["Lot", "Step"]) (.lit .non))]
def f_Step_is_empty : FS := FS.of "is_empty" false 1 N_Step_is_empty.length b_Step_is_empty []
def N_Lot_names : List Str := ["self"]
def b_Lot_names : List MS :=
  [
   .ret (.fld (.var 0) "called" ["Lot", "Step"])]
def f_Lot_names : FS := FS.of "names" false 1 N_Lot_names.length b_Lot_names []
def N_Step_names : List Str := ["self"]
def b_Step_names : List MS :=
  [
   .ret (.fld (.var 0) "called" ["Lot", "Step"])]
def f_Step_names : FS := FS.of "names" false 1 N_Step_names.length b_Step_names []
def N_law_kept : List Str := ["_law_worth_here", "_law_told_here", "_law_left", "_law_right_here", "_law_number"]
def b_law_kept : List MS :=
  [
   .for_ (.many [2, 3, 4]) .val [(.var 1)]
     [
      .ite (.cmp .Gt [] (.bin .Sub [] (.sub (.var 0) (.var 2)) (.sub (.var 0) (.var 3))) (.var 4))
        [
         .ret (.lit (.bl false))]
        []]
     [],
   .ret (.lit (.bl true))]
def f_law_kept : FS := FS.of "_law_kept" false 2 N_law_kept.length b_law_kept []
def N_law_right : List Str := ["_law_purse_here", "_law_many", "_law_size", "_law_called", "_law_ahead", "_law_behind", "_law_told_here", "_law_due", "_law_rule", "_law_lap", "_law_free", "_law_one", "_law_other"]
def b_law_right : List MS :=
  [
   .par [1, 2] [(.bin .Add [] (.lit (.int 1)) (.call f_law_draw [(.var 0), (.lit (.int 3))])), (.call f_law_draw [(.var 0), (.lit (.int 13))])],
   .ite (.cmp .Eq [] (.call f_law_draw [(.var 0), (.lit (.int 8))]) (.lit (.int 0)))
     [
      .set 2 (.lit (.int 44))]
     [],
   .set 3 (.call f_law_words [(.var 0), (.var 1)]),
   .par [4, 5] [(.call f_law_state [(.var 0), (.var 1), (.bin .Pow [] (.lit (.int 10)) (.lit (.int 58)))]), (.call f_law_state [(.var 0), (.var 1), (.bin .Pow [] (.lit (.int 10)) (.lit (.int 58)))])],
   .tupset [6, 7] (.call f_law_made [(.var 0), (.var 3), (.var 4), (.var 5), (.var 2), (.bin .Pow [] (.lit (.int 10)) (.lit (.int 58)))]),
   .set 8 (.new "Step" f_Step_init [(.var 3), (.var 6)]),
   .ite (.or_ (.cmp .NotEq [] (.bi .repr [(.meth [("Lot", f_Lot_names), ("Step", f_Step_names)] (.var 8) [])]) (.bi .repr [(.var 3)])) (.cmp .NotEq [] (.bi .repr [(.meth [("Lot", f_Lot_given), ("Step", f_Step_given)] (.var 8) [])]) (.bi .repr [(.var 6)])))
     [
      .ret (.lit (.bl false))]
     [],
   .ite (.or_ (.cmp .NotEq [] (.bi .repr [(.meth [("Lot", f_Lot_is_empty), ("Step", f_Step_is_empty)] (.var 8) [])]) (.bi .repr [(.not_ (.var 7))])) (.cmp .NotEq [] (.bi .repr [(.meth [("Step", f_Step_holds)] (.var 8) [(.var 4), (.var 5)])]) (.bi .repr [(.var 7)])))
     [
      .ret (.lit (.bl false))]
     [],
   .ite (.cmp .NotEq [] (.bi .repr [(.methW [("Step", f_Step_holds)] ["after", "before"] [1, 0] (.newK "Step" f_Step_init ["bounds", "names"] [1, 0] [(.var 6), (.var 3)]) [(.var 5), (.var 4)])]) (.bi .repr [(.var 7)]))
     [
      .ret (.lit (.bl false))]
     [],
   .for_ (.one 9) .range [(.lit (.int 8))]
     [
      .par [11, 12] [(.var 4), (.var 5)],
      .ite (.cmp .Lt [] (.var 9) (.lit (.int 5)))
        [
         .set 11 (.call f_law_near [(.var 0), (.var 11)])]
        [],
      .ite (.cmp .Gt [] (.var 9) (.lit (.int 2)))
        [
         .set 12 (.call f_law_near [(.var 0), (.var 12)])]
        [],
      .ite (.cmp .Gt [] (.var 9) (.lit (.int 5)))
        [
         .set 12 (.call f_law_state [(.var 0), (.var 1), (.bin .Pow [] (.lit (.int 10)) (.lit (.int 58)))])]
        [],
      .ite (.cmp .NotEq [] (.bi .repr [(.meth [("Step", f_Step_holds)] (.var 8) [(.var 11), (.var 12)])]) (.bi .repr [(.call f_law_kept [(.call f_law_worth [(.var 3), (.var 11), (.var 12)]), (.var 6)])]))
        [
         .ret (.lit (.bl false))]
        []]
     [],
   .set 10 (.new "Step" f_Step_init [(.var 3)]),
   .ret (.and_ (.cmp .Eq [] (.meth [("Lot", f_Lot_given), ("Step", f_Step_given)] (.var 10) []) (.tup [])) (.and_ (.cmp .Is [] (.meth [("Lot", f_Lot_is_empty), ("Step", f_Step_is_empty)] (.var 10) []) (.lit (.bl false))) (.cmp .Is [] (.meth [("Step", f_Step_holds)] (.var 10) [(.var 4), (.var 5)]) (.lit (.bl true)))))]
def f_law_right : FS := FS.of "_law_right" true 1 N_law_right.length b_law_right []
def N_law_purse : List Str := ["_law_script", "_law_at", "_law_cell", "_law_rich"]
def b_law_purse : List MS :=
  [
   .set 2 (.lit (.int 0)),
   .ite (.cmp .Lt [] (.var 1) (.bi .len [(.var 0)]))
     [
      .set 2 (.sub (.var 0) (.var 1))]
     [],
   .set 3 (.bi .max2 [(.lit (.int 0)), (.bin .Sub [] (.bi .abs [(.bi .int [(.var 2)])]) (.bin .Pow [] (.lit (.int 10)) (.lit (.int 18))))]),
   .ret (.lst [(.var 3), (.bin .Add [] (.bin .Mod [] (.bi .int [(.var 2)]) (.lit (.int 170141183460469231731687303715884105727))) (.lit (.int 982451653))), (.bin .Mult [] (.lit (.int 89)) (.var 1))])]
def f_law_purse : FS := FS.of "_law_purse" false 2 N_law_purse.length b_law_purse []
def N_law : List Str := ["_law_script", "_law_k"]
def b_law : List MS :=
  [
   .for_ (.one 1) .range [(.bi .max2 [(.lit (.int 1)), (.bi .min2 [(.lit (.int 8)), (.bi .len [(.var 0)])])])]
     [
      .ite (.not_ (.call f_law_right [(.call f_law_purse [(.var 0), (.var 1)])]))
        [
         .ret (.lit (.bl false))]
        []]
     [],
   .ret (.lit (.bl true))]
def f_law : FS := FS.of "law" false 1 N_law.length b_law []
theorem io_law_draw : f_law_draw.io = true := id rfl
theorem np_law_draw : f_law_draw.np = 2 := id rfl
theorem io_law_words : f_law_words.io = true := id rfl
theorem np_law_words : f_law_words.np = 2 := id rfl
theorem io_law_great : f_law_great.io = true := id rfl
theorem np_law_great : f_law_great.np = 2 := id rfl
theorem io_law_told : f_law_told.io = true := id rfl
theorem np_law_told : f_law_told.np = 5 := id rfl
theorem io_law_tips : f_law_tips.io = false := id rfl
theorem np_law_tips : f_law_tips.np = 1 := id rfl
theorem io_law_worth : f_law_worth.io = false := id rfl
theorem np_law_worth : f_law_worth.np = 3 := id rfl
theorem io_law_mingled : f_law_mingled.io = true := id rfl
theorem np_law_mingled : f_law_mingled.np = 3 := id rfl
theorem io_law_ring : f_law_ring.io = true := id rfl
theorem np_law_ring : f_law_ring.np = 3 := id rfl
theorem io_law_made : f_law_made.io = true := id rfl
theorem np_law_made : f_law_made.np = 6 := id rfl
theorem io_is_word : f_is_word.io = false := id rfl
theorem np_is_word : f_is_word.np = 1 := id rfl
theorem io_are_names : f_are_names.io = false := id rfl
theorem np_are_names : f_are_names.np = 1 := id rfl
theorem io_check_called : f_check_called.io = false := id rfl
theorem np_check_called : f_check_called.np = 1 := id rfl
theorem io_ends_of : f_ends_of.io = false := id rfl
theorem np_ends_of : f_ends_of.np = 1 := id rfl
theorem io_is_end : f_is_end.io = false := id rfl
theorem np_is_end : f_is_end.np = 2 := id rfl
theorem io_is_whole : f_is_whole.io = false := id rfl
theorem np_is_whole : f_is_whole.np = 1 := id rfl
theorem io_is_bound : f_is_bound.io = false := id rfl
theorem np_is_bound : f_is_bound.np = 2 := id rfl
theorem io_check_bounds : f_check_bounds.io = false := id rfl
theorem np_check_bounds : f_check_bounds.np = 2 := id rfl
theorem io_less : f_less.io = false := id rfl
theorem np_less : f_less.np = 2 := id rfl
theorem io_tightest : f_tightest.io = false := id rfl
theorem np_tightest : f_tightest.np = 2 := id rfl
theorem io_added : f_added.io = false := id rfl
theorem np_added : f_added.np = 2 := id rfl
theorem io_shortened : f_shortened.io = false := id rfl
theorem np_shortened : f_shortened.np = 3 := id rfl
theorem io_closed : f_closed.io = false := id rfl
theorem np_closed : f_closed.np = 1 := id rfl
theorem io_table_of : f_table_of.io = false := id rfl
theorem np_table_of : f_table_of.np = 2 := id rfl
theorem io_rows_of : f_rows_of.io = false := id rfl
theorem np_rows_of : f_rows_of.np = 2 := id rfl
theorem io_Step_init : f_Step_init.io = true := id rfl
theorem np_Step_init : f_Step_init.np = 3 := id rfl
theorem io_law_state : f_law_state.io = true := id rfl
theorem np_law_state : f_law_state.np = 3 := id rfl
theorem io_is_state : f_is_state.io = false := id rfl
theorem np_is_state : f_is_state.np = 2 := id rfl
theorem io_check_state : f_check_state.io = false := id rfl
theorem np_check_state : f_check_state.np = 2 := id rfl
theorem io_has_state : f_has_state.io = false := id rfl
theorem np_has_state : f_has_state.np = 2 := id rfl
theorem io_Step_holds : f_Step_holds.io = false := id rfl
theorem np_Step_holds : f_Step_holds.np = 3 := id rfl
theorem io_law_near : f_law_near.io = true := id rfl
theorem np_law_near : f_law_near.np = 2 := id rfl
theorem io_Lot_given : f_Lot_given.io = false := id rfl
theorem np_Lot_given : f_Lot_given.np = 1 := id rfl
theorem io_Step_given : f_Step_given.io = false := id rfl
theorem np_Step_given : f_Step_given.np = 1 := id rfl
theorem io_Lot_is_empty : f_Lot_is_empty.io = false := id rfl
theorem np_Lot_is_empty : f_Lot_is_empty.np = 1 := id rfl
theorem io_Step_is_empty : f_Step_is_empty.io = false := id rfl
theorem np_Step_is_empty : f_Step_is_empty.np = 1 := id rfl
theorem io_Lot_names : f_Lot_names.io = false := id rfl
theorem np_Lot_names : f_Lot_names.np = 1 := id rfl
theorem io_Step_names : f_Step_names.io = false := id rfl
theorem np_Step_names : f_Step_names.np = 1 := id rfl
theorem io_law_kept : f_law_kept.io = false := id rfl
theorem np_law_kept : f_law_kept.np = 2 := id rfl
theorem io_law_right : f_law_right.io = true := id rfl
theorem np_law_right : f_law_right.np = 1 := id rfl
theorem io_law_purse : f_law_purse.io = false := id rfl
theorem np_law_purse : f_law_purse.np = 2 := id rfl
theorem io_law : f_law.io = false := id rfl
theorem np_law : f_law.np = 1 := id rfl
end Mi.Law

set_option Elab.async false
set_option linter.all false
set_option maxRecDepth 100000
set_option maxHeartbeats 4000000
namespace Mi.Law
open PySem PySem.Spec PyProof.Rows L2
abbrev topOf (i : Nat) : Stmt := PySem.Challenge.pw_boundrounds_k10_steps_told.main.body.getD i (.Pass ⟨0, 0, 0, 0⟩)
abbrev s_law_draw : Stmt := topOf 54
def d_law_draw : He.DefD := ⟨("_law_draw", none), "_law_draw", "_law_draw", defArgs s_law_draw, defBody s_law_draw, defScope s_law_draw, [], []⟩
abbrev s_law_words : Stmt := topOf 56
def d_law_words : He.DefD := ⟨("_law_words", none), "_law_words", "_law_words", defArgs s_law_words, defBody s_law_words, defScope s_law_words, [], []⟩
abbrev s_law_great : Stmt := topOf 55
def d_law_great : He.DefD := ⟨("_law_great", none), "_law_great", "_law_great", defArgs s_law_great, defBody s_law_great, defScope s_law_great, [], []⟩
abbrev s_law_told : Stmt := topOf 60
def d_law_told : He.DefD := ⟨("_law_told", none), "_law_told", "_law_told", defArgs s_law_told, defBody s_law_told, defScope s_law_told, [], []⟩
abbrev s_law_tips : Stmt := topOf 57
def d_law_tips : He.DefD := ⟨("_law_tips", none), "_law_tips", "_law_tips", defArgs s_law_tips, defBody s_law_tips, defScope s_law_tips, [], []⟩
abbrev s_law_worth : Stmt := topOf 58
def d_law_worth : He.DefD := ⟨("_law_worth", none), "_law_worth", "_law_worth", defArgs s_law_worth, defBody s_law_worth, defScope s_law_worth, [], []⟩
abbrev s_law_mingled : Stmt := topOf 62
def d_law_mingled : He.DefD := ⟨("_law_mingled", none), "_law_mingled", "_law_mingled", defArgs s_law_mingled, defBody s_law_mingled, defScope s_law_mingled, [], []⟩
abbrev s_law_ring : Stmt := topOf 61
def d_law_ring : He.DefD := ⟨("_law_ring", none), "_law_ring", "_law_ring", defArgs s_law_ring, defBody s_law_ring, defScope s_law_ring, [], []⟩
abbrev s_law_made : Stmt := topOf 65
def d_law_made : He.DefD := ⟨("_law_made", none), "_law_made", "_law_made", defArgs s_law_made, defBody s_law_made, defScope s_law_made, [], []⟩
abbrev s_is_word : Stmt := topOf 33
def d_is_word : He.DefD := ⟨("is_word", none), "is_word", "is_word", defArgs s_is_word, defBody s_is_word, defScope s_is_word, [], []⟩
abbrev s_are_names : Stmt := topOf 34
def d_are_names : He.DefD := ⟨("are_names", none), "are_names", "are_names", defArgs s_are_names, defBody s_are_names, defScope s_are_names, [], []⟩
abbrev s_check_called : Stmt := topOf 40
def d_check_called : He.DefD := ⟨("check_called", none), "check_called", "check_called", defArgs s_check_called, defBody s_check_called, defScope s_check_called, [], []⟩
abbrev s_ends_of : Stmt := topOf 35
def d_ends_of : He.DefD := ⟨("ends_of", none), "ends_of", "ends_of", defArgs s_ends_of, defBody s_ends_of, defScope s_ends_of, [], []⟩
abbrev s_is_end : Stmt := topOf 37
def d_is_end : He.DefD := ⟨("is_end", none), "is_end", "is_end", defArgs s_is_end, defBody s_is_end, defScope s_is_end, [], []⟩
abbrev s_is_whole : Stmt := topOf 32
def d_is_whole : He.DefD := ⟨("is_whole", none), "is_whole", "is_whole", defArgs s_is_whole, defBody s_is_whole, defScope s_is_whole, [], []⟩
abbrev s_is_bound : Stmt := topOf 38
def d_is_bound : He.DefD := ⟨("is_bound", none), "is_bound", "is_bound", defArgs s_is_bound, defBody s_is_bound, defScope s_is_bound, [], []⟩
abbrev s_check_bounds : Stmt := topOf 41
def d_check_bounds : He.DefD := ⟨("check_bounds", none), "check_bounds", "check_bounds", defArgs s_check_bounds, defBody s_check_bounds, defScope s_check_bounds, [], []⟩
abbrev s_less : Stmt := topOf 10
def d_less : He.DefD := ⟨("less", none), "less", "less", defArgs s_less, defBody s_less, defScope s_less, [], []⟩
abbrev s_tightest : Stmt := topOf 11
def d_tightest : He.DefD := ⟨("tightest", none), "tightest", "tightest", defArgs s_tightest, defBody s_tightest, defScope s_tightest, [], []⟩
abbrev s_added : Stmt := topOf 9
def d_added : He.DefD := ⟨("added", none), "added", "added", defArgs s_added, defBody s_added, defScope s_added, [], []⟩
abbrev s_shortened : Stmt := topOf 12
def d_shortened : He.DefD := ⟨("shortened", none), "shortened", "shortened", defArgs s_shortened, defBody s_shortened, defScope s_shortened, [], []⟩
abbrev s_closed : Stmt := topOf 13
def d_closed : He.DefD := ⟨("closed", none), "closed", "closed", defArgs s_closed, defBody s_closed, defScope s_closed, [], []⟩
abbrev s_table_of : Stmt := topOf 14
def d_table_of : He.DefD := ⟨("table_of", none), "table_of", "table_of", defArgs s_table_of, defBody s_table_of, defScope s_table_of, [], []⟩
abbrev s_rows_of : Stmt := topOf 44
def d_rows_of : He.DefD := ⟨("rows_of", none), "rows_of", "rows_of", defArgs s_rows_of, defBody s_rows_of, defScope s_rows_of, [], []⟩
abbrev s_Step_init : Stmt := (clsB (topOf 50)).getD 0 (.Pass ⟨0, 0, 0, 0⟩)
def d_Step_init : He.DefD := ⟨("Step", some "__init__"), "__init__", "Step.__init__", defArgs s_Step_init, defBody s_Step_init, defScope s_Step_init, [.adr (He.dflAt ("Step", some "__init__") 0)], []⟩
abbrev s_law_state : Stmt := topOf 63
def d_law_state : He.DefD := ⟨("_law_state", none), "_law_state", "_law_state", defArgs s_law_state, defBody s_law_state, defScope s_law_state, [], []⟩
abbrev s_is_state : Stmt := topOf 39
def d_is_state : He.DefD := ⟨("is_state", none), "is_state", "is_state", defArgs s_is_state, defBody s_is_state, defScope s_is_state, [], []⟩
abbrev s_check_state : Stmt := topOf 42
def d_check_state : He.DefD := ⟨("check_state", none), "check_state", "check_state", defArgs s_check_state, defBody s_check_state, defScope s_check_state, [], []⟩
abbrev s_has_state : Stmt := topOf 25
def d_has_state : He.DefD := ⟨("has_state", none), "has_state", "has_state", defArgs s_has_state, defBody s_has_state, defScope s_has_state, [], []⟩
abbrev s_Step_holds : Stmt := (clsB (topOf 50)).getD 8 (.Pass ⟨0, 0, 0, 0⟩)
def d_Step_holds : He.DefD := ⟨("Step", some "holds"), "holds", "Step.holds", defArgs s_Step_holds, defBody s_Step_holds, defScope s_Step_holds, [], []⟩
abbrev s_law_near : Stmt := topOf 64
def d_law_near : He.DefD := ⟨("_law_near", none), "_law_near", "_law_near", defArgs s_law_near, defBody s_law_near, defScope s_law_near, [], []⟩
abbrev s_Lot_given : Stmt := (clsB (topOf 47)).getD 5 (.Pass ⟨0, 0, 0, 0⟩)
def d_Lot_given : He.DefD := ⟨("Lot", some "given"), "given", "Lot.given", defArgs s_Lot_given, defBody s_Lot_given, defScope s_Lot_given, [], []⟩
abbrev s_Step_given : Stmt := (clsB (topOf 50)).getD 5 (.Pass ⟨0, 0, 0, 0⟩)
def d_Step_given : He.DefD := ⟨("Step", some "given"), "given", "Step.given", defArgs s_Step_given, defBody s_Step_given, defScope s_Step_given, [], []⟩
abbrev s_Lot_is_empty : Stmt := (clsB (topOf 47)).getD 7 (.Pass ⟨0, 0, 0, 0⟩)
def d_Lot_is_empty : He.DefD := ⟨("Lot", some "is_empty"), "is_empty", "Lot.is_empty", defArgs s_Lot_is_empty, defBody s_Lot_is_empty, defScope s_Lot_is_empty, [], []⟩
abbrev s_Step_is_empty : Stmt := (clsB (topOf 50)).getD 7 (.Pass ⟨0, 0, 0, 0⟩)
def d_Step_is_empty : He.DefD := ⟨("Step", some "is_empty"), "is_empty", "Step.is_empty", defArgs s_Step_is_empty, defBody s_Step_is_empty, defScope s_Step_is_empty, [], []⟩
abbrev s_Lot_names : Stmt := (clsB (topOf 47)).getD 4 (.Pass ⟨0, 0, 0, 0⟩)
def d_Lot_names : He.DefD := ⟨("Lot", some "names"), "names", "Lot.names", defArgs s_Lot_names, defBody s_Lot_names, defScope s_Lot_names, [], []⟩
abbrev s_Step_names : Stmt := (clsB (topOf 50)).getD 4 (.Pass ⟨0, 0, 0, 0⟩)
def d_Step_names : He.DefD := ⟨("Step", some "names"), "names", "Step.names", defArgs s_Step_names, defBody s_Step_names, defScope s_Step_names, [], []⟩
abbrev s_law_kept : Stmt := topOf 59
def d_law_kept : He.DefD := ⟨("_law_kept", none), "_law_kept", "_law_kept", defArgs s_law_kept, defBody s_law_kept, defScope s_law_kept, [], []⟩
abbrev s_law_right : Stmt := topOf 66
def d_law_right : He.DefD := ⟨("_law_right", none), "_law_right", "_law_right", defArgs s_law_right, defBody s_law_right, defScope s_law_right, [], []⟩
abbrev s_law_purse : Stmt := topOf 53
def d_law_purse : He.DefD := ⟨("_law_purse", none), "_law_purse", "_law_purse", defArgs s_law_purse, defBody s_law_purse, defScope s_law_purse, [], []⟩
abbrev s_law : Stmt := topOf 67
def d_law : He.DefD := ⟨("law", none), "law", "law", defArgs s_law, defBody s_law, defScope s_law, [], []⟩
def fns : List He.DefD := [d_law_draw, d_law_words, d_law_great, d_law_told, d_law_tips, d_law_worth, d_law_mingled, d_law_ring, d_law_made, d_is_word, d_are_names, d_check_called, d_ends_of, d_is_end, d_is_whole, d_is_bound, d_check_bounds, d_less, d_tightest, d_added, d_shortened, d_closed, d_table_of, d_rows_of, d_Step_init, d_law_state, d_is_state, d_check_state, d_has_state, d_Step_holds, d_law_near, d_Lot_given, d_Step_given, d_Lot_is_empty, d_Step_is_empty, d_Lot_names, d_Step_names, d_law_kept, d_law_right, d_law_purse, d_law]
def fas : List He.Fa := [.glo "_law_draw", .glo "_law_words", .glo "_law_great", .glo "_law_told", .glo "_law_tips", .glo "_law_worth", .glo "_law_mingled", .glo "_law_ring", .glo "_law_made", .glo "is_word", .glo "are_names", .glo "check_called", .glo "ends_of", .glo "is_end", .glo "is_whole", .glo "is_bound", .glo "check_bounds", .glo "less", .glo "tightest", .glo "added", .glo "shortened", .glo "closed", .glo "table_of", .glo "rows_of", .glo "_law_state", .glo "is_state", .glo "check_state", .glo "has_state", .glo "_law_near", .glo "_law_kept", .glo "_law_right", .glo "_law_purse", .glo "law", .glo "Lot", .cls "Lot", .mkr "Lot", .meth "Lot" "given", .meth "Lot" "is_empty", .meth "Lot" "names", .noat "Lot" "called", .noat "Lot" "made_of", .noat "Lot" "table", .glo "Step", .cls "Step", .mkr "Step", .meth "Step" "holds", .meth "Step" "given", .meth "Step" "is_empty", .meth "Step" "names", .noat "Step" "called", .noat "Step" "made_of", .noat "Step" "table", .free "", .free "len", .free "int", .free "abs", .free "max", .free "min", .free "sum", .free "all", .free "any", .free "list", .free "tuple", .free "repr", .free "str", .free "isinstance", .free "set", .free "range", .free "zip", .free "enumerate", .free "bool", .free "sorted", .free "dict", .str "LETTERS" "abcdefghijklmnopqrstuvwxyz", .int "MOST_LETTERS" 8, .int "MOST_NAMES" 3, .int "MOST_BOUNDS" 50]
def tK (K : PySem.W.Frag) : Bool := (etB K (He.dflAt ("Step", some "__init__") 0 K))
theorem tK_Step {K : PySem.W.Frag} (h : tK K = true) : (etB K (He.dflAt ("Step", some "__init__") 0 K)) = true := by
  unfold tK at h
  exact h
section
variable {W : Wd}
abbrev oks : List Str := ["Lot", "Step"]
theorem m_ (h : Hd W fns fas oks) : W.mg "" = none := He.free_ok h.kin h.ns (h.at_ 52 rfl)
theorem m_len (h : Hd W fns fas oks) : W.mg "len" = none := He.free_ok h.kin h.ns (h.at_ 53 rfl)
theorem m_int (h : Hd W fns fas oks) : W.mg "int" = none := He.free_ok h.kin h.ns (h.at_ 54 rfl)
theorem m_abs (h : Hd W fns fas oks) : W.mg "abs" = none := He.free_ok h.kin h.ns (h.at_ 55 rfl)
theorem m_max (h : Hd W fns fas oks) : W.mg "max" = none := He.free_ok h.kin h.ns (h.at_ 56 rfl)
theorem m_min (h : Hd W fns fas oks) : W.mg "min" = none := He.free_ok h.kin h.ns (h.at_ 57 rfl)
theorem m_sum (h : Hd W fns fas oks) : W.mg "sum" = none := He.free_ok h.kin h.ns (h.at_ 58 rfl)
theorem m_all (h : Hd W fns fas oks) : W.mg "all" = none := He.free_ok h.kin h.ns (h.at_ 59 rfl)
theorem m_any (h : Hd W fns fas oks) : W.mg "any" = none := He.free_ok h.kin h.ns (h.at_ 60 rfl)
theorem m_list (h : Hd W fns fas oks) : W.mg "list" = none := He.free_ok h.kin h.ns (h.at_ 61 rfl)
theorem m_tuple (h : Hd W fns fas oks) : W.mg "tuple" = none := He.free_ok h.kin h.ns (h.at_ 62 rfl)
theorem m_repr (h : Hd W fns fas oks) : W.mg "repr" = none := He.free_ok h.kin h.ns (h.at_ 63 rfl)
theorem m_str (h : Hd W fns fas oks) : W.mg "str" = none := He.free_ok h.kin h.ns (h.at_ 64 rfl)
theorem m_isinstance (h : Hd W fns fas oks) : W.mg "isinstance" = none := He.free_ok h.kin h.ns (h.at_ 65 rfl)
theorem m_set (h : Hd W fns fas oks) : W.mg "set" = none := He.free_ok h.kin h.ns (h.at_ 66 rfl)
theorem m_range (h : Hd W fns fas oks) : W.mg "range" = none := He.free_ok h.kin h.ns (h.at_ 67 rfl)
theorem m_zip (h : Hd W fns fas oks) : W.mg "zip" = none := He.free_ok h.kin h.ns (h.at_ 68 rfl)
theorem m_enumerate (h : Hd W fns fas oks) : W.mg "enumerate" = none := He.free_ok h.kin h.ns (h.at_ 69 rfl)
theorem m_sorted (h : Hd W fns fas oks) : W.mg "sorted" = none := He.free_ok h.kin h.ns (h.at_ 71 rfl)
theorem m_dict (h : Hd W fns fas oks) : W.mg "dict" = none := He.free_ok h.kin h.ns (h.at_ 72 rfl)
theorem cl_Lot (h : Hd W fns fas oks) : Cls W.K (W.ca "Lot") := by rw [h.hca]; exact He.cls_ok (h.at_ 34 rfl)
theorem cl_Step (h : Hd W fns fas oks) : Cls W.K (W.ca "Step") := by rw [h.hca]; exact He.cls_ok (h.at_ 43 rfl)
theorem na_Lot_called (h : Hd W fns fas oks) : NoAttr W.K (W.ca "Lot") "called" := by rw [h.hca]; exact He.noat_ok (h.at_ 39 rfl)
theorem na_Lot_made_of (h : Hd W fns fas oks) : NoAttr W.K (W.ca "Lot") "made_of" := by rw [h.hca]; exact He.noat_ok (h.at_ 40 rfl)
theorem na_Lot_table (h : Hd W fns fas oks) : NoAttr W.K (W.ca "Lot") "table" := by rw [h.hca]; exact He.noat_ok (h.at_ 41 rfl)
theorem na_Step_called (h : Hd W fns fas oks) : NoAttr W.K (W.ca "Step") "called" := by rw [h.hca]; exact He.noat_ok (h.at_ 49 rfl)
theorem na_Step_made_of (h : Hd W fns fas oks) : NoAttr W.K (W.ca "Step") "made_of" := by rw [h.hca]; exact He.noat_ok (h.at_ 50 rfl)
theorem na_Step_table (h : Hd W fns fas oks) : NoAttr W.K (W.ca "Step") "table" := by rw [h.hca]; exact He.noat_ok (h.at_ 51 rfl)
theorem sc_law_draw : FnScope N_law_draw ["_law_purse_here", "_law_many"] (defScope s_law_draw) := ⟨rfl, rfl, rfl, by decide +kernel, rfl, by decide +kernel, by decide +kernel⟩
theorem c_law_draw : chkSs b_law_draw ⟨N_law_draw, defScope s_law_draw, fun _ => true⟩ true (defBody s_law_draw) = true := by decide +kernel
theorem k_law_draw (h : Hd W fns fas oks) (ht : tK W.K = true) : okSs W 0 b_law_draw := by
  simp only [b_law_draw, okSs, okS, okE, okEs, okO, biName, iterN, biOk, cmpM, binM, CmpC, List.forall_mem_cons, List.not_mem_nil, false_implies, implies_true, and_true, true_and, m_ h, m_abs h, m_all h, m_any h, m_dict h, m_enumerate h, m_int h, m_isinstance h, m_len h, m_list h, m_max h, m_min h, m_range h, m_repr h, m_set h, m_sorted h, m_str h, m_sum h, m_tuple h, m_zip h, h.isi, cl_Lot h, cl_Step h]
theorem o_law_draw (h : Hd W fns fas oks) (ht : tK W.K = true) : FnC W 1 f_law_draw :=
  h.fnC (N := N_law_draw) (ps := ["_law_purse_here", "_law_many"]) (io := true) (np := 2) (mbody := b_law_draw) 0 0 (x := "_law_draw") (qual := "_law_draw") (params := defArgs s_law_draw) (body := defBody s_law_draw) (scope := defScope s_law_draw) rfl rfl sc_law_draw rfl rfl (by decide) rfl c_law_draw (fun _ _ _ _ _ _ us hl => by match us, hl with | [_, _], _ => kernel_rfl) (k_law_draw h ht)
theorem sc_law_words : FnScope N_law_words ["_law_purse_here", "_law_many"] (defScope s_law_words) := ⟨rfl, rfl, rfl, by decide +kernel, rfl, by decide +kernel, by decide +kernel⟩
theorem c_law_words : chkSs b_law_words ⟨N_law_words, defScope s_law_words, fun _ => true⟩ true (defBody s_law_words) = true := by decide +kernel
theorem k_law_words (h : Hd W fns fas oks) (ht : tK W.K = true) : okSs W 1 b_law_words := by
  simp only [b_law_words, okSs, okS, okE, okEs, okO, biName, iterN, biOk, cmpM, binM, CmpC, List.forall_mem_cons, List.not_mem_nil, false_implies, implies_true, and_true, true_and, (o_law_draw h ht).up (k := 1) (by decide), m_ h, m_abs h, m_all h, m_any h, m_dict h, m_enumerate h, m_int h, m_isinstance h, m_len h, m_list h, m_max h, m_min h, m_range h, m_repr h, m_set h, m_sorted h, m_str h, m_sum h, m_tuple h, m_zip h, h.isi, cl_Lot h, cl_Step h]
theorem o_law_words (h : Hd W fns fas oks) (ht : tK W.K = true) : FnC W 2 f_law_words :=
  h.fnC (N := N_law_words) (ps := ["_law_purse_here", "_law_many"]) (io := true) (np := 2) (mbody := b_law_words) 1 1 (x := "_law_words") (qual := "_law_words") (params := defArgs s_law_words) (body := defBody s_law_words) (scope := defScope s_law_words) rfl rfl sc_law_words rfl rfl (by decide) rfl c_law_words (fun _ _ _ _ _ _ us hl => by match us, hl with | [_, _], _ => kernel_rfl) (k_law_words h ht)
theorem sc_law_great : FnScope N_law_great ["_law_purse_here", "_law_far"] (defScope s_law_great) := ⟨rfl, rfl, rfl, by decide +kernel, rfl, by decide +kernel, by decide +kernel⟩
theorem c_law_great : chkSs b_law_great ⟨N_law_great, defScope s_law_great, fun _ => true⟩ true (defBody s_law_great) = true := by decide +kernel
theorem k_law_great (h : Hd W fns fas oks) (ht : tK W.K = true) : okSs W 1 b_law_great := by
  simp only [b_law_great, okSs, okS, okE, okEs, okO, biName, iterN, biOk, cmpM, binM, CmpC, List.forall_mem_cons, List.not_mem_nil, false_implies, implies_true, and_true, true_and, (o_law_draw h ht).up (k := 1) (by decide), m_ h, m_abs h, m_all h, m_any h, m_dict h, m_enumerate h, m_int h, m_isinstance h, m_len h, m_list h, m_max h, m_min h, m_range h, m_repr h, m_set h, m_sorted h, m_str h, m_sum h, m_tuple h, m_zip h, h.isi, cl_Lot h, cl_Step h]
theorem o_law_great (h : Hd W fns fas oks) (ht : tK W.K = true) : FnC W 2 f_law_great :=
  h.fnC (N := N_law_great) (ps := ["_law_purse_here", "_law_far"]) (io := true) (np := 2) (mbody := b_law_great) 2 2 (x := "_law_great") (qual := "_law_great") (params := defArgs s_law_great) (body := defBody s_law_great) (scope := defScope s_law_great) rfl rfl sc_law_great rfl rfl (by decide) rfl c_law_great (fun _ _ _ _ _ _ us hl => by match us, hl with | [_, _], _ => kernel_rfl) (k_law_great h ht)
theorem sc_law_told : FnScope N_law_told ["_law_purse_here", "_law_tips_here", "_law_worth_here", "_law_many", "_law_far"] (defScope s_law_told) := ⟨rfl, rfl, rfl, by decide +kernel, rfl, by decide +kernel, by decide +kernel⟩
theorem c_law_told : chkSs b_law_told ⟨N_law_told, defScope s_law_told, fun _ => true⟩ true (defBody s_law_told) = true := by decide +kernel
theorem k_law_told (h : Hd W fns fas oks) (ht : tK W.K = true) : okSs W 2 b_law_told := by
  simp only [b_law_told, okSs, okS, okE, okEs, okO, biName, iterN, biOk, cmpM, binM, CmpC, List.forall_mem_cons, List.not_mem_nil, false_implies, implies_true, and_true, true_and, (o_law_draw h ht).up (k := 2) (by decide), (o_law_great h ht).up (k := 2) (by decide), m_ h, m_abs h, m_all h, m_any h, m_dict h, m_enumerate h, m_int h, m_isinstance h, m_len h, m_list h, m_max h, m_min h, m_range h, m_repr h, m_set h, m_sorted h, m_str h, m_sum h, m_tuple h, m_zip h, h.isi, cl_Lot h, cl_Step h]
theorem o_law_told (h : Hd W fns fas oks) (ht : tK W.K = true) : FnC W 3 f_law_told :=
  h.fnC (N := N_law_told) (ps := ["_law_purse_here", "_law_tips_here", "_law_worth_here", "_law_many", "_law_far"]) (io := true) (np := 5) (mbody := b_law_told) 3 3 (x := "_law_told") (qual := "_law_told") (params := defArgs s_law_told) (body := defBody s_law_told) (scope := defScope s_law_told) rfl rfl sc_law_told rfl rfl (by decide) rfl c_law_told (fun _ _ _ _ _ _ us hl => by match us, hl with | [_, _, _, _, _], _ => kernel_rfl) (k_law_told h ht)
theorem sc_law_tips : FnScope N_law_tips ["_law_called"] (defScope s_law_tips) := ⟨rfl, rfl, rfl, by decide +kernel, rfl, by decide +kernel, by decide +kernel⟩
theorem c_law_tips : chkSs b_law_tips ⟨N_law_tips, defScope s_law_tips, fun _ => true⟩ false (defBody s_law_tips) = true := by decide +kernel
theorem k_law_tips (h : Hd W fns fas oks) (ht : tK W.K = true) : okSs W 0 b_law_tips := by
  simp only [b_law_tips, okSs, okS, okE, okEs, okO, biName, iterN, biOk, cmpM, binM, CmpC, List.forall_mem_cons, List.not_mem_nil, false_implies, implies_true, and_true, true_and, m_ h, m_abs h, m_all h, m_any h, m_dict h, m_enumerate h, m_int h, m_isinstance h, m_len h, m_list h, m_max h, m_min h, m_range h, m_repr h, m_set h, m_sorted h, m_str h, m_sum h, m_tuple h, m_zip h, h.isi, cl_Lot h, cl_Step h]
theorem o_law_tips (h : Hd W fns fas oks) (ht : tK W.K = true) : FnC W 1 f_law_tips :=
  h.fnC (N := N_law_tips) (ps := ["_law_called"]) (io := false) (np := 1) (mbody := b_law_tips) 4 4 (x := "_law_tips") (qual := "_law_tips") (params := defArgs s_law_tips) (body := defBody s_law_tips) (scope := defScope s_law_tips) rfl rfl sc_law_tips rfl rfl (by decide) rfl c_law_tips (fun _ _ _ _ _ _ us hl => by match us, hl with | [_], _ => kernel_rfl) (k_law_tips h ht)
theorem sc_law_worth : FnScope N_law_worth ["_law_called", "_law_ahead", "_law_behind"] (defScope s_law_worth) := ⟨rfl, rfl, rfl, by decide +kernel, rfl, by decide +kernel, by decide +kernel⟩
theorem c_law_worth : chkSs b_law_worth ⟨N_law_worth, defScope s_law_worth, fun _ => true⟩ false (defBody s_law_worth) = true := by decide +kernel
theorem k_law_worth (h : Hd W fns fas oks) (ht : tK W.K = true) : okSs W 0 b_law_worth := by
  simp only [b_law_worth, okSs, okS, okE, okEs, okO, biName, iterN, biOk, cmpM, binM, CmpC, List.forall_mem_cons, List.not_mem_nil, false_implies, implies_true, and_true, true_and, m_ h, m_abs h, m_all h, m_any h, m_dict h, m_enumerate h, m_int h, m_isinstance h, m_len h, m_list h, m_max h, m_min h, m_range h, m_repr h, m_set h, m_sorted h, m_str h, m_sum h, m_tuple h, m_zip h, h.isi, cl_Lot h, cl_Step h]
theorem o_law_worth (h : Hd W fns fas oks) (ht : tK W.K = true) : FnC W 1 f_law_worth :=
  h.fnC (N := N_law_worth) (ps := ["_law_called", "_law_ahead", "_law_behind"]) (io := false) (np := 3) (mbody := b_law_worth) 5 5 (x := "_law_worth") (qual := "_law_worth") (params := defArgs s_law_worth) (body := defBody s_law_worth) (scope := defScope s_law_worth) rfl rfl sc_law_worth rfl rfl (by decide) rfl c_law_worth (fun _ _ _ _ _ _ us hl => by match us, hl with | [_, _, _], _ => kernel_rfl) (k_law_worth h ht)
theorem sc_law_mingled : FnScope N_law_mingled ["_law_purse_here", "_law_told_here", "_law_more"] (defScope s_law_mingled) := ⟨rfl, rfl, rfl, by decide +kernel, rfl, by decide +kernel, by decide +kernel⟩
theorem c_law_mingled : chkSs b_law_mingled ⟨N_law_mingled, defScope s_law_mingled, fun _ => true⟩ true (defBody s_law_mingled) = true := by decide +kernel
theorem k_law_mingled (h : Hd W fns fas oks) (ht : tK W.K = true) : okSs W 1 b_law_mingled := by
  simp only [b_law_mingled, okSs, okS, okE, okEs, okO, biName, iterN, biOk, cmpM, binM, CmpC, List.forall_mem_cons, List.not_mem_nil, false_implies, implies_true, and_true, true_and, (o_law_draw h ht).up (k := 1) (by decide), m_ h, m_abs h, m_all h, m_any h, m_dict h, m_enumerate h, m_int h, m_isinstance h, m_len h, m_list h, m_max h, m_min h, m_range h, m_repr h, m_set h, m_sorted h, m_str h, m_sum h, m_tuple h, m_zip h, h.isi, cl_Lot h, cl_Step h]
theorem o_law_mingled (h : Hd W fns fas oks) (ht : tK W.K = true) : FnC W 2 f_law_mingled :=
  h.fnC (N := N_law_mingled) (ps := ["_law_purse_here", "_law_told_here", "_law_more"]) (io := true) (np := 3) (mbody := b_law_mingled) 6 6 (x := "_law_mingled") (qual := "_law_mingled") (params := defArgs s_law_mingled) (body := defBody s_law_mingled) (scope := defScope s_law_mingled) rfl rfl sc_law_mingled rfl rfl (by decide) rfl c_law_mingled (fun _ _ _ _ _ _ us hl => by match us, hl with | [_, _, _], _ => kernel_rfl) (k_law_mingled h ht)
theorem sc_law_ring : FnScope N_law_ring ["_law_purse_here", "_law_tips_here", "_law_worth_here"] (defScope s_law_ring) := ⟨rfl, rfl, rfl, by decide +kernel, rfl, by decide +kernel, by decide +kernel⟩
theorem c_law_ring : chkSs b_law_ring ⟨N_law_ring, defScope s_law_ring, fun _ => true⟩ true (defBody s_law_ring) = true := by decide +kernel
theorem k_law_ring (h : Hd W fns fas oks) (ht : tK W.K = true) : okSs W 1 b_law_ring := by
  simp only [b_law_ring, okSs, okS, okE, okEs, okO, biName, iterN, biOk, cmpM, binM, CmpC, List.forall_mem_cons, List.not_mem_nil, false_implies, implies_true, and_true, true_and, (o_law_draw h ht).up (k := 1) (by decide), m_ h, m_abs h, m_all h, m_any h, m_dict h, m_enumerate h, m_int h, m_isinstance h, m_len h, m_list h, m_max h, m_min h, m_range h, m_repr h, m_set h, m_sorted h, m_str h, m_sum h, m_tuple h, m_zip h, h.isi, cl_Lot h, cl_Step h]
theorem o_law_ring (h : Hd W fns fas oks) (ht : tK W.K = true) : FnC W 2 f_law_ring :=
  h.fnC (N := N_law_ring) (ps := ["_law_purse_here", "_law_tips_here", "_law_worth_here"]) (io := true) (np := 3) (mbody := b_law_ring) 7 7 (x := "_law_ring") (qual := "_law_ring") (params := defArgs s_law_ring) (body := defBody s_law_ring) (scope := defScope s_law_ring) rfl rfl sc_law_ring rfl rfl (by decide) rfl c_law_ring (fun _ _ _ _ _ _ us hl => by match us, hl with | [_, _, _], _ => kernel_rfl) (k_law_ring h ht)
theorem sc_law_made : FnScope N_law_made ["_law_purse_here", "_law_called", "_law_ahead", "_law_behind", "_law_size", "_law_far"] (defScope s_law_made) := ⟨rfl, rfl, rfl, by decide +kernel, rfl, by decide +kernel, by decide +kernel⟩
theorem c_law_made : chkSs b_law_made ⟨N_law_made, defScope s_law_made, fun _ => true⟩ true (defBody s_law_made) = true := by decide +kernel
theorem k_law_made (h : Hd W fns fas oks) (ht : tK W.K = true) : okSs W 3 b_law_made := by
  simp only [b_law_made, okSs, okS, okE, okEs, okO, biName, iterN, biOk, cmpM, binM, CmpC, List.forall_mem_cons, List.not_mem_nil, false_implies, implies_true, and_true, true_and, (o_law_draw h ht).up (k := 3) (by decide), (o_law_mingled h ht).up (k := 3) (by decide), (o_law_ring h ht).up (k := 3) (by decide), (o_law_tips h ht).up (k := 3) (by decide), (o_law_told h ht).up (k := 3) (by decide), (o_law_worth h ht).up (k := 3) (by decide), m_ h, m_abs h, m_all h, m_any h, m_dict h, m_enumerate h, m_int h, m_isinstance h, m_len h, m_list h, m_max h, m_min h, m_range h, m_repr h, m_set h, m_sorted h, m_str h, m_sum h, m_tuple h, m_zip h, h.isi, cl_Lot h, cl_Step h]
theorem o_law_made (h : Hd W fns fas oks) (ht : tK W.K = true) : FnC W 4 f_law_made :=
  h.fnC (N := N_law_made) (ps := ["_law_purse_here", "_law_called", "_law_ahead", "_law_behind", "_law_size", "_law_far"]) (io := true) (np := 6) (mbody := b_law_made) 8 8 (x := "_law_made") (qual := "_law_made") (params := defArgs s_law_made) (body := defBody s_law_made) (scope := defScope s_law_made) rfl rfl sc_law_made rfl rfl (by decide) rfl c_law_made (fun _ _ _ _ _ _ us hl => by match us, hl with | [_, _, _, _, _, _], _ => kernel_rfl) (k_law_made h ht)
theorem sc_is_word : FnScope N_is_word ["thing"] (defScope s_is_word) := ⟨rfl, rfl, rfl, by decide +kernel, rfl, by decide +kernel, by decide +kernel⟩
theorem c_is_word : chkSs b_is_word ⟨N_is_word, defScope s_is_word, fun _ => true⟩ false (defBody s_is_word) = true := by decide +kernel
theorem k_is_word (h : Hd W fns fas oks) (ht : tK W.K = true) : okSs W 0 b_is_word := by
  simp only [b_is_word, okSs, okS, okE, okEs, okO, biName, iterN, biOk, cmpM, binM, CmpC, List.forall_mem_cons, List.not_mem_nil, false_implies, implies_true, and_true, true_and, (glC_str h.kin h.ns (h.at_ 73 rfl) : GlC W "LETTERS" _), (glC_int h.kin h.ns (h.at_ 74 rfl) : GlC W "MOST_LETTERS" _), (show GlC W "str" (.ty "str") from glC_ty h.kin h.ns (h.at_ 64 rfl) rfl (by decide)), m_ h, m_abs h, m_all h, m_any h, m_dict h, m_enumerate h, m_int h, m_isinstance h, m_len h, m_list h, m_max h, m_min h, m_range h, m_repr h, m_set h, m_sorted h, m_str h, m_sum h, m_tuple h, m_zip h, h.isi, cl_Lot h, cl_Step h]
theorem o_is_word (h : Hd W fns fas oks) (ht : tK W.K = true) : FnC W 1 f_is_word :=
  h.fnC (N := N_is_word) (ps := ["thing"]) (io := false) (np := 1) (mbody := b_is_word) 9 9 (x := "is_word") (qual := "is_word") (params := defArgs s_is_word) (body := defBody s_is_word) (scope := defScope s_is_word) rfl rfl sc_is_word rfl rfl (by decide) rfl c_is_word (fun _ _ _ _ _ _ us hl => by match us, hl with | [_], _ => kernel_rfl) (k_is_word h ht)
theorem sc_are_names : FnScope N_are_names ["thing"] (defScope s_are_names) := ⟨rfl, rfl, rfl, by decide +kernel, rfl, by decide +kernel, by decide +kernel⟩
theorem c_are_names : chkSs b_are_names ⟨N_are_names, defScope s_are_names, fun _ => true⟩ false (defBody s_are_names) = true := by decide +kernel
theorem k_are_names (h : Hd W fns fas oks) (ht : tK W.K = true) : okSs W 1 b_are_names := by
  simp only [b_are_names, okSs, okS, okE, okEs, okO, biName, iterN, biOk, cmpM, binM, CmpC, List.forall_mem_cons, List.not_mem_nil, false_implies, implies_true, and_true, true_and, (o_is_word h ht).up (k := 1) (by decide), (glC_int h.kin h.ns (h.at_ 75 rfl) : GlC W "MOST_NAMES" _), (show GlC W "tuple" (.ty "tuple") from glC_ty h.kin h.ns (h.at_ 62 rfl) rfl (by decide)), m_ h, m_abs h, m_all h, m_any h, m_dict h, m_enumerate h, m_int h, m_isinstance h, m_len h, m_list h, m_max h, m_min h, m_range h, m_repr h, m_set h, m_sorted h, m_str h, m_sum h, m_tuple h, m_zip h, h.isi, cl_Lot h, cl_Step h]
theorem o_are_names (h : Hd W fns fas oks) (ht : tK W.K = true) : FnC W 2 f_are_names :=
  h.fnC (N := N_are_names) (ps := ["thing"]) (io := false) (np := 1) (mbody := b_are_names) 10 10 (x := "are_names") (qual := "are_names") (params := defArgs s_are_names) (body := defBody s_are_names) (scope := defScope s_are_names) rfl rfl sc_are_names rfl rfl (by decide) rfl c_are_names (fun _ _ _ _ _ _ us hl => by match us, hl with | [_], _ => kernel_rfl) (k_are_names h ht)
theorem sc_check_called : FnScope N_check_called ["names"] (defScope s_check_called) := ⟨rfl, rfl, rfl, by decide +kernel, rfl, by decide +kernel, by decide +kernel⟩
theorem c_check_called : chkSs b_check_called ⟨N_check_called, defScope s_check_called, fun _ => true⟩ false (defBody s_check_called) = true := by decide +kernel
theorem k_check_called (h : Hd W fns fas oks) (ht : tK W.K = true) : okSs W 2 b_check_called := by
  simp only [b_check_called, okSs, okS, okE, okEs, okO, biName, iterN, biOk, cmpM, binM, CmpC, List.forall_mem_cons, List.not_mem_nil, false_implies, implies_true, and_true, true_and, (o_are_names h ht).up (k := 2) (by decide), m_ h, m_abs h, m_all h, m_any h, m_dict h, m_enumerate h, m_int h, m_isinstance h, m_len h, m_list h, m_max h, m_min h, m_range h, m_repr h, m_set h, m_sorted h, m_str h, m_sum h, m_tuple h, m_zip h, h.isi, cl_Lot h, cl_Step h]
theorem o_check_called (h : Hd W fns fas oks) (ht : tK W.K = true) : FnC W 3 f_check_called :=
  h.fnC (N := N_check_called) (ps := ["names"]) (io := false) (np := 1) (mbody := b_check_called) 11 11 (x := "check_called") (qual := "check_called") (params := defArgs s_check_called) (body := defBody s_check_called) (scope := defScope s_check_called) rfl rfl sc_check_called rfl rfl (by decide) rfl c_check_called (fun _ _ _ _ _ _ us hl => by match us, hl with | [_], _ => kernel_rfl) (k_check_called h ht)
theorem sc_ends_of : FnScope N_ends_of ["names"] (defScope s_ends_of) := ⟨rfl, rfl, rfl, by decide +kernel, rfl, by decide +kernel, by decide +kernel⟩
theorem c_ends_of : chkSs b_ends_of ⟨N_ends_of, defScope s_ends_of, fun _ => true⟩ false (defBody s_ends_of) = true := by decide +kernel
theorem k_ends_of (h : Hd W fns fas oks) (ht : tK W.K = true) : okSs W 0 b_ends_of := by
  simp only [b_ends_of, okSs, okS, okE, okEs, okO, biName, iterN, biOk, cmpM, binM, CmpC, List.forall_mem_cons, List.not_mem_nil, false_implies, implies_true, and_true, true_and, m_ h, m_abs h, m_all h, m_any h, m_dict h, m_enumerate h, m_int h, m_isinstance h, m_len h, m_list h, m_max h, m_min h, m_range h, m_repr h, m_set h, m_sorted h, m_str h, m_sum h, m_tuple h, m_zip h, h.isi, cl_Lot h, cl_Step h]
theorem o_ends_of (h : Hd W fns fas oks) (ht : tK W.K = true) : FnC W 1 f_ends_of :=
  h.fnC (N := N_ends_of) (ps := ["names"]) (io := false) (np := 1) (mbody := b_ends_of) 12 12 (x := "ends_of") (qual := "ends_of") (params := defArgs s_ends_of) (body := defBody s_ends_of) (scope := defScope s_ends_of) rfl rfl sc_ends_of rfl rfl (by decide) rfl c_ends_of (fun _ _ _ _ _ _ us hl => by match us, hl with | [_], _ => kernel_rfl) (k_ends_of h ht)
theorem sc_is_end : FnScope N_is_end ["ends", "thing"] (defScope s_is_end) := ⟨rfl, rfl, rfl, by decide +kernel, rfl, by decide +kernel, by decide +kernel⟩
theorem c_is_end : chkSs b_is_end ⟨N_is_end, defScope s_is_end, fun _ => true⟩ false (defBody s_is_end) = true := by decide +kernel
theorem k_is_end (h : Hd W fns fas oks) (ht : tK W.K = true) : okSs W 0 b_is_end := by
  simp only [b_is_end, okSs, okS, okE, okEs, okO, biName, iterN, biOk, cmpM, binM, CmpC, List.forall_mem_cons, List.not_mem_nil, false_implies, implies_true, and_true, true_and, (show GlC W "str" (.ty "str") from glC_ty h.kin h.ns (h.at_ 64 rfl) rfl (by decide)), m_ h, m_abs h, m_all h, m_any h, m_dict h, m_enumerate h, m_int h, m_isinstance h, m_len h, m_list h, m_max h, m_min h, m_range h, m_repr h, m_set h, m_sorted h, m_str h, m_sum h, m_tuple h, m_zip h, h.isi, cl_Lot h, cl_Step h]
theorem o_is_end (h : Hd W fns fas oks) (ht : tK W.K = true) : FnC W 1 f_is_end :=
  h.fnC (N := N_is_end) (ps := ["ends", "thing"]) (io := false) (np := 2) (mbody := b_is_end) 13 13 (x := "is_end") (qual := "is_end") (params := defArgs s_is_end) (body := defBody s_is_end) (scope := defScope s_is_end) rfl rfl sc_is_end rfl rfl (by decide) rfl c_is_end (fun _ _ _ _ _ _ us hl => by match us, hl with | [_, _], _ => kernel_rfl) (k_is_end h ht)
theorem sc_is_whole : FnScope N_is_whole ["thing"] (defScope s_is_whole) := ⟨rfl, rfl, rfl, by decide +kernel, rfl, by decide +kernel, by decide +kernel⟩
theorem c_is_whole : chkSs b_is_whole ⟨N_is_whole, defScope s_is_whole, fun _ => true⟩ false (defBody s_is_whole) = true := by decide +kernel
theorem k_is_whole (h : Hd W fns fas oks) (ht : tK W.K = true) : okSs W 0 b_is_whole := by
  simp only [b_is_whole, okSs, okS, okE, okEs, okO, biName, iterN, biOk, cmpM, binM, CmpC, List.forall_mem_cons, List.not_mem_nil, false_implies, implies_true, and_true, true_and, (show GlC W "bool" (.ty "bool") from glC_ty h.kin h.ns (h.at_ 70 rfl) rfl (by decide)), (show GlC W "int" (.ty "int") from glC_ty h.kin h.ns (h.at_ 54 rfl) rfl (by decide)), m_ h, m_abs h, m_all h, m_any h, m_dict h, m_enumerate h, m_int h, m_isinstance h, m_len h, m_list h, m_max h, m_min h, m_range h, m_repr h, m_set h, m_sorted h, m_str h, m_sum h, m_tuple h, m_zip h, h.isi, cl_Lot h, cl_Step h]
theorem o_is_whole (h : Hd W fns fas oks) (ht : tK W.K = true) : FnC W 1 f_is_whole :=
  h.fnC (N := N_is_whole) (ps := ["thing"]) (io := false) (np := 1) (mbody := b_is_whole) 14 14 (x := "is_whole") (qual := "is_whole") (params := defArgs s_is_whole) (body := defBody s_is_whole) (scope := defScope s_is_whole) rfl rfl sc_is_whole rfl rfl (by decide) rfl c_is_whole (fun _ _ _ _ _ _ us hl => by match us, hl with | [_], _ => kernel_rfl) (k_is_whole h ht)
theorem sc_is_bound : FnScope N_is_bound ["ends", "thing"] (defScope s_is_bound) := ⟨rfl, rfl, rfl, by decide +kernel, rfl, by decide +kernel, by decide +kernel⟩
theorem c_is_bound : chkSs b_is_bound ⟨N_is_bound, defScope s_is_bound, fun _ => true⟩ false (defBody s_is_bound) = true := by decide +kernel
theorem k_is_bound (h : Hd W fns fas oks) (ht : tK W.K = true) : okSs W 1 b_is_bound := by
  simp only [b_is_bound, okSs, okS, okE, okEs, okO, biName, iterN, biOk, cmpM, binM, CmpC, List.forall_mem_cons, List.not_mem_nil, false_implies, implies_true, and_true, true_and, (o_is_end h ht).up (k := 1) (by decide), (o_is_whole h ht).up (k := 1) (by decide), (show GlC W "tuple" (.ty "tuple") from glC_ty h.kin h.ns (h.at_ 62 rfl) rfl (by decide)), m_ h, m_abs h, m_all h, m_any h, m_dict h, m_enumerate h, m_int h, m_isinstance h, m_len h, m_list h, m_max h, m_min h, m_range h, m_repr h, m_set h, m_sorted h, m_str h, m_sum h, m_tuple h, m_zip h, h.isi, cl_Lot h, cl_Step h]
theorem o_is_bound (h : Hd W fns fas oks) (ht : tK W.K = true) : FnC W 2 f_is_bound :=
  h.fnC (N := N_is_bound) (ps := ["ends", "thing"]) (io := false) (np := 2) (mbody := b_is_bound) 15 15 (x := "is_bound") (qual := "is_bound") (params := defArgs s_is_bound) (body := defBody s_is_bound) (scope := defScope s_is_bound) rfl rfl sc_is_bound rfl rfl (by decide) rfl c_is_bound (fun _ _ _ _ _ _ us hl => by match us, hl with | [_, _], _ => kernel_rfl) (k_is_bound h ht)
theorem sc_check_bounds : FnScope N_check_bounds ["ends", "bounds"] (defScope s_check_bounds) := ⟨rfl, rfl, rfl, by decide +kernel, rfl, by decide +kernel, by decide +kernel⟩
theorem c_check_bounds : chkSs b_check_bounds ⟨N_check_bounds, defScope s_check_bounds, fun _ => true⟩ false (defBody s_check_bounds) = true := by decide +kernel
theorem k_check_bounds (h : Hd W fns fas oks) (ht : tK W.K = true) : okSs W 2 b_check_bounds := by
  simp only [b_check_bounds, okSs, okS, okE, okEs, okO, biName, iterN, biOk, cmpM, binM, CmpC, List.forall_mem_cons, List.not_mem_nil, false_implies, implies_true, and_true, true_and, (o_is_bound h ht).up (k := 2) (by decide), (glC_int h.kin h.ns (h.at_ 76 rfl) : GlC W "MOST_BOUNDS" _), (show GlC W "tuple" (.ty "tuple") from glC_ty h.kin h.ns (h.at_ 62 rfl) rfl (by decide)), m_ h, m_abs h, m_all h, m_any h, m_dict h, m_enumerate h, m_int h, m_isinstance h, m_len h, m_list h, m_max h, m_min h, m_range h, m_repr h, m_set h, m_sorted h, m_str h, m_sum h, m_tuple h, m_zip h, h.isi, cl_Lot h, cl_Step h]
theorem o_check_bounds (h : Hd W fns fas oks) (ht : tK W.K = true) : FnC W 3 f_check_bounds :=
  h.fnC (N := N_check_bounds) (ps := ["ends", "bounds"]) (io := false) (np := 2) (mbody := b_check_bounds) 16 16 (x := "check_bounds") (qual := "check_bounds") (params := defArgs s_check_bounds) (body := defBody s_check_bounds) (scope := defScope s_check_bounds) rfl rfl sc_check_bounds rfl rfl (by decide) rfl c_check_bounds (fun _ _ _ _ _ _ us hl => by match us, hl with | [_, _], _ => kernel_rfl) (k_check_bounds h ht)
theorem sc_less : FnScope N_less ["one", "two"] (defScope s_less) := ⟨rfl, rfl, rfl, by decide +kernel, rfl, by decide +kernel, by decide +kernel⟩
theorem c_less : chkSs b_less ⟨N_less, defScope s_less, fun _ => true⟩ false (defBody s_less) = true := by decide +kernel
theorem k_less (h : Hd W fns fas oks) (ht : tK W.K = true) : okSs W 0 b_less := by
  simp only [b_less, okSs, okS, okE, okEs, okO, biName, iterN, biOk, cmpM, binM, CmpC, List.forall_mem_cons, List.not_mem_nil, false_implies, implies_true, and_true, true_and, m_ h, m_abs h, m_all h, m_any h, m_dict h, m_enumerate h, m_int h, m_isinstance h, m_len h, m_list h, m_max h, m_min h, m_range h, m_repr h, m_set h, m_sorted h, m_str h, m_sum h, m_tuple h, m_zip h, h.isi, cl_Lot h, cl_Step h]
theorem o_less (h : Hd W fns fas oks) (ht : tK W.K = true) : FnC W 1 f_less :=
  h.fnC (N := N_less) (ps := ["one", "two"]) (io := false) (np := 2) (mbody := b_less) 17 17 (x := "less") (qual := "less") (params := defArgs s_less) (body := defBody s_less) (scope := defScope s_less) rfl rfl sc_less rfl rfl (by decide) rfl c_less (fun _ _ _ _ _ _ us hl => by match us, hl with | [_, _], _ => kernel_rfl) (k_less h ht)
theorem sc_tightest : FnScope N_tightest ["one", "two"] (defScope s_tightest) := ⟨rfl, rfl, rfl, by decide +kernel, rfl, by decide +kernel, by decide +kernel⟩
theorem c_tightest : chkSs b_tightest ⟨N_tightest, defScope s_tightest, fun _ => true⟩ false (defBody s_tightest) = true := by decide +kernel
theorem k_tightest (h : Hd W fns fas oks) (ht : tK W.K = true) : okSs W 1 b_tightest := by
  simp only [b_tightest, okSs, okS, okE, okEs, okO, biName, iterN, biOk, cmpM, binM, CmpC, List.forall_mem_cons, List.not_mem_nil, false_implies, implies_true, and_true, true_and, (o_less h ht).up (k := 1) (by decide), m_ h, m_abs h, m_all h, m_any h, m_dict h, m_enumerate h, m_int h, m_isinstance h, m_len h, m_list h, m_max h, m_min h, m_range h, m_repr h, m_set h, m_sorted h, m_str h, m_sum h, m_tuple h, m_zip h, h.isi, cl_Lot h, cl_Step h]
theorem o_tightest (h : Hd W fns fas oks) (ht : tK W.K = true) : FnC W 2 f_tightest :=
  h.fnC (N := N_tightest) (ps := ["one", "two"]) (io := false) (np := 2) (mbody := b_tightest) 18 18 (x := "tightest") (qual := "tightest") (params := defArgs s_tightest) (body := defBody s_tightest) (scope := defScope s_tightest) rfl rfl sc_tightest rfl rfl (by decide) rfl c_tightest (fun _ _ _ _ _ _ us hl => by match us, hl with | [_, _], _ => kernel_rfl) (k_tightest h ht)
theorem sc_added : FnScope N_added ["one", "two"] (defScope s_added) := ⟨rfl, rfl, rfl, by decide +kernel, rfl, by decide +kernel, by decide +kernel⟩
theorem c_added : chkSs b_added ⟨N_added, defScope s_added, fun _ => true⟩ false (defBody s_added) = true := by decide +kernel
theorem k_added (h : Hd W fns fas oks) (ht : tK W.K = true) : okSs W 0 b_added := by
  simp only [b_added, okSs, okS, okE, okEs, okO, biName, iterN, biOk, cmpM, binM, CmpC, List.forall_mem_cons, List.not_mem_nil, false_implies, implies_true, and_true, true_and, m_ h, m_abs h, m_all h, m_any h, m_dict h, m_enumerate h, m_int h, m_isinstance h, m_len h, m_list h, m_max h, m_min h, m_range h, m_repr h, m_set h, m_sorted h, m_str h, m_sum h, m_tuple h, m_zip h, h.isi, cl_Lot h, cl_Step h]
theorem o_added (h : Hd W fns fas oks) (ht : tK W.K = true) : FnC W 1 f_added :=
  h.fnC (N := N_added) (ps := ["one", "two"]) (io := false) (np := 2) (mbody := b_added) 19 19 (x := "added") (qual := "added") (params := defArgs s_added) (body := defBody s_added) (scope := defScope s_added) rfl rfl sc_added rfl rfl (by decide) rfl c_added (fun _ _ _ _ _ _ us hl => by match us, hl with | [_, _], _ => kernel_rfl) (k_added h ht)
theorem sc_shortened : FnScope N_shortened ["row", "way", "others"] (defScope s_shortened) := ⟨rfl, rfl, rfl, by decide +kernel, rfl, by decide +kernel, by decide +kernel⟩
theorem c_shortened : chkSs b_shortened ⟨N_shortened, defScope s_shortened, fun _ => true⟩ false (defBody s_shortened) = true := by decide +kernel
theorem k_shortened (h : Hd W fns fas oks) (ht : tK W.K = true) : okSs W 2 b_shortened := by
  simp only [b_shortened, okSs, okS, okE, okEs, okO, biName, iterN, biOk, cmpM, binM, CmpC, List.forall_mem_cons, List.not_mem_nil, false_implies, implies_true, and_true, true_and, (o_added h ht).up (k := 2) (by decide), (o_tightest h ht).up (k := 2) (by decide), m_ h, m_abs h, m_all h, m_any h, m_dict h, m_enumerate h, m_int h, m_isinstance h, m_len h, m_list h, m_max h, m_min h, m_range h, m_repr h, m_set h, m_sorted h, m_str h, m_sum h, m_tuple h, m_zip h, h.isi, cl_Lot h, cl_Step h]
theorem o_shortened (h : Hd W fns fas oks) (ht : tK W.K = true) : FnC W 3 f_shortened :=
  h.fnC (N := N_shortened) (ps := ["row", "way", "others"]) (io := false) (np := 3) (mbody := b_shortened) 20 20 (x := "shortened") (qual := "shortened") (params := defArgs s_shortened) (body := defBody s_shortened) (scope := defScope s_shortened) rfl rfl sc_shortened rfl rfl (by decide) rfl c_shortened (fun _ _ _ _ _ _ us hl => by match us, hl with | [_, _, _], _ => kernel_rfl) (k_shortened h ht)
theorem sc_closed : FnScope N_closed ["table"] (defScope s_closed) := ⟨rfl, rfl, rfl, by decide +kernel, rfl, by decide +kernel, by decide +kernel⟩
theorem c_closed : chkSs b_closed ⟨N_closed, defScope s_closed, fun _ => true⟩ false (defBody s_closed) = true := by decide +kernel
theorem k_closed (h : Hd W fns fas oks) (ht : tK W.K = true) : okSs W 3 b_closed := by
  simp only [b_closed, okSs, okS, okE, okEs, okO, biName, iterN, biOk, cmpM, binM, CmpC, List.forall_mem_cons, List.not_mem_nil, false_implies, implies_true, and_true, true_and, (o_shortened h ht).up (k := 3) (by decide), m_ h, m_abs h, m_all h, m_any h, m_dict h, m_enumerate h, m_int h, m_isinstance h, m_len h, m_list h, m_max h, m_min h, m_range h, m_repr h, m_set h, m_sorted h, m_str h, m_sum h, m_tuple h, m_zip h, h.isi, cl_Lot h, cl_Step h]
theorem o_closed (h : Hd W fns fas oks) (ht : tK W.K = true) : FnC W 4 f_closed :=
  h.fnC (N := N_closed) (ps := ["table"]) (io := false) (np := 1) (mbody := b_closed) 21 21 (x := "closed") (qual := "closed") (params := defArgs s_closed) (body := defBody s_closed) (scope := defScope s_closed) rfl rfl sc_closed rfl rfl (by decide) rfl c_closed (fun _ _ _ _ _ _ us hl => by match us, hl with | [_], _ => kernel_rfl) (k_closed h ht)
theorem sc_table_of : FnScope N_table_of ["size", "rows"] (defScope s_table_of) := ⟨rfl, rfl, rfl, by decide +kernel, rfl, by decide +kernel, by decide +kernel⟩
theorem c_table_of : chkSs b_table_of ⟨N_table_of, defScope s_table_of, fun _ => true⟩ false (defBody s_table_of) = true := by decide +kernel
theorem k_table_of (h : Hd W fns fas oks) (ht : tK W.K = true) : okSs W 4 b_table_of := by
  simp only [b_table_of, okSs, okS, okE, okEs, okO, biName, iterN, biOk, cmpM, binM, CmpC, List.forall_mem_cons, List.not_mem_nil, false_implies, implies_true, and_true, true_and, (o_closed h ht).up (k := 4) (by decide), (o_less h ht).up (k := 4) (by decide), m_ h, m_abs h, m_all h, m_any h, m_dict h, m_enumerate h, m_int h, m_isinstance h, m_len h, m_list h, m_max h, m_min h, m_range h, m_repr h, m_set h, m_sorted h, m_str h, m_sum h, m_tuple h, m_zip h, h.isi, cl_Lot h, cl_Step h]
theorem o_table_of (h : Hd W fns fas oks) (ht : tK W.K = true) : FnC W 5 f_table_of :=
  h.fnC (N := N_table_of) (ps := ["size", "rows"]) (io := false) (np := 2) (mbody := b_table_of) 22 22 (x := "table_of") (qual := "table_of") (params := defArgs s_table_of) (body := defBody s_table_of) (scope := defScope s_table_of) rfl rfl sc_table_of rfl rfl (by decide) rfl c_table_of (fun _ _ _ _ _ _ us hl => by match us, hl with | [_, _], _ => kernel_rfl) (k_table_of h ht)
theorem sc_rows_of : FnScope N_rows_of ["ends", "bounds"] (defScope s_rows_of) := ⟨rfl, rfl, rfl, by decide +kernel, rfl, by decide +kernel, by decide +kernel⟩
theorem c_rows_of : chkSs b_rows_of ⟨N_rows_of, defScope s_rows_of, fun _ => true⟩ false (defBody s_rows_of) = true := by decide +kernel
theorem k_rows_of (h : Hd W fns fas oks) (ht : tK W.K = true) : okSs W 0 b_rows_of := by
  simp only [b_rows_of, okSs, okS, okE, okEs, okO, biName, iterN, biOk, cmpM, binM, CmpC, List.forall_mem_cons, List.not_mem_nil, false_implies, implies_true, and_true, true_and, m_ h, m_abs h, m_all h, m_any h, m_dict h, m_enumerate h, m_int h, m_isinstance h, m_len h, m_list h, m_max h, m_min h, m_range h, m_repr h, m_set h, m_sorted h, m_str h, m_sum h, m_tuple h, m_zip h, h.isi, cl_Lot h, cl_Step h]
theorem o_rows_of (h : Hd W fns fas oks) (ht : tK W.K = true) : FnC W 1 f_rows_of :=
  h.fnC (N := N_rows_of) (ps := ["ends", "bounds"]) (io := false) (np := 2) (mbody := b_rows_of) 23 23 (x := "rows_of") (qual := "rows_of") (params := defArgs s_rows_of) (body := defBody s_rows_of) (scope := defScope s_rows_of) rfl rfl sc_rows_of rfl rfl (by decide) rfl c_rows_of (fun _ _ _ _ _ _ us hl => by match us, hl with | [_, _], _ => kernel_rfl) (k_rows_of h ht)
theorem sc_Step_init : FnScope N_Step_init ["self", "names", "bounds"] (defScope s_Step_init) := ⟨rfl, rfl, rfl, by decide +kernel, rfl, by decide +kernel, by decide +kernel⟩
theorem c_Step_init : chkSs b_Step_init ⟨N_Step_init, defScope s_Step_init, fun _ => true⟩ true (defBody s_Step_init) = true := by decide +kernel
theorem k_Step_init (h : Hd W fns fas oks) (ht : tK W.K = true) : okSs W 5 b_Step_init := by
  simp only [b_Step_init, okSs, okS, okE, okEs, okO, biName, iterN, biOk, cmpM, binM, CmpC, List.forall_mem_cons, List.not_mem_nil, false_implies, implies_true, and_true, true_and, (o_check_bounds h ht).up (k := 5) (by decide), (o_check_called h ht).up (k := 5) (by decide), (o_ends_of h ht).up (k := 5) (by decide), (o_rows_of h ht).up (k := 5) (by decide), (o_table_of h ht).up (k := 5) (by decide), m_ h, m_abs h, m_all h, m_any h, m_dict h, m_enumerate h, m_int h, m_isinstance h, m_len h, m_list h, m_max h, m_min h, m_range h, m_repr h, m_set h, m_sorted h, m_str h, m_sum h, m_tuple h, m_zip h, h.isi, cl_Lot h, cl_Step h, na_Lot_called h, na_Step_called h, na_Lot_made_of h, na_Step_made_of h, na_Lot_table h, na_Step_table h]
theorem o_Step_init (h : Hd W fns fas oks) (ht : tK W.K = true) : MkC W 6 "Step" f_Step_init :=
  h.mkC1 (n := 2) (N := N_Step_init) (ps := ["self", "names", "bounds"]) (io := true) (np := 3) (mbody := b_Step_init) 24 42 44 (c := "Step") (qual := "Step.__init__") (params := defArgs s_Step_init) (body := defBody s_Step_init) (scope := defScope s_Step_init) (p := He.dflAt ("Step", some "__init__") 0) rfl rfl rfl sc_Step_init rfl rfl (by decide) rfl c_Step_init (tK_Step ht) rfl (fun m hm T _ _ _ _ _ _ us its l1 l2 => by
    rcases hm with rfl | rfl
    · match us, l1, its, l2 with | [_, _], _, [_], _ => exact ⟨_, rfl, rfl⟩
    · match us, l1, its, l2 with | [_, _, _], _, [_], _ => exact ⟨_, rfl, rfl⟩) (k_Step_init h ht)
theorem w_Step_init (h : Hd W fns fas oks) (ht : tK W.K = true) : MwC W 6 "Step" f_Step_init ["bounds", "names"] [1, 0] :=
  h.mwC1 (kn := ["bounds", "names"]) (pm := [1, 0]) (N := N_Step_init) (ps := ["self", "names", "bounds"]) (io := true) (np := 3) (mbody := b_Step_init) 24 42 44 (c := "Step") (qual := "Step.__init__") (params := defArgs s_Step_init) (body := defBody s_Step_init) (scope := defScope s_Step_init) (p := He.dflAt ("Step", some "__init__") 0) rfl rfl rfl sc_Step_init rfl rfl (by decide) rfl c_Step_init (fun T _ _ _ _ _ _ self its ws ws2 l1 l2 hp => by
    match its, l1, ws, l2 with | [_], _, [_, _], _ => cases hp; exact ⟨_, rfl, rfl⟩) (k_Step_init h ht)
theorem sc_law_state : FnScope N_law_state ["_law_purse_here", "_law_many", "_law_far"] (defScope s_law_state) := ⟨rfl, rfl, rfl, by decide +kernel, rfl, by decide +kernel, by decide +kernel⟩
theorem c_law_state : chkSs b_law_state ⟨N_law_state, defScope s_law_state, fun _ => true⟩ true (defBody s_law_state) = true := by decide +kernel
theorem k_law_state (h : Hd W fns fas oks) (ht : tK W.K = true) : okSs W 2 b_law_state := by
  simp only [b_law_state, okSs, okS, okE, okEs, okO, biName, iterN, biOk, cmpM, binM, CmpC, List.forall_mem_cons, List.not_mem_nil, false_implies, implies_true, and_true, true_and, (o_law_great h ht).up (k := 2) (by decide), m_ h, m_abs h, m_all h, m_any h, m_dict h, m_enumerate h, m_int h, m_isinstance h, m_len h, m_list h, m_max h, m_min h, m_range h, m_repr h, m_set h, m_sorted h, m_str h, m_sum h, m_tuple h, m_zip h, h.isi, cl_Lot h, cl_Step h]
theorem o_law_state (h : Hd W fns fas oks) (ht : tK W.K = true) : FnC W 3 f_law_state :=
  h.fnC (N := N_law_state) (ps := ["_law_purse_here", "_law_many", "_law_far"]) (io := true) (np := 3) (mbody := b_law_state) 25 24 (x := "_law_state") (qual := "_law_state") (params := defArgs s_law_state) (body := defBody s_law_state) (scope := defScope s_law_state) rfl rfl sc_law_state rfl rfl (by decide) rfl c_law_state (fun _ _ _ _ _ _ us hl => by match us, hl with | [_, _, _], _ => kernel_rfl) (k_law_state h ht)
theorem sc_is_state : FnScope N_is_state ["names", "thing"] (defScope s_is_state) := ⟨rfl, rfl, rfl, by decide +kernel, rfl, by decide +kernel, by decide +kernel⟩
theorem c_is_state : chkSs b_is_state ⟨N_is_state, defScope s_is_state, fun _ => true⟩ false (defBody s_is_state) = true := by decide +kernel
theorem k_is_state (h : Hd W fns fas oks) (ht : tK W.K = true) : okSs W 1 b_is_state := by
  simp only [b_is_state, okSs, okS, okE, okEs, okO, biName, iterN, biOk, cmpM, binM, CmpC, List.forall_mem_cons, List.not_mem_nil, false_implies, implies_true, and_true, true_and, (o_is_whole h ht).up (k := 1) (by decide), (show GlC W "tuple" (.ty "tuple") from glC_ty h.kin h.ns (h.at_ 62 rfl) rfl (by decide)), m_ h, m_abs h, m_all h, m_any h, m_dict h, m_enumerate h, m_int h, m_isinstance h, m_len h, m_list h, m_max h, m_min h, m_range h, m_repr h, m_set h, m_sorted h, m_str h, m_sum h, m_tuple h, m_zip h, h.isi, cl_Lot h, cl_Step h]
theorem o_is_state (h : Hd W fns fas oks) (ht : tK W.K = true) : FnC W 2 f_is_state :=
  h.fnC (N := N_is_state) (ps := ["names", "thing"]) (io := false) (np := 2) (mbody := b_is_state) 26 25 (x := "is_state") (qual := "is_state") (params := defArgs s_is_state) (body := defBody s_is_state) (scope := defScope s_is_state) rfl rfl sc_is_state rfl rfl (by decide) rfl c_is_state (fun _ _ _ _ _ _ us hl => by match us, hl with | [_, _], _ => kernel_rfl) (k_is_state h ht)
theorem sc_check_state : FnScope N_check_state ["names", "state"] (defScope s_check_state) := ⟨rfl, rfl, rfl, by decide +kernel, rfl, by decide +kernel, by decide +kernel⟩
theorem c_check_state : chkSs b_check_state ⟨N_check_state, defScope s_check_state, fun _ => true⟩ false (defBody s_check_state) = true := by decide +kernel
theorem k_check_state (h : Hd W fns fas oks) (ht : tK W.K = true) : okSs W 2 b_check_state := by
  simp only [b_check_state, okSs, okS, okE, okEs, okO, biName, iterN, biOk, cmpM, binM, CmpC, List.forall_mem_cons, List.not_mem_nil, false_implies, implies_true, and_true, true_and, (o_is_state h ht).up (k := 2) (by decide), m_ h, m_abs h, m_all h, m_any h, m_dict h, m_enumerate h, m_int h, m_isinstance h, m_len h, m_list h, m_max h, m_min h, m_range h, m_repr h, m_set h, m_sorted h, m_str h, m_sum h, m_tuple h, m_zip h, h.isi, cl_Lot h, cl_Step h]
theorem o_check_state (h : Hd W fns fas oks) (ht : tK W.K = true) : FnC W 3 f_check_state :=
  h.fnC (N := N_check_state) (ps := ["names", "state"]) (io := false) (np := 2) (mbody := b_check_state) 27 26 (x := "check_state") (qual := "check_state") (params := defArgs s_check_state) (body := defBody s_check_state) (scope := defScope s_check_state) rfl rfl sc_check_state rfl rfl (by decide) rfl c_check_state (fun _ _ _ _ _ _ us hl => by match us, hl with | [_, _], _ => kernel_rfl) (k_check_state h ht)
theorem sc_has_state : FnScope N_has_state ["table", "state"] (defScope s_has_state) := ⟨rfl, rfl, rfl, by decide +kernel, rfl, by decide +kernel, by decide +kernel⟩
theorem c_has_state : chkSs b_has_state ⟨N_has_state, defScope s_has_state, fun _ => true⟩ false (defBody s_has_state) = true := by decide +kernel
theorem k_has_state (h : Hd W fns fas oks) (ht : tK W.K = true) : okSs W 0 b_has_state := by
  simp only [b_has_state, okSs, okS, okE, okEs, okO, biName, iterN, biOk, cmpM, binM, CmpC, List.forall_mem_cons, List.not_mem_nil, false_implies, implies_true, and_true, true_and, m_ h, m_abs h, m_all h, m_any h, m_dict h, m_enumerate h, m_int h, m_isinstance h, m_len h, m_list h, m_max h, m_min h, m_range h, m_repr h, m_set h, m_sorted h, m_str h, m_sum h, m_tuple h, m_zip h, h.isi, cl_Lot h, cl_Step h]
theorem o_has_state (h : Hd W fns fas oks) (ht : tK W.K = true) : FnC W 1 f_has_state :=
  h.fnC (N := N_has_state) (ps := ["table", "state"]) (io := false) (np := 2) (mbody := b_has_state) 28 27 (x := "has_state") (qual := "has_state") (params := defArgs s_has_state) (body := defBody s_has_state) (scope := defScope s_has_state) rfl rfl sc_has_state rfl rfl (by decide) rfl c_has_state (fun _ _ _ _ _ _ us hl => by match us, hl with | [_, _], _ => kernel_rfl) (k_has_state h ht)
theorem sc_Step_holds : FnScope N_Step_holds ["self", "before", "after"] (defScope s_Step_holds) := ⟨rfl, rfl, rfl, by decide +kernel, rfl, by decide +kernel, by decide +kernel⟩
theorem c_Step_holds : chkSs b_Step_holds ⟨N_Step_holds, defScope s_Step_holds, fun _ => true⟩ false (defBody s_Step_holds) = true := by decide +kernel
theorem k_Step_holds (h : Hd W fns fas oks) (ht : tK W.K = true) : okSs W 3 b_Step_holds := by
  simp only [b_Step_holds, okSs, okS, okE, okEs, okO, biName, iterN, biOk, cmpM, binM, CmpC, List.forall_mem_cons, List.not_mem_nil, false_implies, implies_true, and_true, true_and, (o_check_state h ht).up (k := 3) (by decide), (o_has_state h ht).up (k := 3) (by decide), m_ h, m_abs h, m_all h, m_any h, m_dict h, m_enumerate h, m_int h, m_isinstance h, m_len h, m_list h, m_max h, m_min h, m_range h, m_repr h, m_set h, m_sorted h, m_str h, m_sum h, m_tuple h, m_zip h, h.isi, cl_Lot h, cl_Step h, na_Lot_called h, na_Step_called h, na_Lot_table h, na_Step_table h]
theorem o_Step_holds (h : Hd W fns fas oks) (ht : tK W.K = true) : MtC W 4 "Step" "holds" f_Step_holds :=
  h.mtC (N := N_Step_holds) (ps := ["self", "before", "after"]) (io := false) (np := 3) (mbody := b_Step_holds) 29 43 45 (c := "Step") (m := "holds") (qual := "Step.holds") (params := defArgs s_Step_holds) (body := defBody s_Step_holds) (scope := defScope s_Step_holds) rfl rfl rfl sc_Step_holds rfl rfl (by decide) rfl c_Step_holds (fun _ _ _ _ _ _ us hl => by match us, hl with | [_, _, _], _ => kernel_rfl) (k_Step_holds h ht)
theorem u_Step_holds (h : Hd W fns fas oks) (ht : tK W.K = true) : MtwC W 4 "Step" "holds" f_Step_holds ["after", "before"] [1, 0] :=
  h.mtwC (kn := ["after", "before"]) (pm := [1, 0]) (N := N_Step_holds) (ps := ["self", "before", "after"]) (io := false) (np := 3) (mbody := b_Step_holds) 29 43 45 (c := "Step") (m := "holds") (qual := "Step.holds") (params := defArgs s_Step_holds) (body := defBody s_Step_holds) (scope := defScope s_Step_holds) rfl rfl rfl sc_Step_holds rfl rfl (by decide) rfl c_Step_holds (fun _ _ _ _ _ _ self ws ws2 l1 hp => by
    match ws, l1 with | [_, _], _ => cases hp; kernel_rfl) (k_Step_holds h ht)
theorem sc_law_near : FnScope N_law_near ["_law_purse_here", "_law_state_here"] (defScope s_law_near) := ⟨rfl, rfl, rfl, by decide +kernel, rfl, by decide +kernel, by decide +kernel⟩
theorem c_law_near : chkSs b_law_near ⟨N_law_near, defScope s_law_near, fun _ => true⟩ true (defBody s_law_near) = true := by decide +kernel
theorem k_law_near (h : Hd W fns fas oks) (ht : tK W.K = true) : okSs W 1 b_law_near := by
  simp only [b_law_near, okSs, okS, okE, okEs, okO, biName, iterN, biOk, cmpM, binM, CmpC, List.forall_mem_cons, List.not_mem_nil, false_implies, implies_true, and_true, true_and, (o_law_draw h ht).up (k := 1) (by decide), m_ h, m_abs h, m_all h, m_any h, m_dict h, m_enumerate h, m_int h, m_isinstance h, m_len h, m_list h, m_max h, m_min h, m_range h, m_repr h, m_set h, m_sorted h, m_str h, m_sum h, m_tuple h, m_zip h, h.isi, cl_Lot h, cl_Step h]
theorem o_law_near (h : Hd W fns fas oks) (ht : tK W.K = true) : FnC W 2 f_law_near :=
  h.fnC (N := N_law_near) (ps := ["_law_purse_here", "_law_state_here"]) (io := true) (np := 2) (mbody := b_law_near) 30 28 (x := "_law_near") (qual := "_law_near") (params := defArgs s_law_near) (body := defBody s_law_near) (scope := defScope s_law_near) rfl rfl sc_law_near rfl rfl (by decide) rfl c_law_near (fun _ _ _ _ _ _ us hl => by match us, hl with | [_, _], _ => kernel_rfl) (k_law_near h ht)
theorem sc_Lot_given : FnScope N_Lot_given ["self"] (defScope s_Lot_given) := ⟨rfl, rfl, rfl, by decide +kernel, rfl, by decide +kernel, by decide +kernel⟩
theorem c_Lot_given : chkSs b_Lot_given ⟨N_Lot_given, defScope s_Lot_given, fun _ => true⟩ false (defBody s_Lot_given) = true := by decide +kernel
theorem k_Lot_given (h : Hd W fns fas oks) (ht : tK W.K = true) : okSs W 0 b_Lot_given := by
  simp only [b_Lot_given, okSs, okS, okE, okEs, okO, biName, iterN, biOk, cmpM, binM, CmpC, List.forall_mem_cons, List.not_mem_nil, false_implies, implies_true, and_true, true_and, m_ h, m_abs h, m_all h, m_any h, m_dict h, m_enumerate h, m_int h, m_isinstance h, m_len h, m_list h, m_max h, m_min h, m_range h, m_repr h, m_set h, m_sorted h, m_str h, m_sum h, m_tuple h, m_zip h, h.isi, cl_Lot h, cl_Step h, na_Lot_made_of h, na_Step_made_of h]
theorem o_Lot_given (h : Hd W fns fas oks) (ht : tK W.K = true) : MtC W 1 "Lot" "given" f_Lot_given :=
  h.mtC (N := N_Lot_given) (ps := ["self"]) (io := false) (np := 1) (mbody := b_Lot_given) 31 34 36 (c := "Lot") (m := "given") (qual := "Lot.given") (params := defArgs s_Lot_given) (body := defBody s_Lot_given) (scope := defScope s_Lot_given) rfl rfl rfl sc_Lot_given rfl rfl (by decide) rfl c_Lot_given (fun _ _ _ _ _ _ us hl => by match us, hl with | [_], _ => kernel_rfl) (k_Lot_given h ht)
theorem sc_Step_given : FnScope N_Step_given ["self"] (defScope s_Step_given) := ⟨rfl, rfl, rfl, by decide +kernel, rfl, by decide +kernel, by decide +kernel⟩
theorem c_Step_given : chkSs b_Step_given ⟨N_Step_given, defScope s_Step_given, fun _ => true⟩ false (defBody s_Step_given) = true := by decide +kernel
theorem k_Step_given (h : Hd W fns fas oks) (ht : tK W.K = true) : okSs W 0 b_Step_given := by
  simp only [b_Step_given, okSs, okS, okE, okEs, okO, biName, iterN, biOk, cmpM, binM, CmpC, List.forall_mem_cons, List.not_mem_nil, false_implies, implies_true, and_true, true_and, m_ h, m_abs h, m_all h, m_any h, m_dict h, m_enumerate h, m_int h, m_isinstance h, m_len h, m_list h, m_max h, m_min h, m_range h, m_repr h, m_set h, m_sorted h, m_str h, m_sum h, m_tuple h, m_zip h, h.isi, cl_Lot h, cl_Step h, na_Lot_made_of h, na_Step_made_of h]
theorem o_Step_given (h : Hd W fns fas oks) (ht : tK W.K = true) : MtC W 1 "Step" "given" f_Step_given :=
  h.mtC (N := N_Step_given) (ps := ["self"]) (io := false) (np := 1) (mbody := b_Step_given) 32 43 46 (c := "Step") (m := "given") (qual := "Step.given") (params := defArgs s_Step_given) (body := defBody s_Step_given) (scope := defScope s_Step_given) rfl rfl rfl sc_Step_given rfl rfl (by decide) rfl c_Step_given (fun _ _ _ _ _ _ us hl => by match us, hl with | [_], _ => kernel_rfl) (k_Step_given h ht)
theorem sc_Lot_is_empty : FnScope N_Lot_is_empty ["self"] (defScope s_Lot_is_empty) := ⟨rfl, rfl, rfl, by decide +kernel, rfl, by decide +kernel, by decide +kernel⟩
theorem c_Lot_is_empty : chkSs b_Lot_is_empty ⟨N_Lot_is_empty, defScope s_Lot_is_empty, fun _ => true⟩ false (defBody s_Lot_is_empty) = true := by decide +kernel
theorem k_Lot_is_empty (h : Hd W fns fas oks) (ht : tK W.K = true) : okSs W 0 b_Lot_is_empty := by
  simp only [b_Lot_is_empty, okSs, okS, okE, okEs, okO, biName, iterN, biOk, cmpM, binM, CmpC, List.forall_mem_cons, List.not_mem_nil, false_implies, implies_true, and_true, true_and, m_ h, m_abs h, m_all h, m_any h, m_dict h, m_enumerate h, m_int h, m_isinstance h, m_len h, m_list h, m_max h, m_min h, m_range h, m_repr h, m_set h, m_sorted h, m_str h, m_sum h, m_tuple h, m_zip h, h.isi, cl_Lot h, cl_Step h, na_Lot_table h, na_Step_table h]
theorem o_Lot_is_empty (h : Hd W fns fas oks) (ht : tK W.K = true) : MtC W 1 "Lot" "is_empty" f_Lot_is_empty :=
  h.mtC (N := N_Lot_is_empty) (ps := ["self"]) (io := false) (np := 1) (mbody := b_Lot_is_empty) 33 34 37 (c := "Lot") (m := "is_empty") (qual := "Lot.is_empty") (params := defArgs s_Lot_is_empty) (body := defBody s_Lot_is_empty) (scope := defScope s_Lot_is_empty) rfl rfl rfl sc_Lot_is_empty rfl rfl (by decide) rfl c_Lot_is_empty (fun _ _ _ _ _ _ us hl => by match us, hl with | [_], _ => kernel_rfl) (k_Lot_is_empty h ht)
theorem sc_Step_is_empty : FnScope N_Step_is_empty ["self"] (defScope s_Step_is_empty) := ⟨rfl, rfl, rfl, by decide +kernel, rfl, by decide +kernel, by decide +kernel⟩
theorem c_Step_is_empty : chkSs b_Step_is_empty ⟨N_Step_is_empty, defScope s_Step_is_empty, fun _ => true⟩ false (defBody s_Step_is_empty) = true := by decide +kernel
theorem k_Step_is_empty (h : Hd W fns fas oks) (ht : tK W.K = true) : okSs W 0 b_Step_is_empty := by
  simp only [b_Step_is_empty, okSs, okS, okE, okEs, okO, biName, iterN, biOk, cmpM, binM, CmpC, List.forall_mem_cons, List.not_mem_nil, false_implies, implies_true, and_true, true_and, m_ h, m_abs h, m_all h, m_any h, m_dict h, m_enumerate h, m_int h, m_isinstance h, m_len h, m_list h, m_max h, m_min h, m_range h, m_repr h, m_set h, m_sorted h, m_str h, m_sum h, m_tuple h, m_zip h, h.isi, cl_Lot h, cl_Step h, na_Lot_table h, na_Step_table h]
theorem o_Step_is_empty (h : Hd W fns fas oks) (ht : tK W.K = true) : MtC W 1 "Step" "is_empty" f_Step_is_empty :=
  h.mtC (N := N_Step_is_empty) (ps := ["self"]) (io := false) (np := 1) (mbody := b_Step_is_empty) 34 43 47 (c := "Step") (m := "is_empty") (qual := "Step.is_empty") (params := defArgs s_Step_is_empty) (body := defBody s_Step_is_empty) (scope := defScope s_Step_is_empty) rfl rfl rfl sc_Step_is_empty rfl rfl (by decide) rfl c_Step_is_empty (fun _ _ _ _ _ _ us hl => by match us, hl with | [_], _ => kernel_rfl) (k_Step_is_empty h ht)
theorem sc_Lot_names : FnScope N_Lot_names ["self"] (defScope s_Lot_names) := ⟨rfl, rfl, rfl, by decide +kernel, rfl, by decide +kernel, by decide +kernel⟩
theorem c_Lot_names : chkSs b_Lot_names ⟨N_Lot_names, defScope s_Lot_names, fun _ => true⟩ false (defBody s_Lot_names) = true := by decide +kernel
theorem k_Lot_names (h : Hd W fns fas oks) (ht : tK W.K = true) : okSs W 0 b_Lot_names := by
  simp only [b_Lot_names, okSs, okS, okE, okEs, okO, biName, iterN, biOk, cmpM, binM, CmpC, List.forall_mem_cons, List.not_mem_nil, false_implies, implies_true, and_true, true_and, m_ h, m_abs h, m_all h, m_any h, m_dict h, m_enumerate h, m_int h, m_isinstance h, m_len h, m_list h, m_max h, m_min h, m_range h, m_repr h, m_set h, m_sorted h, m_str h, m_sum h, m_tuple h, m_zip h, h.isi, cl_Lot h, cl_Step h, na_Lot_called h, na_Step_called h]
theorem o_Lot_names (h : Hd W fns fas oks) (ht : tK W.K = true) : MtC W 1 "Lot" "names" f_Lot_names :=
  h.mtC (N := N_Lot_names) (ps := ["self"]) (io := false) (np := 1) (mbody := b_Lot_names) 35 34 38 (c := "Lot") (m := "names") (qual := "Lot.names") (params := defArgs s_Lot_names) (body := defBody s_Lot_names) (scope := defScope s_Lot_names) rfl rfl rfl sc_Lot_names rfl rfl (by decide) rfl c_Lot_names (fun _ _ _ _ _ _ us hl => by match us, hl with | [_], _ => kernel_rfl) (k_Lot_names h ht)
theorem sc_Step_names : FnScope N_Step_names ["self"] (defScope s_Step_names) := ⟨rfl, rfl, rfl, by decide +kernel, rfl, by decide +kernel, by decide +kernel⟩
theorem c_Step_names : chkSs b_Step_names ⟨N_Step_names, defScope s_Step_names, fun _ => true⟩ false (defBody s_Step_names) = true := by decide +kernel
theorem k_Step_names (h : Hd W fns fas oks) (ht : tK W.K = true) : okSs W 0 b_Step_names := by
  simp only [b_Step_names, okSs, okS, okE, okEs, okO, biName, iterN, biOk, cmpM, binM, CmpC, List.forall_mem_cons, List.not_mem_nil, false_implies, implies_true, and_true, true_and, m_ h, m_abs h, m_all h, m_any h, m_dict h, m_enumerate h, m_int h, m_isinstance h, m_len h, m_list h, m_max h, m_min h, m_range h, m_repr h, m_set h, m_sorted h, m_str h, m_sum h, m_tuple h, m_zip h, h.isi, cl_Lot h, cl_Step h, na_Lot_called h, na_Step_called h]
theorem o_Step_names (h : Hd W fns fas oks) (ht : tK W.K = true) : MtC W 1 "Step" "names" f_Step_names :=
  h.mtC (N := N_Step_names) (ps := ["self"]) (io := false) (np := 1) (mbody := b_Step_names) 36 43 48 (c := "Step") (m := "names") (qual := "Step.names") (params := defArgs s_Step_names) (body := defBody s_Step_names) (scope := defScope s_Step_names) rfl rfl rfl sc_Step_names rfl rfl (by decide) rfl c_Step_names (fun _ _ _ _ _ _ us hl => by match us, hl with | [_], _ => kernel_rfl) (k_Step_names h ht)
theorem sc_law_kept : FnScope N_law_kept ["_law_worth_here", "_law_told_here"] (defScope s_law_kept) := ⟨rfl, rfl, rfl, by decide +kernel, rfl, by decide +kernel, by decide +kernel⟩
theorem c_law_kept : chkSs b_law_kept ⟨N_law_kept, defScope s_law_kept, fun _ => true⟩ false (defBody s_law_kept) = true := by decide +kernel
theorem k_law_kept (h : Hd W fns fas oks) (ht : tK W.K = true) : okSs W 0 b_law_kept := by
  simp only [b_law_kept, okSs, okS, okE, okEs, okO, biName, iterN, biOk, cmpM, binM, CmpC, List.forall_mem_cons, List.not_mem_nil, false_implies, implies_true, and_true, true_and, m_ h, m_abs h, m_all h, m_any h, m_dict h, m_enumerate h, m_int h, m_isinstance h, m_len h, m_list h, m_max h, m_min h, m_range h, m_repr h, m_set h, m_sorted h, m_str h, m_sum h, m_tuple h, m_zip h, h.isi, cl_Lot h, cl_Step h]
theorem o_law_kept (h : Hd W fns fas oks) (ht : tK W.K = true) : FnC W 1 f_law_kept :=
  h.fnC (N := N_law_kept) (ps := ["_law_worth_here", "_law_told_here"]) (io := false) (np := 2) (mbody := b_law_kept) 37 29 (x := "_law_kept") (qual := "_law_kept") (params := defArgs s_law_kept) (body := defBody s_law_kept) (scope := defScope s_law_kept) rfl rfl sc_law_kept rfl rfl (by decide) rfl c_law_kept (fun _ _ _ _ _ _ us hl => by match us, hl with | [_, _], _ => kernel_rfl) (k_law_kept h ht)
theorem sc_law_right : FnScope N_law_right ["_law_purse_here"] (defScope s_law_right) := ⟨rfl, rfl, rfl, by decide +kernel, rfl, by decide +kernel, by decide +kernel⟩
theorem c_law_right : chkSs b_law_right ⟨N_law_right, defScope s_law_right, fun _ => true⟩ true (defBody s_law_right) = true := by decide +kernel
theorem k_law_right (h : Hd W fns fas oks) (ht : tK W.K = true) : okSs W 7 b_law_right := by
  simp only [b_law_right, okSs, okS, okE, okEs, okO, biName, iterN, biOk, cmpM, binM, CmpC, List.forall_mem_cons, List.not_mem_nil, false_implies, implies_true, and_true, true_and, (o_law_draw h ht).up (k := 7) (by decide), (o_law_kept h ht).up (k := 7) (by decide), (o_law_made h ht).up (k := 7) (by decide), (o_law_near h ht).up (k := 7) (by decide), (o_law_state h ht).up (k := 7) (by decide), (o_law_words h ht).up (k := 7) (by decide), (o_law_worth h ht).up (k := 7) (by decide), (show MkK W 7 "Step" f_Step_init from ⟨6, by decide, o_Step_init h ht⟩), (o_Lot_given h ht).up (k := 7) (by decide), (show MtC W 7 "Lot" f_Lot_given.name f_Lot_given from (o_Lot_given h ht).up (by decide)), (o_Lot_is_empty h ht).up (k := 7) (by decide), (show MtC W 7 "Lot" f_Lot_is_empty.name f_Lot_is_empty from (o_Lot_is_empty h ht).up (by decide)), (o_Lot_names h ht).up (k := 7) (by decide), (show MtC W 7 "Lot" f_Lot_names.name f_Lot_names from (o_Lot_names h ht).up (by decide)), (o_Step_given h ht).up (k := 7) (by decide), (show MtC W 7 "Step" f_Step_given.name f_Step_given from (o_Step_given h ht).up (by decide)), (o_Step_holds h ht).up (k := 7) (by decide), (show MtC W 7 "Step" f_Step_holds.name f_Step_holds from (o_Step_holds h ht).up (by decide)), (o_Step_is_empty h ht).up (k := 7) (by decide), (show MtC W 7 "Step" f_Step_is_empty.name f_Step_is_empty from (o_Step_is_empty h ht).up (by decide)), (o_Step_names h ht).up (k := 7) (by decide), (show MtC W 7 "Step" f_Step_names.name f_Step_names from (o_Step_names h ht).up (by decide)), (show MtwC W 7 "Step" f_Step_holds.name f_Step_holds ["after", "before"] [1, 0] from (u_Step_holds h ht).up (by decide)), (show ∃ j, j + 1 ≤ 7 ∧ MwC W j "Step" f_Step_init ["bounds", "names"] [1, 0] from ⟨6, by decide, w_Step_init h ht⟩), m_ h, m_abs h, m_all h, m_any h, m_dict h, m_enumerate h, m_int h, m_isinstance h, m_len h, m_list h, m_max h, m_min h, m_range h, m_repr h, m_set h, m_sorted h, m_str h, m_sum h, m_tuple h, m_zip h, h.isi, cl_Lot h, cl_Step h]
theorem o_law_right (h : Hd W fns fas oks) (ht : tK W.K = true) : FnC W 8 f_law_right :=
  h.fnC (N := N_law_right) (ps := ["_law_purse_here"]) (io := true) (np := 1) (mbody := b_law_right) 38 30 (x := "_law_right") (qual := "_law_right") (params := defArgs s_law_right) (body := defBody s_law_right) (scope := defScope s_law_right) rfl rfl sc_law_right rfl rfl (by decide) rfl c_law_right (fun _ _ _ _ _ _ us hl => by match us, hl with | [_], _ => kernel_rfl) (k_law_right h ht)
theorem sc_law_purse : FnScope N_law_purse ["_law_script", "_law_at"] (defScope s_law_purse) := ⟨rfl, rfl, rfl, by decide +kernel, rfl, by decide +kernel, by decide +kernel⟩
theorem c_law_purse : chkSs b_law_purse ⟨N_law_purse, defScope s_law_purse, fun _ => true⟩ false (defBody s_law_purse) = true := by decide +kernel
theorem k_law_purse (h : Hd W fns fas oks) (ht : tK W.K = true) : okSs W 0 b_law_purse := by
  simp only [b_law_purse, okSs, okS, okE, okEs, okO, biName, iterN, biOk, cmpM, binM, CmpC, List.forall_mem_cons, List.not_mem_nil, false_implies, implies_true, and_true, true_and, m_ h, m_abs h, m_all h, m_any h, m_dict h, m_enumerate h, m_int h, m_isinstance h, m_len h, m_list h, m_max h, m_min h, m_range h, m_repr h, m_set h, m_sorted h, m_str h, m_sum h, m_tuple h, m_zip h, h.isi, cl_Lot h, cl_Step h]
theorem o_law_purse (h : Hd W fns fas oks) (ht : tK W.K = true) : FnC W 1 f_law_purse :=
  h.fnC (N := N_law_purse) (ps := ["_law_script", "_law_at"]) (io := false) (np := 2) (mbody := b_law_purse) 39 31 (x := "_law_purse") (qual := "_law_purse") (params := defArgs s_law_purse) (body := defBody s_law_purse) (scope := defScope s_law_purse) rfl rfl sc_law_purse rfl rfl (by decide) rfl c_law_purse (fun _ _ _ _ _ _ us hl => by match us, hl with | [_, _], _ => kernel_rfl) (k_law_purse h ht)
theorem sc_law : FnScope N_law ["_law_script"] (defScope s_law) := ⟨rfl, rfl, rfl, by decide +kernel, rfl, by decide +kernel, by decide +kernel⟩
theorem c_law : chkSs b_law ⟨N_law, defScope s_law, fun _ => true⟩ false (defBody s_law) = true := by decide +kernel
theorem k_law (h : Hd W fns fas oks) (ht : tK W.K = true) : okSs W 8 b_law := by
  simp only [b_law, okSs, okS, okE, okEs, okO, biName, iterN, biOk, cmpM, binM, CmpC, List.forall_mem_cons, List.not_mem_nil, false_implies, implies_true, and_true, true_and, (o_law_purse h ht).up (k := 8) (by decide), (o_law_right h ht).up (k := 8) (by decide), m_ h, m_abs h, m_all h, m_any h, m_dict h, m_enumerate h, m_int h, m_isinstance h, m_len h, m_list h, m_max h, m_min h, m_range h, m_repr h, m_set h, m_sorted h, m_str h, m_sum h, m_tuple h, m_zip h, h.isi, cl_Lot h, cl_Step h]
theorem o_law (h : Hd W fns fas oks) (ht : tK W.K = true) : FnC W 9 f_law :=
  h.fnC (N := N_law) (ps := ["_law_script"]) (io := false) (np := 1) (mbody := b_law) 40 32 (x := "law") (qual := "law") (params := defArgs s_law) (body := defBody s_law) (scope := defScope s_law) rfl rfl sc_law rfl rfl (by decide) rfl c_law (fun _ _ _ _ _ _ us hl => by match us, hl with | [_], _ => kernel_rfl) (k_law h ht)
end
end Mi.Law

set_option Elab.async false
set_option linter.all false
set_option maxRecDepth 100000
set_option maxHeartbeats 0
namespace Mi.Law
open PySem PySem.Spec PyProof.Rows L2
def pK (K : PySem.W.Frag) : Bool := noLists K && ((fas.all fun f => f.ok K) && (isiB K oks && tK K))
abbrev RowL : PySem.W.OpenRow := PySem.W.OpenLaw.row PySem.Challenge.rw_boundrounds_k10_steps_told
abbrev hk : PySem.W.Hook := hookM 5 pK fns
def ob (s : PySem.W.SharedT) : He.AlD := obsMG 5 pK fns (HandSHeadRun.getT s)
theorem ob_eq (s : PySem.W.SharedT) : ob s = hk.obs s.abs := obsMG_eq (HandSHeadRun.getT_eq s)
def loose : List PySem.Str := (["_wall", "BoundError", "NoNames", "NoMatch", "NoState", "NoName", "NoBound", "added", "less", "tightest", "shortened", "closed", "table_of", "met", "taken", "laid", "ahead_of", "behind_of", "put_behind", "turned", "with_lot", "lot_behind", "state_of", "has_state", "is_whole", "is_word", "are_names", "ends_of", "lot_ends", "is_end"] : List PySem.Str) ++ (["is_bound", "is_state", "check_called", "check_bounds", "check_state", "check_match", "rows_of", "bounds_of", "Lot", "lot_of", "Step", "step_of", "_law_purse", "_law_draw", "_law_great", "_law_words", "_law_tips", "_law_worth", "_law_kept", "_law_told", "_law_ring", "_law_mingled", "_law_state", "_law_near", "_law_made", "_law_right", "LETTERS", "MOST_LETTERS", "MOST_NAMES", "MOST_BOUNDS"] : List PySem.Str) ++ (["EMPTY_BOUND"] : List PySem.Str)
theorem run (w : World) : HandSHeadRun.RunEq RowL (PySem.W.view RowL.prog [67]) hk ob 6000 loose w := by
  intro os
  kernel_rfl
theorem facts {K : PySem.W.Frag} {P : Program} {w : World} {mg : Str → Option Value} {fa : Addr} {h : Heap} (KX : K.In h) (G : h.Ns mainGlobals mg) (c : obsM pK fns K = He.valD fns) (hmg : mg "law" = some (.ref fa)) :
    ∃ (K : PySem.W.Frag) (ca : Str → Addr) (fd : FuncData), K.In h ∧ noLists K = true ∧ (∀ (s : Shared) (u : Value), BindsTo s fd ⟨[u], []⟩ [("_law_script", u)]) ∧
        ∀ base : Heap, K.In base → base.Ns mainGlobals mg → FnG P w K mg base 9 fa fd ["_law_script"] (spOf K ca f_law) := by
  have hp : (noLists K && ((fas.all fun f => f.ok K) && (isiB K oks && tK K))) = true := says_p c
  simp only [Bool.and_eq_true] at hp
  obtain ⟨p1, p2, p3, p4⟩ := hp
  have ht : tK K = true := p4
  have H : ∀ base : Heap, K.In base → base.Ns mainGlobals mg → Hd ⟨P, w, K, mg, base, He.ga K⟩ fns fas oks := fun base hb hn =>
    ⟨rfl, hb, hn, fun f hf => List.all_eq_true.mp p2 f hf, isiB_ok p3, fun i d hi => says_def c i hi⟩
  obtain ⟨fd, FD⟩ := says_def c 40 (d := d_law) rfl
  have FD : FunD K "law" "law" (defArgs s_law) (defBody s_law) (defScope s_law) [] [] (He.ga K "law") fd := FD
  have efa : fa = He.ga K "law" := by
    have e := He.glo_ok KX G (List.all_eq_true.mp p2 (.glo "law") (by simp [fas]))
    rw [hmg] at e
    cases e
    rfl
  refine ⟨K, He.ga K, fd, KX, p1, fun s u => FD.bindsA (ps := ["_law_script"]) (fun _ _ _ _ _ _ us hl => by match us, hl with | [_], _ => kernel_rfl) s [u] rfl, fun base hb hn => ?_⟩
  rw [efa]
  exact fnG_def (W := ⟨P, w, K, mg, base, He.ga K⟩) FD sc_law rfl rfl (by decide) rfl (k_law (H base hb hn) ht) c_law
end Mi.Law
open PySem PySem.W PySem.Calls PyProof.Rows
theorem law_from (hL : Mi.LawOk Mi.Law.f_law 63) : PySem.Challenge.rw_boundrounds_k10_steps_told.Holds := by
  w_on; o_law
  refine HandSHeadRun.head_any (r := OpenLaw.row PySem.Challenge.rw_boundrounds_k10_steps_told) (q := view (OpenLaw.row PySem.Challenge.rw_boundrounds_k10_steps_told).prog [67]) (H := Mi.Law.hk) (ob := Mi.Law.ob) (M := 6000) (loose := Mi.Law.loose) (d := HandSHeadRun.topDef (OpenLaw.row PySem.Challenge.rw_boundrounds_k10_steps_told).prog 67) (kwd := []) Mi.Law.ob_eq
    (by kernel_rfl) (fun s => by kernel_rfl) Mi.Law.run (by kernel_rfl) (by kernel_rfl) (by kernel_rfl) (by rfl) (by first | assumption | decide +kernel) (by decide +kernel) ⟨rfl, rfl, rfl, rfl, rfl, by decide +kernel⟩ ?hw ?hc
  case hw => w_witness2
  case hc =>
    refine Mi.walk_ofG (l := PySem.Challenge.rw_boundrounds_k10_steps_told) (n := 63) (k := 9) (x := "_law_script") (f := Mi.Law.f_law) rfl (by decide) (by kernel_rfl) ⟨rfl, by decide, by decide⟩ hL ?F
    intro w mg fa h Y G hmg0
    obtain ⟨K, KX, c⟩ := Y
    have hmg : mg ("law" : PySem.Str) = some (.ref fa) := by
      have e : (HandSHeadRun.topDef (OpenLaw.row PySem.Challenge.rw_boundrounds_k10_steps_told).prog 67).name = ("law" : PySem.Str) := by kernel_rfl
      rw [← e]
      exact hmg0
    exact Mi.Law.facts KX G c hmg


set_option Elab.async false
set_option linter.all false
set_option maxRecDepth 100000
/-! W1: what a run of the evaluator keeps: weakest preconditions, by equations for simp. -/
namespace Mi
open PySem L2
section
variable {α β : Type}
def R.vsat (r : R α) (Q : α → Sl → Prop) (X : Xc → Sl → Prop) : Prop := match r with
  | .ok a ρ => Q a ρ
  | .exc x ρ => X x ρ
  | .bad => False
def FR.vsat (r : FR) (Q : T → T → Prop) (X : Xc → T → Prop) : Prop := match r with
  | .ret t o => Q t o
  | .exc x o => X x o
  | .bad => False
def opSV (o : Option α) (K : α → Prop) : Prop := match o with
  | some a => K a
  | none => False
theorem opS_someV (a : α) (K : α → Prop) : opSV (some a) K = K a := id rfl
theorem opS_noneV (K : α → Prop) : opSV (none : Option α) K = False := id rfl
theorem opS_mapV (o : Option α) (f : α → β) (K : β → Prop) : opSV (o.map f) K = opSV o (fun a => K (f a)) := by cases o <;> simp [opSV]
theorem opS_monoV {o : Option α} {K K' : α → Prop} (h : opSV o K) (g : ∀ a, K a → K' a) : opSV o K' := by
  cases o with
  | none => exact h
  | some a => exact g a h
def GqV (b : Bool) (K : Prop) : Prop := b = true ∧ K
theorem Gd_trueV (K : Prop) : GqV true K = K := by simp [GqV]
theorem Gd_introV {b : Bool} {K : Prop} (h : b = true) (k : K) : GqV b K := ⟨h, k⟩
def BrV (b : Bool) (K1 K2 : Prop) : Prop := match b with
  | true => K1
  | false => K2
theorem Br_trueV (K1 K2 : Prop) : BrV true K1 K2 = K1 := id rfl
theorem Br_falseV (K1 K2 : Prop) : BrV false K1 K2 = K2 := id rfl
theorem Br_introV {b : Bool} {K1 K2 : Prop} (h1 : b = true → K1) (h2 : b = false → K2) : BrV b K1 K2 := by
  cases b
  · exact h2 rfl
  · exact h1 rfl
theorem Br_decV {p : Prop} [Decidable p] {K1 K2 : Prop} (h1 : p → K1) (h2 : ¬p → K2) : BrV (decide p) K1 K2 :=
  Br_introV (fun h => h1 (of_decide_eq_true h)) (fun h => h2 (of_decide_eq_false h))
theorem Br_sameV {b : Bool} {K : Prop} (h : K) : BrV b K K := by cases b <;> exact h
/-- a slot's content -/
def slotKV (ρ : Sl) (i : Nat) (K : T → Prop) : Prop := match ρ[i]? with
  | some (some t) => K t
  | _ => False
theorem slotK_zeroV (t : T) (ρ : Sl) (K : T → Prop) : slotKV (some t :: ρ) 0 K = K t := id rfl
theorem slotK_succV (o : Option T) (ρ : Sl) (i : Nat) (K : T → Prop) : slotKV (o :: ρ) (i + 1) K = slotKV ρ i K := id rfl
def setKV (ρ : Sl) (i : Nat) (v : Option T) (K : Sl → Prop) : Prop := K (ρ.set i v)
theorem setK_nilV (i : Nat) (v : Option T) (K : Sl → Prop) : setKV [] i v K = K [] := id rfl
theorem setK_zeroV (o : Option T) (ρ : Sl) (v : Option T) (K : Sl → Prop) : setKV (o :: ρ) 0 v K = K (v :: ρ) := id rfl
theorem setK_succV (o : Option T) (ρ : Sl) (i : Nat) (v : Option T) (K : Sl → Prop) : setKV (o :: ρ) (i + 1) v K = setKV ρ i v (fun r => K (o :: r)) := id rfl
/-- an operand's data -/
def drKV (o : Opd) (ρ : Sl) (K : D → Prop) : Prop := opSV (drf o ρ) K
theorem drK_tmpV (t : T) (ρ : Sl) (K : D → Prop) : drKV (.tmp t) ρ K = K t.d := id rfl
theorem drK_slotV (i : Nat) (ρ : Sl) (K : D → Prop) : drKV (.slot i) ρ K = slotKV ρ i (fun t => K t.d) := by
  simp only [drKV, drf, slotKV]
  rcases ρ[i]? with _ | _ | t <;> rfl
def drKsV : List Opd → Sl → (List D → Prop) → Prop
  | [], _, K => K []
  | o :: os, ρ, K => drKV o ρ (fun d => drKsV os ρ (fun ds => K (d :: ds)))
theorem drKs_nilV (ρ : Sl) (K : List D → Prop) : drKsV [] ρ K = K [] := id rfl
theorem drKs_consV (o : Opd) (os : List Opd) (ρ : Sl) (K : List D → Prop) : drKsV (o :: os) ρ K = drKV o ρ (fun d => drKsV os ρ (fun ds => K (d :: ds))) := id rfl
theorem drKs_eqV : ∀ (os : List Opd) (ρ : Sl) (K : List D → Prop), opSV (drfs os ρ) K = drKsV os ρ K
  | [], ρ, K => rfl
  | o :: os, ρ, K => by
    simp only [drfs, drKsV, drKV]
    rcases drf o ρ with _ | a
    · simp [opSV]
    · simp only [opS_someV]
      rw [← drKs_eqV os ρ (fun ds => K (a :: ds))]
      rcases drfs os ρ with _ | b <;> simp [opSV]
def asBV (d : D) (K : Bool → Prop) : Prop := match d with
  | .bl b => K b
  | _ => False
theorem asB_blV (b : Bool) (K : Bool → Prop) : asBV (.bl b) K = K b := id rfl
def asIV (d : D) (K : Int → Prop) : Prop := match d with
  | .int b => K b
  | _ => False
theorem asI_intV (b : Int) (K : Int → Prop) : asIV (.int b) K = K b := id rfl

theorem sat_bindV (r : R α) (f : α → Sl → R β) (Q : β → Sl → Prop) (X : Xc → Sl → Prop) : (r.bind f).vsat Q X = r.vsat (fun a ρ => (f a ρ).vsat Q X) X := by
  cases r <;> rfl
theorem sat_optV (o : Option α) (ρ : Sl) (Q : α → Sl → Prop) (X : Xc → Sl → Prop) : (R.opt o ρ).vsat Q X = opSV o (fun a => Q a ρ) := by
  cases o <;> rfl
theorem sat_okV (a : α) (ρ : Sl) (Q : α → Sl → Prop) (X : Xc → Sl → Prop) : (R.ok a ρ).vsat Q X = Q a ρ := id rfl
theorem sat_badV (Q : α → Sl → Prop) (X : Xc → Sl → Prop) : (R.bad : R α).vsat Q X = False := id rfl
theorem sat_excV (x : Xc) (ρ : Sl) (Q : α → Sl → Prop) (X : Xc → Sl → Prop) : (R.exc x ρ : R α).vsat Q X = X x ρ := id rfl
theorem sat_monoV {r : R α} {Q Q' : α → Sl → Prop} {X X' : Xc → Sl → Prop} (h : r.vsat Q X) (g : ∀ a ρ, Q a ρ → Q' a ρ) (g2 : ∀ x ρ, X x ρ → X' x ρ) : r.vsat Q' X' := by
  cases r with
  | ok a ρ => exact g a ρ h
  | exc x ρ => exact g2 x ρ h
  | bad => exact h
theorem FR.sat_monoV {r : FR} {Q Q' : T → T → Prop} {X X' : Xc → T → Prop} (h : r.vsat Q X) (g : ∀ a ρ, Q a ρ → Q' a ρ) (g2 : ∀ x ρ, X x ρ → X' x ρ) : r.vsat Q' X' := by
  cases r with
  | ret a ρ => exact g a ρ h
  | exc x ρ => exact g2 x ρ h
  | bad => exact h
abbrev NX : Xc → T → Prop := fun _ _ => False
abbrev NXS : Xc → Sl → Prop := fun _ _ => False
theorem FR.useV {r : FR} {Q Q' : T → T → Prop} {X' : Xc → T → Prop} (h : r.vsat Q NX) (g : ∀ a ρ, Q a ρ → Q' a ρ) : r.vsat Q' X' := FR.sat_monoV h g (fun _ _ h => h.elim)
theorem FR.sat_retV {f : FR} {t o : T} (h : f = .ret t o) (Q : T → T → Prop) (X : Xc → T → Prop) (q : Q t o) : f.vsat Q X := by
  subst h
  exact q
theorem FR.exV {f : FR} {Q : T → T → Prop} (h : f.vsat Q NX) : ∃ t o, f = .ret t o ∧ Q t o := by
  cases f with
  | ret t o => exact ⟨t, o, rfl, h⟩
  | exc x o => exact h.elim
  | bad => exact h.elim
end

/-! ### expressions -/
section
variable (Q : T → Sl → Prop) (X : Xc → Sl → Prop) (ρ : Sl)
/-- reading a variable as a value shares it -/
def shareKV (ow : Bool) (ρ : Sl) (i : Nat) (d : D) (K : Sl → Prop) : Prop := K (if ow then ρ.set i (some (sh d)) else ρ)
theorem shareK_trueV (ρ : Sl) (i : Nat) (d : D) (K : Sl → Prop) : shareKV true ρ i d K = setKV ρ i (some (sh d)) K := id rfl
theorem shareK_falseV (ρ : Sl) (i : Nat) (d : D) (K : Sl → Prop) : shareKV false ρ i d K = K ρ := id rfl
theorem s_varV (i : Nat) : (ev (.var i) ρ).vsat Q X = slotKV ρ i (fun t => shareKV t.ow ρ i t.d (fun ρ1 => Q (sh t.d) ρ1)) := by
  simp only [ev, slotKV, shareKV]
  rcases ρ[i]? with _ | _ | t <;> rfl
theorem s_litV (d : D) : (ev (.lit d) ρ).vsat Q X = Q (sh d) ρ := by simp only [ev, sat_okV]
theorem s_globV (x : Str) (d : D) : (ev (.glob x d) ρ).vsat Q X = Q (sh d) ρ := by simp only [ev, sat_okV]
def satOV (e : ME) (ρ : Sl) (Q : Opd → Sl → Prop) (X : Xc → Sl → Prop) : Prop := (opd e (ev e) ρ).vsat Q X
def owKV (ow : Bool) (i : Nat) (t : T) (K : Opd → Prop) : Prop := K (if ow then .slot i else .tmp t)
theorem owK_trueV (i : Nat) (t : T) (K : Opd → Prop) : owKV true i t K = K (.slot i) := id rfl
theorem owK_falseV (i : Nat) (t : T) (K : Opd → Prop) : owKV false i t K = K (.tmp t) := id rfl
def isVar : ME → Bool
  | .var _ => true
  | _ => false
theorem so_varV (i : Nat) (Q : Opd → Sl → Prop) : satOV (.var i) ρ Q X = slotKV ρ i (fun t => owKV t.ow i t (fun o => Q o ρ)) := by
  simp only [satOV, opd, slotKV, owKV]
  rcases ρ[i]? with _ | _ | ⟨o, d⟩
  · rfl
  · rfl
  · cases o <;> rfl
theorem so_eV (e : ME) (Q : Opd → Sl → Prop) (h : isVar e = false) : satOV e ρ Q X = (ev e ρ).vsat (fun t ρ1 => Q (.tmp t) ρ1) X := by
  cases e <;> first | (cases h; done) | (simp only [satOV, opd]; rw [sat_bindV]; rfl)
theorem s_binV (op : Operator) (cs : List (Str × FS)) (a b : ME) : (ev (.bin op cs a b) ρ).vsat Q X = satOV a ρ (fun x ρ1 => satOV b ρ1 (fun y ρ2 => (opBin op cs x y ρ2).vsat Q X) X) X := by
  simp only [ev, sat_bindV, satOV]
theorem s_negV (a : ME) : (ev (.neg a) ρ).vsat Q X = (ev a ρ).vsat (fun t ρ1 => asIV t.d (fun i => Q (sh (.int (-i))) ρ1)) X := by
  simp only [ev, sat_bindV]
  congr 1
  funext t ρ1
  rcases t with ⟨o, d⟩
  cases d <;> rfl
theorem s_cmpV (op : CmpOp) (cs : List (Str × FS)) (a b : ME) : (ev (.cmp op cs a b) ρ).vsat Q X = satOV a ρ (fun x ρ1 => satOV b ρ1 (fun y ρ2 => (opCmp op cs x y ρ2).vsat Q X) X) X := by
  simp only [ev, sat_bindV, satOV]
def brTV (t : T) (K1 K2 : Prop) : Prop := asBV t.d (fun b => BrV b K1 K2)
theorem brT_blV (o : Bool) (b : Bool) (K1 K2 : Prop) : brTV ⟨o, .bl b⟩ K1 K2 = BrV b K1 K2 := id rfl
theorem downV {α : Type} {r : R α} {f g : α → Sl → Prop} {X : Xc → Sl → Prop} (h : ∀ a ρ, f a ρ = g a ρ) : r.vsat f X = r.vsat g X := by
  have e : f = g := by
    funext a ρ
    exact h a ρ
  rw [e]
theorem Br_blV (o b : Bool) {α : Type} {r1 r2 : R α} {K1 K2 : Prop} {Q : α → Sl → Prop} {X : Xc → Sl → Prop} (h1 : r1.vsat Q X = K1) (h2 : r2.vsat Q X = K2) : (match b with | true => r1 | false => r2).vsat Q X = brTV ⟨o, .bl b⟩ K1 K2 := by
  cases b
  · exact h2
  · exact h1
theorem s_cmp2V (op1 op2 : CmpOp) (a b c : ME) : (ev (.cmp2 op1 op2 a b c) ρ).vsat Q X = satOV a ρ (fun x ρ1 => satOV b ρ1 (fun y ρ2 => (opCmp op1 [] x y ρ2).vsat (fun r ρ3 => brTV r (satOV c ρ3 (fun z ρ4 => (opCmp op2 [] y z ρ4).vsat Q X) X) (Q (sh (.bl false)) ρ3)) X) X) X := by
  simp only [ev, sat_bindV, satOV]
  refine downV fun x ρ1 => downV fun y ρ2 => downV fun r ρ3 => ?_
  rcases r with ⟨o, d⟩
  cases d <;> try rfl
  rename_i k
  cases k
  · rfl
  · exact sat_bindV _ _ _ _
theorem asB_downV (t : T) (ρ : Sl) (f : Bool → T) (Q : T → Sl → Prop) (X : Xc → Sl → Prop) : (R.opt ((truth t).map f) ρ).vsat Q X = asBV t.d (fun k => Q (f k) ρ) := by
  rcases t with ⟨o, d⟩
  cases d <;> rfl
theorem s_andV (a b : ME) : (ev (.and_ a b) ρ).vsat Q X = (ev a ρ).vsat (fun x ρ1 => brTV x ((ev b ρ1).vsat (fun y ρ2 => asBV y.d (fun k => Q (sh (.bl k)) ρ2)) X) (Q (sh (.bl false)) ρ1)) X := by
  simp only [ev, sat_bindV]
  refine downV fun r ρ1 => ?_
  rcases r with ⟨o, d⟩
  cases d <;> try rfl
  rename_i k
  cases k
  · rfl
  · refine Eq.trans (sat_bindV _ _ _ _) (downV fun y ρ2 => asB_downV _ _ _ _ _)
theorem s_orV (a b : ME) : (ev (.or_ a b) ρ).vsat Q X = (ev a ρ).vsat (fun x ρ1 => brTV x (Q (sh (.bl true)) ρ1) ((ev b ρ1).vsat (fun y ρ2 => asBV y.d (fun k => Q (sh (.bl k)) ρ2)) X)) X := by
  simp only [ev, sat_bindV]
  refine downV fun r ρ1 => ?_
  rcases r with ⟨o, d⟩
  cases d <;> try rfl
  rename_i k
  cases k
  · refine Eq.trans (sat_bindV _ _ _ _) (downV fun y ρ2 => asB_downV _ _ _ _ _)
  · rfl
theorem s_notV (a : ME) : (ev (.not_ a) ρ).vsat Q X = (ev a ρ).vsat (fun y ρ2 => asBV y.d (fun k => Q (sh (.bl (!k))) ρ2)) X := by
  simp only [ev, sat_bindV]
  exact downV fun y ρ2 => asB_downV _ _ _ _ _
theorem s_iteV (c a b : ME) : (ev (.ite c a b) ρ).vsat Q X = (ev c ρ).vsat (fun x ρ1 => brTV x ((ev a ρ1).vsat Q X) ((ev b ρ1).vsat Q X)) X := by
  simp only [ev, sat_bindV]
  refine downV fun r ρ1 => ?_
  rcases r with ⟨o, d⟩
  cases d <;> try rfl
  rename_i k
  cases k <;> rfl
theorem sat_ifV {α : Type} (b : Bool) (r1 r2 : R α) (Q : α → Sl → Prop) (X : Xc → Sl → Prop) : (if b = true then r1 else r2).vsat Q X = BrV b (r1.vsat Q X) (r2.vsat Q X) := by cases b <;> rfl
theorem sat_gdV {α : Type} (b : Bool) (r1 : R α) (Q : α → Sl → Prop) (X : Xc → Sl → Prop) : (if b = true then r1 else .bad).vsat Q X = GqV b (r1.vsat Q X) := by cases b <;> simp [GqV, R.vsat]
theorem s_tupV (es : List ME) : (ev (.tup es) ρ).vsat Q X = (evs es ρ).vsat (fun ds ρ1 => GqV (szOk ds.length) (Q (sh (.tup ds)) ρ1)) X := by
  simp only [ev, sat_bindV, sat_gdV, sat_okV]
theorem s_lstV (es : List ME) : (ev (.lst es) ρ).vsat Q X = (evs es ρ).vsat (fun ds ρ1 => GqV (szOk ds.length) (Q (own (.lst ds)) ρ1)) X := by
  simp only [ev, sat_bindV, sat_gdV, sat_okV]
theorem s_dctV (t : Bool) (es : List ME) : (ev (.dct t es) ρ).vsat Q X = (evs es ρ).vsat (fun ds ρ1 => opSV (evKeys t ds) (fun d => Q (own d) ρ1)) X := by
  simp only [ev, sat_bindV, sat_optV, opS_mapV]
theorem s_subV (a b : ME) : (ev (.sub a b) ρ).vsat Q X = satOV a ρ (fun x ρ1 => satOV b ρ1 (fun y ρ2 => drKV x ρ2 (fun d => drKV y ρ2 (fun k => opSV (ixD d k) (fun v => Q (sh v) ρ2)))) X) X := by
  simp only [ev, sat_bindV, satOV]
  refine downV fun x ρ1 => downV fun y ρ2 => ?_
  simp only [drKV]
  rcases drf x ρ2 with _ | d
  · rfl
  · rcases drf y ρ2 with _ | k
    · rfl
    · simp only [opS_someV, sat_optV, opS_mapV]
def satIV (o : Option ME) (ρ : Sl) (Q : Option Int → Sl → Prop) (X : Xc → Sl → Prop) : Prop := (evI o ρ).vsat Q X
theorem si_noneV (Q : Option Int → Sl → Prop) : satIV none ρ Q X = Q none ρ := by simp only [satIV, evI, sat_okV]
theorem si_someV (e : ME) (Q : Option Int → Sl → Prop) : satIV (some e) ρ Q X = (ev e ρ).vsat (fun t ρ1 => asIV t.d (fun i => Q (some i) ρ1)) X := by
  simp only [satIV, evI, sat_bindV]
  congr 1
  funext t ρ1
  rcases t with ⟨o, d⟩
  cases d <;> rfl
theorem s_sliceV (a : ME) (lo hi : Option ME) : (ev (.slice a lo hi) ρ).vsat Q X = satOV a ρ (fun x ρ1 => satIV lo ρ1 (fun l ρ2 => satIV hi ρ2 (fun h ρ3 => drKV x ρ3 (fun d => opSV (sliceD d l h) (fun t => Q t ρ3))) X) X) X := by
  simp only [ev, sat_bindV, satOV, satIV]
  refine downV fun x ρ1 => downV fun l ρ2 => downV fun h ρ3 => ?_
  simp only [drKV]
  rcases drf x ρ3 with _ | d
  · rfl
  · simp only [opS_someV, sat_optV]
theorem s_slice3V (a : ME) (lo hi st : Option ME) : (ev (.slice3 a lo hi st) ρ).vsat Q X = satOV a ρ (fun x ρ1 => satIV lo ρ1 (fun l ρ2 => satIV hi ρ2 (fun h ρ3 => satIV st ρ3 (fun z ρ4 => drKV x ρ4 (fun d => opSV (sliceD3 d l h z) (fun t => Q t ρ4))) X) X) X) X := by
  simp only [ev, sat_bindV, satOV, satIV]
  refine downV fun x ρ1 => downV fun l ρ2 => downV fun h ρ3 => downV fun z ρ4 => ?_
  simp only [drKV]
  rcases drf x ρ4 with _ | d
  · rfl
  · simp only [opS_someV, sat_optV]
def fldKV (f : Str) (d : D) (cs : List Str) (K : D → Prop) : Prop := match d with
  | .obj c fs => GqV (cs.contains c) (opSV (fs.lookup f) K)
  | _ => False
theorem fldK_objV (f c : Str) (fs : List (Str × D)) (cs : List Str) (K : D → Prop) : fldKV f (.obj c fs) cs K = GqV (cs.contains c) (opSV (fs.lookup f) K) := id rfl
theorem s_fldV (a : ME) (f : Str) (cs : List Str) : (ev (.fld a f cs) ρ).vsat Q X = satOV a ρ (fun x ρ1 => drKV x ρ1 (fun d => fldKV f d cs (fun v => Q (sh v) ρ1))) X := by
  simp only [ev, sat_bindV, satOV]
  congr 1
  funext x ρ1
  simp only [opFld, drKV]
  rcases drf x ρ1 with _ | d
  · rfl
  · cases d <;> try rfl
    simp only [opS_someV, fldKV, sat_gdV, sat_optV, opS_mapV]
/-- a call -/
def callKV (f : FS) (ts : List T) (Q : T → T → Prop) (X : Xc → T → Prop) : Prop := opSV (fillT f ts) (fun ts => (f.sem ts).vsat Q X)
theorem callK_exactV (f : FS) (ts : List T) (Q : T → T → Prop) (X : Xc → T → Prop) (h : ts.length = f.np) : callKV f ts Q X = (f.sem ts).vsat Q X := by
  simp [callKV, fillT, h, opS_someV]
theorem s_callFV (f : FS) (ts : List T) : (callF f ts ρ).vsat Q X = GqV (!f.io) (callKV f ts (fun t _ => Q t ρ) (fun x _ => X x ρ)) := by
  simp only [callF, callKV]
  cases f.io
  · simp only [GqV, Bool.not_false, true_and]
    rcases fillT f ts with _ | ts
    · rfl
    · simp only [opS_someV]
      cases f.sem ts <;> rfl
  · simp [GqV, R.vsat]
theorem s_callIO_slotV (f : FS) (i : Nat) (ts : List T) : (callIO f (.slot i) ts ρ).vsat Q X = GqV (f.io && ts.length + 1 == f.np) (slotKV ρ i (fun t => (f.sem (t :: ts)).vsat (fun r out => setKV ρ i (some out) (fun ρ1 => Q r ρ1)) (fun x out => X x (ρ.set i (some out))))) := by
  simp only [callIO, slotKV]
  by_cases h : (f.io && ts.length + 1 == f.np) = true
  · have h' : (!f.io || !(ts.length + 1 == f.np)) = false := by
      rw [Bool.and_eq_true] at h
      simp [h.1, h.2]
    simp only [h', GqV, h, true_and]
    rcases ρ[i]? with _ | _ | t
    · rfl
    · rfl
    · simp only []
      cases f.sem (t :: ts) <;> rfl
  · have h' : (!f.io || !(ts.length + 1 == f.np)) = true := by
      rw [Bool.and_eq_true] at h
      cases hf : f.io <;> cases hg : (ts.length + 1 == f.np) <;> simp_all
    simp [h', GqV, h, R.vsat]
theorem s_callIO_tmpV (f : FS) (t : T) (ts : List T) : (callIO f (.tmp t) ts ρ).vsat Q X = GqV (f.io && ts.length + 1 == f.np) ((f.sem (t :: ts)).vsat (fun r out => Q r ρ) (fun x out => X x ρ)) := by
  simp only [callIO]
  by_cases h : (f.io && ts.length + 1 == f.np) = true
  · have h' : (!f.io || !(ts.length + 1 == f.np)) = false := by
      rw [Bool.and_eq_true] at h
      simp [h.1, h.2]
    simp only [h', GqV, h, true_and]
    cases f.sem (t :: ts) <;> rfl
  · have h' : (!f.io || !(ts.length + 1 == f.np)) = true := by
      rw [Bool.and_eq_true] at h
      cases hf : f.io <;> cases hg : (ts.length + 1 == f.np) <;> simp_all
    simp [h', GqV, h, R.vsat]
theorem s_call0V (f : FS) (args : List ME) (h : f.io = false) : (ev (.call f args) ρ).vsat Q X = (evs args ρ).vsat (fun ds ρ1 => callKV f (ds.map sh) (fun t _ => Q t ρ1) (fun x _ => X x ρ1)) X := by
  cases args <;> (simp only [ev, h]; simp only [Bool.false_eq_true, ↓reduceIte, sat_bindV, s_callFV, h, Bool.not_false, Gd_trueV])
theorem s_call1V (f : FS) (a : ME) (as : List ME) (h : f.io = true) : (ev (.call f (a :: as)) ρ).vsat Q X = satOV a ρ (fun o ρ1 => (evs as ρ1).vsat (fun ds ρ2 => (callIO f o (ds.map sh) ρ2).vsat Q X) X) X := by
  simp only [ev, h]
  simp only [↓reduceIte, sat_bindV, satOV]
/-- making an instance -/
def newKV (c : Str) (f : FS) (ts : List T) (Q : T → Prop) (X : Xc → Prop) : Prop := GqV f.io (opSV (fillT f (own (.obj c []) :: ts)) (fun ts => (f.sem ts).vsat (fun t out => t = sh .non ∧ Q (sh out.d)) (fun x _ => X x)))
theorem s_callIO2V (c : Str) (f : FS) (ts : List T) : (callIO2 c f ts ρ).vsat Q X = newKV c f ts (fun t => Q t ρ) (fun x => X x ρ) := by
  simp only [callIO2, newKV]
  cases f.io
  · simp [GqV, R.vsat]
  · simp only [GqV, true_and, Bool.not_true, Bool.false_eq_true, ↓reduceIte]
    rcases fillT f (own (.obj c []) :: ts) with _ | ts
    · rfl
    · simp only [opS_someV]
      rcases f.sem ts with ⟨⟨o, d⟩, out⟩ | ⟨x, o⟩ | _
      · cases o <;> cases d <;> simp [FR.vsat, R.vsat, sh]
      · rfl
      · rfl
theorem s_newV (c : Str) (f : FS) (args : List ME) : (ev (.new c f args) ρ).vsat Q X = (evs args ρ).vsat (fun ds ρ1 => newKV c f (ds.map sh) (fun t => Q t ρ1) (fun x => X x ρ1)) X := by
  simp only [ev, sat_bindV, s_callIO2V]
theorem s_newKV (c : Str) (f : FS) (kn : List Str) (pm : List Nat) (args : List ME) : (ev (.newK c f kn pm args) ρ).vsat Q X = (evs args ρ).vsat (fun ds ρ1 => GqV (ds.length == kn.length) (opSV (permD pm ds) (fun ds' => GqV (ds'.length + 1 == f.np) (newKV c f (ds'.map sh) (fun t => Q t ρ1) (fun x => X x ρ1))))) X := by
  simp only [ev, sat_bindV, sat_gdV]
  congr 1
  funext ds ρ1
  congr 1
  rcases permD pm ds with _ | ds'
  · rfl
  · simp only [opS_someV, sat_gdV, s_callIO2V]
def strKV (x : Opd) (K : Str → Prop) : Prop := match x with
  | .tmp ⟨_, .str z⟩ => K z
  | _ => False
theorem strK_strV (o : Bool) (z : Str) (K : Str → Prop) : strKV (.tmp ⟨o, .str z⟩) K = K z := id rfl
theorem s_join'V (o l : ME) : (ev (.join o l) ρ).vsat Q X = satOV o ρ (fun x ρ1 => strKV x (fun z => satOV l ρ1 (fun y ρ2 => drKV y ρ2 (fun d => opSV (biD .join [.str z, d]) (fun t => Q t ρ2))) X)) X := by
  simp only [ev, sat_bindV, satOV]
  congr 1
  funext x ρ1
  rcases x with ⟨o, d⟩ | i
  · cases d <;> try rfl
    simp only [sat_bindV, strKV]
    refine downV fun y ρ2 => ?_
    simp only [drKV]
    rcases drf y ρ2 with _ | d
    · rfl
    · simp only [opS_someV, sat_optV]
  · rfl
/-- a method of an instance -/
def methKV (cs : List (Str × FS)) (x : Opd) (ρ : Sl) (K : FS → D → Prop) : Prop := drKV x ρ (fun d => match d with
  | .obj c fs => opSV (fnd cs c) (fun f => opSV (shO x) (fun dx => GqV (!(fs.lookup f.name).isSome) (K f dx)))
  | _ => False)
theorem methK_objV (cs : List (Str × FS)) (c : Str) (fs : List (Str × D)) (ρ : Sl) (K : FS → D → Prop) : methKV cs (.tmp ⟨false, .obj c fs⟩) ρ K = opSV (fnd cs c) (fun f => GqV (!(fs.lookup f.name).isSome) (K f (.obj c fs))) := id rfl
theorem s_methWV (cs : List (Str × FS)) (kn : List Str) (pm : List Nat) (o : ME) (args : List ME) : (ev (.methW cs kn pm o args) ρ).vsat Q X = satOV o ρ (fun x ρ1 => (evs args ρ1).vsat (fun ds ρ2 => GqV (ds.length == kn.length) (opSV (permD pm ds) (fun ds' => methKV cs x ρ2 (fun f dx => GqV (ds'.length + 1 == f.np) ((callF f ((dx :: ds').map sh) ρ2).vsat Q X))))) X) X := by
  simp only [ev, sat_bindV, satOV]
  congr 1
  funext x ρ1
  congr 1
  funext ds ρ2
  rw [sat_gdV]
  congr 1
  rcases permD pm ds with _ | ds'
  · rfl
  · simp only [opS_someV, methKV, drKV]
    rcases drf x ρ2 with _ | d
    · rfl
    · cases d <;> try rfl
      rename_i c fs
      simp only [opS_someV]
      rcases fnd cs c with _ | f
      · rfl
      · rcases shO x with _ | dx
        · rfl
        · simp only [opS_someV]
          cases (List.lookup f.name fs).isSome <;> cases (ds'.length + 1 == f.np) <;> simp [GqV, R.vsat]
theorem s_methV (cs : List (Str × FS)) (o : ME) (args : List ME) : (ev (.meth cs o args) ρ).vsat Q X = satOV o ρ (fun x ρ1 => (evs args ρ1).vsat (fun ds ρ2 => methKV cs x ρ2 (fun f dx => (callF f ((dx :: ds).map sh) ρ2).vsat Q X)) X) X := by
  simp only [ev, sat_bindV, satOV]
  congr 1
  funext x ρ1
  congr 1
  funext ds ρ2
  simp only [methKV, drKV]
  rcases drf x ρ2 with _ | d
  · rfl
  · cases d <;> try rfl
    rename_i c fs
    simp only [opS_someV]
    rcases fnd cs c with _ | f
    · rfl
    · rcases shO x with _ | dx
      · rfl
      · simp only [opS_someV]
        cases (List.lookup f.name fs).isSome <;> simp [GqV, R.vsat]
def satOsV (es : List ME) (ρ : Sl) (Q : List Opd → Sl → Prop) (X : Xc → Sl → Prop) : Prop := (evos es ρ).vsat Q X
theorem sos_nilV (Q : List Opd → Sl → Prop) : satOsV [] ρ Q X = Q [] ρ := by simp only [satOsV, evos, sat_okV]
theorem sos_consV (e : ME) (es : List ME) (Q : List Opd → Sl → Prop) : satOsV (e :: es) ρ Q X = satOV e ρ (fun x ρ1 => satOsV es ρ1 (fun os ρ2 => Q (x :: os) ρ2) X) X := by
  simp only [satOsV, evos, sat_bindV, sat_okV, satOV]
theorem s_biV (b : Bi) (args : List ME) : (ev (.bi b args) ρ).vsat Q X = satOsV args ρ (fun os ρ1 => drKsV os ρ1 (fun ds => opSV (biD b ds) (fun t => Q t ρ1))) X := by
  simp only [ev, sat_bindV, satOsV]
  refine downV fun os ρ1 => ?_
  rw [← drKs_eqV]
  rcases drfs os ρ1 with _ | ds
  · rfl
  · simp only [opS_someV, sat_optV]
theorem s_bmV (m : Bm) (o : ME) (args : List ME) : (ev (.bm m o args) ρ).vsat Q X = satOV o ρ (fun x ρ1 => drKV x ρ1 (fun d0 => GqV (bmKind m d0) (satOsV args ρ1 (fun os ρ2 => drKV x ρ2 (fun d => drKsV os ρ2 (fun ds => GqV (bmOs m os) (opSV (bmD m d ds) (fun t => Q t ρ2))))) X))) X := by
  simp only [ev, sat_bindV, satOV, satOsV]
  congr 1
  funext x ρ1
  rw [sat_gdV]
  have e : ∀ K : Prop, GqV ((Option.map (bmKind m) (drf x ρ1)).getD false) K = drKV x ρ1 (fun d0 => GqV (bmKind m d0) K) := fun K => by
    simp only [drKV]
    rcases drf x ρ1 with _ | d <;> simp [GqV, opSV]
  rw [e]
  congr 1
  funext d0
  congr 1
  rw [sat_bindV]
  congr 1
  funext os ρ2
  simp only [← drKs_eqV]
  simp only [drKV]
  rcases drf x ρ2 with _ | d
  · rfl
  · rcases drfs os ρ2 with _ | ds
    · rfl
    · simp only [opS_someV]
      cases bmOs m os
      · simp [GqV, R.vsat]
      · simp only [Gd_trueV, sat_optV]
def mtKV (t : T) (K : List D → Prop) : Prop := match t with
  | ⟨true, .lst xs⟩ => K xs
  | _ => False
theorem mtK_lstV (xs : List D) (K : List D → Prop) : mtKV ⟨true, .lst xs⟩ K = K xs := id rfl
theorem s_mt'V (m : Mt) (x : Nat) (args : List ME) : (ev (.mt m x args) ρ).vsat Q X = GqV (ownL ρ x) ((evs args ρ).vsat (fun ds ρ1 => slotKV ρ1 x (fun t => mtKV t (fun xs => opSV (mtD m xs ds) (fun p => setKV ρ1 x (some (own (.lst p.1))) (fun ρ2 => Q (sh p.2) ρ2))))) X) := by
  simp only [ev, sat_bindV, sat_gdV]
  refine congrArg _ (downV fun ds ρ1 => ?_)
  simp only [slotKV]
  rcases ρ1[x]? with _ | _ | ⟨o, d⟩
  · rfl
  · rfl
  · cases o
    · rfl
    · cases d <;> try rfl
      simp only [mtKV]
      rename_i xs
      rcases mtD m xs ds with _ | ⟨ys, r⟩ <;> rfl
/-- a turn of a comprehension -/
def turnC (tg : Tg) (cond : Option ME) (elt : ME) (ws : List Nat) : D → Sl → R (Option D) := fun d r => match bindT tg d (wipeS ws r) with
  | some r1 => (evC cond r1).bind fun b r2 => if b then (ev elt r2).bind fun t r3 => .ok (some t.d) r3 else .ok none r2
  | none => .bad
def turnDC (tg : Tg) (kx vx : ME) (ws : List Nat) : D → Sl → R (Option (Key × D)) := fun d r => match bindT tg d (wipeS ws r) with
  | some r1 => (ev kx r1).bind fun a r2 => (ev vx r2).bind fun b r3 => R.opt ((keyOf a.d).map fun x => some (x, b.d)) r3
  | none => .bad
theorem s_compV (tg : Tg) (k : ItK) (it : List ME) (cond : Option ME) (elt : ME) (ws : List Nat) : (ev (.comp tg k it cond elt ws) ρ).vsat Q X = (evs it ρ).vsat (fun ds ρ1 => opSV (walkD k ds) (fun xs => GqV (freeS ws ρ1) ((noX (compL (turnC tg cond elt ws) xs (wipeS ws ρ1))).vsat (fun ys ρ2 => GqV (szOk xs.length) (Q (own (.lst ys)) (backS ws ρ1 ρ2))) X))) X := by
  simp only [ev, sat_bindV]
  refine downV fun ds ρ1 => ?_
  rcases walkD k ds with _ | xs
  · rfl
  · simp only [opS_someV, sat_gdV, sat_bindV, sat_okV]
    rfl
def dkKV (t : T) (K : List (Key × D) → Prop) : Prop := match t with
  | ⟨true, .dK xs⟩ => K xs
  | _ => False
theorem dkK_dKV (xs : List (Key × D)) (K : List (Key × D) → Prop) : dkKV ⟨true, .dK xs⟩ K = K xs := id rfl
theorem s_keysTakeV (x : Nat) (Q : List D → Sl → Prop) (X : Xc → Sl → Prop) (ρ : Sl) : (keysTake x ρ).vsat Q X = slotKV ρ x (fun t => dkKV t (fun kvs => setKV ρ x (some (sh (.dK kvs))) (fun ρ1 => Q (kvs.map fun p => dkey p.1) ρ1))) := by
  simp only [keysTake, slotKV]
  rcases ρ[x]? with _ | _ | ⟨o, d⟩
  · rfl
  · rfl
  · cases o
    · rfl
    · cases d <;> rfl
theorem s_compKV (tg : Tg) (x : Nat) (cond : Option ME) (elt : ME) (ws : List Nat) : (ev (.compK tg x cond elt ws) ρ).vsat Q X = (keysTake x ρ).vsat (fun xs ρ1 => GqV (freeS ws ρ1) ((noX (compL (turnC tg cond elt ws) xs (wipeS ws ρ1))).vsat (fun ys ρ2 => GqV (szOk xs.length) (Q (own (.lst ys)) (backS ws ρ1 ρ2))) X)) X := by
  simp only [ev, sat_bindV]
  refine downV fun xs ρ1 => ?_
  simp only [sat_gdV, sat_bindV, sat_okV]
  rfl
theorem s_dcompV (tg : Tg) (k : ItK) (it : List ME) (kx vx : ME) (ws : List Nat) : (ev (.dcomp tg k it kx vx ws) ρ).vsat Q X = (evs it ρ).vsat (fun ds ρ1 => opSV (walkD k ds) (fun xs => GqV (freeS ws ρ1) ((noX (compL (turnDC tg kx vx ws) xs (wipeS ws ρ1))).vsat (fun ys ρ2 => GqV (szOk xs.length) (Q (own (.dK (putAll ys))) (backS ws ρ1 ρ2))) X))) X := by
  simp only [ev, sat_bindV]
  refine downV fun ds ρ1 => ?_
  rcases walkD k ds with _ | xs
  · rfl
  · simp only [opS_someV, sat_gdV, sat_bindV, sat_okV]
    rfl
theorem s_fstrV (ps : List ME) : (ev (.fstr ps) ρ).vsat Q X = satOsV ps ρ (fun os ρ1 => drKsV os ρ1 (fun ds => opSV (ds.mapM strOf) (fun ss => GqV (szOk (ss.map (·.length)).sum) (Q (sh (.str (Txt.join ⟨#[]⟩ ss))) ρ1)))) X := by
  simp only [ev, sat_bindV, satOsV]
  refine downV fun os ρ1 => ?_
  rw [← drKs_eqV]
  rcases drfs os ρ1 with _ | ds
  · rfl
  · simp only [opS_someV]
    rcases ds.mapM strOf with _ | ss
    · rfl
    · simp only [opS_someV, sat_gdV, sat_okV]
/-! lists of expressions -/
def isStar : ME → Bool
  | .star _ => true
  | .srange _ => true
  | _ => false
theorem se_nilV (Q : List D → Sl → Prop) : (evs [] ρ).vsat Q X = Q [] ρ := by simp only [evs, sat_okV]
theorem se_consV (e : ME) (es : List ME) (Q : List D → Sl → Prop) (h : isStar e = false) : (evs (e :: es) ρ).vsat Q X = (ev e ρ).vsat (fun t ρ1 => (evs es ρ1).vsat (fun ds ρ2 => Q (t.d :: ds) ρ2) X) X := by
  cases e <;> first | (cases h; done) | (simp only [evs, sat_bindV, sat_okV])
theorem se_starV (e : ME) (es : List ME) (Q : List D → Sl → Prop) : (evs (.star e :: es) ρ).vsat Q X = satOV e ρ (fun x ρ1 => drKV x ρ1 (fun d => opSV (items d) (fun xs => (evs es ρ1).vsat (fun ds ρ2 => Q (xs ++ ds) ρ2) X))) X := by
  simp only [evs, sat_bindV, satOV]
  congr 1
  funext x ρ1
  simp only [drKV]
  rcases drf x ρ1 with _ | d
  · rfl
  · simp only [Option.bind_some, opS_someV]
    rcases items d with _ | xs
    · rfl
    · simp only [opS_someV, sat_bindV, sat_okV]
theorem se_srangeV (as : List ME) (es : List ME) (Q : List D → Sl → Prop) : (evs (.srange as :: es) ρ).vsat Q X = (evs as ρ).vsat (fun ds ρ1 => opSV (walkD .range ds) (fun xs => (evs es ρ1).vsat (fun ds ρ2 => Q (xs ++ ds) ρ2) X)) X := by
  simp only [evs, sat_bindV]
  congr 1
  funext ds ρ1
  rcases walkD .range ds with _ | xs
  · rfl
  · simp only [opS_someV, sat_bindV, sat_okV]
/-! operations -/
theorem s_opBinV (op : Operator) (cs : List (Str × FS)) (x y : Opd) (h : objO x = none) : (opBin op cs x y ρ).vsat Q X = drKV x ρ (fun a => drKV y ρ (fun b => opSV (binD op a b) (fun t => Q t ρ))) := by
  simp only [opBin, h, drKV]
  rcases drf x ρ with _ | d
  · rfl
  · rcases drf y ρ with _ | k
    · rfl
    · simp only [opS_someV, sat_optV]
theorem s_opCmpV (op : CmpOp) (cs : List (Str × FS)) (x y : Opd) (h : objO x = none) (h2 : objO y = none) : (opCmp op cs x y ρ).vsat Q X = drKV x ρ (fun a => drKV y ρ (fun b => opSV (cmpD op a b) (fun r => Q (sh (.bl r)) ρ))) := by
  have e : ∀ op, R.vsat (match drf x ρ, drf y ρ with
    | some a, some b => R.opt ((cmpD op a b).map fun r => sh (.bl r)) ρ
    | _, _ => .bad) Q X = drKV x ρ (fun a => drKV y ρ (fun b => opSV (cmpD op a b) (fun r => Q (sh (.bl r)) ρ))) := fun op => by
    simp only [drKV]
    rcases drf x ρ with _ | d
    · rfl
    · rcases drf y ρ with _ | k
      · rfl
      · simp only [opS_someV, sat_optV, opS_mapV]
  cases op <;> simp only [opCmp, h, h2] <;> exact e _
theorem s_opEqV (cs : List (Str × FS)) (x y : Opd) (h : objO x = none) : (opCmp .Eq cs x y ρ).vsat Q X = drKV x ρ (fun a => drKV y ρ (fun b => opSV (cmpD .Eq a b) (fun r => Q (sh (.bl r)) ρ))) := by
  simp only [opCmp, h, drKV]
  rcases drf x ρ with _ | d
  · rfl
  · rcases drf y ρ with _ | k
    · rfl
    · simp only [opS_someV, sat_optV, opS_mapV]
theorem s_opEqOV (cs : List (Str × FS)) (x y : Opd) (c : Str) (dx : D) (h : objO x = some (c, dx)) : (opCmp .Eq cs x y ρ).vsat Q X = opSV (fnd cs c) (fun f => opSV (objO y) (fun p => GqV (decide (p.1 = c)) ((callF f [sh dx, sh p.2] ρ).vsat (fun t ρ1 => asBV t.d (fun b => Q (sh (.bl b)) ρ1)) X))) := by
  simp only [opCmp, h]
  rcases fnd cs c with _ | f
  · rfl
  · rcases objO y with _ | p
    · rfl
    · simp only [opS_someV]
      cases decide (p.1 = c)
      · simp [GqV, sat_badV]
      · simp only [Gd_trueV, if_true, sat_bindV]
        congr 1
        funext t ρ1
        rcases t with ⟨o, d⟩
        cases d <;> rfl
theorem s_opNeOV (cs : List (Str × FS)) (x y : Opd) (c : Str) (dx : D) (h : objO x = some (c, dx)) : (opCmp .NotEq cs x y ρ).vsat Q X = opSV (fnd cs c) (fun f => opSV (objO y) (fun p => GqV (decide (p.1 = c)) ((callF f [sh dx, sh p.2] ρ).vsat (fun t ρ1 => asBV t.d (fun b => Q (sh (.bl (!b))) ρ1)) X))) := by
  simp only [opCmp, h]
  rcases fnd cs c with _ | f
  · rfl
  · rcases objO y with _ | p
    · rfl
    · simp only [opS_someV]
      cases decide (p.1 = c)
      · simp [GqV, sat_badV]
      · simp only [Gd_trueV, if_true, sat_bindV]
        congr 1
        funext t ρ1
        rcases t with ⟨o, d⟩
        cases d <;> rfl
theorem s_opInOV (cs : List (Str × FS)) (x y : Opd) (c : Str) (dy : D) (h : objO y = some (c, dy)) : (opCmp .In cs x y ρ).vsat Q X = opSV (fnd cs c) (fun f => opSV (shO x) (fun dx => (callF f [sh dy, sh dx] ρ).vsat (fun t ρ1 => asBV t.d (fun b => Q (sh (.bl b)) ρ1)) X)) := by
  simp only [opCmp, h]
  rcases fnd cs c with _ | f
  · rfl
  · rcases shO x with _ | dy
    · rfl
    · simp only [opS_someV, sat_bindV]
      congr 1
      funext t ρ1
      rcases t with ⟨o, d⟩
      cases d <;> rfl
theorem s_opNotInOV (cs : List (Str × FS)) (x y : Opd) (c : Str) (dy : D) (h : objO y = some (c, dy)) : (opCmp .NotIn cs x y ρ).vsat Q X = opSV (fnd cs c) (fun f => opSV (shO x) (fun dx => (callF f [sh dy, sh dx] ρ).vsat (fun t ρ1 => asBV t.d (fun b => Q (sh (.bl (!b))) ρ1)) X)) := by
  simp only [opCmp, h]
  rcases fnd cs c with _ | f
  · rfl
  · rcases shO x with _ | dy
    · rfl
    · simp only [opS_someV, sat_bindV]
      congr 1
      funext t ρ1
      rcases t with ⟨o, d⟩
      cases d <;> rfl
theorem s_opBinOV (op : Operator) (cs : List (Str × FS)) (x y : Opd) (c : Str) (dx : D) (h : objO x = some (c, dx)) : (opBin op cs x y ρ).vsat Q X = opSV (fnd cs c) (fun f => opSV (objO y) (fun p => GqV (decide (p.1 = c)) ((callF f [sh dx, sh p.2] ρ).vsat Q X))) := by
  simp only [opBin, h]
  rcases fnd cs c with _ | f
  · rfl
  · rcases objO y with _ | p
    · rfl
    · simp only [opS_someV]
      cases decide (p.1 = c) <;> simp [GqV, sat_badV]
theorem oo_slotV (i : Nat) : objO (.slot i) = none := id rfl
theorem oo_ownV (d : D) : objO (.tmp ⟨true, d⟩) = none := by cases d <;> rfl
theorem oo_intV (o : Bool) (i : Int) : objO (.tmp ⟨o, .int i⟩) = none := by cases o <;> rfl
theorem oo_blV (o : Bool) (i : Bool) : objO (.tmp ⟨o, .bl i⟩) = none := by cases o <;> rfl
theorem oo_strV (o : Bool) (i : Str) : objO (.tmp ⟨o, .str i⟩) = none := by cases o <;> rfl
theorem oo_nonV (o : Bool) : objO (.tmp ⟨o, .non⟩) = none := by cases o <;> rfl
theorem oo_lstV (o : Bool) (i : List D) : objO (.tmp ⟨o, .lst i⟩) = none := by cases o <;> rfl
theorem oo_tupV (o : Bool) (i : List D) : objO (.tmp ⟨o, .tup i⟩) = none := by cases o <;> rfl
theorem oo_dKV (o : Bool) (i : List (Key × D)) : objO (.tmp ⟨o, .dK i⟩) = none := by cases o <;> rfl
theorem oo_dTV (o : Bool) (i : List (List Key × D)) : objO (.tmp ⟨o, .dT i⟩) = none := by cases o <;> rfl
theorem oo_objV (c : Str) (fs : List (Str × D)) : objO (.tmp ⟨false, .obj c fs⟩) = some (c, .obj c fs) := id rfl
theorem shO_shV (d : D) : shO (.tmp ⟨false, d⟩) = some d := id rfl
end
/-! ### statements -/
section
variable (Q : Fl → Sl → Prop) (X : Xc → Sl → Prop) (ρ : Sl)
def flKV (f : Fl) (K : Prop) (Q : Fl → Prop) : Prop := match f with
  | .next => K
  | f => Q f
theorem flK_nextV (K : Prop) (Q : Fl → Prop) : flKV .next K Q = K := id rfl
theorem flK_retV (t : T) (K : Prop) (Q : Fl → Prop) : flKV (.ret t) K Q = Q (.ret t) := id rfl
theorem flK_brkV (K : Prop) (Q : Fl → Prop) : flKV .brk K Q = Q .brk := id rfl
theorem flK_contV (K : Prop) (Q : Fl → Prop) : flKV .cont K Q = Q .cont := id rfl
theorem xs_nilV : (execs [] ρ).vsat Q X = Q .next ρ := by simp only [execs, sat_okV]
theorem xs_consV (s : MS) (ss : List MS) : (execs (s :: ss) ρ).vsat Q X = (exec s ρ).vsat (fun f ρ1 => flKV f ((execs ss ρ1).vsat Q X) (fun f => Q f ρ1)) X := by
  simp only [execs, sat_bindV]
  congr 1
  funext f ρ1
  cases f <;> rfl
theorem y_setV (i : Nat) (e : ME) : (exec (.set i e) ρ).vsat Q X = (ev e ρ).vsat (fun t ρ1 => setKV ρ1 i (some t) (fun ρ2 => Q .next ρ2)) X := by
  simp only [exec, sat_bindV, sat_okV, setKV]
/-- a tuple's parts into slots -/
def setsKV : List Nat → List D → Sl → (Sl → Prop) → Prop
  | i :: is, d :: ds, ρ, K => setKV ρ i (some (sh d)) (fun r => setsKV is ds r K)
  | [], [], ρ, K => K ρ
  | _, _, _, _ => False
theorem setsK_consV (i : Nat) (is : List Nat) (d : D) (ds : List D) (ρ : Sl) (K : Sl → Prop) : setsKV (i :: is) (d :: ds) ρ K = setKV ρ i (some (sh d)) (fun r => setsKV is ds r K) := id rfl
theorem setsK_nilV (ρ : Sl) (K : Sl → Prop) : setsKV [] [] ρ K = K ρ := id rfl
theorem setsK_eqV : ∀ (is : List Nat) (ds : List D) (ρ : Sl) (K : Sl → Prop), setsKV is ds ρ K = (GqV (is.length == ds.length) (K ((is.zip ds).foldl (fun r p => r.set p.1 (some (sh p.2))) ρ)))
  | [], [], ρ, K => by simp [setsKV, GqV]
  | [], d :: ds, ρ, K => by simp [setsKV, GqV]
  | i :: is, [], ρ, K => by simp [setsKV, GqV]
  | i :: is, d :: ds, ρ, K => by
    simp only [setsKV, setKV]
    rw [setsK_eqV is ds]
    simp [GqV]
def tupKV (d : D) (K : List D → Prop) : Prop := match d with
  | .tup ds => K ds
  | .lst ds => K ds
  | _ => False
theorem tupK_tupV (ds : List D) (K : List D → Prop) : tupKV (.tup ds) K = K ds := id rfl
theorem tupK_lstV (ds : List D) (K : List D → Prop) : tupKV (.lst ds) K = K ds := id rfl
theorem y_tupsetV (is : List Nat) (e : ME) : (exec (.tupset is e) ρ).vsat Q X = (ev e ρ).vsat (fun t ρ1 => tupKV t.d (fun ds => setsKV is ds ρ1 (fun ρ2 => Q .next ρ2))) X := by
  simp only [exec, sat_bindV]
  congr 1
  funext t ρ1
  rcases t with ⟨o, d⟩
  cases d <;> try rfl
  all_goals
    rename_i ds
    simp only [bindT, tupKV, setsK_eqV]
    cases (is.length == ds.length) <;> simp [GqV, R.vsat]
def parKV : List Nat → List T → Sl → (Sl → Prop) → Prop
  | i :: is, d :: ds, ρ, K => setKV ρ i (some d) (fun r => parKV is ds r K)
  | [], [], ρ, K => K ρ
  | _, _, _, _ => False
theorem parK_consV (i : Nat) (is : List Nat) (d : T) (ds : List T) (ρ : Sl) (K : Sl → Prop) : parKV (i :: is) (d :: ds) ρ K = setKV ρ i (some d) (fun r => parKV is ds r K) := id rfl
theorem parK_nilV (ρ : Sl) (K : Sl → Prop) : parKV [] [] ρ K = K ρ := id rfl
theorem parK_eqV : ∀ (is : List Nat) (ds : List T) (ρ : Sl) (K : Sl → Prop), parKV is ds ρ K = (GqV (is.length == ds.length) (K (setAll is ds ρ)))
  | [], [], ρ, K => by simp [parKV, GqV, setAll]
  | [], d :: ds, ρ, K => by simp [parKV, GqV]
  | i :: is, [], ρ, K => by simp [parKV, GqV]
  | i :: is, d :: ds, ρ, K => by
    simp only [parKV, setKV]
    rw [parK_eqV is ds]
    simp [GqV, setAll]
theorem st_nilV (Q : List T → Sl → Prop) : (evTs [] ρ).vsat Q X = Q [] ρ := by simp only [evTs, sat_okV]
theorem st_consV (e : ME) (es : List ME) (Q : List T → Sl → Prop) : (evTs (e :: es) ρ).vsat Q X = (ev e ρ).vsat (fun t ρ1 => (evTs es ρ1).vsat (fun ts ρ2 => Q (t :: ts) ρ2) X) X := by
  simp only [evTs, sat_bindV, sat_okV]
theorem x_parV (is : List Nat) (es : List ME) : (exec (.par is es) ρ).vsat Q X = (evTs es ρ).vsat (fun ts ρ1 => parKV is ts ρ1 (fun ρ2 => Q .next ρ2)) X := by
  simp only [exec, sat_bindV, sat_gdV, sat_okV, parK_eqV]
def hasKV (ρ : Sl) (x : Nat) (K : Prop) : Prop := slotKV ρ x (fun _ => K)
theorem hasK_eqV (ρ : Sl) (x : Nat) (K : Prop) : GqV (someAt ρ x) K = slotKV ρ x (fun _ => K) := by
  simp only [someAt, slotKV, GqV]
  rcases ρ[x]? with _ | _ | t <;> simp
theorem y_setIxV (x : Nat) (k e : ME) : (exec (.setIx x k e) ρ).vsat Q X = (ev e ρ).vsat (fun v ρ1 => slotKV ρ1 x (fun _ => (ev k ρ1).vsat (fun i ρ2 => slotKV ρ2 x (fun t => opSV (setIxT t i.d v.d) (fun t' => setKV ρ2 x (some t') (fun ρ3 => Q .next ρ3)))) X)) X := by
  simp only [exec, sat_bindV, sat_gdV, hasK_eqV]
  congr 1
  funext v ρ1
  congr 1
  funext _
  congr 1
  funext i ρ2
  simp only [slotKV]
  rcases ρ2[x]? with _ | _ | t
  · rfl
  · rfl
  · simp only []
    rcases setIxT t i.d v.d with _ | t' <;> rfl
theorem y_setFldV (x : Nat) (f : Str) (cs : List Str) (e : ME) : (exec (.setFld x f cs e) ρ).vsat Q X = (ev e ρ).vsat (fun v ρ1 => slotKV ρ1 x (fun t => opSV (setFldT cs t f v.d) (fun t' => setKV ρ1 x (some t') (fun ρ3 => Q .next ρ3)))) X := by
  simp only [exec, sat_bindV]
  congr 1
  funext v ρ1
  simp only [slotKV]
  rcases ρ1[x]? with _ | _ | t
  · rfl
  · rfl
  · simp only []
    rcases setFldT cs t f v.d with _ | t' <;> rfl
theorem y_exprV (e : ME) : (exec (.expr e) ρ).vsat Q X = (ev e ρ).vsat (fun _ ρ1 => Q .next ρ1) X := by
  simp only [exec, sat_bindV, sat_okV]
theorem x_retvV (i : Nat) : (exec (.ret (.var i)) ρ).vsat Q X = slotKV ρ i (fun t => setKV ρ i none (fun ρ1 => Q (.ret t) ρ1)) := by
  simp only [exec, evRet, sat_bindV, slotKV]
  rcases ρ[i]? with _ | _ | t <;> rfl
theorem y_retV (e : ME) (h : isVar e = false) : (exec (.ret e) ρ).vsat Q X = (ev e ρ).vsat (fun t ρ1 => Q (.ret t) ρ1) X := by
  cases e <;> first | (cases h; done) | (simp only [exec, evRet, sat_bindV, sat_okV])
theorem y_retNV : (exec .retN ρ).vsat Q X = Q (.ret (sh .non)) ρ := by simp only [exec, sat_okV]
theorem y_iteV (c : ME) (t e : List MS) : (exec (.ite c t e) ρ).vsat Q X = (ev c ρ).vsat (fun b ρ1 => brTV b ((execs t ρ1).vsat Q X) ((execs e ρ1).vsat Q X)) X := by
  simp only [exec, sat_bindV]
  refine downV fun r ρ1 => ?_
  rcases r with ⟨o, d⟩
  cases d <;> try rfl
  rename_i k
  cases k <;> rfl
/-- behind a loop -/
def lfKV (l : LF) (K : Prop) (B : Prop) (Q : Fl → Prop) : Prop := match l with
  | .done => K
  | .brk => B
  | .ret t => Q (.ret t)
theorem lfK_doneV (K B : Prop) (Q : Fl → Prop) : lfKV .done K B Q = K := id rfl
theorem lfK_brkV (K B : Prop) (Q : Fl → Prop) : lfKV .brk K B Q = B := id rfl
theorem lfK_retV (t : T) (K B : Prop) (Q : Fl → Prop) : lfKV (.ret t) K B Q = Q (.ret t) := id rfl
theorem y_forV (tg : Tg) (k : ItK) (it : List ME) (body orelse : List MS) : (exec (.for_ tg k it body orelse) ρ).vsat Q X = (evs it ρ).vsat (fun ds ρ1 => opSV (walkD k ds) (fun xs => (forL (bindT tg) (execs body) xs ρ1).vsat (fun l ρ2 => lfKV l ((execs orelse ρ2).vsat Q X) (Q .next ρ2) (fun f => Q f ρ2)) X)) X := by
  simp only [exec, sat_bindV]
  congr 1
  funext ds ρ1
  rcases walkD k ds with _ | xs
  · rfl
  · simp only [opS_someV, sat_bindV]
    congr 1
    funext l ρ2
    cases l <;> rfl
theorem x_whileV (n : Nat) (c : ME) (body : List MS) : (exec (.while_ n c body) ρ).vsat Q X = (whileL (ev c) (execs body) n ρ).vsat (fun l ρ2 => lfKV l (Q .next ρ2) (Q .next ρ2) (fun f => Q f ρ2)) X := by
  simp only [exec, sat_bindV]
  congr 1
  funext l ρ2
  cases l <;> rfl
theorem y_brkV : (exec .brk ρ).vsat Q X = Q .brk ρ := by simp only [exec, sat_okV]
theorem y_contV : (exec .cont ρ).vsat Q X = Q .cont ρ := by simp only [exec, sat_okV]
theorem y_passV : (exec .pass ρ).vsat Q X = Q .next ρ := by simp only [exec, sat_okV]
theorem x_raiseV (c : Str) (f : Option Str) (e : ME) : (exec (.raise c f e) ρ).vsat Q X = (ev e ρ).vsat (fun t ρ1 => X ⟨c, match f with
    | some n => [(n, t.d)]
    | none => []⟩ ρ1) X := by
  simp only [exec, sat_bindV]
  rfl
end
/-! ### defs -/
def outKV (io : Bool) (ρ : Sl) (K : T → Prop) : Prop := match io with
  | true => slotKV ρ 0 K
  | false => K (sh .non)
theorem outK_trueV (ρ : Sl) (K : T → Prop) : outKV true ρ K = slotKV ρ 0 K := id rfl
theorem outK_falseV (ρ : Sl) (K : T → Prop) : outKV false ρ K = K (sh .non) := id rfl
theorem outK_eqV (io : Bool) (ρ : Sl) (K : T → Prop) : opSV (outOf io ρ) K = outKV io ρ K := by
  cases io
  · rfl
  · simp only [outOf, outKV, slotKV]
    rcases ρ[0]? with _ | _ | t <;> rfl
def endKV (f : Fl) (K : T → Prop) : Prop := match f with
  | .ret t => K t
  | .next => K (sh .non)
  | _ => False
theorem endK_retV (t : T) (K : T → Prop) : endKV (.ret t) K = K t := id rfl
theorem endK_nextV (K : T → Prop) : endKV .next K = K (sh .non) := id rfl
theorem s_runDV (io : Bool) (n : Nat) (body : List MS) (ts : List T) (Q : T → T → Prop) (X : Xc → T → Prop) :
    (runD io n body ts).vsat Q X = (execs body (ts.map some ++ List.replicate (n - ts.length) none)).vsat (fun f ρ => endKV f (fun t => outKV io ρ (fun o => Q t o))) (fun x ρ => outKV io ρ (fun o => X x o)) := by
  simp only [runD]
  rcases execs body (ts.map some ++ List.replicate (n - ts.length) none) with ⟨f, ρ⟩ | ⟨x, ρ⟩ | _
  · simp only [R.vsat, ← outK_eqV]
    cases f <;> rcases outOf io ρ with _ | o <;> rfl
  · simp only [R.vsat, ← outK_eqV]
    rcases outOf io ρ with _ | o <;> rfl
  · rfl
/-! ### loops -/
theorem sat_forLV {bind : D → Sl → Option Sl} {body : Sl → R Fl} {X : Xc → Sl → Prop} {Q : LF → Sl → Prop} {xs : List D} {ρ : Sl} (I : List D → Sl → Prop)
    (h0 : I [] ρ)
    (h1 : ∀ pre x post r, xs = pre ++ x :: post → I pre r → opSV (bind x r) (fun r1 => (body r1).vsat (fun f r2 => match f with
      | .next => I (pre ++ [x]) r2
      | .cont => I (pre ++ [x]) r2
      | .brk => Q .brk r2
      | .ret t => Q (.ret t) r2) X))
    (h2 : ∀ r, I xs r → Q .done r) : (forL bind body xs ρ).vsat Q X := by
  have key : ∀ (post pre : List D) (r : Sl), xs = pre ++ post → I pre r → (forL bind body post r).vsat Q X := by
    intro post
    induction post with
    | nil =>
      intro pre r e i
      rw [List.append_nil] at e
      subst e
      simp only [forL, sat_okV]
      exact h2 r i
    | cons x post ih =>
      intro pre r e i
      have b := h1 pre x post r e i
      simp only [forL]
      rcases hb : bind x r with _ | r1
      · rw [hb] at b
        exact b.elim
      · rw [hb] at b
        simp only [opS_someV] at b
        simp only [sat_bindV]
        refine sat_monoV b (fun f r2 z => ?_) (fun _ _ z => z)
        cases f with
        | next => exact ih (pre ++ [x]) r2 (by rw [e]; simp) z
        | cont => exact ih (pre ++ [x]) r2 (by rw [e]; simp) z
        | brk => exact z
        | ret t => exact z
  exact key xs [] ρ rfl h0
theorem sat_compLV {α : Type} {turn : D → Sl → R (Option α)} {Q : List α → Sl → Prop} {X : Xc → Sl → Prop} {xs : List D} {ρ : Sl} (I : List D → List α → Sl → Prop)
    (h0 : I [] [] ρ)
    (h1 : ∀ pre x post ys r, xs = pre ++ x :: post → I pre ys r → (turn x r).vsat (fun o r' => I (pre ++ [x]) (ys ++ o.toList) r') NXS)
    (h2 : ∀ ys r, I xs ys r → Q ys r) : (noX (compL turn xs ρ)).vsat Q X := by
  have key : ∀ (post pre : List D) (zs : List α) (r : Sl), xs = pre ++ post → I pre zs r → (compL turn post r).vsat (fun ys r' => I xs (zs ++ ys) r') NXS := by
    intro post
    induction post with
    | nil =>
      intro pre zs r e i
      rw [List.append_nil] at e
      subst e
      simp only [compL, sat_okV, List.append_nil]
      exact i
    | cons x post ih =>
      intro pre zs r e i
      simp only [compL, sat_bindV]
      refine sat_monoV (h1 pre x post zs r e i) (fun o r2 z => ?_) (fun _ _ z => z)
      refine sat_monoV (ih (pre ++ [x]) (zs ++ o.toList) r2 (by rw [e]; simp) z) (fun ys r3 z => ?_) (fun _ _ z => z)
      simp only [sat_okV]
      cases o <;> simpa using z
  have := key xs [] [] ρ rfl h0
  rcases hc : compL turn xs ρ with ⟨ys, r⟩ | ⟨x, r⟩ | _
  · rw [hc] at this
    exact h2 ys r this
  · rw [hc] at this
    exact this.elim
  · rw [hc] at this
    exact this.elim
/-- each turn tells a value, and leaves the slots -/
theorem sat_compPV {α : Type} {turn : D → Sl → R (Option α)} {Q : List α → Sl → Prop} {X : Xc → Sl → Prop} {xs : List D} {ρ : Sl} (I : Sl → Prop) (g : D → Option α)
    (h0 : I ρ)
    (h1 : ∀ x r, x ∈ xs → I r → (turn x r).vsat (fun o r' => o = g x ∧ I r') NXS)
    (h2 : ∀ r, I r → Q (xs.filterMap g) r) : (noX (compL turn xs ρ)).vsat Q X := by
  refine sat_compLV (fun pre ys r => ys = pre.filterMap g ∧ I r) ⟨rfl, h0⟩ ?_ (fun ys r ⟨e, i⟩ => e ▸ h2 r i)
  intro pre x post ys r e ⟨i1, i2⟩
  refine sat_monoV (h1 x r (by rw [e]; simp) i2) (fun o r' ⟨z1, z2⟩ => ⟨?_, z2⟩) (fun _ _ z => z)
  rw [i1, z1, List.filterMap_append]
  cases hg : g x <;> simp [hg]
/-- each turn tells something of a kind, and keeps the slots so -/
theorem sat_compIV {α : Type} {turn : D → Sl → R (Option α)} {Q : List α → Sl → Prop} {X : Xc → Sl → Prop} {xs : List D} {ρ : Sl} (I : Sl → Prop) (P : α → Prop)
    (h0 : I ρ)
    (h1 : ∀ x r, x ∈ xs → I r → (turn x r).vsat (fun o r' => (∃ y, o = some y ∧ P y) ∧ I r') NXS)
    (h2 : ∀ ys r, ys.length = xs.length → (∀ y ∈ ys, P y) → I r → Q ys r) : (noX (compL turn xs ρ)).vsat Q X := by
  refine sat_compLV (fun pre ys r => (ys.length = pre.length ∧ ∀ y ∈ ys, P y) ∧ I r) ⟨⟨rfl, by simp⟩, h0⟩ ?_ (fun ys r ⟨⟨e1, e2⟩, i⟩ => h2 ys r e1 e2 i)
  intro pre x post ys r e ⟨⟨i1, i2⟩, i3⟩
  refine sat_monoV (h1 x r (by rw [e]; simp) i3) (fun o r' ⟨⟨y, z1, z2⟩, z3⟩ => ⟨⟨?_, ?_⟩, z3⟩) (fun _ _ z => z)
  · subst z1
    simp [i1]
  · subst z1
    intro y' hy
    simp at hy
    rcases hy with hy | hy
    · exact i2 _ hy
    · exact hy ▸ z2
theorem s_turnCV (tg : Tg) (cond : Option ME) (elt : ME) (ws : List Nat) (d : D) (r : Sl) (Q : Option D → Sl → Prop) (X : Xc → Sl → Prop) : (turnC tg cond elt ws d r).vsat Q X = opSV (bindT tg d (wipeS ws r)) (fun r1 => (evC cond r1).vsat (fun b r2 => BrV b ((ev elt r2).vsat (fun t r3 => Q (some t.d) r3) X) (Q none r2)) X) := by
  simp only [turnC]
  rcases bindT tg d (wipeS ws r) with _ | r1
  · rfl
  · simp only [opS_someV, sat_bindV, sat_ifV, sat_okV]
def keyKV (d : D) (K : Key → Prop) : Prop := opSV (keyOf d) K
theorem s_turnDCV (tg : Tg) (kx vx : ME) (ws : List Nat) (d : D) (r : Sl) (Q : Option (Key × D) → Sl → Prop) (X : Xc → Sl → Prop) : (turnDC tg kx vx ws d r).vsat Q X = opSV (bindT tg d (wipeS ws r)) (fun r1 => (ev kx r1).vsat (fun a r2 => (ev vx r2).vsat (fun b r3 => opSV (keyOf a.d) (fun x => Q (some (x, b.d)) r3)) X) X) := by
  simp only [turnDC]
  rcases bindT tg d (wipeS ws r) with _ | r1
  · rfl
  · simp only [opS_someV, sat_bindV, sat_optV, opS_mapV]
theorem sc_noneV (r : Sl) (Q : Bool → Sl → Prop) (X : Xc → Sl → Prop) : (evC none r).vsat Q X = Q true r := by simp only [evC, sat_okV]
theorem sc_someV (e : ME) (r : Sl) (Q : Bool → Sl → Prop) (X : Xc → Sl → Prop) : (evC (some e) r).vsat Q X = (ev e r).vsat (fun t r1 => asBV t.d (fun b => Q b r1)) X := by
  simp only [evC, sat_bindV]
  congr 1
  funext t ρ1
  rcases t with ⟨o, d⟩
  cases d <;> rfl
def bindKV (tg : Tg) (d : D) (ρ : Sl) (K : Sl → Prop) : Prop := match tg with
  | .one i => setKV ρ i (some (sh d)) K
  | .many is => tupKV d (fun ds => setsKV is ds ρ K)
theorem bindK_oneV (i : Nat) (d : D) (ρ : Sl) (K : Sl → Prop) : bindKV (.one i) d ρ K = setKV ρ i (some (sh d)) K := id rfl
theorem bindK_manyV (is : List Nat) (d : D) (ρ : Sl) (K : Sl → Prop) : bindKV (.many is) d ρ K = tupKV d (fun ds => setsKV is ds ρ K) := id rfl
theorem bindK_eqV (tg : Tg) (d : D) (ρ : Sl) (K : Sl → Prop) : opSV (bindT tg d ρ) K = bindKV tg d ρ K := by
  cases tg with
  | one i => rfl
  | many is =>
    simp only [bindKV]
    cases d <;> try rfl
    all_goals
      rename_i ds
      simp only [bindT, tupKV, setsK_eqV]
      cases (is.length == ds.length) <;> simp [GqV, opSV]
/-! by constructor -/
theorem so_litV (X : Xc → Sl → Prop) (ρ : Sl) (Q : Opd → Sl → Prop) (d : D) : satOV (.lit d) ρ Q X = (ev (.lit d) ρ).vsat (fun t ρ1 => Q (.tmp t) ρ1) X := so_eV _ _ _ _ rfl
theorem xr_litV (Q : Fl → Sl → Prop) (X : Xc → Sl → Prop) (ρ : Sl) (d : D) : (exec (.ret (.lit d)) ρ).vsat Q X = (ev (.lit d) ρ).vsat (fun t ρ1 => Q (.ret t) ρ1) X := y_retV _ _ _ _ rfl
theorem se_litV (X : Xc → Sl → Prop) (ρ : Sl) (d : D) (es' : List ME) (Q : List D → Sl → Prop) : (evs ((.lit d) :: es') ρ).vsat Q X = (ev (.lit d) ρ).vsat (fun t ρ1 => (evs es' ρ1).vsat (fun ds ρ2 => Q (t.d :: ds) ρ2) X) X := se_consV _ _ _ _ _ rfl
theorem so_globV (X : Xc → Sl → Prop) (ρ : Sl) (Q : Opd → Sl → Prop) (x : Str) (d : D) : satOV (.glob x d) ρ Q X = (ev (.glob x d) ρ).vsat (fun t ρ1 => Q (.tmp t) ρ1) X := so_eV _ _ _ _ rfl
theorem xr_globV (Q : Fl → Sl → Prop) (X : Xc → Sl → Prop) (ρ : Sl) (x : Str) (d : D) : (exec (.ret (.glob x d)) ρ).vsat Q X = (ev (.glob x d) ρ).vsat (fun t ρ1 => Q (.ret t) ρ1) X := y_retV _ _ _ _ rfl
theorem se_globV (X : Xc → Sl → Prop) (ρ : Sl) (x : Str) (d : D) (es' : List ME) (Q : List D → Sl → Prop) : (evs ((.glob x d) :: es') ρ).vsat Q X = (ev (.glob x d) ρ).vsat (fun t ρ1 => (evs es' ρ1).vsat (fun ds ρ2 => Q (t.d :: ds) ρ2) X) X := se_consV _ _ _ _ _ rfl
theorem so_binV (X : Xc → Sl → Prop) (ρ : Sl) (Q : Opd → Sl → Prop) (op : Operator) (cs : List (Str × FS)) (a b : ME) : satOV (.bin op cs a b) ρ Q X = (ev (.bin op cs a b) ρ).vsat (fun t ρ1 => Q (.tmp t) ρ1) X := so_eV _ _ _ _ rfl
theorem xr_binV (Q : Fl → Sl → Prop) (X : Xc → Sl → Prop) (ρ : Sl) (op : Operator) (cs : List (Str × FS)) (a b : ME) : (exec (.ret (.bin op cs a b)) ρ).vsat Q X = (ev (.bin op cs a b) ρ).vsat (fun t ρ1 => Q (.ret t) ρ1) X := y_retV _ _ _ _ rfl
theorem se_binV (X : Xc → Sl → Prop) (ρ : Sl) (op : Operator) (cs : List (Str × FS)) (a b : ME) (es' : List ME) (Q : List D → Sl → Prop) : (evs ((.bin op cs a b) :: es') ρ).vsat Q X = (ev (.bin op cs a b) ρ).vsat (fun t ρ1 => (evs es' ρ1).vsat (fun ds ρ2 => Q (t.d :: ds) ρ2) X) X := se_consV _ _ _ _ _ rfl
theorem so_negV (X : Xc → Sl → Prop) (ρ : Sl) (Q : Opd → Sl → Prop) (a : ME) : satOV (.neg a) ρ Q X = (ev (.neg a) ρ).vsat (fun t ρ1 => Q (.tmp t) ρ1) X := so_eV _ _ _ _ rfl
theorem xr_negV (Q : Fl → Sl → Prop) (X : Xc → Sl → Prop) (ρ : Sl) (a : ME) : (exec (.ret (.neg a)) ρ).vsat Q X = (ev (.neg a) ρ).vsat (fun t ρ1 => Q (.ret t) ρ1) X := y_retV _ _ _ _ rfl
theorem se_negV (X : Xc → Sl → Prop) (ρ : Sl) (a : ME) (es' : List ME) (Q : List D → Sl → Prop) : (evs ((.neg a) :: es') ρ).vsat Q X = (ev (.neg a) ρ).vsat (fun t ρ1 => (evs es' ρ1).vsat (fun ds ρ2 => Q (t.d :: ds) ρ2) X) X := se_consV _ _ _ _ _ rfl
theorem so_cmpV (X : Xc → Sl → Prop) (ρ : Sl) (Q : Opd → Sl → Prop) (op : CmpOp) (cs : List (Str × FS)) (a b : ME) : satOV (.cmp op cs a b) ρ Q X = (ev (.cmp op cs a b) ρ).vsat (fun t ρ1 => Q (.tmp t) ρ1) X := so_eV _ _ _ _ rfl
theorem xr_cmpV (Q : Fl → Sl → Prop) (X : Xc → Sl → Prop) (ρ : Sl) (op : CmpOp) (cs : List (Str × FS)) (a b : ME) : (exec (.ret (.cmp op cs a b)) ρ).vsat Q X = (ev (.cmp op cs a b) ρ).vsat (fun t ρ1 => Q (.ret t) ρ1) X := y_retV _ _ _ _ rfl
theorem se_cmpV (X : Xc → Sl → Prop) (ρ : Sl) (op : CmpOp) (cs : List (Str × FS)) (a b : ME) (es' : List ME) (Q : List D → Sl → Prop) : (evs ((.cmp op cs a b) :: es') ρ).vsat Q X = (ev (.cmp op cs a b) ρ).vsat (fun t ρ1 => (evs es' ρ1).vsat (fun ds ρ2 => Q (t.d :: ds) ρ2) X) X := se_consV _ _ _ _ _ rfl
theorem so_cmp2V (X : Xc → Sl → Prop) (ρ : Sl) (Q : Opd → Sl → Prop) (op1 op2 : CmpOp) (a b c : ME) : satOV (.cmp2 op1 op2 a b c) ρ Q X = (ev (.cmp2 op1 op2 a b c) ρ).vsat (fun t ρ1 => Q (.tmp t) ρ1) X := so_eV _ _ _ _ rfl
theorem xr_cmp2V (Q : Fl → Sl → Prop) (X : Xc → Sl → Prop) (ρ : Sl) (op1 op2 : CmpOp) (a b c : ME) : (exec (.ret (.cmp2 op1 op2 a b c)) ρ).vsat Q X = (ev (.cmp2 op1 op2 a b c) ρ).vsat (fun t ρ1 => Q (.ret t) ρ1) X := y_retV _ _ _ _ rfl
theorem se_cmp2V (X : Xc → Sl → Prop) (ρ : Sl) (op1 op2 : CmpOp) (a b c : ME) (es' : List ME) (Q : List D → Sl → Prop) : (evs ((.cmp2 op1 op2 a b c) :: es') ρ).vsat Q X = (ev (.cmp2 op1 op2 a b c) ρ).vsat (fun t ρ1 => (evs es' ρ1).vsat (fun ds ρ2 => Q (t.d :: ds) ρ2) X) X := se_consV _ _ _ _ _ rfl
theorem so_andV (X : Xc → Sl → Prop) (ρ : Sl) (Q : Opd → Sl → Prop) (a b : ME) : satOV (.and_ a b) ρ Q X = (ev (.and_ a b) ρ).vsat (fun t ρ1 => Q (.tmp t) ρ1) X := so_eV _ _ _ _ rfl
theorem xr_andV (Q : Fl → Sl → Prop) (X : Xc → Sl → Prop) (ρ : Sl) (a b : ME) : (exec (.ret (.and_ a b)) ρ).vsat Q X = (ev (.and_ a b) ρ).vsat (fun t ρ1 => Q (.ret t) ρ1) X := y_retV _ _ _ _ rfl
theorem se_andV (X : Xc → Sl → Prop) (ρ : Sl) (a b : ME) (es' : List ME) (Q : List D → Sl → Prop) : (evs ((.and_ a b) :: es') ρ).vsat Q X = (ev (.and_ a b) ρ).vsat (fun t ρ1 => (evs es' ρ1).vsat (fun ds ρ2 => Q (t.d :: ds) ρ2) X) X := se_consV _ _ _ _ _ rfl
theorem so_orV (X : Xc → Sl → Prop) (ρ : Sl) (Q : Opd → Sl → Prop) (a b : ME) : satOV (.or_ a b) ρ Q X = (ev (.or_ a b) ρ).vsat (fun t ρ1 => Q (.tmp t) ρ1) X := so_eV _ _ _ _ rfl
theorem xr_orV (Q : Fl → Sl → Prop) (X : Xc → Sl → Prop) (ρ : Sl) (a b : ME) : (exec (.ret (.or_ a b)) ρ).vsat Q X = (ev (.or_ a b) ρ).vsat (fun t ρ1 => Q (.ret t) ρ1) X := y_retV _ _ _ _ rfl
theorem se_orV (X : Xc → Sl → Prop) (ρ : Sl) (a b : ME) (es' : List ME) (Q : List D → Sl → Prop) : (evs ((.or_ a b) :: es') ρ).vsat Q X = (ev (.or_ a b) ρ).vsat (fun t ρ1 => (evs es' ρ1).vsat (fun ds ρ2 => Q (t.d :: ds) ρ2) X) X := se_consV _ _ _ _ _ rfl
theorem so_notV (X : Xc → Sl → Prop) (ρ : Sl) (Q : Opd → Sl → Prop) (a : ME) : satOV (.not_ a) ρ Q X = (ev (.not_ a) ρ).vsat (fun t ρ1 => Q (.tmp t) ρ1) X := so_eV _ _ _ _ rfl
theorem xr_notV (Q : Fl → Sl → Prop) (X : Xc → Sl → Prop) (ρ : Sl) (a : ME) : (exec (.ret (.not_ a)) ρ).vsat Q X = (ev (.not_ a) ρ).vsat (fun t ρ1 => Q (.ret t) ρ1) X := y_retV _ _ _ _ rfl
theorem se_notV (X : Xc → Sl → Prop) (ρ : Sl) (a : ME) (es' : List ME) (Q : List D → Sl → Prop) : (evs ((.not_ a) :: es') ρ).vsat Q X = (ev (.not_ a) ρ).vsat (fun t ρ1 => (evs es' ρ1).vsat (fun ds ρ2 => Q (t.d :: ds) ρ2) X) X := se_consV _ _ _ _ _ rfl
theorem so_iteV (X : Xc → Sl → Prop) (ρ : Sl) (Q : Opd → Sl → Prop) (c a b : ME) : satOV (.ite c a b) ρ Q X = (ev (.ite c a b) ρ).vsat (fun t ρ1 => Q (.tmp t) ρ1) X := so_eV _ _ _ _ rfl
theorem xr_iteV (Q : Fl → Sl → Prop) (X : Xc → Sl → Prop) (ρ : Sl) (c a b : ME) : (exec (.ret (.ite c a b)) ρ).vsat Q X = (ev (.ite c a b) ρ).vsat (fun t ρ1 => Q (.ret t) ρ1) X := y_retV _ _ _ _ rfl
theorem se_iteV (X : Xc → Sl → Prop) (ρ : Sl) (c a b : ME) (es' : List ME) (Q : List D → Sl → Prop) : (evs ((.ite c a b) :: es') ρ).vsat Q X = (ev (.ite c a b) ρ).vsat (fun t ρ1 => (evs es' ρ1).vsat (fun ds ρ2 => Q (t.d :: ds) ρ2) X) X := se_consV _ _ _ _ _ rfl
theorem so_tupV (X : Xc → Sl → Prop) (ρ : Sl) (Q : Opd → Sl → Prop) (es : List ME) : satOV (.tup es) ρ Q X = (ev (.tup es) ρ).vsat (fun t ρ1 => Q (.tmp t) ρ1) X := so_eV _ _ _ _ rfl
theorem xr_tupV (Q : Fl → Sl → Prop) (X : Xc → Sl → Prop) (ρ : Sl) (es : List ME) : (exec (.ret (.tup es)) ρ).vsat Q X = (ev (.tup es) ρ).vsat (fun t ρ1 => Q (.ret t) ρ1) X := y_retV _ _ _ _ rfl
theorem se_tupV (X : Xc → Sl → Prop) (ρ : Sl) (es : List ME) (es' : List ME) (Q : List D → Sl → Prop) : (evs ((.tup es) :: es') ρ).vsat Q X = (ev (.tup es) ρ).vsat (fun t ρ1 => (evs es' ρ1).vsat (fun ds ρ2 => Q (t.d :: ds) ρ2) X) X := se_consV _ _ _ _ _ rfl
theorem so_lstV (X : Xc → Sl → Prop) (ρ : Sl) (Q : Opd → Sl → Prop) (es : List ME) : satOV (.lst es) ρ Q X = (ev (.lst es) ρ).vsat (fun t ρ1 => Q (.tmp t) ρ1) X := so_eV _ _ _ _ rfl
theorem xr_lstV (Q : Fl → Sl → Prop) (X : Xc → Sl → Prop) (ρ : Sl) (es : List ME) : (exec (.ret (.lst es)) ρ).vsat Q X = (ev (.lst es) ρ).vsat (fun t ρ1 => Q (.ret t) ρ1) X := y_retV _ _ _ _ rfl
theorem se_lstV (X : Xc → Sl → Prop) (ρ : Sl) (es : List ME) (es' : List ME) (Q : List D → Sl → Prop) : (evs ((.lst es) :: es') ρ).vsat Q X = (ev (.lst es) ρ).vsat (fun t ρ1 => (evs es' ρ1).vsat (fun ds ρ2 => Q (t.d :: ds) ρ2) X) X := se_consV _ _ _ _ _ rfl
theorem so_dctV (X : Xc → Sl → Prop) (ρ : Sl) (Q : Opd → Sl → Prop) (t : Bool) (kvs : List ME) : satOV (.dct t kvs) ρ Q X = (ev (.dct t kvs) ρ).vsat (fun t ρ1 => Q (.tmp t) ρ1) X := so_eV _ _ _ _ rfl
theorem xr_dctV (Q : Fl → Sl → Prop) (X : Xc → Sl → Prop) (ρ : Sl) (t : Bool) (kvs : List ME) : (exec (.ret (.dct t kvs)) ρ).vsat Q X = (ev (.dct t kvs) ρ).vsat (fun t ρ1 => Q (.ret t) ρ1) X := y_retV _ _ _ _ rfl
theorem se_dctV (X : Xc → Sl → Prop) (ρ : Sl) (t : Bool) (kvs : List ME) (es' : List ME) (Q : List D → Sl → Prop) : (evs ((.dct t kvs) :: es') ρ).vsat Q X = (ev (.dct t kvs) ρ).vsat (fun t ρ1 => (evs es' ρ1).vsat (fun ds ρ2 => Q (t.d :: ds) ρ2) X) X := se_consV _ _ _ _ _ rfl
theorem so_subV (X : Xc → Sl → Prop) (ρ : Sl) (Q : Opd → Sl → Prop) (a b : ME) : satOV (.sub a b) ρ Q X = (ev (.sub a b) ρ).vsat (fun t ρ1 => Q (.tmp t) ρ1) X := so_eV _ _ _ _ rfl
theorem xr_subV (Q : Fl → Sl → Prop) (X : Xc → Sl → Prop) (ρ : Sl) (a b : ME) : (exec (.ret (.sub a b)) ρ).vsat Q X = (ev (.sub a b) ρ).vsat (fun t ρ1 => Q (.ret t) ρ1) X := y_retV _ _ _ _ rfl
theorem se_subV (X : Xc → Sl → Prop) (ρ : Sl) (a b : ME) (es' : List ME) (Q : List D → Sl → Prop) : (evs ((.sub a b) :: es') ρ).vsat Q X = (ev (.sub a b) ρ).vsat (fun t ρ1 => (evs es' ρ1).vsat (fun ds ρ2 => Q (t.d :: ds) ρ2) X) X := se_consV _ _ _ _ _ rfl
theorem so_sliceV (X : Xc → Sl → Prop) (ρ : Sl) (Q : Opd → Sl → Prop) (a : ME) (lo hi : Option ME) : satOV (.slice a lo hi) ρ Q X = (ev (.slice a lo hi) ρ).vsat (fun t ρ1 => Q (.tmp t) ρ1) X := so_eV _ _ _ _ rfl
theorem so_slice3V (X : Xc → Sl → Prop) (ρ : Sl) (Q : Opd → Sl → Prop) (a : ME) (lo hi st : Option ME) : satOV (.slice3 a lo hi st) ρ Q X = (ev (.slice3 a lo hi st) ρ).vsat (fun t ρ1 => Q (.tmp t) ρ1) X := so_eV _ _ _ _ rfl
theorem xr_sliceV (Q : Fl → Sl → Prop) (X : Xc → Sl → Prop) (ρ : Sl) (a : ME) (lo hi : Option ME) : (exec (.ret (.slice a lo hi)) ρ).vsat Q X = (ev (.slice a lo hi) ρ).vsat (fun t ρ1 => Q (.ret t) ρ1) X := y_retV _ _ _ _ rfl
theorem xr_slice3V (Q : Fl → Sl → Prop) (X : Xc → Sl → Prop) (ρ : Sl) (a : ME) (lo hi st : Option ME) : (exec (.ret (.slice3 a lo hi st)) ρ).vsat Q X = (ev (.slice3 a lo hi st) ρ).vsat (fun t ρ1 => Q (.ret t) ρ1) X := y_retV _ _ _ _ rfl
theorem se_sliceV (X : Xc → Sl → Prop) (ρ : Sl) (a : ME) (lo hi : Option ME) (es' : List ME) (Q : List D → Sl → Prop) : (evs ((.slice a lo hi) :: es') ρ).vsat Q X = (ev (.slice a lo hi) ρ).vsat (fun t ρ1 => (evs es' ρ1).vsat (fun ds ρ2 => Q (t.d :: ds) ρ2) X) X := se_consV _ _ _ _ _ rfl
theorem se_slice3V (X : Xc → Sl → Prop) (ρ : Sl) (a : ME) (lo hi st : Option ME) (es' : List ME) (Q : List D → Sl → Prop) : (evs ((.slice3 a lo hi st) :: es') ρ).vsat Q X = (ev (.slice3 a lo hi st) ρ).vsat (fun t ρ1 => (evs es' ρ1).vsat (fun ds ρ2 => Q (t.d :: ds) ρ2) X) X := se_consV _ _ _ _ _ rfl
theorem so_fldV (X : Xc → Sl → Prop) (ρ : Sl) (Q : Opd → Sl → Prop) (a : ME) (f : Str) (cs : List Str) : satOV (.fld a f cs) ρ Q X = (ev (.fld a f cs) ρ).vsat (fun t ρ1 => Q (.tmp t) ρ1) X := so_eV _ _ _ _ rfl
theorem xr_fldV (Q : Fl → Sl → Prop) (X : Xc → Sl → Prop) (ρ : Sl) (a : ME) (f : Str) (cs : List Str) : (exec (.ret (.fld a f cs)) ρ).vsat Q X = (ev (.fld a f cs) ρ).vsat (fun t ρ1 => Q (.ret t) ρ1) X := y_retV _ _ _ _ rfl
theorem se_fldV (X : Xc → Sl → Prop) (ρ : Sl) (a : ME) (f : Str) (cs : List Str) (es' : List ME) (Q : List D → Sl → Prop) : (evs ((.fld a f cs) :: es') ρ).vsat Q X = (ev (.fld a f cs) ρ).vsat (fun t ρ1 => (evs es' ρ1).vsat (fun ds ρ2 => Q (t.d :: ds) ρ2) X) X := se_consV _ _ _ _ _ rfl
theorem so_callV (X : Xc → Sl → Prop) (ρ : Sl) (Q : Opd → Sl → Prop) (f : FS) (args : List ME) : satOV (.call f args) ρ Q X = (ev (.call f args) ρ).vsat (fun t ρ1 => Q (.tmp t) ρ1) X := so_eV _ _ _ _ rfl
theorem xr_callV (Q : Fl → Sl → Prop) (X : Xc → Sl → Prop) (ρ : Sl) (f : FS) (args : List ME) : (exec (.ret (.call f args)) ρ).vsat Q X = (ev (.call f args) ρ).vsat (fun t ρ1 => Q (.ret t) ρ1) X := y_retV _ _ _ _ rfl
theorem se_callV (X : Xc → Sl → Prop) (ρ : Sl) (f : FS) (args : List ME) (es' : List ME) (Q : List D → Sl → Prop) : (evs ((.call f args) :: es') ρ).vsat Q X = (ev (.call f args) ρ).vsat (fun t ρ1 => (evs es' ρ1).vsat (fun ds ρ2 => Q (t.d :: ds) ρ2) X) X := se_consV _ _ _ _ _ rfl
theorem so_newV (X : Xc → Sl → Prop) (ρ : Sl) (Q : Opd → Sl → Prop) (c : Str) (f : FS) (args : List ME) : satOV (.new c f args) ρ Q X = (ev (.new c f args) ρ).vsat (fun t ρ1 => Q (.tmp t) ρ1) X := so_eV _ _ _ _ rfl
theorem xr_newV (Q : Fl → Sl → Prop) (X : Xc → Sl → Prop) (ρ : Sl) (c : Str) (f : FS) (args : List ME) : (exec (.ret (.new c f args)) ρ).vsat Q X = (ev (.new c f args) ρ).vsat (fun t ρ1 => Q (.ret t) ρ1) X := y_retV _ _ _ _ rfl
theorem se_newV (X : Xc → Sl → Prop) (ρ : Sl) (c : Str) (f : FS) (args : List ME) (es' : List ME) (Q : List D → Sl → Prop) : (evs ((.new c f args) :: es') ρ).vsat Q X = (ev (.new c f args) ρ).vsat (fun t ρ1 => (evs es' ρ1).vsat (fun ds ρ2 => Q (t.d :: ds) ρ2) X) X := se_consV _ _ _ _ _ rfl
theorem so_methV (X : Xc → Sl → Prop) (ρ : Sl) (Q : Opd → Sl → Prop) (cs : List (Str × FS)) (o : ME) (args : List ME) : satOV (.meth cs o args) ρ Q X = (ev (.meth cs o args) ρ).vsat (fun t ρ1 => Q (.tmp t) ρ1) X := so_eV _ _ _ _ rfl
theorem xr_methV (Q : Fl → Sl → Prop) (X : Xc → Sl → Prop) (ρ : Sl) (cs : List (Str × FS)) (o : ME) (args : List ME) : (exec (.ret (.meth cs o args)) ρ).vsat Q X = (ev (.meth cs o args) ρ).vsat (fun t ρ1 => Q (.ret t) ρ1) X := y_retV _ _ _ _ rfl
theorem se_methV (X : Xc → Sl → Prop) (ρ : Sl) (cs : List (Str × FS)) (o : ME) (args : List ME) (es' : List ME) (Q : List D → Sl → Prop) : (evs ((.meth cs o args) :: es') ρ).vsat Q X = (ev (.meth cs o args) ρ).vsat (fun t ρ1 => (evs es' ρ1).vsat (fun ds ρ2 => Q (t.d :: ds) ρ2) X) X := se_consV _ _ _ _ _ rfl
theorem so_newKV (X : Xc → Sl → Prop) (ρ : Sl) (Q : Opd → Sl → Prop) (c : Str) (f : FS) (kn : List Str) (pm : List Nat) (args : List ME) : satOV (.newK c f kn pm args) ρ Q X = (ev (.newK c f kn pm args) ρ).vsat (fun t ρ1 => Q (.tmp t) ρ1) X := so_eV _ _ _ _ rfl
theorem xr_newKV (Q : Fl → Sl → Prop) (X : Xc → Sl → Prop) (ρ : Sl) (c : Str) (f : FS) (kn : List Str) (pm : List Nat) (args : List ME) : (exec (.ret (.newK c f kn pm args)) ρ).vsat Q X = (ev (.newK c f kn pm args) ρ).vsat (fun t ρ1 => Q (.ret t) ρ1) X := y_retV _ _ _ _ rfl
theorem se_newKV (X : Xc → Sl → Prop) (ρ : Sl) (c : Str) (f : FS) (kn : List Str) (pm : List Nat) (args : List ME) (es' : List ME) (Q : List D → Sl → Prop) : (evs ((.newK c f kn pm args) :: es') ρ).vsat Q X = (ev (.newK c f kn pm args) ρ).vsat (fun t ρ1 => (evs es' ρ1).vsat (fun ds ρ2 => Q (t.d :: ds) ρ2) X) X := se_consV _ _ _ _ _ rfl
theorem so_methWV (X : Xc → Sl → Prop) (ρ : Sl) (Q : Opd → Sl → Prop) (cs : List (Str × FS)) (kn : List Str) (pm : List Nat) (o : ME) (args : List ME) : satOV (.methW cs kn pm o args) ρ Q X = (ev (.methW cs kn pm o args) ρ).vsat (fun t ρ1 => Q (.tmp t) ρ1) X := so_eV _ _ _ _ rfl
theorem xr_methWV (Q : Fl → Sl → Prop) (X : Xc → Sl → Prop) (ρ : Sl) (cs : List (Str × FS)) (kn : List Str) (pm : List Nat) (o : ME) (args : List ME) : (exec (.ret (.methW cs kn pm o args)) ρ).vsat Q X = (ev (.methW cs kn pm o args) ρ).vsat (fun t ρ1 => Q (.ret t) ρ1) X := y_retV _ _ _ _ rfl
theorem se_methWV (X : Xc → Sl → Prop) (ρ : Sl) (cs : List (Str × FS)) (kn : List Str) (pm : List Nat) (o : ME) (args : List ME) (es' : List ME) (Q : List D → Sl → Prop) : (evs ((.methW cs kn pm o args) :: es') ρ).vsat Q X = (ev (.methW cs kn pm o args) ρ).vsat (fun t ρ1 => (evs es' ρ1).vsat (fun ds ρ2 => Q (t.d :: ds) ρ2) X) X := se_consV _ _ _ _ _ rfl
theorem so_joinV (X : Xc → Sl → Prop) (ρ : Sl) (Q : Opd → Sl → Prop) (o l : ME) : satOV (.join o l) ρ Q X = (ev (.join o l) ρ).vsat (fun t ρ1 => Q (.tmp t) ρ1) X := so_eV _ _ _ _ rfl
theorem xr_joinV (Q : Fl → Sl → Prop) (X : Xc → Sl → Prop) (ρ : Sl) (o l : ME) : (exec (.ret (.join o l)) ρ).vsat Q X = (ev (.join o l) ρ).vsat (fun t ρ1 => Q (.ret t) ρ1) X := y_retV _ _ _ _ rfl
theorem se_joinV (X : Xc → Sl → Prop) (ρ : Sl) (o l : ME) (es' : List ME) (Q : List D → Sl → Prop) : (evs ((.join o l) :: es') ρ).vsat Q X = (ev (.join o l) ρ).vsat (fun t ρ1 => (evs es' ρ1).vsat (fun ds ρ2 => Q (t.d :: ds) ρ2) X) X := se_consV _ _ _ _ _ rfl
theorem so_biV (X : Xc → Sl → Prop) (ρ : Sl) (Q : Opd → Sl → Prop) (b : Bi) (args : List ME) : satOV (.bi b args) ρ Q X = (ev (.bi b args) ρ).vsat (fun t ρ1 => Q (.tmp t) ρ1) X := so_eV _ _ _ _ rfl
theorem xr_biV (Q : Fl → Sl → Prop) (X : Xc → Sl → Prop) (ρ : Sl) (b : Bi) (args : List ME) : (exec (.ret (.bi b args)) ρ).vsat Q X = (ev (.bi b args) ρ).vsat (fun t ρ1 => Q (.ret t) ρ1) X := y_retV _ _ _ _ rfl
theorem se_biV (X : Xc → Sl → Prop) (ρ : Sl) (b : Bi) (args : List ME) (es' : List ME) (Q : List D → Sl → Prop) : (evs ((.bi b args) :: es') ρ).vsat Q X = (ev (.bi b args) ρ).vsat (fun t ρ1 => (evs es' ρ1).vsat (fun ds ρ2 => Q (t.d :: ds) ρ2) X) X := se_consV _ _ _ _ _ rfl
theorem so_bmV (X : Xc → Sl → Prop) (ρ : Sl) (Q : Opd → Sl → Prop) (m : Bm) (o : ME) (args : List ME) : satOV (.bm m o args) ρ Q X = (ev (.bm m o args) ρ).vsat (fun t ρ1 => Q (.tmp t) ρ1) X := so_eV _ _ _ _ rfl
theorem xr_bmV (Q : Fl → Sl → Prop) (X : Xc → Sl → Prop) (ρ : Sl) (m : Bm) (o : ME) (args : List ME) : (exec (.ret (.bm m o args)) ρ).vsat Q X = (ev (.bm m o args) ρ).vsat (fun t ρ1 => Q (.ret t) ρ1) X := y_retV _ _ _ _ rfl
theorem se_bmV (X : Xc → Sl → Prop) (ρ : Sl) (m : Bm) (o : ME) (args : List ME) (es' : List ME) (Q : List D → Sl → Prop) : (evs ((.bm m o args) :: es') ρ).vsat Q X = (ev (.bm m o args) ρ).vsat (fun t ρ1 => (evs es' ρ1).vsat (fun ds ρ2 => Q (t.d :: ds) ρ2) X) X := se_consV _ _ _ _ _ rfl
theorem so_mtV (X : Xc → Sl → Prop) (ρ : Sl) (Q : Opd → Sl → Prop) (m : Mt) (x : Nat) (args : List ME) : satOV (.mt m x args) ρ Q X = (ev (.mt m x args) ρ).vsat (fun t ρ1 => Q (.tmp t) ρ1) X := so_eV _ _ _ _ rfl
theorem xr_mtV (Q : Fl → Sl → Prop) (X : Xc → Sl → Prop) (ρ : Sl) (m : Mt) (x : Nat) (args : List ME) : (exec (.ret (.mt m x args)) ρ).vsat Q X = (ev (.mt m x args) ρ).vsat (fun t ρ1 => Q (.ret t) ρ1) X := y_retV _ _ _ _ rfl
theorem se_mtV (X : Xc → Sl → Prop) (ρ : Sl) (m : Mt) (x : Nat) (args : List ME) (es' : List ME) (Q : List D → Sl → Prop) : (evs ((.mt m x args) :: es') ρ).vsat Q X = (ev (.mt m x args) ρ).vsat (fun t ρ1 => (evs es' ρ1).vsat (fun ds ρ2 => Q (t.d :: ds) ρ2) X) X := se_consV _ _ _ _ _ rfl
theorem so_compV (X : Xc → Sl → Prop) (ρ : Sl) (Q : Opd → Sl → Prop) (tg : Tg) (k : ItK) (it : List ME) (cond : Option ME) (elt : ME) (ws : List Nat) : satOV (.comp tg k it cond elt ws) ρ Q X = (ev (.comp tg k it cond elt ws) ρ).vsat (fun t ρ1 => Q (.tmp t) ρ1) X := so_eV _ _ _ _ rfl
theorem xr_compV (Q : Fl → Sl → Prop) (X : Xc → Sl → Prop) (ρ : Sl) (tg : Tg) (k : ItK) (it : List ME) (cond : Option ME) (elt : ME) (ws : List Nat) : (exec (.ret (.comp tg k it cond elt ws)) ρ).vsat Q X = (ev (.comp tg k it cond elt ws) ρ).vsat (fun t ρ1 => Q (.ret t) ρ1) X := y_retV _ _ _ _ rfl
theorem se_compV (X : Xc → Sl → Prop) (ρ : Sl) (tg : Tg) (k : ItK) (it : List ME) (cond : Option ME) (elt : ME) (ws : List Nat) (es' : List ME) (Q : List D → Sl → Prop) : (evs ((.comp tg k it cond elt ws) :: es') ρ).vsat Q X = (ev (.comp tg k it cond elt ws) ρ).vsat (fun t ρ1 => (evs es' ρ1).vsat (fun ds ρ2 => Q (t.d :: ds) ρ2) X) X := se_consV _ _ _ _ _ rfl
theorem so_compKV (X : Xc → Sl → Prop) (ρ : Sl) (Q : Opd → Sl → Prop) (tg : Tg) (x : Nat) (cond : Option ME) (elt : ME) (ws : List Nat) : satOV (.compK tg x cond elt ws) ρ Q X = (ev (.compK tg x cond elt ws) ρ).vsat (fun t ρ1 => Q (.tmp t) ρ1) X := so_eV _ _ _ _ rfl
theorem xr_compKV (Q : Fl → Sl → Prop) (X : Xc → Sl → Prop) (ρ : Sl) (tg : Tg) (x : Nat) (cond : Option ME) (elt : ME) (ws : List Nat) : (exec (.ret (.compK tg x cond elt ws)) ρ).vsat Q X = (ev (.compK tg x cond elt ws) ρ).vsat (fun t ρ1 => Q (.ret t) ρ1) X := y_retV _ _ _ _ rfl
theorem se_compKV (X : Xc → Sl → Prop) (ρ : Sl) (tg : Tg) (x : Nat) (cond : Option ME) (elt : ME) (ws : List Nat) (es' : List ME) (Q : List D → Sl → Prop) : (evs ((.compK tg x cond elt ws) :: es') ρ).vsat Q X = (ev (.compK tg x cond elt ws) ρ).vsat (fun t ρ1 => (evs es' ρ1).vsat (fun ds ρ2 => Q (t.d :: ds) ρ2) X) X := se_consV _ _ _ _ _ rfl
theorem so_dcompV (X : Xc → Sl → Prop) (ρ : Sl) (Q : Opd → Sl → Prop) (tg : Tg) (k : ItK) (it : List ME) (kx vx : ME) (ws : List Nat) : satOV (.dcomp tg k it kx vx ws) ρ Q X = (ev (.dcomp tg k it kx vx ws) ρ).vsat (fun t ρ1 => Q (.tmp t) ρ1) X := so_eV _ _ _ _ rfl
theorem xr_dcompV (Q : Fl → Sl → Prop) (X : Xc → Sl → Prop) (ρ : Sl) (tg : Tg) (k : ItK) (it : List ME) (kx vx : ME) (ws : List Nat) : (exec (.ret (.dcomp tg k it kx vx ws)) ρ).vsat Q X = (ev (.dcomp tg k it kx vx ws) ρ).vsat (fun t ρ1 => Q (.ret t) ρ1) X := y_retV _ _ _ _ rfl
theorem se_dcompV (X : Xc → Sl → Prop) (ρ : Sl) (tg : Tg) (k : ItK) (it : List ME) (kx vx : ME) (ws : List Nat) (es' : List ME) (Q : List D → Sl → Prop) : (evs ((.dcomp tg k it kx vx ws) :: es') ρ).vsat Q X = (ev (.dcomp tg k it kx vx ws) ρ).vsat (fun t ρ1 => (evs es' ρ1).vsat (fun ds ρ2 => Q (t.d :: ds) ρ2) X) X := se_consV _ _ _ _ _ rfl
theorem so_fstrV (X : Xc → Sl → Prop) (ρ : Sl) (Q : Opd → Sl → Prop) (ps : List ME) : satOV (.fstr ps) ρ Q X = (ev (.fstr ps) ρ).vsat (fun t ρ1 => Q (.tmp t) ρ1) X := so_eV _ _ _ _ rfl
theorem xr_fstrV (Q : Fl → Sl → Prop) (X : Xc → Sl → Prop) (ρ : Sl) (ps : List ME) : (exec (.ret (.fstr ps)) ρ).vsat Q X = (ev (.fstr ps) ρ).vsat (fun t ρ1 => Q (.ret t) ρ1) X := y_retV _ _ _ _ rfl
theorem se_fstrV (X : Xc → Sl → Prop) (ρ : Sl) (ps : List ME) (es' : List ME) (Q : List D → Sl → Prop) : (evs ((.fstr ps) :: es') ρ).vsat Q X = (ev (.fstr ps) ρ).vsat (fun t ρ1 => (evs es' ρ1).vsat (fun ds ρ2 => Q (t.d :: ds) ρ2) X) X := se_consV _ _ _ _ _ rfl
theorem se_varV (X : Xc → Sl → Prop) (ρ : Sl) (i : Nat) (es' : List ME) (Q : List D → Sl → Prop) : (evs ((.var i) :: es') ρ).vsat Q X = (ev (.var i) ρ).vsat (fun t ρ1 => (evs es' ρ1).vsat (fun ds ρ2 => Q (t.d :: ds) ρ2) X) X := se_consV _ _ _ _ _ rfl
end Mi

set_option Elab.async false
set_option linter.all false
set_option maxRecDepth 100000
/-! W1: the same, so that simp does not go into what comes behind. -/
namespace Mi
open PySem L2
class Fx {α : Sort u} (a : α) : Type where
instance Fx.i {α : Sort u} (a : α) : Fx a := {}
section
variable {α β : Type}
def R.sat (r : R α) (Q : α → Sl → Prop) (X : Xc → Sl → Prop) [Fx Q] [Fx X] : Prop := r.vsat Q X
def FR.sat (r : FR) (Q : T → T → Prop) (X : Xc → T → Prop) [Fx Q] [Fx X] : Prop := r.vsat Q X
def opS (o : Option α) (K : α → Prop) [Fx K] : Prop := opSV o K
theorem opS_some (a : α) (K : α → Prop) : opS (some a) K = K a := by
  apply opS_someV
theorem opS_none (K : α → Prop) : opS (none : Option α) K = False := by
  apply opS_noneV
theorem opS_map (o : Option α) (f : α → β) (K : β → Prop) : opS (o.map f) K = opS o (fun a => K (f a)) := by
  apply opS_mapV
theorem opS_mono {o : Option α} {K K' : α → Prop} (h : opS o K) (g : ∀ a, K a → K' a) : opS o K' := by
  apply opS_monoV
  all_goals first | assumption | skip
def Gq (b : Bool) (K : Prop) [Fx K] : Prop := GqV b K
theorem Gd_true (K : Prop) : Gq true K = K := by
  apply Gd_trueV
theorem Gd_intro {b : Bool} {K : Prop} (h : b = true) (k : K) : Gq b K := by
  apply Gd_introV
  all_goals first | assumption | skip
def Br (b : Bool) (K1 K2 : Prop) [Fx K1] [Fx K2] : Prop := BrV b K1 K2
theorem Br_true (K1 K2 : Prop) : Br true K1 K2 = K1 := by
  apply Br_trueV
theorem Br_false (K1 K2 : Prop) : Br false K1 K2 = K2 := by
  apply Br_falseV
theorem Br_intro {b : Bool} {K1 K2 : Prop} (h1 : b = true → K1) (h2 : b = false → K2) : Br b K1 K2 := by
  apply Br_introV
  all_goals first | assumption | skip
theorem Br_dec {p : Prop} [Decidable p] {K1 K2 : Prop} (h1 : p → K1) (h2 : ¬p → K2) : Br (decide p) K1 K2 := by
  apply Br_decV
  all_goals first | assumption | skip
theorem Br_same {b : Bool} {K : Prop} (h : K) : Br b K K := by
  apply Br_sameV
  all_goals first | assumption | skip
def slotK (ρ : Sl) (i : Nat) (K : T → Prop) [Fx K] : Prop := slotKV ρ i K
theorem slotK_zero (t : T) (ρ : Sl) (K : T → Prop) : slotK (some t :: ρ) 0 K = K t := by
  apply slotK_zeroV
theorem slotK_succ (o : Option T) (ρ : Sl) (i : Nat) (K : T → Prop) : slotK (o :: ρ) (i + 1) K = slotK ρ i K := by
  apply slotK_succV
def setK (ρ : Sl) (i : Nat) (v : Option T) (K : Sl → Prop) [Fx K] : Prop := setKV ρ i v K
theorem setK_nil (i : Nat) (v : Option T) (K : Sl → Prop) : setK [] i v K = K [] := by
  apply setK_nilV
theorem setK_zero (o : Option T) (ρ : Sl) (v : Option T) (K : Sl → Prop) : setK (o :: ρ) 0 v K = K (v :: ρ) := by
  apply setK_zeroV
theorem setK_succ (o : Option T) (ρ : Sl) (i : Nat) (v : Option T) (K : Sl → Prop) : setK (o :: ρ) (i + 1) v K = setK ρ i v (fun r => K (o :: r)) := by
  apply setK_succV
def drK (o : Opd) (ρ : Sl) (K : D → Prop) [Fx K] : Prop := drKV o ρ K
theorem drK_tmp (t : T) (ρ : Sl) (K : D → Prop) : drK (.tmp t) ρ K = K t.d := by
  apply drK_tmpV
theorem drK_slot (i : Nat) (ρ : Sl) (K : D → Prop) : drK (.slot i) ρ K = slotK ρ i (fun t => K t.d) := by
  apply drK_slotV
def drKs (os : List Opd) (ρ : Sl) (K : List D → Prop) [Fx K] : Prop := drKsV os ρ K
theorem drKs_nil (ρ : Sl) (K : List D → Prop) : drKs [] ρ K = K [] := by
  apply drKs_nilV
theorem drKs_cons (o : Opd) (os : List Opd) (ρ : Sl) (K : List D → Prop) : drKs (o :: os) ρ K = drK o ρ (fun d => drKs os ρ (fun ds => K (d :: ds))) := by
  apply drKs_consV
def asB (d : D) (K : Bool → Prop) [Fx K] : Prop := asBV d K
theorem asB_bl (b : Bool) (K : Bool → Prop) : asB (.bl b) K = K b := by
  apply asB_blV
def asI (d : D) (K : Int → Prop) [Fx K] : Prop := asIV d K
theorem asI_int (b : Int) (K : Int → Prop) : asI (.int b) K = K b := by
  apply asI_intV
theorem sat_bind (r : R α) (f : α → Sl → R β) (Q : β → Sl → Prop) (X : Xc → Sl → Prop) : (r.bind f).sat Q X = r.sat (fun a ρ => (f a ρ).sat Q X) X := by
  apply sat_bindV
theorem sat_opt (o : Option α) (ρ : Sl) (Q : α → Sl → Prop) (X : Xc → Sl → Prop) : (R.opt o ρ).sat Q X = opS o (fun a => Q a ρ) := by
  apply sat_optV
theorem sat_ok (a : α) (ρ : Sl) (Q : α → Sl → Prop) (X : Xc → Sl → Prop) : (R.ok a ρ).sat Q X = Q a ρ := by
  apply sat_okV
theorem sat_bad (Q : α → Sl → Prop) (X : Xc → Sl → Prop) : (R.bad : R α).sat Q X = False := by
  apply sat_badV
theorem sat_exc (x : Xc) (ρ : Sl) (Q : α → Sl → Prop) (X : Xc → Sl → Prop) : (R.exc x ρ : R α).sat Q X = X x ρ := by
  apply sat_excV
theorem sat_mono {r : R α} {Q Q' : α → Sl → Prop} {X X' : Xc → Sl → Prop} (h : r.sat Q X) (g : ∀ a ρ, Q a ρ → Q' a ρ) (g2 : ∀ x ρ, X x ρ → X' x ρ) : r.sat Q' X' := by
  apply sat_monoV
  all_goals first | assumption | skip
theorem FR.sat_mono {r : FR} {Q Q' : T → T → Prop} {X X' : Xc → T → Prop} (h : r.sat Q X) (g : ∀ a ρ, Q a ρ → Q' a ρ) (g2 : ∀ x ρ, X x ρ → X' x ρ) : r.sat Q' X' := by
  apply FR.sat_monoV
  all_goals first | assumption | skip
theorem FR.use {r : FR} {Q Q' : T → T → Prop} {X' : Xc → T → Prop} (h : r.sat Q NX) (g : ∀ a ρ, Q a ρ → Q' a ρ) : r.sat Q' X' := by
  apply FR.useV
  all_goals first | assumption | skip
theorem FR.sat_ret {f : FR} {t o : T} (h : f = .ret t o) (Q : T → T → Prop) (X : Xc → T → Prop) (q : Q t o) : f.sat Q X := by
  apply FR.sat_retV
  all_goals first | assumption | skip
theorem FR.ex {f : FR} {Q : T → T → Prop} (h : f.sat Q NX) : ∃ t o, f = .ret t o ∧ Q t o := by
  apply FR.exV
  all_goals first | assumption | skip
end
section
variable (Q : T → Sl → Prop) (X : Xc → Sl → Prop) (ρ : Sl)
def shareK (ow : Bool) (ρ : Sl) (i : Nat) (d : D) (K : Sl → Prop) [Fx K] : Prop := shareKV ow ρ i d K
theorem shareK_true (ρ : Sl) (i : Nat) (d : D) (K : Sl → Prop) : shareK true ρ i d K = setK ρ i (some (sh d)) K := by
  apply shareK_trueV
theorem shareK_false (ρ : Sl) (i : Nat) (d : D) (K : Sl → Prop) : shareK false ρ i d K = K ρ := by
  apply shareK_falseV
theorem s_var (i : Nat) : (ev (.var i) ρ).sat Q X = slotK ρ i (fun t => shareK t.ow ρ i t.d (fun ρ1 => Q (sh t.d) ρ1)) := by
  apply s_varV
theorem s_lit (d : D) : (ev (.lit d) ρ).sat Q X = Q (sh d) ρ := by
  apply s_litV
theorem s_glob (x : Str) (d : D) : (ev (.glob x d) ρ).sat Q X = Q (sh d) ρ := by
  apply s_globV
def satO (e : ME) (ρ : Sl) (Q : Opd → Sl → Prop) (X : Xc → Sl → Prop) [Fx Q] [Fx X] : Prop := satOV e ρ Q X
def owK (ow : Bool) (i : Nat) (t : T) (K : Opd → Prop) [Fx K] : Prop := owKV ow i t K
theorem owK_true (i : Nat) (t : T) (K : Opd → Prop) : owK true i t K = K (.slot i) := by
  apply owK_trueV
theorem owK_false (i : Nat) (t : T) (K : Opd → Prop) : owK false i t K = K (.tmp t) := by
  apply owK_falseV
theorem so_var (i : Nat) (Q : Opd → Sl → Prop) : satO (.var i) ρ Q X = slotK ρ i (fun t => owK t.ow i t (fun o => Q o ρ)) := by
  apply so_varV
theorem so_e (e : ME) (Q : Opd → Sl → Prop) (h : isVar e = false) : satO e ρ Q X = (ev e ρ).sat (fun t ρ1 => Q (.tmp t) ρ1) X := by
  apply so_eV
  all_goals first | assumption | skip
theorem s_bin (op : Operator) (cs : List (Str × FS)) (a b : ME) : (ev (.bin op cs a b) ρ).sat Q X = satO a ρ (fun x ρ1 => satO b ρ1 (fun y ρ2 => (opBin op cs x y ρ2).sat Q X) X) X := by
  apply s_binV
theorem s_neg (a : ME) : (ev (.neg a) ρ).sat Q X = (ev a ρ).sat (fun t ρ1 => asI t.d (fun i => Q (sh (.int (-i))) ρ1)) X := by
  apply s_negV
theorem s_cmp (op : CmpOp) (cs : List (Str × FS)) (a b : ME) : (ev (.cmp op cs a b) ρ).sat Q X = satO a ρ (fun x ρ1 => satO b ρ1 (fun y ρ2 => (opCmp op cs x y ρ2).sat Q X) X) X := by
  apply s_cmpV
def brT (t : T) (K1 K2 : Prop) [Fx K1] [Fx K2] : Prop := brTV t K1 K2
theorem brT_bl (o : Bool) (b : Bool) (K1 K2 : Prop) : brT ⟨o, .bl b⟩ K1 K2 = Br b K1 K2 := by
  apply brT_blV
theorem down {α : Type} {r : R α} {f g : α → Sl → Prop} {X : Xc → Sl → Prop} (h : ∀ a ρ, f a ρ = g a ρ) : r.sat f X = r.sat g X := downV h
theorem Br_bl (o b : Bool) {α : Type} {r1 r2 : R α} {K1 K2 : Prop} {Q : α → Sl → Prop} {X : Xc → Sl → Prop} (h1 : r1.sat Q X = K1) (h2 : r2.sat Q X = K2) : (match b with | true => r1 | false => r2).sat Q X = brT ⟨o, .bl b⟩ K1 K2 := by
  apply Br_blV
  all_goals first | assumption | skip
theorem s_cmp2 (op1 op2 : CmpOp) (a b c : ME) : (ev (.cmp2 op1 op2 a b c) ρ).sat Q X = satO a ρ (fun x ρ1 => satO b ρ1 (fun y ρ2 => (opCmp op1 [] x y ρ2).sat (fun r ρ3 => brT r (satO c ρ3 (fun z ρ4 => (opCmp op2 [] y z ρ4).sat Q X) X) (Q (sh (.bl false)) ρ3)) X) X) X := by
  apply s_cmp2V
theorem asB_down (t : T) (ρ : Sl) (f : Bool → T) (Q : T → Sl → Prop) (X : Xc → Sl → Prop) : (R.opt ((truth t).map f) ρ).sat Q X = asB t.d (fun k => Q (f k) ρ) := by
  apply asB_downV
theorem s_and (a b : ME) : (ev (.and_ a b) ρ).sat Q X = (ev a ρ).sat (fun x ρ1 => brT x ((ev b ρ1).sat (fun y ρ2 => asB y.d (fun k => Q (sh (.bl k)) ρ2)) X) (Q (sh (.bl false)) ρ1)) X := by
  apply s_andV
theorem s_or (a b : ME) : (ev (.or_ a b) ρ).sat Q X = (ev a ρ).sat (fun x ρ1 => brT x (Q (sh (.bl true)) ρ1) ((ev b ρ1).sat (fun y ρ2 => asB y.d (fun k => Q (sh (.bl k)) ρ2)) X)) X := by
  apply s_orV
theorem s_not (a : ME) : (ev (.not_ a) ρ).sat Q X = (ev a ρ).sat (fun y ρ2 => asB y.d (fun k => Q (sh (.bl (!k))) ρ2)) X := by
  apply s_notV
theorem s_ite (c a b : ME) : (ev (.ite c a b) ρ).sat Q X = (ev c ρ).sat (fun x ρ1 => brT x ((ev a ρ1).sat Q X) ((ev b ρ1).sat Q X)) X := by
  apply s_iteV
theorem sat_if {α : Type} (b : Bool) (r1 r2 : R α) (Q : α → Sl → Prop) (X : Xc → Sl → Prop) : (if b = true then r1 else r2).sat Q X = Br b (r1.sat Q X) (r2.sat Q X) := by
  apply sat_ifV
theorem sat_gd {α : Type} (b : Bool) (r1 : R α) (Q : α → Sl → Prop) (X : Xc → Sl → Prop) : (if b = true then r1 else .bad).sat Q X = Gq b (r1.sat Q X) := by
  apply sat_gdV
theorem s_tup (es : List ME) : (ev (.tup es) ρ).sat Q X = (evs es ρ).sat (fun ds ρ1 => Gq (szOk ds.length) (Q (sh (.tup ds)) ρ1)) X := by
  apply s_tupV
theorem s_lst (es : List ME) : (ev (.lst es) ρ).sat Q X = (evs es ρ).sat (fun ds ρ1 => Gq (szOk ds.length) (Q (own (.lst ds)) ρ1)) X := by
  apply s_lstV
theorem s_dct (t : Bool) (es : List ME) : (ev (.dct t es) ρ).sat Q X = (evs es ρ).sat (fun ds ρ1 => opS (evKeys t ds) (fun d => Q (own d) ρ1)) X := by
  apply s_dctV
theorem s_sub (a b : ME) : (ev (.sub a b) ρ).sat Q X = satO a ρ (fun x ρ1 => satO b ρ1 (fun y ρ2 => drK x ρ2 (fun d => drK y ρ2 (fun k => opS (ixD d k) (fun v => Q (sh v) ρ2)))) X) X := by
  apply s_subV
def satI (o : Option ME) (ρ : Sl) (Q : Option Int → Sl → Prop) (X : Xc → Sl → Prop) [Fx Q] [Fx X] : Prop := satIV o ρ Q X
theorem si_none (Q : Option Int → Sl → Prop) : satI none ρ Q X = Q none ρ := by
  apply si_noneV
theorem si_some (e : ME) (Q : Option Int → Sl → Prop) : satI (some e) ρ Q X = (ev e ρ).sat (fun t ρ1 => asI t.d (fun i => Q (some i) ρ1)) X := by
  apply si_someV
theorem s_slice (a : ME) (lo hi : Option ME) : (ev (.slice a lo hi) ρ).sat Q X = satO a ρ (fun x ρ1 => satI lo ρ1 (fun l ρ2 => satI hi ρ2 (fun h ρ3 => drK x ρ3 (fun d => opS (sliceD d l h) (fun t => Q t ρ3))) X) X) X := by
  apply s_sliceV
theorem s_slice3 (a : ME) (lo hi st : Option ME) : (ev (.slice3 a lo hi st) ρ).sat Q X = satO a ρ (fun x ρ1 => satI lo ρ1 (fun l ρ2 => satI hi ρ2 (fun h ρ3 => satI st ρ3 (fun z ρ4 => drK x ρ4 (fun d => opS (sliceD3 d l h z) (fun t => Q t ρ4))) X) X) X) X := by
  apply s_slice3V
def fldK (f : Str) (d : D) (cs : List Str) (K : D → Prop) [Fx K] : Prop := fldKV f d cs K
theorem fldK_obj (f c : Str) (fs : List (Str × D)) (cs : List Str) (K : D → Prop) : fldK f (.obj c fs) cs K = Gq (cs.contains c) (opS (fs.lookup f) K) := by
  apply fldK_objV
theorem s_fld (a : ME) (f : Str) (cs : List Str) : (ev (.fld a f cs) ρ).sat Q X = satO a ρ (fun x ρ1 => drK x ρ1 (fun d => fldK f d cs (fun v => Q (sh v) ρ1))) X := by
  apply s_fldV
def callK (f : FS) (ts : List T) (Q : T → T → Prop) (X : Xc → T → Prop) [Fx Q] [Fx X] : Prop := callKV f ts Q X
theorem callK_exact (f : FS) (ts : List T) (Q : T → T → Prop) (X : Xc → T → Prop) (h : ts.length = f.np) : callK f ts Q X = (f.sem ts).sat Q X := by
  apply callK_exactV
  all_goals first | assumption | skip
theorem s_callF (f : FS) (ts : List T) : (callF f ts ρ).sat Q X = Gq (!f.io) (callK f ts (fun t _ => Q t ρ) (fun x _ => X x ρ)) := by
  apply s_callFV
theorem s_callIO_slot (f : FS) (i : Nat) (ts : List T) : (callIO f (.slot i) ts ρ).sat Q X = Gq (f.io && ts.length + 1 == f.np) (slotK ρ i (fun t => (f.sem (t :: ts)).sat (fun r out => setK ρ i (some out) (fun ρ1 => Q r ρ1)) (fun x out => X x (ρ.set i (some out))))) := by
  apply s_callIO_slotV
theorem s_callIO_tmp (f : FS) (t : T) (ts : List T) : (callIO f (.tmp t) ts ρ).sat Q X = Gq (f.io && ts.length + 1 == f.np) ((f.sem (t :: ts)).sat (fun r out => Q r ρ) (fun x out => X x ρ)) := by
  apply s_callIO_tmpV
theorem s_call0 (f : FS) (args : List ME) (h : f.io = false) : (ev (.call f args) ρ).sat Q X = (evs args ρ).sat (fun ds ρ1 => callK f (ds.map sh) (fun t _ => Q t ρ1) (fun x _ => X x ρ1)) X := by
  apply s_call0V
  all_goals first | assumption | skip
theorem s_call1 (f : FS) (a : ME) (as : List ME) (h : f.io = true) : (ev (.call f (a :: as)) ρ).sat Q X = satO a ρ (fun o ρ1 => (evs as ρ1).sat (fun ds ρ2 => (callIO f o (ds.map sh) ρ2).sat Q X) X) X := by
  apply s_call1V
  all_goals first | assumption | skip
def newK (c : Str) (f : FS) (ts : List T) (Q : T → Prop) (X : Xc → Prop) [Fx Q] [Fx X] : Prop := newKV c f ts Q X
theorem s_callIO2 (c : Str) (f : FS) (ts : List T) : (callIO2 c f ts ρ).sat Q X = newK c f ts (fun t => Q t ρ) (fun x => X x ρ) := by
  apply s_callIO2V
theorem s_new (c : Str) (f : FS) (args : List ME) : (ev (.new c f args) ρ).sat Q X = (evs args ρ).sat (fun ds ρ1 => newK c f (ds.map sh) (fun t => Q t ρ1) (fun x => X x ρ1)) X := by
  apply s_newV
theorem s_newK (c : Str) (f : FS) (kn : List Str) (pm : List Nat) (args : List ME) : (ev (.newK c f kn pm args) ρ).sat Q X = (evs args ρ).sat (fun ds ρ1 => Gq (ds.length == kn.length) (opS (permD pm ds) (fun ds' => Gq (ds'.length + 1 == f.np) (newK c f (ds'.map sh) (fun t => Q t ρ1) (fun x => X x ρ1))))) X := by
  apply s_newKV
  all_goals first | assumption | skip
def strK (x : Opd) (K : Str → Prop) [Fx K] : Prop := strKV x K
theorem strK_str (o : Bool) (z : Str) (K : Str → Prop) : strK (.tmp ⟨o, .str z⟩) K = K z := by
  apply strK_strV
theorem s_join' (o l : ME) : (ev (.join o l) ρ).sat Q X = satO o ρ (fun x ρ1 => strK x (fun z => satO l ρ1 (fun y ρ2 => drK y ρ2 (fun d => opS (biD .join [.str z, d]) (fun t => Q t ρ2))) X)) X := by
  apply s_join'V
def methK (cs : List (Str × FS)) (x : Opd) (ρ : Sl) (K : FS → D → Prop) [Fx K] : Prop := methKV cs x ρ K
theorem methK_obj (cs : List (Str × FS)) (c : Str) (fs : List (Str × D)) (ρ : Sl) (K : FS → D → Prop) : methK cs (.tmp ⟨false, .obj c fs⟩) ρ K = opS (fnd cs c) (fun f => Gq (!(fs.lookup f.name).isSome) (K f (.obj c fs))) := by
  apply methK_objV
theorem s_methW (cs : List (Str × FS)) (kn : List Str) (pm : List Nat) (o : ME) (args : List ME) : (ev (.methW cs kn pm o args) ρ).sat Q X = satO o ρ (fun x ρ1 => (evs args ρ1).sat (fun ds ρ2 => Gq (ds.length == kn.length) (opS (permD pm ds) (fun ds' => methK cs x ρ2 (fun f dx => Gq (ds'.length + 1 == f.np) ((callF f ((dx :: ds').map sh) ρ2).sat Q X))))) X) X := by
  apply s_methWV
  all_goals first | assumption | skip
theorem s_meth (cs : List (Str × FS)) (o : ME) (args : List ME) : (ev (.meth cs o args) ρ).sat Q X = satO o ρ (fun x ρ1 => (evs args ρ1).sat (fun ds ρ2 => methK cs x ρ2 (fun f dx => (callF f ((dx :: ds).map sh) ρ2).sat Q X)) X) X := by
  apply s_methV
def satOs (es : List ME) (ρ : Sl) (Q : List Opd → Sl → Prop) (X : Xc → Sl → Prop) [Fx Q] [Fx X] : Prop := satOsV es ρ Q X
theorem sos_nil (Q : List Opd → Sl → Prop) : satOs [] ρ Q X = Q [] ρ := by
  apply sos_nilV
theorem sos_cons (e : ME) (es : List ME) (Q : List Opd → Sl → Prop) : satOs (e :: es) ρ Q X = satO e ρ (fun x ρ1 => satOs es ρ1 (fun os ρ2 => Q (x :: os) ρ2) X) X := by
  apply sos_consV
theorem s_bi (b : Bi) (args : List ME) : (ev (.bi b args) ρ).sat Q X = satOs args ρ (fun os ρ1 => drKs os ρ1 (fun ds => opS (biD b ds) (fun t => Q t ρ1))) X := by
  apply s_biV
theorem s_bm (m : Bm) (o : ME) (args : List ME) : (ev (.bm m o args) ρ).sat Q X = satO o ρ (fun x ρ1 => drK x ρ1 (fun d0 => Gq (bmKind m d0) (satOs args ρ1 (fun os ρ2 => drK x ρ2 (fun d => drKs os ρ2 (fun ds => Gq (bmOs m os) (opS (bmD m d ds) (fun t => Q t ρ2))))) X))) X := by
  apply s_bmV
def mtK (t : T) (K : List D → Prop) [Fx K] : Prop := mtKV t K
theorem mtK_lst (xs : List D) (K : List D → Prop) : mtK ⟨true, .lst xs⟩ K = K xs := by
  apply mtK_lstV
theorem s_mt' (m : Mt) (x : Nat) (args : List ME) : (ev (.mt m x args) ρ).sat Q X = Gq (ownL ρ x) ((evs args ρ).sat (fun ds ρ1 => slotK ρ1 x (fun t => mtK t (fun xs => opS (mtD m xs ds) (fun p => setK ρ1 x (some (own (.lst p.1))) (fun ρ2 => Q (sh p.2) ρ2))))) X) := by
  apply s_mt'V
theorem s_comp (tg : Tg) (k : ItK) (it : List ME) (cond : Option ME) (elt : ME) (ws : List Nat) : (ev (.comp tg k it cond elt ws) ρ).sat Q X = (evs it ρ).sat (fun ds ρ1 => opS (walkD k ds) (fun xs => Gq (freeS ws ρ1) ((noX (compL (turnC tg cond elt ws) xs (wipeS ws ρ1))).sat (fun ys ρ2 => Gq (szOk xs.length) (Q (own (.lst ys)) (backS ws ρ1 ρ2))) X))) X := by
  apply s_compV
  all_goals first | assumption | skip
def dkK (t : T) (K : List (Key × D) → Prop) [Fx K] : Prop := dkKV t K
theorem dkK_dK (xs : List (Key × D)) (K : List (Key × D) → Prop) : dkK ⟨true, .dK xs⟩ K = K xs := by
  apply dkK_dKV
theorem s_keysTake (x : Nat) (Q : List D → Sl → Prop) (X : Xc → Sl → Prop) (ρ : Sl) : (keysTake x ρ).sat Q X = slotK ρ x (fun t => dkK t (fun kvs => setK ρ x (some (sh (.dK kvs))) (fun ρ1 => Q (kvs.map fun p => dkey p.1) ρ1))) := by
  apply s_keysTakeV
theorem s_compK (tg : Tg) (x : Nat) (cond : Option ME) (elt : ME) (ws : List Nat) : (ev (.compK tg x cond elt ws) ρ).sat Q X = (keysTake x ρ).sat (fun xs ρ1 => Gq (freeS ws ρ1) ((noX (compL (turnC tg cond elt ws) xs (wipeS ws ρ1))).sat (fun ys ρ2 => Gq (szOk xs.length) (Q (own (.lst ys)) (backS ws ρ1 ρ2))) X)) X := by
  apply s_compKV
theorem s_dcomp (tg : Tg) (k : ItK) (it : List ME) (kx vx : ME) (ws : List Nat) : (ev (.dcomp tg k it kx vx ws) ρ).sat Q X = (evs it ρ).sat (fun ds ρ1 => opS (walkD k ds) (fun xs => Gq (freeS ws ρ1) ((noX (compL (turnDC tg kx vx ws) xs (wipeS ws ρ1))).sat (fun ys ρ2 => Gq (szOk xs.length) (Q (own (.dK (putAll ys))) (backS ws ρ1 ρ2))) X))) X := by
  apply s_dcompV
  all_goals first | assumption | skip
theorem s_fstr (ps : List ME) : (ev (.fstr ps) ρ).sat Q X = satOs ps ρ (fun os ρ1 => drKs os ρ1 (fun ds => opS (ds.mapM strOf) (fun ss => Gq (szOk (ss.map (·.length)).sum) (Q (sh (.str (Txt.join ⟨#[]⟩ ss))) ρ1)))) X := by
  apply s_fstrV
theorem se_nil (Q : List D → Sl → Prop) : (evs [] ρ).sat Q X = Q [] ρ := by
  apply se_nilV
theorem se_cons (e : ME) (es : List ME) (Q : List D → Sl → Prop) (h : isStar e = false) : (evs (e :: es) ρ).sat Q X = (ev e ρ).sat (fun t ρ1 => (evs es ρ1).sat (fun ds ρ2 => Q (t.d :: ds) ρ2) X) X := by
  apply se_consV
  all_goals first | assumption | skip
theorem se_star (e : ME) (es : List ME) (Q : List D → Sl → Prop) : (evs (.star e :: es) ρ).sat Q X = satO e ρ (fun x ρ1 => drK x ρ1 (fun d => opS (items d) (fun xs => (evs es ρ1).sat (fun ds ρ2 => Q (xs ++ ds) ρ2) X))) X := by
  apply se_starV
theorem se_srange (as : List ME) (es : List ME) (Q : List D → Sl → Prop) : (evs (.srange as :: es) ρ).sat Q X = (evs as ρ).sat (fun ds ρ1 => opS (walkD .range ds) (fun xs => (evs es ρ1).sat (fun ds ρ2 => Q (xs ++ ds) ρ2) X)) X := by
  apply se_srangeV
theorem s_opBin (op : Operator) (cs : List (Str × FS)) (x y : Opd) (h : objO x = none) : (opBin op cs x y ρ).sat Q X = drK x ρ (fun a => drK y ρ (fun b => opS (binD op a b) (fun t => Q t ρ))) := by
  apply s_opBinV
  all_goals first | assumption | skip
theorem s_opCmp (op : CmpOp) (cs : List (Str × FS)) (x y : Opd) (h : objO x = none) (h2 : objO y = none) : (opCmp op cs x y ρ).sat Q X = drK x ρ (fun a => drK y ρ (fun b => opS (cmpD op a b) (fun r => Q (sh (.bl r)) ρ))) := by
  apply s_opCmpV
  all_goals first | assumption | skip
theorem s_opEq (cs : List (Str × FS)) (x y : Opd) (h : objO x = none) : (opCmp .Eq cs x y ρ).sat Q X = drK x ρ (fun a => drK y ρ (fun b => opS (cmpD .Eq a b) (fun r => Q (sh (.bl r)) ρ))) := by
  apply s_opEqV
  all_goals first | assumption | skip
theorem s_opEqO (cs : List (Str × FS)) (x y : Opd) (c : Str) (dx : D) (h : objO x = some (c, dx)) : (opCmp .Eq cs x y ρ).sat Q X = opS (fnd cs c) (fun f => opS (objO y) (fun p => Gq (decide (p.1 = c)) ((callF f [sh dx, sh p.2] ρ).sat (fun t ρ1 => asB t.d (fun b => Q (sh (.bl b)) ρ1)) X))) := by
  apply s_opEqOV
  all_goals first | assumption | skip
theorem s_opNeO (cs : List (Str × FS)) (x y : Opd) (c : Str) (dx : D) (h : objO x = some (c, dx)) : (opCmp .NotEq cs x y ρ).sat Q X = opS (fnd cs c) (fun f => opS (objO y) (fun p => Gq (decide (p.1 = c)) ((callF f [sh dx, sh p.2] ρ).sat (fun t ρ1 => asB t.d (fun b => Q (sh (.bl (!b))) ρ1)) X))) := by
  apply s_opNeOV
  all_goals first | assumption | skip
theorem s_opInO (cs : List (Str × FS)) (x y : Opd) (c : Str) (dy : D) (h : objO y = some (c, dy)) : (opCmp .In cs x y ρ).sat Q X = opS (fnd cs c) (fun f => opS (shO x) (fun dx => (callF f [sh dy, sh dx] ρ).sat (fun t ρ1 => asB t.d (fun b => Q (sh (.bl b)) ρ1)) X)) := by
  apply s_opInOV
  all_goals first | assumption | skip
theorem s_opNotInO (cs : List (Str × FS)) (x y : Opd) (c : Str) (dy : D) (h : objO y = some (c, dy)) : (opCmp .NotIn cs x y ρ).sat Q X = opS (fnd cs c) (fun f => opS (shO x) (fun dx => (callF f [sh dy, sh dx] ρ).sat (fun t ρ1 => asB t.d (fun b => Q (sh (.bl (!b))) ρ1)) X)) := by
  apply s_opNotInOV
  all_goals first | assumption | skip
theorem s_opBinO (op : Operator) (cs : List (Str × FS)) (x y : Opd) (c : Str) (dx : D) (h : objO x = some (c, dx)) : (opBin op cs x y ρ).sat Q X = opS (fnd cs c) (fun f => opS (objO y) (fun p => Gq (decide (p.1 = c)) ((callF f [sh dx, sh p.2] ρ).sat Q X))) := by
  apply s_opBinOV
  all_goals first | assumption | skip
theorem oo_slot (i : Nat) : objO (.slot i) = none := by
  apply oo_slotV
theorem oo_own (d : D) : objO (.tmp ⟨true, d⟩) = none := by
  apply oo_ownV
theorem oo_int (o : Bool) (i : Int) : objO (.tmp ⟨o, .int i⟩) = none := by
  apply oo_intV
theorem oo_bl (o : Bool) (i : Bool) : objO (.tmp ⟨o, .bl i⟩) = none := by
  apply oo_blV
theorem oo_str (o : Bool) (i : Str) : objO (.tmp ⟨o, .str i⟩) = none := by
  apply oo_strV
theorem oo_non (o : Bool) : objO (.tmp ⟨o, .non⟩) = none := by
  apply oo_nonV
theorem oo_lst (o : Bool) (i : List D) : objO (.tmp ⟨o, .lst i⟩) = none := by
  apply oo_lstV
theorem oo_tup (o : Bool) (i : List D) : objO (.tmp ⟨o, .tup i⟩) = none := by
  apply oo_tupV
theorem oo_dK (o : Bool) (i : List (Key × D)) : objO (.tmp ⟨o, .dK i⟩) = none := by
  apply oo_dKV
theorem oo_dT (o : Bool) (i : List (List Key × D)) : objO (.tmp ⟨o, .dT i⟩) = none := by
  apply oo_dTV
theorem oo_obj (c : Str) (fs : List (Str × D)) : objO (.tmp ⟨false, .obj c fs⟩) = some (c, .obj c fs) := by
  apply oo_objV
theorem shO_sh (d : D) : shO (.tmp ⟨false, d⟩) = some d := by
  apply shO_shV
end
section
variable (Q : Fl → Sl → Prop) (X : Xc → Sl → Prop) (ρ : Sl)
def flK (f : Fl) (K : Prop) (Q : Fl → Prop) [Fx K] [Fx Q] : Prop := flKV f K Q
theorem flK_next (K : Prop) (Q : Fl → Prop) : flK .next K Q = K := by
  apply flK_nextV
theorem flK_ret (t : T) (K : Prop) (Q : Fl → Prop) : flK (.ret t) K Q = Q (.ret t) := by
  apply flK_retV
theorem flK_brk (K : Prop) (Q : Fl → Prop) : flK .brk K Q = Q .brk := by
  apply flK_brkV
theorem flK_cont (K : Prop) (Q : Fl → Prop) : flK .cont K Q = Q .cont := by
  apply flK_contV
theorem xs_nil : (execs [] ρ).sat Q X = Q .next ρ := by
  apply xs_nilV
theorem xs_cons (s : MS) (ss : List MS) : (execs (s :: ss) ρ).sat Q X = (exec s ρ).sat (fun f ρ1 => flK f ((execs ss ρ1).sat Q X) (fun f => Q f ρ1)) X := by
  apply xs_consV
theorem y_set (i : Nat) (e : ME) : (exec (.set i e) ρ).sat Q X = (ev e ρ).sat (fun t ρ1 => setK ρ1 i (some t) (fun ρ2 => Q .next ρ2)) X := by
  apply y_setV
def setsK (is : List Nat) (ds : List D) (ρ : Sl) (K : Sl → Prop) [Fx K] : Prop := setsKV is ds ρ K
theorem setsK_cons (i : Nat) (is : List Nat) (d : D) (ds : List D) (ρ : Sl) (K : Sl → Prop) : setsK (i :: is) (d :: ds) ρ K = setK ρ i (some (sh d)) (fun r => setsK is ds r K) := by
  apply setsK_consV
theorem setsK_nil (ρ : Sl) (K : Sl → Prop) : setsK [] [] ρ K = K ρ := by
  apply setsK_nilV
def tupK (d : D) (K : List D → Prop) [Fx K] : Prop := tupKV d K
theorem tupK_tup (ds : List D) (K : List D → Prop) : tupK (.tup ds) K = K ds := by
  apply tupK_tupV
theorem tupK_lst (ds : List D) (K : List D → Prop) : tupK (.lst ds) K = K ds := by
  apply tupK_lstV
theorem y_tupset (is : List Nat) (e : ME) : (exec (.tupset is e) ρ).sat Q X = (ev e ρ).sat (fun t ρ1 => tupK t.d (fun ds => setsK is ds ρ1 (fun ρ2 => Q .next ρ2))) X := by
  apply y_tupsetV
def parK (is : List Nat) (ds : List T) (ρ : Sl) (K : Sl → Prop) [Fx K] : Prop := parKV is ds ρ K
theorem parK_cons (i : Nat) (is : List Nat) (d : T) (ds : List T) (ρ : Sl) (K : Sl → Prop) : parK (i :: is) (d :: ds) ρ K = setK ρ i (some d) (fun r => parK is ds r K) := by
  apply parK_consV
theorem parK_nil (ρ : Sl) (K : Sl → Prop) : parK [] [] ρ K = K ρ := by
  apply parK_nilV
theorem st_nil (Q : List T → Sl → Prop) : (evTs [] ρ).sat Q X = Q [] ρ := by
  apply st_nilV
theorem st_cons (e : ME) (es : List ME) (Q : List T → Sl → Prop) : (evTs (e :: es) ρ).sat Q X = (ev e ρ).sat (fun t ρ1 => (evTs es ρ1).sat (fun ts ρ2 => Q (t :: ts) ρ2) X) X := by
  apply st_consV
theorem x_par (is : List Nat) (es : List ME) : (exec (.par is es) ρ).sat Q X = (evTs es ρ).sat (fun ts ρ1 => parK is ts ρ1 (fun ρ2 => Q .next ρ2)) X := by
  apply x_parV
def hasK (ρ : Sl) (x : Nat) (K : Prop) [Fx K] : Prop := hasKV ρ x K
theorem hasK_eq (ρ : Sl) (x : Nat) (K : Prop) : Gq (someAt ρ x) K = slotK ρ x (fun _ => K) := by
  apply hasK_eqV
theorem y_setIx (x : Nat) (k e : ME) : (exec (.setIx x k e) ρ).sat Q X = (ev e ρ).sat (fun v ρ1 => slotK ρ1 x (fun _ => (ev k ρ1).sat (fun i ρ2 => slotK ρ2 x (fun t => opS (setIxT t i.d v.d) (fun t' => setK ρ2 x (some t') (fun ρ3 => Q .next ρ3)))) X)) X := by
  apply y_setIxV
theorem y_setFld (x : Nat) (f : Str) (cs : List Str) (e : ME) : (exec (.setFld x f cs e) ρ).sat Q X = (ev e ρ).sat (fun v ρ1 => slotK ρ1 x (fun t => opS (setFldT cs t f v.d) (fun t' => setK ρ1 x (some t') (fun ρ3 => Q .next ρ3)))) X := by
  apply y_setFldV
theorem y_expr (e : ME) : (exec (.expr e) ρ).sat Q X = (ev e ρ).sat (fun _ ρ1 => Q .next ρ1) X := by
  apply y_exprV
theorem x_retv (i : Nat) : (exec (.ret (.var i)) ρ).sat Q X = slotK ρ i (fun t => setK ρ i none (fun ρ1 => Q (.ret t) ρ1)) := by
  apply x_retvV
theorem y_ret (e : ME) (h : isVar e = false) : (exec (.ret e) ρ).sat Q X = (ev e ρ).sat (fun t ρ1 => Q (.ret t) ρ1) X := by
  apply y_retV
  all_goals first | assumption | skip
theorem y_retN : (exec .retN ρ).sat Q X = Q (.ret (sh .non)) ρ := by
  apply y_retNV
theorem y_ite (c : ME) (t e : List MS) : (exec (.ite c t e) ρ).sat Q X = (ev c ρ).sat (fun b ρ1 => brT b ((execs t ρ1).sat Q X) ((execs e ρ1).sat Q X)) X := by
  apply y_iteV
def lfK (l : LF) (K : Prop) (B : Prop) (Q : Fl → Prop) [Fx K] [Fx B] [Fx Q] : Prop := lfKV l K B Q
theorem lfK_done (K B : Prop) (Q : Fl → Prop) : lfK .done K B Q = K := by
  apply lfK_doneV
theorem lfK_brk (K B : Prop) (Q : Fl → Prop) : lfK .brk K B Q = B := by
  apply lfK_brkV
theorem lfK_ret (t : T) (K B : Prop) (Q : Fl → Prop) : lfK (.ret t) K B Q = Q (.ret t) := by
  apply lfK_retV
theorem y_for (tg : Tg) (k : ItK) (it : List ME) (body orelse : List MS) : (exec (.for_ tg k it body orelse) ρ).sat Q X = (evs it ρ).sat (fun ds ρ1 => opS (walkD k ds) (fun xs => (forL (bindT tg) (execs body) xs ρ1).sat (fun l ρ2 => lfK l ((execs orelse ρ2).sat Q X) (Q .next ρ2) (fun f => Q f ρ2)) X)) X := by
  apply y_forV
  all_goals first | assumption | skip
theorem x_while (n : Nat) (c : ME) (body : List MS) : (exec (.while_ n c body) ρ).sat Q X = (whileL (ev c) (execs body) n ρ).sat (fun l ρ2 => lfK l (Q .next ρ2) (Q .next ρ2) (fun f => Q f ρ2)) X := by
  apply x_whileV
theorem y_brk : (exec .brk ρ).sat Q X = Q .brk ρ := by
  apply y_brkV
theorem y_cont : (exec .cont ρ).sat Q X = Q .cont ρ := by
  apply y_contV
theorem y_pass : (exec .pass ρ).sat Q X = Q .next ρ := by
  apply y_passV
theorem x_raise (c : Str) (f : Option Str) (e : ME) : (exec (.raise c f e) ρ).sat Q X = (ev e ρ).sat (fun t ρ1 => X ⟨c, match f with
    | some n => [(n, t.d)]
    | none => []⟩ ρ1) X := by
  apply x_raiseV
end
def outK (io : Bool) (ρ : Sl) (K : T → Prop) [Fx K] : Prop := outKV io ρ K
theorem outK_true (ρ : Sl) (K : T → Prop) : outK true ρ K = slotK ρ 0 K := by
  apply outK_trueV
theorem outK_false (ρ : Sl) (K : T → Prop) : outK false ρ K = K (sh .non) := by
  apply outK_falseV
theorem outK_eq (io : Bool) (ρ : Sl) (K : T → Prop) : opS (outOf io ρ) K = outK io ρ K := by
  apply outK_eqV
def endK (f : Fl) (K : T → Prop) [Fx K] : Prop := endKV f K
theorem endK_ret (t : T) (K : T → Prop) : endK (.ret t) K = K t := by
  apply endK_retV
theorem endK_next (K : T → Prop) : endK .next K = K (sh .non) := by
  apply endK_nextV
theorem s_runD (io : Bool) (n : Nat) (body : List MS) (ts : List T) (Q : T → T → Prop) (X : Xc → T → Prop) :
    (runD io n body ts).sat Q X = (execs body (ts.map some ++ List.replicate (n - ts.length) none)).sat (fun f ρ => endK f (fun t => outK io ρ (fun o => Q t o))) (fun x ρ => outK io ρ (fun o => X x o)) := by
  apply s_runDV
theorem s_turnC (tg : Tg) (cond : Option ME) (elt : ME) (ws : List Nat) (d : D) (r : Sl) (Q : Option D → Sl → Prop) (X : Xc → Sl → Prop) : (turnC tg cond elt ws d r).sat Q X = opS (bindT tg d (wipeS ws r)) (fun r1 => (evC cond r1).sat (fun b r2 => Br b ((ev elt r2).sat (fun t r3 => Q (some t.d) r3) X) (Q none r2)) X) := by
  apply s_turnCV
def keyK (d : D) (K : Key → Prop) [Fx K] : Prop := keyKV d K
theorem s_turnDC (tg : Tg) (kx vx : ME) (ws : List Nat) (d : D) (r : Sl) (Q : Option (Key × D) → Sl → Prop) (X : Xc → Sl → Prop) : (turnDC tg kx vx ws d r).sat Q X = opS (bindT tg d (wipeS ws r)) (fun r1 => (ev kx r1).sat (fun a r2 => (ev vx r2).sat (fun b r3 => opS (keyOf a.d) (fun x => Q (some (x, b.d)) r3)) X) X) := by
  apply s_turnDCV
theorem sc_none (r : Sl) (Q : Bool → Sl → Prop) (X : Xc → Sl → Prop) : (evC none r).sat Q X = Q true r := by
  apply sc_noneV
theorem sc_some (e : ME) (r : Sl) (Q : Bool → Sl → Prop) (X : Xc → Sl → Prop) : (evC (some e) r).sat Q X = (ev e r).sat (fun t r1 => asB t.d (fun b => Q b r1)) X := by
  apply sc_someV
def bindK (tg : Tg) (d : D) (ρ : Sl) (K : Sl → Prop) [Fx K] : Prop := bindKV tg d ρ K
theorem bindK_one (i : Nat) (d : D) (ρ : Sl) (K : Sl → Prop) : bindK (.one i) d ρ K = setK ρ i (some (sh d)) K := by
  apply bindK_oneV
theorem bindK_many (is : List Nat) (d : D) (ρ : Sl) (K : Sl → Prop) : bindK (.many is) d ρ K = tupK d (fun ds => setsK is ds ρ K) := by
  apply bindK_manyV
theorem bindK_eq (tg : Tg) (d : D) (ρ : Sl) (K : Sl → Prop) : opS (bindT tg d ρ) K = bindK tg d ρ K := by
  apply bindK_eqV
theorem so_lit (X : Xc → Sl → Prop) (ρ : Sl) (Q : Opd → Sl → Prop) (d : D) : satO (.lit d) ρ Q X = (ev (.lit d) ρ).sat (fun t ρ1 => Q (.tmp t) ρ1) X := by
  apply so_litV
theorem xr_lit (Q : Fl → Sl → Prop) (X : Xc → Sl → Prop) (ρ : Sl) (d : D) : (exec (.ret (.lit d)) ρ).sat Q X = (ev (.lit d) ρ).sat (fun t ρ1 => Q (.ret t) ρ1) X := by
  apply xr_litV
theorem se_lit (X : Xc → Sl → Prop) (ρ : Sl) (d : D) (es' : List ME) (Q : List D → Sl → Prop) : (evs ((.lit d) :: es') ρ).sat Q X = (ev (.lit d) ρ).sat (fun t ρ1 => (evs es' ρ1).sat (fun ds ρ2 => Q (t.d :: ds) ρ2) X) X := by
  apply se_litV
theorem so_glob (X : Xc → Sl → Prop) (ρ : Sl) (Q : Opd → Sl → Prop) (x : Str) (d : D) : satO (.glob x d) ρ Q X = (ev (.glob x d) ρ).sat (fun t ρ1 => Q (.tmp t) ρ1) X := by
  apply so_globV
theorem xr_glob (Q : Fl → Sl → Prop) (X : Xc → Sl → Prop) (ρ : Sl) (x : Str) (d : D) : (exec (.ret (.glob x d)) ρ).sat Q X = (ev (.glob x d) ρ).sat (fun t ρ1 => Q (.ret t) ρ1) X := by
  apply xr_globV
theorem se_glob (X : Xc → Sl → Prop) (ρ : Sl) (x : Str) (d : D) (es' : List ME) (Q : List D → Sl → Prop) : (evs ((.glob x d) :: es') ρ).sat Q X = (ev (.glob x d) ρ).sat (fun t ρ1 => (evs es' ρ1).sat (fun ds ρ2 => Q (t.d :: ds) ρ2) X) X := by
  apply se_globV
theorem so_bin (X : Xc → Sl → Prop) (ρ : Sl) (Q : Opd → Sl → Prop) (op : Operator) (cs : List (Str × FS)) (a b : ME) : satO (.bin op cs a b) ρ Q X = (ev (.bin op cs a b) ρ).sat (fun t ρ1 => Q (.tmp t) ρ1) X := by
  apply so_binV
theorem xr_bin (Q : Fl → Sl → Prop) (X : Xc → Sl → Prop) (ρ : Sl) (op : Operator) (cs : List (Str × FS)) (a b : ME) : (exec (.ret (.bin op cs a b)) ρ).sat Q X = (ev (.bin op cs a b) ρ).sat (fun t ρ1 => Q (.ret t) ρ1) X := by
  apply xr_binV
theorem se_bin (X : Xc → Sl → Prop) (ρ : Sl) (op : Operator) (cs : List (Str × FS)) (a b : ME) (es' : List ME) (Q : List D → Sl → Prop) : (evs ((.bin op cs a b) :: es') ρ).sat Q X = (ev (.bin op cs a b) ρ).sat (fun t ρ1 => (evs es' ρ1).sat (fun ds ρ2 => Q (t.d :: ds) ρ2) X) X := by
  apply se_binV
theorem so_neg (X : Xc → Sl → Prop) (ρ : Sl) (Q : Opd → Sl → Prop) (a : ME) : satO (.neg a) ρ Q X = (ev (.neg a) ρ).sat (fun t ρ1 => Q (.tmp t) ρ1) X := by
  apply so_negV
theorem xr_neg (Q : Fl → Sl → Prop) (X : Xc → Sl → Prop) (ρ : Sl) (a : ME) : (exec (.ret (.neg a)) ρ).sat Q X = (ev (.neg a) ρ).sat (fun t ρ1 => Q (.ret t) ρ1) X := by
  apply xr_negV
theorem se_neg (X : Xc → Sl → Prop) (ρ : Sl) (a : ME) (es' : List ME) (Q : List D → Sl → Prop) : (evs ((.neg a) :: es') ρ).sat Q X = (ev (.neg a) ρ).sat (fun t ρ1 => (evs es' ρ1).sat (fun ds ρ2 => Q (t.d :: ds) ρ2) X) X := by
  apply se_negV
theorem so_cmp (X : Xc → Sl → Prop) (ρ : Sl) (Q : Opd → Sl → Prop) (op : CmpOp) (cs : List (Str × FS)) (a b : ME) : satO (.cmp op cs a b) ρ Q X = (ev (.cmp op cs a b) ρ).sat (fun t ρ1 => Q (.tmp t) ρ1) X := by
  apply so_cmpV
theorem xr_cmp (Q : Fl → Sl → Prop) (X : Xc → Sl → Prop) (ρ : Sl) (op : CmpOp) (cs : List (Str × FS)) (a b : ME) : (exec (.ret (.cmp op cs a b)) ρ).sat Q X = (ev (.cmp op cs a b) ρ).sat (fun t ρ1 => Q (.ret t) ρ1) X := by
  apply xr_cmpV
theorem se_cmp (X : Xc → Sl → Prop) (ρ : Sl) (op : CmpOp) (cs : List (Str × FS)) (a b : ME) (es' : List ME) (Q : List D → Sl → Prop) : (evs ((.cmp op cs a b) :: es') ρ).sat Q X = (ev (.cmp op cs a b) ρ).sat (fun t ρ1 => (evs es' ρ1).sat (fun ds ρ2 => Q (t.d :: ds) ρ2) X) X := by
  apply se_cmpV
theorem so_cmp2 (X : Xc → Sl → Prop) (ρ : Sl) (Q : Opd → Sl → Prop) (op1 op2 : CmpOp) (a b c : ME) : satO (.cmp2 op1 op2 a b c) ρ Q X = (ev (.cmp2 op1 op2 a b c) ρ).sat (fun t ρ1 => Q (.tmp t) ρ1) X := by
  apply so_cmp2V
theorem xr_cmp2 (Q : Fl → Sl → Prop) (X : Xc → Sl → Prop) (ρ : Sl) (op1 op2 : CmpOp) (a b c : ME) : (exec (.ret (.cmp2 op1 op2 a b c)) ρ).sat Q X = (ev (.cmp2 op1 op2 a b c) ρ).sat (fun t ρ1 => Q (.ret t) ρ1) X := by
  apply xr_cmp2V
theorem se_cmp2 (X : Xc → Sl → Prop) (ρ : Sl) (op1 op2 : CmpOp) (a b c : ME) (es' : List ME) (Q : List D → Sl → Prop) : (evs ((.cmp2 op1 op2 a b c) :: es') ρ).sat Q X = (ev (.cmp2 op1 op2 a b c) ρ).sat (fun t ρ1 => (evs es' ρ1).sat (fun ds ρ2 => Q (t.d :: ds) ρ2) X) X := by
  apply se_cmp2V
theorem so_and (X : Xc → Sl → Prop) (ρ : Sl) (Q : Opd → Sl → Prop) (a b : ME) : satO (.and_ a b) ρ Q X = (ev (.and_ a b) ρ).sat (fun t ρ1 => Q (.tmp t) ρ1) X := by
  apply so_andV
theorem xr_and (Q : Fl → Sl → Prop) (X : Xc → Sl → Prop) (ρ : Sl) (a b : ME) : (exec (.ret (.and_ a b)) ρ).sat Q X = (ev (.and_ a b) ρ).sat (fun t ρ1 => Q (.ret t) ρ1) X := by
  apply xr_andV
theorem se_and (X : Xc → Sl → Prop) (ρ : Sl) (a b : ME) (es' : List ME) (Q : List D → Sl → Prop) : (evs ((.and_ a b) :: es') ρ).sat Q X = (ev (.and_ a b) ρ).sat (fun t ρ1 => (evs es' ρ1).sat (fun ds ρ2 => Q (t.d :: ds) ρ2) X) X := by
  apply se_andV
theorem so_or (X : Xc → Sl → Prop) (ρ : Sl) (Q : Opd → Sl → Prop) (a b : ME) : satO (.or_ a b) ρ Q X = (ev (.or_ a b) ρ).sat (fun t ρ1 => Q (.tmp t) ρ1) X := by
  apply so_orV
theorem xr_or (Q : Fl → Sl → Prop) (X : Xc → Sl → Prop) (ρ : Sl) (a b : ME) : (exec (.ret (.or_ a b)) ρ).sat Q X = (ev (.or_ a b) ρ).sat (fun t ρ1 => Q (.ret t) ρ1) X := by
  apply xr_orV
theorem se_or (X : Xc → Sl → Prop) (ρ : Sl) (a b : ME) (es' : List ME) (Q : List D → Sl → Prop) : (evs ((.or_ a b) :: es') ρ).sat Q X = (ev (.or_ a b) ρ).sat (fun t ρ1 => (evs es' ρ1).sat (fun ds ρ2 => Q (t.d :: ds) ρ2) X) X := by
  apply se_orV
theorem so_not (X : Xc → Sl → Prop) (ρ : Sl) (Q : Opd → Sl → Prop) (a : ME) : satO (.not_ a) ρ Q X = (ev (.not_ a) ρ).sat (fun t ρ1 => Q (.tmp t) ρ1) X := by
  apply so_notV
theorem xr_not (Q : Fl → Sl → Prop) (X : Xc → Sl → Prop) (ρ : Sl) (a : ME) : (exec (.ret (.not_ a)) ρ).sat Q X = (ev (.not_ a) ρ).sat (fun t ρ1 => Q (.ret t) ρ1) X := by
  apply xr_notV
theorem se_not (X : Xc → Sl → Prop) (ρ : Sl) (a : ME) (es' : List ME) (Q : List D → Sl → Prop) : (evs ((.not_ a) :: es') ρ).sat Q X = (ev (.not_ a) ρ).sat (fun t ρ1 => (evs es' ρ1).sat (fun ds ρ2 => Q (t.d :: ds) ρ2) X) X := by
  apply se_notV
theorem so_ite (X : Xc → Sl → Prop) (ρ : Sl) (Q : Opd → Sl → Prop) (c a b : ME) : satO (.ite c a b) ρ Q X = (ev (.ite c a b) ρ).sat (fun t ρ1 => Q (.tmp t) ρ1) X := by
  apply so_iteV
theorem xr_ite (Q : Fl → Sl → Prop) (X : Xc → Sl → Prop) (ρ : Sl) (c a b : ME) : (exec (.ret (.ite c a b)) ρ).sat Q X = (ev (.ite c a b) ρ).sat (fun t ρ1 => Q (.ret t) ρ1) X := by
  apply xr_iteV
theorem se_ite (X : Xc → Sl → Prop) (ρ : Sl) (c a b : ME) (es' : List ME) (Q : List D → Sl → Prop) : (evs ((.ite c a b) :: es') ρ).sat Q X = (ev (.ite c a b) ρ).sat (fun t ρ1 => (evs es' ρ1).sat (fun ds ρ2 => Q (t.d :: ds) ρ2) X) X := by
  apply se_iteV
theorem so_tup (X : Xc → Sl → Prop) (ρ : Sl) (Q : Opd → Sl → Prop) (es : List ME) : satO (.tup es) ρ Q X = (ev (.tup es) ρ).sat (fun t ρ1 => Q (.tmp t) ρ1) X := by
  apply so_tupV
theorem xr_tup (Q : Fl → Sl → Prop) (X : Xc → Sl → Prop) (ρ : Sl) (es : List ME) : (exec (.ret (.tup es)) ρ).sat Q X = (ev (.tup es) ρ).sat (fun t ρ1 => Q (.ret t) ρ1) X := by
  apply xr_tupV
theorem se_tup (X : Xc → Sl → Prop) (ρ : Sl) (es : List ME) (es' : List ME) (Q : List D → Sl → Prop) : (evs ((.tup es) :: es') ρ).sat Q X = (ev (.tup es) ρ).sat (fun t ρ1 => (evs es' ρ1).sat (fun ds ρ2 => Q (t.d :: ds) ρ2) X) X := by
  apply se_tupV
theorem so_lst (X : Xc → Sl → Prop) (ρ : Sl) (Q : Opd → Sl → Prop) (es : List ME) : satO (.lst es) ρ Q X = (ev (.lst es) ρ).sat (fun t ρ1 => Q (.tmp t) ρ1) X := by
  apply so_lstV
theorem xr_lst (Q : Fl → Sl → Prop) (X : Xc → Sl → Prop) (ρ : Sl) (es : List ME) : (exec (.ret (.lst es)) ρ).sat Q X = (ev (.lst es) ρ).sat (fun t ρ1 => Q (.ret t) ρ1) X := by
  apply xr_lstV
theorem se_lst (X : Xc → Sl → Prop) (ρ : Sl) (es : List ME) (es' : List ME) (Q : List D → Sl → Prop) : (evs ((.lst es) :: es') ρ).sat Q X = (ev (.lst es) ρ).sat (fun t ρ1 => (evs es' ρ1).sat (fun ds ρ2 => Q (t.d :: ds) ρ2) X) X := by
  apply se_lstV
theorem so_dct (X : Xc → Sl → Prop) (ρ : Sl) (Q : Opd → Sl → Prop) (t : Bool) (kvs : List ME) : satO (.dct t kvs) ρ Q X = (ev (.dct t kvs) ρ).sat (fun t ρ1 => Q (.tmp t) ρ1) X := by
  apply so_dctV
  all_goals first | assumption | skip
theorem xr_dct (Q : Fl → Sl → Prop) (X : Xc → Sl → Prop) (ρ : Sl) (t : Bool) (kvs : List ME) : (exec (.ret (.dct t kvs)) ρ).sat Q X = (ev (.dct t kvs) ρ).sat (fun t ρ1 => Q (.ret t) ρ1) X := by
  apply xr_dctV
  all_goals first | assumption | skip
theorem se_dct (X : Xc → Sl → Prop) (ρ : Sl) (t : Bool) (kvs : List ME) (es' : List ME) (Q : List D → Sl → Prop) : (evs ((.dct t kvs) :: es') ρ).sat Q X = (ev (.dct t kvs) ρ).sat (fun t ρ1 => (evs es' ρ1).sat (fun ds ρ2 => Q (t.d :: ds) ρ2) X) X := by
  apply se_dctV
  all_goals first | assumption | skip
theorem so_sub (X : Xc → Sl → Prop) (ρ : Sl) (Q : Opd → Sl → Prop) (a b : ME) : satO (.sub a b) ρ Q X = (ev (.sub a b) ρ).sat (fun t ρ1 => Q (.tmp t) ρ1) X := by
  apply so_subV
theorem xr_sub (Q : Fl → Sl → Prop) (X : Xc → Sl → Prop) (ρ : Sl) (a b : ME) : (exec (.ret (.sub a b)) ρ).sat Q X = (ev (.sub a b) ρ).sat (fun t ρ1 => Q (.ret t) ρ1) X := by
  apply xr_subV
theorem se_sub (X : Xc → Sl → Prop) (ρ : Sl) (a b : ME) (es' : List ME) (Q : List D → Sl → Prop) : (evs ((.sub a b) :: es') ρ).sat Q X = (ev (.sub a b) ρ).sat (fun t ρ1 => (evs es' ρ1).sat (fun ds ρ2 => Q (t.d :: ds) ρ2) X) X := by
  apply se_subV
theorem so_slice (X : Xc → Sl → Prop) (ρ : Sl) (Q : Opd → Sl → Prop) (a : ME) (lo hi : Option ME) : satO (.slice a lo hi) ρ Q X = (ev (.slice a lo hi) ρ).sat (fun t ρ1 => Q (.tmp t) ρ1) X := by
  apply so_sliceV
theorem so_slice3 (X : Xc → Sl → Prop) (ρ : Sl) (Q : Opd → Sl → Prop) (a : ME) (lo hi st : Option ME) : satO (.slice3 a lo hi st) ρ Q X = (ev (.slice3 a lo hi st) ρ).sat (fun t ρ1 => Q (.tmp t) ρ1) X := by
  apply so_slice3V
theorem xr_slice (Q : Fl → Sl → Prop) (X : Xc → Sl → Prop) (ρ : Sl) (a : ME) (lo hi : Option ME) : (exec (.ret (.slice a lo hi)) ρ).sat Q X = (ev (.slice a lo hi) ρ).sat (fun t ρ1 => Q (.ret t) ρ1) X := by
  apply xr_sliceV
theorem xr_slice3 (Q : Fl → Sl → Prop) (X : Xc → Sl → Prop) (ρ : Sl) (a : ME) (lo hi st : Option ME) : (exec (.ret (.slice3 a lo hi st)) ρ).sat Q X = (ev (.slice3 a lo hi st) ρ).sat (fun t ρ1 => Q (.ret t) ρ1) X := by
  apply xr_slice3V
theorem se_slice (X : Xc → Sl → Prop) (ρ : Sl) (a : ME) (lo hi : Option ME) (es' : List ME) (Q : List D → Sl → Prop) : (evs ((.slice a lo hi) :: es') ρ).sat Q X = (ev (.slice a lo hi) ρ).sat (fun t ρ1 => (evs es' ρ1).sat (fun ds ρ2 => Q (t.d :: ds) ρ2) X) X := by
  apply se_sliceV
theorem se_slice3 (X : Xc → Sl → Prop) (ρ : Sl) (a : ME) (lo hi st : Option ME) (es' : List ME) (Q : List D → Sl → Prop) : (evs ((.slice3 a lo hi st) :: es') ρ).sat Q X = (ev (.slice3 a lo hi st) ρ).sat (fun t ρ1 => (evs es' ρ1).sat (fun ds ρ2 => Q (t.d :: ds) ρ2) X) X := by
  apply se_slice3V
theorem so_fld (X : Xc → Sl → Prop) (ρ : Sl) (Q : Opd → Sl → Prop) (a : ME) (f : Str) (cs : List Str) : satO (.fld a f cs) ρ Q X = (ev (.fld a f cs) ρ).sat (fun t ρ1 => Q (.tmp t) ρ1) X := by
  apply so_fldV
theorem xr_fld (Q : Fl → Sl → Prop) (X : Xc → Sl → Prop) (ρ : Sl) (a : ME) (f : Str) (cs : List Str) : (exec (.ret (.fld a f cs)) ρ).sat Q X = (ev (.fld a f cs) ρ).sat (fun t ρ1 => Q (.ret t) ρ1) X := by
  apply xr_fldV
theorem se_fld (X : Xc → Sl → Prop) (ρ : Sl) (a : ME) (f : Str) (cs : List Str) (es' : List ME) (Q : List D → Sl → Prop) : (evs ((.fld a f cs) :: es') ρ).sat Q X = (ev (.fld a f cs) ρ).sat (fun t ρ1 => (evs es' ρ1).sat (fun ds ρ2 => Q (t.d :: ds) ρ2) X) X := by
  apply se_fldV
theorem so_call (X : Xc → Sl → Prop) (ρ : Sl) (Q : Opd → Sl → Prop) (f : FS) (args : List ME) : satO (.call f args) ρ Q X = (ev (.call f args) ρ).sat (fun t ρ1 => Q (.tmp t) ρ1) X := by
  apply so_callV
theorem xr_call (Q : Fl → Sl → Prop) (X : Xc → Sl → Prop) (ρ : Sl) (f : FS) (args : List ME) : (exec (.ret (.call f args)) ρ).sat Q X = (ev (.call f args) ρ).sat (fun t ρ1 => Q (.ret t) ρ1) X := by
  apply xr_callV
theorem se_call (X : Xc → Sl → Prop) (ρ : Sl) (f : FS) (args : List ME) (es' : List ME) (Q : List D → Sl → Prop) : (evs ((.call f args) :: es') ρ).sat Q X = (ev (.call f args) ρ).sat (fun t ρ1 => (evs es' ρ1).sat (fun ds ρ2 => Q (t.d :: ds) ρ2) X) X := by
  apply se_callV
theorem so_new (X : Xc → Sl → Prop) (ρ : Sl) (Q : Opd → Sl → Prop) (c : Str) (f : FS) (args : List ME) : satO (.new c f args) ρ Q X = (ev (.new c f args) ρ).sat (fun t ρ1 => Q (.tmp t) ρ1) X := by
  apply so_newV
theorem xr_new (Q : Fl → Sl → Prop) (X : Xc → Sl → Prop) (ρ : Sl) (c : Str) (f : FS) (args : List ME) : (exec (.ret (.new c f args)) ρ).sat Q X = (ev (.new c f args) ρ).sat (fun t ρ1 => Q (.ret t) ρ1) X := by
  apply xr_newV
theorem se_new (X : Xc → Sl → Prop) (ρ : Sl) (c : Str) (f : FS) (args : List ME) (es' : List ME) (Q : List D → Sl → Prop) : (evs ((.new c f args) :: es') ρ).sat Q X = (ev (.new c f args) ρ).sat (fun t ρ1 => (evs es' ρ1).sat (fun ds ρ2 => Q (t.d :: ds) ρ2) X) X := by
  apply se_newV
theorem so_meth (X : Xc → Sl → Prop) (ρ : Sl) (Q : Opd → Sl → Prop) (cs : List (Str × FS)) (o : ME) (args : List ME) : satO (.meth cs o args) ρ Q X = (ev (.meth cs o args) ρ).sat (fun t ρ1 => Q (.tmp t) ρ1) X := by
  apply so_methV
theorem xr_meth (Q : Fl → Sl → Prop) (X : Xc → Sl → Prop) (ρ : Sl) (cs : List (Str × FS)) (o : ME) (args : List ME) : (exec (.ret (.meth cs o args)) ρ).sat Q X = (ev (.meth cs o args) ρ).sat (fun t ρ1 => Q (.ret t) ρ1) X := by
  apply xr_methV
theorem se_meth (X : Xc → Sl → Prop) (ρ : Sl) (cs : List (Str × FS)) (o : ME) (args : List ME) (es' : List ME) (Q : List D → Sl → Prop) : (evs ((.meth cs o args) :: es') ρ).sat Q X = (ev (.meth cs o args) ρ).sat (fun t ρ1 => (evs es' ρ1).sat (fun ds ρ2 => Q (t.d :: ds) ρ2) X) X := by
  apply se_methV
theorem so_newK (X : Xc → Sl → Prop) (ρ : Sl) (Q : Opd → Sl → Prop) (c : Str) (f : FS) (kn : List Str) (pm : List Nat) (args : List ME) : satO (.newK c f kn pm args) ρ Q X = (ev (.newK c f kn pm args) ρ).sat (fun t ρ1 => Q (.tmp t) ρ1) X := by
  apply so_newKV
  all_goals first | assumption | skip
theorem xr_newK (Q : Fl → Sl → Prop) (X : Xc → Sl → Prop) (ρ : Sl) (c : Str) (f : FS) (kn : List Str) (pm : List Nat) (args : List ME) : (exec (.ret (.newK c f kn pm args)) ρ).sat Q X = (ev (.newK c f kn pm args) ρ).sat (fun t ρ1 => Q (.ret t) ρ1) X := by
  apply xr_newKV
  all_goals first | assumption | skip
theorem se_newK (X : Xc → Sl → Prop) (ρ : Sl) (c : Str) (f : FS) (kn : List Str) (pm : List Nat) (args : List ME) (es' : List ME) (Q : List D → Sl → Prop) : (evs ((.newK c f kn pm args) :: es') ρ).sat Q X = (ev (.newK c f kn pm args) ρ).sat (fun t ρ1 => (evs es' ρ1).sat (fun ds ρ2 => Q (t.d :: ds) ρ2) X) X := by
  apply se_newKV
  all_goals first | assumption | skip
theorem so_methW (X : Xc → Sl → Prop) (ρ : Sl) (Q : Opd → Sl → Prop) (cs : List (Str × FS)) (kn : List Str) (pm : List Nat) (o : ME) (args : List ME) : satO (.methW cs kn pm o args) ρ Q X = (ev (.methW cs kn pm o args) ρ).sat (fun t ρ1 => Q (.tmp t) ρ1) X := by
  apply so_methWV
  all_goals first | assumption | skip
theorem xr_methW (Q : Fl → Sl → Prop) (X : Xc → Sl → Prop) (ρ : Sl) (cs : List (Str × FS)) (kn : List Str) (pm : List Nat) (o : ME) (args : List ME) : (exec (.ret (.methW cs kn pm o args)) ρ).sat Q X = (ev (.methW cs kn pm o args) ρ).sat (fun t ρ1 => Q (.ret t) ρ1) X := by
  apply xr_methWV
  all_goals first | assumption | skip
theorem se_methW (X : Xc → Sl → Prop) (ρ : Sl) (cs : List (Str × FS)) (kn : List Str) (pm : List Nat) (o : ME) (args : List ME) (es' : List ME) (Q : List D → Sl → Prop) : (evs ((.methW cs kn pm o args) :: es') ρ).sat Q X = (ev (.methW cs kn pm o args) ρ).sat (fun t ρ1 => (evs es' ρ1).sat (fun ds ρ2 => Q (t.d :: ds) ρ2) X) X := by
  apply se_methWV
  all_goals first | assumption | skip
theorem so_join (X : Xc → Sl → Prop) (ρ : Sl) (Q : Opd → Sl → Prop) (o l : ME) : satO (.join o l) ρ Q X = (ev (.join o l) ρ).sat (fun t ρ1 => Q (.tmp t) ρ1) X := by
  apply so_joinV
theorem xr_join (Q : Fl → Sl → Prop) (X : Xc → Sl → Prop) (ρ : Sl) (o l : ME) : (exec (.ret (.join o l)) ρ).sat Q X = (ev (.join o l) ρ).sat (fun t ρ1 => Q (.ret t) ρ1) X := by
  apply xr_joinV
theorem se_join (X : Xc → Sl → Prop) (ρ : Sl) (o l : ME) (es' : List ME) (Q : List D → Sl → Prop) : (evs ((.join o l) :: es') ρ).sat Q X = (ev (.join o l) ρ).sat (fun t ρ1 => (evs es' ρ1).sat (fun ds ρ2 => Q (t.d :: ds) ρ2) X) X := by
  apply se_joinV
theorem so_bi (X : Xc → Sl → Prop) (ρ : Sl) (Q : Opd → Sl → Prop) (b : Bi) (args : List ME) : satO (.bi b args) ρ Q X = (ev (.bi b args) ρ).sat (fun t ρ1 => Q (.tmp t) ρ1) X := by
  apply so_biV
theorem xr_bi (Q : Fl → Sl → Prop) (X : Xc → Sl → Prop) (ρ : Sl) (b : Bi) (args : List ME) : (exec (.ret (.bi b args)) ρ).sat Q X = (ev (.bi b args) ρ).sat (fun t ρ1 => Q (.ret t) ρ1) X := by
  apply xr_biV
theorem se_bi (X : Xc → Sl → Prop) (ρ : Sl) (b : Bi) (args : List ME) (es' : List ME) (Q : List D → Sl → Prop) : (evs ((.bi b args) :: es') ρ).sat Q X = (ev (.bi b args) ρ).sat (fun t ρ1 => (evs es' ρ1).sat (fun ds ρ2 => Q (t.d :: ds) ρ2) X) X := by
  apply se_biV
theorem so_bm (X : Xc → Sl → Prop) (ρ : Sl) (Q : Opd → Sl → Prop) (m : Bm) (o : ME) (args : List ME) : satO (.bm m o args) ρ Q X = (ev (.bm m o args) ρ).sat (fun t ρ1 => Q (.tmp t) ρ1) X := by
  apply so_bmV
theorem xr_bm (Q : Fl → Sl → Prop) (X : Xc → Sl → Prop) (ρ : Sl) (m : Bm) (o : ME) (args : List ME) : (exec (.ret (.bm m o args)) ρ).sat Q X = (ev (.bm m o args) ρ).sat (fun t ρ1 => Q (.ret t) ρ1) X := by
  apply xr_bmV
theorem se_bm (X : Xc → Sl → Prop) (ρ : Sl) (m : Bm) (o : ME) (args : List ME) (es' : List ME) (Q : List D → Sl → Prop) : (evs ((.bm m o args) :: es') ρ).sat Q X = (ev (.bm m o args) ρ).sat (fun t ρ1 => (evs es' ρ1).sat (fun ds ρ2 => Q (t.d :: ds) ρ2) X) X := by
  apply se_bmV
theorem so_mt (X : Xc → Sl → Prop) (ρ : Sl) (Q : Opd → Sl → Prop) (m : Mt) (x : Nat) (args : List ME) : satO (.mt m x args) ρ Q X = (ev (.mt m x args) ρ).sat (fun t ρ1 => Q (.tmp t) ρ1) X := by
  apply so_mtV
theorem xr_mt (Q : Fl → Sl → Prop) (X : Xc → Sl → Prop) (ρ : Sl) (m : Mt) (x : Nat) (args : List ME) : (exec (.ret (.mt m x args)) ρ).sat Q X = (ev (.mt m x args) ρ).sat (fun t ρ1 => Q (.ret t) ρ1) X := by
  apply xr_mtV
theorem se_mt (X : Xc → Sl → Prop) (ρ : Sl) (m : Mt) (x : Nat) (args : List ME) (es' : List ME) (Q : List D → Sl → Prop) : (evs ((.mt m x args) :: es') ρ).sat Q X = (ev (.mt m x args) ρ).sat (fun t ρ1 => (evs es' ρ1).sat (fun ds ρ2 => Q (t.d :: ds) ρ2) X) X := by
  apply se_mtV
theorem so_comp (X : Xc → Sl → Prop) (ρ : Sl) (Q : Opd → Sl → Prop) (tg : Tg) (k : ItK) (it : List ME) (cond : Option ME) (elt : ME) (ws : List Nat) : satO (.comp tg k it cond elt ws) ρ Q X = (ev (.comp tg k it cond elt ws) ρ).sat (fun t ρ1 => Q (.tmp t) ρ1) X := by
  apply so_compV
  all_goals first | assumption | skip
theorem xr_comp (Q : Fl → Sl → Prop) (X : Xc → Sl → Prop) (ρ : Sl) (tg : Tg) (k : ItK) (it : List ME) (cond : Option ME) (elt : ME) (ws : List Nat) : (exec (.ret (.comp tg k it cond elt ws)) ρ).sat Q X = (ev (.comp tg k it cond elt ws) ρ).sat (fun t ρ1 => Q (.ret t) ρ1) X := by
  apply xr_compV
  all_goals first | assumption | skip
theorem se_comp (X : Xc → Sl → Prop) (ρ : Sl) (tg : Tg) (k : ItK) (it : List ME) (cond : Option ME) (elt : ME) (ws : List Nat) (es' : List ME) (Q : List D → Sl → Prop) : (evs ((.comp tg k it cond elt ws) :: es') ρ).sat Q X = (ev (.comp tg k it cond elt ws) ρ).sat (fun t ρ1 => (evs es' ρ1).sat (fun ds ρ2 => Q (t.d :: ds) ρ2) X) X := by
  apply se_compV
  all_goals first | assumption | skip
theorem so_compK (X : Xc → Sl → Prop) (ρ : Sl) (Q : Opd → Sl → Prop) (tg : Tg) (x : Nat) (cond : Option ME) (elt : ME) (ws : List Nat) : satO (.compK tg x cond elt ws) ρ Q X = (ev (.compK tg x cond elt ws) ρ).sat (fun t ρ1 => Q (.tmp t) ρ1) X := by
  apply so_compKV
theorem xr_compK (Q : Fl → Sl → Prop) (X : Xc → Sl → Prop) (ρ : Sl) (tg : Tg) (x : Nat) (cond : Option ME) (elt : ME) (ws : List Nat) : (exec (.ret (.compK tg x cond elt ws)) ρ).sat Q X = (ev (.compK tg x cond elt ws) ρ).sat (fun t ρ1 => Q (.ret t) ρ1) X := by
  apply xr_compKV
theorem se_compK (X : Xc → Sl → Prop) (ρ : Sl) (tg : Tg) (x : Nat) (cond : Option ME) (elt : ME) (ws : List Nat) (es' : List ME) (Q : List D → Sl → Prop) : (evs ((.compK tg x cond elt ws) :: es') ρ).sat Q X = (ev (.compK tg x cond elt ws) ρ).sat (fun t ρ1 => (evs es' ρ1).sat (fun ds ρ2 => Q (t.d :: ds) ρ2) X) X := by
  apply se_compKV
theorem so_dcomp (X : Xc → Sl → Prop) (ρ : Sl) (Q : Opd → Sl → Prop) (tg : Tg) (k : ItK) (it : List ME) (kx vx : ME) (ws : List Nat) : satO (.dcomp tg k it kx vx ws) ρ Q X = (ev (.dcomp tg k it kx vx ws) ρ).sat (fun t ρ1 => Q (.tmp t) ρ1) X := by
  apply so_dcompV
  all_goals first | assumption | skip
theorem xr_dcomp (Q : Fl → Sl → Prop) (X : Xc → Sl → Prop) (ρ : Sl) (tg : Tg) (k : ItK) (it : List ME) (kx vx : ME) (ws : List Nat) : (exec (.ret (.dcomp tg k it kx vx ws)) ρ).sat Q X = (ev (.dcomp tg k it kx vx ws) ρ).sat (fun t ρ1 => Q (.ret t) ρ1) X := by
  apply xr_dcompV
  all_goals first | assumption | skip
theorem se_dcomp (X : Xc → Sl → Prop) (ρ : Sl) (tg : Tg) (k : ItK) (it : List ME) (kx vx : ME) (ws : List Nat) (es' : List ME) (Q : List D → Sl → Prop) : (evs ((.dcomp tg k it kx vx ws) :: es') ρ).sat Q X = (ev (.dcomp tg k it kx vx ws) ρ).sat (fun t ρ1 => (evs es' ρ1).sat (fun ds ρ2 => Q (t.d :: ds) ρ2) X) X := by
  apply se_dcompV
  all_goals first | assumption | skip
theorem so_fstr (X : Xc → Sl → Prop) (ρ : Sl) (Q : Opd → Sl → Prop) (ps : List ME) : satO (.fstr ps) ρ Q X = (ev (.fstr ps) ρ).sat (fun t ρ1 => Q (.tmp t) ρ1) X := by
  apply so_fstrV
theorem xr_fstr (Q : Fl → Sl → Prop) (X : Xc → Sl → Prop) (ρ : Sl) (ps : List ME) : (exec (.ret (.fstr ps)) ρ).sat Q X = (ev (.fstr ps) ρ).sat (fun t ρ1 => Q (.ret t) ρ1) X := by
  apply xr_fstrV
theorem se_fstr (X : Xc → Sl → Prop) (ρ : Sl) (ps : List ME) (es' : List ME) (Q : List D → Sl → Prop) : (evs ((.fstr ps) :: es') ρ).sat Q X = (ev (.fstr ps) ρ).sat (fun t ρ1 => (evs es' ρ1).sat (fun ds ρ2 => Q (t.d :: ds) ρ2) X) X := by
  apply se_fstrV
theorem se_var (X : Xc → Sl → Prop) (ρ : Sl) (i : Nat) (es' : List ME) (Q : List D → Sl → Prop) : (evs ((.var i) :: es') ρ).sat Q X = (ev (.var i) ρ).sat (fun t ρ1 => (evs es' ρ1).sat (fun ds ρ2 => Q (t.d :: ds) ρ2) X) X := by
  apply se_varV
/-- the end of a turn -/
def lpK (f : Fl) (K B : Prop) (Q : T → Prop) [Fx K] [Fx B] [Fx Q] : Prop := match f with
  | .next => K
  | .cont => K
  | .brk => B
  | .ret t => Q t
theorem lpK_next (K B : Prop) (Q : T → Prop) : lpK .next K B Q = K := id rfl
theorem lpK_cont (K B : Prop) (Q : T → Prop) : lpK .cont K B Q = K := id rfl
theorem lpK_brk (K B : Prop) (Q : T → Prop) : lpK .brk K B Q = B := id rfl
theorem lpK_ret (t : T) (K B : Prop) (Q : T → Prop) : lpK (.ret t) K B Q = Q t := id rfl
theorem sat_forL {bind : D → Sl → Option Sl} {body : Sl → R Fl} {X : Xc → Sl → Prop} {Q : LF → Sl → Prop} {xs : List D} {ρ : Sl} (I : List D → Sl → Prop)
    (h0 : I [] ρ)
    (h1 : ∀ pre x post r, xs = pre ++ x :: post → I pre r → opS (bind x r) (fun r1 => (body r1).sat (fun f r2 => lpK f (I (pre ++ [x]) r2) (Q .brk r2) (fun t => Q (.ret t) r2)) X))
    (h2 : ∀ r, I xs r → Q .done r) : (forL bind body xs ρ).sat Q X := by
  refine sat_forLV I h0 (fun pre x post r e i => ?_) h2
  refine opS_monoV (h1 pre x post r e i) (fun r1 z => ?_)
  refine sat_monoV z (fun f r2 z => ?_) (fun _ _ z => z)
  cases f <;> exact z
theorem sat_compL {α : Type} {turn : D → Sl → R (Option α)} {Q : List α → Sl → Prop} {X : Xc → Sl → Prop} {xs : List D} {ρ : Sl} (I : List D → List α → Sl → Prop)
    (h0 : I [] [] ρ)
    (h1 : ∀ pre x post ys r, xs = pre ++ x :: post → I pre ys r → (turn x r).sat (fun o r' => I (pre ++ [x]) (ys ++ o.toList) r') NXS)
    (h2 : ∀ ys r, I xs ys r → Q ys r) : (noX (compL turn xs ρ)).sat Q X := sat_compLV I h0 h1 h2
theorem sat_compP {α : Type} {turn : D → Sl → R (Option α)} {Q : List α → Sl → Prop} {X : Xc → Sl → Prop} {xs : List D} {ρ : Sl} (I : Sl → Prop) (g : D → Option α)
    (h0 : I ρ)
    (h1 : ∀ x r, x ∈ xs → I r → (turn x r).sat (fun o r' => o = g x ∧ I r') NXS)
    (h2 : ∀ r, I r → Q (xs.filterMap g) r) : (noX (compL turn xs ρ)).sat Q X := sat_compPV I g h0 h1 h2
theorem sat_compI {α : Type} {turn : D → Sl → R (Option α)} {Q : List α → Sl → Prop} {X : Xc → Sl → Prop} {xs : List D} {ρ : Sl} (I : Sl → Prop) (P : α → Prop)
    (h0 : I ρ)
    (h1 : ∀ x r, x ∈ xs → I r → (turn x r).sat (fun o r' => (∃ y, o = some y ∧ P y) ∧ I r') NXS)
    (h2 : ∀ ys r, ys.length = xs.length → (∀ y ∈ ys, P y) → I r → Q ys r) : (noX (compL turn xs ρ)).sat Q X := sat_compIV I P h0 h1 h2
/-- a value, made plain first -/
def valK {α : Type} (a : α) (K : α → Prop) [Fx K] : Prop := K a
theorem valK_eq {α : Type} (a : α) (K : α → Prop) : valK a K = K a := id rfl
theorem s_runD' (io : Bool) (n : Nat) (body : List MS) (ts : List T) (Q : T → T → Prop) (X : Xc → T → Prop) :
    (runD io n body ts).sat Q X = valK (ts.map some ++ List.replicate (n - ts.length) none) (fun ρ => (execs body ρ).sat (fun f ρ => endK f (fun t => outK io ρ (fun o => Q t o))) (fun x ρ => outK io ρ (fun o => X x o))) := s_runD io n body ts Q X
theorem s_comp' (Q : T → Sl → Prop) (X : Xc → Sl → Prop) (ρ : Sl) (tg : Tg) (k : ItK) (it : List ME) (cond : Option ME) (elt : ME) (ws : List Nat) : (ev (.comp tg k it cond elt ws) ρ).sat Q X = (evs it ρ).sat (fun ds ρ1 => opS (walkD k ds) (fun xs => Gq (freeS ws ρ1) (valK (wipeS ws ρ1) (fun ρ0 => (noX (compL (turnC tg cond elt ws) xs ρ0)).sat (fun ys ρ2 => Gq (szOk xs.length) (valK (backS ws ρ1 ρ2) (fun ρ3 => Q (own (.lst ys)) ρ3))) X)))) X := s_comp Q X ρ tg k it cond elt ws
theorem s_compK' (Q : T → Sl → Prop) (X : Xc → Sl → Prop) (ρ : Sl) (tg : Tg) (x : Nat) (cond : Option ME) (elt : ME) (ws : List Nat) : (ev (.compK tg x cond elt ws) ρ).sat Q X = (keysTake x ρ).sat (fun xs ρ1 => Gq (freeS ws ρ1) (valK (wipeS ws ρ1) (fun ρ0 => (noX (compL (turnC tg cond elt ws) xs ρ0)).sat (fun ys ρ2 => Gq (szOk xs.length) (valK (backS ws ρ1 ρ2) (fun ρ3 => Q (own (.lst ys)) ρ3))) X))) X := s_compK Q X ρ tg x cond elt ws
theorem s_dcomp' (Q : T → Sl → Prop) (X : Xc → Sl → Prop) (ρ : Sl) (tg : Tg) (k : ItK) (it : List ME) (kx vx : ME) (ws : List Nat) : (ev (.dcomp tg k it kx vx ws) ρ).sat Q X = (evs it ρ).sat (fun ds ρ1 => opS (walkD k ds) (fun xs => Gq (freeS ws ρ1) (valK (wipeS ws ρ1) (fun ρ0 => (noX (compL (turnDC tg kx vx ws) xs ρ0)).sat (fun ys ρ2 => Gq (szOk xs.length) (valK (backS ws ρ1 ρ2) (fun ρ3 => Q (own (.dK (putAll ys))) ρ3))) X)))) X := s_dcomp Q X ρ tg k it kx vx ws
theorem s_turnC' (tg : Tg) (cond : Option ME) (elt : ME) (ws : List Nat) (d : D) (r : Sl) (Q : Option D → Sl → Prop) (X : Xc → Sl → Prop) : (turnC tg cond elt ws d r).sat Q X = valK (wipeS ws r) (fun r0 => bindK tg d r0 (fun r1 => (evC cond r1).sat (fun b r2 => Br b ((ev elt r2).sat (fun t r3 => Q (some t.d) r3) X) (Q none r2)) X)) := by
  rw [s_turnC, bindK_eq]
  rfl
theorem s_turnDC' (tg : Tg) (kx vx : ME) (ws : List Nat) (d : D) (r : Sl) (Q : Option (Key × D) → Sl → Prop) (X : Xc → Sl → Prop) : (turnDC tg kx vx ws d r).sat Q X = valK (wipeS ws r) (fun r0 => bindK tg d r0 (fun r1 => (ev kx r1).sat (fun a r2 => (ev vx r2).sat (fun b r3 => opS (keyOf a.d) (fun x => Q (some (x, b.d)) r3)) X) X)) := by
  rw [s_turnDC, bindK_eq]
  rfl
theorem shareK_any {o : Bool} {ρ : Sl} {i : Nat} {d : D} (K : Sl → Prop) (h : ρ[i]? = some (some ⟨o, d⟩)) : shareK o ρ i d K = setK ρ i (some (sh d)) K := by
  cases o
  · have e : ρ.set i (some ⟨false, d⟩) = ρ := by
      apply List.ext_getElem?
      intro j
      rw [List.getElem?_set]
      split
      · rename_i h'
        subst h'
        split
        · exact h.symm
        · rename_i h'
          simp at h'
          rw [List.getElem?_eq_none h'] at h
          cases h
      · rfl
    show K ρ = K (ρ.set i (some (sh d)))
    rw [e]
  · rfl
def freeO : Option (Option T) → Bool
  | some (some t) => !t.ow
  | some none => true
  | none => false
theorem freeS_nil (ρ : Sl) : freeS [] ρ = true := rfl
theorem freeS_cons (i : Nat) (ws : List Nat) (ρ : Sl) : freeS (i :: ws) ρ = (freeO ρ[i]? && freeS ws ρ) := by
  simp only [freeS, List.all_cons]
  congr 1
theorem freeO_none : freeO (some none) = true := rfl
theorem freeO_t (b : Bool) (d : D) : freeO (some (some ⟨b, d⟩)) = !b := rfl
theorem freeO_map (o : Option D) : freeO (some (o.map sh)) = true := by cases o <;> rfl
theorem newK_def (c : Str) (f : FS) (ts : List T) (Q : T → Prop) (X : Xc → Prop) : newK c f ts Q X = Gq f.io (opS (fillT f (own (.obj c []) :: ts)) (fun ts => (f.sem ts).sat (fun t out => t = sh .non ∧ Q (sh out.d)) (fun x _ => X x))) := id rfl
theorem callK_def (f : FS) (ts : List T) (Q : T → T → Prop) (X : Xc → T → Prop) : callK f ts Q X = opS (fillT f ts) (fun ts => (f.sem ts).sat Q X) := id rfl
/-- a comprehension over a list, item by item -/
theorem sat_compA {A α : Type} {turn : D → Sl → R (Option α)} {Q : List α → Sl → Prop} {X : Xc → Sl → Prop} {as : List A} {f : Nat → A → D} {ρ : Sl} (I : Sl → Prop) (h : Nat → A → α)
    (h0 : I ρ)
    (h1 : ∀ i a r, as[i]? = some a → I r → (turn (f i a) r).sat (fun o r' => o = some (h i a) ∧ I r') NXS)
    (h2 : ∀ r, I r → Q (as.mapIdx h) r) : (noX (compL turn (as.mapIdx f) ρ)).sat Q X := by
  refine sat_compL (fun pre ys r => ys = (as.take pre.length).mapIdx h ∧ I r) ⟨by simp, h0⟩ ?_ ?_
  · rintro pre x post ys r e ⟨rfl, hi⟩
    have e' : (as.mapIdx f)[pre.length]? = some x := by rw [e]; simp
    rw [List.getElem?_mapIdx] at e'
    rcases ea : as[pre.length]? with _ | a
    · rw [ea] at e'
      cases e'
    · rw [ea] at e'
      simp only [Option.map_some, Option.some.injEq] at e'
      subst e'
      refine sat_mono (h1 _ a r ea hi) (fun o r' ⟨z1, z2⟩ => ?_) (fun _ _ z => z)
      subst z1
      refine ⟨?_, z2⟩
      have hl : pre.length < as.length := by
        apply Classical.byContradiction
        intro hc
        rw [List.getElem?_eq_none (by omega)] at ea
        cases ea
      simp only [List.length_append, List.length_cons, List.length_nil, List.take_add_one, ea]
      simp [List.mapIdx_append]
      congr 1
      omega
  · rintro ys r ⟨rfl, hi⟩
    have : as.take (as.mapIdx f).length = as := by simp
    rw [this]
    exact h2 r hi
theorem map_mapIdx {A B : Type} (f : A → B) (as : List A) : as.map f = as.mapIdx fun _ a => f a := by
  apply List.ext_getElem
  · simp
  · intro i h1 h2
    simp
theorem sat_compB {A α : Type} {turn : D → Sl → R (Option α)} {Q : List α → Sl → Prop} {X : Xc → Sl → Prop} {as : List A} {f : A → D} {ρ : Sl} (I : Sl → Prop) (h : A → α)
    (h0 : I ρ)
    (h1 : ∀ a r, a ∈ as → I r → (turn (f a) r).sat (fun o r' => o = some (h a) ∧ I r') NXS)
    (h2 : ∀ r, I r → Q (as.map h) r) : (noX (compL turn (as.map f) ρ)).sat Q X := by
  rw [map_mapIdx f as]
  refine sat_compA I (fun _ a => h a) h0 (fun i a r e hi => h1 a r (List.mem_of_getElem? e) hi) (fun r hi => ?_)
  rw [← map_mapIdx]
  exact h2 r hi
/-- one that takes some -/
theorem sat_compF {A α : Type} {turn : D → Sl → R (Option α)} {Q : List α → Sl → Prop} {X : Xc → Sl → Prop} {as : List A} {f : A → D} {ρ : Sl} (I : Sl → Prop) (h : A → Option α)
    (h0 : I ρ)
    (h1 : ∀ a r, a ∈ as → I r → (turn (f a) r).sat (fun o r' => o = h a ∧ I r') NXS)
    (h2 : ∀ r, I r → Q (as.filterMap h) r) : (noX (compL turn (as.map f) ρ)).sat Q X := by
  refine sat_compL (fun pre ys r => ys = (as.take pre.length).filterMap h ∧ I r) ⟨by simp, h0⟩ ?_ ?_
  · rintro pre x post ys r e ⟨rfl, hi⟩
    have e' : (as.map f)[pre.length]? = some x := by rw [e]; simp
    rw [List.getElem?_map] at e'
    rcases ea : as[pre.length]? with _ | a
    · rw [ea] at e'
      cases e'
    · rw [ea] at e'
      simp only [Option.map_some, Option.some.injEq] at e'
      subst e'
      refine sat_mono (h1 a r (List.mem_of_getElem? ea) hi) (fun o r' ⟨z1, z2⟩ => ?_) (fun _ _ z => z)
      subst z1
      refine ⟨?_, z2⟩
      simp only [List.length_append, List.length_cons, List.length_nil, List.take_add_one, ea, List.filterMap_append]
      cases ha : h a <;> simp [ha]
  · rintro ys r ⟨rfl, hi⟩
    have : as.take (as.map f).length = as := by simp
    rw [this]
    exact h2 r hi
/-- a loop over a list, item by item -/
theorem sat_forA {A : Type} {bind : D → Sl → Option Sl} {body : Sl → R Fl} {X : Xc → Sl → Prop} {Q : LF → Sl → Prop} {as : List A} {f : Nat → A → D} {ρ : Sl} (I : Nat → Sl → Prop)
    (h0 : I 0 ρ)
    (h1 : ∀ i a r, as[i]? = some a → I i r → opS (bind (f i a) r) (fun r1 => (body r1).sat (fun g r2 => lpK g (I (i + 1) r2) (Q .brk r2) (fun t => Q (.ret t) r2)) X))
    (h2 : ∀ r, I as.length r → Q .done r) : (forL bind body (as.mapIdx f) ρ).sat Q X := by
  refine sat_forL (fun pre r => I pre.length r) h0 ?_ ?_
  · rintro pre x post r e hi
    have e' : (as.mapIdx f)[pre.length]? = some x := by rw [e]; simp
    rw [List.getElem?_mapIdx] at e'
    rcases ea : as[pre.length]? with _ | a
    · rw [ea] at e'
      cases e'
    · rw [ea] at e'
      simp only [Option.map_some, Option.some.injEq] at e'
      subst e'
      have el : (pre ++ [f pre.length a]).length = pre.length + 1 := by simp
      rw [el]
      exact h1 _ a r ea hi
  · intro r hi
    exact h2 r (by simpa using hi)
theorem sat_forB {A : Type} {bind : D → Sl → Option Sl} {body : Sl → R Fl} {X : Xc → Sl → Prop} {Q : LF → Sl → Prop} {as : List A} {f : A → D} {ρ : Sl} (I : Nat → Sl → Prop)
    (h0 : I 0 ρ)
    (h1 : ∀ i a r, as[i]? = some a → I i r → opS (bind (f a) r) (fun r1 => (body r1).sat (fun g r2 => lpK g (I (i + 1) r2) (Q .brk r2) (fun t => Q (.ret t) r2)) X))
    (h2 : ∀ r, I as.length r → Q .done r) : (forL bind body (as.map f) ρ).sat Q X := by
  rw [map_mapIdx f as]
  exact sat_forA I h0 h1 h2
theorem eachFrom_eq (f : Int → D → D) : ∀ (xs : List D) (s : Int), eachFrom f s xs = xs.mapIdx fun i x => f (s + i) x
  | [], s => by simp [eachFrom]
  | x :: xs, s => by
    rw [eachFrom, eachFrom_eq f xs, List.mapIdx_cons]
    simp only [Int.natCast_add, Int.natCast_one]
    congr 1
    · simp
    · congr 1
      funext i y
      congr 1
      omega
theorem each_map {A : Type} (f : Int → D → D) (g : A → D) (as : List A) : eachFrom f 0 (as.map g) = as.mapIdx fun (i : Nat) a => f (i : Int) (g a) := by
  rw [eachFrom_eq]
  apply List.ext_getElem
  · simp
  · intro i h1 h2
    simp
theorem c0 : ((0 : Nat) : Int) = 0 := rfl
theorem c1 : ((1 : Nat) : Int) = 1 := rfl
theorem c2 : ((2 : Nat) : Int) = 2 := rfl
theorem c3 : ((3 : Nat) : Int) = 3 := rfl
theorem c4 : ((4 : Nat) : Int) = 4 := rfl
theorem c5 : ((5 : Nat) : Int) = 5 := rfl
theorem c6 : ((6 : Nat) : Int) = 6 := rfl
theorem c7 : ((7 : Nat) : Int) = 7 := rfl
theorem c8 : ((8 : Nat) : Int) = 8 := rfl
theorem c9 : ((9 : Nat) : Int) = 9 := rfl
theorem c10 : ((10 : Nat) : Int) = 10 := rfl
theorem c11 : ((11 : Nat) : Int) = 11 := rfl

def isD (a b : D) : Option Bool := cmpD .Is a b
theorem cmp_Is (a b : D) : cmpD .Is a b = isD a b := id rfl
theorem cmp_IsNot (a b : D) : cmpD .IsNot a b = (isD a b).map (!·) := by cases a <;> cases b <;> rfl
theorem is_non : isD .non .non = some true := id rfl
theorem is_bl (x : Bool) : isD (.bl x) .non = some false := id rfl
theorem is_int (x : Int) : isD (.int x) .non = some false := id rfl
theorem is_str (x : Str) : isD (.str x) .non = some false := id rfl
theorem is_lst (x : List D) : isD (.lst x) .non = some false := id rfl
theorem is_tup (x : List D) : isD (.tup x) .non = some false := id rfl
theorem is_dK (x : List (Key × D)) : isD (.dK x) .non = some false := id rfl
theorem is_dT (x : List (List Key × D)) : isD (.dT x) .non = some false := id rfl
theorem is_obj (c : Str) (x : List (Str × D)) : isD (.obj c x) .non = some false := id rfl
theorem is_blbl (x y : Bool) : isD (.bl x) (.bl y) = some (x == y) := id rfl
theorem cmp_Eq (a b : D) : cmpD .Eq a b = deqv a b := id rfl
theorem cmp_NotEq (a b : D) : cmpD .NotEq a b = (deqv a b).map (!·) := id rfl
theorem cmp_In (a b : D) : cmpD .In a b = isIn a b := id rfl
theorem cmp_NotIn (a b : D) : cmpD .NotIn a b = (isIn a b).map (!·) := id rfl
theorem cmp_Lt (i j : Int) : cmpD .Lt (.int i) (.int j) = some (decide (i < j)) := id rfl
theorem cmp_LtE (i j : Int) : cmpD .LtE (.int i) (.int j) = some (decide (i ≤ j)) := id rfl
theorem cmp_Gt (i j : Int) : cmpD .Gt (.int i) (.int j) = some (decide (j < i)) := id rfl
theorem cmp_GtE (i j : Int) : cmpD .GtE (.int i) (.int j) = some (decide (j ≤ i)) := id rfl
theorem de_int (i j : Int) : deqv (.int i) (.int j) = some (decide (i = j)) := id rfl
theorem de_str (i j : Str) : deqv (.str i) (.str j) = some (decide (i = j)) := id rfl
theorem de_bl (i j : Bool) : deqv (.bl i) (.bl j) = some (decide (i = j)) := id rfl
theorem de_non : deqv .non .non = some true := id rfl
theorem ix_lst (xs : List D) (i : Int) : ixD (.lst xs) (.int i) = L2.atI xs i := id rfl
theorem ix_tup (xs : List D) (i : Int) : ixD (.tup xs) (.int i) = L2.atI xs i := id rfl
theorem ix_str (z : Str) (i : Int) : ixD (.str z) (.int i) = if szOk z.length then (L2.atI z.cps.toList i).map fun c => .str ⟨#[c]⟩ else none := id rfl
theorem bn_add (i j : Int) : binD .Add (.int i) (.int j) = some (sh (.int (i + j))) := id rfl
theorem bn_adds (x y : Str) : binD .Add (.str x) (.str y) = if szOk (x.length + y.length) then some (sh (.str (x ++ y))) else none := id rfl
theorem bn_addl (xs ys : List D) : binD .Add (.lst xs) (.lst ys) = if szOk (xs.length + ys.length) then some (own (.lst (xs ++ ys))) else none := id rfl
theorem bn_addt (xs ys : List D) : binD .Add (.tup xs) (.tup ys) = if szOk (xs.length + ys.length) then some (sh (.tup (xs ++ ys))) else none := id rfl
theorem bn_sub (i j : Int) : binD .Sub (.int i) (.int j) = some (sh (.int (i - j))) := id rfl
theorem bn_mul (i j : Int) : binD .Mult (.int i) (.int j) = if mulOk i j then some (sh (.int (i * j))) else none := id rfl
theorem bn_mull (xs : List D) (k : Int) : binD .Mult (.lst xs) (.int k) = if decide (0 ≤ k) && decide (k ≤ 1000000) && szOk (xs.length * k.toNat) then some (own (.lst (List.replicate k.toNat xs).flatten)) else none := id rfl
theorem bn_mult (xs : List D) (k : Int) : binD .Mult (.tup xs) (.int k) = if !xs.isEmpty && decide (2 ≤ k) && decide (k ≤ 1000) && decide (xs.length ≤ 1000) then some (sh (.tup (List.replicate k.toNat xs).flatten)) else none := id rfl
theorem bn_div (i j : Int) : binD .FloorDiv (.int i) (.int j) = if divOk j then some (sh (.int (i / j))) else none := id rfl
theorem bn_mod (i j : Int) : binD .Mod (.int i) (.int j) = if decide (0 < j) then some (sh (.int (i % j))) else none := id rfl
theorem bn_pow (i j : Int) : binD .Pow (.int i) (.int j) = if powOk i j then some (sh (.int (i ^ j.toNat))) else none := id rfl
theorem wk_val (xs : List D) : walkD .val [.lst xs] = some xs := id rfl
theorem wk_valt (xs : List D) : walkD .val [.tup xs] = some xs := id rfl
theorem wk_vals (z : Str) : walkD .val [.str z] = some (z.cps.toList.map fun c => .str ⟨#[c]⟩) := id rfl
theorem wk_rng (n : Int) : walkD .range [.int n] = if decide (-1000000 ≤ n) && decide (n ≤ 1000000) then some (rangeL 0 n.toNat) else none := id rfl
theorem wk_rng2 (a b : Int) : walkD .range [.int a, .int b] = if decide (-1000000 ≤ a) && decide (a ≤ 1000000) && decide (-1000000 ≤ b) && decide (b ≤ 1000000) then some (rangeL a (b - a).toNat) else none := id rfl
theorem wk_rev (n : Int) : walkD .revRange [.int n] = if decide (-1000000 ≤ n) && decide (n ≤ 1000000) then some (rangeL 0 n.toNat).reverse else none := id rfl
theorem wj_enum (s : Int) (xs : List D) : walkD (.enum s) [.lst xs] = some (eachFrom (fun i x => .tup [.int i, x]) s xs) := id rfl
theorem wk_enumt (s : Int) (xs : List D) : walkD (.enum s) [.tup xs] = some (eachFrom (fun i x => .tup [.int i, x]) s xs) := id rfl
theorem wj_zip (xs ys : List D) : walkD .zip [.lst xs, .lst ys] = some ((xs.zip ys).map fun p => .tup [p.1, p.2]) := id rfl
theorem wk_zipt (xs ys : List D) : walkD .zip [.tup xs, .tup ys] = some ((xs.zip ys).map fun p => .tup [p.1, p.2]) := id rfl
theorem sl_lst (xs : List D) (lo hi : Option Int) : sliceD (.lst xs) lo hi = some (own (.lst (cutD xs lo hi))) := id rfl
theorem sl_tup (xs : List D) (lo hi : Option Int) : sliceD (.tup xs) lo hi = some (sh (.tup (cutD xs lo hi))) := id rfl
theorem sl_str (z : Str) (lo hi : Option Int) : sliceD (.str z) lo hi = if szOk z.length then some (sh (.str (L2.cutS z lo hi))) else none := id rfl
theorem sl3_tup (xs : List D) (lo hi : Option Int) (z : Int) : sliceD3 (.tup xs) lo hi (some z) = if !(z == 0) && szOk (adjS xs.length lo hi z).2 then some (sh (.tup (stepD xs lo hi z))) else none := id rfl
theorem bi_lenl (xs : List D) : biD .len [.lst xs] = some (sh (.int xs.length)) := id rfl
theorem bi_lent (xs : List D) : biD .len [.tup xs] = some (sh (.int xs.length)) := id rfl
theorem bi_lens (z : Str) : biD .len [.str z] = if szOk z.length then some (sh (.int z.length)) else none := id rfl
theorem bi_int (i : Int) : biD .int [.int i] = some (sh (.int i)) := id rfl
theorem bi_intb (b : Bool) : biD .int [.bl b] = some (sh (.int (if b then 1 else 0))) := id rfl
theorem bi_abs (i : Int) : biD .abs [.int i] = some (sh (.int (if i < 0 then -i else i))) := id rfl
theorem bi_max2 (i j : Int) : biD .max2 [.int i, .int j] = some (sh (.int (if j > i then j else i))) := id rfl
theorem bi_min2 (i j : Int) : biD .min2 [.int i, .int j] = some (sh (.int (if j < i then j else i))) := id rfl
theorem bi_maxL (xs : List D) : biD .maxL [.lst xs] = ((intsD xs).bind maxI).map fun m => sh (.int m) := id rfl
theorem bi_minL (xs : List D) : biD .minL [.lst xs] = ((intsD xs).bind minI).map fun m => sh (.int m) := id rfl
theorem bi_minL0 (d : D) (xs : List D) : biD (.minL0 d) [.lst xs] = if xs.isEmpty then some (sh d) else ((intsD xs).bind minI).map fun m => sh (.int m) := id rfl
theorem bi_sum (xs : List D) : biD .sum [.lst xs] = (intsD xs).map fun m => sh (.int m.sum) := id rfl
theorem bi_all (xs : List D) : biD .all [.lst xs] = (boolsD xs).map fun m => sh (.bl (m.all id)) := id rfl
theorem bj_any (xs : List D) : biD .any [.lst xs] = (boolsD xs).map fun m => sh (.bl (m.any id)) := id rfl
theorem bi_list (xs : List D) : biD .list [.lst xs] = some (own (.lst xs)) := id rfl
theorem bi_listt (xs : List D) : biD .list [.tup xs] = some (own (.lst xs)) := id rfl
theorem bi_listd (kvs : List (List Key × D)) : biD .list [.dT kvs] = some (own (.lst (kvs.map fun p => keyTuple p.1))) := id rfl
theorem bi_listk (kvs : List (Key × D)) : biD .list [.dK kvs] = some (own (.lst (kvs.map fun p => dkey p.1))) := id rfl
theorem bi_dictc (kvs : List (Key × D)) : biD .dictc [.dK kvs] = some (own (.dK kvs)) := id rfl
theorem bi_tuple (xs : List D) : biD .tuple [.lst xs] = some (sh (.tup xs)) := id rfl
theorem bi_tuplet (xs : List D) : biD .tuple [.tup xs] = some (sh (.tup xs)) := id rfl
theorem bi_str (z : Str) : biD .str [.str z] = some (sh (.str z)) := id rfl
theorem bi_stri (i : Int) : biD .str [.int i] = if decide (i.natAbs.log2 < 1920) then some (sh (.str (toString i))) else none := id rfl
theorem bi_isinst (ok : List Str) (x c : D) : biD (.isinst ok) [x, c] = (isClsB ok x c).map fun b => sh (.bl b) := id rfl
theorem bi_sorted (xs : List D) : biD .sorted [.lst xs] = if xs.all isTri && szOk xs.length then some (own (.lst (xs.mergeSort leTri))) else none := id rfl
theorem bi_join (z : Str) (xs : List D) : biD .join [.str z, .lst xs] = (strsD xs).bind fun ss => if szOk ((ss.map (·.length)).sum + ss.length * z.length) then some (sh (.str (Txt.join z ss))) else none := id rfl
theorem bi_lenset (xs : List D) : biD .lenset [.tup xs] = (strsD xs).bind fun ss => if ss.length ≤ 20 then some (sh (.int (cntTo ss ss.length))) else none := id rfl
theorem bi_lrange (n : Int) : biD .lrange [.int n] = if decide (-1000000 ≤ n) && decide (n ≤ 1000000) then some (own (.lst (rangeL 0 n.toNat))) else none := id rfl
theorem bi_lrange2 (a b : Int) : biD .lrange [.int a, .int b] = if decide (-1000000 ≤ a) && decide (a ≤ 1000000) && decide (-1000000 ≤ b) && decide (b ≤ 1000000) then some (own (.lst (rangeL a (b - a).toNat))) else none := id rfl
theorem bm_get1 (d k : D) : bmD .get1 d [k] = (dget d k).map fun r => sh (r.getD .non) := id rfl
theorem bm_get2 (d k z : D) : bmD .get2 d [k, z] = (dget d k).map fun r => sh (r.getD z) := id rfl
theorem dg_T (kvs : List (List Key × D)) (ks : List D) : dget (.dT kvs) (.tup ks) = if ks.length = 2 then (keysOf ks).map (fun x => look kvs x) else none := by
  simp only [dget]
  cases keysOf ks <;> rfl
theorem dg_K (kvs : List (Key × D)) (k : D) : dget (.dK kvs) k = (keyOf k).map (fun x => look kvs x) := by
  simp only [dget]
  cases keyOf k <;> rfl
theorem ix_dK (kvs : List (Key × D)) (k : D) : ixD (.dK kvs) k = (dget (.dK kvs) k).bind id := by
  cases k <;> simp only [ixD] <;> (rcases dget (.dK kvs) _ with _ | _ | v <;> rfl)
theorem ix_dT (kvs : List (List Key × D)) (k : D) : ixD (.dT kvs) k = (dget (.dT kvs) k).bind id := by
  cases k <;> simp only [ixD] <;> (rcases dget (.dT kvs) _ with _ | _ | v <;> rfl)
theorem in_K (x : D) (kvs : List (Key × D)) : isIn x (.dK kvs) = (dget (.dK kvs) x).map Option.isSome := by
  cases x <;> rfl
theorem in_T (x : D) (kvs : List (List Key × D)) : isIn x (.dT kvs) = (dget (.dT kvs) x).map Option.isSome := by
  cases x <;> rfl
theorem mt_app (xs : List D) (x : D) : mtD .append xs [x] = if szOk xs.length then some (xs ++ [x], .non) else none := id rfl
theorem mt_ext (xs ys : List D) : mtD .extend xs [.lst ys] = if szOk (xs.length + ys.length) then some (xs ++ ys, .non) else none := id rfl
theorem mt_ins (xs : List D) (i : Int) (y : D) : mtD .insert xs [.int i, y] = if decide (0 ≤ i) && decide (i < 1000000) && szOk xs.length then some (xs.take i.toNat ++ [y] ++ xs.drop i.toNat, .non) else none := id rfl
theorem mt_pop (xs : List D) (i : Int) : mtD .popAt xs [.int i] = if decide (0 ≤ i) && decide (i < xs.length) && szOk xs.length then (xs[i.toNat]?).map fun y => (xs.eraseIdx i.toNat, y) else none := id rfl
theorem sx_lst (xs : List D) (i : Int) (v : D) : setIxT ⟨true, .lst xs⟩ (.int i) v = (L2.ixN xs.length i).map fun j => own (.lst (xs.set j v)) := id rfl
theorem sx_dK (kvs : List (Key × D)) (k v : D) : setIxT ⟨true, .dK kvs⟩ k v = if szOk kvs.length then (keyOf k).map fun x => own (.dK (put kvs x v)) else none := by
  cases k <;> rfl
theorem sx_dT (kvs : List (List Key × D)) (ks : List D) (v : D) : setIxT ⟨true, .dT kvs⟩ (.tup ks) v = if szOk kvs.length && decide (ks.length = 2) then (keysOf ks).map fun x => own (.dT (put kvs x v)) else none := id rfl
theorem sf_obj (cs : List Str) (c : Str) (fs : List (Str × D)) (f : Str) (v : D) : setFldT cs ⟨true, .obj c fs⟩ f v = if decide (fs.length < 1000) && cs.contains c then some (own (.obj c (putFD f v fs))) else none := id rfl
theorem Option_bind_some' {α β : Type} (a : α) (f : α → Option β) : (some a).bind f = f a := id rfl
theorem opS_if {α : Type} (b : Bool) (o : Option α) (K : α → Prop) : opS (if b = true then o else none) K = Gq b (opS o K) := by cases b <;> simp [Gq, opS, GqV, opSV]
theorem opS_ifd {α : Type} (p : Prop) [Decidable p] (o : Option α) (K : α → Prop) : opS (if p then o else none) K = Gq (decide p) (opS o K) := by by_cases h : p <;> simp [h, Gq, opS, GqV, opSV]
theorem opS_bind {α β : Type} (o : Option α) (f : α → Option β) (K : β → Prop) : opS (o.bind f) K = opS o (fun a => opS (f a) K) := by cases o <;> rfl
theorem Gd_and (a b : Bool) (K : Prop) : Gq (a && b) K = Gq a (Gq b K) := by cases a <;> cases b <;> simp [Gq, GqV]
theorem atI_nat {α : Type} (xs : List α) (i : Nat) : L2.atI xs (i : Int) = xs[i]? := by
  simp only [L2.atI, L2.ixN]
  have h0 : (0 : Int) ≤ i := by omega
  rw [if_pos h0]
  by_cases h : (i : Int) < xs.length
  · rw [if_pos h]
    simp
  · rw [if_neg h]
    have : xs.length ≤ i := by omega
    simp [this]
theorem atI_0 {α : Type} (x : α) (xs : List α) : L2.atI (x :: xs) 0 = some x := (atI_nat (x :: xs) 0).trans rfl
theorem atI_1 {α : Type} (x y : α) (xs : List α) : L2.atI (x :: y :: xs) 1 = some y := (atI_nat (x :: y :: xs) 1).trans rfl
theorem atI_2 {α : Type} (x y z : α) (xs : List α) : L2.atI (x :: y :: z :: xs) 2 = some z := (atI_nat (x :: y :: z :: xs) 2).trans rfl
theorem atI_int {α : Type} (xs : List α) (i : Int) (h0 : 0 ≤ i) : L2.atI xs i = xs[i.toNat]? := by
  have : i = (i.toNat : Int) := by omega
  have h := atI_nat xs i.toNat
  rw [← this] at h
  exact h
def GdP (p K : Prop) [Fx K] : Prop := p ∧ K
theorem GdP_true (K : Prop) : GdP True K = K := by simp [GdP]
theorem Gd_decide (p : Prop) [Decidable p] (K : Prop) : Gq (decide p) K = GdP p K := by
  by_cases h : p <;> simp [h, Gq, GqV, GdP]
theorem GdP_intro {p K : Prop} (h : p) (k : K) : GdP p K := ⟨h, k⟩
theorem Gd_dec {p : Prop} [Decidable p] {K : Prop} (h : p) (k : K) : Gq (decide p) K := ⟨decide_eq_true h, k⟩
theorem ixN_0 (n : Nat) : L2.ixN (n + 1) 0 = some 0 := by simp [L2.ixN] <;> omega
theorem ixN_1 (n : Nat) : L2.ixN (n + 1 + 1) 1 = some 1 := by simp [L2.ixN] <;> omega
theorem ixN_2 (n : Nat) : L2.ixN (n + 1 + 1 + 1) 2 = some 2 := by simp [L2.ixN] <;> omega
/-! small guards -/
theorem log_small {n : Int} (h : n.natAbs ≤ 10 ^ 200) : n.natAbs.log2 < 1000 := by
  have h5 : (10 : Nat) ^ 200 < 2 ^ 1000 := by decide +kernel
  by_cases h0 : n.natAbs = 0
  · rw [h0]; decide
  · exact (Nat.log2_lt h0).mpr (Nat.lt_of_le_of_lt h h5)
theorem divOk_small {n : Int} (h : 1 ≤ n) (h2 : n ≤ 10 ^ 200) : divOk n = true := by
  have h6 := log_small (n := n) (by omega)
  simp only [divOk, Bool.and_eq_true, decide_eq_true_eq]
  exact ⟨by omega, by omega⟩
theorem mulOk_small {i j : Int} (h : i.natAbs ≤ 10 ^ 200) (h2 : j.natAbs ≤ 10 ^ 200) : mulOk i j = true := by
  have := log_small h
  have := log_small h2
  simp only [mulOk, decide_eq_true_eq]
  omega
theorem powOk_small {i j : Int} (h : i.natAbs ≤ 10 ^ 200) (h0 : 0 ≤ j) (h2 : j ≤ 1000) : powOk i j = true := by
  have h3 := log_small h
  simp only [powOk, Bool.and_eq_true, decide_eq_true_eq]
  refine ⟨h0, ?_⟩
  have h4 : ((i.natAbs.log2 : Int) + 1) ≤ 1000 := by omega
  have h5 : ((i.natAbs.log2 : Int) + 1) * j ≤ 1000 * 1000 := Int.mul_le_mul h4 h2 h0 (by decide)
  omega
theorem powOk_ten {j : Int} (h0 : 0 ≤ j) (h2 : j ≤ 1000) : powOk 10 j = true := powOk_small (by decide +kernel) h0 h2

end Mi

set_option linter.all false
/-! MT: least bounds of differences, plainly. -/
namespace Mi
def lessO : Option Int → Option Int → Bool
  | some a, some b => decide (a < b)
  | some _, none => true
  | none, _ => false
def addO : Option Int → Option Int → Option Int
  | some a, some b => some (a + b)
  | _, _ => none
def tightO (a b : Option Int) : Option Int := if lessO b a then b else a
abbrev Mx := Nat → Nat → Option Int
def stepM (M : Mx) (k : Nat) : Mx := fun i j => tightO (M i j) (addO (M i k) (M k j))
def fwM (n : Nat) (M : Mx) : Mx := (List.range n).foldl stepM M
def negD (n : Nat) (M : Mx) : Bool := (List.range n).any fun i => match M i i with
  | some v => decide (v < 0)
  | none => false
def closedM (n : Nat) (M : Mx) : Option Mx := if negD n (fwM n M) then none else some (fwM n M)
/-- all bounds of a table hold of numbers -/
def Holds (n : Nat) (M : Mx) (φ : Nat → Int) : Prop := ∀ i j, i < n → j < n → ∀ v, M i j = some v → φ i - φ j ≤ v
def Dg (n : Nat) (M : Mx) : Prop := ∀ i, i < n → ∃ v, M i i = some v
theorem tight_l (a b : Option Int) (v : Int) (h : a = some v) : ∃ w, tightO a b = some w ∧ w ≤ v := by
  subst h
  simp only [tightO]
  cases b with
  | none => exact ⟨v, by simp [lessO], Int.le_refl _⟩
  | some b =>
    by_cases h : b < v
    · exact ⟨b, by simp [lessO, h], by omega⟩
    · exact ⟨v, by simp [lessO, h], Int.le_refl _⟩
theorem tight_r (a b : Option Int) (v : Int) (h : b = some v) : ∃ w, tightO a b = some w ∧ w ≤ v := by
  subst h
  simp only [tightO]
  cases a with
  | none => exact ⟨v, by simp [lessO], Int.le_refl _⟩
  | some b =>
    by_cases h : v < b
    · exact ⟨v, by simp [lessO, h], by omega⟩
    · exact ⟨b, by simp [lessO, h], by omega⟩
theorem tight_or (a b : Option Int) : tightO a b = a ∨ tightO a b = b := by
  simp only [tightO]
  split <;> simp
theorem step_le (M : Mx) (k i j : Nat) (v : Int) (h : M i j = some v) : ∃ w, stepM M k i j = some w ∧ w ≤ v := tight_l _ _ _ h
theorem step_dg {n : Nat} {M : Mx} (h : Dg n M) (k : Nat) : Dg n (stepM M k) := fun i hi => by
  obtain ⟨v, e⟩ := h i hi
  obtain ⟨w, e', _⟩ := step_le M k i i v e
  exact ⟨w, e'⟩
theorem step_holds {n : Nat} {M : Mx} {φ : Nat → Int} {k : Nat} (hk : k < n) : Holds n (stepM M k) φ ↔ Holds n M φ := by
  constructor
  · intro h i j hi hj v e
    obtain ⟨w, e', hw⟩ := step_le M k i j v e
    have := h i j hi hj w e'
    omega
  · intro h i j hi hj v e
    simp only [stepM] at e
    rcases tight_or (M i j) (addO (M i k) (M k j)) with h' | h'
    · exact h i j hi hj v (h'.symm.trans e)
    · rw [h'] at e
      rcases e1 : M i k with _ | a
      · rw [e1] at e
        simp [addO] at e
      · rcases e2 : M k j with _ | b
        · rw [e1, e2] at e
          simp [addO] at e
        · rw [e1, e2] at e
          simp only [addO, Option.some.injEq] at e
          have := h i k hi hk a e1
          have := h k j hk hj b e2
          omega
theorem foldl_holds {n : Nat} {φ : Nat → Int} : ∀ (ks : List Nat) (M : Mx), (∀ k ∈ ks, k < n) → (Holds n (ks.foldl stepM M) φ ↔ Holds n M φ)
  | [], M, _ => Iff.rfl
  | k :: ks, M, h => by
    rw [List.foldl_cons, foldl_holds ks _ (fun z hz => h z (by simp [hz]))]
    exact step_holds (h k (by simp))
theorem fw_holds {n : Nat} {M : Mx} {φ : Nat → Int} : Holds n (fwM n M) φ ↔ Holds n M φ := foldl_holds _ _ (fun k hk => List.mem_range.mp hk)
theorem foldl_dg {n : Nat} : ∀ (ks : List Nat) (M : Mx), Dg n M → Dg n (ks.foldl stepM M)
  | [], _, h => h
  | k :: ks, M, h => foldl_dg ks _ (step_dg h k)
theorem fw_dg {n : Nat} {M : Mx} (h : Dg n M) : Dg n (fwM n M) := foldl_dg _ _ h
theorem neg_iff {n : Nat} {M : Mx} : negD n M = true ↔ ∃ i v, i < n ∧ M i i = some v ∧ v < 0 := by
  simp only [negD, List.any_eq_true, List.mem_range]
  constructor
  · rintro ⟨i, hi, h⟩
    rcases e : M i i with _ | v
    · rw [e] at h
      cases h
    · rw [e] at h
      exact ⟨i, v, hi, e, by simpa using h⟩
  · rintro ⟨i, v, hi, e, hv⟩
    exact ⟨i, hi, by rw [e]; simpa using hv⟩
theorem closed_none {n : Nat} {M : Mx} {φ : Nat → Int} (h : closedM n M = none) : ¬ Holds n M φ := by
  simp only [closedM] at h
  split at h
  · rename_i h'
    obtain ⟨i, v, hi, e, hv⟩ := neg_iff.mp h'
    intro hh
    have := fw_holds.mpr hh i i hi hi v e
    omega
  · cases h
theorem closed_some {n : Nat} {M M' : Mx} {φ : Nat → Int} (h : closedM n M = some M') : Holds n M' φ ↔ Holds n M φ := by
  simp only [closedM] at h
  split at h
  · cases h
  · cases h
    exact fw_holds
/-- the table of some bounds by places -/
def updM (M : Mx) (r : Nat × Nat × Int) : Mx := if lessO (some r.2.2) (M r.1 r.2.1) then fun i j => if i = r.1 ∧ j = r.2.1 then some r.2.2 else M i j else M
def diagM (n : Nat) : Mx := fun i j => if i = j ∧ i < n then some 0 else none
def tabM (n : Nat) (rows : List (Nat × Nat × Int)) : Mx := rows.foldl updM (diagM n)
theorem upd_holds {n : Nat} {M : Mx} {φ : Nat → Int} {r : Nat × Nat × Int} (h1 : r.1 < n) (h2 : r.2.1 < n) : Holds n (updM M r) φ ↔ Holds n M φ ∧ φ r.1 - φ r.2.1 ≤ r.2.2 := by
  obtain ⟨a, b, v⟩ := r
  simp only [updM] at *
  by_cases hl : lessO (some v) (M a b) = true
  · simp only [hl, ↓reduceIte]
    constructor
    · intro h
      have h0 := h a b h1 h2 v (by simp)
      refine ⟨fun i j hi hj w e => ?_, h0⟩
      by_cases hij : i = a ∧ j = b
      · obtain ⟨rfl, rfl⟩ := hij
        rw [e] at hl
        simp [lessO] at hl
        omega
      · exact h i j hi hj w (by simp only [hij, ↓reduceIte]; exact e)
    · rintro ⟨h, h0⟩ i j hi hj w e
      by_cases hij : i = a ∧ j = b
      · simp only [hij, and_self, ↓reduceIte, Option.some.injEq] at e
        obtain ⟨rfl, rfl⟩ := hij
        omega
      · simp only [hij, ↓reduceIte] at e
        exact h i j hi hj w e
  · simp only [hl]
    constructor
    · intro h
      refine ⟨h, ?_⟩
      rcases e : M a b with _ | w
      · rw [e] at hl
        simp [lessO] at hl
      · rw [e] at hl
        simp [lessO] at hl
        have := h a b h1 h2 w e
        omega
    · exact fun h => h.1
theorem tab_holds_aux {n : Nat} {φ : Nat → Int} : ∀ (rows : List (Nat × Nat × Int)) (M : Mx), (∀ r ∈ rows, r.1 < n ∧ r.2.1 < n) → (Holds n (rows.foldl updM M) φ ↔ Holds n M φ ∧ ∀ r ∈ rows, φ r.1 - φ r.2.1 ≤ r.2.2)
  | [], M, _ => by simp
  | r :: rows, M, h => by
    rw [List.foldl_cons, tab_holds_aux rows _ (fun z hz => h z (by simp [hz])), upd_holds (h r (by simp)).1 (h r (by simp)).2]
    simp [and_assoc]
theorem diag_holds (n : Nat) (φ : Nat → Int) : Holds n (diagM n) φ := by
  intro i j hi hj v e
  simp only [diagM] at e
  split at e
  · rename_i h
    cases e
    rw [h.1]
    omega
  · cases e
theorem tab_holds {n : Nat} {φ : Nat → Int} {rows : List (Nat × Nat × Int)} (h : ∀ r ∈ rows, r.1 < n ∧ r.2.1 < n) : Holds n (tabM n rows) φ ↔ ∀ r ∈ rows, φ r.1 - φ r.2.1 ≤ r.2.2 := by
  rw [tabM, tab_holds_aux rows _ h]
  exact ⟨fun h => h.2, fun h => ⟨diag_holds _ _, h⟩⟩
theorem upd_dg {n : Nat} {M : Mx} (h : Dg n M) (r : Nat × Nat × Int) : Dg n (updM M r) := fun i hi => by
  obtain ⟨v, e⟩ := h i hi
  simp only [updM]
  split
  · by_cases hij : i = r.1 ∧ i = r.2.1
    · exact ⟨r.2.2, if_pos hij⟩
    · exact ⟨v, by simp only [hij, ↓reduceIte]; exact e⟩
  · exact ⟨v, e⟩
theorem tab_dg (n : Nat) (rows : List (Nat × Nat × Int)) : Dg n (tabM n rows) := by
  have : ∀ (rows : List (Nat × Nat × Int)) (M : Mx), Dg n M → Dg n (rows.foldl updM M) := by
    intro rows
    induction rows with
    | nil => exact fun _ h => h
    | cons r rows ih => exact fun M h => ih _ (upd_dg h r)
  exact this rows _ (fun i hi => ⟨0, by simp [diagM, hi]⟩)
end Mi

set_option linter.all false
/-! MF: shortest ways close; in place and row by row alike. -/
namespace Mi
theorem fold_range {α : Type} {n : Nat} {f : α → Nat → α} (P : Nat → α → Prop) {x : α} (h0 : P 0 x) (h : ∀ k y, k < n → P k y → P (k + 1) (f y k)) : P n ((List.range n).foldl f x) := by
  have key : ∀ m, m ≤ n → P m ((List.range m).foldl f x) := by
    intro m
    induction m with
    | zero => intro _; exact h0
    | succ m ih =>
      intro hm
      rw [List.range_succ, List.foldl_append]
      exact h m _ (by omega) (ih (by omega))
  exact key n (Nat.le_refl n)
def EqN (n : Nat) (A B : Mx) : Prop := ∀ i j, i < n → j < n → A i j = B i j
theorem EqN.refl (n : Nat) (A : Mx) : EqN n A A := fun _ _ _ _ => rfl
theorem EqN.symm {n : Nat} {A B : Mx} (h : EqN n A B) : EqN n B A := fun i j a b => (h i j a b).symm
theorem EqN.trans {n : Nat} {A B C : Mx} (h : EqN n A B) (g : EqN n B C) : EqN n A C := fun i j a b => (h i j a b).trans (g i j a b)
theorem EqN.step {n : Nat} {A B : Mx} {k : Nat} (h : EqN n A B) (hk : k < n) : EqN n (stepM A k) (stepM B k) := fun i j a b => by
  simp only [stepM, h i j a b, h i k a hk, h k j hk b]
theorem EqN.neg {n : Nat} {A B : Mx} (h : EqN n A B) : negD n A = negD n B := by
  rw [Bool.eq_iff_iff, neg_iff, neg_iff]
  constructor
  · rintro ⟨i, v, hi, e, hv⟩
    exact ⟨i, v, hi, (h i i hi hi).symm.trans e, hv⟩
  · rintro ⟨i, v, hi, e, hv⟩
    exact ⟨i, v, hi, (h i i hi hi).trans e, hv⟩
theorem EqN.fold {n : Nat} : ∀ (ks : List Nat) {A B : Mx}, EqN n A B → (∀ k ∈ ks, k < n) → EqN n (ks.foldl stepM A) (ks.foldl stepM B)
  | [], _, _, h, _ => h
  | k :: ks, _, _, h, hk => EqN.fold ks (h.step (hk k (by simp))) (fun z hz => hk z (by simp [hz]))
theorem EqN.fw {n : Nat} {A B : Mx} (h : EqN n A B) : EqN n (fwM n A) (fwM n B) := EqN.fold _ h (fun k hk => List.mem_range.mp hk)
def Le (x : Option Int) (v : Int) : Prop := ∃ c, x = some c ∧ c ≤ v
theorem tight_le {a b : Option Int} {v : Int} (h : Le a v ∨ Le b v) : Le (tightO a b) v := by
  rcases h with ⟨c, e, hc⟩ | ⟨c, e, hc⟩
  · obtain ⟨w, e', hw⟩ := tight_l a b c e
    exact ⟨w, e', by omega⟩
  · obtain ⟨w, e', hw⟩ := tight_r a b c e
    exact ⟨w, e', by omega⟩
theorem add_some {a b : Option Int} {v : Int} (h : addO a b = some v) : ∃ x y, a = some x ∧ b = some y ∧ v = x + y := by
  cases a <;> cases b <;> simp [addO] at h
  exact ⟨_, _, rfl, rfl, h.symm⟩
theorem step_cases {M : Mx} {k i j : Nat} {v : Int} (h : stepM M k i j = some v) : M i j = some v ∨ ∃ x y, M i k = some x ∧ M k j = some y ∧ v = x + y := by
  simp only [stepM] at h
  rcases tight_or (M i j) (addO (M i k) (M k j)) with e | e
  · exact .inl (e.symm.trans h)
  · exact .inr (add_some (e.symm.trans h))
theorem step_via {M : Mx} {k i j : Nat} {x y v : Int} (h1 : M i k = some x) (h2 : M k j = some y) (hv : x + y ≤ v) : Le (stepM M k i j) v := by
  simp only [stepM]
  refine tight_le (.inr ⟨x + y, ?_, hv⟩)
  rw [h1, h2]
  rfl
theorem step_old {M : Mx} {k i j : Nat} {v : Int} (h : Le (M i j) v) : Le (stepM M k i j) v := tight_le (.inl h)
/-- ways by some ends close -/
def Tri (n : Nat) (S : Nat → Prop) (M : Mx) : Prop := ∀ m, S m → m < n → ∀ i j, i < n → j < n → ∀ a b, M i m = some a → M m j = some b → Le (M i j) (a + b)
theorem tri_step {n : Nat} {S : Nat → Prop} {M : Mx} {k : Nat} {d : Int} (h : Tri n S M) (hk : k < n) (hd : M k k = some d) (h0 : 0 ≤ d) : Tri n (fun m => S m ∨ m = k) (stepM M k) := by
  intro m hm hmn i j hi hj a b ea eb
  rcases hm with hm | rfl
  · rcases step_cases ea with ea | ⟨x, y, e1, e2, rfl⟩ <;> rcases step_cases eb with eb | ⟨x', y', e3, e4, rfl⟩
    · exact step_old (h m hm hmn i j hi hj a b ea eb)
    · obtain ⟨c, ec, hc⟩ := h m hm hmn i k hi hk a x' ea e3
      exact step_via ec e4 (by omega)
    · obtain ⟨c, ec, hc⟩ := h m hm hmn k j hk hj y b e2 eb
      exact step_via e1 ec (by omega)
    · obtain ⟨c, ec, hc⟩ := h m hm hmn k k hk hk y x' e2 e3
      rw [hd] at ec
      cases ec
      exact step_via e1 e4 (by omega)
  · rcases step_cases ea with ea | ⟨x, y, e1, e2, rfl⟩ <;> rcases step_cases eb with eb | ⟨x', y', e3, e4, rfl⟩
    · exact step_via ea eb (Int.le_refl _)
    · rw [hd] at e3
      cases e3
      exact step_via ea e4 (by omega)
    · rw [hd] at e2
      cases e2
      exact step_via e1 eb (by omega)
    · rw [hd] at e2 e3
      cases e2
      cases e3
      exact step_via e1 e4 (by omega)
theorem fold_le {n : Nat} : ∀ (ks : List Nat) (M : Mx) {i j : Nat} {v : Int}, M i j = some v → Le (ks.foldl stepM M i j) v
  | [], _, _, _, v, e => ⟨v, e, Int.le_refl _⟩
  | k :: ks, M, i, j, v, e => by
    obtain ⟨w, e1, h1⟩ := step_le M k i j v e
    obtain ⟨u, e2, h2⟩ := fold_le (n := n) ks (stepM M k) e1
    exact ⟨u, e2, by omega⟩
theorem neg_no {n : Nat} {M : Mx} (h : negD n M = false) {i : Nat} {v : Int} (hi : i < n) (e : M i i = some v) : 0 ≤ v := by
  apply Classical.byContradiction
  intro hc
  have := neg_iff.mpr ⟨i, v, hi, e, by omega⟩
  rw [h] at this
  cases this
theorem fold_tri {n : Nat} : ∀ (ks : List Nat) (M : Mx) (S : Nat → Prop), (∀ k ∈ ks, k < n) → Dg n M → Tri n S M → negD n (ks.foldl stepM M) = false → Tri n (fun m => S m ∨ m ∈ ks) (ks.foldl stepM M)
  | [], M, S, _, _, h, _ => by
    intro m hm
    exact h m (by simpa using hm)
  | k :: ks, M, S, hk, hd, h, hn => by
    obtain ⟨d, e⟩ := hd k (hk k (by simp))
    have h0 : 0 ≤ d := by
      obtain ⟨c, e', hc⟩ := fold_le (n := n) (k :: ks) M e
      have := neg_no hn (hk k (by simp)) e'
      omega
    have := fold_tri ks (stepM M k) _ (fun z hz => hk z (by simp [hz])) (step_dg hd k) (tri_step h (hk k (by simp)) e h0) hn
    intro m hm
    refine this m ?_
    rcases hm with hm | hm
    · exact .inl (.inl hm)
    · rcases List.mem_cons.mp hm with rfl | hm
      · exact .inl (.inr rfl)
      · exact .inr hm
/-- a closed table: the diagonal is 0, ways close -/
structure Closed (n : Nat) (M : Mx) : Prop where
  tri : ∀ m i j, m < n → i < n → j < n → ∀ a b, M i m = some a → M m j = some b → Le (M i j) (a + b)
  dg : ∀ i, i < n → M i i = some 0
theorem fw_closed {n : Nat} {M : Mx} (hd : ∀ i, i < n → Le (M i i) 0) (hn : negD n (fwM n M) = false) : Closed n (fwM n M) := by
  have hD : Dg n M := fun i hi => (hd i hi).imp fun _ h => h.1
  have h := fold_tri (List.range n) M (fun _ => False) (fun k hk => List.mem_range.mp hk) hD (fun _ h => h.elim) hn
  refine ⟨fun m i j hm hi hj a b ea eb => h m (.inr (List.mem_range.mpr hm)) hm i j hi hj a b ea eb, fun i hi => ?_⟩
  obtain ⟨c, e, hc⟩ := hd i hi
  obtain ⟨w, e', hw⟩ := fold_le (n := n) (List.range n) M e
  have h0 := neg_no hn hi (show fwM n M i i = some w from e')
  have : w = 0 := by omega
  rw [show fwM n M i i = some w from e', this]
theorem closed_step {n : Nat} {M : Mx} (h : Closed n M) {k : Nat} (hk : k < n) : EqN n (stepM M k) M := by
  intro i j hi hj
  simp only [stepM, tightO]
  cases hl : lessO (addO (M i k) (M k j)) (M i j) with
  | false => simp
  | true =>
    exfalso
    rcases e : addO (M i k) (M k j) with _ | v
    · rw [e] at hl
      simp [lessO] at hl
    · obtain ⟨x, y, e1, e2, rfl⟩ := add_some e
      obtain ⟨c, ec, hc⟩ := h.tri k i j hk hi hj x y e1 e2
      rw [e, ec] at hl
      simp [lessO] at hl
      omega
theorem Closed.eqN {n : Nat} {A B : Mx} (h : Closed n A) (e : EqN n B A) : Closed n B :=
  ⟨fun m i j hm hi hj a b ea eb => by
    rw [e i m hi hm] at ea
    rw [e m j hm hj] at eb
    rw [e i j hi hj]
    exact h.tri m i j hm hi hj a b ea eb, fun i hi => by rw [e i i hi hi]; exact h.dg i hi⟩
theorem closed_fold {n : Nat} {M : Mx} (h : Closed n M) : ∀ (ks : List Nat) {A : Mx}, EqN n A M → (∀ k ∈ ks, k < n) → EqN n (ks.foldl stepM A) M
  | [], _, e, _ => e
  | k :: ks, A, e, hk => closed_fold h ks ((e.step (hk k (by simp))).trans (closed_step h (hk k (by simp)))) (fun z hz => hk z (by simp [hz]))
theorem closed_neg {n : Nat} {M : Mx} (h : Closed n M) : negD n M = false := by
  cases e : negD n M with
  | false => rfl
  | true =>
    obtain ⟨i, v, hi, e', hv⟩ := neg_iff.mp e
    rw [h.dg i hi] at e'
    cases e'
    omega
theorem closed_fw {n : Nat} {M A : Mx} (h : Closed n M) (e : EqN n A M) : EqN n (fwM n A) M := closed_fold h _ e (fun k hk => List.mem_range.mp hk)
/-! in place -/
def relaxM (m : Nat) (G : Mx) (i j : Nat) : Mx := fun a b => if a = i ∧ b = j then tightO (G i j) (addO (G i m) (G m j)) else G a b
def rowP (n m : Nat) (G : Mx) (i : Nat) : Mx := (List.range n).foldl (fun G j => relaxM m G i j) G
def phaseM (n : Nat) (G : Mx) (m : Nat) : Mx := (List.range n).foldl (rowP n m) G
def lawM (n : Nat) (G : Mx) : Mx := (List.range n).foldl (phaseM n) G
theorem tight_ge {a : Option Int} {b : Int} (h : ∀ x, a = some x → x ≤ b) (ha : a ≠ none) : tightO a (some b) = a := by
  rcases a with _ | x
  · exact absurd rfl ha
  · have := h x rfl
    have h2 : ¬ b < x := by omega
    simp [tightO, lessO, h2]
theorem step_colm {G : Mx} {m : Nat} {d : Int} (hd : G m m = some d) (h0 : 0 ≤ d) (i : Nat) : stepM G m i m = G i m := by
  simp only [stepM, hd]
  rcases e : G i m with _ | x
  · simp [addO, tightO, lessO]
  · have h2 : ¬ x + d < x := by omega
    simp [addO, tightO, lessO, h2]
theorem step_rowm {G : Mx} {m : Nat} {d : Int} (hd : G m m = some d) (h0 : 0 ≤ d) (j : Nat) : stepM G m m j = G m j := by
  simp only [stepM, hd]
  rcases e : G m j with _ | x
  · simp [addO, tightO, lessO]
  · have h2 : ¬ d + x < x := by omega
    simp [addO, tightO, lessO, h2]
theorem phase_eq {n m : Nat} {G : Mx} {d : Int} (hm : m < n) (hd : G m m = some d) (h0 : 0 ≤ d) : EqN n (phaseM n G m) (stepM G m) := by
  have key : ∀ a b, a < n → b < n → phaseM n G m a b = if a < n then stepM G m a b else G a b := by
    refine fold_range (fun p (H : Mx) => ∀ a b, a < n → b < n → H a b = if a < p then stepM G m a b else G a b) (fun a b _ _ => by simp) ?_
    intro p H hp hI
    have row : ∀ a b, a < n → b < n → rowP n m H p a b = if a < p ∨ (a = p ∧ b < n) then stepM G m a b else G a b := by
      refine fold_range (fun q (H' : Mx) => ∀ a b, a < n → b < n → H' a b = if a < p ∨ (a = p ∧ b < q) then stepM G m a b else G a b) (fun a b ha hb => by rw [hI a b ha hb]; simp) ?_
      intro q H' hq hR a b ha hb
      have e1 : H' p m = G p m := by
        rw [hR p m hp hm]
        split
        · exact step_colm hd h0 p
        · rfl
      have e2 : H' m q = G m q := by
        rw [hR m q hm hq]
        split
        · exact step_rowm hd h0 q
        · rfl
      have e3 : H' p q = G p q := by
        rw [hR p q hp hq]
        simp
      simp only [relaxM]
      by_cases hab : a = p ∧ b = q
      · obtain ⟨rfl, rfl⟩ := hab
        rw [e1, e2, e3]
        simp [stepM]
      · rw [if_neg hab, hR a b ha hb]
        by_cases h1 : a < p ∨ (a = p ∧ b < q)
        · have : a < p ∨ (a = p ∧ b < q + 1) := by omega
          rw [if_pos h1, if_pos this]
        · have : ¬ (a < p ∨ (a = p ∧ b < q + 1)) := by omega
          rw [if_neg h1, if_neg this]
    intro a b ha hb
    rw [row a b ha hb]
    by_cases h1 : a < p + 1
    · have : a < p ∨ (a = p ∧ b < n) := by omega
      rw [if_pos h1, if_pos this]
    · have : ¬ (a < p ∨ (a = p ∧ b < n)) := by omega
      rw [if_neg h1, if_neg this]
  intro a b ha hb
  rw [key a b ha hb, if_pos ha]
theorem relax_le {m i j : Nat} {G : Mx} {a b : Nat} {v : Int} (h : Le (G a b) v) : Le (relaxM m G i j a b) v := by
  simp only [relaxM]
  split
  · rename_i h'
    obtain ⟨rfl, rfl⟩ := h'
    exact tight_le (.inl h)
  · exact h
theorem foldl_keep {α β : Type} {f : β → α → β} {P : β → Prop} (hf : ∀ b a, P b → P (f b a)) : ∀ (l : List α) {b : β}, P b → P (l.foldl f b)
  | [], _, h => h
  | a :: l, _, h => foldl_keep hf l (hf _ a h)
theorem phase_le {n m : Nat} {G : Mx} {a b : Nat} {v : Int} (h : Le (G a b) v) : Le (phaseM n G m a b) v :=
  foldl_keep (P := fun G : Mx => Le (G a b) v) (fun G i h => foldl_keep (P := fun G : Mx => Le (G a b) v) (fun G j h => relax_le h) _ h) _ h
theorem le_dg {n : Nat} {G : Mx} (h : ∀ i, i < n → Le (G i i) 0) {i : Nat} (hi : i < n) : ∃ d, G i i = some d := (h i hi).imp fun _ h => h.1
theorem law_fold {n : Nat} : ∀ (ks : List Nat) {G G' : Mx}, EqN n G G' → (∀ k ∈ ks, k < n) → (∀ i, i < n → Le (G i i) 0) → (negD n (ks.foldl (phaseM n) G) = false ∨ negD n (ks.foldl stepM G') = false) → EqN n (ks.foldl (phaseM n) G) (ks.foldl stepM G')
  | [], _, _, e, _, _, _ => e
  | k :: ks, G, G', e, hk, hd, hn => by
    have hkn := hk k (by simp)
    obtain ⟨d, ed⟩ := le_dg hd hkn
    have h0 : 0 ≤ d := by
      rcases hn with hn | hn
      · have := foldl_keep (f := phaseM n) (P := fun G : Mx => Le (G k k) d) (fun G m h => phase_le h) (k :: ks) (b := G) ⟨d, ed, Int.le_refl _⟩
        obtain ⟨c, ec, hc⟩ := this
        have := neg_no hn hkn ec
        omega
      · obtain ⟨c, ec, hc⟩ := fold_le (n := n) (k :: ks) G' (show G' k k = some d from (e k k hkn hkn).symm.trans ed)
        have := neg_no hn hkn ec
        omega
    have e1 : EqN n (phaseM n G k) (stepM G' k) := (phase_eq hkn ed h0).trans (e.step hkn)
    exact law_fold ks e1 (fun z hz => hk z (by simp [hz])) (fun i hi => phase_le (hd i hi)) hn
theorem law_fw {n : Nat} {G G' : Mx} (e : EqN n G G') (hd : ∀ i, i < n → Le (G i i) 0) : negD n (lawM n G) = negD n (fwM n G') ∧ (negD n (fwM n G') = false → EqN n (lawM n G) (fwM n G')) := by
  have hr : ∀ k ∈ List.range n, k < n := fun k hk => List.mem_range.mp hk
  have key := law_fold (List.range n) e hr hd
  refine ⟨?_, fun h => key (.inr h)⟩
  cases h1 : negD n (lawM n G) with
  | false =>
    have := key (.inl h1)
    exact (this.neg.symm.trans h1).symm
  | true =>
    cases h2 : negD n (fwM n G') with
    | true => rfl
    | false =>
      have := key (.inr h2)
      exact h1.symm.trans (this.neg.trans h2)
end Mi

set_option linter.all false
/-! MG: numbers that keep a closed table's bounds, one by one. -/
namespace Mi
theorem sep0 : ∀ U : List Int, ∃ c : Int, ∀ u ∈ U, c ≤ u
  | [] => ⟨0, by simp⟩
  | u :: U => by
    obtain ⟨c, h⟩ := sep0 U
    refine ⟨min c u, fun x hx => ?_⟩
    rcases List.mem_cons.mp hx with rfl | hx
    · omega
    · have := h x hx
      omega
theorem sep : ∀ L U : List Int, (∀ l ∈ L, ∀ u ∈ U, l ≤ u) → ∃ c, (∀ l ∈ L, l ≤ c) ∧ (∀ u ∈ U, c ≤ u)
  | [], U, _ => by
    obtain ⟨c, h⟩ := sep0 U
    exact ⟨c, by simp, h⟩
  | l :: L, U, h => by
    obtain ⟨c, h1, h2⟩ := sep L U (fun x hx => h x (List.mem_cons_of_mem _ hx))
    refine ⟨max l c, fun x hx => ?_, fun u hu => ?_⟩
    · rcases List.mem_cons.mp hx with rfl | hx
      · omega
      · have := h1 x hx
        omega
    · have := h2 u hu
      have := h l (List.mem_cons_self ..) u hu
      omega
/-- the bounds among some ends hold -/
def OkOn (n : Nat) (S : Nat → Prop) (M : Mx) (φ : Nat → Int) : Prop := ∀ i j, i < n → j < n → S i → S j → ∀ v, M i j = some v → φ i - φ j ≤ v
def putF (φ : Nat → Int) (k : Nat) (c : Int) : Nat → Int := fun i => if i = k then c else φ i
theorem ok_step {n : Nat} {S : Nat → Prop} {M : Mx} {φ : Nat → Int} (hc : Closed n M) (h : OkOn n S M φ) {k : Nat} (hk : ¬ S k) {c : Int}
    (h1 : ∀ i, i < n → S i → ∀ v, M i k = some v → φ i - v ≤ c) (h2 : ∀ j, j < n → S j → ∀ v, M k j = some v → c ≤ φ j + v) : OkOn n (fun i => S i ∨ i = k) M (putF φ k c) := by
  intro i j hi hj si sj v e
  simp only [putF]
  rcases si with si | rfl <;> rcases sj with sj | rfl
  · have a1 : i ≠ k := fun h => hk (h ▸ si)
    have a2 : j ≠ k := fun h => hk (h ▸ sj)
    rw [if_neg a1, if_neg a2]
    exact h i j hi hj si sj v e
  · have a1 : i ≠ j := fun h => hk (h ▸ si)
    rw [if_neg a1, if_pos rfl]
    have := h1 i hi si v e
    omega
  · have a2 : j ≠ i := fun h => hk (h ▸ sj)
    rw [if_pos rfl, if_neg a2]
    have := h2 j hj sj v e
    omega
  · rw [hc.dg _ hi] at e
    cases e
    omega
theorem between {n : Nat} {S : Nat → Prop} {M : Mx} {φ : Nat → Int} (hc : Closed n M) (h : OkOn n S M φ) {k i j : Nat} (hk : k < n) (hi : i < n) (hj : j < n) (si : S i) (sj : S j) {v w : Int} (e1 : M i k = some v) (e2 : M k j = some w) : φ i - v ≤ φ j + w := by
  obtain ⟨c, e, hle⟩ := hc.tri k i j hk hi hj v w e1 e2
  have := h i j hi hj si sj c e
  omega
theorem ok_ext {n : Nat} {S : Nat → Prop} {M : Mx} {φ : Nat → Int} (hc : Closed n M) (h : OkOn n S M φ) {k : Nat} (hk : k < n) : ∃ φ', OkOn n (fun i => S i ∨ i = k) M φ' ∧ ∀ i, S i → φ' i = φ i := by
  by_cases hs : S k
  · refine ⟨φ, fun i j hi hj si sj => h i j hi hj ?_ ?_, fun _ _ => rfl⟩
    · rcases si with si | rfl
      · exact si
      · exact hs
    · rcases sj with sj | rfl
      · exact sj
      · exact hs
  · haveI : DecidablePred S := fun i => Classical.propDecidable (S i)
    obtain ⟨c, h1, h2⟩ := sep ((List.range n).filterMap fun i => if S i then (M i k).map (fun v => φ i - v) else none) ((List.range n).filterMap fun j => if S j then (M k j).map (fun v => φ j + v) else none) (by
      intro l hl u hu
      rw [List.mem_filterMap] at hl hu
      obtain ⟨i, hi, hl⟩ := hl
      obtain ⟨j, hj, hu⟩ := hu
      split at hl
      · split at hu
        · rename_i si sj
          rw [Option.map_eq_some_iff] at hl hu
          obtain ⟨v, e1, rfl⟩ := hl
          obtain ⟨w, e2, rfl⟩ := hu
          exact between hc h hk (List.mem_range.mp hi) (List.mem_range.mp hj) si sj e1 e2
        · cases hu
      · cases hl)
    refine ⟨putF φ k c, ok_step hc h hs (fun i hi si v e => h1 _ ?_) (fun j hj sj v e => h2 _ ?_), fun i si => if_neg fun (e : i = k) => hs (e ▸ si)⟩
    · rw [List.mem_filterMap]
      exact ⟨i, List.mem_range.mpr hi, by rw [if_pos si, e]; rfl⟩
    · rw [List.mem_filterMap]
      exact ⟨j, List.mem_range.mpr hj, by rw [if_pos sj, e]; rfl⟩
theorem ok_all {n : Nat} {S : Nat → Prop} {M : Mx} {φ : Nat → Int} (hc : Closed n M) (h : OkOn n S M φ) : ∃ φ', Holds n M φ' ∧ ∀ i, S i → φ' i = φ i := by
  have key : ∀ m, m ≤ n → ∃ φ', OkOn n (fun i => S i ∨ i < m) M φ' ∧ ∀ i, S i → φ' i = φ i := by
    intro m
    induction m with
    | zero =>
      intro _
      refine ⟨φ, fun i j hi hj si sj => h i j hi hj ?_ ?_, fun _ _ => rfl⟩
      · exact si.resolve_right (by omega)
      · exact sj.resolve_right (by omega)
    | succ m ih =>
      intro hm
      obtain ⟨φ', h1, h2⟩ := ih (by omega)
      obtain ⟨φ'', h3, h4⟩ := ok_ext hc h1 (k := m) (by omega)
      refine ⟨φ'', fun i j hi hj si sj => h3 i j hi hj ?_ ?_, fun i si => (h4 i (.inl si)).trans (h2 i si)⟩
      · rcases si with si | si
        · exact .inl (.inl si)
        · by_cases e : i = m
          · exact .inr e
          · exact .inl (.inr (by omega))
      · rcases sj with sj | sj
        · exact .inl (.inl sj)
        · by_cases e : j = m
          · exact .inr e
          · exact .inl (.inr (by omega))
  obtain ⟨φ', h1, h2⟩ := key n (Nat.le_refl _)
  exact ⟨φ', fun i j hi hj v e => h1 i j hi hj (.inr hi) (.inr hj) v e, h2⟩
/-- a closed table has a state -/
theorem closed_has {n : Nat} {M : Mx} (hc : Closed n M) : ∃ φ, Holds n M φ := by
  obtain ⟨φ, h, _⟩ := ok_all (S := fun _ => False) (φ := fun _ => 0) hc (fun i j _ _ h => h.elim)
  exact ⟨φ, h⟩
/-- two ends' difference, as told -/
theorem reach {n : Nat} {M : Mx} (hc : Closed n M) {i j : Nat} (hi : i < n) (hj : j < n) (hij : i ≠ j) {d : Int} (h1 : ∀ v, M i j = some v → d ≤ v) (h2 : ∀ v, M j i = some v → -d ≤ v) : ∃ φ, Holds n M φ ∧ φ i - φ j = d := by
  obtain ⟨φ, h, e⟩ := ok_all (S := fun k => k = i ∨ k = j) (φ := fun k => if k = i then d else 0) hc (by
    intro a b ha hb sa sb v e
    rcases sa with rfl | rfl <;> rcases sb with rfl | rfl
    · rw [hc.dg _ ha] at e
      cases e
      omega
    · show (if a = a then d else 0) - (if b = a then d else 0) ≤ v
      rw [if_pos rfl, if_neg (Ne.symm hij)]
      have := h1 v e
      omega
    · show (if a = b then d else 0) - (if b = b then d else 0) ≤ v
      rw [if_pos rfl, if_neg (Ne.symm hij)]
      have := h2 v e
      omega
    · rw [hc.dg _ ha] at e
      cases e
      omega)
  refine ⟨φ, h, ?_⟩
  rw [e i (.inl rfl), e j (.inr rfl)]
  show (if i = i then d else 0) - (if j = i then d else 0) = d
  rw [if_pos rfl, if_neg (Ne.symm hij)]
  omega
theorem reach_some {n : Nat} {M : Mx} (hc : Closed n M) {i j : Nat} (hi : i < n) (hj : j < n) (hij : i ≠ j) {v : Int} (e : M i j = some v) : ∃ φ, Holds n M φ ∧ φ i - φ j = v := by
  refine reach hc hi hj hij (fun w h => by rw [e] at h; cases h; omega) (fun w h => ?_)
  obtain ⟨c, ec, hle⟩ := hc.tri j i i hj hi hi v w e h
  rw [hc.dg i hi] at ec
  cases ec
  omega
theorem reach_none {n : Nat} {M : Mx} (hc : Closed n M) {i j : Nat} (hi : i < n) (hj : j < n) (hij : i ≠ j) (e : M i j = none) (g : Int) : ∃ φ, Holds n M φ ∧ g ≤ φ i - φ j := by
  rcases e2 : M j i with _ | w
  · obtain ⟨φ, h, hd⟩ := reach hc hi hj hij (d := g) (fun v h => by rw [e] at h; cases h) (fun v h => by rw [e2] at h; cases h)
    exact ⟨φ, h, by omega⟩
  · obtain ⟨φ, h, hd⟩ := reach hc hi hj hij (d := max g (-w)) (fun v h => by rw [e] at h; cases h) (fun v h => by rw [e2] at h; cases h; omega)
    exact ⟨φ, h, by omega⟩
/-- closed tables of the same states are alike -/
theorem closed_uniq {n : Nat} {M N : Mx} (h1 : Closed n M) (h2 : Closed n N) (h : ∀ φ, Holds n M φ ↔ Holds n N φ) : EqN n M N := by
  have key : ∀ {M N : Mx}, Closed n M → Closed n N → (∀ φ, Holds n M φ ↔ Holds n N φ) → ∀ i j, i < n → j < n → ∀ v, N i j = some v → Le (M i j) v := by
    intro M N h1 h2 h i j hi hj v e
    by_cases hij : i = j
    · subst hij
      rw [h2.dg i hi] at e
      cases e
      exact ⟨0, h1.dg i hi, Int.le_refl _⟩
    rcases e1 : M i j with _ | w
    · obtain ⟨φ, hp, hd⟩ := reach_none h1 hi hj hij e1 (v + 1)
      have := (h φ).mp hp i j hi hj v e
      omega
    · obtain ⟨φ, hp, hd⟩ := reach_some h1 hi hj hij e1
      have := (h φ).mp hp i j hi hj v e
      exact ⟨w, rfl, by omega⟩
  intro i j hi hj
  rcases e1 : M i j with _ | v
  · rcases e2 : N i j with _ | w
    · rfl
    · obtain ⟨c, ec, _⟩ := key h1 h2 h i j hi hj w e2
      rw [e1] at ec
      cases ec
  · obtain ⟨c, ec, hcv⟩ := key h2 h1 (fun φ => (h φ).symm) i j hi hj v e1
    obtain ⟨d, ed, hdc⟩ := key h1 h2 h i j hi hj c ec
    rw [e1] at ed
    cases ed
    rw [ec]
    congr 1
    omega
/-- both bounds, the tighter one -/
def metM (M N : Mx) : Mx := fun i j => tightO (N i j) (M i j)
theorem met_holds {n : Nat} {M N : Mx} {φ : Nat → Int} : Holds n (metM M N) φ ↔ Holds n M φ ∧ Holds n N φ := by
  constructor
  · intro h
    refine ⟨fun i j hi hj v e => ?_, fun i j hi hj v e => ?_⟩
    · obtain ⟨w, e', hw⟩ := tight_r (N i j) (M i j) v e
      have := h i j hi hj w e'
      omega
    · obtain ⟨w, e', hw⟩ := tight_l (N i j) (M i j) v e
      have := h i j hi hj w e'
      omega
  · rintro ⟨h1, h2⟩ i j hi hj v e
    rcases tight_or (N i j) (M i j) with e' | e'
    · exact h2 i j hi hj v (e'.symm.trans e)
    · exact h1 i j hi hj v (e'.symm.trans e)
theorem met_dg {n : Nat} {M N : Mx} (h : ∀ i, i < n → Le (N i i) 0) : ∀ i, i < n → Le (metM M N i i) 0 := fun i hi => tight_le (.inl (h i hi))
end Mi

set_option Elab.async false
set_option linter.all false
set_option maxRecDepth 100000
/-! MR: what repr of plain data is long, and of which signs. -/
namespace Mi
open PySem L2
theorem sok_append {a b : Str} (ha : PyData.strOk a = true) (hb : PyData.strOk b = true) : PyData.strOk (a ++ b) = true := by
  show (a.cps ++ b.cps).all _ = true
  rw [Array.all_append]
  simp only [PyData.strOk] at ha hb
  simp [ha, hb]
theorem sok_of (s : String) : PyData.strOk (Str.ofString s) = true := by
  rw [Str.ofString_eq_toList]
  simp only [PyData.strOk]
  rw [Array.all_eq_true_iff_forall_mem]
  intro c hc
  simp only [List.mem_toArray, List.mem_map] at hc
  obtain ⟨a, _, rfl⟩ := hc
  have : a.toNat < 1114112 := by
    have := a.valid
    rcases this with h | h
    · show a.val.toNat < _
      have : a.val.toNat < 0xd800 := h
      omega
    · show a.val.toNat < _
      exact h.2
  simpa using this
theorem sok_mk {l : Array Nat} (h : ∀ c ∈ l.toList, c < 1114112) : PyData.strOk ⟨l⟩ = true := by
  simp only [PyData.strOk]
  rw [Array.all_eq_true_iff_forall_mem]
  intro c hc
  simpa using h c (by simpa using hc)
theorem reprChar_ok {q c : Nat} (hq : q < 1114112) (hc : c < 1114112) : ∀ z ∈ Builtin.Str.reprChar q c, z < 1114112 := by
  have hx : ∀ (w : Nat), ∀ z ∈ (List.replicate (w - ((Nat.toDigits 16 c).map Char.toNat).length) 48 ++ (Nat.toDigits 16 c).map Char.toNat), z < 1114112 := by
    intro w z hz
    rw [List.mem_append] at hz
    rcases hz with hz | hz
    · rw [List.mem_replicate] at hz
      omega
    · rw [List.mem_map] at hz
      obtain ⟨a, _, rfl⟩ := hz
      have := a.valid
      rcases this with h | h
      · show a.val.toNat < _
        have : a.val.toNat < 0xd800 := h
        omega
      · show a.val.toNat < _
        exact h.2
  intro z hz
  simp only [Builtin.Str.reprChar] at hz
  repeat' split at hz
  all_goals try (simp only [List.mem_cons, List.not_mem_nil, or_false] at hz; omega)
  all_goals
    rw [List.mem_append] at hz
    rcases hz with hz | hz
    · simp only [List.mem_cons, List.not_mem_nil, or_false] at hz
      omega
    · exact hx _ z hz

open PySem.Builtin.Str in
theorem foldl_repr_ok {q : Nat} (hq : q < 1114112) : ∀ (l : List Nat) (acc : Array Nat), (∀ c ∈ l, c < 1114112) → (∀ c ∈ acc.toList, c < 1114112) → ∀ c ∈ (l.foldl (fun out c => out ++ (reprChar q c).toArray) acc).toList, c < 1114112
  | [], acc, _, h => h
  | c :: r, acc, h, h2 => by
    rw [List.foldl_cons]
    refine foldl_repr_ok hq r _ (fun z hz => h z (by simp [hz])) ?_
    intro z hz
    simp only [Array.toList_append, List.mem_append] at hz
    rcases hz with hz | hz
    · exact h2 z hz
    · exact reprChar_ok hq (h c (by simp)) z (by simpa using hz)
theorem sok_lt {x : Str} (h : PyData.strOk x = true) : ∀ c ∈ x.cps.toList, c < 1114112 := by
  simp only [PyData.strOk] at h
  rw [Array.all_eq_true_iff_forall_mem] at h
  intro c hc
  simpa using h c (by simpa using hc)
theorem sok_repr {x : Str} (h : PyData.strOk x = true) : PyData.strOk (PySem.reprText x) = true := by
  unfold PySem.reprText
  have hq : PySem.reprQuote x < 1114112 := by
    unfold PySem.reprQuote
    split <;> decide
  apply sok_mk
  intro c hc
  rw [← Array.foldl_toList] at hc
  simp only [Array.toList_push, List.mem_append, List.mem_singleton] at hc
  rcases hc with hc | rfl
  · exact foldl_repr_ok hq _ _ (sok_lt h) (by simpa using hq) c hc
  · exact hq
theorem sok_join {sep : Str} (h : PyData.strOk sep = true) : ∀ ts : List Str, (∀ t ∈ ts, PyData.strOk t = true) → PyData.strOk (Str.join sep ts) = true
  | [], _ => (by decide +kernel : PyData.strOk Str.empty = true)
  | [t], h2 => h2 t (by simp)
  | t :: u :: ts, h2 => sok_append (sok_append (h2 t (by simp)) h) (sok_join h (u :: ts) (fun z hz => h2 z (by simp [hz])))
theorem join_len {sep : Str} {b : Nat} : ∀ ts : List Str, (∀ t ∈ ts, t.length ≤ b) → (Str.join sep ts).length ≤ ts.length * (b + sep.length)
  | [], _ => by simp [Str.join, Str.empty, Str.length]
  | [t], h2 => by
    have := h2 t (by simp)
    simp only [Str.join, List.length_cons, List.length_nil]
    omega
  | t :: u :: ts, h2 => by
    have ih := join_len (sep := sep) (u :: ts) (fun z hz => h2 z (by simp [hz]))
    have := h2 t (by simp)
    have e : (Str.join sep (t :: u :: ts)).length = t.length + sep.length + (Str.join sep (u :: ts)).length := by
      show ((t.cps ++ sep.cps) ++ (Str.join sep (u :: ts)).cps).size = _
      simp [Str.length]
      omega
    rw [e]
    simp only [List.length_cons] at ih ⊢
    rw [Nat.add_mul]
    omega
open PySem.Builtin.Str in
theorem tupleText_ok {ts : List Str} {b : Nat} (h : ∀ t ∈ ts, t.length ≤ b ∧ PyData.strOk t = true) : (tupleText ts).length ≤ ts.length * (b + 2) + 3 ∧ PyData.strOk (tupleText ts) = true := by
  have h1 := join_len (sep := ", ") ts (fun t ht => (h t ht).1)
  have h2 := sok_join (sep := ", ") (sok_of ", ") ts (fun t ht => (h t ht).2)
  have e2 : ((", " : String) : Str).length = 2 := by decide +kernel
  rw [e2] at h1
  unfold tupleText
  refine ⟨?_, sok_append (sok_append (sok_of _) h2) (by split <;> exact sok_of _)⟩
  show ((_ ++ _ : Array Nat) ++ _).size ≤ _
  have e1 : ((("(" : String) : Str).cps).size = 1 := by decide +kernel
  have e3 : ((if ts.length == 1 then ",)" else ")" : String) : Str).cps.size ≤ 2 := by split <;> decide +kernel
  simp only [Array.size_append, e1]
  simp only [Str.length] at h1
  omega
theorem textFrom_ok {b : Nat} : ∀ (ts : List Str) (k : Nat) (acc : Str), (∀ t ∈ ts, t.length ≤ b ∧ PyData.strOk t = true) → PyData.strOk acc = true → (PySem.textFrom k acc ts).length ≤ acc.length + ts.length * (b + 2) ∧ PyData.strOk (PySem.textFrom k acc ts) = true
  | [], k, acc, _, h2 => by
    simp [PySem.textFrom, h2]
  | t :: ts, k, acc, h, h2 => by
    have h3 : PyData.strOk (acc ++ ((if k > 0 then ", " else "" : String) : Str) ++ t) = true := sok_append (sok_append h2 (sok_of _)) (h t (by simp)).2
    obtain ⟨a, b'⟩ := textFrom_ok ts (k + 1) _ (fun z hz => h z (by simp [hz])) h3
    refine ⟨?_, b'⟩
    have e : (acc ++ ((if k > 0 then ", " else "" : String) : Str) ++ t).length ≤ acc.length + 2 + t.length := by
      show ((acc.cps ++ _) ++ t.cps).size ≤ _
      have e3 : ((if k > 0 then ", " else "" : String) : Str).cps.size ≤ 2 := by split <;> decide +kernel
      simp only [Array.size_append, Str.length]
      omega
    have := (h t (by simp)).1
    have e4 : (t :: ts).length * (b + 2) = ts.length * (b + 2) + (b + 2) := by rw [List.length_cons, Nat.add_mul]; omega
    rw [e4]
    show (PySem.textFrom (k + 1) _ ts).length ≤ _
    omega
theorem listText_ok {ts : List Str} {b : Nat} (h : ∀ t ∈ ts, t.length ≤ b ∧ PyData.strOk t = true) : (PySem.listText ts).length ≤ ts.length * (b + 2) + 3 ∧ PyData.strOk (PySem.listText ts) = true := by
  obtain ⟨h1, h2⟩ := textFrom_ok ts 0 (("[" : String) : Str) h (sok_of _)
  unfold PySem.listText
  refine ⟨?_, sok_append h2 (sok_of _)⟩
  show (_ ++ _ : Array Nat).size ≤ _
  have e1 : ((("[" : String) : Str)).length = 1 := by decide +kernel
  have e2 : ((("]" : String) : Str).cps).size = 1 := by decide +kernel
  simp only [Array.size_append, e2]
  rw [e1] at h1
  simp only [Str.length] at h1
  omega
/-- data whose repr is not long -/
def Sh (k b : Nat) (d : D) : Prop := ∃ p, d.py = some p ∧ nice k d = true ∧ p.showable = true ∧ p.shown.length ≤ b ∧ PyData.strOk p.shown = true
theorem Sh_str {k : Nat} {s : Str} {m : Nat} (h : PyData.strOk s = true) (hm : s.length ≤ m) : Sh k (10 * m + 2) (.str s) := by
  refine ⟨.str s, rfl, by cases k <;> simpa [nice] using h, rfl, ?_, sok_repr h⟩
  have h1 := PySem.StrLaws.reprText_len s (fun c hc => by
    have := sok_lt h c hc
    have e : (16 : Nat) ^ 8 = 4294967296 := by decide
    omega)
  show (PySem.reprText s).length ≤ _
  omega
theorem Sh_int {k : Nat} {i : Int} (h : i.natAbs ≤ 10 ^ 200) : Sh k 1921 (.int i) := by
  have hl : i.natAbs.log2 < 1920 := by
    have h5 : (10 : Nat) ^ 200 < 2 ^ 1000 := by decide +kernel
    by_cases h0 : i.natAbs = 0
    · rw [h0]; decide
    · exact Nat.lt_trans ((Nat.log2_lt h0).mpr (Nat.lt_of_le_of_lt h h5)) (by decide)
  refine ⟨.int i, rfl, by cases k <;> rfl, by simpa [PyData.showable] using hl, ?_, sok_of _⟩
  exact PyProof.Rows.int_text_len_1921 hl
theorem Sh_py {k b : Nat} : ∀ {xs : List D}, (∀ x ∈ xs, Sh k b x) → ∃ ps, D.pys xs = some ps ∧ xs.all (nice k) = true ∧ PyData.showableAll ps = true ∧ ps.length = xs.length ∧ ∀ t ∈ PyData.shownAll ps, t.length ≤ b ∧ PyData.strOk t = true
  | [], _ => ⟨[], rfl, rfl, rfl, rfl, by simp [PyData.shownAll]⟩
  | x :: xs, h => by
    obtain ⟨p, h1, h2, h3, h4, h5⟩ := h x (by simp)
    obtain ⟨ps, g1, g2, g3, g4, g5⟩ := Sh_py (xs := xs) (fun z hz => h z (by simp [hz]))
    refine ⟨p :: ps, by simp only [D.pys, h1, g1], by simp only [List.all_cons, h2, g2, Bool.and_self], by simp only [PyData.showableAll, h3, g3, Bool.and_self], by simp [g4], ?_⟩
    intro t ht
    simp only [PyData.shownAll, List.mem_cons] at ht
    rcases ht with rfl | ht
    · exact ⟨h4, h5⟩
    · exact g5 t ht
theorem shownAll_len : ∀ ps : List PyData, (PyData.shownAll ps).length = ps.length
  | [] => rfl
  | p :: ps => by simp [PyData.shownAll, shownAll_len ps]
theorem Sh_tup {k b : Nat} {xs : List D} (h : ∀ x ∈ xs, Sh k b x) : Sh (k + 1) (xs.length * (b + 2) + 3) (.tup xs) := by
  obtain ⟨ps, g1, g2, g3, g4, g5⟩ := Sh_py h
  obtain ⟨h1, h2⟩ := tupleText_ok g5
  rw [shownAll_len, g4] at h1
  exact ⟨.tuple ps, by simp [D.py, g1], by simpa [nice] using g2, g3, h1, h2⟩
theorem Sh_lst {k b : Nat} {xs : List D} (h : ∀ x ∈ xs, Sh k b x) : Sh (k + 1) (xs.length * (b + 2) + 3) (.lst xs) := by
  obtain ⟨ps, g1, g2, g3, g4, g5⟩ := Sh_py h
  obtain ⟨h1, h2⟩ := listText_ok g5
  rw [shownAll_len, g4] at h1
  exact ⟨.list ps, by simp [D.py, g1], by simpa [nice] using g2, g3, h1, h2⟩
theorem Sh.mono {k b c : Nat} {d : D} (h : Sh k b d) (e : b ≤ c) : Sh k c d := by
  obtain ⟨p, h1, h2, h3, h4, h5⟩ := h
  exact ⟨p, h1, h2, h3, by omega, h5⟩
/-- the text of data -/
def reprD (d : D) : Str := match d.py with
  | some p => p.shown
  | none => Str.empty
theorem bi_repr {b : Nat} {d : D} (h : Sh 50 b d) (hb : b ≤ 1000000) : biD .repr [d] = some (sh (.str (reprD d))) := by
  obtain ⟨p, h1, h2, h3, h4, h5⟩ := h
  have hz : (nice 50 d && p.showable && szOk p.shown.length) = true := by
    simp only [h2, h3, Bool.and_self, Bool.true_and, decide_eq_true_eq]
    omega
  have e : biD .repr [d] = (match d.py with
    | some p => if nice 50 d && p.showable && szOk p.shown.length then some (sh (.str p.shown)) else none
    | none => none) := rfl
  rw [e, h1]
  simp only [hz, if_true, reprD, h1]
theorem sok_reprD {k b : Nat} {d : D} (h : Sh k b d) : PyData.strOk (reprD d) = true := by
  obtain ⟨p, h1, h2, h3, h4, h5⟩ := h
  simp only [reprD, h1]
  exact h5
end Mi

set_option Elab.async false
set_option linter.all false
set_option maxRecDepth 100000
set_option maxHeartbeats 8000000
namespace Mi.Law
open PySem Mi L2
local macro_rules
  | `(tactic| simp_arith [$ls,*]) => `(tactic| simp -dsimp only [↓so_lit, ↓xr_lit, ↓se_lit, ↓so_glob, ↓xr_glob, ↓se_glob, ↓so_bin, ↓xr_bin, ↓se_bin, ↓so_neg, ↓xr_neg, ↓se_neg, ↓so_cmp, ↓xr_cmp, ↓se_cmp, ↓so_cmp2, ↓xr_cmp2, ↓se_cmp2, ↓so_and, ↓xr_and, ↓se_and, ↓so_or, ↓xr_or, ↓se_or, ↓so_not, ↓xr_not, ↓se_not, ↓so_ite, ↓xr_ite, ↓se_ite, ↓so_tup, ↓xr_tup, ↓se_tup, ↓so_lst, ↓xr_lst, ↓se_lst, ↓so_dct, ↓xr_dct, ↓se_dct, ↓so_sub, ↓xr_sub, ↓se_sub, ↓so_slice, ↓xr_slice, ↓se_slice, ↓so_slice3, ↓xr_slice3, ↓se_slice3, ↓so_fld, ↓xr_fld, ↓se_fld, ↓so_call, ↓xr_call, ↓se_call, ↓so_new, ↓xr_new, ↓se_new, ↓so_meth, ↓xr_meth, ↓se_meth, ↓so_newK, ↓xr_newK, ↓se_newK, ↓so_methW, ↓xr_methW, ↓se_methW, ↓so_join, ↓xr_join, ↓se_join, ↓so_bi, ↓xr_bi, ↓se_bi, ↓so_bm, ↓xr_bm, ↓se_bm, ↓so_mt, ↓xr_mt, ↓se_mt, ↓so_comp, ↓xr_comp, ↓se_comp, ↓so_compK, ↓xr_compK, ↓se_compK, ↓so_dcomp, ↓xr_dcomp, ↓se_dcomp, ↓so_fstr, ↓xr_fstr, ↓se_fstr, ↓se_var, ↓s_var, ↓s_lit, ↓s_glob, ↓so_var, ↓s_bin, ↓s_neg, ↓s_cmp, ↓s_cmp2, ↓s_and, ↓s_or, ↓s_not, ↓s_ite, ↓s_tup, ↓s_lst, ↓s_dct, ↓s_sub, ↓si_none, ↓si_some, ↓s_slice, ↓s_slice3, ↓s_fld, ↓s_call0, ↓s_call1, ↓s_new, ↓s_newK, ↓s_methW, ↓s_join', ↓s_meth, ↓sos_nil, ↓sos_cons, ↓s_bi, ↓s_bm, ↓s_mt', ↓s_comp', ↓s_compK', ↓s_keysTake, ↓dkK_dK, ↓s_dcomp', ↓s_fstr, ↓se_nil, ↓se_star, ↓se_srange, ↓xs_nil, ↓xs_cons, ↓y_set, ↓y_tupset, ↓st_nil, ↓st_cons, ↓x_par, ↓y_setIx, ↓y_setFld, ↓y_expr, ↓x_retv, ↓y_retN, ↓y_ite, ↓y_for, ↓x_while, ↓y_brk, ↓y_cont, ↓y_pass, ↓x_raise, ↓s_runD', ↓s_turnC', ↓s_turnDC', ↓sc_none, ↓sc_some, ↓s_callF, ↓s_callIO_slot, ↓s_callIO_tmp, ↓lpK_next, ↓lpK_cont, ↓lpK_brk, ↓lpK_ret, ↓opS_some, ↓opS_map, ↓Gd_true, ↓Br_true, ↓Br_false, ↓slotK_zero, ↓slotK_succ, ↓setK_nil, ↓setK_zero, ↓setK_succ, ↓drK_tmp, ↓drK_slot, ↓drKs_nil, ↓drKs_cons, ↓asB_bl, ↓asI_int, ↓sat_bind, ↓sat_opt, ↓sat_ok, ↓sat_bad, ↓shareK_true, ↓shareK_false, ↓shareK_any, ↓owK_true, ↓owK_false, ↓brT_bl, ↓fldK_obj, ↓callK_exact, ↓strK_str, ↓methK_obj, ↓mtK_lst, ↓s_opBin, ↓s_opCmp, ↓s_opEq, ↓oo_slot, ↓oo_own, ↓oo_int, ↓oo_bl, ↓oo_str, ↓oo_non, ↓oo_lst, ↓oo_tup, ↓oo_dK, ↓oo_dT, ↓oo_obj, ↓shO_sh, ↓flK_next, ↓flK_ret, ↓flK_brk, ↓flK_cont, ↓setsK_cons, ↓setsK_nil, ↓tupK_tup, ↓tupK_lst, ↓parK_cons, ↓parK_nil, ↓lfK_done, ↓lfK_brk, ↓lfK_ret, ↓outK_true, ↓outK_false, ↓endK_ret, ↓endK_next, ↓bindK_eq, ↓bindK_one, ↓bindK_many, Option.map_none, Option.getD_none, Option.isSome_none, Option.isSome_some, permD, fnd, pairsOf, cmp_Is, cmp_IsNot, is_non, is_bl, is_int, is_str, is_lst, is_tup, is_dK, is_dT, is_obj, is_blbl, cmp_Eq, cmp_NotEq, cmp_In, cmp_NotIn, cmp_Lt, cmp_LtE, cmp_Gt, cmp_GtE, de_int, de_str, de_bl, de_non, ix_lst, ix_tup, ix_str, bn_add, bn_adds, bn_addl, bn_addt, bn_sub, bn_mul, bn_mull, bn_mult, bn_div, bn_mod, bn_pow, wk_val, wk_valt, wk_vals, wk_rng, wk_rng2, wk_rev, wj_enum, wk_enumt, wj_zip, wk_zipt, sl_lst, sl_tup, sl_str, sl3_tup, bi_lenl, bi_lent, bi_lens, bi_int, bi_intb, bi_abs, bi_max2, bi_min2, bi_maxL, bi_minL, bi_minL0, bi_sum, bi_all, bj_any, bi_list, bi_listt, bi_listd, bi_listk, bi_dictc, bi_tuple, bi_tuplet, bi_str, bi_stri, bi_isinst, bi_sorted, bi_join, bi_lenset, bi_lrange, bi_lrange2, bm_get1, bm_get2, dg_T, dg_K, ix_dK, ix_dT, in_K, in_T, mt_app, mt_ext, mt_ins, mt_pop, sx_lst, sx_dK, sx_dT, sf_obj, Option_bind_some', id_eq, Gd_decide, GdP_true, beq_iff_eq, List.contains_cons, List.contains_nil, putFD, c0, c1, c2, c3, c4, c5, c6, c7, c8, c9, c10, c11, keysOf, keyOf, evKeys, bmKind, bmOs, List.isEmpty_nil, Function.comp_apply, List.length_range, szOk, Nat.reduceAdd, Bool.decide_eq_true, Bool.not_eq_true, Bool.decide_eq_false, valK_eq, opS_if, opS_ifd, opS_bind, Gd_and, atI_0, atI_1, atI_2, powOk_ten, ixN_0, ixN_1, ixN_2, Nat.reduceLeDiff, Nat.reduceEqDiff, Nat.reduceBEq, Nat.reduceSub, Int.reduceAdd, Int.reduceMul, Int.reducePow, Int.reduceLE, Int.reduceLT, Int.reduceSub, Int.reduceNeg, Int.reduceToNat, Int.reduceEq, Int.reduceDiv, Int.reduceMod, isVar, isStar, sh, own, items, freeS_nil, freeS_cons, freeO_none, freeO_t, freeO_map, ownL, wipeS, backS, intsD, boolsD, strsD, List.length_cons, List.length_nil, List.length_map, List.map_cons, List.map_nil, List.cons_append, List.nil_append, List.replicate, List.foldr_cons, List.foldr_nil, List.set_cons_zero, List.set_cons_succ, List.getElem?_cons_zero, List.getElem?_cons_succ, List.all_cons, List.all_nil, Option.join_some, Bool.and_true, Bool.true_and, Bool.and_self, Bool.not_true, Bool.not_false, Bool.not_not, Bool.and_false, Bool.false_and, decide_true, decide_false, Option.some.injEq, Option.map_some, Option.getD_some, Bool.true_or, Bool.or_true, Bool.false_or, Bool.or_false, beq_self_eq_true, Bool.false_eq_true, reduceCtorEq, if_true, if_false, ite_true, ite_false, List.lookup, io_law_draw, io_law_words, io_law_great, io_law_told, io_law_tips, io_law_worth, io_law_mingled, io_law_ring, io_law_made, io_is_word, io_are_names, io_check_called, io_ends_of, io_is_end, io_is_whole, io_is_bound, io_check_bounds, io_less, io_tightest, io_added, io_shortened, io_closed, io_table_of, io_rows_of, io_Step_init, io_law_state, io_is_state, io_check_state, io_has_state, io_Step_holds, io_law_near, io_Lot_given, io_Step_given, io_Lot_is_empty, io_Step_is_empty, io_Lot_names, io_Step_names, io_law_kept, io_law_right, io_law_purse, io_law, np_law_draw, np_law_words, np_law_great, np_law_told, np_law_tips, np_law_worth, np_law_mingled, np_law_ring, np_law_made, np_is_word, np_are_names, np_check_called, np_ends_of, np_is_end, np_is_whole, np_is_bound, np_check_bounds, np_less, np_tightest, np_added, np_shortened, np_closed, np_table_of, np_rows_of, np_Step_init, np_law_state, np_is_state, np_check_state, np_has_state, np_Step_holds, np_law_near, np_Lot_given, np_Step_given, np_Lot_is_empty, np_Step_is_empty, np_Lot_names, np_Step_names, np_law_kept, np_law_right, np_law_purse, np_law, $ls,*])
  | `(tactic| simp_arith) => `(tactic| simp -dsimp only [↓so_lit, ↓xr_lit, ↓se_lit, ↓so_glob, ↓xr_glob, ↓se_glob, ↓so_bin, ↓xr_bin, ↓se_bin, ↓so_neg, ↓xr_neg, ↓se_neg, ↓so_cmp, ↓xr_cmp, ↓se_cmp, ↓so_cmp2, ↓xr_cmp2, ↓se_cmp2, ↓so_and, ↓xr_and, ↓se_and, ↓so_or, ↓xr_or, ↓se_or, ↓so_not, ↓xr_not, ↓se_not, ↓so_ite, ↓xr_ite, ↓se_ite, ↓so_tup, ↓xr_tup, ↓se_tup, ↓so_lst, ↓xr_lst, ↓se_lst, ↓so_dct, ↓xr_dct, ↓se_dct, ↓so_sub, ↓xr_sub, ↓se_sub, ↓so_slice, ↓xr_slice, ↓se_slice, ↓so_slice3, ↓xr_slice3, ↓se_slice3, ↓so_fld, ↓xr_fld, ↓se_fld, ↓so_call, ↓xr_call, ↓se_call, ↓so_new, ↓xr_new, ↓se_new, ↓so_meth, ↓xr_meth, ↓se_meth, ↓so_newK, ↓xr_newK, ↓se_newK, ↓so_methW, ↓xr_methW, ↓se_methW, ↓so_join, ↓xr_join, ↓se_join, ↓so_bi, ↓xr_bi, ↓se_bi, ↓so_bm, ↓xr_bm, ↓se_bm, ↓so_mt, ↓xr_mt, ↓se_mt, ↓so_comp, ↓xr_comp, ↓se_comp, ↓so_compK, ↓xr_compK, ↓se_compK, ↓so_dcomp, ↓xr_dcomp, ↓se_dcomp, ↓so_fstr, ↓xr_fstr, ↓se_fstr, ↓se_var, ↓s_var, ↓s_lit, ↓s_glob, ↓so_var, ↓s_bin, ↓s_neg, ↓s_cmp, ↓s_cmp2, ↓s_and, ↓s_or, ↓s_not, ↓s_ite, ↓s_tup, ↓s_lst, ↓s_dct, ↓s_sub, ↓si_none, ↓si_some, ↓s_slice, ↓s_slice3, ↓s_fld, ↓s_call0, ↓s_call1, ↓s_new, ↓s_newK, ↓s_methW, ↓s_join', ↓s_meth, ↓sos_nil, ↓sos_cons, ↓s_bi, ↓s_bm, ↓s_mt', ↓s_comp', ↓s_compK', ↓s_keysTake, ↓dkK_dK, ↓s_dcomp', ↓s_fstr, ↓se_nil, ↓se_star, ↓se_srange, ↓xs_nil, ↓xs_cons, ↓y_set, ↓y_tupset, ↓st_nil, ↓st_cons, ↓x_par, ↓y_setIx, ↓y_setFld, ↓y_expr, ↓x_retv, ↓y_retN, ↓y_ite, ↓y_for, ↓x_while, ↓y_brk, ↓y_cont, ↓y_pass, ↓x_raise, ↓s_runD', ↓s_turnC', ↓s_turnDC', ↓sc_none, ↓sc_some, ↓s_callF, ↓s_callIO_slot, ↓s_callIO_tmp, ↓lpK_next, ↓lpK_cont, ↓lpK_brk, ↓lpK_ret, ↓opS_some, ↓opS_map, ↓Gd_true, ↓Br_true, ↓Br_false, ↓slotK_zero, ↓slotK_succ, ↓setK_nil, ↓setK_zero, ↓setK_succ, ↓drK_tmp, ↓drK_slot, ↓drKs_nil, ↓drKs_cons, ↓asB_bl, ↓asI_int, ↓sat_bind, ↓sat_opt, ↓sat_ok, ↓sat_bad, ↓shareK_true, ↓shareK_false, ↓shareK_any, ↓owK_true, ↓owK_false, ↓brT_bl, ↓fldK_obj, ↓callK_exact, ↓strK_str, ↓methK_obj, ↓mtK_lst, ↓s_opBin, ↓s_opCmp, ↓s_opEq, ↓oo_slot, ↓oo_own, ↓oo_int, ↓oo_bl, ↓oo_str, ↓oo_non, ↓oo_lst, ↓oo_tup, ↓oo_dK, ↓oo_dT, ↓oo_obj, ↓shO_sh, ↓flK_next, ↓flK_ret, ↓flK_brk, ↓flK_cont, ↓setsK_cons, ↓setsK_nil, ↓tupK_tup, ↓tupK_lst, ↓parK_cons, ↓parK_nil, ↓lfK_done, ↓lfK_brk, ↓lfK_ret, ↓outK_true, ↓outK_false, ↓endK_ret, ↓endK_next, ↓bindK_eq, ↓bindK_one, ↓bindK_many, Option.map_none, Option.getD_none, Option.isSome_none, Option.isSome_some, permD, fnd, pairsOf, cmp_Is, cmp_IsNot, is_non, is_bl, is_int, is_str, is_lst, is_tup, is_dK, is_dT, is_obj, is_blbl, cmp_Eq, cmp_NotEq, cmp_In, cmp_NotIn, cmp_Lt, cmp_LtE, cmp_Gt, cmp_GtE, de_int, de_str, de_bl, de_non, ix_lst, ix_tup, ix_str, bn_add, bn_adds, bn_addl, bn_addt, bn_sub, bn_mul, bn_mull, bn_mult, bn_div, bn_mod, bn_pow, wk_val, wk_valt, wk_vals, wk_rng, wk_rng2, wk_rev, wj_enum, wk_enumt, wj_zip, wk_zipt, sl_lst, sl_tup, sl_str, sl3_tup, bi_lenl, bi_lent, bi_lens, bi_int, bi_intb, bi_abs, bi_max2, bi_min2, bi_maxL, bi_minL, bi_minL0, bi_sum, bi_all, bj_any, bi_list, bi_listt, bi_listd, bi_listk, bi_dictc, bi_tuple, bi_tuplet, bi_str, bi_stri, bi_isinst, bi_sorted, bi_join, bi_lenset, bi_lrange, bi_lrange2, bm_get1, bm_get2, dg_T, dg_K, ix_dK, ix_dT, in_K, in_T, mt_app, mt_ext, mt_ins, mt_pop, sx_lst, sx_dK, sx_dT, sf_obj, Option_bind_some', id_eq, Gd_decide, GdP_true, beq_iff_eq, List.contains_cons, List.contains_nil, putFD, c0, c1, c2, c3, c4, c5, c6, c7, c8, c9, c10, c11, keysOf, keyOf, evKeys, bmKind, bmOs, List.isEmpty_nil, Function.comp_apply, List.length_range, szOk, Nat.reduceAdd, Bool.decide_eq_true, Bool.not_eq_true, Bool.decide_eq_false, valK_eq, opS_if, opS_ifd, opS_bind, Gd_and, atI_0, atI_1, atI_2, powOk_ten, ixN_0, ixN_1, ixN_2, Nat.reduceLeDiff, Nat.reduceEqDiff, Nat.reduceBEq, Nat.reduceSub, Int.reduceAdd, Int.reduceMul, Int.reducePow, Int.reduceLE, Int.reduceLT, Int.reduceSub, Int.reduceNeg, Int.reduceToNat, Int.reduceEq, Int.reduceDiv, Int.reduceMod, isVar, isStar, sh, own, items, freeS_nil, freeS_cons, freeO_none, freeO_t, freeO_map, ownL, wipeS, backS, intsD, boolsD, strsD, List.length_cons, List.length_nil, List.length_map, List.map_cons, List.map_nil, List.cons_append, List.nil_append, List.replicate, List.foldr_cons, List.foldr_nil, List.set_cons_zero, List.set_cons_succ, List.getElem?_cons_zero, List.getElem?_cons_succ, List.all_cons, List.all_nil, Option.join_some, Bool.and_true, Bool.true_and, Bool.and_self, Bool.not_true, Bool.not_false, Bool.not_not, Bool.and_false, Bool.false_and, decide_true, decide_false, Option.some.injEq, Option.map_some, Option.getD_some, Bool.true_or, Bool.or_true, Bool.false_or, Bool.or_false, beq_self_eq_true, Bool.false_eq_true, reduceCtorEq, if_true, if_false, ite_true, ite_false, List.lookup, io_law_draw, io_law_words, io_law_great, io_law_told, io_law_tips, io_law_worth, io_law_mingled, io_law_ring, io_law_made, io_is_word, io_are_names, io_check_called, io_ends_of, io_is_end, io_is_whole, io_is_bound, io_check_bounds, io_less, io_tightest, io_added, io_shortened, io_closed, io_table_of, io_rows_of, io_Step_init, io_law_state, io_is_state, io_check_state, io_has_state, io_Step_holds, io_law_near, io_Lot_given, io_Step_given, io_Lot_is_empty, io_Step_is_empty, io_Lot_names, io_Step_names, io_law_kept, io_law_right, io_law_purse, io_law, np_law_draw, np_law_words, np_law_great, np_law_told, np_law_tips, np_law_worth, np_law_mingled, np_law_ring, np_law_made, np_is_word, np_are_names, np_check_called, np_ends_of, np_is_end, np_is_whole, np_is_bound, np_check_bounds, np_less, np_tightest, np_added, np_shortened, np_closed, np_table_of, np_rows_of, np_Step_init, np_law_state, np_is_state, np_check_state, np_has_state, np_Step_holds, np_law_near, np_Lot_given, np_Step_given, np_Lot_is_empty, np_Step_is_empty, np_Lot_names, np_Step_names, np_law_kept, np_law_right, np_law_purse, np_law])
local macro_rules
  | `(tactic| simp_all_arith [$ls,*]) => `(tactic| (repeat (first | ((with_reducible refine GdP_intro ?hg ?_); case hg => omega) | (simp_arith [$ls,*]))))
  | `(tactic| simp_all_arith) => `(tactic| (repeat (first | ((with_reducible refine GdP_intro ?hg ?_); case hg => omega) | (simp_arith))))

/-- a well of draws -/
def wl (a b c : Int) : D := .lst [.int a, .int b, .int c]
def Wk (n : Int) (d : D) : Prop := ∃ a b c, d = wl a b c ∧ 0 ≤ a ∧ 0 ≤ b ∧ b ≤ 10 ^ 50 ∧ 0 ≤ c ∧ c ≤ n
theorem cube_le {x : Int} (h0 : 0 ≤ x) (h : x ≤ 10 ^ 60) : 0 ≤ x ^ 3 ∧ x ^ 3 ≤ 10 ^ 180 := by
  have e : x ^ 3 = x * x * x := by rw [Int.pow_succ, Int.pow_succ, Int.pow_succ, Int.pow_zero, Int.one_mul]
  have a := Int.mul_nonneg h0 h0
  have b := Int.mul_nonneg a h0
  have c := Int.mul_le_mul h h h0 (by decide)
  have d := Int.mul_le_mul c h h0 (by decide)
  rw [e]
  exact ⟨b, Int.le_trans d (by decide +kernel)⟩
theorem rangeL_split {n : Nat} {pre post : List D} {x : D} (h : rangeL 0 n = pre ++ x :: post) : x = .int pre.length ∧ pre.length < n := by
  have l := congrArg List.length h
  simp [rangeL] at l
  have hp : pre.length < n := by omega
  refine ⟨?_, hp⟩
  have e : (rangeL 0 n)[pre.length]? = some x := by rw [h]; simp
  simp [rangeL, hp] at e
  exact e.symm
theorem rangeL_len (lo : Int) (n : Nat) : (rangeL lo n).length = n := by simp [rangeL]
theorem walk_range (m : Int) (h0 : 0 ≤ m) (h : m ≤ 1000000) (K : List D → Prop) (k : K (rangeL 0 m.toNat)) : opS (walkD .range [.int m]) K := by
  have : (decide (-1000000 ≤ m) && decide (m ≤ 1000000)) = true := by simp; omega
  simp only [walkD, this, ↓reduceIte]
  exact k
/-- lower-case letters, words -/
def isLet (c : Nat) : Prop := 97 ≤ c ∧ c ≤ 122
def isWd (s : Str) : Prop := 1 ≤ s.length ∧ s.length ≤ 8 ∧ ∀ c ∈ s.cps.toList, isLet c
def letterD (d : D) : Prop := ∃ c, d = .str ⟨#[c]⟩ ∧ isLet c
theorem letters_eq : (Str.ofString "abcdefghijklmnopqrstuvwxyz").cps.toList = (List.range 26).map (· + 97) := by decide +kernel
theorem letters_len : (Str.ofString "abcdefghijklmnopqrstuvwxyz").length = 26 := by decide +kernel
theorem strs_letters : ∀ ys : List D, (∀ y ∈ ys, letterD y) → ∃ ss : List Str, strsD ys = some ss ∧ ss.length = ys.length ∧ ∀ s ∈ ss, ∃ c, s = ⟨#[c]⟩ ∧ isLet c
  | [], _ => ⟨[], rfl, rfl, by simp⟩
  | y :: ys, h => by
    obtain ⟨ss, e, l, hs⟩ := strs_letters ys (fun z hz => h z (by simp [hz]))
    obtain ⟨c, rfl, hc⟩ := h y (by simp)
    refine ⟨⟨#[c]⟩ :: ss, by simp [strsD, e], by simp [l], ?_⟩
    intro s hs'
    simp at hs'
    rcases hs' with rfl | hs'
    · exact ⟨c, rfl, hc⟩
    · exact hs s hs'
theorem join_letters : ∀ ss : List Str, (∀ s ∈ ss, ∃ c, s = ⟨#[c]⟩ ∧ isLet c) → (Str.join ⟨#[]⟩ ss).cps.toList.length = ss.length ∧ ∀ c ∈ (Str.join ⟨#[]⟩ ss).cps.toList, isLet c
  | [], _ => by simp [Str.join, Str.empty]
  | [s], h => by
    obtain ⟨c, rfl, hc⟩ := h s (by simp)
    simp [Str.join, hc]
  | s :: t :: ss, h => by
    obtain ⟨c, rfl, hc⟩ := h s (by simp)
    have ih := join_letters (t :: ss) (fun z hz => h z (by simp [hz]))
    have e : (Str.join ⟨#[]⟩ (⟨#[c]⟩ :: t :: ss)).cps.toList = c :: (Str.join ⟨#[]⟩ (t :: ss)).cps.toList := by
      show ((⟨#[c]⟩ : Str) ++ (⟨#[]⟩ : Str) ++ Str.join ⟨#[]⟩ (t :: ss)).cps.toList = _
      show ((#[c] ++ #[]) ++ (Str.join ⟨#[]⟩ (t :: ss)).cps).toList = _
      simp
    rw [e]
    refine ⟨by simp [ih.1], ?_⟩
    intro z hz
    rw [List.mem_cons] at hz
    rcases hz with rfl | hz
    · exact hc
    · exact ih.2 z hz
theorem isWd_join {ss : List Str} (h : ∀ s ∈ ss, ∃ c, s = ⟨#[c]⟩ ∧ isLet c) (h1 : 1 ≤ ss.length) (h2 : ss.length ≤ 8) : isWd (Txt.join (Str.ofString "") ss) := by
  have e0 : Str.ofString "" = ⟨#[]⟩ := by decide +kernel
  rw [e0, TL.join_eq]
  obtain ⟨a, b⟩ := join_letters ss h
  simp only [Array.length_toList] at a
  refine ⟨?_, ?_, b⟩ <;> (show _ ≤ _; simp only [Str.length]; omega)
theorem Wk.mono {n m : Int} {d : D} (h : Wk n d) (e : n ≤ m) : Wk m d := by
  obtain ⟨a, b, c, h⟩ := h
  exact ⟨a, b, c, h.1, h.2.1, h.2.2.1, h.2.2.2.1, h.2.2.2.2.1, by omega⟩
/-- distinct words -/
def areWds (ns : List Str) : Prop := (∀ s ∈ ns, isWd s) ∧ ns.Nodup
def strsL (ns : List Str) : List D := ns.map .str
theorem strsL_len (ns : List Str) : (strsL ns).length = ns.length := by simp [strsL]
theorem strsL_snoc (ns : List Str) (t : Str) : strsL ns ++ [.str t] = strsL (ns ++ [t]) := by simp [strsL]
theorem strsD_strsL : ∀ ns : List Str, strsD (strsL ns) = some ns
  | [] => rfl
  | n :: ns => by simp [strsL, strsD]; exact strsD_strsL ns
theorem flat_strsL (ns : List Str) : (strsL ns).all flatD = true := by simp [strsL, flatD]
theorem isIn_strsL (s : Str) (ns : List Str) : isIn (.str s) (.lst (strsL ns)) = some (decide (s ∈ ns)) := by
  simp only [isIn, flat_strsL, flatD, Bool.and_self, ↓reduceIte]
  congr 1
  induction ns with
  | nil => rfl
  | cons n ns ih =>
    have e : strsL (n :: ns) = .str n :: strsL ns := rfl
    rw [e, List.any_cons, ih]
    simp only [flatEq, List.mem_cons]
    by_cases h : n = s
    · simp [h]
    · have h' : ¬ s = n := fun h' => h h'.symm
      simp [h, h']
theorem atI_in {α : Type} (xs : List α) (i : Int) (h0 : 0 ≤ i) (h1 : i < xs.length) : ∃ v, L2.atI xs i = some v ∧ v ∈ xs := by
  have h : i.toNat < xs.length := by omega
  exact ⟨xs[i.toNat], by rw [atI_int _ _ h0]; simp [h], List.getElem_mem h⟩
/-- letters, perhaps none -/
def subWd (s : Str) : Prop := s.length ≤ 8 ∧ ∀ c ∈ s.cps.toList, isLet c
theorem isWd.sub {s : Str} (h : isWd s) : subWd s := ⟨h.2.1, h.2.2⟩
theorem subWd.wd {s : Str} (h : subWd s) (h0 : s ≠ Str.ofString "") : isWd s := by
  refine ⟨?_, h.1, h.2⟩
  rcases s with ⟨⟨l⟩⟩
  cases l with
  | nil => exact absurd (by decide +kernel) h0
  | cons c l => simp [Str.length]
theorem cutS_len (z : Str) (lo hi : Option Int) : (cutS z lo hi).length = min (HT.sIx z.length z.length hi - HT.sIx z.length 0 lo) (z.length - HT.sIx z.length 0 lo) := by
  simp [cutS, Str.length]
theorem cutS_mem {z : Str} {lo hi : Option Int} {c : Nat} (h : c ∈ (cutS z lo hi).cps.toList) : c ∈ z.cps.toList := by
  simp only [cutS] at h
  exact List.mem_of_mem_drop (List.mem_of_mem_take h)
theorem len_app (x y : Str) : (x ++ y).length = x.length + y.length := by
  show (x.cps ++ y.cps).size = _
  simp [Str.length]
theorem mem_app {x y : Str} {c : Nat} (h : c ∈ (x ++ y).cps.toList) : c ∈ x.cps.toList ∨ c ∈ y.cps.toList := by
  have e : (x ++ y).cps.toList = x.cps.toList ++ y.cps.toList := by
    show (x.cps ++ y.cps).toList = _
    simp
  rw [e] at h
  simpa using h
theorem sIx_some (n d : Nat) (v : Int) (h : 0 ≤ v) : HT.sIx n d (some v) = min v.toNat n := by
  have h' : ¬ v < 0 := by omega
  simp only [HT.sIx, h', ↓reduceIte]
theorem sIx_no (n d : Nat) : HT.sIx n d none = d := rfl
theorem atI_strs0 (n0 : Str) (nt : List Str) : L2.atI (strsL (n0 :: nt)) 0 = some (.str n0) := atI_0 _ _
def intsL (ns : List Int) : List D := ns.map .int
theorem intsL_len (ns : List Int) : (intsL ns).length = ns.length := by simp [intsL]
theorem intsL_snoc (ns : List Int) (t : Int) : intsL ns ++ [.int t] = intsL (ns ++ [t]) := by simp [intsL]
theorem intsL_cons (ns : List Int) (t : Int) : D.int t :: intsL ns = intsL (t :: ns) := by simp [intsL]
theorem atI_strs {es : List Str} {i : Int} (h0 : 0 ≤ i) (h1 : i < es.length) : L2.atI (strsL es) i = some (.str (es[i.toNat]'(by omega))) := by
  have h : i.toNat < es.length := by omega
  rw [atI_int _ _ h0]
  simp [strsL, h]
theorem atI_ints {es : List Int} {i : Int} (h0 : 0 ≤ i) (h1 : i < es.length) : L2.atI (intsL es) i = some (.int (es[i.toNat]'(by omega))) := by
  have h : i.toNat < es.length := by omega
  rw [atI_int _ _ h0]
  simp [intsL, h]
theorem cutD_1 (x : D) (xs : List D) : cutD (x :: xs) (some 1) none = xs := by
  have e : HT.sIx (xs.length + 1) 0 (some 1) = 1 := by
    rw [sIx_some _ _ _ (by decide)]
    have : (1 : Int).toNat = 1 := rfl
    omega
  simp [cutD, e, sIx_no]
/-- bounds -/
abbrev Bd := Str × Str × Int
def boundD (b : Bd) : D := .tup [.str b.1, .str b.2.1, .int b.2.2]
def bdsL (bs : List Bd) : List D := bs.map boundD
theorem bdsL_len (ns : List Bd) : (bdsL ns).length = ns.length := by simp [bdsL]
theorem bdsL_snoc (ns : List Bd) (a b : Str) (i : Int) : bdsL ns ++ [.tup [.str a, .str b, .int i]] = bdsL (ns ++ [(a, b, i)]) := by simp [bdsL, boundD]
/-- bounds of some ends, none beyond a number -/
def okBds (es : List Str) (m : Int) (bs : List Bd) : Prop := bs.length ≤ 50 ∧ ∀ b ∈ bs, b.1 ∈ es ∧ b.2.1 ∈ es ∧ -m ≤ b.2.2 ∧ b.2.2 ≤ m
/-- one statement, then the others -/
theorem seq_first {s : MS} {ss : List MS} {ρ : Sl} {Q : Fl → Sl → Prop} {X : Xc → Sl → Prop} (P : Sl → Prop) (h : (execs [s] ρ).sat (fun f r => f = .next ∧ P r) NXS) (k : ∀ r, P r → (execs ss r).sat Q X) : (execs (s :: ss) ρ).sat Q X := by
  simp -dsimp only [↓xs_cons] at h ⊢
  refine sat_mono h (fun f r z => ?_) (fun _ _ z => z.elim)
  cases f with
  | next =>
    rw [flK_next] at z ⊢
    rw [xs_nil] at z
    exact k r z.2
  | ret t =>
    rw [flK_ret] at z
    cases z.1
  | brk =>
    rw [flK_brk] at z
    cases z.1
  | cont =>
    rw [flK_cont] at z
    cases z.1

theorem draw_ok {n m : Int} {d : D} (hw : Wk n d) (hn : n ≤ 10 ^ 30) (hm : 1 ≤ m) (hm2 : m ≤ 10 ^ 100) :
    (f_law_draw.sem [own d, sh (.int m)]).sat (fun r out => ∃ i w', r = sh (.int i) ∧ 0 ≤ i ∧ i < m ∧ out = own w' ∧ Wk (n + 1) w') NX := by
  obtain ⟨a, b, c, rfl, h1, h2, h3, h4, h5⟩ := hw
  have h0 : 0 < m := by omega
  simp only [f_law_draw, FS.of, b_law_draw, N_law_draw, wl]
  simp_arith
  refine Br_dec (fun h => ?_) (fun h => ?_)
  · simp_arith
    refine GdP_intro h0 ?_
    simp_arith
    refine Gd_intro (divOk_small hm (by omega)) ?_
    simp_arith
    have hd : 0 ≤ a / m := Int.ediv_nonneg h1 (by omega)
    exact ⟨_, _, rfl, Int.emod_nonneg _ (by omega), Int.emod_lt_of_pos _ h0, rfl, _, _, _, rfl, hd, h2, h3, h4, by omega⟩
  · simp_arith
    refine Gd_intro (mulOk_small (by decide +kernel) (by omega)) ?_
    simp_arith
    have hc : 0 ≤ 7368787 * (c + 1) + 611953 ∧ 7368787 * (c + 1) + 611953 ≤ 10 ^ 40 := by omega
    refine Gd_intro (mulOk_small (by omega) (by omega)) ?_
    generalize b * (7368787 * (c + 1) + 611953) + (c + 1) = z
    simp_arith
    have g0 := Int.emod_nonneg z (b := 170141183460469231731687303715884105727) (by decide)
    have g1 := Int.emod_lt_of_pos z (b := 170141183460469231731687303715884105727) (by decide)
    generalize z % 170141183460469231731687303715884105727 = y at g0 g1 ⊢
    have hq := cube_le g0 (by omega)
    refine Gd_intro (powOk_small (by omega) (by decide) (by decide)) ?_
    simp_arith
    refine Gd_intro (mulOk_small (by decide +kernel) (by omega)) ?_
    simp_arith
    refine Gd_intro (divOk_small (by decide) (by decide +kernel)) ?_
    simp_arith
    refine GdP_intro h0 ?_
    simp_arith
    exact ⟨_, _, rfl, Int.emod_nonneg _ (by omega), Int.emod_lt_of_pos _ h0, rfl, _, _, _, rfl, h1, h2, h3, by omega, by omega⟩
theorem great_ok {n m : Int} {d : D} (hw : Wk n d) (hn : n ≤ 10 ^ 27) (hm : 10 ^ 20 ≤ m) (hm2 : m ≤ 10 ^ 59) :
    (f_law_great.sem [own d, sh (.int m)]).sat (fun r out => ∃ v w', r = sh (.int v) ∧ -m ≤ v ∧ v ≤ m ∧ out = own w' ∧ Wk (n + 5) w') NX := by
  simp -dsimp only [f_law_great, FS.of, b_law_great, N_law_great]; simp_arith
  refine FR.use (draw_ok hw (by omega) (by decide) (by decide +kernel)) ?_
  rintro _ _ ⟨i, w', rfl, h0, h1, rfl, hw'⟩
  simp_all_arith
  refine Br_dec (fun h => ?_) (fun h => ?_)
  · simp_all_arith
    refine FR.use (draw_ok hw' (by omega) (by decide) (by decide +kernel)) ?_
    rintro _ _ ⟨j, w', rfl, j0, j1, rfl, hw'⟩
    simp_all_arith
    exact ⟨_, _, rfl, by omega, by omega, rfl, hw'.mono (by omega)⟩
  · simp_all_arith
    refine sat_forL (fun pre r => ∃ w z x, r = [some (own w), some (sh (.int m)), some (sh (.int i)), some (sh (.int z)), x, none] ∧ Wk (n + 1 + pre.length) w ∧ 0 ≤ z ∧ z ≤ 10 ^ 100 ∧ (pre.length = 0 → z ≤ 0) ∧ (pre.length = 1 → z ≤ 10 ^ 15) ∧ (pre.length = 2 → z ≤ 10 ^ 31) ∧ (pre.length = 3 → z ≤ 10 ^ 47)) ⟨_, _, _, rfl, by simpa using hw', by decide, by decide +kernel, by simp, by simp, by simp, by simp⟩ ?_ ?_
    · rintro pre x post r e ⟨w, z, x1, rfl, hv, z0, z1, a0, a1, a2, a3⟩
      obtain ⟨rfl, hp⟩ := rangeL_split e
      have hp : pre.length < 4 := by simpa using hp
      have hz : z ≤ 10 ^ 47 := by
        obtain h | h | h | h : pre.length = 0 ∨ pre.length = 1 ∨ pre.length = 2 ∨ pre.length = 3 := by omega
        · have := a0 h
          omega
        · have := a1 h
          omega
        · have := a2 h
          omega
        · exact a3 h
      simp_all_arith
      refine Gd_intro (mulOk_small (by omega) (by decide +kernel)) ?_
      simp_all_arith
      refine FR.use (draw_ok hv (by omega) (by decide) (by decide +kernel)) ?_
      rintro _ _ ⟨j, w', rfl, j0, j1, rfl, hw'⟩
      simp_all_arith
      refine ⟨_, _, _, rfl, ?_, by omega, by omega, ?_, ?_, ?_, ?_⟩
      · simp only [List.length_append, List.length_cons, List.length_nil]
        exact hw'.mono (by omega)
      · simp
      · intro h
        have := a0 (by simpa using h)
        omega
      · intro h
        have := a1 (by simpa using h)
        omega
      · intro h
        have := a2 (by simpa using h)
        omega
    · rintro r ⟨w, z, x1, rfl, hv, z0, z1, _⟩
      rw [rangeL_len] at hv
      have hM : ∃ M : Int, L2.atI [D.int 1000000, D.int 100000000000000000000, D.int m] (i - 3) = some (.int M) ∧ 10 ^ 6 ≤ M ∧ M ≤ m := by
        obtain ⟨v, e, hv⟩ := atI_in [D.int 1000000, D.int 100000000000000000000, D.int m] (i - 3) (by omega) (by simp; omega)
        simp only [List.mem_cons, List.not_mem_nil, or_false] at hv
        rcases hv with rfl | rfl | rfl
        · exact ⟨_, e, by decide, by omega⟩
        · exact ⟨_, e, by decide, by omega⟩
        · exact ⟨_, e, by omega, by omega⟩
      obtain ⟨M, eM, M0, M1⟩ := hM
      simp_all_arith [eM]
      refine Gd_intro (mulOk_small (by decide +kernel) (by omega)) ?_
      simp_all_arith
      have g0 := Int.emod_nonneg z (b := 2 * M + 1) (by omega)
      have g1 := Int.emod_lt_of_pos z (b := 2 * M + 1) (by omega)
      exact ⟨_, _, rfl, by omega, by omega, rfl, hv.mono (by simp; omega)⟩
theorem state_ok {n m far : Int} {d : D} (hw : Wk n d) (hn : n ≤ 10 ^ 26) (h1 : 1 ≤ m) (h3 : m ≤ 10) (hm : 10 ^ 20 ≤ far) (hm2 : far ≤ 10 ^ 59) :
    (f_law_state.sem [own d, sh (.int m), sh (.int far)]).sat (fun r out => ∃ st w', r = sh (.tup (intsL st)) ∧ (st.length : Int) = m ∧ (∀ v ∈ st, -far ≤ v ∧ v ≤ far) ∧ out = own w' ∧ Wk (n + 50) w') NX := by
  simp -dsimp only [f_law_state, FS.of, b_law_state, N_law_state]; simp_arith
  simp_all_arith
  refine sat_compL (fun pre ys r => ∃ w x st, r = [some (own w), some (sh (.int m)), some (sh (.int far)), x] ∧ Wk (n + 5 * pre.length) w ∧ ys = intsL st ∧ st.length = pre.length ∧ ∀ v ∈ st, -far ≤ v ∧ v ≤ far) ⟨_, _, [], rfl, by simpa using hw, rfl, rfl, by simp⟩ ?_ ?_
  · rintro pre x post ys r e ⟨w, x1, st, rfl, hv, rfl, hl, hb⟩
    obtain ⟨rfl, hp⟩ := rangeL_split e
    simp_all_arith
    refine FR.use (great_ok hv (by omega) hm hm2) ?_
    rintro _ _ ⟨v, w', rfl, v0, v1, rfl, hw'⟩
    simp_all_arith
    refine ⟨_, _, st ++ [v], rfl, ?_, by simp [intsL], by simp [hl], ?_⟩
    · simp only [List.length_append, List.length_cons, List.length_nil]
      exact hw'.mono (by omega)
    · intro x hx
      rcases List.mem_append.mp hx with hx | hx
      · exact hb x hx
      · simp only [List.mem_singleton] at hx
        subst hx
        exact ⟨v0, v1⟩
  · rintro ys r ⟨w, x1, st, rfl, hv, rfl, hl, hb⟩
    rw [rangeL_len] at hv hl
    simp_all_arith [rangeL_len]
    exact ⟨st, _, rfl, by omega, hb, rfl, hv.mono (by omega)⟩

def othersL : List Str := ["names", "lot", "x", "y", "step", "to", "none", "at", "undo", "span"]
theorem others_wd : ∀ s ∈ othersL, isWd s := by
  simp only [isWd, isLet, othersL]
  decide +kernel
theorem others_eq : [D.str (Str.ofString "names"), D.str (Str.ofString "lot"), D.str (Str.ofString "x"), D.str (Str.ofString "y"), D.str (Str.ofString "step"), D.str (Str.ofString "to"), D.str (Str.ofString "none"), D.str (Str.ofString "at"), D.str (Str.ofString "undo"), D.str (Str.ofString "span")] = strsL othersL := rfl
/-- the slots of words -/
abbrev wdS (w : D) (m : Int) (ns : List Str) (x5 x6 x7 x8 x9 : Option T) : Sl := [some (own w), some (sh (.int m)), some (sh (.str (Str.ofString "abcdefghijklmnopqrstuvwxyz"))), some (own (.lst (strsL ns))), some (own (.lst (strsL othersL))), x5, x6, x7, x8, x9]
theorem wdA {n m : Int} {w : D} {ns : List Str} {x5 x6 x7 x8 : Option T} (hw : Wk n w) (hn : n ≤ 10 ^ 27) :
    (execs [.set 7 (.join (.lit (.str "")) (.comp (.one 9) .range [(.bin .Add [] (.lit (.int 1)) (.call f_law_draw [(.var 0), (.lit (.int 8))]))] none (.sub (.var 2) (.call f_law_draw [(.var 0), (.lit (.int 26))])) [9]))] (wdS w m ns x5 x6 x7 x8 none)).sat (fun f r => f = .next ∧ ∃ w' s, r = wdS w' m ns x5 x6 (some (sh (.str s))) x8 none ∧ isWd s ∧ Wk (n + 9) w') NXS := by
  simp only [wdS]
  simp_all_arith
  refine FR.use (draw_ok hw (by omega) (by decide) (by decide +kernel)) ?_
  rintro _ _ ⟨i, w', rfl, h0, h1, rfl, hw'⟩
  simp_all_arith
  refine sat_compL (fun pre ys r => ∃ v o, r = wdS v m ns x5 x6 x7 x8 o ∧ Wk (n + 1 + pre.length) v ∧ ys.length = pre.length ∧ ∀ y ∈ ys, letterD y) ⟨_, none, rfl, by simpa using hw', rfl, by simp⟩ ?_ ?_
  · rintro pre x post ys r e ⟨v, o, rfl, hv, hl, hy⟩
    obtain ⟨rfl, hp⟩ := rangeL_split e
    simp only [wdS]
    simp_all_arith
    refine FR.use (draw_ok hv (by omega) (by decide) (by decide +kernel)) ?_
    rintro _ _ ⟨i, w'', rfl, i0, i1, rfl, hw''⟩
    have hi : i.toNat < 26 := by omega
    have ea : L2.atI ((List.range 26).map (· + 97)) i = some (i.toNat + 97) := by
      rw [atI_int _ _ i0]
      simp only [List.getElem?_map, List.getElem?_range hi, Option.map_some]
    simp_all_arith [letters_len, letters_eq, ea]
    refine ⟨_, _, rfl, ?_, by simp [hl], ?_⟩
    · simp only [List.length_append, List.length_cons, List.length_nil]
      exact hw''.mono (by omega)
    · intro y hy'
      simp at hy'
      rcases hy' with hy' | rfl
      · exact hy _ hy'
      · exact ⟨_, rfl, by omega, by omega⟩
  · rintro ys r ⟨v, o, rfl, hv, hl, hy⟩
    rw [rangeL_len] at hv hl
    obtain ⟨ss, e, l, hs⟩ := strs_letters ys hy
    simp only [wdS]
    simp_all_arith [rangeL_len, e]
    have hz : (ss.map (·.length)).sum = ss.length := by
      clear e l
      induction ss with
      | nil => rfl
      | cons s ss ih =>
        obtain ⟨c, rfl, hc⟩ := hs s (by simp)
        simp only [List.map_cons, List.sum_cons, List.length_cons]
        rw [ih (fun z hz => hs z (by simp [hz]))]
        show 1 + _ = _
        omega
    have hz2 : (Str.ofString "").length = 0 := by decide +kernel
    simp_all_arith [hz, hz2]
    exact ⟨trivial, _, _, rfl, isWd_join hs (by omega) (by omega), hv.mono (by omega)⟩
theorem wdB1 {n m i : Int} {w : D} {ns : List Str} {s : Str} {x5 x8 : Option T} (hw : Wk n w) (hn : n ≤ 10 ^ 27) (hs : isWd s) :
    (execs [.ite (.cmp .Eq [] (.var 6) (.lit (.int 0)))
        [
         .set 7 (.sub (.var 4) (.call f_law_draw [(.var 0), (.lit (.int 10))]))]
        []] (wdS w m ns x5 (some (sh (.int i))) (some (sh (.str s))) x8 none)).sat (fun f r => f = .next ∧ ∃ w' s, r = wdS w' m ns x5 (some (sh (.int i))) (some (sh (.str s))) x8 none ∧ isWd s ∧ Wk (n + 1) w') NXS := by
  simp only [wdS]
  simp_all_arith
  refine Br_intro (fun hk => ?_) (fun hk => ?_)
  · simp_all_arith
    refine FR.use (draw_ok hw (by omega) (by decide) (by decide +kernel)) ?_
    rintro _ _ ⟨j, w'', rfl, j0, j1, rfl, hw''⟩
    have h10 : othersL.length = 10 := rfl
    have ea := atI_strs (es := othersL) j0 (by omega)
    simp_all_arith [ea]
    exact ⟨trivial, _, _, rfl, others_wd _ (List.getElem_mem _), hw''⟩
  · simp_all_arith
    exact ⟨trivial, _, _, rfl, hs, hw.mono (by omega)⟩
theorem szL {n : Nat} (h : n ≤ 1000) : szOk n = true := by simp; omega
theorem wdB2 {m i k : Int} {w : D} {ns : List Str} {s : Str} {x8 : Option T} (hs : isWd s) (hns : ∀ s ∈ ns, isWd s) (hk : (ns.length : Int) = k) :
    (execs [.ite (.and_ (.cmp .Eq [] (.var 6) (.lit (.int 1))) (.cmp .Gt [] (.var 5) (.lit (.int 0))))
        [
         .set 7 (.slice (.bin .Add [] (.sub (.var 3) (.lit (.int 0))) (.var 7)) none (some (.lit (.int 8))))]
        []] (wdS w m ns (some (sh (.int k))) (some (sh (.int i))) (some (sh (.str s))) x8 none)).sat (fun f r => f = .next ∧ ∃ s, r = wdS w m ns (some (sh (.int k))) (some (sh (.int i))) (some (sh (.str s))) x8 none ∧ isWd s) NXS := by
  simp only [wdS]
  simp_all_arith
  refine Br_intro (fun h1 => ?_) (fun h1 => ?_)
  · simp_all_arith
    refine Br_intro (fun h2 => ?_) (fun h2 => ?_)
    · obtain ⟨n0, nt, rfl⟩ : ∃ n0 nt, ns = n0 :: nt := by
        cases ns with
        | nil =>
          simp at hk h2
          omega
        | cons a b => exact ⟨a, b, rfl⟩
      have h0 := hns n0 (by simp)
      have hl0 := h0.2.1
      have hl1 := hs.2.1
      have g0 := h0.1
      have hz : szOk (n0.length + s.length) = true := szL (by omega)
      simp_all_arith [atI_strs0, sliceD, len_app, hz]
      refine ⟨trivial, _, rfl, ?_, ?_, ?_⟩
      · rw [cutS_len, sIx_some _ _ _ (by decide), sIx_no, len_app]
        omega
      · rw [cutS_len, sIx_some _ _ _ (by decide), sIx_no, len_app]
        omega
      · intro c hc
        rcases mem_app (cutS_mem hc) with hc | hc
        · exact h0.2.2 c hc
        · exact hs.2.2 c hc
    · simp_all_arith
      exact ⟨trivial, _, rfl, hs⟩
  · simp_all_arith
    exact ⟨trivial, _, rfl, hs⟩
theorem wdB3 {m i k : Int} {w : D} {ns : List Str} {s : Str} {x8 : Option T} (hs : isWd s) (hns : ∀ s ∈ ns, isWd s) (hk : (ns.length : Int) = k) :
    (execs [.ite (.and_ (.cmp .Eq [] (.var 6) (.lit (.int 2))) (.cmp .Gt [] (.var 5) (.lit (.int 0))))
        [
         .set 7 (.bin .Add [] (.slice (.var 7) none (some (.lit (.int 1)))) (.slice (.sub (.var 3) (.lit (.int 0))) (some (.lit (.int 1))) none))]
        []] (wdS w m ns (some (sh (.int k))) (some (sh (.int i))) (some (sh (.str s))) x8 none)).sat (fun f r => f = .next ∧ ∃ s, r = wdS w m ns (some (sh (.int k))) (some (sh (.int i))) (some (sh (.str s))) x8 none ∧ isWd s) NXS := by
  simp only [wdS]
  simp_all_arith
  refine Br_intro (fun h1 => ?_) (fun h1 => ?_)
  · simp_all_arith
    refine Br_intro (fun h2 => ?_) (fun h2 => ?_)
    · obtain ⟨n0, nt, rfl⟩ : ∃ n0 nt, ns = n0 :: nt := by
        cases ns with
        | nil =>
          simp at hk h2
          omega
        | cons a b => exact ⟨a, b, rfl⟩
      have h0 := hns n0 (by simp)
      have hl0 := h0.2.1
      have hl1 := hs.2.1
      have g0 := h0.1
      have g1 := hs.1
      have hz : szOk n0.length = true := szL (by omega)
      have hz1 : szOk s.length = true := szL (by omega)
      have l1 : (cutS s none (some 1)).length = 1 := by
        rw [cutS_len, sIx_some _ _ _ (by decide), sIx_no]
        omega
      have l2 : (cutS n0 (some 1) none).length = n0.length - 1 := by
        rw [cutS_len, sIx_some _ _ _ (by decide), sIx_no]
        omega
      have hz2 : szOk (1 + (n0.length - 1)) = true := szL (by omega)
      simp_all_arith [atI_strs0, sliceD, hz, hz1, l1, l2, hz2]
      refine ⟨trivial, _, rfl, ?_, ?_, ?_⟩
      · rw [len_app, l1, l2]
        omega
      · rw [len_app, l1, l2]
        omega
      · intro c hc
        rcases mem_app hc with hc | hc
        · exact hs.2.2 c (cutS_mem hc)
        · exact h0.2.2 c (cutS_mem hc)
    · simp_all_arith
      exact ⟨trivial, _, rfl, hs⟩
  · simp_all_arith
    exact ⟨trivial, _, rfl, hs⟩
/-- the last letter -/
def lastL (s : Str) : Option Nat := s.cps.toList.getLast?
theorem three_last {ns : List Str} (h : ns.length ≤ 2) (hh : ∀ j, j < 3 → ∃ u ∈ ns, lastL u = some (97 + j)) : False := by
  obtain ⟨a, ha, ea⟩ := hh 0 (by decide)
  obtain ⟨b, hb, eb⟩ := hh 1 (by decide)
  obtain ⟨c, hc, ec⟩ := hh 2 (by decide)
  have ab : a ≠ b := fun e => by rw [e, eb] at ea; cases ea
  have ac : a ≠ c := fun e => by rw [e, ec] at ea; cases ea
  have bc : b ≠ c := fun e => by rw [e, ec] at eb; cases eb
  match ns, h with
  | [], _ => cases ha
  | [x], _ =>
    simp only [List.mem_singleton] at ha hb
    exact ab (ha.trans hb.symm)
  | [x, y], _ =>
    simp only [List.mem_cons, List.not_mem_nil, or_false] at ha hb hc
    rcases ha with rfl | rfl <;> rcases hb with rfl | rfl <;> rcases hc with rfl | rfl <;> first | exact ab rfl | exact ac rfl | exact bc rfl
theorem lets_map : (Str.ofString "abcdefghijklmnopqrstuvwxyz").cps.toList.map (fun c => D.str ⟨#[c]⟩) = (List.range 26).map fun j => D.str ⟨#[j + 97]⟩ := by
  rw [letters_eq, List.map_map]
  rfl
theorem wdC {m : Int} {w : D} {ns : List Str} {s : Str} {x5 x6 x8 : Option T} (hs : isWd s) (hl : ns.length ≤ 2) :
    (execs [.for_ (.one 8) .val [(.var 2)]
        [
         .ite (.cmp .In [] (.var 7) (.var 3))
           [
            .set 7 (.bin .Add [] (.slice (.var 7) none (some (.lit (.int 7)))) (.var 8))]
           []]
        []] (wdS w m ns x5 x6 (some (sh (.str s))) x8 none)).sat (fun f r => f = .next ∧ ∃ s x8, r = wdS w m ns x5 x6 (some (sh (.str s))) x8 none ∧ isWd s ∧ s ∉ ns) NXS := by
  simp only [wdS]
  simp_all_arith
  rw [lets_map]
  refine sat_forB (as := List.range 26) (f := fun j => D.str ⟨#[j + 97]⟩) (fun i r => ∃ s x8, r = wdS w m ns x5 x6 (some (sh (.str s))) x8 none ∧ isWd s ∧ (s ∈ ns → ∀ j, j < i → ∃ u ∈ ns, lastL u = some (97 + j))) ⟨_, _, rfl, hs, fun _ j hj => by omega⟩ ?_ ?_
  · rintro i a r ei ⟨s, x8, rfl, hs, hI⟩
    have hi := (List.getElem?_eq_some_iff.mp ei).1
    have ea : a = i := by
      rw [List.getElem?_range (by simpa using hi)] at ei
      exact (Option.some.inj ei).symm
    subst ea
    rw [List.length_range] at hi
    have g0 := hs.1
    have g1 := hs.2.1
    simp only [wdS]
    simp_all_arith [isIn_strsL]
    refine Br_intro (fun h1 => ?_) (fun h1 => ?_)
    · have h1 : s ∈ ns := by simpa using h1
      have hz1 : szOk s.length = true := szL (by omega)
      have l1 : (cutS s none (some 7)).length = min 7 s.length := by
        rw [cutS_len, sIx_some _ _ _ (by decide), sIx_no]
        omega
      have l3 : (⟨#[a + 97]⟩ : Str).length = 1 := rfl
      have hz2 : szOk (min 7 s.length + 1) = true := szL (by omega)
      simp_all_arith [sliceD, hz1, l1, l3, hz2]
      refine ⟨_, _, rfl, ⟨?_, ?_, ?_⟩, ?_⟩
      · rw [len_app, l1, l3]
        omega
      · rw [len_app, l1, l3]
        omega
      · intro c hc
        rcases mem_app hc with hc | hc
        · exact hs.2.2 c (cutS_mem hc)
        · simp at hc
          subst hc
          exact ⟨by omega, by omega⟩
      · intro h2 j hj
        by_cases hja : j = a
        · subst hja
          refine ⟨_, h2, ?_⟩
          have e : (cutS s none (some 7) ++ (⟨#[j + 97]⟩ : Str)).cps.toList = (cutS s none (some 7)).cps.toList ++ [j + 97] := by
            show ((cutS s none (some 7)).cps ++ #[j + 97]).toList = _
            simp
          show (cutS s none (some 7) ++ (⟨#[j + 97]⟩ : Str)).cps.toList.getLast? = _
          rw [e, List.getLast?_append]
          simp [Nat.add_comm]
        · exact hI h1 j (by omega)
    · have h1 : s ∉ ns := by simpa using h1
      simp_all_arith
      exact ⟨_, _, rfl, hs, fun h => absurd h h1⟩
  · rintro r ⟨s, x8, rfl, hs, hI⟩
    rw [List.length_range] at hI
    simp only [wdS]
    simp_all_arith
    exact ⟨trivial, _, _, rfl, hs, fun h => three_last hl fun j hj => hI h j (by omega)⟩
theorem words_ok {n m : Int} {d : D} (hw : Wk n d) (hn : n ≤ 10 ^ 26) (h1 : 1 ≤ m) (h3 : m ≤ 3) :
    (f_law_words.sem [own d, sh (.int m)]).sat (fun r out => ∃ ns w', r = sh (.tup (strsL ns)) ∧ areWds ns ∧ (ns.length : Int) = m ∧ out = own w' ∧ Wk (n + 50) w') NX := by
  simp -dsimp only [f_law_words, FS.of, b_law_words, N_law_words]; simp_arith
  simp_all_arith [others_eq]
  refine sat_forL (fun pre r => ∃ w ns x5 x6 x7 x8, r = wdS w m ns x5 x6 x7 x8 none ∧ Wk (n + 12 * pre.length) w ∧ areWds ns ∧ ns.length = pre.length) ⟨_, [], _, _, _, _, rfl, by simpa using hw, ⟨by simp, by simp⟩, rfl⟩ ?_ ?_
  · rintro pre x post r e ⟨w, ns, x5, x6, x7, x8, rfl, hv, hns, hl⟩
    obtain ⟨rfl, hp⟩ := rangeL_split e
    have hp : pre.length < 3 := by omega
    simp only [wdS]
    simp -dsimp only [↓bindK_eq, ↓bindK_one, ↓bindK_many, ↓tupK_tup, ↓tupK_lst, ↓setsK_cons, ↓setsK_nil, ↓setK_zero, ↓setK_succ, ↓setK_nil]
    refine seq_first (fun r => ∃ w' i, r = wdS w' m ns (some (sh (.int pre.length))) (some (sh (.int i))) x7 x8 none ∧ Wk (n + 12 * pre.length + 1) w') (by
      simp_all_arith
      refine FR.use (draw_ok hv (by omega) (by decide) (by decide +kernel)) ?_
      rintro _ _ ⟨i, w', rfl, i0, i1, rfl, hw'⟩
      simp_all_arith
      exact ⟨trivial, _, _, rfl, hw'⟩) ?_
    rintro _ ⟨w', i, rfl, hw'⟩
    refine seq_first _ (wdA hw' (by omega)) ?_
    rintro _ ⟨w', s, rfl, hs, hw'⟩
    refine seq_first _ (wdB1 hw' (by omega) hs) ?_
    rintro _ ⟨w', s, rfl, hs, hw'⟩
    refine seq_first _ (wdB2 hs hns.1 (by omega)) ?_
    rintro _ ⟨s, rfl, hs⟩
    refine seq_first _ (wdB3 hs hns.1 (by omega)) ?_
    rintro _ ⟨s, rfl, hs⟩
    refine seq_first _ (wdC hs (by omega)) ?_
    rintro _ ⟨s, x8, rfl, hs, hn2⟩
    simp only [wdS]
    simp_all_arith [strsL_len, strsL_snoc]
    refine ⟨_, _, _, _, _, _, rfl, hw'.mono ?_, ⟨?_, ?_⟩, by simp [hl]⟩
    · simp only [List.length_append, List.length_cons, List.length_nil]
      omega
    · intro x hx
      rcases List.mem_append.mp hx with hx | hx
      · exact hns.1 x hx
      · simp only [List.mem_singleton] at hx
        exact hx ▸ hs
    · rw [List.nodup_append]
      exact ⟨hns.2, by simp, by simpa using fun a ha (e : a = s) => hn2 (e ▸ ha)⟩
  · rintro r ⟨w, ns, x5, x6, x7, x8, rfl, hv, hns, hl⟩
    rw [rangeL_len] at hv hl
    simp only [wdS]
    simp_all_arith [strsL_len]
    exact ⟨ns, _, rfl, hns, by omega, rfl, hv.mono (by omega)⟩

def oi : Option Int → D
  | none => .non
  | some i => .int i
theorem oi_some (i : Int) : oi (some i) = .int i := rfl
theorem oi_none : oi none = .non := rfl
def rowD (n : Nat) (f : Nat → Option Int) : D := .lst ((List.range n).map fun j => oi (f j))
def tabD (n : Nat) (M : Mx) : D := .lst ((List.range n).map fun i => rowD n (M i))
def tabO (n : Nat) : Option Mx → D
  | none => .non
  | some M => tabD n M
theorem less_ok (a b : Option Int) : (f_less.sem [sh (oi a), sh (oi b)]).sat (fun r _ => r = sh (.bl (lessO a b))) NX := by
  cases a <;> cases b <;> simp -dsimp only [oi_some, oi_none] <;> (simp -dsimp only [f_less, FS.of, b_less, N_less]; simp_arith) <;> rfl
theorem added_ok (a b : Option Int) : (f_added.sem [sh (oi a), sh (oi b)]).sat (fun r _ => r = sh (oi (addO a b))) NX := by
  cases a <;> cases b <;> simp -dsimp only [oi_some, oi_none] <;> (simp -dsimp only [f_added, FS.of, b_added, N_added]; simp_arith) <;> rfl
theorem tightest_ok (a b : Option Int) : (f_tightest.sem [sh (oi a), sh (oi b)]).sat (fun r _ => r = sh (oi (tightO a b))) NX := by
  simp -dsimp only [f_tightest, FS.of, b_tightest, N_tightest]; simp_arith
  refine FR.use (less_ok b a) ?_
  rintro _ _ rfl
  simp_arith
  refine Br_intro (fun h => ?_) (fun h => ?_)
  · simp_arith
    simp only [tightO, h, if_true]
  · simp_arith
    simp only [tightO, h]
    rfl
theorem atI_rng {n : Nat} (f : Nat → D) {k : Nat} (h : k < n) : L2.atI ((List.range n).map f) (k : Int) = some (f k) := by
  rw [atI_nat]
  simp [h]
theorem zip_rng (n : Nat) (f g : Nat → D) : ((List.range n).map f).zip ((List.range n).map g) = (List.range n).map fun j => (f j, g j) := by
  apply List.ext_getElem
  · simp
  · intro i h1 h2
    simp
theorem len_rng (n : Nat) (f : Nat → D) : ((List.range n).map f).length = n := by simp
/-- a comprehension over a row of places -/
theorem sat_compR {turn : D → Sl → R (Option D)} {Q : List D → Sl → Prop} {X : Xc → Sl → Prop} {n : Nat} {f : Nat → D} {ρ : Sl} (I : Sl → Prop) (h : Nat → D)
    (h0 : I ρ)
    (h1 : ∀ j r, j < n → I r → (turn (f j) r).sat (fun o r' => o = some (h j) ∧ I r') NXS)
    (h2 : ∀ r, I r → Q ((List.range n).map h) r) : (noX (compL turn ((List.range n).map f) ρ)).sat Q X := by
  refine sat_compL (fun pre ys r => pre.length ≤ n ∧ ys = (List.range pre.length).map h ∧ I r) ⟨by simp, rfl, h0⟩ ?_ ?_
  · rintro pre x post ys r e ⟨hl, rfl, hi⟩
    have hl2 := congrArg List.length e
    simp at hl2
    have hp : pre.length < n := by omega
    have ex : x = f pre.length := by
      have e' : ((List.range n).map f)[pre.length]? = some x := by rw [e]; simp
      simp [hp] at e'
      exact e'.symm
    subst ex
    refine sat_mono (h1 _ r hp hi) (fun o r' ⟨z1, z2⟩ => ?_) (fun _ _ z => z)
    subst z1
    exact ⟨by simp; omega, by simp [List.range_succ], z2⟩
  · rintro ys r ⟨hl, rfl, hi⟩
    simp
    exact h2 r hi
theorem shortened_ok (n : Nat) (f g : Nat → Option Int) (w : Option Int) (hn : n ≤ 1000) :
    (f_shortened.sem [sh (rowD n f), sh (oi w), sh (rowD n g)]).sat (fun r _ => ∃ o, r = ⟨o, rowD n fun j => tightO (f j) (addO w (g j))⟩) NX := by
  cases w with
  | none =>
    simp -dsimp only [oi_none]
    simp -dsimp only [f_shortened, FS.of, b_shortened, N_shortened]; simp_arith
    exact ⟨false, by simp [tightO, addO, lessO]⟩
  | some w =>
    simp -dsimp only [oi_some, rowD]
    simp -dsimp only [f_shortened, FS.of, b_shortened, N_shortened]; simp_arith
    simp -dsimp only [zip_rng, List.map_map]
    refine sat_compR (fun r => ∃ a b, r = [some (sh (rowD n f)), some (sh (oi (some w))), some (sh (rowD n g)), a, b]) (fun j => oi (tightO (f j) (addO (some w) (g j)))) ⟨_, _, rfl⟩ ?_ ?_
    · rintro j r hj ⟨a, b, rfl⟩
      simp_arith
      refine FR.use (added_ok (some w) (g j)) ?_
      rintro _ _ rfl
      simp_arith
      refine FR.use (tightest_ok (f j) (addO (some w) (g j))) ?_
      rintro _ _ rfl
      simp_arith
      exact ⟨trivial, _, _, rfl⟩
    · rintro r ⟨a, b, rfl⟩
      simp_all_arith [zip_rng, len_rng]
      exact ⟨_, rfl⟩
theorem ixD_row {n : Nat} (f : Nat → Option Int) {k : Nat} (h : k < n) : ixD (rowD n f) (.int k) = some (oi (f k)) := by
  simp only [rowD, ixD]
  exact atI_rng _ h
theorem ixD_tab {n : Nat} (M : Mx) {k : Nat} (h : k < n) : ixD (tabD n M) (.int k) = some (rowD n (M k)) := by
  simp only [tabD, ixD]
  exact atI_rng _ h
theorem tabD_eq (n : Nat) (M : Mx) : tabD n M = .lst ((List.range n).map fun i => rowD n (M i)) := rfl
theorem each_rng (f : Int → D → D) (n : Nat) (g : Nat → D) : eachFrom f 0 ((List.range n).map g) = (List.range n).map fun (i : Nat) => f (i : Int) (g i) := by
  rw [eachFrom_eq]
  apply List.ext_getElem
  · simp
  · intro i h1 h2
    simp
theorem bools_rng (n : Nat) (f : Nat → Bool) : boolsD ((List.range n).map fun i => .bl (f i)) = some ((List.range n).map f) := by
  generalize List.range n = l
  induction l with
  | nil => rfl
  | cons a l ih => simp [boolsD, ih]
def negB (o : Option Int) : Bool := match o with
  | some v => decide (v < 0)
  | none => false
theorem negD_eq (n : Nat) (M : Mx) : (((List.range n).map fun i => negB (M i i)).any id) = negD n M := by
  simp only [List.any_map]
  rfl
theorem closed_ok (n : Nat) (M : Mx) (hn : n ≤ 1000) (hd : Dg n M) : (f_closed.sem [sh (tabD n M)]).sat (fun r _ => ∃ o, r = ⟨o, tabO n (closedM n M)⟩) NX := by
  simp -dsimp only [f_closed, FS.of, b_closed, N_closed]; simp_arith
  simp_all_arith [tabD_eq, len_rng]
  refine sat_forL (fun pre r => ∃ a o, r = [some (sh (tabD n M)), some ⟨o, tabD n ((List.range pre.length).foldl stepM M)⟩, a, none, none]) ⟨_, _, rfl⟩ ?_ ?_
  · rintro pre x post r e ⟨a, o, rfl⟩
    obtain ⟨rfl, hp⟩ := rangeL_split e
    have hp : pre.length < n := by omega
    generalize hF : (List.range pre.length).foldl stepM M = F
    simp_all_arith [tabD_eq n F]
    refine sat_compR (fun r => ∃ a, r = [some (sh (tabD n M)), some (sh (tabD n F)), some (sh (.int pre.length)), a, none]) (fun i => rowD n (stepM F pre.length i)) ⟨_, rfl⟩ ?_ ?_
    · rintro j r hj ⟨a, rfl⟩
      simp_all_arith [↓ixD_row _ hp, ↓ixD_tab _ hp]
      refine FR.use (shortened_ok n (F j) (F pre.length) (F j pre.length) hn) ?_
      rintro _ _ ⟨o, rfl⟩
      simp_arith
      exact ⟨rfl, _, rfl⟩
    · rintro r ⟨a, rfl⟩
      simp_all_arith [len_rng]
      have es : (List.range (pre ++ [D.int pre.length]).length).foldl stepM M = stepM F pre.length := by simp [List.range_succ, hF]
      rw [es]
      exact ⟨_, _, rfl⟩
  · rintro r ⟨a, o, rfl⟩
    rw [rangeL_len] at *
    have hfw : (List.range (↑n : Int).toNat).foldl stepM M = fwM n M := by simp [fwM]
    rw [hfw]
    have hdg := fw_dg hd
    generalize hF : fwM n M = F at *
    simp_all_arith [tabD_eq n F, each_rng]
    refine sat_compR (fun r => ∃ x y, r = [some (sh (tabD n M)), some (sh (tabD n F)), a, x, y]) (fun i => .bl (negB (F i i))) ⟨_, _, rfl⟩ ?_ ?_
    · rintro j r hj ⟨x, y, rfl⟩
      obtain ⟨v, ev⟩ := hdg j hj
      simp_all_arith [↓ixD_row _ hj, ev, oi_some]
      exact ⟨by simp [negB, ev], _, _, rfl⟩
    · rintro r ⟨x, y, rfl⟩
      simp_all_arith [len_rng, bools_rng, negD_eq]
      have hc : closedM n M = if negD n F then none else some F := by simp only [closedM, hF]
      refine Br_intro (fun h => ?_) (fun h => ?_)
      · simp_all_arith
        rw [hc, h]
        exact ⟨_, rfl⟩
      · simp_all_arith
        rw [hc, h]
        exact ⟨_, rfl⟩


theorem look_put {κ : Type} [DecidableEq κ] (kvs : List (κ × D)) (k k' : κ) (v : D) : look (put kvs k v) k' = if k' = k then some v else look kvs k' := by
  simp only [look, put]
  split
  · rename_i h
    induction kvs with
    | nil => simp at h
    | cons a kvs ih =>
      by_cases ha : a.1 = k
      · by_cases hk : k' = k
        · simp [ha, hk]
        · have : ¬ k = k' := fun e => hk e.symm
          simp only [List.map_cons, ha, if_true, List.find?_cons]
          simp only [this, decide_false, hk, if_false]
          by_cases h' : (kvs.any fun kv => decide (kv.1 = k)) = true
          · rw [ih h']
            simp [hk]
          · have e : kvs.map (fun kv => if kv.1 = k then (kv.1, v) else kv) = kvs := by
              conv => rhs; rw [← List.map_id kvs]
              apply List.map_congr_left
              intro b hb
              have : ¬ b.1 = k := by
                simp at h'
                exact fun e => h' b.2 (by rw [← e]; exact hb)
              simp [this]
            rw [e]
      · have h' : (kvs.any fun kv => decide (kv.1 = k)) = true := by simpa [ha] using h
        by_cases hk : a.1 = k'
        · have : ¬ k' = k := fun e => ha (hk.trans e)
          simp [ha, hk, this]
        · simp only [List.map_cons, ha, if_false, List.find?_cons, hk, decide_false]
          exact ih h'
  · rename_i h
    rw [List.find?_append]
    by_cases hk : k' = k
    · subst hk
      have : kvs.find? (fun kv => decide (kv.1 = k')) = none := by
        rw [List.find?_eq_none]
        intro x hx
        simp at h
        exact fun e => h x.2 (by rw [← of_decide_eq_true e]; exact hx)
      simp [this]
    · have : ¬ k = k' := fun e => hk e.symm
      simp [hk, this]
theorem put_len {κ : Type} [DecidableEq κ] (kvs : List (κ × D)) (k : κ) (v : D) : (put kvs k v).length ≤ kvs.length + 1 := by
  simp only [put]
  split <;> simp
theorem map_split {α : Type} {f : α → D} {rs : List α} {pre post : List D} {x : D} (h : rs.map f = pre ++ x :: post) : ∃ r, rs[pre.length]? = some r ∧ x = f r ∧ rs.take (pre.length + 1) = rs.take pre.length ++ [r] := by
  have e : (rs.map f)[pre.length]? = some x := by rw [h]; simp
  rw [List.getElem?_map] at e
  rcases er : rs[pre.length]? with _ | r
  · rw [er] at e
    cases e
  · rw [er] at e
    refine ⟨r, rfl, ?_, ?_⟩
    · simp at e
      exact e.symm
    · rw [List.take_add_one, er]
      rfl
def rowT (r : Nat × Nat × Int) : D := .tup [.int r.1, .int r.2.1, .int r.2.2]
def rowsL (rs : List (Nat × Nat × Int)) : List D := rs.map rowT
def Rep (kvs : List (List Key × D)) (P : Mx) : Prop := ∀ i j : Nat, look kvs [Sum.inl (i : Int), Sum.inl (j : Int)] = (P i j).map D.int
theorem getD_oi (o : Option Int) : (o.map D.int).getD .non = oi o := by cases o <;> rfl
theorem Rep.put {kvs : List (List Key × D)} {P : Mx} (h : Rep kvs P) (a b : Nat) (v : Int) : Rep (put kvs [Sum.inl (a : Int), Sum.inl (b : Int)] (.int v)) (fun i j => if i = a ∧ j = b then some v else P i j) := by
  intro i j
  rw [look_put]
  by_cases hij : i = a ∧ j = b
  · obtain ⟨rfl, rfl⟩ := hij
    simp
  · show _ = Option.map D.int (if i = a ∧ j = b then some v else P i j)
    have : ¬ ([Sum.inl (i : Int), Sum.inl (j : Int)] : List Key) = [Sum.inl (a : Int), Sum.inl (b : Int)] := by
      intro e
      simp at e
      exact hij ⟨by omega, by omega⟩
    rw [if_neg this, if_neg hij]
    exact h i j
theorem rangeL_map (n : Nat) : rangeL 0 n = (List.range n).map fun (i : Nat) => .int (i : Int) := by simp [rangeL]
theorem take_len {α : Type} (l : List α) (n : Nat) (h : n = l.length) : l.take n = l := by
  subst h
  simp
theorem table_of_ok (n : Nat) (rs : List (Nat × Nat × Int)) (hn : n ≤ 1000) (hr : rs.length ≤ 100000) :
    (f_table_of.sem [sh (.int n), sh (.lst (rowsL rs))]).sat (fun r _ => ∃ o, r = ⟨o, tabO n (closedM n (tabM n rs))⟩) NX := by
  simp -dsimp only [f_table_of, FS.of, b_table_of, N_table_of]; simp_arith
  simp_all_arith
  refine sat_forL (fun pre r => ∃ kvs a, r = [some (sh (.int n)), some (sh (.lst (rowsL rs))), some (own (.dT kvs)), a, none, none, none] ∧ Rep kvs (diagM pre.length) ∧ kvs.length ≤ pre.length) ⟨_, _, rfl, fun i j => by simp [look, diagM], by simp⟩ ?_ ?_
  · rintro pre x post r e ⟨kvs, a, rfl, hR, hl⟩
    obtain ⟨rfl, hp⟩ := rangeL_split e
    simp_all_arith
    refine ⟨_, _, rfl, ?_, by have := put_len kvs [Sum.inl (pre.length : Int), Sum.inl (pre.length : Int)] (.int 0); simp; omega⟩
    have := hR.put pre.length pre.length 0
    intro i j
    rw [this i j]
    congr 1
    simp only [diagM, List.length_append, List.length_cons, List.length_nil]
    by_cases h1 : i = pre.length ∧ j = pre.length
    · have : i = j ∧ i < pre.length + (0 + 1) := by omega
      rw [if_pos h1, if_pos this]
    · rw [if_neg h1]
      by_cases h2 : i = j ∧ i < pre.length
      · have : i = j ∧ i < pre.length + (0 + 1) := by omega
        rw [if_pos h2, if_pos this]
      · have : ¬ (i = j ∧ i < pre.length + (0 + 1)) := by omega
        rw [if_neg h2, if_neg this]
  · rintro r ⟨kvs, a, rfl, hR, hl⟩
    rw [rangeL_len] at *
    simp_all_arith
    have hn' : (n : Int).toNat = n := by omega
    rw [hn'] at *
    refine sat_forL (fun pre r => ∃ kvs, ∃ b c : Option D, ∃ a d, r = [some (sh (.int n)), some (sh (.lst (rowsL rs))), some (own (.dT kvs)), a, b.map sh, c.map sh, d] ∧ Rep kvs ((rs.take pre.length).foldl updM (diagM n)) ∧ kvs.length ≤ n + pre.length) ?_ ?_ ?_
    · exact ⟨_, none, none, _, _, rfl, by simpa using hR, by simpa using hl⟩
    · rintro pre x post r e ⟨kvs, b, c, a, d, rfl, hR, hl⟩
      obtain ⟨⟨x1, x2, v⟩, er, rfl, et⟩ := map_split e
      have hpl : pre.length < rs.length := by
        have := congrArg List.length e
        simp [rowsL] at this
        omega
      have ef : (rs.take (pre ++ [rowT (x1, x2, v)]).length).foldl updM (diagM n) = updM ((rs.take pre.length).foldl updM (diagM n)) (x1, x2, v) := by
        have : (pre ++ [rowT (x1, x2, v)]).length = pre.length + 1 := by simp
        rw [this, et, List.foldl_append]
        rfl
      generalize hF : (rs.take pre.length).foldl updM (diagM n) = F at *
      simp_all_arith [rowT, hR x1 x2, getD_oi]
      refine FR.use (less_ok (some v) (F x1 x2)) ?_
      rintro _ _ rfl
      simp_arith
      refine Br_intro (fun h => ?_) (fun h => ?_)
      · simp_all_arith
        refine ⟨_, some _, some _, _, _, rfl, ?_, ?_⟩
        · rw [ef]
          simp only [updM, h, if_true]
          exact hR.put x1 x2 v
        · have := put_len kvs [Sum.inl (x1 : Int), Sum.inl (x2 : Int)] (.int v)
          simp
          omega
      · simp_all_arith
        refine ⟨_, some _, some _, _, _, rfl, ?_, ?_⟩
        · rw [ef]
          simp only [updM, h]
          exact hR
        · simp
          omega
    · rintro r ⟨kvs, b, c, a, d, rfl, hR, hl⟩
      have er : rs.take (rowsL rs).length = rs := take_len _ _ (by simp [rowsL])
      rw [er] at hR
      have et : rs.foldl updM (diagM n) = tabM n rs := rfl
      rw [et] at hR
      simp_all_arith [hn', rangeL_map]
      refine sat_compR (fun r => ∃ x, r = [some (sh (.int n)), some (sh (.lst (rowsL rs))), some (own (.dT kvs)), a, x, c.map sh, d]) (fun i => rowD n (tabM n rs i)) ⟨_, rfl⟩ ?_ ?_
      · rintro j r hj ⟨x, rfl⟩
        simp_all_arith [hn', rangeL_map]
        refine sat_compR (fun r => ∃ x, r = [some (sh (.int n)), some (sh (.lst (rowsL rs))), some (own (.dT kvs)), a, some (sh (.int j)), x, d]) (fun k => oi (tabM n rs j k)) ⟨_, rfl⟩ ?_ ?_
        · rintro k r hk ⟨x, rfl⟩
          simp_all_arith [hR j k, getD_oi]
          exact ⟨trivial, _, rfl⟩
        · rintro r ⟨x, rfl⟩
          simp_all_arith [len_rng]
          exact ⟨rfl, _, rfl⟩
      · rintro r ⟨x, rfl⟩
        simp_all_arith [len_rng]
        refine FR.use (closed_ok n (tabM n rs) hn (tab_dg n rs)) ?_
        rintro _ _ ⟨o, rfl⟩
        simp_all_arith
        exact ⟨_, rfl⟩


theorem ty_str (ok : List Str) (x : D) : isClsB ok x (.ty "str") = match x with
    | .str _ => some true
    | .obj e _ => if ok.contains e then some false else none
    | .non | .bl _ | .int _ | .lst _ | .tup _ | .dK _ => some false
    | _ => none := by
  cases x <;> simp [isClsB, tyNames]
theorem ty_tuple (ok : List Str) (x : D) : isClsB ok x (.ty "tuple") = match x with
    | .tup _ => some true
    | .obj e _ => if ok.contains e then some false else none
    | .non | .bl _ | .int _ | .lst _ | .str _ | .dK _ => some false
    | _ => none := by
  cases x <;> simp [isClsB, tyNames]
theorem ty_int (ok : List Str) (x : D) : isClsB ok x (.ty "int") = match x with
    | .int _ | .bl _ => some true
    | .obj e _ => if ok.contains e then some false else none
    | .non | .tup _ | .lst _ | .str _ | .dK _ => some false
    | _ => none := by
  cases x <;> simp [isClsB, tyNames]
theorem ty_bool (ok : List Str) (x : D) : isClsB ok x (.ty "bool") = match x with
    | .bl _ => some true
    | .obj e _ => if ok.contains e then some false else none
    | .non | .int _ | .tup _ | .lst _ | .str _ | .dK _ => some false
    | _ => none := by
  cases x <;> simp [isClsB, tyNames]
theorem isIn_letter (c : Nat) (h : isLet c) : isIn (.str ⟨#[c]⟩) (.str (Str.ofString "abcdefghijklmnopqrstuvwxyz")) = some true := by
  simp only [isIn]
  rw [letters_eq]
  simp
  have := h.1
  have := h.2
  exact ⟨c - 97, by omega, by omega⟩
theorem is_word_ok (s : Str) (h : isWd s) : (f_is_word.sem [sh (.str s)]).sat (fun r _ => r = sh (.bl true)) NX := by
  have l1 := h.1
  have l2 := h.2.1
  simp -dsimp only [f_is_word, FS.of, b_is_word, N_is_word]; simp_arith
  simp_all_arith [ty_str]
  have d1 : decide ((1 : Int) ≤ s.length) = true := by simp; omega
  have d2 : decide ((s.length : Int) ≤ 8) = true := by simp; omega
  simp_all_arith [d1, d2]
  have h3 : ∀ c ∈ s.cps.toList, isLet c := h.2.2
  have hl : s.cps.toList.length ≤ 8 := by simpa [Str.length] using h.2.1
  generalize s.cps.toList = cs at h3 hl
  refine sat_compB (fun r => ∃ x, r = [some (sh (.str s)), x]) (fun _ => .bl true) ⟨_, rfl⟩ ?_ ?_
  · rintro c r hc ⟨x, rfl⟩
    simp_all_arith [isIn_letter c (h3 c hc)]
    exact ⟨trivial, _, rfl⟩
  · rintro r ⟨x, rfl⟩
    have hb : boolsD (cs.map fun _ => .bl true) = some (cs.map fun _ => true) := by
      clear h3 hl
      induction cs with
      | nil => rfl
      | cons a l ih => simp [boolsD, ih]
    have ha : (cs.map fun _ => true).all id = true := by simp
    simp_all_arith [hb, ha]
    try trivial
theorem cnt_nodup (xs : List Str) (h : xs.Nodup) : ∀ i, i ≤ xs.length → cntTo xs i = i
  | 0, _ => rfl
  | i + 1, hi => by
    rw [cntTo, cnt_nodup xs h i (by omega)]
    have hlt : i < xs.length := by omega
    have e : xs.getD i Str.empty = xs[i] := by simp [hlt]
    have hn : ¬ ((xs.take i).any (· == xs.getD i Str.empty)) = true := by
      rw [e]
      simp only [List.any_eq_true, not_exists, not_and]
      intro a ha hb
      rw [List.mem_take_iff_getElem] at ha
      obtain ⟨j, hj, rfl⟩ := ha
      have hb : xs[j] = xs[i] := by simpa using hb
      exact (List.pairwise_iff_getElem.mp h) j i _ _ (by omega) hb
    rw [if_neg hn]
theorem are_names_ok (ns : List Str) (h : areWds ns) (h1 : 1 ≤ ns.length) (h3 : ns.length ≤ 3) : (f_are_names.sem [sh (.tup (strsL ns))]).sat (fun r _ => r = sh (.bl true)) NX := by
  simp -dsimp only [f_are_names, FS.of, b_are_names, N_are_names]; simp_arith
  have d1 : decide ((1 : Int) ≤ ns.length) = true := by simp; omega
  have d2 : decide ((ns.length : Int) ≤ 3) = true := by simp; omega
  simp_all_arith [ty_tuple, strsL_len, d1, d2]
  refine sat_compB (fun r => ∃ x, r = [some (sh (.tup (strsL ns))), x]) (fun _ => .bl true) ⟨_, rfl⟩ ?_ ?_
  · rintro s r hs ⟨x, rfl⟩
    simp_all_arith
    refine FR.use (is_word_ok s (h.1 s hs)) ?_
    rintro _ _ rfl
    simp_arith
    exact ⟨trivial, _, rfl⟩
  · rintro r ⟨x, rfl⟩
    have hb : boolsD (ns.map fun _ => .bl true) = some (ns.map fun _ => true) := by
      clear h h1 h3 d1 d2
      induction ns with
      | nil => rfl
      | cons a l ih => simp [boolsD, ih]
    have ha : (ns.map fun _ => true).all id = true := by simp
    have hc : cntTo ns ns.length = ns.length := cnt_nodup ns h.2 _ (Nat.le_refl _)
    have hd := strsD_strsL ns
    simp_all_arith [hb, ha, strsL_len, hd, hc]
    try trivial
theorem check_called_ok (ns : List Str) (h : areWds ns) (h1 : 1 ≤ ns.length) (h3 : ns.length ≤ 3) : (f_check_called.sem [sh (.tup (strsL ns))]).sat (fun r _ => r = sh .non) NX := by
  simp -dsimp only [f_check_called, FS.of, b_check_called, N_check_called]; simp_arith
  refine FR.use (are_names_ok ns h h1 h3) ?_
  rintro _ _ rfl
  simp_all_arith
  try trivial
abbrev E0 : Str := Str.ofString ""
theorem is_end_ok (es : List Str) (s : Str) : (f_is_end.sem [sh (.lst (strsL es)), sh (.str s)]).sat (fun r _ => r = sh (.bl (decide (s ∈ es)))) NX := by
  simp -dsimp only [f_is_end, FS.of, b_is_end, N_is_end]; simp_arith
  simp_all_arith [ty_str, isIn_strsL]
  try trivial
/-- a whole number -/
def wholeD : D → Bool
  | .int _ => true
  | _ => false
/-- of a kind that is no instance -/
def plainD : D → Bool
  | .non | .bl _ | .int _ | .lst _ | .str _ | .dK _ | .tup _ => true
  | _ => false
theorem is_whole_ok (d : D) (h : plainD d = true) : (f_is_whole.sem [sh d]).sat (fun r _ => r = sh (.bl (wholeD d))) NX := by
  cases d <;> first | (cases h; done) | (simp -dsimp only [f_is_whole, FS.of, b_is_whole, N_is_whole]; simp_arith; simp_all_arith [ty_int, ty_bool]; try trivial)
theorem is_bound_ok (es : List Str) (b : Bd) (h1 : b.1 ∈ es) (h2 : b.2.1 ∈ es) : (f_is_bound.sem [sh (.lst (strsL es)), sh (boundD b)]).sat (fun r _ => r = sh (.bl true)) NX := by
  simp -dsimp only [boundD]
  simp -dsimp only [f_is_bound, FS.of, b_is_bound, N_is_bound]; simp_arith
  simp_all_arith [ty_tuple]
  refine FR.use (is_end_ok es b.1) ?_
  rintro _ _ rfl
  simp_all_arith [h1]
  refine FR.use (is_end_ok es b.2.1) ?_
  rintro _ _ rfl
  simp_all_arith [h2]
  refine FR.use (is_whole_ok (.int b.2.2) rfl) ?_
  rintro _ _ rfl
  simp_all_arith [wholeD]
  try trivial
theorem check_bounds_ok (es : List Str) (bs : List Bd) (h : bs.length ≤ 50) (hb : ∀ b ∈ bs, b.1 ∈ es ∧ b.2.1 ∈ es) : (f_check_bounds.sem [sh (.lst (strsL es)), sh (.tup (bdsL bs))]).sat (fun r _ => r = sh .non) NX := by
  simp -dsimp only [f_check_bounds, FS.of, b_check_bounds, N_check_bounds]; simp_arith
  simp_all_arith [ty_tuple, bdsL, each_map]
  refine sat_forA (fun i r => ∃ a b, r = [some (sh (.lst (strsL es))), some (sh (.tup (bdsL bs))), a, b]) ⟨_, _, rfl⟩ ?_ ?_
  · rintro i b r e ⟨x, y, rfl⟩
    have hi : i < bs.length := by
      apply Classical.byContradiction
      intro hc
      rw [List.getElem?_eq_none (by omega)] at e
      cases e
    have hm := hb b (List.mem_of_getElem? e)
    have d1 : decide ((50 : Int) ≤ i) = false := by simp; omega
    simp_all_arith [d1]
    refine FR.use (is_bound_ok es b hm.1 hm.2) ?_
    rintro _ _ rfl
    simp_all_arith
    exact ⟨_, _, rfl⟩
  · rintro r ⟨x, y, rfl⟩
    simp_all_arith
    try trivial


theorem look_map_nodup : ∀ (es : List Str) (k : Int) (s : Str), s ∈ es → look (es.mapIdx fun i e => ((Sum.inr e : Key), D.int (k + i))) (Sum.inr s) = some (.int (k + (es.idxOf s : Nat)))
  | [], _, _, h => by simp at h
  | e :: es, k, s, h => by
    rw [List.mapIdx_cons]
    by_cases he : e = s
    · subst he
      simp [look, List.idxOf_cons]
    · have hs : s ∈ es := by
        simp at h
        rcases h with h | h
        · exact absurd h.symm he
        · exact h
      have ih := look_map_nodup es (k + 1) s hs
      have e1 : (fun (i : Nat) (e : Str) => ((Sum.inr e : Key), D.int (k + ((i + 1 : Nat) : Int)))) = fun (i : Nat) (e : Str) => ((Sum.inr e : Key), D.int (k + 1 + i)) := by
        funext i e
        have : k + ((i + 1 : Nat) : Int) = k + 1 + i := by omega
        rw [this]
      rw [e1]
      have hne : ¬ (Sum.inr e : Key) = Sum.inr s := by
        intro hc
        cases hc
        exact he rfl
      have e2 : look (((Sum.inr e : Key), D.int (k + ((0 : Nat) : Int))) :: es.mapIdx fun (i : Nat) e => ((Sum.inr e : Key), D.int (k + 1 + i))) (Sum.inr s) = look (es.mapIdx fun (i : Nat) e => ((Sum.inr e : Key), D.int (k + 1 + i))) (Sum.inr s) := by
        simp only [look, List.find?_cons]
        simp only [hne, decide_false]
      rw [e2, ih]
      have hi : (e :: es).idxOf s = es.idxOf s + 1 := by
        rw [List.idxOf_cons]
        have : (e == s) = false := by simpa using he
        rw [this]
        rfl
      rw [hi]
      congr 2
      omega
theorem putAll_nodup {κvs : List (Key × D)} (h : (κvs.map (·.1)).Nodup) : putAll κvs = κvs := by
  have key : ∀ (l acc : List (Key × D)), ((acc ++ l).map (·.1)).Nodup → l.foldl (fun acc p => put acc p.1 p.2) acc = acc ++ l := by
    intro l
    induction l with
    | nil => intro acc _; simp
    | cons a l ih =>
      intro acc hn
      rw [List.foldl_cons]
      have : put acc a.1 a.2 = acc ++ [a] := by
        simp only [put]
        have hno : ¬ (acc.any fun kv => decide (kv.1 = a.1)) = true := by
          intro hc
          simp only [List.any_eq_true, decide_eq_true_eq] at hc
          obtain ⟨b, hb, e⟩ := hc
          rw [List.map_append, List.nodup_append] at hn
          exact hn.2.2 b.1 (List.mem_map_of_mem hb) a.1 (by simp) e
        rw [if_neg hno]
      rw [this, ih (acc ++ [a]) (by simpa using hn)]
      simp
  exact key κvs [] (by simpa using h)
/-- a bound by places -/
def rowOf (es : List Str) (b : Bd) : Nat × Nat × Int := (es.idxOf b.1, es.idxOf b.2.1, b.2.2)
theorem ixD_place (es : List Str) (s : Str) (h : s ∈ es) : ixD (.dK (es.mapIdx fun i e => ((Sum.inr e : Key), D.int i))) (.str s) = some (.int (es.idxOf s : Nat)) := by
  have := look_map_nodup es 0 s h
  simp only [Int.zero_add] at this
  simp only [ixD, dget, keyOf, this]
theorem each_len (f : Int → D → D) (xs : List D) (s : Int) : (eachFrom f s xs).length = xs.length := by simp [eachFrom_eq]
theorem rows_of_ok (es : List Str) (bs : List Bd) (hn : es.Nodup) (h3 : es.length ≤ 1000) (h : bs.length ≤ 100000) (hb : ∀ b ∈ bs, b.1 ∈ es ∧ b.2.1 ∈ es) :
    (f_rows_of.sem [sh (.lst (strsL es)), sh (.tup (bdsL bs))]).sat (fun r _ => r = own (.lst (rowsL (bs.map (rowOf es))))) NX := by
  simp -dsimp only [f_rows_of, FS.of, b_rows_of, N_rows_of]; simp_arith
  simp_all_arith [strsL, each_map]
  refine sat_compA (fun r => ∃ x y, r = [some (sh (.lst (strsL es))), some (sh (.tup (bdsL bs))), none, x, y, none, none, none]) (fun i e => ((Sum.inr e : Key), D.int i)) ⟨_, _, rfl⟩ ?_ ?_
  · rintro i a r e ⟨x, y, rfl⟩
    simp_all_arith
    exact ⟨trivial, _, _, rfl⟩
  · rintro r ⟨x, y, rfl⟩
    have hp : putAll (es.mapIdx fun i e => ((Sum.inr e : Key), D.int i)) = es.mapIdx fun i e => ((Sum.inr e : Key), D.int i) := by
      apply putAll_nodup
      have : (es.mapIdx fun i e => ((Sum.inr e : Key), D.int i)).map (·.1) = es.map Sum.inr := by
        apply List.ext_getElem
        · simp
        · intro i h1 h2
          simp
      rw [this]
      exact List.pairwise_map.mpr (hn.imp fun h e => h (by cases e; rfl))
    simp_all_arith [each_len, strsL_len, hp, bdsL]
    refine sat_compB (fun r => ∃ x y z, r = [some (sh (.lst (strsL es))), some (sh (.tup (bdsL bs))), some (own (.dK (es.mapIdx fun i e => ((Sum.inr e : Key), D.int i)))), none, none, x, y, z]) (fun b => rowT (rowOf es b)) ⟨_, _, _, rfl⟩ ?_ ?_
    · rintro b r hm ⟨x, y, z, rfl⟩
      have h1 := hb b hm
      simp_all_arith [boundD, ↓ixD_place es b.1 h1.1, ↓ixD_place es b.2.1 h1.2]
      exact ⟨rfl, _, _, _, rfl⟩
    · rintro r ⟨x, y, z, rfl⟩
      simp_all_arith
      have e : bs.map (fun b => rowT (rowOf es b)) = rowsL (bs.map (rowOf es)) := by simp [rowsL]
      rw [e]
/-- the table of some bounds of some ends -/
def tabOf (es : List Str) (bs : List Bd) : Option Mx := closedM es.length (tabM es.length (bs.map (rowOf es)))
/-- a lot -/
def lotD (ns : List Str) (bs : List Bd) : D := .obj (Str.ofString "Lot") [(Str.ofString "called", .tup (strsL ns)), (Str.ofString "made_of", .tup (bdsL bs)), (Str.ofString "table", tabO (E0 :: ns).length (tabOf (E0 :: ns) bs))]
theorem nf1 : (Str.ofString "called" = Str.ofString "made_of") = False := by simp only [eq_iff_iff, iff_false]; decide +kernel
theorem nf2 : (Str.ofString "called" = Str.ofString "table") = False := by simp only [eq_iff_iff, iff_false]; decide +kernel
theorem nf3 : (Str.ofString "made_of" = Str.ofString "table") = False := by simp only [eq_iff_iff, iff_false]; decide +kernel
theorem nf4 : (Str.ofString "made_of" = Str.ofString "called") = False := by simp only [eq_iff_iff, iff_false]; decide +kernel
theorem nf5 : (Str.ofString "table" = Str.ofString "called") = False := by simp only [eq_iff_iff, iff_false]; decide +kernel
theorem nf6 : (Str.ofString "table" = Str.ofString "made_of") = False := by simp only [eq_iff_iff, iff_false]; decide +kernel
theorem nb4 : (Str.ofString "made_of" == Str.ofString "called") = false := by decide +kernel
theorem nb5 : (Str.ofString "table" == Str.ofString "called") = false := by decide +kernel
theorem nb6 : (Str.ofString "table" == Str.ofString "made_of") = false := by decide +kernel
theorem nodup_ends {ns : List Str} (h : areWds ns) : (E0 :: ns).Nodup := by
  rw [List.nodup_cons]
  refine ⟨fun hc => ?_, h.2⟩
  have := (h.1 _ hc).1
  have e : Str.length E0 = 0 := by decide +kernel
  omega

/-- whether the bounds of a table hold of a state -/
def Holds0 (t : Option Mx) (xs : List Int) : Prop := match t with
  | none => False
  | some M => Holds xs.length M (fun i => xs.getD i 0)
/-- the number of an end -/
def worth (es : List Str) (xs : List Int) (s : Str) : Int := xs.getD (es.idxOf s) 0
/-- all bounds hold of numbers of the ends -/
def Keeps (es : List Str) (xs : List Int) (bs : List Bd) : Prop := ∀ b ∈ bs, worth es xs b.1 - worth es xs b.2.1 ≤ b.2.2
theorem tabOf_holds {es : List Str} {bs : List Bd} {xs : List Int} (hx : xs.length = es.length) (hb : ∀ b ∈ bs, b.1 ∈ es ∧ b.2.1 ∈ es) : Holds0 (tabOf es bs) xs ↔ Keeps es xs bs := by
  have hr : ∀ r ∈ bs.map (rowOf es), r.1 < es.length ∧ r.2.1 < es.length := by
    intro r hr
    rw [List.mem_map] at hr
    obtain ⟨b, hbm, rfl⟩ := hr
    exact ⟨List.idxOf_lt_length_iff.mpr (hb b hbm).1, List.idxOf_lt_length_iff.mpr (hb b hbm).2⟩
  have key : (∀ r ∈ bs.map (rowOf es), (fun i => xs.getD i 0) r.1 - (fun i => xs.getD i 0) r.2.1 ≤ r.2.2) ↔ Keeps es xs bs := by
    simp only [List.forall_mem_map]
    rfl
  rw [← key]
  refine Iff.trans ?_ (tab_holds (φ := fun i => xs.getD i 0) hr)
  rcases e : tabOf es bs with _ | M
  · simp only [Holds0, false_iff]
    exact closed_none e
  · simp only [Holds0, hx]
    exact closed_some e
theorem putAll1 (k : Key) (v : D) : putAll [(k, v)] = [(k, v)] := rfl
theorem atI_strsN {es : List Str} {i : Nat} {s : Str} (h : es[i]? = some s) : L2.atI (strsL es) (i : Int) = some (.str s) := by
  rw [atI_nat]
  simp [strsL, h]
theorem atI_intsN {es : List Int} {i : Nat} {s : Int} (h : es[i]? = some s) : L2.atI (intsL es) (i : Int) = some (.int s) := by
  rw [atI_nat]
  simp [intsL, h]
theorem py_strs : ∀ ss : List Str, D.pys (strsL ss) = some (ss.map .str)
  | [] => rfl
  | s :: ss => by
    have ih := py_strs ss
    have e : strsL (s :: ss) = .str s :: strsL ss := rfl
    rw [e, D.pys, ih]
    rfl
theorem eqvAll_strs : ∀ ss ts : List Str, PyData.eqvAll (ss.map .str) (ts.map .str) = decide (ss = ts)
  | [], [] => by simp [PyData.eqvAll]
  | [], t :: ts => by simp [PyData.eqvAll]
  | s :: ss, [] => by simp [PyData.eqvAll]
  | s :: ss, t :: ts => by
    simp only [List.map_cons, PyData.eqvAll, PyData.eqv, eqvAll_strs ss ts]
    by_cases h : s = t <;> simp [h]
theorem nice_strs (n : Nat) (ss : List Str) (h : ∀ s ∈ ss, PyData.strOk s = true) : nice (n + 1) (.lst (strsL ss)) = true := by
  simp only [nice, List.all_eq_true, strsL, List.mem_map]
  rintro x ⟨s, hs, rfl⟩
  simpa [nice] using h s hs
theorem deqv_strs (ss ts : List Str) (h1 : ∀ s ∈ ss, PyData.strOk s = true) (h2 : ∀ s ∈ ts, PyData.strOk s = true) : deqv (.lst (strsL ss)) (.lst (strsL ts)) = some (decide (ss = ts)) := by
  simp only [deqv, D.py, py_strs, Option.map_some]
  have e1 := nice_strs 49 ss h1
  have e2 := nice_strs 49 ts h2
  simp only [e1, e2, Bool.and_self, if_true, PyData.eqv, eqvAll_strs]
theorem strOk_wd {s : Str} (h : isWd s) : PyData.strOk s = true := by
  simp only [PyData.strOk, Array.all_eq_true_iff_forall_mem]
  intro c hc
  have := h.2.2 c (by simpa using hc)
  have := this.2
  simp
  omega
theorem strOk_E0 : PyData.strOk E0 = true := by decide +kernel
theorem strOk_end {ns : List Str} (h : areWds ns) : ∀ s ∈ E0 :: ns, PyData.strOk s = true := by
  intro s hs
  rw [List.mem_cons] at hs
  rcases hs with rfl | hs
  · exact strOk_E0
  · exact strOk_wd (h.1 s hs)
theorem idx_nodup : ∀ {es : List Str}, es.Nodup → ∀ {i : Nat} {s : Str}, es[i]? = some s → es.idxOf s = i
  | [], _, i, s, e => by simp at e
  | x :: es, h, 0, s, e => by
    simp at e
    subst e
    simp [List.idxOf_cons]
  | x :: es, h, i + 1, s, e => by
    simp at e
    rw [List.nodup_cons] at h
    have hx : ¬ x = s := fun hc => h.1 (hc ▸ List.mem_of_getElem? e)
    have hb : (x == s) = false := by simpa using hx
    rw [List.idxOf_cons, idx_nodup h.2 e, hb]
    rfl
theorem worth_at {es : List Str} (h : es.Nodup) {xs : List Int} {i : Nat} {s : Str} {v : Int} (e : es[i]? = some s) (e2 : xs[i]? = some v) : worth es xs s = v := by
  simp only [worth, idx_nodup h e]
  simp [e2]
theorem filterMap_if {α β : Type} (p : α → Bool) (f : α → β) : ∀ l : List α, l.filterMap (fun a => if p a then some (f a) else none) = (l.filter p).map f
  | [] => rfl
  | a :: l => by
    rw [List.filterMap_cons, List.filter_cons]
    cases hp : p a <;> simp [hp, filterMap_if p f l]
theorem ixD_look {kvs : List (Key × D)} {s : Str} {v : D} (h : look kvs (Sum.inr s) = some v) : ixD (.dK kvs) (.str s) = some v := by
  simp only [ix_dK, dg_K, keyOf, Option.map_some, Option.bind_some, h, id_eq]
def cutL {α : Type} (xs : List α) (lo hi : Option Int) : List α := (xs.drop (HT.sIx xs.length 0 lo)).take (HT.sIx xs.length xs.length hi - HT.sIx xs.length 0 lo)
theorem cutD_ints (xs : List Int) (lo hi : Option Int) : cutD (intsL xs) lo hi = intsL (cutL xs lo hi) := by
  simp only [cutD, cutL, intsL, List.length_map, List.map_take, List.map_drop]
theorem cutL_len {α : Type} (z : List α) (lo hi : Option Int) : (cutL z lo hi).length = min (HT.sIx z.length z.length hi - HT.sIx z.length 0 lo) (z.length - HT.sIx z.length 0 lo) := by
  simp [cutL]
theorem sIx_neg (n d : Nat) (v : Int) (h : v < 0) : HT.sIx n d (some v) = (v + n).toNat := by
  simp only [HT.sIx, h, ↓reduceIte]
def stsL (sts : List (List Int)) : List D := sts.map fun st => .tup (intsL st)
theorem stsL_len (sts : List (List Int)) : (stsL sts).length = sts.length := by simp [stsL]
theorem stsL_snoc (sts : List (List Int)) (st : List Int) : stsL sts ++ [.tup (intsL st)] = stsL (sts ++ [st]) := by simp [stsL]
theorem intsL_app (a b : List Int) : intsL a ++ intsL b = intsL (a ++ b) := by simp [intsL]
theorem intsL_one (a : Int) : [D.int a] = intsL [a] := rfl
/-- states of so many numbers -/
def okSts (k : Nat) (sts : List (List Int)) : Prop := ∀ st ∈ sts, st.length = k
theorem okSts.snoc {k : Nat} {sts : List (List Int)} {st : List Int} (h : okSts k sts) (h2 : st.length = k) : okSts k (sts ++ [st]) := by
  intro s hs
  simp at hs
  rcases hs with hs | rfl
  · exact h s hs
  · exact h2
theorem cutD_bds (xs : List Bd) (lo hi : Option Int) : cutD (bdsL xs) lo hi = bdsL (cutL xs lo hi) := by
  simp only [cutD, cutL, bdsL, List.length_map, List.map_take, List.map_drop]
theorem cutL_mem {α : Type} {xs : List α} {lo hi : Option Int} {x : α} (h : x ∈ cutL xs lo hi) : x ∈ xs := List.mem_of_mem_drop (List.mem_of_mem_take h)
theorem cutL_le {α : Type} (xs : List α) (lo hi : Option Int) : (cutL xs lo hi).length ≤ xs.length := by
  rw [cutL_len]
  omega
theorem Sh_names {ns : List Str} (h : areWds ns) (h3 : ns.length ≤ 3) : Sh 50 300 (.tup (strsL ns)) := by
  have := Sh_tup (k := 49) (b := 82) (xs := strsL ns) (by
    intro x hx
    simp only [strsL, List.mem_map] at hx
    obtain ⟨s, hs, rfl⟩ := hx
    exact Sh_str (m := 8) (strOk_wd (h.1 s hs)) (h.1 s hs).2.1)
  rw [strsL_len] at this
  exact this.mono (by omega)

/-- a name behind a step -/
def tick (s : Str) : Str := s ++ Str.ofString "'"
def tipsOf (ns : List Str) : List Str := E0 :: (ns ++ ns.map tick)
theorem tick_toList (s : Str) : (tick s).cps.toList = s.cps.toList ++ [39] := by
  have e : (Str.ofString "'").cps = #[39] := by decide +kernel
  show (s.cps ++ (Str.ofString "'").cps).toList = _
  rw [e]
  simp
theorem tick_len (s : Str) : (tick s).length = s.length + 1 := by
  have := congrArg List.length (tick_toList s)
  simpa [Str.length] using this
theorem str_ext {s t : Str} (h : s.cps.toList = t.cps.toList) : s = t := by
  obtain ⟨⟨a⟩⟩ := s
  obtain ⟨⟨b⟩⟩ := t
  simp at h
  rw [h]
theorem tick_inj {s t : Str} (h : tick s = tick t) : s = t := by
  have := congrArg (fun z : Str => z.cps.toList) h
  simp only [tick_toList] at this
  exact str_ext (List.append_cancel_right this)
theorem tick_no {s t : Str} (h : isWd s) : s ≠ tick t := fun e => by
  have hm : 39 ∈ s.cps.toList := by
    rw [e, tick_toList]
    simp
  have := h.2.2 39 hm
  have := this.1
  omega
theorem tips_len (ns : List Str) : (tipsOf ns).length = 2 * ns.length + 1 := by
  simp [tipsOf]
  omega
theorem wd_ne0 {s : Str} (h : isWd s) : E0 ≠ s := fun e => by
  have := h.1
  rw [← e] at this
  exact absurd this (by decide +kernel)
theorem nodup_tips {ns : List Str} (h : areWds ns) : (tipsOf ns).Nodup := by
  refine List.nodup_cons.mpr ⟨fun hm => ?_, ?_⟩
  · rcases List.mem_append.mp hm with hm | hm
    · exact wd_ne0 (h.1 _ hm) rfl
    · obtain ⟨t, _, e⟩ := List.mem_map.mp hm
      have := tick_len t
      rw [e] at this
      have h0 : (E0 : Str).length = 0 := by decide +kernel
      omega
  · rw [List.nodup_append]
    refine ⟨h.2, ?_, ?_⟩
    · exact List.pairwise_map.mpr (h.2.imp fun hne e => hne (tick_inj e))
    · intro a ha b hb e
      obtain ⟨t, _, rfl⟩ := List.mem_map.mp hb
      exact tick_no (h.1 a ha) e
theorem strOk_tick {s : Str} (h : isWd s) : PyData.strOk (tick s) = true := by
  have := strOk_wd h
  simp only [PyData.strOk] at this ⊢
  rw [← Array.all_toList] at this ⊢
  rw [tick_toList, List.all_append, this]
  rfl
theorem strOk_tips {ns : List Str} (h : areWds ns) : ∀ s ∈ tipsOf ns, PyData.strOk s = true := by
  intro s hs
  rcases List.mem_cons.mp hs with rfl | hs
  · exact strOk_E0
  · rcases List.mem_append.mp hs with hs | hs
    · exact strOk_wd (h.1 s hs)
    · obtain ⟨t, ht, rfl⟩ := List.mem_map.mp hs
      exact strOk_tick (h.1 t ht)
theorem tips_short {ns : List Str} (h : areWds ns) : ∀ s ∈ tipsOf ns, s.length ≤ 9 := by
  intro s hs
  rcases List.mem_cons.mp hs with rfl | hs
  · decide +kernel
  · rcases List.mem_append.mp hs with hs | hs
    · have := (h.1 s hs).2.1
      omega
    · obtain ⟨t, ht, rfl⟩ := List.mem_map.mp hs
      rw [tick_len]
      have := (h.1 t ht).2.1
      omega
theorem sz_tick {s : Str} (h : isWd s) : szOk (s.length + (Str.ofString "'").length) = true := by
  have e : (Str.ofString "'").length = 1 := by decide +kernel
  have := h.2.1
  rw [e]
  exact szL (by omega)
theorem tips_at {ns : List Str} {i : Nat} {n : Str} (h : ns[i]? = some n) : (tipsOf ns)[i + 1]? = some n := by
  have hi := (List.getElem?_eq_some_iff.mp h).1
  show (ns ++ ns.map tick)[i]? = _
  rw [List.getElem?_append_left hi]
  exact h
theorem tips_at' {ns : List Str} {i : Nat} {n : Str} (h : ns[i]? = some n) : (tipsOf ns)[ns.length + i + 1]? = some (tick n) := by
  show (ns ++ ns.map tick)[ns.length + i]? = _
  rw [List.getElem?_append_right (by omega), Nat.add_sub_cancel_left, List.getElem?_map, h]
  rfl
theorem law_tips_ok (ns : List Str) (h : areWds ns) (h3 : ns.length ≤ 3) : (f_law_tips.sem [sh (.tup (strsL ns))]).sat (fun r _ => r = own (.lst (strsL (tipsOf ns)))) NX := by
  simp -dsimp only [f_law_tips, FS.of, b_law_tips, N_law_tips]; simp_arith
  simp_all_arith [strsL_len]
  refine sat_compB (as := ns) (f := D.str) (fun r => ∃ x, r = [some (sh (.tup (strsL ns))), x]) (fun s => .str (tick s)) ⟨_, rfl⟩ ?_ ?_
  · rintro s r hs ⟨x, rfl⟩
    simp_all_arith [sz_tick (h.1 s hs)]
    exact ⟨rfl, _, rfl⟩
  · rintro r ⟨x, rfl⟩
    have e : D.str (Str.ofString "") :: (strsL ns ++ ns.map fun s => D.str (tick s)) = strsL (tipsOf ns) := by simp [strsL, tipsOf]
    simp_all_arith [strsL_len, List.length_map, e]
    try trivial
theorem ends_of_ok (ns : List Str) (h : areWds ns) (h3 : ns.length ≤ 3) : (f_ends_of.sem [sh (.tup (strsL ns))]).sat (fun r _ => r = own (.lst (strsL (tipsOf ns)))) NX := by
  simp -dsimp only [f_ends_of, FS.of, b_ends_of, N_ends_of]; simp_arith
  simp_all_arith [strsL_len, List.append_nil]
  refine sat_compB (as := ns) (f := D.str) (fun r => ∃ x, r = [some (sh (.tup (strsL ns))), x]) (fun s => .str (tick s)) ⟨_, rfl⟩ ?_ ?_
  · rintro s r hs ⟨x, rfl⟩
    simp_all_arith [sz_tick (h.1 s hs)]
    exact ⟨rfl, _, rfl⟩
  · rintro r ⟨x, rfl⟩
    have e : D.str (Str.ofString "") :: (strsL ns ++ ns.map fun s => D.str (tick s)) = strsL (tipsOf ns) := by simp [strsL, tipsOf]
    simp_all_arith [strsL_len, List.length_map, e, List.append_nil]
    try trivial
/-- the numbers of the ends at two states -/
def at2 (a b : List Int) : List Int := 0 :: (a ++ b)
theorem at2_len {a b : List Int} {ns : List Str} (ha : a.length = ns.length) (hb : b.length = ns.length) : (at2 a b).length = (tipsOf ns).length := by
  simp [at2, tipsOf, ha, hb]
/-- a dict of the ends' numbers -/
def WorthD (es : List Str) (xs : List Int) (kvs : List (Key × D)) : Prop := kvs.length ≤ 50 ∧ ∀ s ∈ es, look kvs (Sum.inr s) = some (.int (worth es xs s))
theorem law_worth_ok (ns : List Str) (a b : List Int) (h : areWds ns) (h3 : ns.length ≤ 3) (ha : a.length = ns.length) (hb : b.length = ns.length) :
    (f_law_worth.sem [sh (.tup (strsL ns)), sh (.tup (intsL a)), sh (.tup (intsL b))]).sat (fun r _ => ∃ kvs, r = own (.dK kvs) ∧ WorthD (tipsOf ns) (at2 a b) kvs) NX := by
  have hnd := nodup_tips h
  simp -dsimp only [f_law_worth, FS.of, b_law_worth, N_law_worth]; simp_arith
  simp_all_arith [strsL_len, putAll1]
  refine sat_forL (fun pre r => ∃ kvs x, r = [some (sh (.tup (strsL ns))), some (sh (.tup (intsL a))), some (sh (.tup (intsL b))), some (own (.dK kvs)), x] ∧ kvs.length ≤ 1 + 2 * pre.length ∧ look kvs (Sum.inr E0) = some (.int (worth (tipsOf ns) (at2 a b) E0)) ∧ ∀ i n, i < pre.length → ns[i]? = some n → look kvs (Sum.inr n) = some (.int (worth (tipsOf ns) (at2 a b) n)) ∧ look kvs (Sum.inr (tick n)) = some (.int (worth (tipsOf ns) (at2 a b) (tick n)))) ?_ ?_ ?_
  · refine ⟨_, _, rfl, by simp, ?_, by simp⟩
    rw [worth_at hnd (i := 0) (v := 0) rfl rfl]
    simp [look]
  · rintro pre x post r e ⟨kvs, x1, rfl, hk, h0, hI⟩
    obtain ⟨rfl, hp⟩ := rangeL_split e
    have hp1 : pre.length < ns.length := by omega
    obtain ⟨nm, en⟩ : ∃ nm, ns[pre.length]? = some nm := ⟨_, List.getElem?_eq_getElem hp1⟩
    obtain ⟨va, ea⟩ : ∃ v, a[pre.length]? = some v := ⟨_, List.getElem?_eq_getElem (by omega)⟩
    obtain ⟨vb, eb⟩ : ∃ v, b[pre.length]? = some v := ⟨_, List.getElem?_eq_getElem (by omega)⟩
    have w1 : worth (tipsOf ns) (at2 a b) nm = va := worth_at hnd (tips_at en) (by
      show (a ++ b)[pre.length]? = _
      rw [List.getElem?_append_left (by omega)]
      exact ea)
    have w2 : worth (tipsOf ns) (at2 a b) (tick nm) = vb := worth_at hnd (tips_at' en) (by
      show (a ++ b)[ns.length + pre.length]? = _
      rw [List.getElem?_append_right (by omega), ha, Nat.add_sub_cancel_left]
      exact eb)
    have hz := sz_tick (h.1 nm (List.mem_of_getElem? en))
    have et : nm ++ Str.ofString "'" = tick nm := rfl
    have p1 := put_len kvs (Sum.inr nm) (.int va)
    have p2 := put_len (put kvs (Sum.inr nm) (.int va)) (Sum.inr (tick nm)) (.int vb)
    have key : ∀ s, look kvs (Sum.inr s) = some (.int (worth (tipsOf ns) (at2 a b) s)) ∨ s = nm ∨ s = tick nm → look (put (put kvs (Sum.inr nm) (.int va)) (Sum.inr (tick nm)) (.int vb)) (Sum.inr s) = some (.int (worth (tipsOf ns) (at2 a b) s)) := by
      intro s hs
      rw [look_put, look_put]
      by_cases c1 : s = tick nm
      · subst c1
        rw [if_pos rfl, w2]
      · rw [if_neg (fun e => c1 (Sum.inr.inj e))]
        by_cases c2 : s = nm
        · subst c2
          rw [if_pos rfl, w1]
        · rw [if_neg (fun e => c2 (Sum.inr.inj e))]
          rcases hs with hs | hs | hs
          · exact hs
          · exact absurd hs c2
          · exact absurd hs c1
    simp_all_arith [atI_strsN en, atI_intsN ea, atI_intsN eb, hz, et]
    refine ⟨_, _, rfl, ?_, key _ (.inl h0), ?_⟩
    · simp only [List.length_append, List.length_cons, List.length_nil]
      omega
    · intro i n hi en'
      by_cases hip : i < pre.length
      · obtain ⟨g1, g2⟩ := hI i n hip en'
        exact ⟨key _ (.inl g1), key _ (.inl g2)⟩
      · have : i = pre.length := by
          simp at hi
          omega
        subst this
        rw [en] at en'
        cases en'
        exact ⟨key _ (.inr (.inl rfl)), key _ (.inr (.inr rfl))⟩
  · rintro r ⟨kvs, x1, rfl, hk, h0, hI⟩
    rw [rangeL_len] at hk hI
    simp_all_arith
    refine ⟨kvs, rfl, by omega, ?_⟩
    intro s hs
    rcases List.mem_cons.mp hs with rfl | hs
    · exact h0
    · rcases List.mem_append.mp hs with hs | hs
      · obtain ⟨i, hi, e⟩ := List.mem_iff_getElem.mp hs
        exact (hI i s (by omega) (by rw [List.getElem?_eq_getElem hi, e])).1
      · obtain ⟨t, ht, rfl⟩ := List.mem_map.mp hs
        obtain ⟨i, hi, e⟩ := List.mem_iff_getElem.mp ht
        exact (hI i t (by omega) (by rw [List.getElem?_eq_getElem hi, e])).2

/-- a state near another one -/
theorem near_ok {n m : Int} {d : D} (st : List Int) (hw : Wk n d) (hn : n ≤ 10 ^ 27) (h1 : 1 ≤ st.length) (h3 : st.length ≤ 3) (hm : ∀ v ∈ st, -m ≤ v ∧ v ≤ m) :
    (f_law_near.sem [own d, sh (.tup (intsL st))]).sat (fun r out => ∃ st' w', r = sh (.tup (intsL st')) ∧ st'.length = st.length ∧ (∀ v ∈ st', -(m + 10 ^ 6) ≤ v ∧ v ≤ m + 10 ^ 6) ∧ out = own w' ∧ Wk (n + 2) w') NX := by
  simp -dsimp only [f_law_near, FS.of, b_law_near, N_law_near]; simp_arith
  simp_all_arith [intsL_len]
  refine FR.use (draw_ok hw (by omega) (by omega) (by omega)) ?_
  rintro _ _ ⟨p, w', rfl, p0, p1, rfl, hw'⟩
  simp_all_arith [intsL_len]
  refine FR.use (draw_ok hw' (by omega) (by decide) (by decide +kernel)) ?_
  rintro _ _ ⟨q, w', rfl, q0, q1, rfl, hw'⟩
  have hM : ∃ M : Int, L2.atI [D.int 1, D.int (-1), D.int 2, D.int (-3), D.int 1000000] q = some (.int M) ∧ -(10 ^ 6) ≤ M ∧ M ≤ 10 ^ 6 := by
    obtain ⟨v, e, hv⟩ := atI_in [D.int 1, D.int (-1), D.int 2, D.int (-3), D.int 1000000] q q0 (by simp; omega)
    simp only [List.mem_cons, List.not_mem_nil, or_false] at hv
    rcases hv with rfl | rfl | rfl | rfl | rfl <;> exact ⟨_, e, by decide, by decide⟩
  obtain ⟨M, eM, M0, M1⟩ := hM
  obtain ⟨k, rfl⟩ : ∃ k : Nat, p = k := ⟨p.toNat, by omega⟩
  have hk : k < st.length := by omega
  obtain ⟨v, ev⟩ : ∃ v, st[k]? = some v := ⟨_, List.getElem?_eq_getElem hk⟩
  have hv := hm v (List.mem_of_getElem? ev)
  have l1 : (cutL st none (some (k : Int))).length = k := by
    rw [cutL_len, sIx_some _ _ _ p0, sIx_no]
    omega
  have l2 : (cutL st (some ((k : Int) + 1)) none).length = st.length - (k + 1) := by
    rw [cutL_len, sIx_some _ _ _ (by omega), sIx_no]
    omega
  have l3 : (cutL st none (some (k : Int)) ++ [v + M]).length = k + 1 := by simp [l1]
  simp_all_arith [eM, atI_intsN ev, intsL_len, sliceD, cutD_ints, intsL_snoc, intsL_app, l1, l2, l3]
  refine ⟨_, _, rfl, by simp [l1, l2]; omega, ?_, rfl, hw'.mono (by omega)⟩
  intro x hx
  rcases List.mem_append.mp hx with hx | hx
  · rcases List.mem_append.mp hx with hx | hx
    · have := hm x (cutL_mem hx)
      omega
    · simp only [List.mem_singleton] at hx
      omega
  · have := hm x (cutL_mem hx)
    omega

/-- a state of so many names -/
def isStB (k : Nat) : D → Bool
  | .tup xs => xs.length == k && xs.all wholeD
  | _ => false
def plain2 : D → Bool
  | .tup xs => xs.all plainD && decide (xs.length ≤ 1000)
  | d => plainD d
theorem is_state_ok (ns : List Str) (d : D) (h : plain2 d = true) (hn : ns.length ≤ 1000) : (f_is_state.sem [sh (.tup (strsL ns)), sh d]).sat (fun r _ => r = sh (.bl (isStB ns.length d))) NX := by
  cases d with
  | tup xs =>
    simp only [plain2, Bool.and_eq_true, List.all_eq_true, decide_eq_true_eq] at h
    simp -dsimp only [f_is_state, FS.of, b_is_state, N_is_state]; simp_arith
    simp_all_arith [ty_tuple, strsL_len]
    refine Br_intro (fun he => ?_) (fun he => ?_)
    · have hne : xs.length ≠ ns.length := by
        simp at he
        omega
      simp_all_arith
      simp [isStB, hne]
    · have hne : xs.length = ns.length := by
        simp at he
        omega
      simp_all_arith
      have exs : xs = xs.map id := by simp
      rw [exs]
      refine sat_compB (fun r => ∃ x, r = [some (sh (.tup (strsL ns))), some (sh (.tup xs)), x]) (fun x => .bl (wholeD x)) ⟨_, by simp; rfl⟩ ?_ ?_
      · rintro x r hx ⟨y, rfl⟩
        simp_all_arith
        refine FR.use (is_whole_ok x (h.1 x hx)) ?_
        rintro _ _ rfl
        simp_all_arith
        exact ⟨trivial, _, rfl⟩
      · rintro r ⟨y, rfl⟩
        have hb : boolsD (xs.map fun x => .bl (wholeD x)) = some (xs.map wholeD) := by
          clear h hne exs he
          induction xs with
          | nil => rfl
          | cons a l ih => simp [boolsD, ih]
        have hl2 := h.2
        simp_all_arith [hb]
        simp [isStB, hne]
  | cls _ => cases h
  | ty _ => cases h
  | obj _ _ => cases h
  | dT _ => cases h
  | _ =>
    simp -dsimp only [f_is_state, FS.of, b_is_state, N_is_state]; simp_arith
    simp_all_arith [ty_tuple]
    rfl
theorem oo_tab (o : Bool) (n : Nat) (M : Mx) : objO (.tmp ⟨o, tabD n M⟩) = none := by cases o <;> rfl
theorem is_tab (n : Nat) (M : Mx) : isD (tabD n M) .non = some false := rfl
theorem has_state_ok (t : Option Mx) (st : List Int) (n : Nat) (hn : n = st.length + 1) (hs : st.length ≤ 1000) : (f_has_state.sem [sh (tabO n t), sh (.tup (intsL st))]).sat (fun r _ => ∃ b, r = sh (.bl b) ∧ (b = true ↔ Holds0 t (0 :: st))) NX := by
  subst hn
  cases t with
  | none =>
    simp -dsimp only [tabO]
    simp -dsimp only [f_has_state, FS.of, b_has_state, N_has_state]; simp_arith
    simp_all_arith
    exact ⟨_, rfl, by simp [Holds0]⟩
  | some M =>
    have et : tabO (st.length + 1) (some M) = tabD (st.length + 1) M := rfl
    simp -dsimp only [et]
    simp -dsimp only [f_has_state, FS.of, b_has_state, N_has_state]; simp_arith [↓oo_tab, is_tab]
    have e0 : D.int 0 :: intsL st = intsL (0 :: st) := rfl
    have hlen : (0 :: st).length = st.length + 1 := by simp
    simp_all_arith [↓oo_tab, is_tab, List.append_nil, intsL_len, e0]
    generalize hxs : 0 :: st = xs at *
    rw [← hlen]
    simp_all_arith [intsL, each_map]
    refine sat_forA (fun i r => (∃ a b c d, r = [some (sh (tabD xs.length M)), some (sh (.tup (intsL st))), some (sh (.lst (intsL xs))), a, b, c, d]) ∧ ∀ i' j, i' < i → j < xs.length → ∀ v, M i' j = some v → xs.getD i' 0 - xs.getD j 0 ≤ v) ⟨⟨_, _, _, _, rfl⟩, by intro i' j h; omega⟩ ?_ ?_
    · rintro i x r ei ⟨⟨a, b, c, d, rfl⟩, hI⟩
      have hi : i < xs.length := by
        apply Classical.byContradiction
        intro hc
        rw [List.getElem?_eq_none (by omega)] at ei
        cases ei
      have gi : xs.getD i 0 = x := by simp [ei]
      simp_all_arith [intsL, each_map]
      refine sat_forA (fun j r => (∃ c d, r = [some (sh (tabD xs.length M)), some (sh (.tup (intsL st))), some (sh (.lst (intsL xs))), some (sh (.int i)), some (sh (.int x)), c, d]) ∧ ∀ j', j' < j → ∀ v, M i j' = some v → xs.getD i 0 - xs.getD j' 0 ≤ v) ⟨⟨_, _, rfl⟩, by intro j' h; omega⟩ ?_ ?_
      · rintro j y r ej ⟨⟨c, d, rfl⟩, hJ⟩
        have hj : j < xs.length := by
          apply Classical.byContradiction
          intro hc
          rw [List.getElem?_eq_none (by omega)] at ej
          cases ej
        have gj : xs.getD j 0 = y := by simp [ej]
        have fin : (∀ v, M i j = some v → x - y ≤ v) → ∀ j', j' < j + 1 → ∀ v, M i j' = some v → xs.getD i 0 - xs.getD j' 0 ≤ v := by
          intro h j' hj' v ev
          by_cases hjj : j' = j
          · subst hjj
            rw [gi, gj]
            exact h v ev
          · exact hJ j' (by omega) v ev
        rcases eM : M i j with _ | v
        · simp_all_arith [↓ixD_tab _ hi, ↓ixD_row _ hj, eM, oi_none]
          exact ⟨⟨_, _, rfl⟩, fin (by intro v hv; rw [eM] at hv; cases hv)⟩
        · simp_all_arith [↓ixD_tab _ hi, ↓ixD_row _ hj, eM, oi_some]
          refine Br_dec (fun h => ?_) (fun h => ?_)
          · simp_all_arith
            refine ⟨_, rfl, ?_⟩
            simp only [Bool.false_eq_true, false_iff]
            intro hh
            have := hh i j hi hj v eM
            simp only [gi, gj] at this
            omega
          · simp_all_arith
            exact ⟨⟨_, _, rfl⟩, fin (by intro w hw; rw [eM] at hw; cases hw; omega)⟩
      · rintro r ⟨⟨c, d, rfl⟩, hJ⟩
        simp_all_arith
        refine ⟨⟨_, _, _, _, rfl⟩, ?_⟩
        intro i' j h hj v ev
        by_cases hii : i' = i
        · subst hii
          exact hJ j hj v ev
        · exact hI i' j (by omega) hj v ev
    · rintro r ⟨⟨a, b, c, d, rfl⟩, hI⟩
      simp_all_arith
      exact ⟨_, rfl, by simp only [true_iff]; exact fun i j hi hj v ev => hI i j hi hj v ev⟩


/-- the bounds of a table's row, as far as a column -/
def rowB (es : List Str) (M : Mx) (i q : Nat) : List Bd := (List.range q).filterMap fun j => if i = j then none else (M i j).map fun v => (es.getD i E0, es.getD j E0, v)
def foundB (es : List Str) (M : Mx) (p : Nat) : List Bd := (List.range p).flatMap fun i => rowB es M i es.length
theorem rowB_succ (es : List Str) (M : Mx) (i q : Nat) : rowB es M i (q + 1) = rowB es M i q ++ (if i = q then none else (M i q).map fun v => (es.getD i E0, es.getD q E0, v)).toList := by
  simp only [rowB, List.range_succ, List.filterMap_append]
  congr 1
theorem foundB_succ (es : List Str) (M : Mx) (p : Nat) : foundB es M (p + 1) = foundB es M p ++ rowB es M p es.length := by
  simp only [foundB, List.range_succ, List.flatMap_append, List.flatMap_cons, List.flatMap_nil, List.append_nil]
theorem rowB_len (es : List Str) (M : Mx) (i q : Nat) : (rowB es M i q).length ≤ q := by
  have := List.length_filterMap_le (fun j => if i = j then none else (M i j).map fun v => (es.getD i E0, es.getD j E0, v)) (List.range q)
  simpa [rowB] using this
theorem foundB_len (es : List Str) (M : Mx) : ∀ p, (foundB es M p).length ≤ p * es.length
  | 0 => by simp [foundB]
  | p + 1 => by
    rw [foundB_succ, List.length_append, Nat.add_mul]
    have := foundB_len es M p
    have := rowB_len es M p es.length
    omega
/-- the list of the least bounds -/
def leastL (es : List Str) (t : Option Mx) : List D := match t with
  | none => [boundD (E0, E0, -1)]
  | some M => (bdsL (foundB es M es.length)).mergeSort leTri
theorem tri_bds (bs : List Bd) : (bdsL bs).all isTri = true := by simp [bdsL, boundD, isTri]
theorem is_tab' (n : Nat) (M : Mx) : isD (tabD n M) .non = some false := rfl
theorem oo_tab' (o : Bool) (n : Nat) (M : Mx) : objO (.tmp ⟨o, tabD n M⟩) = none := by cases o <;> rfl
theorem is_oi (v : Int) : isD (oi (some v)) .non = some false := rfl

theorem meth_lot {f : FS} (ns : List Str) (bs : List Bd) (ρ : Sl) (K : FS → D → Prop) (n1 : (f.name == Str.ofString "called") = false) (n2 : (f.name == Str.ofString "made_of") = false) (n3 : (f.name == Str.ofString "table") = false) : methK [(Str.ofString "Lot", f)] (.tmp ⟨false, lotD ns bs⟩) ρ K = K f (lotD ns bs) := by
  have e : lotD ns bs = .obj (Str.ofString "Lot") [(Str.ofString "called", .tup (strsL ns)), (Str.ofString "made_of", .tup (bdsL bs)), (Str.ofString "table", tabO (E0 :: ns).length (tabOf (E0 :: ns) bs))] := rfl
  have e1 : fnd [(Str.ofString "Lot", f)] (Str.ofString "Lot") = some f := by simp [fnd, List.lookup]
  rw [e, methK_obj, e1, opS_some]
  have e3 : (!(List.lookup f.name [(Str.ofString "called", D.tup (strsL ns)), (Str.ofString "made_of", D.tup (bdsL bs)), (Str.ofString "table", tabO (E0 :: ns).length (tabOf (E0 :: ns) bs))]).isSome) = true := by
    simp only [List.lookup, n1, n2, n3]
    rfl
  rw [e3, Gd_true]
/-- a dict whose keys are pairs of ends, by places -/
structure RepS (es : List Str) (kvs : List (List Key × D)) (G : Mx) : Prop where
  at_ : ∀ i j s t, es[i]? = some s → es[j]? = some t → look kvs [Sum.inr s, Sum.inr t] = (G i j).map D.int
  keys : ∀ p ∈ kvs, ∃ s t, s ∈ es ∧ t ∈ es ∧ p.1 = [Sum.inr s, Sum.inr t]
  nd : (kvs.map (·.1)).Nodup
theorem RepS.eqM {es : List Str} {kvs : List (List Key × D)} {G H : Mx} (h : RepS es kvs G) (e : ∀ a b, H a b = G a b) : RepS es kvs H :=
  ⟨fun i j s t h1 h2 => by rw [e]; exact h.at_ i j s t h1 h2, h.keys, h.nd⟩
theorem put_keys {κ : Type} [DecidableEq κ] (kvs : List (κ × D)) (k : κ) (v : D) : (put kvs k v).map (·.1) = if (kvs.any fun kv => decide (kv.1 = k)) = true then kvs.map (·.1) else kvs.map (·.1) ++ [k] := by
  simp only [put]
  split
  · rw [List.map_map]
    apply List.map_congr_left
    intro a _
    simp only [Function.comp_apply]
    split <;> simp_all
  · simp
theorem put_nodup {κ : Type} [DecidableEq κ] {kvs : List (κ × D)} (h : (kvs.map (·.1)).Nodup) (k : κ) (v : D) : ((put kvs k v).map (·.1)).Nodup := by
  rw [put_keys]
  split
  · exact h
  · rename_i hn
    rw [List.nodup_append]
    refine ⟨h, by simp, ?_⟩
    intro a ha b hb e
    simp only [List.mem_singleton] at hb
    subst hb
    subst e
    apply hn
    rw [List.mem_map] at ha
    obtain ⟨p, hp, e⟩ := ha
    exact List.any_eq_true.mpr ⟨p, hp, by simpa using e⟩
theorem put_mem {κ : Type} [DecidableEq κ] {kvs : List (κ × D)} {k : κ} {v : D} {p : κ × D} (h : p ∈ put kvs k v) : (∃ q ∈ kvs, q.1 = p.1) ∨ p.1 = k := by
  have : p.1 ∈ (put kvs k v).map (·.1) := List.mem_map_of_mem h
  rw [put_keys] at this
  split at this
  · rw [List.mem_map] at this
    exact .inl this
  · rw [List.mem_append, List.mem_map] at this
    rcases this with h | h
    · exact .inl h
    · exact .inr (by simpa using h)
theorem at_idx {es : List Str} {s : Str} (h : s ∈ es) : es[es.idxOf s]? = some s := by
  have := List.idxOf_lt_length_iff.mpr h
  rw [List.getElem?_eq_getElem this]
  simp
theorem RepS.put {es : List Str} {kvs : List (List Key × D)} {G : Mx} (hn : es.Nodup) (h : RepS es kvs G) {i j : Nat} {s t : Str} (hi : es[i]? = some s) (hj : es[j]? = some t) (v : Int) : RepS es (put kvs [Sum.inr s, Sum.inr t] (.int v)) (fun a b => if a = i ∧ b = j then some v else G a b) := by
  refine ⟨?_, ?_, put_nodup h.nd _ _⟩
  · intro a b x y ha hb
    rw [look_put]
    by_cases hab : a = i ∧ b = j
    · obtain ⟨rfl, rfl⟩ := hab
      rw [ha] at hi
      rw [hb] at hj
      cases hi
      cases hj
      simp
    · have hne : ¬ ([Sum.inr x, Sum.inr y] : List Key) = [Sum.inr s, Sum.inr t] := by
        intro e
        simp only [List.cons.injEq, Sum.inr.injEq, and_true] at e
        obtain ⟨rfl, rfl⟩ := e
        exact hab ⟨(idx_nodup hn ha).symm.trans (idx_nodup hn hi), (idx_nodup hn hb).symm.trans (idx_nodup hn hj)⟩
      rw [if_neg hne, if_neg hab]
      exact h.at_ a b x y ha hb
  · intro p hp
    rcases put_mem hp with ⟨q, hq, e⟩ | e
    · obtain ⟨x, y, h1, h2, h3⟩ := h.keys q hq
      exact ⟨x, y, h1, h2, e ▸ h3⟩
    · exact ⟨s, t, List.mem_of_getElem? hi, List.mem_of_getElem? hj, e⟩
def noneM : Mx := fun _ _ => none
/-- the table that the law begins with -/
def lawRows (es : List Str) (bs : List Bd) : List Bd := bs ++ es.map fun e => (e, e, 0)
def lawG (es : List Str) (bs : List Bd) : Mx := ((lawRows es bs).map (rowOf es)).foldl updM noneM
theorem upd_no {G : Mx} {r : Nat × Nat × Int} (h : lessO (some r.2.2) (G r.1 r.2.1) = false) : updM G r = G := by
  simp only [updM, h]
  rfl
theorem upd_yes {G : Mx} {r : Nat × Nat × Int} (h : lessO (some r.2.2) (G r.1 r.2.1) = true) : updM G r = fun a b => if a = r.1 ∧ b = r.2.1 then some r.2.2 else G a b := by
  simp only [updM, h]
  rfl
theorem dget_S (kvs : List (List Key × D)) (s t : Str) : dget (.dT kvs) (.tup [.str s, .str t]) = some (look kvs [Sum.inr s, Sum.inr t]) := rfl

theorem relax_no {G : Mx} {m i j : Nat} (h : tightO (G i j) (addO (G i m) (G m j)) = G i j) : ∀ a b, relaxM m G i j a b = G a b := by
  intro a b
  simp only [relaxM]
  split
  · rename_i h'
    obtain ⟨rfl, rfl⟩ := h'
    exact h
  · rfl
def rowQ (m i : Nat) : Mx → Nat → Mx := fun G j => relaxM m G i j
theorem rowP_eq (n m : Nat) (G : Mx) (i : Nat) : rowP n m G i = (List.range n).foldl (rowQ m i) G := rfl
theorem fold_succ {α : Type} (f : α → Nat → α) (x : α) (k : Nat) : (List.range (k + 1)).foldl f x = f ((List.range k).foldl f x) k := by
  rw [List.range_succ, List.foldl_append]
  rfl
theorem opt_int {o : Option Int} {v : Int} : (o.map D.int) = some (.int v) ↔ o = some v := by cases o <;> simp
theorem relax_body (es : List Str) (hn : es.Nodup) {L B : D} {G : Mx} {m i j : Nat} {em ei ej : Str} {kvs : List (List Key × D)} {c : Option T} (hm : es[m]? = some em) (hi : es[i]? = some ei) (hj : es[j]? = some ej) (hR : RepS es kvs G) (hk : kvs.length ≤ 999) :
    (execs [.ite (.and_ (.cmp .In [] (.tup [(.var 3), (.var 6)]) (.var 2)) (.cmp .In [] (.tup [(.var 6), (.var 4)]) (.var 2))) [ .set 5 (.bin .Add [] (.sub (.var 2) (.tup [(.var 3), (.var 6)])) (.sub (.var 2) (.tup [(.var 6), (.var 4)]))), .ite (.cmp .Lt [] (.var 5) (.bm .get2 (.var 2) [(.tup [(.var 3), (.var 4)]), (.bin .Add [] (.var 5) (.lit (.int 1)))])) [ .setIx 2 (.tup [(.var 3), (.var 4)]) (.var 5)] []] []] [some (sh L), some (sh B), some (own (.dT kvs)), some (sh (.str ei)), some (sh (.str ej)), c, some (sh (.str em)), none]).sat (fun f r2 => f = .next ∧ ∃ kvs2 c2, r2 = [some (sh L), some (sh B), some (own (.dT kvs2)), some (sh (.str ei)), some (sh (.str ej)), c2, some (sh (.str em)), none] ∧ RepS es kvs2 (relaxM m G i j) ∧ kvs2.length ≤ kvs.length + 1) NXS := by
  have him := hR.at_ _ _ _ _ hi hm
  have hmj := hR.at_ _ _ _ _ hm hj
  have hij := hR.at_ _ _ _ _ hi hj
  rcases e1 : G i m with _ | x
  · rw [e1] at him
    simp_all_arith [↓dget_S, him]
    exact ⟨trivial, _, _, rfl, hR.eqM (relax_no (by rw [e1]; simp [addO, tightO, lessO])), by omega⟩
  · rw [e1] at him
    rcases e2 : G m j with _ | y
    · rw [e2] at hmj
      simp_all_arith [↓dget_S, him, hmj]
      exact ⟨trivial, _, _, rfl, hR.eqM (relax_no (by rw [e2]; cases G i m <;> simp [addO, tightO, lessO])), by omega⟩
    · rw [e2] at hmj
      have ead : addO (G i m) (G m j) = some (x + y) := by rw [e1, e2]; rfl
      rcases e3 : G i j with _ | z
      · rw [e3] at hij
        have hd : decide (x + y < x + y + 1) = true := decide_eq_true (by omega)
        simp_all_arith [↓dget_S, him, hmj, hij, hd]
        refine ⟨trivial, _, _, rfl, (hR.put hn hi hj (x + y)).eqM ?_, ?_⟩
        · intro a b
          simp only [relaxM]
          split
          · rw [ead, e3]
            rfl
          · rfl
        · have := put_len kvs [Sum.inr ei, Sum.inr ej] (.int (x + y))
          omega
      · rw [e3] at hij
        simp_all_arith [↓dget_S, him, hmj, hij]
        refine Br_dec (fun hlt => ?_) (fun hlt => ?_)
        · simp_all_arith
          refine ⟨trivial, _, _, rfl, (hR.put hn hi hj (x + y)).eqM ?_, ?_⟩
          · intro a b
            simp only [relaxM]
            split
            · rw [ead, e3]
              simp [tightO, lessO, hlt]
            · rfl
          · have := put_len kvs [Sum.inr ei, Sum.inr ej] (.int (x + y))
            omega
        · simp_all_arith
          exact ⟨trivial, _, _, rfl, hR.eqM (relax_no (by rw [ead, e3]; simp [tightO, lessO, hlt])), by omega⟩
theorem upd_le {G : Mx} {r : Nat × Nat × Int} {a b : Nat} {v : Int} (h : Le (G a b) v) : Le (updM G r a b) v := by
  simp only [updM]
  split
  · rename_i hl
    show Le (if a = r.1 ∧ b = r.2.1 then some r.2.2 else G a b) v
    by_cases hab : a = r.1 ∧ b = r.2.1
    · obtain ⟨rfl, rfl⟩ := hab
      obtain ⟨c, e, hc⟩ := h
      refine ⟨r.2.2, if_pos ⟨rfl, rfl⟩, ?_⟩
      rw [e] at hl
      simp [lessO] at hl
      omega
    · rw [if_neg hab]
      exact h
  · exact h
theorem upd_this (G : Mx) (r : Nat × Nat × Int) : Le (updM G r r.1 r.2.1) r.2.2 := by
  simp only [updM]
  split
  · exact ⟨r.2.2, if_pos ⟨rfl, rfl⟩, Int.le_refl _⟩
  · rename_i hl
    rcases e : G r.1 r.2.1 with _ | w
    · rw [e] at hl
      simp [lessO] at hl
    · rw [e] at hl
      simp [lessO] at hl
      first | exact ⟨w, e, by omega⟩ | exact ⟨w, rfl, by omega⟩
theorem fold_upd_le : ∀ (rs : List (Nat × Nat × Int)) {G : Mx} {r : Nat × Nat × Int}, r ∈ rs → Le (rs.foldl updM G r.1 r.2.1) r.2.2
  | [], _, _, h => by simp at h
  | x :: rs, G, r, h => by
    rw [List.foldl_cons]
    rcases List.mem_cons.mp h with rfl | h
    · exact foldl_keep (P := fun G : Mx => Le (G r.1 r.2.1) r.2.2) (fun G i h => upd_le h) rs (upd_this G r)
    · exact fold_upd_le rs h
theorem lawG_dg {es : List Str} (hn : es.Nodup) (bs : List Bd) : ∀ i, i < es.length → Le (lawG es bs i i) 0 := by
  intro i hi
  have hm : ((i, i, 0) : Nat × Nat × Int) ∈ (lawRows es bs).map (rowOf es) := by
    rw [List.mem_map]
    refine ⟨(es[i], es[i], 0), ?_, ?_⟩
    · simp only [lawRows, List.mem_append, List.mem_map]
      exact .inr ⟨es[i], List.getElem_mem hi, rfl⟩
    · have := idx_nodup hn (i := i) (s := es[i]) (by simp [hi])
      simp only [rowOf, this]
  exact fold_upd_le _ hm
theorem lawM_dg {es : List Str} (hn : es.Nodup) (bs : List Bd) : ∀ i, i < es.length → Le (lawM es.length (lawG es bs) i i) 0 := fun i hi =>
  foldl_keep (P := fun G : Mx => Le (G i i) 0) (fun G m h => phase_le h) _ (lawG_dg hn bs i hi)
/-- a dict's entry as a bound -/
def entB (kv : List Key × D) : Bd := match kv with
  | ([.inr s, .inr t], .int v) => (s, t, v)
  | _ => (E0, E0, 0)
def isPair (kv : List Key × D) : Bool := match kv with
  | ([.inr s, .inr t], .int _) => true
  | _ => false
theorem isPair_is {kv : List Key × D} (h : isPair kv = true) : ∃ s t v, kv = ([.inr s, .inr t], .int v) := by
  unfold isPair at h
  split at h
  · exact ⟨_, _, _, rfl⟩
  · cases h
/-- the bounds of a dict, of unlike ends -/
def entsB (kvs : List (List Key × D)) : List Bd := (kvs.map entB).filter fun b => !decide (b.1 = b.2.1)
theorem look_mem {κ : Type} [DecidableEq κ] {kvs : List (κ × D)} (hn : (kvs.map (·.1)).Nodup) {p : κ × D} (h : p ∈ kvs) : look kvs p.1 = some p.2 := by
  induction kvs with
  | nil => cases h
  | cons a kvs ih =>
    rw [List.map_cons, List.nodup_cons] at hn
    rcases List.mem_cons.mp h with rfl | h
    · simp [look]
    · have hne : ¬ a.1 = p.1 := fun e => hn.1 (e ▸ List.mem_map_of_mem h)
      have := ih hn.2 h
      simp only [look, List.find?_cons, hne, decide_false] at this ⊢
      exact this

theorem tight_none (a : Option Int) : tightO a none = a := by cases a <;> rfl
theorem tight_none' (a : Option Int) : tightO none a = a := by cases a <;> rfl
theorem tight_some (a b : Int) : tightO (some a) (some b) = some (if b < a then b else a) := by
  simp only [tightO, lessO]
  by_cases h : b < a <;> simp [h]
theorem tight_comm (a b : Option Int) : tightO a b = tightO b a := by
  cases a <;> cases b <;> simp only [tight_none, tight_none', tight_some, Option.some.injEq]
  split <;> split <;> omega
theorem tight_assoc (a b c : Option Int) : tightO (tightO a b) c = tightO a (tightO b c) := by
  cases a <;> cases b <;> cases c <;> simp only [tight_none, tight_none', tight_some, Option.some.injEq]
  repeat' split
  all_goals omega
theorem updM_eq (G : Mx) (r : Nat × Nat × Int) (a b : Nat) : updM G r a b = if a = r.1 ∧ b = r.2.1 then tightO (G a b) (some r.2.2) else G a b := by
  simp only [updM, tightO]
  by_cases hab : a = r.1 ∧ b = r.2.1
  · obtain ⟨rfl, rfl⟩ := hab
    cases h : lessO (some r.2.2) (G r.1 r.2.1) <;> simp
  · cases h : lessO (some r.2.2) (G r.1 r.2.1) <;> simp [hab]
theorem fold_upd : ∀ (rs : List (Nat × Nat × Int)) (G : Mx) (a b : Nat), rs.foldl updM G a b = tightO (G a b) (rs.foldl updM noneM a b)
  | [], G, a, b => by simp [noneM, tight_none]
  | r :: rs, G, a, b => by
    rw [List.foldl_cons, List.foldl_cons, fold_upd rs (updM G r), fold_upd rs (updM noneM r), updM_eq, updM_eq]
    by_cases hab : a = r.1 ∧ b = r.2.1
    · simp only [hab, and_self, if_true]
      rw [tight_assoc]
      rfl
    · simp only [hab, if_false]
      rw [show noneM a b = none from rfl, tight_none']
theorem fold_diag : ∀ (l : List Nat) (a b : Nat), (l.map fun i => ((i, i, 0) : Nat × Nat × Int)).foldl updM noneM a b = if a = b ∧ a ∈ l then some 0 else none
  | [], a, b => by simp [noneM]
  | i :: l, a, b => by
    rw [List.map_cons, List.foldl_cons, fold_upd, fold_diag l, updM_eq]
    by_cases h1 : a = i ∧ b = i
    · obtain ⟨h1a, h1b⟩ := h1
      rw [h1a, h1b]
      by_cases h2 : i ∈ l <;> simp [h2, noneM, tight_none, tight_none', tight_some]
    · by_cases h2 : a = b ∧ a ∈ l
      · have hm : a = b ∧ a ∈ i :: l := ⟨h2.1, List.mem_cons_of_mem _ h2.2⟩
        rw [if_neg h1, if_pos h2, if_pos hm]
        rfl
      · have h3 : ¬ (a = b ∧ a ∈ i :: l) := by
          rintro ⟨h3, h4⟩
          rcases List.mem_cons.mp h4 with rfl | h4
          · exact h1 ⟨rfl, h3.symm⟩
          · exact h2 ⟨h3, h4⟩
        simp only [h1, h2, h3, if_false, noneM]
        rfl
theorem lawG_eq {es : List Str} (hn : es.Nodup) (bs : List Bd) : EqN es.length (lawG es bs) (tabM es.length (bs.map (rowOf es))) := by
  intro a b ha hb
  have e1 : (es.map fun e => ((e, e, 0) : Bd)).map (rowOf es) = (List.range es.length).map fun i => ((i, i, 0) : Nat × Nat × Int) := by
    apply List.ext_getElem
    · simp
    · intro i h1 h2
      have hi : i < es.length := by simpa using h1
      have := idx_nodup hn (i := i) (s := es[i]) (by simp [hi])
      simp [rowOf, this]
  simp only [lawG, lawRows, List.map_append, List.foldl_append, e1, tabM]
  rw [fold_upd _ (List.foldl updM noneM _), fold_diag, fold_upd _ (diagM es.length), tight_comm]
  congr 1
  simp only [diagM, List.mem_range]
theorem law_tab {es : List Str} (hn : es.Nodup) (bs : List Bd) : negD es.length (lawM es.length (lawG es bs)) = negD es.length (fwM es.length (tabM es.length (bs.map (rowOf es)))) ∧ (negD es.length (fwM es.length (tabM es.length (bs.map (rowOf es)))) = false → EqN es.length (lawM es.length (lawG es bs)) (fwM es.length (tabM es.length (bs.map (rowOf es))))) :=
  law_fw (lawG_eq hn bs) (lawG_dg hn bs)
/-! the order of triples -/
theorem ltS_ne {a b : Str} (h : a ≠ b) : ltS a b = !ltS b a := by
  have hne : a.cps.toList ≠ b.cps.toList := fun e => h (TL.ext_tl e)
  simp only [ltS]
  rw [lex_total (fun e => hne e)]
theorem leTri_anti {x y : D} (hx : isTri x = true) (hy : isTri y = true) (h1 : leTri x y = true) (h2 : leTri y x = true) : x = y := by
  obtain ⟨a1, a2, i, rfl⟩ := tri_is hx
  obtain ⟨b1, b2, j, rfl⟩ := tri_is hy
  simp only [leTri] at h1 h2
  by_cases e1 : a1 = b1
  · subst e1
    by_cases e2 : a2 = b2
    · subst e2
      simp at h1 h2
      have : i = j := by omega
      rw [this]
    · have e2' : ¬ b2 = a2 := fun e => e2 e.symm
      simp only [if_true, e2, e2', if_false] at h1 h2
      rw [ltS_ne e2, h2] at h1
      cases h1
  · have e1' : ¬ b1 = a1 := fun e => e1 e.symm
    simp only [e1, e1', if_false] at h1 h2
    rw [ltS_ne e1, h2] at h1
    cases h1

def leB (a b : Bd) : Bool := leTri (boundD a) (boundD b)
theorem leB_eq (a b : Bd) : leB a b = if a.1 = b.1 then if a.2.1 = b.2.1 then decide (a.2.2 ≤ b.2.2) else ltS a.2.1 b.2.1 else ltS a.1 b.1 := rfl
theorem ltS_trans {a b c : Str} (h1 : ltS a b = true) (h2 : ltS b c = true) : ltS a c = true := by
  simp only [ltS, decide_eq_true_eq] at *
  exact List.lt_trans h1 h2
theorem ltS_irr (a : Str) : ltS a a = false := by
  simp only [ltS, decide_eq_false_iff_not]
  exact List.lt_irrefl _
theorem leB_total (a b : Bd) : (leB a b || leB b a) = true := by
  rw [leB_eq, leB_eq]
  by_cases e1 : a.1 = b.1
  · by_cases e2 : a.2.1 = b.2.1
    · rw [if_pos e1, if_pos e2, if_pos e1.symm, if_pos e2.symm]
      simp only [Bool.or_eq_true, decide_eq_true_eq]
      omega
    · have e2' : ¬ b.2.1 = a.2.1 := fun e => e2 e.symm
      rw [if_pos e1, if_neg e2, if_pos e1.symm, if_neg e2', ltS_ne e2]
      cases ltS b.2.1 a.2.1 <;> rfl
  · have e1' : ¬ b.1 = a.1 := fun e => e1 e.symm
    rw [if_neg e1, if_neg e1', ltS_ne e1]
    cases ltS b.1 a.1 <;> rfl
theorem leB_trans (a b c : Bd) (h1 : leB a b = true) (h2 : leB b c = true) : leB a c = true := by
  rw [leB_eq] at *
  by_cases e1 : a.1 = b.1
  · by_cases e2 : b.1 = c.1
    · by_cases f1 : a.2.1 = b.2.1
      · by_cases f2 : b.2.1 = c.2.1
        · simp only [e1, e2, f1, f2, if_true, decide_eq_true_eq] at *
          omega
        · simp only [e1, e2, f1, f2, if_true, if_false] at *
          exact h2
      · by_cases f2 : b.2.1 = c.2.1
        · simp only [e1, e2, f1, if_true, if_false] at h1
          rw [f2] at f1 h1
          simp only [e1, e2, f1, if_true, if_false]
          exact h1
        · simp only [e1, e2, f1, f2, if_true, if_false] at h1 h2
          have h3 := ltS_trans h1 h2
          have f3 : ¬ a.2.1 = c.2.1 := fun e => by
            rw [e, ltS_irr] at h3
            cases h3
          simp only [e1, e2, f3, if_true, if_false]
          exact h3
    · rw [e1]
      simp only [e2, if_false] at h2 ⊢
      exact h2
  · by_cases e2 : b.1 = c.1
    · simp only [e1, if_false] at h1
      rw [e2] at e1 h1
      simp only [e1, if_false]
      exact h1
    · simp only [e1, e2, if_false] at h1 h2
      have h3 := ltS_trans h1 h2
      have f3 : ¬ a.1 = c.1 := fun e => by
        rw [e, ltS_irr] at h3
        cases h3
      simp only [f3, if_false]
      exact h3
theorem leB_anti {a b : Bd} (h1 : leB a b = true) (h2 : leB b a = true) : a = b := by
  have := leTri_anti (x := boundD a) (y := boundD b) rfl rfl h1 h2
  obtain ⟨a1, a2, a3⟩ := a
  obtain ⟨b1, b2, b3⟩ := b
  simp only [boundD, D.tup.injEq, List.cons.injEq, D.str.injEq, D.int.injEq, and_true] at this
  obtain ⟨rfl, rfl, rfl⟩ := this
  rfl
theorem perm_uniq : ∀ {l m : List Bd}, l.Pairwise (fun a b => leB a b = true) → m.Pairwise (fun a b => leB a b = true) → l.Perm m → l = m
  | [], m, _, _, h => (List.Perm.eq_nil h.symm).symm
  | x :: l, [], _, _, h => absurd h.length_eq (by simp)
  | x :: l, y :: m, hl, hm, h => by
    rw [List.pairwise_cons] at hl hm
    have e : x = y := by
      rcases List.mem_cons.mp (h.mem_iff.mp (List.mem_cons_self (a := x) (l := l))) with e | hx
      · exact e
      · rcases List.mem_cons.mp (h.mem_iff.mpr (List.mem_cons_self (a := y) (l := m))) with e | hy
        · exact e.symm
        · exact leB_anti (hl.1 y hy) (hm.1 x hx)
    subst e
    rw [perm_uniq hl.2 hm.2 h.cons_inv]
theorem sort_bds (l : List Bd) : (bdsL l).mergeSort leTri = bdsL (l.mergeSort leB) := (List.map_mergeSort (r := leB) (s := leTri) (f := boundD) (l := l) (fun a _ b _ => rfl)).symm
theorem sort_perm {l m : List Bd} (h : l.Perm m) : (bdsL l).mergeSort leTri = (bdsL m).mergeSort leTri := by
  rw [sort_bds, sort_bds]
  congr 1
  refine perm_uniq (List.pairwise_mergeSort leB_trans leB_total l) (List.pairwise_mergeSort leB_trans leB_total m) ?_
  exact ((List.mergeSort_perm l leB).trans h).trans (List.mergeSort_perm m leB).symm

/-- what a bound of a table is -/
def InM (es : List Str) (M : Mx) (b : Bd) : Prop := ∃ i j, es[i]? = some b.1 ∧ es[j]? = some b.2.1 ∧ i ≠ j ∧ M i j = some b.2.2
theorem at_lt {α : Type} {l : List α} {i : Nat} {x : α} (h : l[i]? = some x) : i < l.length := (List.getElem?_eq_some_iff.mp h).1
theorem at_getD {es : List Str} {i : Nat} (h : i < es.length) : es[i]? = some (es.getD i E0) := by simp [h]
theorem mem_found {es : List Str} {M : Mx} {b : Bd} : b ∈ foundB es M es.length ↔ InM es M b := by
  simp only [foundB, rowB, List.mem_flatMap, List.mem_filterMap, List.mem_range]
  constructor
  · rintro ⟨i, hi, j, hj, h⟩
    split at h
    · cases h
    · rename_i hij
      rw [Option.map_eq_some_iff] at h
      obtain ⟨v, e, rfl⟩ := h
      exact ⟨i, j, at_getD hi, at_getD hj, hij, e⟩
  · rintro ⟨i, j, h1, h2, hij, e⟩
    refine ⟨i, at_lt h1, j, at_lt h2, ?_⟩
    rw [if_neg hij, e]
    have g1 : es.getD i E0 = b.1 := by simp [h1]
    have g2 : es.getD j E0 = b.2.1 := by simp [h2]
    rw [g1, g2]
    rfl
theorem look_in {κ : Type} [DecidableEq κ] {kvs : List (κ × D)} {k : κ} {v : D} (h : look kvs k = some v) : (k, v) ∈ kvs := by
  simp only [look, Option.map_eq_some_iff] at h
  obtain ⟨p, h1, rfl⟩ := h
  have h2 := List.mem_of_find?_eq_some h1
  have h3 := List.find?_some h1
  have h4 : p.1 = k := of_decide_eq_true h3
  rw [← h4]
  exact h2
theorem rep_pair {es : List Str} {kvs : List (List Key × D)} {G : Mx} (h : RepS es kvs G) : ∀ p ∈ kvs, ∃ s t v, p = ([.inr s, .inr t], .int v) ∧ s ∈ es ∧ t ∈ es ∧ G (es.idxOf s) (es.idxOf t) = some v := by
  rintro ⟨k, d⟩ hp
  obtain ⟨s, t, hs, ht, e⟩ := h.keys _ hp
  have hl := look_mem h.nd hp
  simp only at e hl
  subst e
  rw [h.at_ _ _ _ _ (at_idx hs) (at_idx ht), Option.map_eq_some_iff] at hl
  obtain ⟨v, ev, rfl⟩ := hl
  exact ⟨s, t, v, rfl, hs, ht, ev⟩
theorem mem_ents {es : List Str} {kvs : List (List Key × D)} {G : Mx} (hn : es.Nodup) (h : RepS es kvs G) {b : Bd} : b ∈ entsB kvs ↔ InM es G b := by
  simp only [entsB, List.mem_filter, List.mem_map]
  constructor
  · rintro ⟨⟨p, hp, rfl⟩, hne⟩
    obtain ⟨s, t, v, rfl, hs, ht, ev⟩ := rep_pair h p hp
    have hne : ¬ s = t := fun e => by
      subst e
      simp [entB] at hne
    refine ⟨es.idxOf s, es.idxOf t, at_idx hs, at_idx ht, fun e => hne ?_, ev⟩
    have h1 := at_idx hs
    rw [e, at_idx ht] at h1
    cases h1
    rfl
  · rintro ⟨i, j, h1, h2, hij, e⟩
    have hl := h.at_ i j _ _ h1 h2
    rw [e] at hl
    refine ⟨⟨_, look_in hl, rfl⟩, ?_⟩
    have : ¬ b.1 = b.2.1 := fun e => hij (by
      rw [e] at h1
      exact (idx_nodup hn h1).symm.trans (idx_nodup hn h2))
    simpa using this
theorem nodup_ents {es : List Str} {kvs : List (List Key × D)} {G : Mx} (h : RepS es kvs G) : (entsB kvs).Nodup := by
  have h1 : (kvs.map entB).Nodup := by
    refine List.pairwise_map.mpr ?_
    have hp := List.pairwise_map.mp h.nd
    refine List.Pairwise.imp_of_mem ?_ hp
    intro p q hpm hqm hne e
    obtain ⟨s, t, v, rfl, _⟩ := rep_pair h p hpm
    obtain ⟨s', t', v', rfl, _⟩ := rep_pair h q hqm
    simp only [entB, Prod.mk.injEq] at e
    obtain ⟨rfl, rfl, rfl⟩ := e
    exact hne rfl
  exact h1.filter _
theorem nodup_found {es : List Str} (hn : es.Nodup) (M : Mx) : (foundB es M es.length).Nodup := by
  have row : ∀ i j b, (if i = j then none else (M i j).map fun v => ((es.getD i E0, es.getD j E0, v) : Bd)) = some b → b.1 = es.getD i E0 ∧ b.2.1 = es.getD j E0 := by
    intro i j b h
    split at h
    · cases h
    · rw [Option.map_eq_some_iff] at h
      obtain ⟨v, _, rfl⟩ := h
      exact ⟨rfl, rfl⟩
  have inj : ∀ i j, i < es.length → j < es.length → es.getD i E0 = es.getD j E0 → i = j := fun i j hi hj e => by
    have h1 := at_getD hi
    rw [e] at h1
    exact (idx_nodup hn h1).symm.trans (idx_nodup hn (at_getD hj))
  refine List.pairwise_flatMap.mpr ⟨?_, ?_⟩
  · intro i hi
    refine List.pairwise_filterMap.mpr ?_
    refine List.Pairwise.imp_of_mem ?_ (List.nodup_range (n := es.length))
    intro j k hj hk hne b hb b' hb' e
    subst e
    have h1 := (row i j b hb).2
    have h2 := (row i k b hb').2
    exact hne (inj j k (List.mem_range.mp hj) (List.mem_range.mp hk) (h1.symm.trans h2))
  · refine List.Pairwise.imp_of_mem ?_ (List.nodup_range (n := es.length))
    intro i k hi hk hne b hb b' hb' e
    subst e
    simp only [rowB, List.mem_filterMap] at hb hb'
    obtain ⟨j, _, hj⟩ := hb
    obtain ⟨j', _, hj'⟩ := hb'
    exact hne (inj i k (List.mem_range.mp hi) (List.mem_range.mp hk) ((row i j b hj).1.symm.trans (row k j' b hj').1))
theorem found_ents {es : List Str} {kvs : List (List Key × D)} {G M : Mx} (hn : es.Nodup) (h : RepS es kvs G) (e : EqN es.length G M) : (bdsL (entsB kvs)).mergeSort leTri = leastL es (some M) := by
  refine sort_perm ((List.perm_ext_iff_of_nodup (nodup_ents h) (nodup_found hn M)).mpr fun b => ?_)
  rw [mem_ents hn h, mem_found]
  constructor
  · rintro ⟨i, j, h1, h2, h3, h4⟩
    exact ⟨i, j, h1, h2, h3, (e i j (at_lt h1) (at_lt h2)).symm.trans h4⟩
  · rintro ⟨i, j, h1, h2, h3, h4⟩
    exact ⟨i, j, h1, h2, h3, (e i j (at_lt h1) (at_lt h2)).trans h4⟩

/-- the least bounds as bounds -/
def leastB (es : List Str) (t : Option Mx) : List Bd := match t with
  | none => [(E0, E0, -1)]
  | some M => (foundB es M es.length).mergeSort leB
theorem leastL_eq (es : List Str) (t : Option Mx) : leastL es t = bdsL (leastB es t) := by
  cases t with
  | none => rfl
  | some M => exact sort_bds _
theorem foundB_eq {es : List Str} {M N : Mx} (e : EqN es.length M N) : foundB es M es.length = foundB es N es.length := by
  have row : ∀ i, i < es.length → rowB es M i es.length = rowB es N i es.length := by
    intro i hi
    have : ∀ q, q ≤ es.length → rowB es M i q = rowB es N i q := by
      intro q
      induction q with
      | zero => intro _; rfl
      | succ q ih =>
        intro hq
        rw [rowB_succ, rowB_succ, ih (by omega), e i q hi (by omega)]
    exact this _ (Nat.le_refl _)
  have : ∀ p, p ≤ es.length → foundB es M p = foundB es N p := by
    intro p
    induction p with
    | zero => intro _; rfl
    | succ p ih =>
      intro hp
      rw [foundB_succ, foundB_succ, ih (by omega), row p (by omega)]
  exact this _ (Nat.le_refl _)
theorem leastB_mem {es : List Str} {M : Mx} {b : Bd} : b ∈ leastB es (some M) ↔ InM es M b := by
  rw [← mem_found]
  exact (List.mergeSort_perm _ leB).mem_iff
theorem upd_at (rs : List (Nat × Nat × Int)) (a b : Nat) (v : Int) (h1 : (a, b, v) ∈ rs) (h2 : ∀ w, (a, b, w) ∈ rs → w = v) : rs.foldl updM noneM a b = some v := by
  induction rs with
  | nil => cases h1
  | cons r rs ih =>
    rw [List.foldl_cons, fold_upd, updM_eq]
    by_cases hab : a = r.1 ∧ b = r.2.1
    · have hv : r.2.2 = v := h2 _ (by
        obtain ⟨rfl, rfl⟩ := hab
        exact List.mem_cons_self ..)
      rw [if_pos hab, hv]
      by_cases hm : (a, b, v) ∈ rs
      · rw [ih hm (fun w hw => h2 w (List.mem_cons_of_mem _ hw))]
        simp [noneM, tight_none', tight_some]
      · have : rs.foldl updM noneM a b = none := by
          have key : ∀ (l : List (Nat × Nat × Int)), (∀ w, (a, b, w) ∉ l) → l.foldl updM noneM a b = none := by
            intro l
            induction l with
            | nil => intro _; rfl
            | cons x l ih2 =>
              intro hl
              rw [List.foldl_cons, fold_upd, updM_eq, ih2 (fun w hw => hl w (List.mem_cons_of_mem _ hw)), tight_none]
              rw [if_neg]
              · rfl
              · rintro ⟨e1, e2⟩
                exact hl x.2.2 (by rw [e1, e2]; exact List.mem_cons_self ..)
          refine key rs fun w hw => ?_
          have := h2 w (List.mem_cons_of_mem _ hw)
          subst this
          exact hm hw
        rw [this]
        simp [noneM, tight_none, tight_none']
    · rw [if_neg hab]
      have hm : (a, b, v) ∈ rs := by
        rcases List.mem_cons.mp h1 with rfl | hm
        · exact absurd ⟨rfl, rfl⟩ hab
        · exact hm
      rw [ih hm (fun w hw => h2 w (List.mem_cons_of_mem _ hw))]
      rfl
theorem upd_no_at (a b : Nat) : ∀ (l : List (Nat × Nat × Int)), (∀ w, (a, b, w) ∉ l) → l.foldl updM noneM a b = none
  | [], _ => rfl
  | x :: l, hl => by
    rw [List.foldl_cons, fold_upd, updM_eq, upd_no_at a b l (fun w hw => hl w (List.mem_cons_of_mem _ hw)), tight_none]
    rw [if_neg]
    · rfl
    · rintro ⟨e1, e2⟩
      exact hl x.2.2 (by rw [e1, e2]; exact List.mem_cons_self ..)
theorem least_rows {es : List Str} (hn : es.Nodup) {M : Mx} {a b : Nat} {v : Int} (ha : a < es.length) (hb : b < es.length) : (a, b, v) ∈ (leastB es (some M)).map (rowOf es) ↔ a ≠ b ∧ M a b = some v := by
  rw [List.mem_map]
  constructor
  · rintro ⟨x, hx, e⟩
    obtain ⟨i, j, h1, h2, h3, h4⟩ := leastB_mem.mp hx
    simp only [rowOf, Prod.mk.injEq, idx_nodup hn h1, idx_nodup hn h2] at e
    obtain ⟨rfl, rfl, rfl⟩ := e
    exact ⟨h3, h4⟩
  · rintro ⟨h1, h2⟩
    refine ⟨(es.getD a E0, es.getD b E0, v), leastB_mem.mpr ⟨a, b, at_getD ha, at_getD hb, h1, h2⟩, ?_⟩
    simp only [rowOf, idx_nodup hn (at_getD ha), idx_nodup hn (at_getD hb)]
theorem again_tab {es : List Str} (hn : es.Nodup) {M : Mx} (hc : Closed es.length M) : EqN es.length (tabM es.length ((leastB es (some M)).map (rowOf es))) M := by
  intro a b ha hb
  simp only [tabM]
  rw [fold_upd]
  by_cases hab : a = b
  · subst hab
    rw [upd_no_at a a _ (fun w hw => ((least_rows hn ha ha).mp hw).1 rfl), tight_none, hc.dg a ha]
    simp [diagM, ha]
  · have hd : diagM es.length a b = none := by simp [diagM, hab]
    rw [hd, tight_none']
    rcases e : M a b with _ | v
    · refine upd_no_at a b _ fun w hw => ?_
      have := ((least_rows hn ha hb).mp hw).2
      rw [e] at this
      cases this
    · refine upd_at _ a b v ((least_rows hn ha hb).mpr ⟨hab, e⟩) fun w hw => ?_
      have := ((least_rows hn ha hb).mp hw).2
      rw [e] at this
      cases this
      rfl
theorem tab_dg0 {es : List Str} (hn : es.Nodup) (bs : List Bd) : ∀ i, i < es.length → Le (tabM es.length (bs.map (rowOf es)) i i) 0 := fun i hi => by
  rw [← lawG_eq hn bs i i hi hi]
  exact lawG_dg hn bs i hi
theorem tabOf_some {es : List Str} (hn : es.Nodup) {bs : List Bd} {M : Mx} (h : tabOf es bs = some M) : Closed es.length M := by
  simp only [tabOf, closedM] at h
  split at h
  · cases h
  · rename_i hneg
    cases h
    exact fw_closed (tab_dg0 hn bs) (by simpa using hneg)
/-- the lot of the least bounds has the same ones -/
theorem again_ok {es : List Str} (hn : es.Nodup) (h0 : es[0]? = some E0) (bs : List Bd) : leastL es (tabOf es (leastB es (tabOf es bs))) = leastL es (tabOf es bs) := by
  rcases e : tabOf es bs with _ | M
  · have hr : ((0, 0, -1) : Nat × Nat × Int) ∈ (leastB es none).map (rowOf es) := by
      have := idx_nodup hn h0
      simp [leastB, rowOf, this]
    have h1 := fold_upd_le ((leastB es none).map (rowOf es)) (G := diagM es.length) hr
    obtain ⟨c, ec, hc⟩ := h1
    obtain ⟨w, ew, hw⟩ := fold_le (n := es.length) (List.range es.length) (tabM es.length ((leastB es none).map (rowOf es))) (i := 0) (j := 0) ec
    have hneg : negD es.length (fwM es.length (tabM es.length ((leastB es none).map (rowOf es)))) = true := neg_iff.mpr ⟨0, w, at_lt h0, ew, by
      have hc : c ≤ -1 := hc
      omega⟩
    have : tabOf es (leastB es none) = none := by
      simp only [tabOf, closedM, hneg, if_true]
    rw [this]
  · have hc := tabOf_some hn e
    have h1 := closed_fw hc (again_tab hn hc)
    have hneg : negD es.length (fwM es.length (tabM es.length ((leastB es (some M)).map (rowOf es)))) = false := h1.neg.trans (closed_neg hc)
    have : tabOf es (leastB es (some M)) = some (fwM es.length (tabM es.length ((leastB es (some M)).map (rowOf es)))) := by
      simp only [tabOf, closedM, hneg]
      rfl
    rw [this]
    simp only [leastL]
    rw [foundB_eq h1]
/-- the least bounds are bounds -/
theorem leastB_ok {es : List Str} (h0 : es[0]? = some E0) (h4 : es.length ≤ 4) (t : Option Mx) : (leastB es t).length ≤ 50 ∧ ∀ b ∈ leastB es t, b.1 ∈ es ∧ b.2.1 ∈ es := by
  cases t with
  | none =>
    refine ⟨by simp [leastB], fun b hb => ?_⟩
    simp only [leastB, List.mem_singleton] at hb
    subst hb
    exact ⟨List.mem_of_getElem? h0, List.mem_of_getElem? h0⟩
  | some M =>
    refine ⟨?_, fun b hb => ?_⟩
    · simp only [leastB, List.length_mergeSort]
      have h1 := foundB_len es M es.length
      have h3 : es.length * es.length ≤ 4 * 4 := Nat.mul_le_mul h4 h4
      omega
    · obtain ⟨i, j, h1, h2, _⟩ := leastB_mem.mp hb
      exact ⟨List.mem_of_getElem? h1, List.mem_of_getElem? h2⟩
theorem diag_closed (n : Nat) : Closed n (diagM n) := by
  refine ⟨fun m i j hm hi hj a b ea eb => ?_, fun i hi => by simp [diagM, hi]⟩
  simp only [diagM] at ea eb ⊢
  split at ea
  · split at eb
    · rename_i x1 x2
      cases ea
      cases eb
      refine ⟨0, ?_, by decide⟩
      rw [if_pos ⟨x1.1.trans x2.1, hi⟩]
    · cases eb
  · cases ea
theorem least_nil (es : List Str) : leastL es (tabOf es []) = [] := by
  have h1 := closed_fw (diag_closed es.length) (EqN.refl es.length (diagM es.length))
  have hneg : negD es.length (fwM es.length (diagM es.length)) = false := h1.neg.trans (closed_neg (diag_closed es.length))
  have : tabOf es [] = some (fwM es.length (diagM es.length)) := by
    show closedM es.length (diagM es.length) = _
    simp only [closedM, hneg]
    rfl
  rw [this]
  have h2 : foundB es (fwM es.length (diagM es.length)) es.length = [] := by
    rw [foundB_eq h1]
    apply List.eq_nil_iff_forall_not_mem.mpr
    intro b hb
    obtain ⟨i, j, _, _, hij, e⟩ := mem_found.mp hb
    simp [diagM, hij] at e
  simp only [leastL, h2]
  show List.mergeSort [] leTri = []
  simp

def BM (n : Nat) (c : Int) (M : Mx) : Prop := ∀ i j, i < n → j < n → ∀ v, M i j = some v → -c ≤ v ∧ v ≤ c
theorem BM.step {n : Nat} {c : Int} {M : Mx} (h : BM n c M) (h0 : 0 ≤ c) {k : Nat} (hk : k < n) : BM n (2 * c) (stepM M k) := by
  intro i j hi hj v e
  rcases step_cases e with e | ⟨x, y, e1, e2, rfl⟩
  · have := h i j hi hj v e
    omega
  · have := h i k hi hk x e1
    have := h k j hk hj y e2
    omega
theorem BM.fold {n : Nat} : ∀ (ks : List Nat) {c : Int} {M : Mx}, BM n c M → 0 ≤ c → (∀ k ∈ ks, k < n) → BM n (2 ^ ks.length * c) (ks.foldl stepM M)
  | [], c, M, h, _, _ => by simpa using h
  | k :: ks, c, M, h, h0, hk => by
    have := BM.fold ks (h.step h0 (hk k (by simp))) (by omega) (fun z hz => hk z (by simp [hz]))
    rw [List.foldl_cons, List.length_cons, Int.pow_succ]
    have e : (2 : Int) ^ ks.length * 2 * c = 2 ^ ks.length * (2 * c) := Int.mul_assoc _ _ _
    rw [e]
    exact this
theorem BM_upd {n : Nat} {c : Int} {M : Mx} (h : BM n c M) {r : Nat × Nat × Int} (hr : -c ≤ r.2.2 ∧ r.2.2 ≤ c) : BM n c (updM M r) := by
  intro i j hi hj v e
  rw [updM_eq] at e
  split at e
  · rcases tight_or (M i j) (some r.2.2) with h' | h'
    · exact h i j hi hj v (h'.symm.trans e)
    · rw [h'] at e
      cases e
      exact hr
  · exact h i j hi hj v e
theorem BM_tab {n : Nat} {c : Int} (h0 : 0 ≤ c) {rs : List (Nat × Nat × Int)} (hr : ∀ r ∈ rs, -c ≤ r.2.2 ∧ r.2.2 ≤ c) : BM n c (tabM n rs) := by
  have key : ∀ (rs : List (Nat × Nat × Int)) (M : Mx), (∀ r ∈ rs, -c ≤ r.2.2 ∧ r.2.2 ≤ c) → BM n c M → BM n c (rs.foldl updM M) := by
    intro rs
    induction rs with
    | nil => exact fun _ _ h => h
    | cons r rs ih => exact fun M hr h => ih _ (fun z hz => hr z (by simp [hz])) (BM_upd h (hr r (by simp)))
  refine key rs _ hr fun i j hi hj v e => ?_
  simp only [diagM] at e
  split at e
  · cases e
    omega
  · cases e
theorem leastB_small {es : List Str} {bs : List Bd} (h4 : es.length ≤ 4) (hb : ∀ b ∈ bs, -(10 ^ 60) ≤ b.2.2 ∧ b.2.2 ≤ 10 ^ 60) : ∀ b ∈ leastB es (tabOf es bs), b.2.2.natAbs ≤ 10 ^ 200 := by
  intro b hm
  rcases e : tabOf es bs with _ | M
  · rw [e] at hm
    simp only [leastB, List.mem_singleton] at hm
    subst hm
    decide +kernel
  · rw [e] at hm
    obtain ⟨i, j, h1, h2, _, hv⟩ := leastB_mem.mp hm
    simp only [tabOf, closedM] at e
    split at e
    · cases e
    · cases e
      have hB := BM.fold (n := es.length) (List.range es.length) (BM_tab (n := es.length) (c := 10 ^ 60) (by decide +kernel) (rs := bs.map (rowOf es)) (by
        intro r hr
        rw [List.mem_map] at hr
        obtain ⟨x, hx, rfl⟩ := hr
        exact hb x hx)) (by decide +kernel) (fun k hk => List.mem_range.mp hk) i j (at_lt h1) (at_lt h2) _ hv
      rw [List.length_range] at hB
      have hp : (2 : Int) ^ es.length ≤ 16 := by
        have : es.length = 0 ∨ es.length = 1 ∨ es.length = 2 ∨ es.length = 3 ∨ es.length = 4 := by omega
        rcases this with h | h | h | h | h <;> rw [h] <;> decide
      have hp2 : (2 : Int) ^ es.length * 10 ^ 60 ≤ 16 * 10 ^ 60 := Int.mul_le_mul_of_nonneg_right hp (by decide +kernel)
      generalize (2 : Int) ^ es.length * 10 ^ 60 = q at *
      omega
theorem Sh_bound {es : List Str} (he : ∀ s ∈ es, PyData.strOk s = true ∧ s.length ≤ 8) {b : Bd} (h1 : b.1 ∈ es) (h2 : b.2.1 ∈ es) (h3 : b.2.2.natAbs ≤ 10 ^ 200) : Sh 49 5772 (boundD b) := by
  have := Sh_tup (k := 48) (b := 1921) (xs := [.str b.1, .str b.2.1, .int b.2.2]) (by
    intro x hx
    simp only [List.mem_cons, List.not_mem_nil, or_false] at hx
    rcases hx with rfl | rfl | rfl
    · exact (Sh_str (he _ h1).1 (he _ h1).2).mono (by decide)
    · exact (Sh_str (he _ h2).1 (he _ h2).2).mono (by decide)
    · exact Sh_int h3)
  exact this.mono (by simp)
theorem Sh_bds {es : List Str} (he : ∀ s ∈ es, PyData.strOk s = true ∧ s.length ≤ 8) {bs : List Bd} (hl : bs.length ≤ 50) (hb : ∀ b ∈ bs, b.1 ∈ es ∧ b.2.1 ∈ es ∧ b.2.2.natAbs ≤ 10 ^ 200) : Sh 50 300000 (.lst (bdsL bs)) ∧ Sh 50 300000 (.tup (bdsL bs)) := by
  have h : ∀ x ∈ bdsL bs, Sh 49 5772 x := by
    intro x hx
    simp only [bdsL, List.mem_map] at hx
    obtain ⟨b, hb', rfl⟩ := hx
    exact Sh_bound he (hb b hb').1 (hb b hb').2.1 (hb b hb').2.2
  refine ⟨(Sh_lst h).mono ?_, (Sh_tup h).mono ?_⟩ <;> (rw [bdsL_len]; omega)

/-- what bounds say of numbers, by places -/
def KeepF (es : List Str) (φ : Nat → Int) (bs : List Bd) : Prop := ∀ b ∈ bs, φ (es.idxOf b.1) - φ (es.idxOf b.2.1) ≤ b.2.2
def inE (es : List Str) (bs : List Bd) : Prop := ∀ b ∈ bs, b.1 ∈ es ∧ b.2.1 ∈ es
theorem keepF_app {es : List Str} {φ : Nat → Int} {a b : List Bd} : KeepF es φ (a ++ b) ↔ KeepF es φ a ∧ KeepF es φ b := by
  simp only [KeepF, List.mem_append]
  exact ⟨fun h => ⟨fun x hx => h x (.inl hx), fun x hx => h x (.inr hx)⟩, fun h x hx => hx.elim (h.1 x) (h.2 x)⟩
theorem keepF_one {es : List Str} {φ : Nat → Int} {b : Bd} : KeepF es φ [b] ↔ φ (es.idxOf b.1) - φ (es.idxOf b.2.1) ≤ b.2.2 := by simp [KeepF]
theorem keepF_congr {es : List Str} {φ ψ : Nat → Int} {bs : List Bd} (hb : inE es bs) (h : ∀ i, i < es.length → φ i = ψ i) : KeepF es φ bs ↔ KeepF es ψ bs := by
  have key : ∀ b ∈ bs, φ (es.idxOf b.1) - φ (es.idxOf b.2.1) = ψ (es.idxOf b.1) - ψ (es.idxOf b.2.1) := fun b hm => by
    rw [h _ (List.idxOf_lt_length_iff.mpr (hb b hm).1), h _ (List.idxOf_lt_length_iff.mpr (hb b hm).2)]
  exact ⟨fun g b hm => by rw [← key b hm]; exact g b hm, fun g b hm => by rw [key b hm]; exact g b hm⟩
theorem rows_in {es : List Str} {bs : List Bd} (hb : inE es bs) : ∀ r ∈ bs.map (rowOf es), r.1 < es.length ∧ r.2.1 < es.length := by
  intro r hr
  rw [List.mem_map] at hr
  obtain ⟨b, hbm, rfl⟩ := hr
  exact ⟨List.idxOf_lt_length_iff.mpr (hb b hbm).1, List.idxOf_lt_length_iff.mpr (hb b hbm).2⟩
theorem keepF_tab {es : List Str} {bs : List Bd} (hb : inE es bs) {φ : Nat → Int} : Holds es.length (tabM es.length (bs.map (rowOf es))) φ ↔ KeepF es φ bs := by
  rw [tab_holds (rows_in hb)]
  simp only [List.forall_mem_map]
  rfl
theorem tab_keep {es : List Str} {bs : List Bd} (hb : inE es bs) {M : Mx} (e : tabOf es bs = some M) {φ : Nat → Int} : Holds es.length M φ ↔ KeepF es φ bs := (closed_some e).trans (keepF_tab hb)
theorem tab_no {es : List Str} {bs : List Bd} (hb : inE es bs) (e : tabOf es bs = none) {φ : Nat → Int} : ¬ KeepF es φ bs := fun h => closed_none e ((keepF_tab hb).mpr h)
theorem tab_yes {es : List Str} {bs : List Bd} (hb : inE es bs) {φ : Nat → Int} (h : KeepF es φ bs) : ∃ M, tabOf es bs = some M := by
  rcases e : tabOf es bs with _ | M
  · exact absurd h (tab_no hb e)
  · exact ⟨M, rfl⟩
theorem rowD_congr {n : Nat} {f g : Nat → Option Int} (h : ∀ j, j < n → f j = g j) : rowD n f = rowD n g := by
  simp only [rowD]
  congr 1
  exact List.map_congr_left fun j hj => by rw [h j (List.mem_range.mp hj)]
theorem tabD_congr {n : Nat} {M N : Mx} (h : EqN n M N) : tabD n M = tabD n N := by
  simp only [tabD]
  congr 1
  exact List.map_congr_left fun i hi => rowD_congr fun j hj => h i j (List.mem_range.mp hi) hj
/-- tables of the same states -/
def tabEq (n : Nat) : Option Mx → Option Mx → Prop
  | none, none => True
  | some M, some N => EqN n M N
  | _, _ => False
theorem tabEq_D {n : Nat} {t u : Option Mx} (h : tabEq n t u) : tabO n t = tabO n u := by
  cases t <;> cases u <;> first | rfl | exact h.elim | exact tabD_congr h
theorem tabEq_L {es : List Str} {t u : Option Mx} (h : tabEq es.length t u) : leastB es t = leastB es u := by
  cases t <;> cases u <;> first | rfl | exact h.elim | (simp only [leastB]; rw [foundB_eq h])
theorem tab_ext {es : List Str} (hn : es.Nodup) {a b : List Bd} (ha : inE es a) (hb : inE es b) (h : ∀ φ, KeepF es φ a ↔ KeepF es φ b) : tabEq es.length (tabOf es a) (tabOf es b) := by
  rcases e1 : tabOf es a with _ | M <;> rcases e2 : tabOf es b with _ | N
  · trivial
  · obtain ⟨φ, hp⟩ := closed_has (tabOf_some hn e2)
    exact tab_no ha e1 ((h φ).mpr ((tab_keep hb e2).mp hp))
  · obtain ⟨φ, hp⟩ := closed_has (tabOf_some hn e1)
    exact tab_no hb e2 ((h φ).mp ((tab_keep ha e1).mp hp))
  · exact closed_uniq (tabOf_some hn e1) (tabOf_some hn e2) fun φ => (tab_keep ha e1).trans ((h φ).trans (tab_keep hb e2).symm)
/-- the bounds of a table say the same -/
theorem least_keep {es : List Str} (hn : es.Nodup) {M : Mx} (hc : Closed es.length M) {φ : Nat → Int} : KeepF es φ (leastB es (some M)) ↔ Holds es.length M φ := by
  constructor
  · intro h i j hi hj v e
    by_cases hij : i = j
    · subst hij
      rw [hc.dg i hi] at e
      cases e
      omega
    · have h1 := at_getD hi
      have h2 := at_getD hj
      have := h (es.getD i E0, es.getD j E0, v) (leastB_mem.mpr ⟨i, j, h1, h2, hij, e⟩)
      simp only [idx_nodup hn h1, idx_nodup hn h2] at this
      exact this
  · intro h b hb
    obtain ⟨i, j, h1, h2, hij, e⟩ := leastB_mem.mp hb
    rw [idx_nodup hn h1, idx_nodup hn h2]
    exact h i j (at_lt h1) (at_lt h2) _ e
/-- the table of two -/
def metT (n : Nat) : Option Mx → Option Mx → Option Mx
  | some M, some N => closedM n (metM M N)
  | _, _ => none
def metB (es : List Str) (a b : List Bd) : List Bd := leastB es (metT es.length (tabOf es a) (tabOf es b))
theorem metT_closed {es : List Str} (hn : es.Nodup) {a b : List Bd} {M : Mx} (e : metT es.length (tabOf es a) (tabOf es b) = some M) : Closed es.length M := by
  rcases e1 : tabOf es a with _ | P <;> rcases e2 : tabOf es b with _ | N <;> rw [e1, e2] at e <;> first | (cases e; done) | skip
  simp only [metT, closedM] at e
  split at e
  · cases e
  · rename_i hneg
    cases e
    exact fw_closed (met_dg fun i hi => ⟨0, (tabOf_some hn e2).dg i hi, Int.le_refl _⟩) (by simpa using hneg)
theorem none_keep {es : List Str} {φ : Nat → Int} : ¬ KeepF es φ (leastB es none) := by
  intro h
  have := h (E0, E0, -1) (by simp [leastB])
  simp only at this
  omega
theorem metB_keep {es : List Str} (hn : es.Nodup) {a b : List Bd} (ha : inE es a) (hb : inE es b) {φ : Nat → Int} : KeepF es φ (metB es a b) ↔ KeepF es φ a ∧ KeepF es φ b := by
  simp only [metB]
  rcases e1 : tabOf es a with _ | M
  · constructor
    · intro h
      exact absurd h none_keep
    · intro h
      exact absurd h.1 (tab_no ha e1)
  rcases e2 : tabOf es b with _ | N
  · constructor
    · intro h
      exact absurd h none_keep
    · intro h
      exact absurd h.2 (tab_no hb e2)
  rw [← tab_keep ha e1, ← tab_keep hb e2, ← met_holds]
  have em : metT es.length (some M) (some N) = closedM es.length (metM M N) := rfl
  rw [em]
  rcases e3 : closedM es.length (metM M N) with _ | P
  · constructor
    · intro h
      exact absurd h none_keep
    · intro h
      exact absurd h (closed_none e3)
  · have hc : Closed es.length P := metT_closed hn (a := a) (b := b) (by rw [e1, e2]; exact e3)
    rw [least_keep hn hc]
    exact closed_some e3
theorem metB_in {es : List Str} (h0 : es[0]? = some E0) (h4 : es.length ≤ 4) (a b : List Bd) : (metB es a b).length ≤ 50 ∧ inE es (metB es a b) := leastB_ok h0 h4 _
/-- a lot's table is that of all bounds -/
theorem met_all {es : List Str} (hn : es.Nodup) (h0 : es[0]? = some E0) (h4 : es.length ≤ 4) {a b : List Bd} (ha : inE es a) (hb : inE es b) : tabEq es.length (tabOf es (metB es a b)) (tabOf es (a ++ b)) :=
  tab_ext hn (metB_in h0 h4 a b).2 (fun x hx => (List.mem_append.mp hx).elim (ha x) (hb x)) fun φ => (metB_keep hn ha hb).trans keepF_app.symm
/-! differences -/
theorem diff_le {es : List Str} {bs : List Bd} (hb : inE es bs) {M : Mx} (e : tabOf es bs = some M) {φ : Nat → Int} (h : KeepF es φ bs) {i j : Nat} (hi : i < es.length) (hj : j < es.length) {v : Int} (ev : M i j = some v) : φ i - φ j ≤ v := (tab_keep hb e).mpr h i j hi hj v ev
theorem diff_is {es : List Str} (hn : es.Nodup) {bs : List Bd} (hb : inE es bs) {M : Mx} (e : tabOf es bs = some M) {i j : Nat} (hi : i < es.length) (hj : j < es.length) (hij : i ≠ j) {v : Int} (ev : M i j = some v) : ∃ φ, KeepF es φ bs ∧ φ i - φ j = v := by
  obtain ⟨φ, h, hd⟩ := reach_some (tabOf_some hn e) hi hj hij ev
  exact ⟨φ, (tab_keep hb e).mp h, hd⟩
theorem diff_far {es : List Str} (hn : es.Nodup) {bs : List Bd} (hb : inE es bs) {M : Mx} (e : tabOf es bs = some M) {i j : Nat} (hi : i < es.length) (hj : j < es.length) (hij : i ≠ j) (ev : M i j = none) (g : Int) : ∃ φ, KeepF es φ bs ∧ g ≤ φ i - φ j := by
  obtain ⟨φ, h, hd⟩ := reach_none (tabOf_some hn e) hi hj hij ev g
  exact ⟨φ, (tab_keep hb e).mp h, hd⟩

theorem rangeL_at {lo : Int} {n : Nat} {pre post : List D} {x : D} (h : rangeL lo n = pre ++ x :: post) : x = .int (lo + pre.length) ∧ pre.length < n := by
  have l := congrArg List.length h
  simp [rangeL] at l
  have hp : pre.length < n := by omega
  refine ⟨?_, hp⟩
  have e : (rangeL lo n)[pre.length]? = some x := by rw [h]; simp
  simp [rangeL, hp] at e
  exact e.symm
theorem py_ints : ∀ ss : List Int, D.pys (intsL ss) = some (ss.map .int)
  | [] => rfl
  | s :: ss => by
    have ih := py_ints ss
    have e : intsL (s :: ss) = .int s :: intsL ss := rfl
    rw [e, D.pys, ih]
    rfl
theorem eqvAll_ints : ∀ ss ts : List Int, PyData.eqvAll (ss.map .int) (ts.map .int) = decide (ss = ts)
  | [], [] => by simp [PyData.eqvAll]
  | [], t :: ts => by simp [PyData.eqvAll]
  | s :: ss, [] => by simp [PyData.eqvAll]
  | s :: ss, t :: ts => by
    simp only [List.map_cons, PyData.eqvAll, PyData.eqv, eqvAll_ints ss ts]
    by_cases h : s = t <;> simp [h]
theorem nice_ints (n : Nat) (ss : List Int) : nice (n + 1) (.lst (intsL ss)) = true := by
  simp only [nice, List.all_eq_true, intsL, List.mem_map]
  rintro x ⟨s, hs, rfl⟩
  cases n <;> rfl
theorem deqv_ints (ss ts : List Int) : deqv (.lst (intsL ss)) (.lst (intsL ts)) = some (decide (ss = ts)) := by
  simp only [deqv, D.py, py_ints, Option.map_some]
  simp only [nice_ints, Bool.and_self, if_true, PyData.eqv, eqvAll_ints]
theorem nice_strsT (n : Nat) (ss : List Str) (h : ∀ s ∈ ss, PyData.strOk s = true) : nice (n + 1) (.tup (strsL ss)) = true := by
  simp only [nice, List.all_eq_true, strsL, List.mem_map]
  rintro x ⟨s, hs, rfl⟩
  simpa [nice] using h s hs
theorem deqv_strsT (ss ts : List Str) (h1 : ∀ s ∈ ss, PyData.strOk s = true) (h2 : ∀ s ∈ ts, PyData.strOk s = true) : deqv (.tup (strsL ss)) (.tup (strsL ts)) = some (decide (ss = ts)) := by
  simp only [deqv, D.py, py_strs, Option.map_some]
  have e1 := nice_strsT 49 ss h1
  have e2 := nice_strsT 49 ts h2
  simp only [e1, e2, Bool.and_self, if_true, PyData.eqv, eqvAll_strs]
theorem intsD_ints : ∀ ss : List Int, intsD (intsL ss) = some ss
  | [] => rfl
  | s :: ss => by
    have e : intsL (s :: ss) = .int s :: intsL ss := rfl
    rw [e, intsD, intsD_ints ss]
    rfl
theorem maxI_ok : ∀ {zs : List Int}, zs ≠ [] → ∃ m, maxI zs = some m ∧ m ∈ zs ∧ ∀ y ∈ zs, y ≤ m
  | [], h => absurd rfl h
  | [x], _ => ⟨x, rfl, by simp, by simp⟩
  | x :: y :: r, _ => by
    obtain ⟨m, e, h1, h2⟩ := maxI_ok (zs := y :: r) (by simp)
    refine ⟨max x m, by show (maxI (y :: r)).map (max x) = _; rw [e]; rfl, ?_, ?_⟩
    · by_cases h : x ≤ m
      · rw [Int.max_eq_right h]
        exact List.mem_cons_of_mem _ h1
      · rw [Int.max_eq_left (by omega)]
        exact List.mem_cons_self ..
    · intro z hz
      rcases List.mem_cons.mp hz with rfl | hz
      · omega
      · have := h2 z hz
        omega
theorem minI_ok : ∀ {zs : List Int}, zs ≠ [] → ∃ m, minI zs = some m ∧ m ∈ zs ∧ ∀ y ∈ zs, m ≤ y
  | [], h => absurd rfl h
  | [x], _ => ⟨x, rfl, by simp, by simp⟩
  | x :: y :: r, _ => by
    obtain ⟨m, e, h1, h2⟩ := minI_ok (zs := y :: r) (by simp)
    refine ⟨min x m, by show (minI (y :: r)).map (min x) = _; rw [e]; rfl, ?_, ?_⟩
    · by_cases h : x ≤ m
      · rw [Int.min_eq_left h]
        exact List.mem_cons_self ..
      · rw [Int.min_eq_right (by omega)]
        exact List.mem_cons_of_mem _ h1
    · intro z hz
      rcases List.mem_cons.mp hz with rfl | hz
      · omega
      · have := h2 z hz
        omega
theorem filt_ints {A : Type} (f : A → Option Int) : ∀ l : List A, l.filterMap (fun a => (f a).map D.int) = intsL (l.filterMap f)
  | [] => rfl
  | a :: l => by
    rw [List.filterMap_cons, List.filterMap_cons, filt_ints f l]
    cases f a <;> rfl
theorem deqv_ints0 (ss : List Int) : deqv (.lst (intsL ss)) (.lst []) = some (decide (ss = [])) := deqv_ints ss []
theorem ints_empty (ss : List Int) : (intsL ss).isEmpty = decide (ss = []) := by cases ss <;> simp [intsL]
theorem atI_getD {es : List Int} {i : Nat} (h : i < es.length) : L2.atI (intsL es) (i : Int) = some (.int (es.getD i 0)) := atI_intsN (by simp [h])
/-! plain: the next number -/
def ups (M : Mx) (e : Nat) (φ : Nat → Int) : List Int := (List.range e).filterMap fun o => (M e o).map fun v => φ o + v
def lows (M : Mx) (e : Nat) (φ : Nat → Int) : List Int := (List.range e).filterMap fun o => (M o e).map fun v => φ o - v
theorem next_low {n : Nat} {M : Mx} (hc : Closed n M) {e : Nat} (he : e < n) {φ : Nat → Int} (h : OkOn n (fun i => i < e) M φ) {m : Int} (h1 : m ∈ lows M e φ) (h2 : ∀ y ∈ lows M e φ, y ≤ m) : OkOn n (fun i => i < e ∨ i = e) M (putF φ e m) := by
  refine ok_step hc h (Nat.lt_irrefl e) (fun i hi si v ev => h2 _ ?_) (fun j hj sj v ev => ?_)
  · simp only [lows, List.mem_filterMap, List.mem_range]
    exact ⟨i, si, by rw [ev]; rfl⟩
  · simp only [lows, List.mem_filterMap, List.mem_range] at h1
    obtain ⟨i, si, hi⟩ := h1
    rw [Option.map_eq_some_iff] at hi
    obtain ⟨w, ew, rfl⟩ := hi
    exact between hc h he (by omega) hj si sj ew ev
theorem next_up {n : Nat} {M : Mx} (hc : Closed n M) {e : Nat} {φ : Nat → Int} (h : OkOn n (fun i => i < e) M φ) (h0 : lows M e φ = []) {m : Int} (h2 : ∀ y ∈ ups M e φ, m ≤ y) : OkOn n (fun i => i < e ∨ i = e) M (putF φ e m) := by
  refine ok_step hc h (Nat.lt_irrefl e) (fun i hi si v ev => ?_) (fun j hj sj v ev => h2 _ ?_)
  · exfalso
    have : φ i - v ∈ lows M e φ := by
      simp only [lows, List.mem_filterMap, List.mem_range]
      exact ⟨i, si, by rw [ev]; rfl⟩
    rw [h0] at this
    cases this
  · simp only [ups, List.mem_filterMap, List.mem_range]
    exact ⟨j, sj, by rw [ev]; rfl⟩
theorem ok_snoc {n : Nat} {M : Mx} {xs : List Int} {m : Int} (h : OkOn n (fun i => i < xs.length ∨ i = xs.length) M (putF (fun i => xs.getD i 0) xs.length m)) : OkOn n (fun i => i < (xs ++ [m]).length) M (fun i => (xs ++ [m]).getD i 0) := by
  have key : ∀ i, i < (xs ++ [m]).length → (xs ++ [m]).getD i 0 = putF (fun i => xs.getD i 0) xs.length m i := by
    intro i hi
    simp only [putF]
    by_cases e : i = xs.length
    · subst e
      simp
    · rw [if_neg e]
      have : i < xs.length := by
        simp at hi
        omega
      simp [List.getD_eq_getElem?_getD, List.getElem?_append_left this]
  intro i j hi hj si sj v ev
  show (xs ++ [m]).getD i 0 - (xs ++ [m]).getD j 0 ≤ v
  rw [key i si, key j sj]
  have si : i < (xs ++ [m]).length := si
  have sj : j < (xs ++ [m]).length := sj
  simp at si sj
  exact h i j hi hj (by omega) (by omega) v ev

/-- bounds of some ends, within numbers -/
def okB2 (es : List Str) (m : Int) (bs : List Bd) : Prop := ∀ b ∈ bs, b.1 ∈ es ∧ b.2.1 ∈ es ∧ -m ≤ b.2.2 ∧ b.2.2 ≤ m
theorem okB2.inE {es : List Str} {m : Int} {bs : List Bd} (h : okB2 es m bs) : inE es bs := fun b hb => ⟨(h b hb).1, (h b hb).2.1⟩
theorem okB2.mono {es fs : List Str} {m n : Int} {bs : List Bd} (h : okB2 es m bs) (hs : ∀ s ∈ es, s ∈ fs) (hm : m ≤ n) : okB2 fs n bs := fun b hb => by
  have := h b hb
  exact ⟨hs _ this.1, hs _ this.2.1, by omega, by omega⟩
theorem okB2.snoc {es : List Str} {m : Int} {bs : List Bd} (h : okB2 es m bs) {b : Bd} (hb : b.1 ∈ es ∧ b.2.1 ∈ es ∧ -m ≤ b.2.2 ∧ b.2.2 ≤ m) : okB2 es m (bs ++ [b]) := fun x hx => by
  rcases List.mem_append.mp hx with hx | hx
  · exact h x hx
  · simp only [List.mem_singleton] at hx
    exact hx ▸ hb
theorem okB2_nil {es : List Str} {m : Int} : okB2 es m [] := by simp [okB2]
theorem keepF_nil {es : List Str} {φ : Nat → Int} : KeepF es φ [] := by simp [KeepF]
theorem worth_b {es : List Str} {xs : List Int} {M : Int} (h0 : 0 ≤ M) (h : ∀ v ∈ xs, -M ≤ v ∧ v ≤ M) (s : Str) : -M ≤ worth es xs s ∧ worth es xs s ≤ M := by
  simp only [worth]
  rw [List.getD_eq_getElem?_getD]
  rcases e : xs[es.idxOf s]? with _ | v
  · simp only [Option.getD_none]
    omega
  · simp only [Option.getD_some]
    exact h v (List.mem_of_getElem? e)
theorem told_ok {n many far M : Int} {d : D} {es tl : List Str} {xs : List Int} {kvs : List (Key × D)} (hw : Wk n d) (hn : n ≤ 10 ^ 26) (h0 : 0 ≤ many) (h6 : many ≤ 60) (hf : 10 ^ 20 ≤ far) (hf2 : far ≤ 10 ^ 59) (hW : WorthD es xs kvs) (hM : ∀ v ∈ xs, -M ≤ v ∧ v ≤ M) (hM0 : 0 ≤ M) (htl : ∀ s ∈ tl, s ∈ es) (ht1 : 1 ≤ tl.length) (ht9 : tl.length ≤ 100) :
    (f_law_told.sem [own d, sh (.lst (strsL tl)), sh (.dK kvs), sh (.int many), sh (.int far)]).sat (fun r out => ∃ bs w', r = own (.lst (bdsL bs)) ∧ (bs.length : Int) = many ∧ okB2 tl (2 * M + far) bs ∧ KeepF es (fun i => xs.getD i 0) bs ∧ out = own w' ∧ Wk (n + 1000) w') NX := by
  simp -dsimp only [f_law_told, FS.of, b_law_told, N_law_told]; simp_arith
  simp_all_arith
  refine sat_forL (fun pre r => ∃ w bs x6 x7 x8 x9 x10, r = [some (own w), some (sh (.lst (strsL tl))), some (sh (.dK kvs)), some (sh (.int many)), some (sh (.int far)), some (own (.lst (bdsL bs))), x6, x7, x8, x9, x10] ∧ Wk (n + 12 * pre.length) w ∧ bs.length = pre.length ∧ okB2 tl (2 * M + far) bs ∧ KeepF es (fun i => xs.getD i 0) bs) ⟨_, [], _, _, _, _, _, rfl, by simpa using hw, rfl, okB2_nil, keepF_nil⟩ ?_ ?_
  · rintro pre x post r e ⟨w, bs, x6, x7, x8, x9, x10, rfl, hv, hl, hok, hk⟩
    obtain ⟨rfl, hp⟩ := rangeL_split e
    have hp : pre.length < 60 := by omega
    simp_all_arith
    refine FR.use (draw_ok hv (by omega) (by decide) (by decide +kernel)) ?_
    rintro _ _ ⟨i, w', rfl, i0, i1, rfl, hw'⟩
    simp_all_arith [strsL_len]
    refine FR.use (draw_ok hw' (by omega) (by omega) (by omega)) ?_
    rintro _ _ ⟨p, w', rfl, p0, p1, rfl, hw'⟩
    have ep := atI_strs (es := tl) p0 (by omega)
    have mp := htl _ (List.getElem_mem (l := tl) (n := p.toNat) (by omega))
    have mp0 := (List.getElem_mem (l := tl) (n := p.toNat) (by omega))
    generalize tl[p.toNat]'(by omega) = l at ep mp mp0
    simp_all_arith [strsL_len, ep]
    refine FR.use (draw_ok hw' (by omega) (by omega) (by omega)) ?_
    rintro _ _ ⟨q, w', rfl, q0, q1, rfl, hw'⟩
    have eq := atI_strs (es := tl) q0 (by omega)
    have mq := htl _ (List.getElem_mem (l := tl) (n := q.toNat) (by omega))
    have mq0 := (List.getElem_mem (l := tl) (n := q.toNat) (by omega))
    generalize tl[q.toNat]'(by omega) = rr at eq mq mq0
    have bl := worth_b (es := es) hM0 hM l
    have br := worth_b (es := es) hM0 hM rr
    have ll := hW.2 l mp
    have lr := hW.2 rr mq
    have fin : ∀ {w' : D} {s : Int}, Wk (n + 12 * pre.length + 10) w' → 0 ≤ s → s ≤ far → Wk (n + 12 * (pre.length + 1)) w' ∧ okB2 tl (2 * M + far) (bs ++ [(l, rr, worth es xs l - worth es xs rr + s)]) ∧ KeepF es (fun i => xs.getD i 0) (bs ++ [(l, rr, worth es xs l - worth es xs rr + s)]) := by
      intro w' s hw s0 s1
      refine ⟨hw.mono (by omega), hok.snoc ⟨mp0, mq0, by simp only; omega, by simp only; omega⟩, keepF_app.mpr ⟨hk, keepF_one.mpr ?_⟩⟩
      show worth es xs l - worth es xs rr ≤ worth es xs l - worth es xs rr + s
      omega
    by_cases c2 : i = 2
    · subst c2
      simp_all_arith [eq]
      refine FR.use (draw_ok hw' (by omega) (by decide) (by decide +kernel)) ?_
      rintro _ _ ⟨z, w', rfl, z0, z1, rfl, hw'⟩
      simp_all_arith [↓ixD_look ll, ↓ixD_look lr, bdsL_len, bdsL_snoc]
      obtain ⟨f1, f2, f3⟩ := fin (s := 1 + z) (hw'.mono (by omega)) (by omega) (by omega)
      exact ⟨_, _, _, _, _, _, _, rfl, by simpa using f1, by simp [hl], f2, f3⟩
    by_cases c3 : i = 3
    · subst c3
      simp_all_arith [eq]
      refine FR.use (great_ok hw' (by omega) hf hf2) ?_
      rintro _ _ ⟨z, w', rfl, z0, z1, rfl, hw'⟩
      have ha : 0 ≤ (if z < 0 then -z else z) ∧ (if z < 0 then -z else z) ≤ far := by split <;> omega
      generalize hzz : (if z < 0 then -z else z) = zz at ha
      simp_all_arith [↓ixD_look ll, ↓ixD_look lr, bdsL_len, bdsL_snoc, hzz]
      obtain ⟨f1, f2, f3⟩ := fin (s := zz) (hw'.mono (by omega)) ha.1 ha.2
      exact ⟨_, _, _, _, _, _, _, rfl, by simpa using f1, by simp [hl], f2, f3⟩
    · simp_all_arith [eq, c2, c3, ↓ixD_look ll, ↓ixD_look lr, bdsL_len, bdsL_snoc]
      obtain ⟨f1, f2, f3⟩ := fin (s := 0) (hw'.mono (by omega)) (by omega) (by omega)
      exact ⟨_, _, _, _, _, _, _, rfl, by simpa using f1, by simp [hl], f2, f3⟩
  · rintro r ⟨w, bs, x6, x7, x8, x9, x10, rfl, hv, hl, hok, hk⟩
    rw [rangeL_len] at hv hl
    simp_all_arith
    exact ⟨bs, _, rfl, by omega, hok, hk, rfl, hv.mono (by omega)⟩

/-- an end, round and round -/
def roundE (es : List Str) (z : Int) : Str := es.getD (z % es.length).toNat E0
theorem roundE_at {es : List Str} (h : 1 ≤ es.length) (z : Int) : L2.atI (strsL es) (z % (es.length : Int)) = some (.str (roundE es z)) ∧ roundE es z ∈ es := by
  have g0 := Int.emod_nonneg z (b := (es.length : Int)) (by omega)
  have g1 := Int.emod_lt_of_pos z (b := (es.length : Int)) (by omega)
  have e : roundE es z = es[(z % es.length).toNat]'(by omega) := by
    simp only [roundE, List.getD_eq_getElem?_getD]
    rw [List.getElem?_eq_getElem (by omega)]
    rfl
  rw [e]
  exact ⟨atI_strs g0 g1, List.getElem_mem _⟩
/-- bounds round some ends, of a sum below 0 -/
def ringB (es : List Str) (xs : List Int) (first : Int) (many k : Nat) : Bd := (roundE es (first + k), roundE es (first + ((k : Int) + 1) % many), worth es xs (roundE es (first + k)) - worth es xs (roundE es (first + ((k : Int) + 1) % many)) - (if (k : Int) = many - 1 then 1 else 0))
def ringL (es : List Str) (xs : List Int) (first : Int) (many n : Nat) : List Bd := (List.range n).map (ringB es xs first many)
theorem ring_no {es : List Str} {xs : List Int} {first : Int} {many : Nat} (h1 : 1 ≤ many) (h3 : many ≤ 3) {φ : Nat → Int} : ¬ KeepF es φ (ringL es xs first many many) := by
  intro h
  have hk : ∀ k, k < many → φ (es.idxOf (ringB es xs first many k).1) - φ (es.idxOf (ringB es xs first many k).2.1) ≤ (ringB es xs first many k).2.2 := fun k hk => h _ (List.mem_map.mpr ⟨k, List.mem_range.mpr hk, rfl⟩)
  obtain rfl | rfl | rfl : many = 1 ∨ many = 2 ∨ many = 3 := by omega
  · have a := hk 0 (by decide)
    simp only [ringB] at a
    have e : ((0 : Nat) : Int) + 1 = 1 := rfl
    have e2 : (1 : Int) % ((1 : Nat) : Int) = 0 := rfl
    have e3 : ((0 : Nat) : Int) = 0 := rfl
    have e4 : ((0 : Nat) : Int) = ((1 : Nat) : Int) - 1 := rfl
    rw [if_pos e4, e, e2, e3] at a
    omega
  · have a := hk 0 (by decide)
    have b := hk 1 (by decide)
    simp only [ringB] at a b
    have e : ((0 : Nat) : Int) + 1 = 1 := rfl
    have e2 : (1 : Int) % ((2 : Nat) : Int) = 1 := rfl
    have e3 : ((0 : Nat) : Int) = 0 := rfl
    have e4 : ¬ ((0 : Nat) : Int) = ((2 : Nat) : Int) - 1 := by decide
    have f : ((1 : Nat) : Int) + 1 = 2 := rfl
    have f2 : (2 : Int) % ((2 : Nat) : Int) = 0 := rfl
    have f3 : ((1 : Nat) : Int) = 1 := rfl
    have f4 : ((1 : Nat) : Int) = ((2 : Nat) : Int) - 1 := rfl
    rw [if_neg e4, e, e2, e3] at a
    rw [if_pos f4, f, f2, f3] at b
    omega
  · have a := hk 0 (by decide)
    have b := hk 1 (by decide)
    have c := hk 2 (by decide)
    simp only [ringB] at a b c
    have e : ((0 : Nat) : Int) + 1 = 1 := rfl
    have e2 : (1 : Int) % ((3 : Nat) : Int) = 1 := rfl
    have e3 : ((0 : Nat) : Int) = 0 := rfl
    have e4 : ¬ ((0 : Nat) : Int) = ((3 : Nat) : Int) - 1 := by decide
    have f : ((1 : Nat) : Int) + 1 = 2 := rfl
    have f2 : (2 : Int) % ((3 : Nat) : Int) = 2 := rfl
    have f3 : ((1 : Nat) : Int) = 1 := rfl
    have f4 : ¬ ((1 : Nat) : Int) = ((3 : Nat) : Int) - 1 := by decide
    have g : ((2 : Nat) : Int) + 1 = 3 := rfl
    have g2 : (3 : Int) % ((3 : Nat) : Int) = 0 := rfl
    have g3 : ((2 : Nat) : Int) = 2 := rfl
    have g4 : ((2 : Nat) : Int) = ((3 : Nat) : Int) - 1 := rfl
    rw [if_neg e4, e, e2, e3] at a
    rw [if_neg f4, f, f2, f3] at b
    rw [if_pos g4, g, g2, g3] at c
    omega
theorem ring_in {es : List Str} (he : 1 ≤ es.length) {xs : List Int} {first M : Int} {many n : Nat} (hM0 : 0 ≤ M) (hM : ∀ v ∈ xs, -M ≤ v ∧ v ≤ M) : okB2 es (2 * M + 1) (ringL es xs first many n) := by
  intro b hb
  obtain ⟨k, _, rfl⟩ := List.mem_map.mp hb
  have b1 := worth_b (es := es) hM0 hM (roundE es (first + k))
  have b2 := worth_b (es := es) hM0 hM (roundE es (first + ((k : Int) + 1) % many))
  refine ⟨(roundE_at he _).2, (roundE_at he _).2, ?_, ?_⟩ <;> (simp only [ringB]; split <;> omega)
theorem ring_ok {n M : Int} {d : D} {es : List Str} {xs : List Int} {kvs : List (Key × D)} (hw : Wk n d) (hn : n ≤ 10 ^ 26) (hW : WorthD es xs kvs) (he1 : 1 ≤ es.length) (he9 : es.length ≤ 100) (hM : ∀ v ∈ xs, -M ≤ v ∧ v ≤ M) (hM0 : 0 ≤ M) :
    (f_law_ring.sem [own d, sh (.lst (strsL es)), sh (.dK kvs)]).sat (fun r out => ∃ bs w', r = own (.lst (bdsL bs)) ∧ bs.length ≤ 3 ∧ okB2 es (2 * M + 1) bs ∧ (∀ φ, ¬ KeepF es φ bs) ∧ out = own w' ∧ Wk (n + 2) w') NX := by
  simp -dsimp only [f_law_ring, FS.of, b_law_ring, N_law_ring]; simp_arith
  simp_all_arith [strsL_len]
  refine FR.use (draw_ok hw (by omega) (by omega) (by omega)) ?_
  rintro _ _ ⟨first, w', rfl, p0, p1, rfl, hw'⟩
  simp_all_arith
  refine FR.use (draw_ok hw' (by omega) (by decide) (by decide +kernel)) ?_
  rintro _ _ ⟨z, w', rfl, z0, z1, rfl, hw'⟩
  obtain ⟨many, hm⟩ : ∃ many : Nat, 1 + z = many := ⟨(1 + z).toNat, by omega⟩
  have hm1 : 1 ≤ many := by omega
  have hm3 : many ≤ 3 := by omega
  have hmt : ((many : Int)).toNat = many := by omega
  simp_all_arith [hm]
  refine sat_forL (fun pre r => ∃ x6 x7 x8, r = [some (own w'), some (sh (.lst (strsL es))), some (sh (.dK kvs)), some (sh (.int first)), some (sh (.int many)), some (own (.lst (bdsL (ringL es xs first many pre.length)))), x6, x7, x8]) ⟨_, _, _, rfl⟩ ?_ ?_
  · rintro pre x post r e ⟨x6, x7, x8, rfl⟩
    obtain ⟨rfl, hp⟩ := rangeL_split e
    have hp : pre.length < many := by omega
    have a1 := roundE_at he1 (first + pre.length)
    have a2 := roundE_at he1 (first + ((pre.length : Int) + 1) % many)
    have l1 := hW.2 _ a1.2
    have l2 := hW.2 _ a2.2
    have hlr : (ringL es xs first many pre.length).length = pre.length := by simp [ringL]
    have hsn : ringL es xs first many (pre.length + 1) = ringL es xs first many pre.length ++ [ringB es xs first many pre.length] := by
      simp [ringL, List.range_succ]
    have hel : (pre ++ [D.int pre.length]).length = pre.length + 1 := by simp
    have hlb : bdsL (ringL es xs first many pre.length) ++ [.tup [.str (roundE es (first + pre.length)), .str (roundE es (first + ((pre.length : Int) + 1) % many)), .int (worth es xs (roundE es (first + pre.length)) - worth es xs (roundE es (first + ((pre.length : Int) + 1) % many)) - (if (pre.length : Int) = many - 1 then 1 else 0))]] = bdsL (ringL es xs first many (pre.length + 1)) := by
      rw [hsn, ← bdsL_snoc]
      rfl
    have dci : (if decide ((pre.length : Int) = many - 1) = true then (1 : Int) else 0) = if (pre.length : Int) = many - 1 then 1 else 0 := by simp
    simp_all_arith [strsL_len, a1.1, a2.1, ↓ixD_look l1, ↓ixD_look l2, bdsL_len, hlr]
    rw [hel, ← hlb, dci]
    exact ⟨_, _, _, rfl⟩
  · rintro r ⟨x6, x7, x8, rfl⟩
    rw [rangeL_len, hmt]
    simp_all_arith
    exact ⟨_, _, rfl, by simp [ringL]; omega, ring_in he1 hM0 hM, fun φ => ring_no hm1 hm3, rfl, hw'.mono (by omega)⟩
theorem perm_ins {A : Type} (l : List A) (i : Nat) (x : A) : (l.take i ++ [x] ++ l.drop i).Perm (x :: l) := by
  have h : (l.take i ++ [x] ++ l.drop i).Perm (x :: (l.take i ++ l.drop i)) := by
    rw [List.append_assoc]
    exact List.perm_middle
  rw [List.take_append_drop] at h
  exact h
theorem bdsL_ins (l : List Bd) (i : Nat) (b : Bd) : (bdsL l).take i ++ [boundD b] ++ (bdsL l).drop i = bdsL (l.take i ++ [b] ++ l.drop i) := by
  simp [bdsL, List.map_take, List.map_drop]
theorem mingled_ok {n : Int} {d : D} (a b : List Bd) (hw : Wk n d) (hn : n ≤ 10 ^ 26) (ha : a.length ≤ 100) (hb : b.length ≤ 100) :
    (f_law_mingled.sem [own d, sh (.lst (bdsL a)), sh (.lst (bdsL b))]).sat (fun r out => ∃ c w', r = own (.lst (bdsL c)) ∧ c.Perm (b ++ a) ∧ out = own w' ∧ Wk (n + 100) w') NX := by
  simp -dsimp only [f_law_mingled, FS.of, b_law_mingled, N_law_mingled]; simp_arith
  simp_all_arith
  refine sat_forB (as := b) (f := boundD) (fun i r => ∃ w c x, r = [some (own w), some (sh (.lst (bdsL a))), some (sh (.lst (bdsL b))), some (own (.lst (bdsL c))), x] ∧ Wk (n + i) w ∧ c.Perm (b.take i ++ a)) ⟨_, a, _, rfl, by simpa using hw, by simp⟩ ?_ ?_
  · rintro i x r ei ⟨w, c, x4, rfl, hv, hc⟩
    have hi := at_lt ei
    have hcl : c.length ≤ 200 := by
      have := hc.length_eq
      simp at this
      omega
    simp_all_arith [bdsL_len]
    refine FR.use (draw_ok hv (by omega) (by omega) (by omega)) ?_
    rintro _ _ ⟨p, w', rfl, p0, p1, rfl, hw'⟩
    have hp2 : p < 1000000 := by omega
    have hz : szOk c.length = true := szL (by omega)
    simp_all_arith [bdsL_len, p0, hp2, hz, bdsL_ins]
    refine ⟨_, _, _, rfl, hw'.mono (by omega), ?_⟩
    refine (perm_ins c p.toNat x).trans ?_
    rw [List.take_add_one, ei]
    refine (List.Perm.cons x hc).trans ?_
    simp only [Option.toList_some, List.append_assoc, List.singleton_append]
    exact List.perm_middle.symm
  · rintro r ⟨w, c, x4, rfl, hv, hc⟩
    rw [List.take_length] at hc
    simp_all_arith
    exact ⟨_, _, rfl, hc, rfl, hv.mono (by omega)⟩
theorem keepF_perm {es : List Str} {φ : Nat → Int} {a b : List Bd} (h : a.Perm b) : KeepF es φ a ↔ KeepF es φ b := by
  simp only [KeepF]
  exact ⟨fun g x hx => g x (h.mem_iff.mpr hx), fun g x hx => g x (h.mem_iff.mp hx)⟩
theorem okB2_perm {es : List Str} {m : Int} {a b : List Bd} (h : a.Perm b) (g : okB2 es m b) : okB2 es m a := fun x hx => g x (h.mem_iff.mp hx)

/-- bounds that hold between two states, or nowhere -/
def madeOf (ns : List Str) (a b : List Int) (bs : List Bd) (due : Bool) : Prop := (due = true → KeepF (tipsOf ns) (fun i => (at2 a b).getD i 0) bs) ∧ (due = false → ∀ φ, ¬ KeepF (tipsOf ns) φ bs)
theorem made_ok {n size far M : Int} {d : D} (ns : List Str) (a b : List Int) (hw : Wk n d) (hn : n ≤ 10 ^ 25) (h : areWds ns) (h3 : ns.length ≤ 3) (ha : a.length = ns.length) (hb : b.length = ns.length) (h0 : 0 ≤ size) (h6 : size ≤ 60) (hf : 10 ^ 20 ≤ far) (hf2 : far ≤ 10 ^ 59) (hM0 : 0 ≤ M) (hMa : ∀ v ∈ a, -M ≤ v ∧ v ≤ M) (hMb : ∀ v ∈ b, -M ≤ v ∧ v ≤ M) :
    (f_law_made.sem [own d, sh (.tup (strsL ns)), sh (.tup (intsL a)), sh (.tup (intsL b)), sh (.int size), sh (.int far)]).sat (fun r out => ∃ bs due w', r = sh (.tup [.tup (bdsL bs), .bl due]) ∧ (bs.length : Int) ≤ size + 3 ∧ okB2 (tipsOf ns) (2 * M + far) bs ∧ madeOf ns a b bs due ∧ out = own w' ∧ Wk (n + 2000) w') NX := by
  have hM : ∀ v ∈ at2 a b, -M ≤ v ∧ v ≤ M := by
    intro v hv
    rcases List.mem_cons.mp hv with rfl | hv
    · omega
    · rcases List.mem_append.mp hv with hv | hv
      · exact hMa v hv
      · exact hMb v hv
  have hl := tips_len ns
  simp -dsimp only [f_law_made, FS.of, b_law_made, N_law_made]; simp_arith
  refine FR.use (draw_ok hw (by omega) (by decide) (by decide +kernel)) ?_
  rintro _ _ ⟨z, w', rfl, z0, z1, rfl, hw'⟩
  simp_all_arith
  refine FR.use (law_tips_ok ns h h3) ?_
  rintro _ _ rfl
  simp_all_arith
  refine FR.use (law_worth_ok ns a b h h3 ha hb) ?_
  rintro _ _ ⟨kvs, rfl, hW⟩
  simp_all_arith
  refine FR.use (told_ok hw' (by omega) h0 h6 hf hf2 hW hM hM0 (fun s hs => hs) (by omega) (by omega)) ?_
  rintro _ _ ⟨bs, w', rfl, hbl, hok, hk, rfl, hw'⟩
  by_cases hz : z = 0
  · subst hz
    simp_all_arith
    refine FR.use (ring_ok hw' (by omega) hW (by omega) (by omega) hM hM0) ?_
    rintro _ _ ⟨rs, w', rfl, hrl, hrok, hrk, rfl, hw'⟩
    simp_all_arith
    refine FR.use (mingled_ok bs rs hw' (by omega) (by omega) (by omega)) ?_
    rintro _ _ ⟨c, w', rfl, hc, rfl, hw'⟩
    have hcl := hc.length_eq
    rw [List.length_append] at hcl
    simp_all_arith [bdsL_len]
    refine ⟨c, false, _, rfl, by omega, ?_, ⟨by simp, fun _ φ hk2 => ?_⟩, rfl, hw'.mono (by omega)⟩
    · refine okB2_perm hc fun x hx => ?_
      rcases List.mem_append.mp hx with hx | hx
      · have := hrok x hx
        exact ⟨this.1, this.2.1, by omega, by omega⟩
      · exact hok x hx
    · exact hrk φ (keepF_app.mp ((keepF_perm hc).mp hk2)).1
  · simp_all_arith [hz, bdsL_len]
    exact ⟨bs, true, _, rfl, by omega, hok, ⟨fun _ => hk, by simp⟩, rfl, hw'.mono (by omega)⟩

/-- a step -/
def stepD (ns : List Str) (bs : List Bd) : D := .obj (Str.ofString "Step") [(Str.ofString "called", .tup (strsL ns)), (Str.ofString "made_of", .tup (bdsL bs)), (Str.ofString "table", tabO (tipsOf ns).length (tabOf (tipsOf ns) bs))]
theorem Step_init_ok (ns : List Str) (bs : List Bd) (h : areWds ns) (h1 : 1 ≤ ns.length) (h3 : ns.length ≤ 3) (hl : bs.length ≤ 50) (hb : inE (tipsOf ns) bs) :
    (f_Step_init.sem [own (.obj (Str.ofString "Step") []), sh (.tup (strsL ns)), sh (.tup (bdsL bs))]).sat (fun r out => r = sh .non ∧ out = own (stepD ns bs)) NX := by
  have hl2 := tips_len ns
  simp -dsimp only [f_Step_init, FS.of, b_Step_init, N_Step_init]; simp_arith
  refine FR.use (check_called_ok ns h h1 h3) ?_
  rintro _ _ rfl
  simp_all_arith
  refine FR.use (ends_of_ok ns h (by omega)) ?_
  rintro _ _ rfl
  simp_all_arith
  refine FR.use (check_bounds_ok _ bs hl hb) ?_
  rintro _ _ rfl
  simp_all_arith [nf1, nf2, nf3]
  refine FR.use (rows_of_ok _ bs (nodup_tips h) (by omega) (by omega) hb) ?_
  rintro _ _ rfl
  simp_all_arith [nf1, nf2, nf3, strsL_len]
  refine FR.use (table_of_ok (tipsOf ns).length (bs.map (rowOf (tipsOf ns))) (by omega) (by simp; omega)) ?_
  rintro _ _ ⟨o, rfl⟩
  simp_all_arith [nf1, nf2, nf3, strsL_len]
  exact ⟨trivial, rfl⟩
theorem step_fill3 (a b c : T) : fillT f_Step_init [a, b, c] = some [a, b, c] := rfl
theorem step_fill2 (a b : T) : fillT f_Step_init [a, b] = some [a, b, sh (.tup [])] := rfl
theorem step_new {ns : List Str} {bs : List Bd} {Q : T → Prop} {X : Xc → Prop} (h : areWds ns) (h1 : 1 ≤ ns.length) (h3 : ns.length ≤ 3) (hl : bs.length ≤ 50) (hb : inE (tipsOf ns) bs) (q : Q (sh (stepD ns bs))) :
    newK (Str.ofString "Step") f_Step_init [sh (.tup (strsL ns)), sh (.tup (bdsL bs))] Q X := by
  rw [newK_def]
  simp -dsimp only [step_fill3, opS_some, io_Step_init, Gd_true]
  refine FR.use (Step_init_ok ns bs h h1 h3 hl hb) ?_
  rintro _ _ ⟨rfl, rfl⟩
  exact ⟨rfl, q⟩
theorem step_new0 {ns : List Str} {Q : T → Prop} {X : Xc → Prop} (h : areWds ns) (h1 : 1 ≤ ns.length) (h3 : ns.length ≤ 3) (q : Q (sh (stepD ns []))) :
    newK (Str.ofString "Step") f_Step_init [sh (.tup (strsL ns))] Q X := by
  rw [newK_def]
  simp -dsimp only [step_fill2, opS_some, io_Step_init, Gd_true]
  refine FR.use (Step_init_ok ns [] h h1 h3 (by simp) (by simp [inE])) ?_
  rintro _ _ ⟨rfl, rfl⟩
  exact ⟨rfl, q⟩
theorem meth_step {cs : List (Str × FS)} {f : FS} (ns : List Str) (bs : List Bd) (ρ : Sl) (K : FS → D → Prop) (hf : fnd cs (Str.ofString "Step") = some f) (n1 : (f.name == Str.ofString "called") = false) (n2 : (f.name == Str.ofString "made_of") = false) (n3 : (f.name == Str.ofString "table") = false) : methK cs (.tmp ⟨false, stepD ns bs⟩) ρ K = K f (stepD ns bs) := by
  have e : stepD ns bs = .obj (Str.ofString "Step") [(Str.ofString "called", .tup (strsL ns)), (Str.ofString "made_of", .tup (bdsL bs)), (Str.ofString "table", tabO (tipsOf ns).length (tabOf (tipsOf ns) bs))] := rfl
  rw [e, methK_obj, hf, opS_some]
  have e3 : (!(List.lookup f.name [(Str.ofString "called", D.tup (strsL ns)), (Str.ofString "made_of", D.tup (bdsL bs)), (Str.ofString "table", tabO (tipsOf ns).length (tabOf (tipsOf ns) bs))]).isSome) = true := by
    simp only [List.lookup, n1, n2, n3]
    rfl
  rw [e3, Gd_true]
theorem lot_ne_step : (Str.ofString "Step" == Str.ofString "Lot") = false := by decide +kernel
theorem fnd2 (f g : FS) : fnd [(Str.ofString "Lot", f), (Str.ofString "Step", g)] (Str.ofString "Step") = some g := by simp [fnd, List.lookup, lot_ne_step]
theorem fnd1 (g : FS) : fnd [(Str.ofString "Step", g)] (Str.ofString "Step") = some g := by simp [fnd, List.lookup]
theorem Step_given_ok (ns : List Str) (bs : List Bd) : (f_Step_given.sem [sh (stepD ns bs)]).sat (fun r _ => r = sh (.tup (bdsL bs))) NX := by
  simp -dsimp only [stepD]
  simp -dsimp only [f_Step_given, FS.of, b_Step_given, N_Step_given]; simp_arith [nb4, nb5, nb6]
theorem meth_given_s (ns : List Str) (bs : List Bd) (ρ : Sl) (K : FS → D → Prop) : methK [(Str.ofString "Lot", f_Lot_given), (Str.ofString "Step", f_Step_given)] (.tmp ⟨false, stepD ns bs⟩) ρ K = K f_Step_given (stepD ns bs) := meth_step ns bs ρ K (fnd2 _ _) (by decide +kernel) (by decide +kernel) (by decide +kernel)
theorem is_tabS (n : Nat) (M : Mx) : isD (tabD n M) .non = some false := rfl
theorem oo_tabS (o : Bool) (n : Nat) (M : Mx) : objO (.tmp ⟨o, tabD n M⟩) = none := by cases o <;> rfl
theorem Step_empty_ok (ns : List Str) (bs : List Bd) : (f_Step_is_empty.sem [sh (stepD ns bs)]).sat (fun r _ => r = sh (.bl (tabOf (tipsOf ns) bs).isNone)) NX := by
  simp -dsimp only [stepD]
  rcases e : tabOf (tipsOf ns) bs with _ | M
  · have e1 : tabO (tipsOf ns).length none = .non := rfl
    simp -dsimp only [e1]
    simp -dsimp only [f_Step_is_empty, FS.of, b_Step_is_empty, N_Step_is_empty]; simp_arith [nb4, nb5, nb6]
    rfl
  · have e1 : tabO (tipsOf ns).length (some M) = tabD (tipsOf ns).length M := rfl
    simp -dsimp only [e1]
    simp -dsimp only [f_Step_is_empty, FS.of, b_Step_is_empty, N_Step_is_empty]; simp_arith [nb4, nb5, nb6, ↓oo_tabS, is_tabS]
    rfl
theorem meth_empty_s (ns : List Str) (bs : List Bd) (ρ : Sl) (K : FS → D → Prop) : methK [(Str.ofString "Lot", f_Lot_is_empty), (Str.ofString "Step", f_Step_is_empty)] (.tmp ⟨false, stepD ns bs⟩) ρ K = K f_Step_is_empty (stepD ns bs) := meth_step ns bs ρ K (fnd2 _ _) (by decide +kernel) (by decide +kernel) (by decide +kernel)

theorem Step_names_ok (ns : List Str) (bs : List Bd) : (f_Step_names.sem [sh (stepD ns bs)]).sat (fun r _ => r = sh (.tup (strsL ns))) NX := by
  simp -dsimp only [stepD]
  simp -dsimp only [f_Step_names, FS.of, b_Step_names, N_Step_names]; simp_arith [nb4, nb5, nb6]
theorem meth_names_s (ns : List Str) (bs : List Bd) (ρ : Sl) (K : FS → D → Prop) : methK [(Str.ofString "Lot", f_Lot_names), (Str.ofString "Step", f_Step_names)] (.tmp ⟨false, stepD ns bs⟩) ρ K = K f_Step_names (stepD ns bs) := meth_step ns bs ρ K (fnd2 _ _) (by decide +kernel) (by decide +kernel) (by decide +kernel)

theorem plain_ints (st : List Int) : plain2 (.tup (intsL st)) = decide (st.length ≤ 1000) := by
  have : (intsL st).all plainD = true := by simp [intsL, plainD]
  simp only [plain2, this, intsL_len, Bool.true_and]
theorem st_ints (k : Nat) (st : List Int) : isStB k (.tup (intsL st)) = (st.length == k) := by
  have : (intsL st).all wholeD = true := by simp [intsL, wholeD]
  simp only [isStB, this, intsL_len, Bool.and_true]
theorem check_state_ok (ns : List Str) (st : List Int) (hs : st.length = ns.length) (hn : ns.length ≤ 900) : (f_check_state.sem [sh (.tup (strsL ns)), sh (.tup (intsL st))]).sat (fun r _ => r = sh .non) NX := by
  simp -dsimp only [f_check_state, FS.of, b_check_state, N_check_state]; simp_arith
  refine FR.use (is_state_ok ns (.tup (intsL st)) (by rw [plain_ints]; simp; omega) (by omega)) ?_
  rintro _ _ rfl
  have e1 : isStB ns.length (.tup (intsL st)) = true := by rw [st_ints]; simpa using hs
  simp_all_arith [e1]
  try trivial
/-- whether a step holds between two states -/
theorem holds_ok (ns : List Str) (bs : List Bd) (a b : List Int) (h3 : ns.length ≤ 3) (hb : inE (tipsOf ns) bs) (ha : a.length = ns.length) (hb2 : b.length = ns.length) :
    (f_Step_holds.sem [sh (stepD ns bs), sh (.tup (intsL a)), sh (.tup (intsL b))]).sat (fun r _ => ∃ k, r = sh (.bl k) ∧ (k = true ↔ KeepF (tipsOf ns) (fun i => (at2 a b).getD i 0) bs)) NX := by
  have hl := tips_len ns
  simp -dsimp only [stepD]
  simp -dsimp only [f_Step_holds, FS.of, b_Step_holds, N_Step_holds]; simp_arith [nb4, nb5, nb6]
  refine FR.use (check_state_ok ns a ha (by omega)) ?_
  rintro _ _ rfl
  simp_all_arith [nb4, nb5, nb6]
  refine FR.use (check_state_ok ns b hb2 (by omega)) ?_
  rintro _ _ rfl
  have e : intsL a ++ intsL b = intsL (a ++ b) := intsL_app a b
  simp_all_arith [nb4, nb5, nb6, List.append_nil, e, intsL_len, List.length_append]
  refine FR.use (has_state_ok _ (a ++ b) (tipsOf ns).length (by simp; omega) (by simp; omega)) ?_
  rintro _ _ ⟨k, rfl, hk⟩
  simp_all_arith
  refine ⟨k, rfl, hk.trans ?_⟩
  rcases et : tabOf (tipsOf ns) bs with _ | M
  · exact ⟨fun h => h.elim, fun h => absurd h (tab_no hb et)⟩
  · have el : (0 :: (a ++ b)).length = (tipsOf ns).length := by simp; omega
    simp only [Holds0, el]
    exact tab_keep hb et
theorem meth_holds (ns : List Str) (bs : List Bd) (ρ : Sl) (K : FS → D → Prop) : methK [(Str.ofString "Step", f_Step_holds)] (.tmp ⟨false, stepD ns bs⟩) ρ K = K f_Step_holds (stepD ns bs) := meth_step ns bs ρ K (fnd1 _) (by decide +kernel) (by decide +kernel) (by decide +kernel)

/-- whether all bounds hold -/
theorem kept_ok {es : List Str} {xs : List Int} {kvs : List (Key × D)} (bs : List Bd) (hW : WorthD es xs kvs) (hb : inE es bs) (d : D) (hd : d = .tup (bdsL bs) ∨ d = .lst (bdsL bs)) :
    (f_law_kept.sem [sh (.dK kvs), sh d]).sat (fun r _ => ∃ k, r = sh (.bl k) ∧ (k = true ↔ KeepF es (fun i => xs.getD i 0) bs)) NX := by
  rcases hd with rfl | rfl
  all_goals
    simp -dsimp only [f_law_kept, FS.of, b_law_kept, N_law_kept]; simp_arith
    simp_all_arith
    refine sat_forB (as := bs) (f := boundD) (fun i r => ∃ d x2 x3 x4, r = [some (sh (.dK kvs)), some (sh d), x2, x3, x4] ∧ KeepF es (fun i => xs.getD i 0) (bs.take i)) ⟨_, _, _, _, rfl, by simp [keepF_nil]⟩ ?_ ?_
    · rintro i x r ei ⟨d, x2, x3, x4, rfl, hI⟩
      have hx := hb x (List.mem_of_getElem? ei)
      have l1 := hW.2 _ hx.1
      have l2 := hW.2 _ hx.2
      obtain ⟨l, rr, v⟩ := x
      simp_all_arith [boundD, ↓ixD_look l1, ↓ixD_look l2]
      refine Br_intro (fun hc => ?_) (fun hc => ?_)
      · simp_all_arith
        have hc : v < worth es xs l - worth es xs rr := by simpa using hc
        refine ⟨_, rfl, by simp, fun hk => ?_⟩
        have h2 : worth es xs l - worth es xs rr ≤ v := hk _ (List.mem_of_getElem? ei)
        omega
      · simp_all_arith
        have hc : ¬ v < worth es xs l - worth es xs rr := by simpa using hc
        refine ⟨_, _, _, _, rfl, ?_⟩
        rw [List.take_add_one, ei]
        refine keepF_app.mpr ⟨hI, keepF_one.mpr ?_⟩
        show worth es xs l - worth es xs rr ≤ v
        omega
    · rintro r ⟨d, x2, x3, x4, rfl, hI⟩
      rw [List.take_length] at hI
      simp_all_arith
      exact ⟨_, rfl, by simpa using hI⟩

theorem purse_ok (ns : List Int) (k : Nat) (hk : k ≤ 62) (hl : ns.length ≤ 63) : (f_law_purse.sem [sh (.lst (ns.map D.int)), sh (.int k)]).sat (fun r _ => ∃ w, r = own w ∧ Wk 10000 w) NX := by
  have fin : ∀ c e : Int, ∃ w, own (.lst [.int (if e - 1000000000000000000 > 0 then e - 1000000000000000000 else 0), .int (c % 170141183460469231731687303715884105727 + 982451653), .int (89 * (k : Int))]) = own w ∧ Wk 10000 w := by
    intro c e
    have := Int.emod_nonneg c (b := 170141183460469231731687303715884105727) (by decide)
    have := Int.emod_lt_of_pos c (b := 170141183460469231731687303715884105727) (by decide)
    refine ⟨_, rfl, _, _, _, rfl, ?_, by omega, by omega, by omega, by omega⟩
    split <;> omega
  simp -dsimp only [f_law_purse, FS.of, b_law_purse, N_law_purse]; simp_arith
  simp_all_arith
  refine Br_dec (fun h => ?_) (fun h => ?_)
  · have hk2 : k < ns.length := by simpa using h
    have ek : ns[k]? = some ns[k] := by simp [hk2]
    have ea : L2.atI (ns.map D.int) (k : Int) = some (.int ns[k]) := atI_intsN ek
    simp_all_arith [ea]
    generalize (if ns[k] < 0 then -ns[k] else ns[k]) = e
    refine Gd_intro (mulOk_small (by decide +kernel) (by omega)) ?_
    simp_all_arith
    exact fin _ e
  · simp_all_arith
    refine Gd_intro (mulOk_small (by decide +kernel) (by omega)) ?_
    simp_all_arith
    have := fin 0 0
    simpa using this
theorem Sh_bound9 {es : List Str} (he : ∀ s ∈ es, PyData.strOk s = true ∧ s.length ≤ 9) {b : Bd} (h1 : b.1 ∈ es) (h2 : b.2.1 ∈ es) (h3 : b.2.2.natAbs ≤ 10 ^ 200) : Sh 49 5772 (boundD b) := by
  have := Sh_tup (k := 48) (b := 1921) (xs := [.str b.1, .str b.2.1, .int b.2.2]) (by
    intro x hx
    simp only [List.mem_cons, List.not_mem_nil, or_false] at hx
    rcases hx with rfl | rfl | rfl
    · exact (Sh_str (he _ h1).1 (he _ h1).2).mono (by decide)
    · exact (Sh_str (he _ h2).1 (he _ h2).2).mono (by decide)
    · exact Sh_int h3)
  exact this.mono (by simp)
theorem Sh_bds9 {es : List Str} (he : ∀ s ∈ es, PyData.strOk s = true ∧ s.length ≤ 9) {bs : List Bd} (hl : bs.length ≤ 50) (hb : ∀ b ∈ bs, b.1 ∈ es ∧ b.2.1 ∈ es ∧ b.2.2.natAbs ≤ 10 ^ 200) : Sh 50 300000 (.lst (bdsL bs)) ∧ Sh 50 300000 (.tup (bdsL bs)) := by
  have h : ∀ x ∈ bdsL bs, Sh 49 5772 x := by
    intro x hx
    simp only [bdsL, List.mem_map] at hx
    obtain ⟨b, hb', rfl⟩ := hx
    exact Sh_bound9 he (hb b hb').1 (hb b hb').2.1 (hb b hb').2.2
  refine ⟨(Sh_lst h).mono ?_, (Sh_tup h).mono ?_⟩ <;> (rw [bdsL_len]; omega)
theorem tips_sh {ns : List Str} (h : areWds ns) : ∀ s ∈ tipsOf ns, PyData.strOk s = true ∧ s.length ≤ 9 := fun s hs => ⟨strOk_tips h s hs, tips_short h s hs⟩
theorem okB2_abs {es : List Str} {m : Int} {bs : List Bd} (h : okB2 es m bs) (hm : m ≤ 10 ^ 200) : ∀ b ∈ bs, b.1 ∈ es ∧ b.2.1 ∈ es ∧ b.2.2.natAbs ≤ 10 ^ 200 := fun b hb => by
  obtain ⟨h1, h2, h3, h4⟩ := h b hb
  refine ⟨h1, h2, ?_⟩
  have : (b.2.2.natAbs : Int) ≤ 10 ^ 200 := by omega
  exact_mod_cast this
theorem Sh_bl (b : Bool) : Sh 50 10 (.bl b) := by
  cases b
  · exact ⟨.bool false, rfl, rfl, rfl, by decide +kernel, by decide +kernel⟩
  · exact ⟨.bool true, rfl, rfl, rfl, by decide +kernel, by decide +kernel⟩
theorem repr_bl (b : Bool) : biD .repr [.bl b] = some (sh (.str (reprD (.bl b)))) := bi_repr (Sh_bl b) (by decide)

theorem body10 {n : Int} {w : D} {ns : List Str} {a b : List Int} {bs : List Bd} {lap : Int} {x2 x7 x10 x11 x12 : Option T} (hw : Wk n w) (hn : n ≤ 10 ^ 25) (h : areWds ns) (h1 : 1 ≤ ns.length) (h3 : ns.length ≤ 3) (ha : a.length = ns.length) (hb : b.length = ns.length) (hba : ∀ v ∈ a, -(10 ^ 58) ≤ v ∧ v ≤ 10 ^ 58) (hbb : ∀ v ∈ b, -(10 ^ 58) ≤ v ∧ v ≤ 10 ^ 58) (hin : inE (tipsOf ns) bs) :
    (execs [
      .par [11, 12] [(.var 4), (.var 5)],
      .ite (.cmp .Lt [] (.var 9) (.lit (.int 5)))
        [
         .set 11 (.call f_law_near [(.var 0), (.var 11)])]
        [],
      .ite (.cmp .Gt [] (.var 9) (.lit (.int 2)))
        [
         .set 12 (.call f_law_near [(.var 0), (.var 12)])]
        [],
      .ite (.cmp .Gt [] (.var 9) (.lit (.int 5)))
        [
         .set 12 (.call f_law_state [(.var 0), (.var 1), (.bin .Pow [] (.lit (.int 10)) (.lit (.int 58)))])]
        [],
      .ite (.cmp .NotEq [] (.bi .repr [(.meth [("Step", f_Step_holds)] (.var 8) [(.var 11), (.var 12)])]) (.bi .repr [(.call f_law_kept [(.call f_law_worth [(.var 3), (.var 11), (.var 12)]), (.var 6)])]))
        [
         .ret (.lit (.bl false))]
        []] [some (own w), some (sh (.int ns.length)), x2, some (sh (.tup (strsL ns))), some (sh (.tup (intsL a))), some (sh (.tup (intsL b))), some (sh (.tup (bdsL bs))), x7, some (sh (stepD ns bs)), some (sh (.int lap)), x10, x11, x12]).sat (fun f r => f = .next ∧ ∃ w' x11 x12, r = [some (own w'), some (sh (.int ns.length)), x2, some (sh (.tup (strsL ns))), some (sh (.tup (intsL a))), some (sh (.tup (intsL b))), some (sh (.tup (bdsL bs))), x7, some (sh (stepD ns bs)), some (sh (.int lap)), x10, x11, x12] ∧ Wk (n + 100) w') NXS := by
  refine seq_first (fun r => r = [some (own w), some (sh (.int ns.length)), x2, some (sh (.tup (strsL ns))), some (sh (.tup (intsL a))), some (sh (.tup (intsL b))), some (sh (.tup (bdsL bs))), x7, some (sh (stepD ns bs)), some (sh (.int lap)), x10, some (sh (.tup (intsL a))), some (sh (.tup (intsL b)))]) (by
    simp_all_arith
    try trivial) ?_
  rintro _ rfl
  refine seq_first (fun r => ∃ w' s1, r = [some (own w'), some (sh (.int ns.length)), x2, some (sh (.tup (strsL ns))), some (sh (.tup (intsL a))), some (sh (.tup (intsL b))), some (sh (.tup (bdsL bs))), x7, some (sh (stepD ns bs)), some (sh (.int lap)), x10, some (sh (.tup (intsL s1))), some (sh (.tup (intsL b)))] ∧ Wk (n + 2) w' ∧ s1.length = ns.length) (by
    simp_all_arith
    refine Br_intro (fun hc => ?_) (fun hc => ?_)
    · simp_all_arith
      refine FR.use (near_ok a hw (by omega) (by omega) (by omega) hba) ?_
      rintro _ _ ⟨s1, w', rfl, hl, _, rfl, hw'⟩
      simp_all_arith
      exact ⟨trivial, _, _, rfl, hw', by omega⟩
    · simp_all_arith
      exact ⟨trivial, _, _, rfl, hw.mono (by omega), by omega⟩) ?_
  rintro _ ⟨w', s1, rfl, hw', hs1⟩
  refine seq_first (fun r => ∃ w' s2, r = [some (own w'), some (sh (.int ns.length)), x2, some (sh (.tup (strsL ns))), some (sh (.tup (intsL a))), some (sh (.tup (intsL b))), some (sh (.tup (bdsL bs))), x7, some (sh (stepD ns bs)), some (sh (.int lap)), x10, some (sh (.tup (intsL s1))), some (sh (.tup (intsL s2)))] ∧ Wk (n + 4) w' ∧ s2.length = ns.length) (by
    simp_all_arith
    refine Br_intro (fun hc => ?_) (fun hc => ?_)
    · simp_all_arith
      refine FR.use (near_ok b hw' (by omega) (by omega) (by omega) hbb) ?_
      rintro _ _ ⟨s2, w', rfl, hl, _, rfl, hw'⟩
      simp_all_arith
      exact ⟨trivial, _, _, rfl, hw'.mono (by omega), by omega⟩
    · simp_all_arith
      exact ⟨trivial, _, _, rfl, hw'.mono (by omega), by omega⟩) ?_
  rintro _ ⟨w', s2, rfl, hw', hs2⟩
  refine seq_first (fun r => ∃ w' s2, r = [some (own w'), some (sh (.int ns.length)), x2, some (sh (.tup (strsL ns))), some (sh (.tup (intsL a))), some (sh (.tup (intsL b))), some (sh (.tup (bdsL bs))), x7, some (sh (stepD ns bs)), some (sh (.int lap)), x10, some (sh (.tup (intsL s1))), some (sh (.tup (intsL s2)))] ∧ Wk (n + 60) w' ∧ s2.length = ns.length) (by
    simp_all_arith
    refine Br_intro (fun hc => ?_) (fun hc => ?_)
    · simp_all_arith
      refine FR.use (state_ok hw' (by omega) (by omega) (by omega) (by decide +kernel) (by decide +kernel)) ?_
      rintro _ _ ⟨s2, w', rfl, hl, _, rfl, hw'⟩
      simp_all_arith
      exact ⟨trivial, _, _, rfl, hw'.mono (by omega), by omega⟩
    · simp_all_arith
      exact ⟨trivial, _, _, rfl, hw'.mono (by omega), by omega⟩) ?_
  rintro _ ⟨w', s2, rfl, hw', hs2⟩
  simp_all_arith [meth_holds]
  refine FR.use (holds_ok ns bs s1 s2 h3 hin hs1 hs2) ?_
  rintro _ _ ⟨k, rfl, hk⟩
  simp_all_arith [repr_bl]
  refine FR.use (law_worth_ok ns s1 s2 h h3 hs1 hs2) ?_
  rintro _ _ ⟨kvs, rfl, hW⟩
  simp_all_arith
  refine FR.use (kept_ok bs hW hin _ (.inl rfl)) ?_
  rintro _ _ ⟨k2, rfl, hk2⟩
  have ek : k = k2 := by
    have := hk.trans hk2.symm
    cases k <;> cases k2 <;> simp_all
  subst ek
  simp_all_arith [repr_bl]
  exact ⟨trivial, _, _, _, rfl, hw'.mono (by omega)⟩
theorem right_ok {n : Int} {d : D} (hw : Wk n d) (hn : n ≤ 10 ^ 17) :
    (f_law_right.sem [own d]).sat (fun r out => r = sh (.bl true)) NX := by
  simp -dsimp only [f_law_right, FS.of, b_law_right, N_law_right]; simp_arith
  refine FR.use (draw_ok hw (by omega) (by decide) (by decide +kernel)) ?_
  rintro _ _ ⟨z, w', rfl, z0, z1, rfl, hw'⟩
  simp_all_arith
  refine FR.use (draw_ok hw' (by omega) (by decide) (by decide +kernel)) ?_
  rintro _ _ ⟨sz, w', rfl, s0, s1, rfl, hw'⟩
  (repeat (first | ((with_reducible refine GdP_intro ?hg ?_); case hg => omega) | (simp -dsimp only [↓so_lit, ↓xr_lit, ↓se_lit, ↓so_glob, ↓xr_glob, ↓se_glob, ↓so_bin, ↓xr_bin, ↓se_bin, ↓so_neg, ↓xr_neg, ↓se_neg, ↓so_cmp, ↓xr_cmp, ↓se_cmp, ↓so_cmp2, ↓xr_cmp2, ↓se_cmp2, ↓so_and, ↓xr_and, ↓se_and, ↓so_or, ↓xr_or, ↓se_or, ↓so_not, ↓xr_not, ↓se_not, ↓so_ite, ↓xr_ite, ↓se_ite, ↓so_tup, ↓xr_tup, ↓se_tup, ↓so_lst, ↓xr_lst, ↓se_lst, ↓so_dct, ↓xr_dct, ↓se_dct, ↓so_sub, ↓xr_sub, ↓se_sub, ↓so_slice, ↓xr_slice, ↓se_slice, ↓so_slice3, ↓xr_slice3, ↓se_slice3, ↓so_fld, ↓xr_fld, ↓se_fld, ↓so_call, ↓xr_call, ↓se_call, ↓so_new, ↓xr_new, ↓se_new, ↓so_meth, ↓xr_meth, ↓se_meth, ↓so_newK, ↓xr_newK, ↓se_newK, ↓so_methW, ↓xr_methW, ↓se_methW, ↓so_join, ↓xr_join, ↓se_join, ↓so_bi, ↓xr_bi, ↓se_bi, ↓so_bm, ↓xr_bm, ↓se_bm, ↓so_mt, ↓xr_mt, ↓se_mt, ↓so_comp, ↓xr_comp, ↓se_comp, ↓so_compK, ↓xr_compK, ↓se_compK, ↓so_dcomp, ↓xr_dcomp, ↓se_dcomp, ↓so_fstr, ↓xr_fstr, ↓se_fstr, ↓se_var, ↓s_var, ↓s_lit, ↓s_glob, ↓so_var, ↓s_bin, ↓s_neg, ↓s_cmp, ↓s_cmp2, ↓s_and, ↓s_or, ↓s_not, ↓s_ite, ↓s_tup, ↓s_lst, ↓s_dct, ↓s_sub, ↓si_none, ↓si_some, ↓s_slice, ↓s_slice3, ↓s_fld, ↓s_call0, ↓s_call1, ↓s_new, ↓s_newK, ↓s_methW, ↓s_join', ↓s_meth, ↓sos_nil, ↓sos_cons, ↓s_bi, ↓s_bm, ↓s_mt', ↓s_comp', ↓s_compK', ↓s_keysTake, ↓dkK_dK, ↓s_dcomp', ↓s_fstr, ↓se_nil, ↓se_star, ↓se_srange, ↓xs_nil, ↓y_set, ↓y_tupset, ↓st_nil, ↓st_cons, ↓x_par, ↓y_setIx, ↓y_setFld, ↓y_expr, ↓x_retv, ↓y_retN, ↓y_ite, ↓y_for, ↓x_while, ↓y_brk, ↓y_cont, ↓y_pass, ↓x_raise, ↓s_runD', ↓s_turnC', ↓s_turnDC', ↓sc_none, ↓sc_some, ↓s_callF, ↓s_callIO_slot, ↓s_callIO_tmp, ↓lpK_next, ↓lpK_cont, ↓lpK_brk, ↓lpK_ret, ↓opS_some, ↓opS_map, ↓Gd_true, ↓Br_true, ↓Br_false, ↓slotK_zero, ↓slotK_succ, ↓setK_nil, ↓setK_zero, ↓setK_succ, ↓drK_tmp, ↓drK_slot, ↓drKs_nil, ↓drKs_cons, ↓asB_bl, ↓asI_int, ↓sat_bind, ↓sat_opt, ↓sat_ok, ↓sat_bad, ↓shareK_true, ↓shareK_false, ↓shareK_any, ↓owK_true, ↓owK_false, ↓brT_bl, ↓fldK_obj, ↓callK_exact, ↓strK_str, ↓methK_obj, ↓mtK_lst, ↓s_opBin, ↓s_opCmp, ↓s_opEq, ↓oo_slot, ↓oo_own, ↓oo_int, ↓oo_bl, ↓oo_str, ↓oo_non, ↓oo_lst, ↓oo_tup, ↓oo_dK, ↓oo_dT, ↓oo_obj, ↓shO_sh, ↓flK_next, ↓flK_ret, ↓flK_brk, ↓flK_cont, ↓setsK_cons, ↓setsK_nil, ↓tupK_tup, ↓tupK_lst, ↓parK_cons, ↓parK_nil, ↓lfK_done, ↓lfK_brk, ↓lfK_ret, ↓outK_true, ↓outK_false, ↓endK_ret, ↓endK_next, ↓bindK_eq, ↓bindK_one, ↓bindK_many, Option.map_none, Option.getD_none, Option.isSome_none, Option.isSome_some, permD, fnd, pairsOf, cmp_Is, cmp_IsNot, is_non, is_bl, is_int, is_str, is_lst, is_tup, is_dK, is_dT, is_obj, is_blbl, cmp_Eq, cmp_NotEq, cmp_In, cmp_NotIn, cmp_Lt, cmp_LtE, cmp_Gt, cmp_GtE, de_int, de_str, de_bl, de_non, ix_lst, ix_tup, ix_str, bn_add, bn_adds, bn_addl, bn_addt, bn_sub, bn_mul, bn_mull, bn_mult, bn_div, bn_mod, bn_pow, wk_val, wk_valt, wk_vals, wk_rng, wk_rng2, wk_rev, wj_enum, wk_enumt, wj_zip, wk_zipt, sl_lst, sl_tup, sl_str, sl3_tup, bi_lenl, bi_lent, bi_lens, bi_int, bi_intb, bi_abs, bi_max2, bi_min2, bi_maxL, bi_minL, bi_minL0, bi_sum, bi_all, bj_any, bi_list, bi_listt, bi_listd, bi_listk, bi_dictc, bi_tuple, bi_tuplet, bi_str, bi_stri, bi_isinst, bi_sorted, bi_join, bi_lenset, bi_lrange, bi_lrange2, bm_get1, bm_get2, dg_T, dg_K, ix_dK, ix_dT, in_K, in_T, mt_app, mt_ext, mt_ins, mt_pop, sx_lst, sx_dK, sx_dT, sf_obj, Option_bind_some', id_eq, Gd_decide, GdP_true, beq_iff_eq, List.contains_cons, List.contains_nil, putFD, c0, c1, c2, c3, c4, c5, c6, c7, c8, c9, c10, c11, keysOf, keyOf, evKeys, bmKind, bmOs, List.isEmpty_nil, Function.comp_apply, List.length_range, szOk, Nat.reduceAdd, Bool.decide_eq_true, Bool.not_eq_true, Bool.decide_eq_false, valK_eq, opS_if, opS_ifd, opS_bind, Gd_and, atI_0, atI_1, atI_2, powOk_ten, ixN_0, ixN_1, ixN_2, Nat.reduceLeDiff, Nat.reduceEqDiff, Nat.reduceBEq, Nat.reduceSub, Int.reduceAdd, Int.reduceMul, Int.reducePow, Int.reduceLE, Int.reduceLT, Int.reduceSub, Int.reduceNeg, Int.reduceToNat, Int.reduceEq, Int.reduceDiv, Int.reduceMod, isVar, isStar, sh, own, items, freeS_nil, freeS_cons, freeO_none, freeO_t, freeO_map, ownL, wipeS, backS, intsD, boolsD, strsD, List.length_cons, List.length_nil, List.length_map, List.map_cons, List.map_nil, List.cons_append, List.nil_append, List.replicate, List.foldr_cons, List.foldr_nil, List.set_cons_zero, List.set_cons_succ, List.getElem?_cons_zero, List.getElem?_cons_succ, List.all_cons, List.all_nil, Option.join_some, Bool.and_true, Bool.true_and, Bool.and_self, Bool.not_true, Bool.not_false, Bool.not_not, Bool.and_false, Bool.false_and, decide_true, decide_false, Option.some.injEq, Option.map_some, Option.getD_some, Bool.true_or, Bool.or_true, Bool.false_or, Bool.or_false, beq_self_eq_true, Bool.false_eq_true, reduceCtorEq, if_true, if_false, ite_true, ite_false, List.lookup, io_law_draw, io_law_words, io_law_great, io_law_told, io_law_tips, io_law_worth, io_law_mingled, io_law_ring, io_law_made, io_is_word, io_are_names, io_check_called, io_ends_of, io_is_end, io_is_whole, io_is_bound, io_check_bounds, io_less, io_tightest, io_added, io_shortened, io_closed, io_table_of, io_rows_of, io_Step_init, io_law_state, io_is_state, io_check_state, io_has_state, io_Step_holds, io_law_near, io_Lot_given, io_Step_given, io_Lot_is_empty, io_Step_is_empty, io_Lot_names, io_Step_names, io_law_kept, io_law_right, io_law_purse, io_law, np_law_draw, np_law_words, np_law_great, np_law_told, np_law_tips, np_law_worth, np_law_mingled, np_law_ring, np_law_made, np_is_word, np_are_names, np_check_called, np_ends_of, np_is_end, np_is_whole, np_is_bound, np_check_bounds, np_less, np_tightest, np_added, np_shortened, np_closed, np_table_of, np_rows_of, np_Step_init, np_law_state, np_is_state, np_check_state, np_has_state, np_Step_holds, np_law_near, np_Lot_given, np_Step_given, np_Lot_is_empty, np_Step_is_empty, np_Lot_names, np_Step_names, np_law_kept, np_law_right, np_law_purse, np_law])))
  refine seq_first (fun r => ∃ w' sz, r = [some (own w'), some (sh (.int (1 + z))), some (sh (.int sz)), none, none, none, none, none, none, none, none, none, none] ∧ Wk (n + 3) w' ∧ 0 ≤ sz ∧ sz ≤ 44) (by
    simp_all_arith
    refine FR.use (draw_ok hw' (by omega) (by decide) (by decide +kernel)) ?_
    rintro _ _ ⟨q, w', rfl, q0, q1, rfl, hw'⟩
    simp_all_arith
    refine Br_intro (fun hc => ?_) (fun hc => ?_)
    · simp_all_arith
      exact ⟨trivial, _, _, rfl, hw'.mono (by omega), by omega, by omega⟩
    · simp_all_arith
      exact ⟨trivial, _, _, rfl, hw'.mono (by omega), by omega, by omega⟩) ?_
  rintro _ ⟨w', sz, rfl, hw', s0, s1⟩
  simp_all_arith
  refine FR.use (words_ok hw' (by omega) (by omega) (by omega)) ?_
  rintro _ _ ⟨ns, w', rfl, hns, hnl, rfl, hw'⟩
  rw [← hnl]
  have h1 : 1 ≤ ns.length := by omega
  have h3 : ns.length ≤ 3 := by omega
  simp_all_arith
  refine FR.use (state_ok hw' (by omega) (by omega) (by omega) (by decide +kernel) (by decide +kernel)) ?_
  rintro _ _ ⟨a, w', rfl, hal, hab, rfl, hw'⟩
  simp_all_arith
  refine FR.use (state_ok hw' (by omega) (by omega) (by omega) (by decide +kernel) (by decide +kernel)) ?_
  rintro _ _ ⟨b, w', rfl, hbl, hbb, rfl, hw'⟩
  simp_all_arith
  refine FR.use (made_ok (M := 10 ^ 58) ns a b hw' (by omega) hns h3 (by omega) (by omega) s0 (by omega) (by decide +kernel) (by decide +kernel) (by decide +kernel) hab hbb) ?_
  rintro _ _ ⟨bs, due, w', rfl, hsl, hok, hmade, rfl, hw'⟩
  have hin := hok.inE
  have hbs : bs.length ≤ 50 := by omega
  have hnd := nodup_tips hns
  have rn := bi_repr (Sh_names hns h3) (by decide)
  have rb := bi_repr (Sh_bds9 (tips_sh hns) hbs (okB2_abs hok (by decide +kernel))).2 (by decide)
  have hem : (tabOf (tipsOf ns) bs).isNone = !due := by
    cases due with
    | true =>
      obtain ⟨M, eM⟩ := tab_yes hin (hmade.1 rfl)
      rw [eM]
      rfl
    | false =>
      rcases e : tabOf (tipsOf ns) bs with _ | M
      · rfl
      · obtain ⟨φ, hφ⟩ := closed_has (tabOf_some hnd e)
        exact absurd ((tab_keep hin e).mp hφ) (hmade.2 rfl φ)
  have hdue : ∀ {k : Bool}, (k = true ↔ KeepF (tipsOf ns) (fun i => (at2 a b).getD i 0) bs) → k = due := by
    intro k hk
    cases due with
    | true => exact hk.mpr (hmade.1 rfl)
    | false =>
      cases k with
      | false => rfl
      | true => exact absurd (hk.mp rfl) (hmade.2 rfl _)
  simp_all_arith [bdsL_len]
  refine step_new hns h1 h3 hbs hin ?_
  simp_all_arith [meth_names_s]
  refine FR.use (Step_names_ok ns bs) ?_
  rintro _ _ rfl
  simp_all_arith [rn, meth_given_s]
  refine FR.use (Step_given_ok ns bs) ?_
  rintro _ _ rfl
  simp_all_arith [rb, meth_empty_s]
  refine FR.use (Step_empty_ok ns bs) ?_
  rintro _ _ rfl
  rw [hem]
  simp_all_arith [repr_bl, meth_holds]
  refine FR.use (holds_ok ns bs a b h3 hin (by omega) (by omega)) ?_
  rintro _ _ ⟨k, rfl, hk⟩
  obtain rfl := hdue hk
  simp_all_arith [repr_bl]
  refine step_new hns h1 h3 hbs hin ?_
  simp_all_arith [meth_holds]
  refine FR.use (holds_ok ns bs a b h3 hin (by omega) (by omega)) ?_
  rintro _ _ ⟨k2, rfl, hk2⟩
  obtain rfl := hdue hk2
  simp_all_arith [repr_bl]
  refine sat_forL (fun pre r => ∃ w2 x9 x11 x12, r = [some (own w2), some (sh (.int ns.length)), some (sh (.int sz)), some (sh (.tup (strsL ns))), some (sh (.tup (intsL a))), some (sh (.tup (intsL b))), some (sh (.tup (bdsL bs))), some (sh (.bl k2)), some (sh (stepD ns bs)), x9, none, x11, x12] ∧ Wk (n + 3000 + 100 * pre.length) w2) ⟨_, _, _, _, rfl, hw'.mono (by simp; omega)⟩ ?_ ?_
  · rintro pre x post r e ⟨w2, x9, x11, x12, rfl, hw2⟩
    obtain ⟨rfl, hp⟩ := rangeL_split e
    have hp : pre.length < 8 := by simpa using hp
    simp -dsimp only [↓bindK_eq, ↓bindK_one, ↓bindK_many, ↓tupK_tup, ↓tupK_lst, ↓setsK_cons, ↓setsK_nil, ↓setK_zero, ↓setK_succ, ↓setK_nil]
    refine sat_mono (body10 hw2 (by omega) hns h1 h3 (by omega) (by omega) hab hbb hin) (fun f r2 hh => ?_) (fun _ _ hh => hh.elim)
    obtain ⟨rfl, w3, x11, x12, rfl, hw3⟩ := hh
    simp_arith
    refine ⟨_, _, _, _, rfl, hw3.mono ?_⟩
    simp only [List.length_append, List.length_cons, List.length_nil]
    omega
  · rintro r ⟨w2, x9, x11, x12, rfl, hw2⟩
    have hin0 : inE (tipsOf ns) [] := by simp [inE]
    have hem0 : (tabOf (tipsOf ns) []).isNone = false := by
      obtain ⟨M, eM⟩ := tab_yes hin0 (φ := fun _ => 0) keepF_nil
      rw [eM]
      rfl
    have eb0 : bdsL [] = [] := rfl
    simp_all_arith
    refine step_new0 hns h1 h3 ?_
    simp_all_arith [meth_given_s]
    refine FR.use (Step_given_ok ns []) ?_
    rintro _ _ rfl
    have d0 : deqv (.tup []) (.tup []) = some true := rfl
    have itt : ∀ b : Bool, isD (.bl b) (.bl b) = some true := fun b => by cases b <;> rfl
    simp_all_arith [eb0, d0, meth_empty_s]
    refine FR.use (Step_empty_ok ns []) ?_
    rintro _ _ rfl
    rw [hem0]
    simp_all_arith [itt, meth_holds]
    refine FR.use (holds_ok ns [] a b h3 hin0 (by omega) (by omega)) ?_
    rintro _ _ ⟨k3, rfl, hk3⟩
    obtain rfl : k3 = true := hk3.mpr keepF_nil
    simp_all_arith [itt]
    try trivial
theorem law_ok (ns : List Int) (hl : ns.length ≤ 63) : (f_law.sem [sh (.lst (ns.map D.int))]).sat (fun r _ => r = sh (.bl true)) NX := by
  simp -dsimp only [f_law, FS.of, b_law, N_law]; simp_arith
  simp_all_arith [List.length_map]
  have hm : ∃ m : Int, (if (if (ns.length : Int) < 8 then (ns.length : Int) else 8) > 1 then (if (ns.length : Int) < 8 then (ns.length : Int) else 8) else 1) = m ∧ 1 ≤ m ∧ m ≤ 8 := by
    refine ⟨_, rfl, ?_, ?_⟩ <;> (repeat' split) <;> omega
  obtain ⟨m, em, m1, m3⟩ := hm
  simp_all_arith [em]
  refine sat_forL (fun pre r => ∃ x, r = [some (sh (.lst (ns.map D.int))), x]) ⟨_, rfl⟩ ?_ ?_
  · rintro pre x post r e ⟨x1, rfl⟩
    obtain ⟨rfl, hp⟩ := rangeL_split e
    simp_all_arith
    refine FR.use (purse_ok ns pre.length (by omega) hl) ?_
    rintro _ _ ⟨w, rfl, hw⟩
    simp_all_arith
    refine FR.use (right_ok hw (by decide)) ?_
    rintro _ _ rfl
    simp_all_arith
    exact ⟨_, rfl⟩
  · rintro r ⟨x1, rfl⟩
    simp_all_arith
    try trivial
theorem law_ok' : LawOk f_law 63 := ⟨rfl, fun ns hl => by
  obtain ⟨t, o, h, rfl⟩ := FR.ex (law_ok ns hl)
  exact ⟨_, _, h, rfl⟩⟩

end Mi.Law

theorem PySem.Challenge.cw_boundrounds_k10_steps_told_holds : PySem.Challenge.rw_boundrounds_k10_steps_told.Holds := by
  exact law_from Mi.Law.law_ok'
