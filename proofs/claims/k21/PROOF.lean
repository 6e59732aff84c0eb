import PyProof.Rows.All
import Wide.All
import OpenK.AllK
import Wide.FinOn
import PyProof.ReprReads
import PyProof.P3Statements
import PyProof.EqLayable
import HandS.Base
import HandS.Call
import HandS.List
import HandS.Comp
import HandS.Exc
import HandS.ExcValue
import HandS.Style
import HandS.TupAny
import HandS.Deep
import HandS.WideBits
import HandS.Wide
import HandS.IsInst
import PyProof.SumWalkG
import PyProof.ListOps
import PyProof.Commute
import HandS.Iter
import PyProof.ZipIter
import KE.GoesEnum
import KE.GoesEnumKw
import HandS.MakeKw
import PyProof.Rows.CallKw2
import PyProof.Rows.CallKwBuiltin
import PyProof.CallFns
import PyProof.StrHeap
import HandS.ExcIs
import KE.KExcIs
import HandS.Rev
import HandS.Conv
import HandS.ExcOwn
import HandS.Ends
import HandS.HeadEnd
import HandS.Words
import HandS.WordsExc
import HandS.Defaults
import HandS.More
import KE.KStateDown
import HandS.Head0
import HandS.Head1
import HandS.Head2
import HandS.HeadHook1
import HandS.HeadHook2
import PySem.Challenge.RW_lookstell_k21_whole_worths_of_looks_toge
set_option Elab.async false
set_option linter.all false
set_option maxRecDepth 100000
/-! A small evaluator of one's own for the Python that the linked texts use: values D, own syntax CE | CS, cells in a store Mu. Lists are frozen data (.lst) or cells (.ref). Plain Lean. -/
namespace PyE
open PySem

abbrev Fid := Nat
inductive D where
  | none | bl (b : Bool) | int (i : Int) | str (s : Str)
  | tup (xs : List D) | lst (xs : List D) | ref (n : Nat) | fn (f : Fid) | dct | exc (c : Fid) (v : D) | scr (xs : List Int)
  deriving Inhabited

abbrev Mu := List (List D)
abbrev Ro := List (Option D)

inductive Res (α : Type) where
  | ok (a : α) (μ : Mu) | exc (c : Fid) (v : D) (μ : Mu) | err
def Res.bind {α β : Type} : Res α → (α → Mu → Res β) → Res β
  | .ok a μ, f => f a μ
  | .exc c v μ, _ => .exc c v μ
  | .err, _ => .err
/-- within a comprehension nothing may be raised -/
def Res.nox {α : Type} : Res α → Res α
  | .ok a μ => .ok a μ
  | _ => .err

/-! ### data -/
mutual
def D.py (R : Nat → Option PyData) : D → Option PyData
  | .none => some .none
  | .bl b => some (.bool b)
  | .int i => some (.int i)
  | .str s => some (.str s)
  | .tup xs => (D.pyL R xs).map .tuple
  | .lst xs => (D.pyL R xs).map .list
  | .ref n => R n
  | .dct => some (.dict [])
  | .fn _ => Option.none
  | .exc _ _ => Option.none
  | .scr xs => some (.list (xs.map .int))
def D.pyL (R : Nat → Option PyData) : List D → Option (List PyData)
  | [] => some []
  | x :: xs => (D.py R x).bind fun a => (D.pyL R xs).map fun b => a :: b
end
def tab (μ : Mu) : Nat → Nat → Option PyData
  | 0, _ => Option.none
  | k + 1, n => match μ[n]? with
    | some xs => (D.pyL (tab μ k) xs).map .list
    | Option.none => Option.none
abbrev FUEL : Nat := 8
def LIM : Nat := 16777216
def view (μ : Mu) (d : D) : Option PyData := d.py (tab μ FUEL)

/-- the items of a list or tuple -/
def items (μ : Mu) : D → Option (List D)
  | .scr xs => some (xs.map .int)
  | .lst xs => some xs
  | .tup xs => some xs
  | .ref n => μ[n]?
  | _ => Option.none
/-- .. of a list -/
def litems (μ : Mu) : D → Option (List D)
  | .lst xs => some xs
  | .ref n => μ[n]?
  | _ => Option.none
/-- .. of what may be sliced -/
def sitems (μ : Mu) : D → Option (List D)
  | .scr xs => some (xs.map .int)
  | d => litems μ d
def truth (μ : Mu) : D → Option Bool
  | .none => some false
  | .bl b => some b
  | .int i => some (i != 0)
  | .str s => if s.length ≤ LIM then some (s.length != 0) else none
  | .tup xs => some (!xs.isEmpty)
  | .lst xs => some (!xs.isEmpty)
  | .ref n => (μ[n]?).map fun xs => !xs.isEmpty
  | _ => Option.none

/-! ### operators -/
inductive Ty where
  | tint | tbool | tstr | tlist | ttuple | tdict | tval | tcls (c : Fid)
  deriving DecidableEq
inductive Op where
  | add | sub | mul | fdiv | mod | pow | neg
  | eq | ne | lt | le | gt | ge | isn | notn | isb (b : Bool) | in_ | notin
  | idx | slc (lo hi : Bool) | rev
  | len | abs | int_ | bool_ | repr | max2 | min2 | sum1 | sum2 | all | any | sorted | list | tuple
  | isi (ts : List Ty) | tup | lst | attr | bitlen | scount | lcount | index | lrange
  deriving DecidableEq

/-- what an operator gives: a value that stands, or the items of a list just made -/
inductive PR where
  | v (d : D) | new (xs : List D)

def rng62 (i : Int) : Bool := decide (-(2 ^ 62) ≤ i) && decide (i < 2 ^ 62)
def newL (xs : List D) : Option PR := if xs.length ≤ LIM then some (.new xs) else Option.none
def mulOk (i j : Int) : Bool := decide (i.natAbs.log2 + j.natAbs.log2 < 100000000)
/-- the place of an index, of either sign -/
def place (i : Int) (n : Nat) : Option Nat := if 0 ≤ i then (if i < n then some i.toNat else Option.none) else (if -(n : Int) ≤ i then some (i + n).toNat else Option.none)
/-- a slice's end, clamped -/
def clamp (i : Int) (n : Nat) : Nat := if 0 ≤ i then min i.toNat n else (i + n).toNat
def cut (xs : List D) (lo hi : Nat) : List D := (xs.take hi).drop lo

def asInt : D → Option Int
  | .int i => some i
  | _ => Option.none
def asInts : List D → Option (List Int)
  | [] => some []
  | .int i :: r => (asInts r).map fun l => i :: l
  | _ :: _ => Option.none
def asBools : List D → Option (List Bool)
  | [] => some []
  | .bl b :: r => (asBools r).map fun l => b :: l
  | _ :: _ => Option.none
def eqD (μ : Mu) (x y : D) : Option Bool := (view μ x).bind fun a => (view μ y).bind fun b => if SeqAt.shaped a && SeqAt.shaped b then some (PyData.eqv a b) else Option.none
/-- order of ints; of tuples of ints -/
def lexLt : List Int → List Int → Bool
  | [], [] => false
  | [], _ :: _ => true
  | _ :: _, [] => false
  | a :: r, b :: s => if a = b then lexLt r s else decide (a < b)
def tyB : D → Ty → Bool
  | .int _, .tint => true
  | .bl _, .tint => true
  | .bl _, .tbool => true
  | .str _, .tstr => true
  | .tup _, .ttuple => true
  | .lst _, .tlist => true
  | .ref _, .tlist => true
  | .scr _, .tlist => true
  | .dct, .tdict => true
  | _, _ => false
def tyIs (sub : Fid → Fid → Bool) (d : D) (t : Ty) : Option Bool := match d with
  | .fn _ => none
  | .exc c _ => match t with
    | .tcls k => some (sub c k)
    | .tval => some true
    | _ => none
  | _ => match t with
    | .tcls _ => none
    | .tval => none
    | _ => some (tyB d t)
def isiS (sub : Fid → Fid → Bool) (d : D) : List Ty → Option Bool
  | [] => some false
  | t :: ts => (tyIs sub d t).bind fun b => (isiS sub d ts).map fun r => b || r
def inS (μ : Mu) (x y : D) : Option Bool := (view μ x).bind fun d => (view μ y).bind fun l => match l with
  | .list ds => if SeqAt.shaped d && SeqAt.shaped (.list ds) then some (ds.any fun z => PyData.eqv z d) else none
  | _ => none

def sumLists (μ : Mu) : List D → Option (List D)
  | [] => some []
  | x :: r => (litems μ x).bind fun xs => (sumLists μ r).map fun ys => xs ++ ys

structure Cfg where
  /-- subclasses (own error classes; 0 is the base) -/
  sub : Fid → Fid → Bool
  /-- bounds of while loops -/
  W : Nat

def addS (μ : Mu) : D → D → Option PR
  | .int i, .int j => some (.v (.int (i + j)))
  | .str x, .str y => if x.length + y.length ≤ LIM then some (.v (.str (x ++ y))) else none
  | .tup xs, .tup ys => if xs.length + ys.length ≤ LIM then some (.v (.tup (xs ++ ys))) else none
  | .lst xs, .lst ys => newL (xs ++ ys)
  | .lst xs, .ref n => (μ[n]?).bind fun ys => newL (xs ++ ys)
  | .ref n, .lst ys => (μ[n]?).bind fun xs => newL (xs ++ ys)
  | .ref n, .ref m => (μ[n]?).bind fun xs => (μ[m]?).bind fun ys => newL (xs ++ ys)
  | _, _ => none
def mulS (μ : Mu) : D → D → Option PR
  | .int i, .int j => if mulOk i j = true then some (.v (.int (i * j))) else none
  | .lst xs, .int j => if rng62 j = true ∧ xs.length * j.toNat ≤ LIM then some (.new (List.replicate j.toNat xs).flatten) else none
  | .ref n, .int j => (μ[n]?).bind fun xs => if rng62 j = true ∧ xs.length * j.toNat ≤ LIM then some (.new (List.replicate j.toNat xs).flatten) else none
  | _, _ => none
def intO (f : Int → Int → Option PR) : D → D → Option PR
  | .int i, .int j => f i j
  | _, _ => none
def ltS : D → D → Option PR
  | .int i, .int j => some (.v (.bl (decide (i < j))))
  | .tup xs, .tup ys => (asInts xs).bind fun a => (asInts ys).map fun b => .v (.bl (lexLt a b))
  | _, _ => none
def isNone : D → Bool
  | .none => true
  | _ => false
def isBl (b : Bool) : D → Bool
  | .bl c => b == c
  | _ => false
def idxS (μ : Mu) (x : D) : D → Option PR
  | .int i => (items μ x).bind fun xs => (place i xs.length).bind fun k => (xs[k]?).map .v
  | _ => none
def cutAt (o : Option Int) (n d : Nat) : Nat := match o with
  | some i => clamp i n
  | none => d
def slcS (μ : Mu) (x : D) (lo hi : Option Int) : Option PR := (sitems μ x).map fun xs => .new (cut xs (cutAt lo xs.length 0) (cutAt hi xs.length xs.length))
def lenS (μ : Mu) : D → Option PR
  | .str s => if s.length ≤ LIM then some (.v (.int s.length)) else none
  | x => (items μ x).map fun xs => .v (.int xs.length)
def absS : D → Option PR
  | .int i => some (.v (.int (if i < 0 then -i else i)))
  | _ => none
def intS : D → Option PR
  | .int i => some (.v (.int i))
  | .bl b => some (.v (.int (if b = true then 1 else 0)))
  | _ => none
def boolS : D → Option PR
  | .int i => some (.v (.bl (i != 0)))
  | .bl b => some (.v (.bl b))
  | _ => none
def reprOk (a : PyData) : Bool := a.showable && decide (a.shown.length ≤ LIM) && decide (a.depth ≤ 64)
def reprS (μ : Mu) (x : D) : Option PR := (view μ x).bind fun a => if reprOk a = true then some (.v (.str a.shown)) else none
def sum2S (μ : Mu) (x : D) : D → Option PR
  | .lst [] => (litems μ x).bind fun xs => if xs.isEmpty = true then some (.v (.lst [])) else (sumLists μ xs).bind newL
  | _ => none
def insI (i : Int) : List Int → List Int
  | [] => [i]
  | j :: l => if i ≤ j then i :: j :: l else j :: insI i l
def isort : List Int → List Int
  | [] => []
  | i :: l => insI i (isort l)
def sortedS (μ : Mu) (x : D) : Option PR := (litems μ x).bind fun xs => (asInts xs).bind fun l => if l.length < 64 then some (.new ((isort l).map .int)) else none
def ibits (i : Int) : Nat := if i = 0 then 0 else i.natAbs.log2 + 1
def lrangeS : D → Option PR
  | .int j => if j ≤ LIM ∧ -(2 ^ 62) ≤ j then some (.new ((List.range j.toNat).map fun k : Nat => .int (k : Int))) else none
  | _ => none
def divOk (j : Int) : Bool := decide (j ≠ 0) && decide (j.natAbs.log2 < 9000)
def attrS : D → Option PR
  | .exc _ v => some (.v v)
  | _ => none
def bitS : D → Option PR
  | .int i => some (.v (.int (ibits i : Nat)))
  | _ => none
def powS (i j : Int) : Option PR := if 0 ≤ j ∧ ibits i * j.toNat ≤ 100000000 then some (.v (.int (i ^ j.toNat))) else none
def opS (C : Cfg) (μ : Mu) : Op → List D → Option PR
  | .add, [x, y] => addS μ x y
  | .sub, [x, y] => intO (fun i j => some (.v (.int (i - j)))) x y
  | .mul, [x, y] => mulS μ x y
  | .fdiv, [x, y] => intO (fun i j => if divOk j = true then some (.v (.int (i.fdiv j))) else none) x y
  | .mod, [x, y] => intO (fun i j => if j = 0 then none else some (.v (.int (i.fmod j)))) x y
  | .pow, [x, y] => intO powS x y
  | .neg, [x] => intO (fun i _ => some (.v (.int (-i)))) x (.int 0)
  | .eq, [x, y] => (eqD μ x y).map fun b => .v (.bl b)
  | .ne, [x, y] => (eqD μ x y).map fun b => .v (.bl !b)
  | .lt, [x, y] => ltS x y
  | .le, [x, y] => intO (fun i j => some (.v (.bl (decide (i ≤ j))))) x y
  | .gt, [x, y] => intO (fun i j => some (.v (.bl (decide (j < i))))) x y
  | .ge, [x, y] => intO (fun i j => some (.v (.bl (decide (j ≤ i))))) x y
  | .isn, [x] => some (.v (.bl (isNone x)))
  | .notn, [x] => some (.v (.bl !(isNone x)))
  | .isb b, [x] => some (.v (.bl (isBl b x)))
  | .in_, [x, y] => (inS μ x y).map fun b => .v (.bl b)
  | .notin, [x, y] => (inS μ x y).map fun b => .v (.bl !b)
  | .idx, [x, i] => idxS μ x i
  | .slc false false, [x] => slcS μ x none none
  | .slc true false, [x, i] => (asInt i).bind fun i => slcS μ x (some i) none
  | .slc false true, [x, j] => (asInt j).bind fun j => slcS μ x none (some j)
  | .slc true true, [x, i, j] => (asInt i).bind fun i => (asInt j).bind fun j => slcS μ x (some i) (some j)
  | .rev, [x] => (litems μ x).map fun xs => .new xs.reverse
  | .len, [x] => lenS μ x
  | .abs, [x] => absS x
  | .int_, [x] => intS x
  | .bool_, [x] => boolS x
  | .repr, [x] => reprS μ x
  | .max2, [x, y] => intO (fun i j => some (.v (.int (if j > i then j else i)))) x y
  | .min2, [x, y] => intO (fun i j => some (.v (.int (if j < i then j else i)))) x y
  | .sum1, [x] => (litems μ x).bind fun xs => (asInts xs).map fun l => .v (.int l.sum)
  | .sum2, [x, y] => sum2S μ x y
  | .sorted, [x] => sortedS μ x
  | .all, [x] => (litems μ x).bind fun xs => (asBools xs).map fun l => .v (.bl (l.all id))
  | .any, [x] => (litems μ x).bind fun xs => (asBools xs).map fun l => .v (.bl (l.any id))
  | .list, [x] => (items μ x).map .new
  | .tuple, [x] => (items μ x).map fun xs => .v (.tup xs)
  | .isi ts, [x] => (isiS C.sub x ts).map fun b => .v (.bl b)
  | .tup, xs => some (.v (.tup xs))
  | .lst, xs => some (.new xs)
  | .attr, [x] => attrS x
  | .bitlen, [x] => bitS x
  | .lrange, [x] => lrangeS x
  | _, _ => none

/-! ### own syntax -/
inductive MOp where
  | append | pop | popi | insert
  deriving DecidableEq
/-- a target: a slot, or a tuple of slots -/
inductive Tg where
  | nm (i : Nat) | tp (l : List Nat)
  deriving DecidableEq
def Tg.slots : Tg → List Nat
  | .nm i => [i]
  | .tp l => l
inductive CE where
  | con (d : D) | v (i : Nat) | fnv (f : Fid)
  | op (o : Op) (es : CE) | mop (m : MOp) (o es : CE)
  | not_ (a : CE) | and_ (a b : CE) | or_ (a b : CE) | chain (o1 o2 : Op) (a b c : CE)
  | ite (t a b : CE) | cell (e : CE)
  | call (f : Fid) (perm : List Nat) (es : CE) | callv (g es : CE) | mk (c : Fid) (e : CE)
  | comp (t : Tg) (it c e : CE) | comp2 (t : Tg) (it : CE) (t1 : Tg) (it1 c e : CE)
  | iseq (a : CE) | irng1 (a : CE) | irng2 (a b : CE) | irng3 (a b c : CE) | izip (strict : Bool) (a b : CE) | ienum (a : CE)
  | nil | cons (e es : CE)
inductive CS where
  | asg (t : Tg) (e : CE) | sub (o i e : CE) | aug (i : Nat) (op : Op) (e : CE) | augs (o i : CE) (op : Op) (e : CE)
  | ex (e : CE) | ret (e : CE) | retn | if_ (t : CE) (a b : CS) | for_ (t : Tg) (it : CE) (b : CS) | while_ (t : CE) (b : CS)
  | raise (c : Fid) (e : CE) | try_ (b : CS) (c : Fid) (i : Nat) (h : CS) | pass | brk | cont | bad
  | nil | cons (s r : CS)

/-! ### what it does -/
abbrev Cl := Fid → List D → Mu → Res D
structure Src where
  xs : List D
  gs : List (Nat × List D) := []
open Classical in
noncomputable def Src.okAt (s : Src) (μ : Mu) : Bool := s.gs.all fun p => decide (μ[p.1]? = some p.2)

def lift {α : Type} (o : Option α) (μ : Mu) : Res α := match o with
  | some a => .ok a μ
  | none => .err
@[simp] theorem lift_some {α : Type} (a : α) (μ : Mu) : lift (some a) μ = .ok a μ := (rfl)
@[simp] theorem lift_none {α : Type} (μ : Mu) : lift (none : Option α) μ = .err := (rfl)

def wipe (ρ : Ro) : List Nat → Ro
  | [] => ρ
  | v :: vs => (wipe ρ vs).set v none
def setAll : List Nat → List D → Ro → Option Ro
  | [], [], ρ => some ρ
  | i :: is, d :: ds, ρ => setAll is ds (ρ.set i (some d))
  | _, _, _ => none
def setT (μ : Mu) : Tg → D → Ro → Option Ro
  | .nm i, d, ρ => some (ρ.set i (some d))
  | .tp l, .tup xs, ρ => setAll l xs ρ
  | .tp _, _, _ => none

/-- of a size that C's lists may have -/
def chk (xs : List D) (μ : Mu) : Res (List D) := if xs.length ≤ LIM then .ok xs μ else .err
noncomputable def compL (ok : Mu → Bool) (f : D → Mu → Res (List D)) : List D → Mu → Res (List D)
  | [], μ => if ok μ = true then .ok [] μ else .err
  | d :: ds, μ => if ok μ = true then (f d μ).bind fun o μ1 => (compL ok f ds μ1).bind fun r μ2 => .ok (o ++ r) μ2 else .err

def mopS (μ : Mu) : MOp → D → List D → Option (D × Mu)
  | .append, .ref n, [d] => (μ[n]?).bind fun xs => if xs.length < LIM then some (.none, μ.set n (xs ++ [d])) else none
  | .pop, .ref n, [] => (μ[n]?).bind fun xs => (xs[xs.length - 1]?).map fun d => (d, μ.set n xs.dropLast)
  | .popi, .ref n, [.int i] => (μ[n]?).bind fun xs => (place i xs.length).bind fun k => (xs[k]?).map fun d => (d, μ.set n (xs.eraseIdx k))
  | .insert, .ref n, [.int i, d] => (μ[n]?).bind fun xs => if xs.length < LIM ∧ 0 ≤ i ∧ i < 2 ^ 62 then some (.none, μ.set n (xs.take i.toNat ++ [d] ++ xs.drop i.toNat)) else none
  | _, _, _ => none
/-- x[i] = d -/
def subS (μ : Mu) : D → D → D → Option Mu
  | .ref n, .int i, d => (μ[n]?).bind fun xs => (place i xs.length).map fun k => μ.set n (xs.set k d)
  | _, _, _ => none

def prD : PR → D
  | .v d => d
  | .new xs => .lst xs
def prN : PR → Option (List D)
  | .v _ => none
  | .new xs => some xs

def rangeD (lo : Int) (n : Nat) : List D := (List.range n).map fun (k : Nat) => .int (lo + (k : Int))
def rangeC (lo c : Int) (n : Nat) : List D := (List.range n).map fun (k : Nat) => .int (lo + (k : Int) * c)
def enumD (xs : List D) : List D := (List.range xs.length).zipWith (fun (k : Nat) x => .tup [.int (k : Int), x]) xs
def zipD (xs ys : List D) : List D := List.zipWith (fun x y => .tup [x, y]) xs ys
def guard (d : D) (xs : List D) : List (Nat × List D) := match d with
  | .ref n => [(n, xs)]
  | _ => []
/-- how many turns range(i, j, c) has -/
def rangeN (i j c : Int) : Option Nat := if c = 0 then none else some (if 0 < c then ((j - i + c - 1) / c).toNat else ((i - j - c - 1) / (-c)).toNat)

def getV (ρ : Ro) (i : Nat) : Option D := match ρ[i]? with
  | some (some d) => some d
  | _ => none
def opR (C : Cfg) (o : Op) (vs : List D) (μ : Mu) : Res D := lift ((opS C μ o vs).map prD) μ
def lift2 (o : Option (D × Mu)) : Res D := match o with
  | some (r, μ) => .ok r μ
  | none => .err
def asB : D → Option Bool
  | .bl b => some b
  | _ => none
def asRef : D → Option Nat
  | .ref n => some n
  | _ => none
def asFn : D → Option Fid
  | .fn f => some f
  | _ => none
def as01 : List D → Option D
  | [] => some .none
  | [d] => some d
  | _ => none
def permD : List Nat → List D → Option (List D)
  | [], _ => some []
  | i :: is, vs => (vs[i]?).bind fun d => (permD is vs).map fun r => d :: r
def srcS (μ : Mu) (d : D) : Option Src := (items μ d).map fun xs => ⟨xs, guard d xs⟩
def srcR1 : D → Option Src
  | .int j => if j ≤ LIM ∧ -(2 ^ 62) ≤ j then some ⟨rangeD 0 j.toNat, []⟩ else none
  | _ => none
def srcR2 : D → D → Option Src
  | .int i, .int j => if j - i ≤ LIM ∧ rng62 i = true ∧ rng62 j = true then some ⟨rangeD i (j - i).toNat, []⟩ else none
  | _, _ => none
def srcR3 : D → D → D → Option Src
  | .int i, .int j, .int c => (rangeN i j c).bind fun n => if n ≤ LIM ∧ rng62 i = true ∧ rng62 j = true ∧ c.natAbs < 2 ^ 30 then some ⟨rangeC i c n, []⟩ else none
  | _, _, _ => none
def srcZ (strict : Bool) (μ : Mu) (d d2 : D) : Option Src := (litems μ d).bind fun xs => (litems μ d2).bind fun ys =>
  if strict = true ∧ xs.length ≠ ys.length then none else some ⟨zipD xs ys, guard d xs ++ guard d2 ys⟩
def srcE (μ : Mu) (d : D) : Option Src := (litems μ d).map fun xs => ⟨enumD xs, guard d xs⟩

mutual
noncomputable def eE (C : Cfg) (cl : Cl) : CE → Ro → Mu → Res D
  | .con d, _, μ => .ok d μ
  | .v i, ρ, μ => lift (getV ρ i) μ
  | .fnv f, _, μ => .ok (.fn f) μ
  | .op o es, ρ, μ => (eA C cl es ρ μ).bind fun vs μ1 => opR C o vs μ1
  | .mop m o es, ρ, μ => (eE C cl o ρ μ).bind fun d μ1 => (lift (asRef d) μ1).bind fun n μ2 => (eA C cl es ρ μ2).bind fun vs μ3 => lift2 (mopS μ3 m (.ref n) vs)
  | .not_ a, ρ, μ => (eE C cl a ρ μ).bind fun d μ1 => (lift (asB d) μ1).bind fun b μ2 => .ok (.bl !b) μ2
  | .and_ a b, ρ, μ => (eE C cl a ρ μ).bind fun d μ1 => (lift (asB d) μ1).bind fun t μ2 => if t = true then eE C cl b ρ μ2 else .ok d μ2
  | .or_ a b, ρ, μ => (eE C cl a ρ μ).bind fun d μ1 => (lift (asB d) μ1).bind fun t μ2 => if t = true then .ok d μ2 else eE C cl b ρ μ2
  | .chain o1 o2 a b c, ρ, μ => (eE C cl a ρ μ).bind fun x μ1 => (eE C cl b ρ μ1).bind fun y μ2 => (opR C o1 [x, y] μ2).bind fun t μ3 => (lift (asB t) μ3).bind fun t μ3 => if t = true then (eE C cl c ρ μ3).bind fun z μ4 => opR C o2 [y, z] μ4 else .ok (.bl false) μ3
  | .ite t a b, ρ, μ => (eE C cl t ρ μ).bind fun d μ1 => (lift (truth μ1 d) μ1).bind fun t μ2 => if t = true then eE C cl a ρ μ2 else eE C cl b ρ μ2
  | .cell e, ρ, μ => (eN C cl e ρ μ).bind fun xs μ1 => .ok (.ref μ1.length) (μ1 ++ [xs])
  | .call f perm es, ρ, μ => (eA C cl es ρ μ).bind fun vs μ1 => (lift (permD perm vs) μ1).bind fun ws μ2 => cl f ws μ2
  | .callv g es, ρ, μ => (eE C cl g ρ μ).bind fun d μ1 => (lift (asFn d) μ1).bind fun f μ2 => (eA C cl es ρ μ2).bind fun vs μ3 => cl f vs μ3
  | .mk c e, ρ, μ => (eA C cl e ρ μ).bind fun vs μ1 => (lift (as01 vs) μ1).bind fun d μ2 => .ok (.exc c d) μ2
  | .comp t it c e, ρ, μ => (eI C cl it ρ μ).bind fun s μ0 => (compL s.okAt (fun d μ1 => (lift (setT μ1 t d (wipe ρ t.slots)) μ1).bind fun ρ1 μ2 =>
      (eC C cl c ρ1 μ2).nox.bind fun b μ3 => if b = true then (eE C cl e ρ1 μ3).nox.bind fun x μ4 => .ok [x] μ4 else .ok [] μ3) s.xs μ0).bind fun xs μ5 => .ok (.lst xs) μ5
  | .comp2 t it t1 it1 c e, ρ, μ => (eI C cl it ρ μ).bind fun s μ0 => (compL s.okAt (fun d μ1 => (lift (setT μ1 t d (wipe (wipe ρ t1.slots) t.slots)) μ1).bind fun ρ1 μ2 =>
      (eI C cl it1 ρ1 μ2).nox.bind fun s1 μ3 => compL s1.okAt (fun d1 μ4 => (lift (setT μ4 t1 d1 (wipe ρ1 t1.slots)) μ4).bind fun ρ2 μ5 =>
      (eC C cl c ρ2 μ5).nox.bind fun b μ6 => if b = true then (eE C cl e ρ2 μ6).nox.bind fun x μ7 => .ok [x] μ7 else .ok [] μ6) s1.xs μ3) s.xs μ0).bind fun xs μ8 => (chk xs μ8).bind fun xs μ9 => .ok (.lst xs) μ9
  | .iseq _, _, _ => .err
  | .irng1 _, _, _ => .err
  | .irng2 _ _, _, _ => .err
  | .irng3 _ _ _, _, _ => .err
  | .izip _ _ _, _, _ => .err
  | .ienum _, _, _ => .err
  | .nil, _, _ => .err
  | .cons _ _, _, _ => .err
/-- the items of a list just made -/
noncomputable def eN (C : Cfg) (cl : Cl) : CE → Ro → Mu → Res (List D)
  | .op o es, ρ, μ => (eA C cl es ρ μ).bind fun vs μ1 => lift ((opS C μ1 o vs).bind prN) μ1
  | .comp t it c e, ρ, μ => (eI C cl it ρ μ).bind fun s μ0 => compL s.okAt (fun d μ1 => (lift (setT μ1 t d (wipe ρ t.slots)) μ1).bind fun ρ1 μ2 =>
      (eC C cl c ρ1 μ2).nox.bind fun b μ3 => if b = true then (eE C cl e ρ1 μ3).nox.bind fun x μ4 => .ok [x] μ4 else .ok [] μ3) s.xs μ0
  | .comp2 t it t1 it1 c e, ρ, μ => (eI C cl it ρ μ).bind fun s μ0 => (compL s.okAt (fun d μ1 => (lift (setT μ1 t d (wipe (wipe ρ t1.slots) t.slots)) μ1).bind fun ρ1 μ2 =>
      (eI C cl it1 ρ1 μ2).nox.bind fun s1 μ3 => compL s1.okAt (fun d1 μ4 => (lift (setT μ4 t1 d1 (wipe ρ1 t1.slots)) μ4).bind fun ρ2 μ5 =>
      (eC C cl c ρ2 μ5).nox.bind fun b μ6 => if b = true then (eE C cl e ρ2 μ6).nox.bind fun x μ7 => .ok [x] μ7 else .ok [] μ6) s1.xs μ3) s.xs μ0).bind chk
  | _, _, _ => .err
/-- a clause's test; nil: none -/
noncomputable def eC (C : Cfg) (cl : Cl) : CE → Ro → Mu → Res Bool
  | .nil, _, μ => .ok true μ
  | .cons e _, ρ, μ => (eE C cl e ρ μ).bind fun d μ1 => lift (truth μ1 d) μ1
  | _, _, _ => .err
noncomputable def eA (C : Cfg) (cl : Cl) : CE → Ro → Mu → Res (List D)
  | .nil, _, μ => .ok [] μ
  | .cons e es, ρ, μ => (eE C cl e ρ μ).bind fun d μ1 => (eA C cl es ρ μ1).bind fun ds μ2 => .ok (d :: ds) μ2
  | _, _, _ => .err
noncomputable def eI (C : Cfg) (cl : Cl) : CE → Ro → Mu → Res Src
  | .iseq a, ρ, μ => (eE C cl a ρ μ).bind fun d μ1 => lift (srcS μ1 d) μ1
  | .irng1 a, ρ, μ => (eE C cl a ρ μ).bind fun d μ1 => lift (srcR1 d) μ1
  | .irng2 a b, ρ, μ => (eE C cl a ρ μ).bind fun d μ1 => (eE C cl b ρ μ1).bind fun d2 μ2 => lift (srcR2 d d2) μ2
  | .irng3 a b c, ρ, μ => (eE C cl a ρ μ).bind fun d μ1 => (eE C cl b ρ μ1).bind fun d2 μ2 => (eE C cl c ρ μ2).bind fun d3 μ3 => lift (srcR3 d d2 d3) μ3
  | .izip strict a b, ρ, μ => (eE C cl a ρ μ).bind fun d μ1 => (eE C cl b ρ μ1).bind fun d2 μ2 => lift (srcZ strict μ2 d d2) μ2
  | .ienum a, ρ, μ => (eE C cl a ρ μ).bind fun d μ1 => lift (srcE μ1 d) μ1
  | _, _, _ => .err
end

/-! ### statements -/
inductive Out where
  | next (ρ : Ro) (μ : Mu) | brk (ρ : Ro) (μ : Mu) | cont (ρ : Ro) (μ : Mu) | ret (d : D) (μ : Mu) | exc (c : Fid) (v : D) (ρ : Ro) (μ : Mu) | err
def Res.out {α : Type} (r : Res α) (ρ : Ro) (k : α → Mu → Out) : Out := match r with
  | .ok a μ => k a μ
  | .exc c v μ => .exc c v ρ μ
  | .err => .err
def Out.seq : Out → (Ro → Mu → Out) → Out
  | .next ρ μ, k => k ρ μ
  | .brk ρ μ, _ => .brk ρ μ
  | .cont ρ μ, _ => .cont ρ μ
  | .ret d μ, _ => .ret d μ
  | .exc c v ρ μ, _ => .exc c v ρ μ
  | .err, _ => .err
def Out.catch : Out → (Fid → D → Ro → Mu → Out) → Out
  | .exc c v ρ μ, k => k c v ρ μ
  | .next ρ μ, _ => .next ρ μ
  | .brk ρ μ, _ => .brk ρ μ
  | .cont ρ μ, _ => .cont ρ μ
  | .ret d μ, _ => .ret d μ
  | .err, _ => .err
def Out.unset (i : Nat) : Out → Out
  | .next ρ μ => .next (ρ.set i none) μ
  | .brk ρ μ => .brk (ρ.set i none) μ
  | .cont ρ μ => .cont (ρ.set i none) μ
  | .ret d μ => .ret d μ
  | .exc _ _ _ _ => .err
  | .err => .err
def liftM (o : Option Mu) (ρ : Ro) : Out := match o with
  | some μ => .next ρ μ
  | none => .err
/-- a turn's end: next | continue go on, break leaves -/
def Out.turn : Out → (Ro → Mu → Out) → Out
  | .next ρ μ, k => k ρ μ
  | .cont ρ μ, k => k ρ μ
  | .brk ρ μ, _ => .next ρ μ
  | .ret d μ, _ => .ret d μ
  | .exc c v ρ μ, _ => .exc c v ρ μ
  | .err, _ => .err
noncomputable def forL (ok : Mu → Bool) (f : D → Ro → Mu → Out) : List D → Ro → Mu → Out
  | [], ρ, μ => if ok μ = true then .next ρ μ else .err
  | d :: ds, ρ, μ => if ok μ = true then (f d ρ μ).turn fun ρ1 μ1 => forL ok f ds ρ1 μ1 else .err
def whileL (t : Ro → Mu → Res Bool) (f : Ro → Mu → Out) : Nat → Ro → Mu → Out
  | 0, _, _ => .err
  | n + 1, ρ, μ => (t ρ μ).out ρ fun b μ1 => if b = true then (f ρ μ1).turn fun ρ1 μ2 => whileL t f n ρ1 μ2 else .next ρ μ1
noncomputable def eT (C : Cfg) (cl : Cl) (e : CE) (ρ : Ro) (μ : Mu) : Res Bool := (eE C cl e ρ μ).bind fun d μ1 => lift (truth μ1 d) μ1
noncomputable def eS (C : Cfg) (cl : Cl) : CS → Ro → Mu → Out
  | .asg t e, ρ, μ => (eE C cl e ρ μ).out ρ fun d μ1 => (lift (setT μ1 t d ρ) μ1).out ρ fun ρ1 μ2 => .next ρ1 μ2
  | .sub o i e, ρ, μ => (eE C cl e ρ μ).out ρ fun d μ1 => (eE C cl o ρ μ1).out ρ fun x μ2 => (eE C cl i ρ μ2).out ρ fun k μ3 => liftM (subS μ3 x k d) ρ
  | .aug i op e, ρ, μ => (lift (getV ρ i) μ).out ρ fun x μ0 => (eE C cl e ρ μ0).out ρ fun y μ1 => (opR C op [x, y] μ1).out ρ fun z μ2 => .next (ρ.set i (some z)) μ2
  | .augs o i op e, ρ, μ => (eE C cl o ρ μ).out ρ fun x μ1 => (eE C cl i ρ μ1).out ρ fun k μ2 => (opR C .idx [x, k] μ2).out ρ fun y μ3 =>
      (eE C cl e ρ μ3).out ρ fun z μ4 => (opR C op [y, z] μ4).out ρ fun w μ5 => liftM (subS μ5 x k w) ρ
  | .ex e, ρ, μ => (eE C cl e ρ μ).out ρ fun _ μ1 => .next ρ μ1
  | .ret e, ρ, μ => (eE C cl e ρ μ).out ρ fun d μ1 => .ret d μ1
  | .retn, _, μ => .ret .none μ
  | .if_ t a b, ρ, μ => (eT C cl t ρ μ).out ρ fun c μ1 => if c = true then eS C cl a ρ μ1 else eS C cl b ρ μ1
  | .for_ t it b, ρ, μ => (eI C cl it ρ μ).out ρ fun s μ1 => forL s.okAt (fun d ρ1 μ2 => (lift (setT μ2 t d ρ1) μ2).out ρ1 fun ρ2 μ3 => eS C cl b ρ2 μ3) s.xs ρ μ1
  | .while_ t b, ρ, μ => whileL (eT C cl t) (fun ρ1 μ1 => eS C cl b ρ1 μ1) C.W ρ μ
  | .raise c e, ρ, μ => (eA C cl e ρ μ).out ρ fun vs μ1 => (lift (as01 vs) μ1).out ρ fun d μ2 => .exc c d ρ μ2
  | .try_ b c i h, ρ, μ => (eS C cl b ρ μ).catch fun k v ρ1 μ1 => if C.sub k c = true then (eS C cl h (ρ1.set i (some (.exc k v))) μ1).unset i else .exc k v ρ1 μ1
  | .pass, ρ, μ => .next ρ μ
  | .brk, ρ, μ => .brk ρ μ
  | .cont, ρ, μ => .cont ρ μ
  | .bad, _, _ => .err
  | .nil, ρ, μ => .next ρ μ
  | .cons s r, ρ, μ => (eS C cl s ρ μ).seq fun ρ1 μ1 => eS C cl r ρ1 μ1

/-! ### calls -/
structure Def where
  np : Nat
  ns : Nat
  body : CS
  /-- the list it hands back is a cell of the caller's -/
  kp : Bool := false
mutual
/-- cells from n on are read off -/
def D.off (n : Nat) (R : Nat → Option D) : D → Option D
  | .tup xs => (D.offL n R xs).map .tup
  | .lst xs => (D.offL n R xs).map .lst
  | .ref k => if k < n then some (.ref k) else R k
  | .exc c v => (D.off n R v).map (.exc c)
  | .none => some .none
  | .bl b => some (.bl b)
  | .int i => some (.int i)
  | .str s => some (.str s)
  | .fn f => some (.fn f)
  | .dct => some .dct
  | .scr xs => some (.scr xs)
def D.offL (n : Nat) (R : Nat → Option D) : List D → Option (List D)
  | [] => some []
  | x :: xs => (D.off n R x).bind fun a => (D.offL n R xs).map fun b => a :: b
end
def tabD (n : Nat) (μ : Mu) : Nat → Nat → Option D
  | 0, _ => none
  | k + 1, m => match μ[m]? with
    | some xs => (D.offL n (tabD n μ k) xs).map .lst
    | none => none
mutual
def D.und (n : Nat) : D → Bool
  | .tup xs => D.undL n xs
  | .lst xs => D.undL n xs
  | .ref k => decide (k < n)
  | .exc _ v => D.und n v
  | .none => true
  | .bl _ => true
  | .int _ => true
  | .str _ => true
  | .fn _ => true
  | .dct => true
  | .scr _ => true
def D.undL (n : Nat) : List D → Bool
  | [] => true
  | x :: xs => D.und n x && D.undL n xs
end
open Classical in
/-- the callee's own cells go: what of them is handed on is read off -/
noncomputable def fin (μ0 : Mu) (d : D) (μ : Mu) (k : D → Mu → Res D) : Res D :=
  if μ.length = μ0.length then k d μ
  else if ∀ i, i < μ0.length → μ[i]? = μ0[i]? ∨ ∃ xs, μ[i]? = some xs ∧ D.undL μ0.length xs = true then
    match d.off μ0.length (tabD μ0.length μ FUEL) with
    | some d' => k d' (μ.take μ0.length)
    | none => .err
  else .err
noncomputable def leave (μ : Mu) : Out → Res D
  | .next _ μ1 => fin μ D.none μ1 .ok
  | .ret d μ1 => fin μ d μ1 .ok
  | .exc c v _ μ1 => fin μ v μ1 (.exc c)
  | _ => .err
open Classical in
/-- a list handed back as a cell -/
noncomputable def keepC (μ0 : Mu) (k : Nat) (μ : Mu) : Res D := match μ[k]? with
  | some xs => if μ0.length ≤ k ∧ D.undL μ0.length xs = true ∧ (∀ i, i < μ0.length → μ[i]? = μ0[i]? ∨ ∃ ys, μ[i]? = some ys ∧ D.undL μ0.length ys = true) then .ok (.ref μ0.length) (μ.take μ0.length ++ [xs]) else .err
  | none => .err
noncomputable def leaveK (μ : Mu) : Out → Res D
  | .ret (.ref k) μ1 => keepC μ k μ1
  | .exc c v ρ μ1 => leave μ (.exc c v ρ μ1)
  | _ => .err
noncomputable def call1 (C : Cfg) (cl : Cl) (df : Def) (args : List D) (μ : Mu) : Res D :=
  if args.length = df.np then (if df.kp = true then leaveK μ (eS C cl df.body (args.map some ++ List.replicate (df.ns - df.np) none) μ) else leave μ (eS C cl df.body (args.map some ++ List.replicate (df.ns - df.np) none) μ)) else .err
noncomputable def run (C : Cfg) (tbl : Fid → Option Def) : Nat → Cl
  | 0, _, _, _ => .err
  | n + 1, f, args, μ => match tbl f with
    | some df => call1 C (run C tbl n) df args μ
    | none => .err

/-! ### the equations, for simp -/
section
variable {α β : Type} {C : Cfg} {cl : Cl} {ρ : Ro} {μ : Mu}
@[simp] theorem bind_ok (a : α) (f : α → Mu → Res β) : (Res.ok a μ).bind f = f a μ := (rfl)
@[simp] theorem bind_exc (c : Fid) (v : D) (f : α → Mu → Res β) : (Res.exc c v μ : Res α).bind f = .exc c v μ := (rfl)
@[simp] theorem bind_err (f : α → Mu → Res β) : (Res.err : Res α).bind f = .err := (rfl)
@[simp] theorem nox_ok (a : α) : (Res.ok a μ).nox = .ok a μ := (rfl)
@[simp] theorem out_ok (a : α) (k : α → Mu → Out) : (Res.ok a μ).out ρ k = k a μ := (rfl)
@[simp] theorem out_exc (c : Fid) (v : D) (k : α → Mu → Out) : (Res.exc c v μ : Res α).out ρ k = .exc c v ρ μ := (rfl)
@[simp] theorem out_err (k : α → Mu → Out) : (Res.err : Res α).out ρ k = .err := (rfl)
theorem bind_congr {r r' : Res α} {f : α → Mu → Res β} (h : r = r') : r.bind f = r'.bind f := by rw [h]
theorem out_congr {r r' : Res α} {k : α → Mu → Out} (h : r = r') : r.out ρ k = r'.out ρ k := by rw [h]
theorem seq_congr {r r' : Out} {k : Ro → Mu → Out} (h : r = r') : r.seq k = r'.seq k := by rw [h]
theorem turn_congr {r r' : Out} {k : Ro → Mu → Out} (h : r = r') : r.turn k = r'.turn k := by rw [h]
theorem catch_congr {r r' : Out} {k : Fid → D → Ro → Mu → Out} (h : r = r') : r.catch k = r'.catch k := by rw [h]
@[simp] theorem seq_next (k : Ro → Mu → Out) : (Out.next ρ μ).seq k = k ρ μ := (rfl)
@[simp] theorem seq_brk (k : Ro → Mu → Out) : (Out.brk ρ μ).seq k = .brk ρ μ := (rfl)
@[simp] theorem seq_cont (k : Ro → Mu → Out) : (Out.cont ρ μ).seq k = .cont ρ μ := (rfl)
@[simp] theorem seq_ret (d : D) (k : Ro → Mu → Out) : (Out.ret d μ).seq k = .ret d μ := (rfl)
@[simp] theorem seq_exc (c : Fid) (v : D) (k : Ro → Mu → Out) : (Out.exc c v ρ μ).seq k = .exc c v ρ μ := (rfl)
@[simp] theorem seq_err (k : Ro → Mu → Out) : Out.err.seq k = .err := (rfl)
@[simp] theorem turn_next (k : Ro → Mu → Out) : (Out.next ρ μ).turn k = k ρ μ := (rfl)
@[simp] theorem turn_cont (k : Ro → Mu → Out) : (Out.cont ρ μ).turn k = k ρ μ := (rfl)
@[simp] theorem turn_brk (k : Ro → Mu → Out) : (Out.brk ρ μ).turn k = .next ρ μ := (rfl)
@[simp] theorem turn_ret (d : D) (k : Ro → Mu → Out) : (Out.ret d μ).turn k = .ret d μ := (rfl)
@[simp] theorem turn_exc (c : Fid) (v : D) (k : Ro → Mu → Out) : (Out.exc c v ρ μ).turn k = .exc c v ρ μ := (rfl)
@[simp] theorem turn_err (k : Ro → Mu → Out) : Out.err.turn k = .err := (rfl)
@[simp] theorem catch_next (k : Fid → D → Ro → Mu → Out) : (Out.next ρ μ).catch k = .next ρ μ := (rfl)
@[simp] theorem catch_ret (d : D) (k : Fid → D → Ro → Mu → Out) : (Out.ret d μ).catch k = .ret d μ := (rfl)
@[simp] theorem catch_exc (c : Fid) (v : D) (k : Fid → D → Ro → Mu → Out) : (Out.exc c v ρ μ).catch k = k c v ρ μ := (rfl)
@[simp] theorem unset_next (i : Nat) : (Out.next ρ μ).unset i = .next (ρ.set i none) μ := (rfl)
@[simp] theorem unset_ret (i : Nat) (d : D) : (Out.ret d μ).unset i = .ret d μ := (rfl)
@[simp] theorem liftM_some : liftM (some μ) ρ = .next ρ μ := (rfl)
@[simp] theorem getV_zero (d : D) : getV (some d :: ρ) 0 = some d := (rfl)
@[simp] theorem getV_succ (o : Option D) (i : Nat) : getV (o :: ρ) (i + 1) = getV ρ i := (rfl)
@[simp] theorem eE_con (d : D) : eE C cl (.con d) ρ μ = .ok d μ := (rfl)
@[simp] theorem eE_v (i : Nat) : eE C cl (.v i) ρ μ = lift (getV ρ i) μ := (rfl)
@[simp] theorem eE_fnv (f : Fid) : eE C cl (.fnv f) ρ μ = .ok (.fn f) μ := (rfl)
@[simp] theorem eE_op (o : Op) (es : CE) : eE C cl (.op o es) ρ μ = (eA C cl es ρ μ).bind fun vs μ1 => opR C o vs μ1 := (rfl)
@[simp] theorem eE_mop (m : MOp) (o es : CE) : eE C cl (.mop m o es) ρ μ = (eE C cl o ρ μ).bind fun d μ1 => (lift (asRef d) μ1).bind fun n μ2 => (eA C cl es ρ μ2).bind fun vs μ3 => lift2 (mopS μ3 m (.ref n) vs) := (rfl)
@[simp] theorem eE_not (a : CE) : eE C cl (.not_ a) ρ μ = (eE C cl a ρ μ).bind fun d μ1 => (lift (asB d) μ1).bind fun b μ2 => .ok (.bl !b) μ2 := (rfl)
@[simp] theorem eE_and (a b : CE) : eE C cl (.and_ a b) ρ μ = (eE C cl a ρ μ).bind fun d μ1 => (lift (asB d) μ1).bind fun t μ2 => if t = true then eE C cl b ρ μ2 else .ok d μ2 := (rfl)
@[simp] theorem eE_or (a b : CE) : eE C cl (.or_ a b) ρ μ = (eE C cl a ρ μ).bind fun d μ1 => (lift (asB d) μ1).bind fun t μ2 => if t = true then .ok d μ2 else eE C cl b ρ μ2 := (rfl)
@[simp] theorem eE_chain (o1 o2 : Op) (a b c : CE) : eE C cl (.chain o1 o2 a b c) ρ μ = (eE C cl a ρ μ).bind fun x μ1 => (eE C cl b ρ μ1).bind fun y μ2 =>
    (opR C o1 [x, y] μ2).bind fun t μ3 => (lift (asB t) μ3).bind fun t μ3 => if t = true then (eE C cl c ρ μ3).bind fun z μ4 => opR C o2 [y, z] μ4 else .ok (.bl false) μ3 := (rfl)
@[simp] theorem eE_ite (t a b : CE) : eE C cl (.ite t a b) ρ μ = (eE C cl t ρ μ).bind fun d μ1 => (lift (truth μ1 d) μ1).bind fun t μ2 => if t = true then eE C cl a ρ μ2 else eE C cl b ρ μ2 := (rfl)
@[simp] theorem eE_cell (e : CE) : eE C cl (.cell e) ρ μ = (eN C cl e ρ μ).bind fun xs μ1 => .ok (.ref μ1.length) (μ1 ++ [xs]) := (rfl)
@[simp] theorem eE_call (f : Fid) (perm : List Nat) (es : CE) : eE C cl (.call f perm es) ρ μ = (eA C cl es ρ μ).bind fun vs μ1 => (lift (permD perm vs) μ1).bind fun ws μ2 => cl f ws μ2 := (rfl)
@[simp] theorem eE_callv (g es : CE) : eE C cl (.callv g es) ρ μ = (eE C cl g ρ μ).bind fun d μ1 => (lift (asFn d) μ1).bind fun f μ2 => (eA C cl es ρ μ2).bind fun vs μ3 => cl f vs μ3 := (rfl)
@[simp] theorem eE_mk (c : Fid) (e : CE) : eE C cl (.mk c e) ρ μ = (eA C cl e ρ μ).bind fun vs μ1 => (lift (as01 vs) μ1).bind fun d μ2 => .ok (.exc c d) μ2 := (rfl)
/-- a comprehension's loop -/
noncomputable def cm (C : Cfg) (cl : Cl) (t : Tg) (c e : CE) (ρ : Ro) (ok : Mu → Bool) : List D → Mu → Res (List D) := compL ok (fun d μ1 => (lift (setT μ1 t d (wipe ρ t.slots)) μ1).bind fun ρ1 μ2 =>
      (eC C cl c ρ1 μ2).nox.bind fun b μ3 => if b = true then (eE C cl e ρ1 μ3).nox.bind fun x μ4 => .ok [x] μ4 else .ok [] μ3)
noncomputable def cm2 (C : Cfg) (cl : Cl) (t : Tg) (t1 : Tg) (it1 c e : CE) (ρ : Ro) (ok : Mu → Bool) : List D → Mu → Res (List D) := compL ok (fun d μ1 => (lift (setT μ1 t d (wipe (wipe ρ t1.slots) t.slots)) μ1).bind fun ρ1 μ2 =>
      (eI C cl it1 ρ1 μ2).nox.bind fun s1 μ3 => cm C cl t1 c e ρ1 s1.okAt s1.xs μ3)
@[simp] theorem eE_comp (t : Tg) (it c e : CE) : eE C cl (.comp t it c e) ρ μ = (eI C cl it ρ μ).bind fun s μ0 => (cm C cl t c e ρ s.okAt s.xs μ0).bind fun xs μ5 => .ok (.lst xs) μ5 := (rfl)
@[simp] theorem eE_comp2 (t : Tg) (it : CE) (t1 : Tg) (it1 c e : CE) : eE C cl (.comp2 t it t1 it1 c e) ρ μ = (eI C cl it ρ μ).bind fun s μ0 => (cm2 C cl t t1 it1 c e ρ s.okAt s.xs μ0).bind fun xs μ5 => (chk xs μ5).bind fun xs μ6 => .ok (.lst xs) μ6 := (rfl)
@[simp] theorem eN_op (o : Op) (es : CE) : eN C cl (.op o es) ρ μ = (eA C cl es ρ μ).bind fun vs μ1 => lift ((opS C μ1 o vs).bind prN) μ1 := (rfl)
@[simp] theorem eN_comp (t : Tg) (it c e : CE) : eN C cl (.comp t it c e) ρ μ = (eI C cl it ρ μ).bind fun s μ0 => cm C cl t c e ρ s.okAt s.xs μ0 := (rfl)
@[simp] theorem eN_comp2 (t : Tg) (it : CE) (t1 : Tg) (it1 c e : CE) : eN C cl (.comp2 t it t1 it1 c e) ρ μ = (eI C cl it ρ μ).bind fun s μ0 => (cm2 C cl t t1 it1 c e ρ s.okAt s.xs μ0).bind chk := (rfl)
@[simp] theorem eC_nil : eC C cl .nil ρ μ = .ok true μ := (rfl)
@[simp] theorem eC_cons (e es : CE) : eC C cl (.cons e es) ρ μ = (eE C cl e ρ μ).bind fun d μ1 => lift (truth μ1 d) μ1 := (rfl)
@[simp] theorem eA_nil : eA C cl .nil ρ μ = .ok [] μ := (rfl)
@[simp] theorem eA_cons (e es : CE) : eA C cl (.cons e es) ρ μ = (eE C cl e ρ μ).bind fun d μ1 => (eA C cl es ρ μ1).bind fun ds μ2 => .ok (d :: ds) μ2 := (rfl)
@[simp] theorem eI_iseq (a : CE) : eI C cl (.iseq a) ρ μ = (eE C cl a ρ μ).bind fun d μ1 => lift (srcS μ1 d) μ1 := (rfl)
@[simp] theorem eI_irng1 (a : CE) : eI C cl (.irng1 a) ρ μ = (eE C cl a ρ μ).bind fun d μ1 => lift (srcR1 d) μ1 := (rfl)
@[simp] theorem eI_irng2 (a b : CE) : eI C cl (.irng2 a b) ρ μ = (eE C cl a ρ μ).bind fun d μ1 => (eE C cl b ρ μ1).bind fun d2 μ2 => lift (srcR2 d d2) μ2 := (rfl)
@[simp] theorem eI_irng3 (a b c : CE) : eI C cl (.irng3 a b c) ρ μ = (eE C cl a ρ μ).bind fun d μ1 => (eE C cl b ρ μ1).bind fun d2 μ2 => (eE C cl c ρ μ2).bind fun d3 μ3 => lift (srcR3 d d2 d3) μ3 := (rfl)
@[simp] theorem eI_izip (b : Bool) (a a2 : CE) : eI C cl (.izip b a a2) ρ μ = (eE C cl a ρ μ).bind fun d μ1 => (eE C cl a2 ρ μ1).bind fun d2 μ2 => lift (srcZ b μ2 d d2) μ2 := (rfl)
@[simp] theorem eI_ienum (a : CE) : eI C cl (.ienum a) ρ μ = (eE C cl a ρ μ).bind fun d μ1 => lift (srcE μ1 d) μ1 := (rfl)
/-- loops, by their syntax -/
noncomputable def wh (C : Cfg) (cl : Cl) (t : CE) (b : CS) : Nat → Ro → Mu → Out := whileL (eT C cl t) (fun ρ1 μ1 => eS C cl b ρ1 μ1)
noncomputable def fo (C : Cfg) (cl : Cl) (t : Tg) (b : CS) (ok : Mu → Bool) : List D → Ro → Mu → Out := forL ok (fun d ρ1 μ2 => (lift (setT μ2 t d ρ1) μ2).out ρ1 fun ρ2 μ3 => eS C cl b ρ2 μ3)
theorem wh_succ (t : CE) (b : CS) (n : Nat) : wh C cl t b (n + 1) ρ μ = (eT C cl t ρ μ).out ρ fun c μ1 => if c = true then (eS C cl b ρ μ1).turn fun ρ1 μ2 => wh C cl t b n ρ1 μ2 else .next ρ μ1 := rfl
theorem fo_nil (t : Tg) (b : CS) (ok : Mu → Bool) : fo C cl t b ok [] ρ μ = if ok μ = true then .next ρ μ else .err := rfl
theorem fo_cons (t : Tg) (b : CS) (ok : Mu → Bool) (d : D) (ds : List D) : fo C cl t b ok (d :: ds) ρ μ = if ok μ = true then
    ((lift (setT μ t d ρ) μ).out ρ fun ρ2 μ3 => eS C cl b ρ2 μ3).turn fun ρ1 μ1 => fo C cl t b ok ds ρ1 μ1 else .err := rfl
theorem cm_nil (t : Tg) (c e : CE) (ok : Mu → Bool) : cm C cl t c e ρ ok [] μ = if ok μ = true then .ok [] μ else .err := rfl
theorem cm_cons (t : Tg) (c e : CE) (ok : Mu → Bool) (d : D) (ds : List D) : cm C cl t c e ρ ok (d :: ds) μ = if ok μ = true then
    ((lift (setT μ t d (wipe ρ t.slots)) μ).bind fun ρ1 μ2 => (eC C cl c ρ1 μ2).nox.bind fun b μ3 => if b = true then (eE C cl e ρ1 μ3).nox.bind fun x μ4 => .ok [x] μ4 else .ok [] μ3).bind fun o μ1 =>
      (cm C cl t c e ρ ok ds μ1).bind fun r μ2 => .ok (o ++ r) μ2 else .err := rfl
@[simp] theorem eT_eq (e : CE) : eT C cl e ρ μ = (eE C cl e ρ μ).bind fun d μ1 => lift (truth μ1 d) μ1 := (rfl)
@[simp] theorem eS_asg (t : Tg) (e : CE) : eS C cl (.asg t e) ρ μ = (eE C cl e ρ μ).out ρ fun d μ1 => (lift (setT μ1 t d ρ) μ1).out ρ fun ρ1 μ2 => .next ρ1 μ2 := (rfl)
@[simp] theorem eS_sub (o i e : CE) : eS C cl (.sub o i e) ρ μ = (eE C cl e ρ μ).out ρ fun d μ1 => (eE C cl o ρ μ1).out ρ fun x μ2 => (eE C cl i ρ μ2).out ρ fun k μ3 => liftM (subS μ3 x k d) ρ := (rfl)
@[simp] theorem eS_aug (i : Nat) (op : Op) (e : CE) : eS C cl (.aug i op e) ρ μ = (lift (getV ρ i) μ).out ρ fun x μ0 => (eE C cl e ρ μ0).out ρ fun y μ1 => (opR C op [x, y] μ1).out ρ fun z μ2 => .next (ρ.set i (some z)) μ2 := (rfl)
@[simp] theorem eS_augs (o i : CE) (op : Op) (e : CE) : eS C cl (.augs o i op e) ρ μ = (eE C cl o ρ μ).out ρ fun x μ1 => (eE C cl i ρ μ1).out ρ fun k μ2 => (opR C .idx [x, k] μ2).out ρ fun y μ3 =>
      (eE C cl e ρ μ3).out ρ fun z μ4 => (opR C op [y, z] μ4).out ρ fun w μ5 => liftM (subS μ5 x k w) ρ := (rfl)
@[simp] theorem eS_ex (e : CE) : eS C cl (.ex e) ρ μ = (eE C cl e ρ μ).out ρ fun _ μ1 => .next ρ μ1 := (rfl)
@[simp] theorem eS_ret (e : CE) : eS C cl (.ret e) ρ μ = (eE C cl e ρ μ).out ρ fun d μ1 => .ret d μ1 := (rfl)
@[simp] theorem eS_retn : eS C cl .retn ρ μ = .ret .none μ := (rfl)
@[simp] theorem eS_if (t : CE) (a b : CS) : eS C cl (.if_ t a b) ρ μ = (eT C cl t ρ μ).out ρ fun c μ1 => if c = true then eS C cl a ρ μ1 else eS C cl b ρ μ1 := (rfl)
@[simp] theorem eS_for (t : Tg) (it : CE) (b : CS) : eS C cl (.for_ t it b) ρ μ = (eI C cl it ρ μ).out ρ fun s μ1 => fo C cl t b s.okAt s.xs ρ μ1 := (rfl)
@[simp] theorem eS_while (t : CE) (b : CS) : eS C cl (.while_ t b) ρ μ = wh C cl t b C.W ρ μ := (rfl)
@[simp] theorem eS_raise (c : Fid) (e : CE) : eS C cl (.raise c e) ρ μ = (eA C cl e ρ μ).out ρ fun vs μ1 => (lift (as01 vs) μ1).out ρ fun d μ2 => .exc c d ρ μ2 := (rfl)
@[simp] theorem eS_try (b : CS) (c : Fid) (i : Nat) (h : CS) : eS C cl (.try_ b c i h) ρ μ = (eS C cl b ρ μ).catch fun k v ρ1 μ1 => if C.sub k c = true then (eS C cl h (ρ1.set i (some (.exc k v))) μ1).unset i else .exc k v ρ1 μ1 := (rfl)
@[simp] theorem eS_pass : eS C cl .pass ρ μ = .next ρ μ := (rfl)
@[simp] theorem eS_brk : eS C cl .brk ρ μ = .brk ρ μ := (rfl)
@[simp] theorem eS_cont : eS C cl .cont ρ μ = .cont ρ μ := (rfl)
@[simp] theorem eS_nil : eS C cl .nil ρ μ = .next ρ μ := (rfl)
@[simp] theorem eS_cons (s r : CS) : eS C cl (.cons s r) ρ μ = (eS C cl s ρ μ).seq fun ρ1 μ1 => eS C cl r ρ1 μ1 := (rfl)
@[simp] theorem fin_same (d : D) (k : D → Mu → Res D) : fin μ d μ k = k d μ := if_pos rfl
@[simp] theorem leave_next (ρ : Ro) (μ1 : Mu) : leave μ (.next ρ μ1) = fin μ .none μ1 .ok := (rfl)
@[simp] theorem leave_ret (d : D) (μ1 : Mu) : leave μ (.ret d μ1) = fin μ d μ1 .ok := (rfl)
@[simp] theorem leave_exc (c : Fid) (v : D) (ρ : Ro) (μ1 : Mu) : leave μ (.exc c v ρ μ1) = fin μ v μ1 (.exc c) := (rfl)
end
/-! operators by their cases -/
section
variable {C : Cfg} {μ : Mu}
@[simp] theorem opR_add (i j : Int) : opR C .add [.int i, .int j] μ = .ok (.int (i + j)) μ := (rfl)
@[simp] theorem opR_sub (i j : Int) : opR C .sub [.int i, .int j] μ = .ok (.int (i - j)) μ := (rfl)
theorem opR_mul {i j : Int} (h : mulOk i j = true) : opR C .mul [.int i, .int j] μ = .ok (.int (i * j)) μ := by show lift ((if mulOk i j = true then _ else _ : Option PR).map prD) μ = _; rw [if_pos h]; rfl
theorem opR_fdiv {i j : Int} (h : divOk j = true) : opR C .fdiv [.int i, .int j] μ = .ok (.int (i.fdiv j)) μ := by show lift ((if divOk j = true then _ else _ : Option PR).map prD) μ = _; rw [if_pos h]; rfl
theorem opR_mod {i j : Int} (h : j ≠ 0) : opR C .mod [.int i, .int j] μ = .ok (.int (i.fmod j)) μ := by show lift ((if j = 0 then _ else _ : Option PR).map prD) μ = _; rw [if_neg h]; rfl
@[simp] theorem opR_neg (i : Int) : opR C .neg [.int i] μ = .ok (.int (-i)) μ := (rfl)
@[simp] theorem opR_lt (i j : Int) : opR C .lt [.int i, .int j] μ = .ok (.bl (decide (i < j))) μ := (rfl)
@[simp] theorem opR_le (i j : Int) : opR C .le [.int i, .int j] μ = .ok (.bl (decide (i ≤ j))) μ := (rfl)
@[simp] theorem opR_gt (i j : Int) : opR C .gt [.int i, .int j] μ = .ok (.bl (decide (j < i))) μ := (rfl)
@[simp] theorem opR_ge (i j : Int) : opR C .ge [.int i, .int j] μ = .ok (.bl (decide (j ≤ i))) μ := (rfl)
@[simp] theorem opR_abs (i : Int) : opR C .abs [.int i] μ = .ok (.int i.natAbs) μ := by
  have e : (if i < 0 then -i else i) = (i.natAbs : Int) := by split <;> omega
  show Res.ok (D.int (if i < 0 then -i else i)) μ = _
  rw [e]
@[simp] theorem opR_int (i : Int) : opR C .int_ [.int i] μ = .ok (.int i) μ := (rfl)
@[simp] theorem opR_tup (xs : List D) : opR C .tup xs μ = .ok (.tup xs) μ := (rfl)
@[simp] theorem opR_lst (xs : List D) : opR C .lst xs μ = .ok (.lst xs) μ := (rfl)
@[simp] theorem truth_bl (b : Bool) : truth μ (.bl b) = some b := (rfl)
@[simp] theorem truth_none : truth μ .none = some false := (rfl)
@[simp] theorem truth_int (i : Int) : truth μ (.int i) = some (i != 0) := (rfl)
@[simp] theorem truth_lst (xs : List D) : truth μ (.lst xs) = some (!xs.isEmpty) := (rfl)
@[simp] theorem truth_tup (xs : List D) : truth μ (.tup xs) = some (!xs.isEmpty) := (rfl)
@[simp] theorem setT_nm (i : Nat) (d : D) (ρ : Ro) : setT μ (.nm i) d ρ = some (ρ.set i (some d)) := (rfl)
@[simp] theorem setT_tp (l : List Nat) (xs : List D) (ρ : Ro) : setT μ (.tp l) (.tup xs) ρ = setAll l xs ρ := (rfl)
@[simp] theorem setAll_nil (ρ : Ro) : setAll [] [] ρ = some ρ := (rfl)
@[simp] theorem setAll_cons (i : Nat) (is : List Nat) (d : D) (ds : List D) (ρ : Ro) : setAll (i :: is) (d :: ds) ρ = setAll is ds (ρ.set i (some d)) := (rfl)
@[simp] theorem permD_nil (vs : List D) : permD [] vs = some [] := (rfl)
@[simp] theorem permD_cons (i : Nat) (is : List Nat) (vs : List D) : permD (i :: is) vs = (vs[i]?).bind fun d => (permD is vs).map fun r => d :: r := (rfl)
end
/-! sorting -/
theorem insI_perm (i : Int) : ∀ l : List Int, (insI i l).Perm (i :: l)
  | [] => .refl _
  | j :: l => by
    unfold insI
    split
    · exact .refl _
    · exact ((insI_perm i l).cons j).trans (.swap ..)
theorem isort_perm : ∀ l : List Int, (isort l).Perm l
  | [] => .refl _
  | i :: l => (insI_perm i (isort l)).trans ((isort_perm l).cons i)
theorem insI_pw (i : Int) : ∀ {l : List Int}, l.Pairwise (· ≤ ·) → (insI i l).Pairwise (· ≤ ·)
  | [], _ => by simp [insI]
  | j :: l, h => by
    unfold insI
    have h' := List.pairwise_cons.mp h
    split
    · rename_i hij
      refine List.pairwise_cons.mpr ⟨fun k hk => ?_, h⟩
      rcases List.mem_cons.mp hk with rfl | hk
      · exact hij
      · exact Int.le_trans hij (h'.1 k hk)
    · rename_i hij
      refine List.pairwise_cons.mpr ⟨fun k hk => ?_, insI_pw i h'.2⟩
      rcases List.mem_cons.mp ((insI_perm i l).mem_iff.mp hk) with rfl | hk
      · omega
      · exact h'.1 k hk
theorem isort_pw : ∀ l : List Int, (isort l).Pairwise (· ≤ ·)
  | [] => .nil
  | i :: l => insI_pw i (isort_pw l)
theorem perm_pw_eq : ∀ {l m : List Int}, l.Perm m → l.Pairwise (· ≤ ·) → m.Pairwise (· ≤ ·) → l = m
  | [], m, h, _, _ => h.nil_eq
  | a :: l, [], h, _, _ => absurd h.length_eq (by simp)
  | a :: l, b :: m, h, p, q => by
    have p' := List.pairwise_cons.mp p
    have q' := List.pairwise_cons.mp q
    have e : a = b := by
      rcases List.mem_cons.mp (h.mem_iff.mp (List.mem_cons_self ..) : a ∈ b :: m) with z | z
      · exact z
      · rcases List.mem_cons.mp (h.mem_iff.mpr (List.mem_cons_self ..) : b ∈ a :: l) with y | y
        · exact y.symm
        · have h1 := p'.1 b y
          have h2 := q'.1 a z
          omega
    subst e
    rw [perm_pw_eq (List.Perm.cons_inv h) p'.2 q'.2]
end PyE
set_option maxRecDepth 100000
set_option maxHeartbeats 4000000
/-! the relation between the evaluator's states and the hand layer's abstract heaps -/
namespace PyE
open PySem PySem.Spec PyProof.Rows L2

/-- what is fixed: the written part, where functions and classes stand -/
structure Gi where
  P : Program
  w : World
  K : PySem.W.Frag
  mg : Str → Option Value
  base : Heap
  fa : Fid → Addr
  ca : Fid → Addr
  kc : Fid → Bool
  kf : Fid → Bool
/-- cells, the frozen lists' addresses, the heap -/
structure Wd where
  th : List Addr
  S : Addr → Prop
  H : Hp
/-- a caught exception held as a value -/
def ExV (cls : Value) (a dd : Addr) : HO := .ext fun h => ∃ (oe : Obj) (vs : Array Value), h.get? a = some oe ∧ Zc cls (some dd) oe ∧ oe.data = .fields vs

mutual
def RV (G : Gi) (Z : Wd) : D → V → Prop
  | .none, v => v = .non
  | .bl b, v => v = .bl b
  | .int i, v => v = .int i
  | .str s, v => v = .str s
  | .tup ds, v => ∃ a vs, v = .ref a ∧ SqT G.K Z.H a vs ∧ ds.length ≤ LIM ∧ RVs G Z ds vs
  | .lst ds, v => ∃ a vs, v = .ref a ∧ Z.S a ∧ Z.H a = some (.lst vs) ∧ ds.length ≤ LIM ∧ RVs G Z ds vs
  | .ref n, v => ∃ a, Z.th[n]? = some a ∧ v = .ref a
  | .fn f, v => G.kf f = true ∧ v = .ref (G.fa f)
  | .scr xs, v => ∃ a, v = .ref a ∧ ((∃ o, Z.H a = some (.frz o (.lst (xs.map .int)))) ∨ (∀ H, SqL G.K H a (xs.map .int))) ∧ xs.length ≤ LIM
  | .dct, v => ∃ a, v = .ref a ∧ Z.H a = some (.dK [])
  | .exc c d, v => G.kc c = true ∧ ∃ a dd w, v = .ref a ∧ Z.H a = some (ExV (.ref (G.ca c)) a dd) ∧ Z.H dd = some (.xd [("value", w)]) ∧ RV G Z d w
def RVs (G : Gi) (Z : Wd) : List D → List V → Prop
  | [], vs => vs = []
  | d :: ds, vs => ∃ v r, vs = v :: r ∧ RV G Z d v ∧ RVs G Z ds r
end

structure Rel (G : Gi) (Z : Wd) (μ : Mu) : Prop where
  len : Z.th.length = μ.length
  nd : Z.th.Nodup
  cell : ∀ (n : Nat) (a : Addr) (ds : List D), Z.th[n]? = some a → μ[n]? = some ds → ∃ vs, Z.H a = some (.lst vs) ∧ RVs G Z ds vs ∧ ds.length ≤ LIM
  sep : ∀ a, Z.S a → a ∉ Z.th
  has : ∀ a, Z.S a → Z.H a ≠ none

structure Ext (Z Z' : Wd) : Prop where
  pre : Z.th <+: Z'.th
  fresh : ∀ a ∈ Z'.th, a ∈ Z.th ∨ Z.H a = none
  sub : ∀ a, Z.S a → Z'.S a
  new : ∀ a, Z'.S a → Z.S a ∨ Z.H a = none
  keep : ∀ a o, Z.H a = some o → a ∉ Z.th → Z'.H a = some o
  dom : ∀ a, Z'.H a = none → Z.H a = none

theorem Ext.refl (Z : Wd) : Ext Z Z := ⟨List.prefix_refl _, fun _ h => .inl h, fun _ h => h, fun _ h => .inl h, fun _ _ h _ => h, fun _ h => h⟩
theorem Ext.trans {Z Z1 Z2 : Wd} (x : Ext Z Z1) (y : Ext Z1 Z2) : Ext Z Z2 where
  pre := x.pre.trans y.pre
  fresh := fun a h => (y.fresh a h).elim (x.fresh a) fun q => .inr (x.dom a q)
  sub := fun a h => y.sub a (x.sub a h)
  new := fun a h => (y.new a h).elim (x.new a) fun q => .inr (x.dom a q)
  keep := fun a o h n => y.keep a o (x.keep a o h n) fun q => (x.fresh a q).elim n fun z => by rw [h] at z; cases z
  dom := fun a h => x.dom a (y.dom a h)

section
variable {G : Gi} {Z Z' : Wd} {μ μ' : Mu}
theorem Rel.atCell (R : Rel G Z μ) {a : Addr} (h : a ∈ Z.th) : ∃ vs, Z.H a = some (.lst vs) := by
  obtain ⟨n, hn⟩ := List.getElem?_of_mem h
  have hlt : n < Z.th.length := (List.getElem?_eq_some_iff.mp hn).1
  have hm : n < μ.length := by rw [← R.len]; exact hlt
  obtain ⟨vs, e, _⟩ := R.cell n a _ hn (List.getElem?_eq_getElem hm)
  exact ⟨vs, e⟩
theorem Rel.notCell (R : Rel G Z μ) {a : Addr} {o : HO} (h : Z.H a = some o) (n : ∀ vs, o ≠ .lst vs) : a ∉ Z.th := fun q => by
  obtain ⟨vs, e⟩ := R.atCell q
  rw [h] at e
  exact n vs (Option.some.inj e)
theorem RVs.length : ∀ {ds : List D} {vs : List V}, RVs G Z ds vs → ds.length = vs.length
  | [], vs, h => by
    have e : vs = [] := h
    rw [e]; rfl
  | d :: ds, vs, h => by
    obtain ⟨v, r, rfl, _, q⟩ := h
    rw [List.length_cons, List.length_cons, RVs.length q]
theorem Ext.sqT (X : Ext Z Z') (R : Rel G Z μ) {a : Addr} {vs : List V} (h : SqT G.K Z.H a vs) : SqT G.K Z'.H a vs := by
  rcases h with (h | ⟨o, h⟩) | h
  · exact .inl (.inl (X.keep _ _ h (R.notCell h fun _ q => by cases q)))
  · exact .inl (.inr ⟨o, X.keep _ _ h (R.notCell h fun _ q => by cases q)⟩)
  · exact .inr h
theorem Ext.get (X : Ext Z Z') {n : Nat} {a : Addr} (h : Z.th[n]? = some a) : Z'.th[n]? = some a := by
  obtain ⟨t, e⟩ := X.pre
  rw [← e, List.getElem?_append_left (List.getElem?_eq_some_iff.mp h).1]
  exact h
mutual
theorem RV.ext (X : Ext Z Z') (R : Rel G Z μ) : ∀ (d : D) (v : V), RV G Z d v → RV G Z' d v
  | .none, _, h => h
  | .bl _, _, h => h
  | .int _, _, h => h
  | .str _, _, h => h
  | .fn _, _, h => h
  | .tup ds, v, h => by
    obtain ⟨a, vs, e, q, z, r⟩ := h
    exact ⟨a, vs, e, X.sqT R q, z, RVs.ext X R ds vs r⟩
  | .lst ds, v, h => by
    obtain ⟨a, vs, e, s, q, z, r⟩ := h
    exact ⟨a, vs, e, X.sub a s, X.keep _ _ q (R.sep a s), z, RVs.ext X R ds vs r⟩
  | .scr xs, v, h => by
    obtain ⟨a, e, q, z⟩ := h
    refine ⟨a, e, ?_, z⟩
    rcases q with ⟨o, q⟩ | q
    · exact .inl ⟨o, X.keep _ _ q (R.notCell q fun _ z => by cases z)⟩
    · exact .inr q
  | .ref n, v, h => by
    obtain ⟨a, e, q⟩ := h
    exact ⟨a, X.get e, q⟩
  | .dct, v, h => by
    obtain ⟨a, e, q⟩ := h
    exact ⟨a, e, X.keep _ _ q (R.notCell q fun _ z => by cases z)⟩
  | .exc c d, v, h => by
    obtain ⟨k, a, dd, w, e, q1, q2, r⟩ := h
    exact ⟨k, a, dd, w, e, X.keep _ _ q1 (R.notCell q1 fun _ z => by cases z), X.keep _ _ q2 (R.notCell q2 fun _ z => by cases z), RV.ext X R d w r⟩
theorem RVs.ext (X : Ext Z Z') (R : Rel G Z μ) : ∀ (ds : List D) (vs : List V), RVs G Z ds vs → RVs G Z' ds vs
  | [], _, h => h
  | d :: ds, vs, h => by
    obtain ⟨v, r, e, h1, h2⟩ := h
    exact ⟨v, r, e, RV.ext X R d v h1, RVs.ext X R ds r h2⟩
end
theorem RVs.get : ∀ {ds : List D} {vs : List V} {i : Nat} {d : D}, RVs G Z ds vs → ds[i]? = some d → ∃ v, vs[i]? = some v ∧ RV G Z d v
  | [], _, _, _, _, e => by simp at e
  | d :: ds, vs, 0, x, h, e => by
    obtain ⟨v, r, rfl, h1, h2⟩ := h
    have e' : d = x := by simpa using e
    subst e'
    exact ⟨v, rfl, h1⟩
  | d :: ds, vs, i + 1, x, h, e => by
    obtain ⟨v, r, rfl, h1, h2⟩ := h
    obtain ⟨u, q1, q2⟩ := RVs.get (i := i) (d := x) h2 (by simpa using e)
    exact ⟨u, by simpa using q1, q2⟩
theorem RVs.append : ∀ {ds es : List D} {vs ws : List V}, RVs G Z ds vs → RVs G Z es ws → RVs G Z (ds ++ es) (vs ++ ws)
  | [], es, vs, ws, h, q => by
    have e : vs = [] := h
    rw [e]; exact q
  | d :: ds, es, vs, ws, h, q => by
    obtain ⟨v, r, rfl, h1, h2⟩ := h
    exact ⟨v, r ++ ws, rfl, h1, RVs.append h2 q⟩
theorem RVs.take : ∀ (n : Nat) {ds : List D} {vs : List V}, RVs G Z ds vs → RVs G Z (ds.take n) (vs.take n)
  | 0, _, _, _ => rfl
  | n + 1, [], vs, h => by
    have e : vs = [] := h
    rw [e]; rfl
  | n + 1, d :: ds, vs, h => by
    obtain ⟨v, r, rfl, h1, h2⟩ := h
    exact ⟨v, r.take n, rfl, h1, RVs.take n h2⟩
theorem RVs.drop : ∀ (n : Nat) {ds : List D} {vs : List V}, RVs G Z ds vs → RVs G Z (ds.drop n) (vs.drop n)
  | 0, _, _, h => h
  | n + 1, [], vs, h => by
    have e : vs = [] := h
    rw [e]; rfl
  | n + 1, d :: ds, vs, h => by
    obtain ⟨v, r, rfl, h1, h2⟩ := h
    exact RVs.drop n h2
theorem RVs.set {d : D} {v : V} (hr : RV G Z d v) : ∀ (i : Nat) {ds : List D} {vs : List V}, RVs G Z ds vs → RVs G Z (ds.set i d) (vs.set i v)
  | _, [], vs, h => by
    have e : vs = [] := h
    rw [e]; rfl
  | 0, x :: ds, vs, h => by
    obtain ⟨w, r, rfl, h1, h2⟩ := h
    exact ⟨v, r, rfl, hr, h2⟩
  | i + 1, x :: ds, vs, h => by
    obtain ⟨w, r, rfl, h1, h2⟩ := h
    exact ⟨w, r.set i v, rfl, h1, RVs.set hr i h2⟩
theorem RVs.reverse : ∀ {ds : List D} {vs : List V}, RVs G Z ds vs → RVs G Z ds.reverse vs.reverse
  | [], vs, h => by
    have e : vs = [] := h
    rw [e]; rfl
  | d :: ds, vs, h => by
    obtain ⟨v, r, rfl, h1, h2⟩ := h
    rw [List.reverse_cons, List.reverse_cons]
    exact (RVs.reverse h2).append ⟨v, [], rfl, h1, rfl⟩
theorem RVs.one {d : D} {v : V} (h : RV G Z d v) : RVs G Z [d] [v] := ⟨v, [], rfl, h, rfl⟩
end

/-- slots -/
structure SE (G : Gi) (Z : Wd) (σ : L2.St) (ρ : Ro) : Prop where
  len : σ.length = ρ.length
  at_ : ∀ (i : Nat) (d : D), ρ[i]? = some (some d) → ∃ v, σ[i]? = some (some v) ∧ RV G Z d v
section
variable {G : Gi} {Z Z' : Wd} {μ μ' : Mu} {σ : L2.St} {ρ : Ro}
theorem SE.ext (s : SE G Z σ ρ) (X : Ext Z Z') (R : Rel G Z μ) : SE G Z' σ ρ := ⟨s.len, fun i d h => by
  obtain ⟨v, e, r⟩ := s.at_ i d h
  exact ⟨v, e, RV.ext X R d v r⟩⟩
theorem SE.set (s : SE G Z σ ρ) {d : D} {v : V} (i : Nat) (h : RV G Z d v) : SE G Z (σ.set i (some v)) (ρ.set i (some d)) := by
  refine ⟨by simp [s.len], fun j e hj => ?_⟩
  by_cases hji : i = j
  · subst hji
    by_cases hl : i < ρ.length
    · rw [List.getElem?_set_self hl] at hj
      have e' : d = e := by simpa using hj
      subst e'
      exact ⟨v, List.getElem?_set_self (by rw [s.len]; exact hl), h⟩
    · rw [List.getElem?_eq_none (by simpa using hl)] at hj; cases hj
  · rw [List.getElem?_set_ne hji] at hj
    obtain ⟨u, q, r⟩ := s.at_ j e hj
    exact ⟨u, by rw [List.getElem?_set_ne hji]; exact q, r⟩
theorem SE.unset (s : SE G Z σ ρ) (i : Nat) : SE G Z (σ.set i none) (ρ.set i none) := by
  refine ⟨by simp [s.len], fun j e hj => ?_⟩
  by_cases hji : i = j
  · subst hji
    by_cases hl : i < ρ.length
    · rw [List.getElem?_set_self hl] at hj; cases hj
    · rw [List.getElem?_eq_none (by simpa using hl)] at hj; cases hj
  · rw [List.getElem?_set_ne hji] at hj
    obtain ⟨u, q, r⟩ := s.at_ j e hj
    exact ⟨u, by rw [List.getElem?_set_ne hji]; exact q, r⟩
theorem SE.wipe (s : SE G Z σ ρ) : ∀ vs : List Nat, SE G Z (L2.wipe σ vs) (PyE.wipe ρ vs)
  | [] => s
  | v :: vs => (SE.wipe s vs).unset v
theorem SE.getV (s : SE G Z σ ρ) {i : Nat} {d : D} (h : getV ρ i = some d) : ∃ v, σ[i]? = some (some v) ∧ RV G Z d v := by
  unfold PyE.getV at h
  split at h
  · rename_i x e
    have e' : x = d := Option.some.inj h
    subst e'
    exact s.at_ i x e
  · cases h
end

/-! ### what a step leaves -/
section
variable (G : Gi) (W : WX) (σ : L2.St)
/-- an exception of the evaluator, as the layer's wish has it -/
def ExP (Z : Wd) (c : Fid) (d : D) (μ' : Mu) : Prop := G.kc c = true → ∀ dd w Z', Ext Z Z' → Rel G Z' μ' → Z'.H dd = some (.xd [("value", w)]) → RV G Z' d w → W (.ref (G.ca c)) (some dd) σ Z'.H
def Pst {α β : Type} (rel : Wd → α → β → Prop) (Z : Wd) (r : Res α) (Q : β → Hp → Prop) : Prop := match r with
  | .ok a μ' => ∀ b Z', Ext Z Z' → Rel G Z' μ' → rel Z' a b → Q b Z'.H
  | .exc c d μ' => ExP G W σ Z c d μ'
  | .err => False
/-- where the state is known -/
structure At (Z : Wd) (H : Hp) (σ : L2.St) (ρ : Ro) (μ : Mu) : Prop where
  hp : Z.H = H
  se : SE G Z σ ρ
  rel : Rel G Z μ
end
section
variable {G : Gi} {W : WX} {σ : L2.St} {Z Z' : Wd} {μ μ' : Mu} {ρ : Ro}
theorem ExP.base {c : Fid} {d : D} (h : ExP G W σ Z c d μ') (X : Ext Z Z') : ExP G W σ Z' c d μ' := fun kc dd w Z2 x R e r => h kc dd w Z2 (X.trans x) R e r
theorem Pst.base {α β : Type} {rel : Wd → α → β → Prop} {r : Res α} {Q : β → Hp → Prop} (h : Pst G W σ rel Z r Q) (X : Ext Z Z') : Pst G W σ rel Z' r Q := by
  cases r with
  | ok a μ1 => exact fun b Z2 x R q => h b Z2 (X.trans x) R q
  | exc c d μ1 => exact ExP.base h X
  | err => exact h
/-- a first part, then the rest -/
theorem Pst.bind {α β γ δ : Type} {rel : Wd → α → γ → Prop} {rel2 : Wd → β → δ → Prop} {r : Res α} {k : α → Mu → Res β} {Q : δ → Hp → Prop} (h : Pst G W σ rel2 Z (r.bind k) Q) :
    Pst G W σ rel Z r fun b H1 => ∃ a Z1 μ1, Z1.H = H1 ∧ Ext Z Z1 ∧ Rel G Z1 μ1 ∧ rel Z1 a b ∧ Pst G W σ rel2 Z1 (k a μ1) Q := by
  cases r with
  | ok a μ1 => exact fun b Z2 x R q => ⟨a, Z2, μ1, rfl, x, R, q, Pst.base h x⟩
  | exc c d μ1 => exact h
  | err => exact h
theorem Pst.mono {α β : Type} {rel : Wd → α → β → Prop} {r : Res α} {Q Q' : β → Hp → Prop} (h : Pst G W σ rel Z r Q) (hq : ∀ b H, Q b H → Q' b H) : Pst G W σ rel Z r Q' := by
  cases r with
  | ok a μ1 => exact fun b Z2 x R q => hq _ _ (h b Z2 x R q)
  | exc c d μ1 => exact h
  | err => exact h
theorem Pst.lift {α β γ δ : Type} {rel2 : Wd → β → δ → Prop} {o : Option α} {k : α → Mu → Res β} {Q : δ → Hp → Prop} (h : Pst G W σ rel2 Z ((PyE.lift o μ).bind k) Q) : ∃ a, o = some a ∧ Pst G W σ rel2 Z (k a μ) Q := by
  cases o with
  | none => exact False.elim h
  | some a => exact ⟨a, rfl, h⟩
end

/-! ### readings -/
section
variable (G : Gi) (W : WX)
/-- an expression's reading by the evaluator -/
def tE (m : Ro → Mu → Res D) : TE := fun σ H Q => ∃ Z ρ μ, At G Z H σ ρ μ ∧ Pst G W σ (RV G) Z (m ρ μ) Q
def tA (m : Ro → Mu → Res (List D)) : TA := fun σ H Q => ∃ Z ρ μ, At G Z H σ ρ μ ∧ Pst G W σ (RVs G) Z (m ρ μ) Q
def tT (m : Ro → Mu → Res Bool) : TT := fun σ H Q => ∃ Z ρ μ, At G Z H σ ρ μ ∧ Pst G W σ (fun _ a b => a = b) Z (m ρ μ) Q
end
theorem pe_mono {X : Cx} {e : Expr} {t t' : TE} (h : PE X e t) (m : ∀ σ H Q, t' σ H Q → t σ H Q) : PE X e t' := ⟨fun pins s σ H Q I q => h.run pins s σ H Q I (m σ H Q q)⟩
theorem pt_mono {X : Cx} {e : Expr} {t t' : TT} (h : PT X e t) (m : ∀ σ H Q, t' σ H Q → t σ H Q) : PT X e t' := ⟨fun pins s σ H Q I q => h.run pins s σ H Q I (m σ H Q q)⟩
theorem pw_mono {X : Cx} {e : Expr} {t t' : TT} (h : PW X e t) (m : ∀ σ H Q, t' σ H Q → t σ H Q) : PW X e t' := ⟨fun wh pins s σ H Q I q => h.run wh pins s σ H Q I (m σ H Q q)⟩
theorem pa_mono {X : Cx} {e : List Expr} {t t' : TA} (h : PA X e t) (m : ∀ σ H Q, t' σ H Q → t σ H Q) : PA X e t' := ⟨fun pos pins s σ H Q I q => h.run pos pins s σ H Q I (m σ H Q q)⟩
theorem ps_mono {X : Cx} {e : Stmt} {t t' : TS} (h : PS X e t) (m : ∀ D σ H, t' D σ H → t D σ H) : PS X e t' := ⟨fun pins s σ H D I q => h.run pins s σ H D I (m D σ H q)⟩
theorem pss_mono {X : Cx} {e : List Stmt} {t t' : TS} (h : PSs X e t) (m : ∀ D σ H, t' D σ H → t D σ H) : PSs X e t' := ⟨fun pins s σ H D I q => h.run pins s σ H D I (m D σ H q)⟩
end PyE
set_option maxRecDepth 100000
set_option maxHeartbeats 4000000
/-! operators by values -/
namespace PyE
open PySem PySem.Spec PyProof.Rows L2

theorem LIM_eq : LIM = sizeLine := by unfold LIM; rw [sizeLine_eq]

section
variable {G : Gi} {Z Z' : Wd} {μ μ' : Mu} {p : Addr} {o : HO}
/-- a new object is laid -/
abbrev Wd.lay (Z : Wd) (p : Addr) (o : HO) : Wd := { Z with H := upd Z.H p o }
theorem Ext.lay (h : Z.H p = none) : Ext Z (Z.lay p o) where
  pre := List.prefix_refl _
  fresh := fun _ q => .inl q
  sub := fun _ q => q
  new := fun _ q => .inl q
  keep := fun a u q _ => by
    show upd Z.H p o a = some u
    rw [upd_ne (ne_of_none q h)]
    exact q
  dom := fun a q => by
    have q' : upd Z.H p o a = none := q
    by_cases e : a = p
    · rw [e]; exact h
    · rw [upd_ne e] at q'; exact q'
theorem Rel.lay (R : Rel G Z μ) (h : Z.H p = none) : Rel G (Z.lay p o) μ where
  len := R.len
  nd := R.nd
  cell := fun n a ds h1 h2 => by
    obtain ⟨vs, e, r, z⟩ := R.cell n a ds h1 h2
    refine ⟨vs, ?_, RVs.ext (Ext.lay h) R ds vs r, z⟩
    show upd Z.H p o a = _
    rw [upd_ne (ne_of_none e h)]
    exact e
  sep := R.sep
  has := fun a q z => R.has a q ((Ext.lay h).dom a z)

theorem ints_rv : ∀ l : List Int, RVs G Z (l.map D.int) (l.map V.int)
  | [] => rfl
  | i :: l => ⟨_, _, rfl, rfl, ints_rv l⟩
theorem Rel.litems (R : Rel G Z μ) {d : D} {v : V} {xs : List D} (h : litems μ d = some xs) (r : RV G Z d v) : ∃ a vs, v = .ref a ∧ Z.H a = some (.lst vs) ∧ RVs G Z xs vs ∧ xs.length ≤ LIM := by
  cases d with
  | lst ds =>
    have e : ds = xs := Option.some.inj h
    subst e
    obtain ⟨a, vs, e, _, q, z, r⟩ := r
    exact ⟨a, vs, e, q, r, z⟩
  | ref n =>
    obtain ⟨a, e, q⟩ := r
    obtain ⟨vs, e2, r2, z⟩ := R.cell n a xs e h
    exact ⟨a, vs, q, e2, r2, z⟩
  | _ => cases h
theorem Rel.items (R : Rel G Z μ) {d : D} {v : V} {xs : List D} (h : items μ d = some xs) (r : RV G Z d v) : ∃ a vs, v = .ref a ∧ (SqL G.K Z.H a vs ∨ SqT G.K Z.H a vs) ∧ RVs G Z xs vs ∧ xs.length ≤ LIM := by
  cases d with
  | tup ds =>
    have e : ds = xs := Option.some.inj h
    subst e
    obtain ⟨a, vs, e, q, z, r⟩ := r
    exact ⟨a, vs, e, .inr q, r, z⟩
  | scr l =>
    have e : l.map D.int = xs := Option.some.inj h
    subst e
    obtain ⟨a, e, q, z⟩ := r
    refine ⟨a, _, e, .inl ?_, ints_rv l, by simpa using z⟩
    rcases q with ⟨o, q⟩ | q
    · exact .inl (.inr ⟨o, q⟩)
    · exact q _
  | lst ds =>
    obtain ⟨a, vs, e, q, r', z⟩ := R.litems (d := .lst ds) h r
    exact ⟨a, vs, e, .inl (.inl (.inl q)), r', z⟩
  | ref n =>
    obtain ⟨a, vs, e, q, r', z⟩ := R.litems (d := .ref n) h r
    exact ⟨a, vs, e, .inl (.inl (.inl q)), r', z⟩
  | _ => cases h
theorem Rel.sitems (R : Rel G Z μ) {d : D} {v : V} {xs : List D} (h : sitems μ d = some xs) (r : RV G Z d v) : ∃ a vs, v = .ref a ∧ SqL G.K Z.H a vs ∧ RVs G Z xs vs ∧ xs.length ≤ LIM := by
  cases d with
  | scr l =>
    have e : l.map D.int = xs := Option.some.inj h
    subst e
    obtain ⟨a, e, q, z⟩ := r
    refine ⟨a, _, e, ?_, ints_rv l, by simpa using z⟩
    rcases q with ⟨o, q⟩ | q
    · exact .inl (.inr ⟨o, q⟩)
    · exact q _
  | lst ds =>
    obtain ⟨a, vs, e, q, r', z⟩ := R.litems (d := .lst ds) h r
    exact ⟨a, vs, e, .inl (.inl q), r', z⟩
  | ref n =>
    obtain ⟨a, vs, e, q, r', z⟩ := R.litems (d := .ref n) h r
    exact ⟨a, vs, e, .inl (.inl q), r', z⟩
  | _ => cases h
theorem ints_of : ∀ {xs : List D} {vs : List V} {l : List Int}, asInts xs = some l → RVs G Z xs vs → vs = l.map V.int
  | [], vs, l, h, r => by
    have e : [] = l := Option.some.inj h
    have e2 : vs = [] := r
    rw [← e, e2]; rfl
  | x :: xs, vs, l, h, r => by
    cases x with
    | int i =>
      obtain ⟨v, t, rfl, r1, r2⟩ := r
      cases e : asInts xs with
      | none => simp [asInts, e] at h
      | some l' =>
        have h' : i :: l' = l := by simpa [asInts, e] using h
        rw [← h', ints_of e r2, show v = V.int i from r1]; rfl
    | _ => cases h
theorem bools_of : ∀ {xs : List D} {vs : List V} {l : List Bool}, asBools xs = some l → RVs G Z xs vs → vs = l.map V.bl
  | [], vs, l, h, r => by
    have e : [] = l := Option.some.inj h
    have e2 : vs = [] := r
    rw [← e, e2]; rfl
  | x :: xs, vs, l, h, r => by
    cases x with
    | bl i =>
      obtain ⟨v, t, rfl, r1, r2⟩ := r
      cases e : asBools xs with
      | none => simp [asBools, e] at h
      | some l' =>
        have h' : i :: l' = l := by simpa [asBools, e] using h
        rw [← h', bools_of e r2, show v = V.bl i from r1]; rfl
    | _ => cases h
theorem RVs.cons_inv {x : V} {xs : List V} {ds : List D} (h : RVs G Z ds (x :: xs)) : ∃ d es, ds = d :: es ∧ RV G Z d x ∧ RVs G Z es xs := by
  cases ds with
  | nil => cases (show x :: xs = [] from h)
  | cons d es =>
    obtain ⟨v, r, e, h1, h2⟩ := h
    cases e
    exact ⟨d, es, rfl, h1, h2⟩
theorem RVs.nil_inv {ds : List D} (h : RVs G Z ds []) : ds = [] := by
  cases ds with
  | nil => rfl
  | cons d es =>
    obtain ⟨v, r, e, _⟩ := h
    cases e
theorem RVs.one_inv {x : V} {ds : List D} (h : RVs G Z ds [x]) : ∃ d, ds = [d] ∧ RV G Z d x := by
  obtain ⟨d, es, rfl, h1, h2⟩ := h.cons_inv
  exact ⟨d, by rw [h2.nil_inv], h1⟩
theorem RVs.two_inv {x y : V} {ds : List D} (h : RVs G Z ds [x, y]) : ∃ d e, ds = [d, e] ∧ RV G Z d x ∧ RV G Z e y := by
  obtain ⟨d, es, rfl, h1, h2⟩ := h.cons_inv
  obtain ⟨e, rfl, h3⟩ := h2.one_inv
  exact ⟨d, e, rfl, h1, h3⟩
theorem RVs.flat_rep {ds : List D} {vs : List V} (h : RVs G Z ds vs) : ∀ n, RVs G Z (List.replicate n ds).flatten (List.replicate n vs).flatten
  | 0 => rfl
  | n + 1 => by
    rw [List.replicate_succ, List.replicate_succ, List.flatten_cons, List.flatten_cons]
    exact h.append (RVs.flat_rep h n)
end

/-! ### what an operator hands on -/
def PrP (G : Gi) (Z : Wd) (μ : Mu) (pr : PR) (Q : VK) : Prop := match pr with
  | .v d => ∀ v Z', Ext Z Z' → Rel G Z' μ → RV G Z' d v → Q v Z'.H
  | .new xs => ∀ p vs Z', Ext Z Z' → Rel G Z' μ → Z'.H p = none → RVs G Z' xs vs → xs.length ≤ LIM → Q (.ref p) (upd Z'.H p (.lst vs))
def rO (G : Gi) (C : Cfg) (o : Op) (vs : List V) (H : Hp) (Q : VK) : Prop := ∃ Z μ ds pr, Z.H = H ∧ Rel G Z μ ∧ RVs G Z ds vs ∧ opS C μ o ds = some pr ∧ PrP G Z μ pr Q

theorem PrP.here {G : Gi} {Z : Wd} {μ : Mu} {d : D} {v : V} {Q : VK} (q : PrP G Z μ (.v d) Q) (R : Rel G Z μ) (h : RV G Z d v) : Q v Z.H := q v Z (Ext.refl Z) R h
theorem PrP.made {G : Gi} {Z : Wd} {μ : Mu} {xs : List D} {vs : List V} {Q : VK} (q : PrP G Z μ (.new xs) Q) (R : Rel G Z μ) (h : RVs G Z xs vs) (z : xs.length ≤ LIM) : ∀ p, Z.H p = none → Q (.ref p) (upd Z.H p (.lst vs)) :=
  fun p hp => q p vs Z (Ext.refl Z) R hp h z

section
variable {X : Cx} {G : Gi} {C : Cfg}
/-! ### + -/
theorem newL_some {xs : List D} {pr : PR} (h : newL xs = some pr) : pr = .new xs ∧ xs.length ≤ LIM := by
  unfold newL at h
  split at h
  · exact ⟨(Option.some.inj h).symm, by assumption⟩
  · cases h
/-- two lists, whatever they are -/
theorem addS_lists {μ : Mu} {d e : D} {pr : PR} {xs ys : List D} (h1 : litems μ d = some xs) (h2 : litems μ e = some ys) (h : addS μ d e = some pr) : newL (xs ++ ys) = some pr := by
  cases d with
  | lst a =>
    have q1 : a = xs := Option.some.inj h1
    subst q1
    cases e with
    | lst b =>
      have q2 : b = ys := Option.some.inj h2
      subst q2; exact h
    | ref n =>
      have q2 : μ[n]? = some ys := h2
      simpa [addS, q2] using h
    | _ => cases h2
  | ref m =>
    have q1 : μ[m]? = some xs := h1
    cases e with
    | lst b =>
      have q2 : b = ys := Option.some.inj h2
      subst q2
      simpa [addS, q1] using h
    | ref n =>
      have q2 : μ[n]? = some ys := h2
      simpa [addS, q1, q2] using h
    | _ => cases h2
  | _ => cases h1
theorem addS_cases {μ : Mu} {d e : D} {pr : PR} (h : addS μ d e = some pr) : (∃ i j, d = .int i ∧ e = .int j ∧ pr = .v (.int (i + j))) ∨ (∃ x y, d = .str x ∧ e = .str y ∧ x.length + y.length ≤ LIM ∧ pr = .v (.str (x ++ y))) ∨
    (∃ xs ys, d = .tup xs ∧ e = .tup ys ∧ xs.length + ys.length ≤ LIM ∧ pr = .v (.tup (xs ++ ys))) ∨ ∃ xs ys, litems μ d = some xs ∧ litems μ e = some ys ∧ pr = .new (xs ++ ys) ∧ (xs ++ ys).length ≤ LIM := by
  unfold addS at h
  split at h
  · exact .inl ⟨_, _, rfl, rfl, (Option.some.inj h).symm⟩
  · split at h
    · exact .inr (.inl ⟨_, _, rfl, rfl, by assumption, (Option.some.inj h).symm⟩)
    · cases h
  · split at h
    · exact .inr (.inr (.inl ⟨_, _, rfl, rfl, by assumption, (Option.some.inj h).symm⟩))
    · cases h
  · obtain ⟨e1, e2⟩ := newL_some h
    exact .inr (.inr (.inr ⟨_, _, rfl, rfl, e1, e2⟩))
  · obtain ⟨ys, hy, h⟩ := Option.bind_eq_some_iff.mp h
    obtain ⟨e1, e2⟩ := newL_some h
    exact .inr (.inr (.inr ⟨_, _, rfl, hy, e1, e2⟩))
  · obtain ⟨ys, hy, h⟩ := Option.bind_eq_some_iff.mp h
    obtain ⟨e1, e2⟩ := newL_some h
    exact .inr (.inr (.inr ⟨_, _, hy, rfl, e1, e2⟩))
  · obtain ⟨xs, hx, h⟩ := Option.bind_eq_some_iff.mp h
    obtain ⟨ys, hy, h⟩ := Option.bind_eq_some_iff.mp h
    obtain ⟨e1, e2⟩ := newL_some h
    exact .inr (.inr (.inr ⟨_, _, hx, hy, e1, e2⟩))
  · cases h
theorem o_add (hK : X.K = G.K) : OpR X (binaryOp .Add) fun x y H Q => rO G C .add [x, y] H Q := by
  intro pins s σ H x y v u Q I rx ry h
  obtain ⟨Z, μ, ds, pr, rfl, R, rv, e, q⟩ := h
  obtain ⟨d, e', rfl, r1, r2⟩ := rv.two_inv
  rcases addS_cases e with ⟨i, j, rfl, rfl, rfl⟩ | ⟨a, b, rfl, rfl, hz, rfl⟩ | ⟨xs, ys, rfl, rfl, hz, rfl⟩ | ⟨xs, ys, h1, h2, rfl, hz⟩
  · exact op_add pins s σ Z.H x y v u Q I rx ry ⟨i, j, r1, r2, q.here R rfl⟩
  · exact op_add_str pins s σ Z.H x y v u Q I rx ry ⟨a, b, r1, r2, by rw [← LIM_eq]; exact hz, q.here R rfl⟩
  · obtain ⟨a, vs, ea, qa, za, ra⟩ := r1
    obtain ⟨b, ws, eb, qb, zb, rb⟩ := r2
    refine op_catA pins s σ Z.H x y v u Q I rx ry ⟨a, b, vs, ws, ea, eb, by rw [hK]; exact qa, by rw [hK]; exact qb, by rw [← ra.length, ← rb.length, ← LIM_eq]; exact hz, fun hx => ?_, fun _ hy => ?_, fun _ _ p hp => ?_⟩
    · have hn : xs = [] := by have := ra.length; rw [hx] at this; exact List.eq_nil_of_length_eq_zero (by simpa using this)
      rw [hn] at q
      exact q.here R ⟨b, ws, rfl, qb, zb, rb⟩
    · have hn : ys = [] := by have := rb.length; rw [hy] at this; exact List.eq_nil_of_length_eq_zero (by simpa using this)
      rw [hn, List.append_nil] at q
      exact q.here R ⟨a, vs, rfl, qa, za, ra⟩
    · exact q (.ref p) (Z.lay p (.tup (vs ++ ws))) (Ext.lay hp) (R.lay hp) ⟨p, _, rfl, SqT.of upd_same, by rw [List.length_append]; exact hz, RVs.ext (Ext.lay hp) R _ _ (ra.append rb)⟩
  · obtain ⟨a, vs, ea, qa, ra, _⟩ := R.litems h1 r1
    obtain ⟨b, ws, eb, qb, rb, _⟩ := R.litems h2 r2
    refine op_cat pins s σ Z.H x y v u Q I rx ry ⟨a, b, vs, ws, ea, eb, qa, qb, by rw [← ra.length, ← rb.length, ← LIM_eq, ← List.length_append]; exact hz, q.made R (ra.append rb) hz⟩
end
end PyE
set_option maxRecDepth 100000
set_option maxHeartbeats 4000000
namespace PyE
open PySem PySem.Spec PyProof.Rows L2
section
variable {X : Cx} {G : Gi} {C : Cfg}
theorem intO_some {f : Int → Int → Option PR} {d e : D} {pr : PR} (h : intO f d e = some pr) : ∃ i j, d = .int i ∧ e = .int j ∧ f i j = some pr := by
  unfold intO at h
  split at h
  · exact ⟨_, _, rfl, rfl, h⟩
  · cases h
theorem ibits_eq (i : Int) : Builtin.Int.intBits i = ibits i := by
  unfold Builtin.Int.intBits ibits
  by_cases h : i = 0
  · subst h; rfl
  · rw [if_neg h, if_neg (by simpa using h)]
theorem mulOk_ok {i j : Int} (h : mulOk i j = true) : IntMulOk i j := by
  have h1 : i.natAbs.log2 + j.natAbs.log2 < 100000000 := of_decide_eq_true h
  have b : ∀ x : Int, Builtin.Int.intBits x ≤ x.natAbs.log2 + 1 := fun x => by
    rw [ibits_eq]; unfold ibits
    split <;> omega
  have b1 := b i
  have b2 := b j
  unfold IntMulOk Builtin.Int.intTooBig bitsLine
  intro q
  simp only [Bool.and_eq_true, decide_eq_true_eq] at q
  have q2 := q.2
  have e : ((2 : Nat) ^ 27 : Nat) = 134217728 := by decide
  simp only [e] at q2
  omega
/-- two ints by a rule of the layer -/
theorem o_int {f : Value → Value → Sem Value} {o : Op} {g : Int → Int → Option PR} (hop : ∀ μ d e, opS C μ o [d, e] = intO g d e) {r : R2} (h0 : OpR X f r)
    (hr : ∀ (i j : Int) (pr : PR) (Z : Wd) (μ : Mu) (Q : VK), g i j = some pr → Rel G Z μ → PrP G Z μ pr Q → r (.int i) (.int j) Z.H Q) : OpR X f fun x y H Q => rO G C o [x, y] H Q := by
  intro pins s σ H x y v u Q I rx ry h
  obtain ⟨Z, μ, ds, pr, rfl, R, rv, e, q⟩ := h
  obtain ⟨d, e', rfl, r1, r2⟩ := rv.two_inv
  rw [hop] at e
  obtain ⟨i, j, rfl, rfl, e⟩ := intO_some e
  have e1 : x = .int i := r1
  have e2 : y = .int j := r2
  subst e1 e2
  exact h0 pins s σ Z.H _ _ v u Q I rx ry (hr i j pr Z μ Q e R q)
theorem some_v {d : D} {pr : PR} (h : some (PR.v d) = some pr) : pr = .v d := (Option.some.inj h).symm
theorem if_some {c : Prop} [Decidable c] {a pr : PR} (h : (if c then some a else none) = some pr) : c ∧ pr = a := by
  by_cases hc : c
  · rw [if_pos hc] at h; exact ⟨hc, (Option.some.inj h).symm⟩
  · rw [if_neg hc] at h; cases h
theorem o_sub : OpR X (binaryOp .Sub) fun x y H Q => rO G C .sub [x, y] H Q := o_int (fun _ _ _ => rfl) op_sub fun i j pr Z μ Q h R q => by
  rw [some_v h] at q; exact ⟨i, j, rfl, rfl, q.here R rfl⟩
theorem op_mulL : OpR X (binaryOp .Mult) (rI (fun i j => mulOk i j = true) fun i j => .int (i * j)) := opI fun _ _ _ _ _ _ _ hc q => mul_int q (mulOk_ok hc)
theorem op_fdivL : OpR X (binaryOp .FloorDiv) (rI (fun _ j => divOk j = true) fun i j => .int (i.fdiv j)) := opI fun i j _ _ _ _ _ hc q => by
  have h := Bool.and_eq_true_iff.mp hc
  exact floordiv_int (of_decide_eq_true h.1) q (.inl (PyProof.noPylong_of_log2 (of_decide_eq_true h.2)))
theorem op_powL : OpR X (binaryOp .Pow) (rI (fun i j => 0 ≤ j ∧ ibits i * j.toNat ≤ 100000000) fun i j => .int (i ^ j.toNat)) := opI fun i j _ _ _ _ _ hc q => by
  refine pow_int hc.1 ?_ q
  rw [ibits_eq]
  obtain ⟨n, rfl⟩ := Int.eq_ofNat_of_zero_le hc.1
  have h2 : ibits i * n ≤ 100000000 := hc.2
  have e2 : ((2 : Int) ^ 27) = ((134217728 : Nat) : Int) := by decide
  rw [e2, ← Int.natCast_mul]
  exact Int.ofNat_le.mpr (by omega)
theorem o_fdiv : OpR X (binaryOp .FloorDiv) fun x y H Q => rO G C .fdiv [x, y] H Q := o_int (fun _ _ _ => rfl) op_fdivL fun i j pr Z μ Q h R q => by
  obtain ⟨hc, rfl⟩ := if_some h; exact ⟨i, j, rfl, rfl, hc, q.here R rfl⟩
theorem o_mod : OpR X (binaryOp .Mod) fun x y H Q => rO G C .mod [x, y] H Q := o_int (fun _ _ _ => rfl) op_modN fun i j pr Z μ Q h R q => by
  by_cases hj : j = 0
  · rw [if_pos hj] at h; cases h
  · rw [if_neg hj] at h; rw [some_v h] at q; exact ⟨i, j, rfl, rfl, hj, q.here R rfl⟩
theorem o_pow : OpR X (binaryOp .Pow) fun x y H Q => rO G C .pow [x, y] H Q := o_int (fun _ _ _ => rfl) op_powL fun i j pr Z μ Q h R q => by
  obtain ⟨hc, rfl⟩ := if_some h; exact ⟨i, j, rfl, rfl, hc, q.here R rfl⟩
theorem o_neg : UnR X (unaryOp .USub) fun x H Q => rO G C .neg [x] H Q := by
  intro pins s σ H x v Q I rx h
  obtain ⟨Z, μ, ds, pr, rfl, R, rv, e, q⟩ := h
  obtain ⟨d, rfl, r1⟩ := rv.one_inv
  obtain ⟨i, j, rfl, _, e⟩ := intO_some (show intO (fun i _ => some (.v (.int (-i)))) d (.int 0) = some pr from e)
  rw [some_v e] at q
  exact un_neg pins s σ Z.H x v Q I rx ⟨i, r1, q.here R rfl⟩
theorem rng62_ok {j : Int} (h : rng62 j = true) : -(2 ^ 62) ≤ j ∧ j < 2 ^ 62 := ⟨of_decide_eq_true (Bool.and_eq_true_iff.mp h).1, of_decide_eq_true (Bool.and_eq_true_iff.mp h).2⟩
theorem mulS_cases {μ : Mu} {d e : D} {pr : PR} (h : mulS μ d e = some pr) : (∃ i j, d = .int i ∧ e = .int j ∧ mulOk i j = true ∧ pr = .v (.int (i * j))) ∨
    ∃ xs j, litems μ d = some xs ∧ e = .int j ∧ rng62 j = true ∧ xs.length * j.toNat ≤ LIM ∧ pr = .new (List.replicate j.toNat xs).flatten := by
  unfold mulS at h
  split at h
  · obtain ⟨hc, rfl⟩ := if_some h
    exact .inl ⟨_, _, rfl, rfl, hc, rfl⟩
  · obtain ⟨hc, rfl⟩ := if_some h
    exact .inr ⟨_, _, rfl, rfl, hc.1, hc.2, rfl⟩
  · obtain ⟨xs, hx, h⟩ := Option.bind_eq_some_iff.mp h
    obtain ⟨hc, rfl⟩ := if_some h
    exact .inr ⟨_, _, hx, rfl, hc.1, hc.2, rfl⟩
  · cases h
theorem flat_rep_len {α : Type} (xs : List α) : ∀ n, (List.replicate n xs).flatten.length = xs.length * n
  | 0 => by simp
  | n + 1 => by rw [List.replicate_succ, List.flatten_cons, List.length_append, flat_rep_len xs n, Nat.mul_succ, Nat.add_comm]
theorem o_mul : OpR X (binaryOp .Mult) fun x y H Q => rO G C .mul [x, y] H Q := by
  intro pins s σ H x y v u Q I rx ry h
  obtain ⟨Z, μ, ds, pr, rfl, R, rv, e, q⟩ := h
  obtain ⟨d, e', rfl, r1, r2⟩ := rv.two_inv
  rcases mulS_cases e with ⟨i, j, rfl, rfl, hm, rfl⟩ | ⟨xs, j, h1, rfl, hj, hl, rfl⟩
  · exact op_mulL pins s σ Z.H x y v u Q I rx ry ⟨i, j, r1, r2, hm, q.here R rfl⟩
  · obtain ⟨a, vs, ea, qa, ra, _⟩ := R.litems h1 r1
    obtain ⟨j1, j2⟩ := rng62_ok hj
    exact op_rep pins s σ Z.H x y v u Q I rx ry ⟨a, j, vs, ea, r2, qa, by omega, by omega, by rw [← ra.length, ← LIM_eq]; exact hl, q.made R (ra.flat_rep _) (by rw [flat_rep_len]; exact hl)⟩
end
end PyE
set_option maxRecDepth 100000
set_option maxHeartbeats 4000000
namespace PyE
open PySem PySem.Spec PyProof.Rows L2
/-! ### data read off a heap -/
section
variable {G : Gi} {Z : Wd} {μ : Mu}
mutual
theorem dp_d {R : Nat → Option PyData} (hR : ∀ (n : Nat) (a : Addr) (p : PyData), Z.th[n]? = some a → R n = some p → p.canLay0 = true → Dp G.K Z.H (.ref a) p) :
    ∀ (d : D) (v : V) (p : PyData), d.py R = some p → p.canLay0 = true → RV G Z d v → Dp G.K Z.H v p
  | .none, v, p, e, _, r => by
    have e' : PyData.none = p := Option.some.inj e
    rw [← e', show v = V.non from r]; exact .non
  | .bl b, v, p, e, _, r => by
    have e' : PyData.bool b = p := Option.some.inj e
    rw [← e', show v = V.bl b from r]; exact .bl b
  | .int b, v, p, e, _, r => by
    have e' : PyData.int b = p := Option.some.inj e
    rw [← e', show v = V.int b from r]; exact .int b
  | .str b, v, p, e, _, r => by
    have e' : PyData.str b = p := Option.some.inj e
    rw [← e', show v = V.str b from r]; exact .str b
  | .fn _, _, _, e, _, _ => by cases e
  | .exc _ _, _, _, e, _, _ => by cases e
  | .dct, _, p, e, l, _ => by
    have e' : PyData.dict [] = p := Option.some.inj e
    rw [← e'] at l
    simp [PyData.canLay0] at l
  | .scr xs, v, p, e, _, r => by
    have e' : PyData.list (xs.map .int) = p := Option.some.inj e
    obtain ⟨a, ea, q, _⟩ := r
    rw [← e', ea]
    refine .lst (xs := xs.map V.int) ?_ (dp_ints xs)
    rcases q with ⟨o, q⟩ | q
    · exact .inl (.inr ⟨o, q⟩)
    · exact q _
  | .tup ds, v, p, e, l, r => by
    obtain ⟨ps, e1, e2⟩ := Option.map_eq_some_iff.mp (show (D.pyL R ds).map .tuple = some p from e)
    obtain ⟨a, vs, ea, q, _, rs⟩ := r
    subst e2
    rw [ea]
    exact .tup q (dp_l hR ds vs ps e1 (by simpa [PyData.canLay0] using l) rs)
  | .lst ds, v, p, e, l, r => by
    obtain ⟨ps, e1, e2⟩ := Option.map_eq_some_iff.mp (show (D.pyL R ds).map .list = some p from e)
    obtain ⟨a, vs, ea, _, q, _, rs⟩ := r
    subst e2
    rw [ea]
    exact .lst (SqL.of q) (dp_l hR ds vs ps e1 (by simpa [PyData.canLay0] using l) rs)
  | .ref n, v, p, e, l, r => by
    obtain ⟨a, e1, e2⟩ := r
    rw [e2]
    exact hR n a p e1 e l
theorem dp_l {R : Nat → Option PyData} (hR : ∀ (n : Nat) (a : Addr) (p : PyData), Z.th[n]? = some a → R n = some p → p.canLay0 = true → Dp G.K Z.H (.ref a) p) :
    ∀ (ds : List D) (vs : List V) (ps : List PyData), D.pyL R ds = some ps → PyData.canLayAll0 ps = true → RVs G Z ds vs → DpAll G.K Z.H vs ps
  | [], vs, ps, e, _, r => by
    have e' : [] = ps := Option.some.inj e
    rw [← e', show vs = [] from r]; exact .nil
  | d :: ds, vs, ps, e, l, r => by
    obtain ⟨p, e1, e2⟩ := Option.bind_eq_some_iff.mp (show ((D.py R d).bind fun a => (D.pyL R ds).map fun b => a :: b) = some ps from e)
    obtain ⟨qs, e3, e4⟩ := Option.map_eq_some_iff.mp e2
    obtain ⟨v, ws, ev, r1, r2⟩ := r
    subst e4
    have l' : p.canLay0 = true ∧ PyData.canLayAll0 qs = true := by simpa [PyData.canLayAll0] using l
    rw [ev]
    exact .cons (dp_d hR d v p e1 l'.1 r1) (dp_l hR ds ws qs e3 l'.2 r2)
theorem dp_ints : ∀ xs : List Int, DpAll G.K Z.H (xs.map V.int) (xs.map PyData.int)
  | [] => .nil
  | x :: xs => .cons (.int x) (dp_ints xs)
end
theorem dp_tab (R : Rel G Z μ) : ∀ (k n : Nat) (a : Addr) (p : PyData), Z.th[n]? = some a → tab μ k n = some p → p.canLay0 = true → Dp G.K Z.H (.ref a) p
  | 0, _, _, _, _, e, _ => by cases e
  | k + 1, n, a, p, hn, e, l => by
    unfold tab at e
    cases hm : μ[n]? with
    | none => rw [hm] at e; cases e
    | some xs =>
      rw [hm] at e
      obtain ⟨ps, e1, e2⟩ := Option.map_eq_some_iff.mp e
      obtain ⟨vs, hv, rs, _⟩ := R.cell n a xs hn hm
      subst e2
      exact .lst (SqL.of hv) (dp_l (dp_tab R k) xs vs ps e1 (by simpa [PyData.canLay0] using l) rs)
theorem dp_view (R : Rel G Z μ) {d : D} {v : V} {p : PyData} (h : view μ d = some p) (l : p.canLay0 = true) (r : RV G Z d v) : Dp G.K Z.H v p := dp_d (dp_tab R FUEL) d v p h l r
end
section
variable {X : Cx} {G : Gi} {C : Cfg}
theorem eqD_some {μ : Mu} {x y : D} {b : Bool} (h : eqD μ x y = some b) : ∃ p q, view μ x = some p ∧ view μ y = some q ∧ SeqAt.shaped p = true ∧ SeqAt.shaped q = true ∧ b = PyData.eqv p q := by
  obtain ⟨p, h1, h⟩ := Option.bind_eq_some_iff.mp h
  obtain ⟨q, h2, h⟩ := Option.bind_eq_some_iff.mp h
  split at h
  · rename_i hs
    have hs := Bool.and_eq_true_iff.mp hs
    exact ⟨p, q, h1, h2, hs.1, hs.2, (Option.some.inj h).symm⟩
  · cases h
theorem o_eq (hK : X.K = G.K) (hu : X.A.units + 64 < cLine) : OpR X (compareOp .Eq) fun x y H Q => rO G C .eq [x, y] H Q := by
  intro pins s σ H x y v u Q I rx ry h
  obtain ⟨Z, μ, ds, pr, rfl, R, rv, e, q⟩ := h
  obtain ⟨d, e', rfl, r1, r2⟩ := rv.two_inv
  obtain ⟨b, h1, rfl⟩ := Option.map_eq_some_iff.mp (show (eqD μ d e').map (fun b => PR.v (.bl b)) = some pr from e)
  obtain ⟨p1, p2, v1, v2, s1, s2, rfl⟩ := eqD_some h1
  exact op_eqD hu pins s σ Z.H x y v u Q I rx ry ⟨p1, p2, by rw [hK]; exact dp_view R v1 (SeqAt.canLay_of_shaped s1) r1, by rw [hK]; exact dp_view R v2 (SeqAt.canLay_of_shaped s2) r2, s1, s2, q.here R rfl⟩
theorem o_ne (hK : X.K = G.K) (hu : X.A.units + 64 < cLine) : OpR X (compareOp .NotEq) fun x y H Q => rO G C .ne [x, y] H Q := by
  intro pins s σ H x y v u Q I rx ry h
  obtain ⟨Z, μ, ds, pr, rfl, R, rv, e, q⟩ := h
  obtain ⟨d, e', rfl, r1, r2⟩ := rv.two_inv
  obtain ⟨b, h1, rfl⟩ := Option.map_eq_some_iff.mp (show (eqD μ d e').map (fun b => PR.v (.bl !b)) = some pr from e)
  obtain ⟨p1, p2, v1, v2, s1, s2, rfl⟩ := eqD_some h1
  exact op_neD hu pins s σ Z.H x y v u Q I rx ry ⟨p1, p2, by rw [hK]; exact dp_view R v1 (SeqAt.canLay_of_shaped s1) r1, by rw [hK]; exact dp_view R v2 (SeqAt.canLay_of_shaped s2) r2, s1, s2, q.here R rfl⟩
theorem lexLt_eq : ∀ a b : List Int, lexLt a b = HT.lexLt a b
  | [], [] => rfl
  | [], _ :: _ => rfl
  | _ :: _, [] => rfl
  | a :: r, b :: s => by
    unfold lexLt HT.lexLt
    rw [lexLt_eq r s]
theorem ltS_cases {d e : D} {pr : PR} (h : ltS d e = some pr) : (∃ i j, d = .int i ∧ e = .int j ∧ pr = .v (.bl (decide (i < j)))) ∨ ∃ xs ys a b, d = .tup xs ∧ e = .tup ys ∧ asInts xs = some a ∧ asInts ys = some b ∧ pr = .v (.bl (lexLt a b)) := by
  unfold ltS at h
  split at h
  · exact .inl ⟨_, _, rfl, rfl, some_v h⟩
  · obtain ⟨a, h1, h⟩ := Option.bind_eq_some_iff.mp h
    obtain ⟨b, h2, rfl⟩ := Option.map_eq_some_iff.mp h
    exact .inr ⟨_, _, a, b, rfl, rfl, h1, h2, rfl⟩
  · cases h
theorem o_lt (hK : X.K = G.K) (hu : X.A.units < cLine) : OpR X (compareOp .Lt) fun x y H Q => rO G C .lt [x, y] H Q := by
  intro pins s σ H x y v u Q I rx ry h
  obtain ⟨Z, μ, ds, pr, rfl, R, rv, e, q⟩ := h
  obtain ⟨d, e', rfl, r1, r2⟩ := rv.two_inv
  rcases ltS_cases e with ⟨i, j, rfl, rfl, rfl⟩ | ⟨xs, ys, a, b, rfl, rfl, h1, h2, rfl⟩
  · exact op_lt pins s σ Z.H x y v u Q I rx ry ⟨i, j, r1, r2, q.here R rfl⟩
  · obtain ⟨p, vs, ep, qp, _, rp⟩ := r1
    obtain ⟨p', ws, ep', qp', _, rp'⟩ := r2
    have e1 := ints_of h1 rp
    have e2 := ints_of h2 rp'
    subst e1 e2
    exact op_ltT hu pins s σ Z.H x y v u Q I rx ry ⟨p, p', a, b, ep, ep', by rw [hK]; exact qp, by rw [hK]; exact qp', by rw [← lexLt_eq]; exact q.here R rfl⟩
theorem o_le : OpR X (compareOp .LtE) fun x y H Q => rO G C .le [x, y] H Q := o_int (fun _ _ _ => rfl) op_le fun i j pr Z μ Q h R q => by
  rw [some_v h] at q; exact ⟨i, j, rfl, rfl, q.here R rfl⟩
theorem o_gt : OpR X (compareOp .Gt) fun x y H Q => rO G C .gt [x, y] H Q := o_int (fun _ _ _ => rfl) op_gt fun i j pr Z μ Q h R q => by
  rw [some_v h] at q; exact ⟨i, j, rfl, rfl, q.here R rfl⟩
theorem o_ge : OpR X (compareOp .GtE) fun x y H Q => rO G C .ge [x, y] H Q := o_int (fun _ _ _ => rfl) op_ge fun i j pr Z μ Q h R q => by
  rw [some_v h] at q; exact ⟨i, j, rfl, rfl, q.here R rfl⟩
theorem RV.none_iff {Z : Wd} {d : D} {x : V} (r : RV G Z d x) : decide (x = .non) = isNone d := by
  cases d with
  | none => rw [show x = V.non from r]; rfl
  | bl b => rw [show x = V.bl b from r]; rfl
  | int b => rw [show x = V.int b from r]; rfl
  | str b => rw [show x = V.str b from r]; rfl
  | tup b => obtain ⟨a, _, e, _⟩ := r; rw [e]; rfl
  | lst b => obtain ⟨a, _, e, _⟩ := r; rw [e]; rfl
  | ref b => obtain ⟨a, _, e⟩ := r; rw [e]; rfl
  | fn b => rw [show x = V.ref _ from r.2]; rfl
  | dct => obtain ⟨a, e, _⟩ := r; rw [e]; rfl
  | exc c b => obtain ⟨_, a, _, _, e, _⟩ := r; rw [e]; rfl
  | scr b => obtain ⟨a, e, _⟩ := r; rw [e]; rfl
theorem RV.bl_iff {Z : Wd} {d : D} {x : V} (b : Bool) (r : RV G Z d x) : decide (x = .bl b) = isBl b d := by
  cases d with
  | none => rw [show x = V.non from r]; rfl
  | bl c => rw [show x = V.bl c from r]; cases b <;> cases c <;> rfl
  | int b => rw [show x = V.int b from r]; rfl
  | str b => rw [show x = V.str b from r]; rfl
  | tup b => obtain ⟨a, _, e, _⟩ := r; rw [e]; rfl
  | lst b => obtain ⟨a, _, e, _⟩ := r; rw [e]; rfl
  | ref b => obtain ⟨a, _, e⟩ := r; rw [e]; rfl
  | fn b => rw [show x = V.ref _ from r.2]; rfl
  | dct => obtain ⟨a, e, _⟩ := r; rw [e]; rfl
  | exc c b => obtain ⟨_, a, _, _, e, _⟩ := r; rw [e]; rfl
  | scr b => obtain ⟨a, e, _⟩ := r; rw [e]; rfl
theorem is_bool_of {x : V} {v : Value} (r : RelV x v) (b : Bool) : compareOp .Is v (.bool b) = pure (.bool (decide (x = .bl b))) := by
  cases x with
  | non => rw [show v = Value.none from r]; rfl
  | bl c => rw [show v = Value.bool c from r]; cases b <;> cases c <;> rfl
  | int i => obtain ⟨t, rfl⟩ := r; rfl
  | str i => obtain ⟨t, rfl⟩ := r; rfl
  | byt i => obtain ⟨t, rfl⟩ := r; rfl
  | flt i => obtain ⟨t, rfl⟩ := r; rfl
  | ref i => rw [show v = Value.ref i from r]; rfl
  | ty i => rw [show v = Value.type i from r]; rfl
theorem o_isn : OpR X (compareOp .Is) fun x y H Q => y = .non ∧ rO G C .isn [x] H Q := by
  intro pins s σ H x y v u Q I rx ry h
  obtain ⟨rfl, Z, μ, ds, pr, rfl, R, rv, e, q⟩ := h
  obtain ⟨d, rfl, r1⟩ := rv.one_inv
  rw [some_v e] at q
  exact op_isN pins s σ Z.H x .non v u Q I rx ry ⟨rfl, q.here R (show V.bl _ = V.bl _ by rw [r1.none_iff])⟩
theorem o_notn : OpR X (compareOp .IsNot) fun x y H Q => y = .non ∧ rO G C .notn [x] H Q := by
  intro pins s σ H x y v u Q I rx ry h
  obtain ⟨rfl, Z, μ, ds, pr, rfl, R, rv, e, q⟩ := h
  obtain ⟨d, rfl, r1⟩ := rv.one_inv
  rw [some_v e] at q
  exact op_notN pins s σ Z.H x .non v u Q I rx ry ⟨rfl, q.here R (show V.bl _ = V.bl _ by rw [r1.none_iff])⟩
theorem o_isb (b : Bool) : OpR X (compareOp .Is) fun x y H Q => y = .bl b ∧ rO G C (.isb b) [x] H Q := by
  intro pins s σ H x y v u Q I rx ry h
  obtain ⟨rfl, Z, μ, ds, pr, rfl, R, rv, e, q⟩ := h
  obtain ⟨d, rfl, r1⟩ := rv.one_inv
  rw [some_v e] at q
  rw [show u = Value.bool b from ry, is_bool_of rx b, r1.bl_iff b]
  exact wpAny_pure ⟨.bl (isBl b d), Z.H, I, rfl, q.here R rfl⟩
end
end PyE
set_option maxRecDepth 100000
set_option maxHeartbeats 4000000
namespace PyE
open PySem PySem.Spec PyProof.Rows L2
section
variable {X : Cx} {G : Gi} {C : Cfg}
theorem inS_some {μ : Mu} {x y : D} {b : Bool} (h : inS μ x y = some b) : ∃ d ds, view μ x = some d ∧ view μ y = some (.list ds) ∧ SeqAt.shaped d = true ∧ SeqAt.shaped (.list ds) = true ∧ b = ds.any fun z => PyData.eqv z d := by
  obtain ⟨d, h1, h⟩ := Option.bind_eq_some_iff.mp h
  obtain ⟨l, h2, h⟩ := Option.bind_eq_some_iff.mp h
  split at h
  · split at h
    · rename_i hs
      have hs := Bool.and_eq_true_iff.mp hs
      exact ⟨d, _, h1, h2, hs.1, hs.2, (Option.some.inj h).symm⟩
    · cases h
  · cases h
theorem o_in (hK : X.K = G.K) (hu : X.A.units + 65 < cLine) : OpR X (compareOp .In) fun x y H Q => rO G C .in_ [x, y] H Q := by
  intro pins s σ H x y v u Q I rx ry h
  obtain ⟨Z, μ, ds, pr, rfl, R, rv, e, q⟩ := h
  obtain ⟨d, e', rfl, r1, r2⟩ := rv.two_inv
  obtain ⟨b, h1, rfl⟩ := Option.map_eq_some_iff.mp (show (inS μ d e').map (fun b => PR.v (.bl b)) = some pr from e)
  obtain ⟨p, ps, v1, v2, s1, s2, rfl⟩ := inS_some h1
  exact op_inD hu pins s σ Z.H x y v u Q I rx ry ⟨p, ps, by rw [hK]; exact dp_view R v1 (SeqAt.canLay_of_shaped s1) r1, by rw [hK]; exact dp_view R v2 (SeqAt.canLay_of_shaped s2) r2, s1, s2, q.here R rfl⟩
theorem o_notin (hK : X.K = G.K) (hu : X.A.units + 65 < cLine) : OpR X (compareOp .NotIn) fun x y H Q => rO G C .notin [x, y] H Q := by
  intro pins s σ H x y v u Q I rx ry h
  obtain ⟨Z, μ, ds, pr, rfl, R, rv, e, q⟩ := h
  obtain ⟨d, e', rfl, r1, r2⟩ := rv.two_inv
  obtain ⟨b, h1, rfl⟩ := Option.map_eq_some_iff.mp (show (inS μ d e').map (fun b => PR.v (.bl !b)) = some pr from e)
  obtain ⟨p, ps, v1, v2, s1, s2, rfl⟩ := inS_some h1
  exact op_notInD hu pins s σ Z.H x y v u Q I rx ry ⟨p, ps, by rw [hK]; exact dp_view R v1 (SeqAt.canLay_of_shaped s1) r1, by rw [hK]; exact dp_view R v2 (SeqAt.canLay_of_shaped s2) r2, s1, s2, q.here R rfl⟩
/-! ### items, slices -/
theorem idxS_some {μ : Mu} {x k : D} {pr : PR} (h : idxS μ x k = some pr) : ∃ i xs j d, k = .int i ∧ items μ x = some xs ∧ place i xs.length = some j ∧ xs[j]? = some d ∧ pr = .v d := by
  unfold idxS at h
  split at h
  · obtain ⟨xs, h1, h⟩ := Option.bind_eq_some_iff.mp h
    obtain ⟨j, h2, h⟩ := Option.bind_eq_some_iff.mp h
    obtain ⟨d, h3, rfl⟩ := Option.map_eq_some_iff.mp h
    exact ⟨_, xs, j, d, rfl, h1, h2, h3, rfl⟩
  · cases h
theorem o_idx (hK : X.K = G.K) : IxR X fun x y H Q => rO G C .idx [x, y] H Q := by
  intro value slice pins s σ H x y v u Q I rx ry h hs
  obtain ⟨Z, μ, ds, pr, rfl, R, rv, e, q⟩ := h
  obtain ⟨d, e', rfl, r1, r2⟩ := rv.two_inv
  obtain ⟨i, xs, j, z, rfl, h1, h2, h3, rfl⟩ := idxS_some e
  obtain ⟨a, vs, ea, qa, ra, _⟩ := R.items h1 r1
  obtain ⟨w, h4, rw'⟩ := ra.get h3
  have hat : atI vs i = some w := by
    have e0 : (ixN vs.length i) = some j := by rw [← ra.length]; exact h2
    unfold atI
    rw [e0]
    exact h4
  rcases qa with qa | qa
  · exact ix_list value slice pins s σ Z.H x y v u Q I rx ry ⟨a, vs, i, w, ea, r2, by rw [hK]; exact qa, hat, q.here R rw'⟩ hs
  · exact ix_tup value slice pins s σ Z.H x y v u Q I rx ry ⟨a, vs, i, w, ea, r2, by rw [hK]; exact qa, hat, q.here R rw'⟩ hs
/-- a slice's bounds, of a list -/
def rSl (G : Gi) (μ0 : Unit) : V → Option Int → Option Int → Hp → VK → Prop := fun x lo hi H Q => ∃ Z μ d pr, Z.H = H ∧ Rel G Z μ ∧ RV G Z d x ∧ slcS μ d lo hi = some pr ∧ PrP G Z μ pr Q
theorem clamp_eq (i : Int) (n k : Nat) : clamp i n = HT.sIx n k (some i) := by
  unfold clamp
  show _ = if i < 0 then (i + (n : Int)).toNat else min i.toNat n
  by_cases h : 0 ≤ i
  · rw [if_pos h, if_neg (by omega)]
  · rw [if_neg h, if_pos (by omega)]
theorem take_drop' {α : Type} (l : List α) (a b : Nat) : (l.take b).drop a = (l.drop a).take (b - a) := by
  rw [List.drop_take]
theorem o_slc (hK : X.K = G.K) : SlR X (rSl G ()) := by
  intro pins s σ H x v vl vu lo hi sl Q I rx hs pl pu h
  obtain ⟨Z, μ, d, pr, rfl, R, r, e, q⟩ := h
  obtain ⟨xs, h1, rfl⟩ := Option.map_eq_some_iff.mp e
  obtain ⟨a, vs, ea, qa, ra, z⟩ := R.sitems h1 r
  have hs' : ∀ (o : Option Int) (k : Nat), cutAt o xs.length k = HT.sIx xs.length k o := fun o k => by
    cases o with
    | none => rfl
    | some i => exact clamp_eq i _ _
  have hc : cut xs (cutAt lo xs.length 0) (cutAt hi xs.length xs.length) = (xs.take (cutAt hi xs.length xs.length)).drop (cutAt lo xs.length 0) := rfl
  refine sl_list pins s σ Z.H x v vl vu lo hi sl Q I rx hs pl pu ⟨a, vs, ea, by rw [hK]; exact qa, fun p hp => ?_⟩
  have e2 : cutV vs lo hi = (vs.take (cutAt hi xs.length xs.length)).drop (cutAt lo xs.length 0) := by
    unfold cutV
    rw [take_drop', hs', hs', ← ra.length]
  rw [e2]
  rw [hc] at q
  refine q.made R ((ra.take _).drop _) ?_ p hp
  rw [List.length_drop, List.length_take]
  omega
/-! ### built-in functions -/
theorem lenS_cases {μ : Mu} {d : D} {pr : PR} (h : lenS μ d = some pr) : (∃ s, d = .str s ∧ s.length ≤ LIM ∧ pr = .v (.int s.length)) ∨ ∃ xs, items μ d = some xs ∧ pr = .v (.int xs.length) := by
  unfold lenS at h
  split at h
  · obtain ⟨hc, rfl⟩ := if_some h
    exact .inl ⟨_, rfl, hc, rfl⟩
  · obtain ⟨xs, h1, rfl⟩ := Option.map_eq_some_iff.mp h
    exact .inr ⟨xs, h1, rfl⟩
theorem o_len (hK : X.K = G.K) : CallR X (.builtin "len") fun vs H Q => (∃ x, vs = [x]) ∧ rO G C .len vs H Q := by
  intro pins s σ H xs us Q I r h
  obtain ⟨⟨x, rfl⟩, Z, μ, ds, pr, rfl, R, rv, e, q⟩ := h
  obtain ⟨d, rfl, r1⟩ := rv.one_inv
  rcases lenS_cases e with ⟨z, rfl, hz, rfl⟩ | ⟨ys, h1, rfl⟩
  · have e1 : x = .str z := r1
    subst e1
    exact call_len pins s σ Z.H _ us Q I r ⟨.str z, z.length, rfl, ⟨by rw [← LIM_eq]; exact hz, rfl⟩, q.here R rfl⟩
  · obtain ⟨a, vs, ea, qa, ra, _⟩ := R.items h1 r1
    subst ea
    refine call_len pins s σ Z.H _ us Q I r ⟨.ref a, ys.length, rfl, ?_, q.here R rfl⟩
    rw [hK]
    rcases qa with qa | qa
    · exact .inl ⟨vs, qa, ra.length⟩
    · exact .inr ⟨vs, qa, ra.length⟩
theorem o_abs : CallR X (.builtin "abs") fun vs H Q => (∃ x, vs = [x]) ∧ rO G C .abs vs H Q := by
  intro pins s σ H xs us Q I r h
  obtain ⟨⟨x, rfl⟩, Z, μ, ds, pr, rfl, R, rv, e, q⟩ := h
  obtain ⟨d, rfl, r1⟩ := rv.one_inv
  cases d with
  | int i =>
    rw [some_v e] at q
    exact call_abs pins s σ Z.H _ us Q I r ⟨i, by rw [show x = V.int i from r1], q.here R rfl⟩
  | _ => cases (show (none : Option PR) = some pr from e)
theorem o_int_ : CallR X (.type "int") fun vs H Q => (∃ x, vs = [x]) ∧ rO G C .int_ vs H Q := by
  intro pins s σ H xs us Q I r h
  obtain ⟨⟨x, rfl⟩, Z, μ, ds, pr, rfl, R, rv, e, q⟩ := h
  obtain ⟨d, rfl, r1⟩ := rv.one_inv
  cases d with
  | int i =>
    rw [some_v e] at q
    exact call_int1 pins s σ Z.H _ us Q I r (.inl ⟨i, by rw [show x = V.int i from r1], q.here R rfl⟩)
  | bl i =>
    rw [some_v e] at q
    exact call_int1 pins s σ Z.H _ us Q I r (.inr ⟨i, by rw [show x = V.bl i from r1], q.here R rfl⟩)
  | _ => cases (show (none : Option PR) = some pr from e)
theorem o_bool_ : CallR X (.type "bool") fun vs H Q => (∃ x, vs = [x]) ∧ rO G C .bool_ vs H Q := by
  intro pins s σ H xs us Q I r h
  obtain ⟨⟨x, rfl⟩, Z, μ, ds, pr, rfl, R, rv, e, q⟩ := h
  obtain ⟨d, rfl, r1⟩ := rv.one_inv
  cases d with
  | int i =>
    rw [some_v e] at q
    exact call_bool1 pins s σ Z.H _ us Q I r (.inl ⟨i, by rw [show x = V.int i from r1], q.here R rfl⟩)
  | bl i =>
    rw [some_v e] at q
    exact call_bool1 pins s σ Z.H _ us Q I r (.inr ⟨i, by rw [show x = V.bl i from r1], q.here R rfl⟩)
  | _ => cases (show (none : Option PR) = some pr from e)
theorem o_max2 (hc : X.calm = true) : CallR X (.builtin "max") fun vs H Q => (∃ x y, vs = [x, y]) ∧ rO G C .max2 vs H Q := by
  intro pins s σ H xs us Q I r h
  obtain ⟨⟨x, y, rfl⟩, Z, μ, ds, pr, rfl, R, rv, e, q⟩ := h
  obtain ⟨d, d2, rfl, r1, r2⟩ := rv.two_inv
  obtain ⟨i, j, rfl, rfl, e⟩ := intO_some e
  rw [some_v e] at q
  exact call_max2 hc pins s σ Z.H _ us Q I r ⟨i, j, by rw [show x = V.int i from r1, show y = V.int j from r2], q.here R rfl⟩
theorem o_min2 (hc : X.calm = true) : CallR X (.builtin "min") fun vs H Q => (∃ x y, vs = [x, y]) ∧ rO G C .min2 vs H Q := by
  intro pins s σ H xs us Q I r h
  obtain ⟨⟨x, y, rfl⟩, Z, μ, ds, pr, rfl, R, rv, e, q⟩ := h
  obtain ⟨d, d2, rfl, r1, r2⟩ := rv.two_inv
  obtain ⟨i, j, rfl, rfl, e⟩ := intO_some e
  rw [some_v e] at q
  exact call_min2 hc pins s σ Z.H _ us Q I r ⟨i, j, by rw [show x = V.int i from r1, show y = V.int j from r2], q.here R rfl⟩
theorem o_sum1 (hK : X.K = G.K) (hc : X.calm = true) : CallR X (.builtin "sum") fun vs H Q => (∃ x, vs = [x]) ∧ rO G C .sum1 vs H Q := by
  intro pins s σ H xs us Q I r h
  obtain ⟨⟨x, rfl⟩, Z, μ, ds, pr, rfl, R, rv, e, q⟩ := h
  obtain ⟨d, rfl, r1⟩ := rv.one_inv
  obtain ⟨ys, h1, e⟩ := Option.bind_eq_some_iff.mp (show ((litems μ d).bind fun xs => (asInts xs).map fun l => PR.v (.int l.sum)) = some pr from e)
  obtain ⟨l, h2, rfl⟩ := Option.map_eq_some_iff.mp e
  obtain ⟨a, vs, ea, qa, ra, _⟩ := R.litems h1 r1
  have ev := ints_of h2 ra
  subst ea ev
  exact cr_sum hc pins s σ Z.H _ us Q I r ⟨a, l, rfl, .inl (.inl qa), q.here R rfl⟩
theorem o_all (hK : X.K = G.K) (hc : X.calm = true) : CallR X (.builtin "all") fun vs H Q => (∃ x, vs = [x]) ∧ rO G C .all vs H Q := by
  intro pins s σ H xs us Q I r h
  obtain ⟨⟨x, rfl⟩, Z, μ, ds, pr, rfl, R, rv, e, q⟩ := h
  obtain ⟨d, rfl, r1⟩ := rv.one_inv
  obtain ⟨ys, h1, e⟩ := Option.bind_eq_some_iff.mp (show ((litems μ d).bind fun xs => (asBools xs).map fun l => PR.v (.bl (l.all id))) = some pr from e)
  obtain ⟨l, h2, rfl⟩ := Option.map_eq_some_iff.mp e
  obtain ⟨a, vs, ea, qa, ra, _⟩ := R.litems h1 r1
  have ev := bools_of h2 ra
  subst ea ev
  exact cr_all hc pins s σ Z.H _ us Q I r ⟨a, l, rfl, .inl (.inl qa), q.here R rfl⟩
theorem o_any (hK : X.K = G.K) (hc : X.calm = true) : CallR X (.builtin "any") fun vs H Q => (∃ x, vs = [x]) ∧ rO G C .any vs H Q := by
  intro pins s σ H xs us Q I r h
  obtain ⟨⟨x, rfl⟩, Z, μ, ds, pr, rfl, R, rv, e, q⟩ := h
  obtain ⟨d, rfl, r1⟩ := rv.one_inv
  obtain ⟨ys, h1, e⟩ := Option.bind_eq_some_iff.mp (show ((litems μ d).bind fun xs => (asBools xs).map fun l => PR.v (.bl (l.any id))) = some pr from e)
  obtain ⟨l, h2, rfl⟩ := Option.map_eq_some_iff.mp e
  obtain ⟨a, vs, ea, qa, ra, _⟩ := R.litems h1 r1
  have ev := bools_of h2 ra
  subst ea ev
  exact cr_any hc pins s σ Z.H _ us Q I r ⟨a, l, rfl, .inl (.inl qa), q.here R rfl⟩
theorem o_list (hK : X.K = G.K) : CallR X (.type "list") fun vs H Q => (∃ x, vs = [x]) ∧ rO G C .list vs H Q := by
  intro pins s σ H xs us Q I r h
  obtain ⟨⟨x, rfl⟩, Z, μ, ds, pr, rfl, R, rv, e, q⟩ := h
  obtain ⟨d, rfl, r1⟩ := rv.one_inv
  obtain ⟨ys, h1, rfl⟩ := Option.map_eq_some_iff.mp (show (items μ d).map PR.new = some pr from e)
  obtain ⟨a, vs, ea, qa, ra, z⟩ := R.items h1 r1
  subst ea
  exact call_list_of pins s σ Z.H _ us Q I r ⟨a, vs, rfl, by rw [hK]; exact qa, q.made R ra z⟩
theorem o_tuple (hK : X.K = G.K) : CallR X (.type "tuple") fun vs H Q => (∃ x, vs = [x]) ∧ rO G C .tuple vs H Q := by
  intro pins s σ H xs us Q I r h
  obtain ⟨⟨x, rfl⟩, Z, μ, ds, pr, rfl, R, rv, e, q⟩ := h
  obtain ⟨d, rfl, r1⟩ := rv.one_inv
  obtain ⟨ys, h1, rfl⟩ := Option.map_eq_some_iff.mp (show (items μ d).map (fun xs => PR.v (.tup xs)) = some pr from e)
  obtain ⟨a, vs, ea, qa, ra, z⟩ := R.items h1 r1
  subst ea
  refine call_tuple_of pins s σ Z.H _ us Q I r ⟨a, vs, rfl, ?_⟩
  rw [hK]
  rcases qa with qa | qa
  · exact .inl ⟨qa, fun p hp => q (.ref p) (Z.lay p (.tup vs)) (Ext.lay hp) (R.lay hp) ⟨p, vs, rfl, SqT.of upd_same, z, RVs.ext (Ext.lay hp) R _ _ ra⟩⟩
  · exact .inr ⟨qa, q.here R ⟨a, vs, rfl, qa, z, ra⟩⟩
end
end PyE
set_option maxRecDepth 100000
set_option maxHeartbeats 4000000
/-! sum(lists, []) -/
namespace PyE
open PySem
open Sem (wp)
namespace F
theorem args_sum2 (a b : Value) : argsOk "sum" ⟨[a, b], []⟩ := by unfold argsOk; kernel_rfl
theorem sub_list_str : isSubtype (.type "list") (.type "str") = pure false := by rw [isSubtype_type]; kernel_rfl
theorem sub_list_bytes : isSubtype (.type "list") (.type "bytes") = pure false := by rw [isSubtype_type]; kernel_rfl
theorem sub_list_bytearray : isSubtype (.type "list") (.type "bytearray") = pure false := by rw [isSubtype_type]; kernel_rfl
end F
section
variable {prog : Program} {w : World} {A : Around} {R : Result → Shared → Prop} {I L S : Addr} {vs : Array Value}
theorem drop_cons_get {α : Type} {l : List α} {i : Nat} {x : α} {r : List α} (h : l.drop i = x :: r) : l[i]? = some x ∧ l.drop (i + 1) = r := by
  have h1 : (l.drop i)[0]? = some x := by rw [h]; rfl
  rw [List.getElem?_drop] at h1
  refine ⟨by simpa using h1, ?_⟩
  have h2 : (l.drop i).drop 1 = r := by rw [h]; rfl
  rw [List.drop_drop] at h2
  exact h2
theorem sum_loop_lists (hh : A.handled = none) : ∀ (ws : List (Addr × List Value)) (i : Nat) (s : Shared) (t : Addr) (acc : List Value) (nt c : Nat),
    vs.toList.drop i = ws.map (fun p => Value.ref p.1) → s.heap.IsListIter I L i → s.heap.IsList L vs → s.heap.get? S = some { cls := .type "list", dict := none, data := .seq #[.ref t] c, slots := #[] } →
    IsL s.heap t acc.toArray nt → (∀ p ∈ ws, p.1 ≠ S ∧ ∃ n, IsL s.heap p.1 p.2.toArray n) → t ≠ S → L ≠ S → I ≠ S → acc.length + (ws.map (·.2)).flatten.length ≤ sizeLine →
    (∀ h' tk t' n', (∀ b o, b ≠ I → b ≠ S → s.heap.get? b = some o → h'.get? b = some o) → IsL h' t' (acc ++ (ws.map (·.2)).flatten).toArray n' → ((ws = [] ∧ t' = t) ∨ (ws ≠ [] ∧ s.heap.objs.size ≤ t')) →
      R (.ok (.ret (.ref t'))) { s with heap := h', toks := tk }) →
    codeAny (model prog w) A (.builtin "sum.loop" ⟨[.ref I, .ref S, rawInt 2, rawInt 0], []⟩) R s := by
  intro ws
  induction ws with
  | nil =>
    intro i s t acc nt c hd hit hl hS ht hw n1 n2 n3 hz hR
    have hnone : vs[i]? = none := by
      have h1 : (vs.toList.drop i)[0]? = none := by rw [hd]; rfl
      rw [List.getElem?_drop] at h1
      simpa using h1
    refine codeAny_builtin PySem.F.entry_sum_loop ?_
    rw [Around.under_plainId PySem.F.plain_sum_loop _]
    show wpAny _ A.in1 (seqItems? (.ref S) >>= _) _ _ s
    refine wpAny_bind (wpAny_seqItems hS rfl ?_)
    show wpAny _ A.in1 (tryCatch (pyNext (.ref I)) _ >>= _) _ _ s
    have it_ne : ∀ {b : Addr} {xs : Array Value} {n : Nat}, IsL s.heap b xs n → b ≠ I := fun {b xs n} q z => by
      obtain ⟨o, e, cl, _⟩ := hit
      rw [← z, q] at e
      cases e
      simp at cl
    refine wpAny_bind (wpAny_tryCatch (wpAny_pyNext_list_end hh hit hl hnone fun h' hk => ?_))
    refine wpAny_pure (hR h' s.toks t nt (fun b o h1 h2 e => hk b o h1 e) ?_ (.inl ⟨rfl, rfl⟩))
    rw [show acc ++ (([] : List (Addr × List Value)).map (·.2)).flatten = acc by simp]
    exact hk _ _ (it_ne ht) ht
  | cons p ws ih =>
    intro i s t acc nt c hd hit hl hS ht hw n1 n2 n3 hz hR
    obtain ⟨hx, hd'⟩ := drop_cons_get hd
    have hx' : vs[i]? = some (.ref p.1) := by simpa using hx
    have it_ne : ∀ {b : Addr} {xs : Array Value} {n : Nat}, IsL s.heap b xs n → b ≠ I := fun {b xs n} q z => by
      obtain ⟨o, e, cl, _⟩ := hit
      rw [← z, q] at e
      cases e
      simp at cl
    have L_ne : L ≠ I := fun z => by
      obtain ⟨o, e, cl, _⟩ := hit
      obtain ⟨o2, e2, cl2, _⟩ := hl
      rw [← z, e2] at e
      cases e
      rw [cl2] at cl
      simp at cl
    refine codeAny_builtin PySem.F.entry_sum_loop ?_
    rw [Around.under_plainId PySem.F.plain_sum_loop _]
    show wpAny _ A.in1 (seqItems? (.ref S) >>= _) _ _ s
    refine wpAny_bind (wpAny_seqItems hS rfl ?_)
    show wpAny _ A.in1 (tryCatch (pyNext (.ref I)) _ >>= _) _ _ s
    refine wpAny_bind (wpAny_tryCatch (wpAny_pyNext_list_item hit hl hx' fun h1 hit1 hs1 => ?_))
    obtain ⟨pS, np, hp⟩ := hw p (List.mem_cons_self ..)
    have hp1 : IsL h1 p.1 p.2.toArray np := hs1.extBut _ _ (it_ne hp) hp
    have ht1 : IsL h1 t acc.toArray nt := hs1.extBut _ _ (it_ne ht) ht
    have hS1 := hs1.extBut _ _ (Ne.symm n3) hS
    show wpAny _ A.in1 ((holding [Value.ref p.1] (binaryOp .Add (.ref t) (.ref p.1))).attempt >>= _) _ _ _
    have hzz : acc.length + p.2.length + (ws.map (·.2)).flatten.length ≤ sizeLine := by
      have : ((p :: ws).map (·.2)).flatten.length = p.2.length + (ws.map (·.2)).flatten.length := by simp
      omega
    refine wpAny_bind (wpAny_attempt (wpAny_holding (PySem.P.add_list ht1 hp1 ?_ (by simp; omega))))
    have hsz1 : h1.objs.size = s.heap.objs.size := hs1.1
    have lt : ∀ {b : Addr} {o : Obj}, s.heap.get? b = some o → b ≠ s.heap.objs.size := fun e => Nat.ne_of_lt (Heap.lt_size e)
    have hnew : ∀ (o : Obj), o.isFreed = false → (h1.push o).get? s.heap.objs.size = some o := fun o hf => by
      have := Heap.get?_push_size h1 (o := o) hf
      rw [hsz1] at this
      exact this
    show wpAny _ A.in1 (updateSeq S (fun _ => #[.ref h1.objs.size]) >>= _) _ _ _
    refine wpAny_bind ?_
    have hS2 : (h1.push { cls := .type "list", data := .seq (acc.toArray ++ p.2.toArray) }).get? S = some _ := Heap.get?_push_of_some _ hS1
    refine wpAny_updateSeq hS2 rfl ?_
    have hS3 := Heap.get?_update_self (Obj.mapSeq fun _ => #[Value.ref h1.objs.size]) hS2 rfl
    refine wpAny_bind (wpAny_letGo ?_)
    refine wpAny_bind ?_
    refine wpAny_updateSeq hS3 rfl (wpAny_pure ⟨plainId_quiet PySem.F.plain_sum_loop _, ?_⟩)
    have hS4 := Heap.get?_update_self (Obj.mapSeq fun _ => #[Value.ref h1.objs.size]) hS3 rfl
    have up : ∀ b o, b ≠ S → (h1.push { cls := .type "list", data := .seq (acc.toArray ++ p.2.toArray) }).get? b = some o →
        (((h1.push { cls := .type "list", data := .seq (acc.toArray ++ p.2.toArray) }).update S (Obj.mapSeq fun _ => #[Value.ref h1.objs.size])).update S (Obj.mapSeq fun _ => #[Value.ref h1.objs.size])).get? b = some o :=
      fun b o hb e => (Heap.get?_update_other _ _ (Ne.symm hb)).trans ((Heap.get?_update_other _ _ (Ne.symm hb)).trans e)
    have kp : ∀ b o, b ≠ I → b ≠ S → s.heap.get? b = some o →
        (((h1.push { cls := .type "list", data := .seq (acc.toArray ++ p.2.toArray) }).update S (Obj.mapSeq fun _ => #[Value.ref h1.objs.size])).update S (Obj.mapSeq fun _ => #[Value.ref h1.objs.size])).get? b = some o :=
      fun b o hI hb e => up b o hb (Heap.get?_push_of_some _ (hs1.extBut _ _ hI e))
    have hSlt : S ≠ h1.objs.size := by rw [hsz1]; exact lt hS
    have hT : IsL (((h1.push { cls := .type "list", data := .seq (acc.toArray ++ p.2.toArray) }).update S (Obj.mapSeq fun _ => #[Value.ref h1.objs.size])).update S (Obj.mapSeq fun _ => #[Value.ref h1.objs.size])) h1.objs.size (acc ++ p.2).toArray 0 := by
      have := up h1.objs.size _ (Ne.symm hSlt) (Heap.get?_push_size h1 (o := { cls := .type "list", data := .seq (acc.toArray ++ p.2.toArray) }) rfl)
      have ea : acc.toArray ++ p.2.toArray = (acc ++ p.2).toArray := by simp
      rw [ea] at this ⊢
      exact this
    refine ih (i + 1) _ h1.objs.size (acc ++ p.2) 0 _ hd' (hit1.at fun o e => up _ o n3 (Heap.get?_push_of_some _ e)) (hl.at fun o e => kp _ o L_ne n2 e) hS4 hT (fun q hq => ?_) (Ne.symm hSlt) n2 n3 (by rw [List.length_append]; omega) fun h' tk t' n' hk hL' hc => ?_
    · obtain ⟨q1, n, q2⟩ := hw q (List.mem_cons_of_mem _ hq)
      exact ⟨q1, n, kp _ _ (it_ne q2) q1 q2⟩
    · refine hR h' tk t' n' (fun b o hI hb e => hk b o hI hb (kp b o hI hb e)) ?_ (.inr ⟨by simp, ?_⟩)
      · have : acc ++ ((p :: ws).map (·.2)).flatten = acc ++ p.2 ++ (ws.map (·.2)).flatten := by simp
        rw [this]; exact hL'
      · rcases hc with ⟨_, rfl⟩ | ⟨_, hc⟩
        · rw [hsz1]; exact Nat.le_refl _
        · refine Nat.le_trans ?_ hc
          simp only [Heap.size_update, Heap.size_push, hsz1]
          omega
end
section
variable {prog : Program} {w : World} {A : Around} {E : Value → Shared → Prop} {s : Shared}
/-- sum(l, t) of a list of lists and a list -/
theorem call_sum_lists {L t : Addr} {vs : Array Value} {ws : List (Addr × List Value)} {acc : List Value} {nt : Nat} {Q : Value → Shared → Prop} (hh : A.handled = none) (hv : vs.toList = ws.map (fun p => Value.ref p.1)) (hl : s.heap.IsList L vs) (ht : IsL s.heap t acc.toArray nt)
    (hw : ∀ p ∈ ws, ∃ n, IsL s.heap p.1 p.2.toArray n) (hz : acc.length + (ws.map (·.2)).flatten.length ≤ sizeLine)
    (h : ∀ h' tk t' n', (∀ b o, s.heap.get? b = some o → h'.get? b = some o) → IsL h' t' (acc ++ (ws.map (·.2)).flatten).toArray n' → ((ws = [] ∧ t' = t) ∨ (ws ≠ [] ∧ s.heap.objs.size ≤ t')) → Q (.ref t') { s with heap := h', toks := tk }) :
    wpAny (model prog w) A (call (.builtin "sum") [.ref L, .ref t]) Q E s := by
  refine call_function_tree PySem.F.kind_sum PySem.F.plain_sum PySem.F.entry_sum (F.args_sum2 _ _) ?_
  unfold Builtin.«sum»
  simp only [List.length_cons, List.length_nil]
  rw [if_neg (by decide)]
  refine wpAny_bind (wpAny_of_eq (show Builtin.Builtins.bindParams "sum" ["start"] 0 ⟨[.ref t], []⟩ = pure [some (.ref t)] from rfl) ?_)
  refine wpAny_bind (wpAny_pyIter_list hl ?_)
  have lt : ∀ {b : Addr} {o : Obj}, s.heap.get? b = some o → b < s.heap.objs.size := fun e => Heap.lt_size e
  have ht1 := Heap.get?_push_of_some ({ cls := .type "list_iterator", data := .fields #[.ref L, .int 0 0] } : Obj) ht
  refine wpAny_bind (wpAny_pure ?_)
  simp only [List.forIn_cons, List.forIn_nil]
  refine wpAny_bind (wpAny_bind (wpAny_bind (wpAny_isInstance (T := "list") (b := false) ⟨_, ht1, rfl⟩ F.sub_list_str ?_)))
  simp only [Bool.false_eq_true, if_false]
  refine wpAny_pure (wpAny_bind (wpAny_bind (wpAny_isInstance (T := "list") (b := false) ⟨_, ht1, rfl⟩ F.sub_list_bytes ?_)))
  simp only [Bool.false_eq_true, if_false]
  refine wpAny_pure (wpAny_bind (wpAny_bind (wpAny_isInstance (T := "list") (b := false) ⟨_, ht1, rfl⟩ F.sub_list_bytearray ?_)))
  simp only [Bool.false_eq_true, if_false]
  refine wpAny_pure (wpAny_pure ?_)
  refine wpAny_bind (wpAny_newObj_type ?_)
  have k2 : ∀ b o, s.heap.get? b = some o → ((s.heap.push { cls := .type "list_iterator", data := .fields #[.ref L, .int 0 0] }).push { cls := .type "list", data := .seq #[.ref t] }).get? b = some o := fun b o e => Heap.get?_push_of_some _ (Heap.get?_push_of_some _ e)
  have z1 : (s.heap.push { cls := .type "list_iterator", data := .fields #[.ref L, .int 0 0] }).objs.size = s.heap.objs.size + 1 := Heap.size_push ..
  obtain ⟨oL, eL, _⟩ := id hl
  have ne1 : ∀ {b : Addr}, b < s.heap.objs.size → b ≠ (s.heap.push { cls := .type "list_iterator", data := .fields #[.ref L, .int 0 0] }).objs.size := fun {b} q z => Nat.lt_irrefl b (Nat.lt_of_lt_of_le (Nat.lt_succ_of_lt q) (Nat.le_of_eq (z.trans z1).symm))
  refine wpAny_pure ⟨plainId_quiet PySem.F.plain_sum_loop _, sum_loop_lists (I := s.heap.objs.size) (L := L) (vs := vs) hh ws 0 _ t acc nt 0 (by simpa using hv) ⟨_, Heap.get?_push_of_some _ (Heap.get?_push_size _ rfl), rfl, rfl⟩ (hl.at fun o e => k2 _ o e)
    (Heap.get?_push_size _ rfl) (k2 _ _ ht) (fun p hp => ?_) (ne1 (lt ht)) (ne1 (lt eL)) (fun q => Nat.ne_of_lt (Nat.lt_succ_self s.heap.objs.size) (q.trans z1)) hz fun h' tk t' n' hk hL hc => ?_⟩
  · obtain ⟨n, q⟩ := hw p hp
    exact ⟨ne1 (lt q), n, k2 _ _ q⟩
  · refine h h' tk t' n' (fun b o e => hk b o (Nat.ne_of_lt (lt e)) (ne1 (lt e)) (k2 b o e)) hL ?_
    rcases hc with hc | ⟨h1, h2⟩
    · exact .inl hc
    · refine .inr ⟨h1, Nat.le_trans ?_ h2⟩
      simp only [Heap.size_push]
      omega
end
end PyE
set_option maxRecDepth 100000
set_option maxHeartbeats 4000000
namespace PyE
open PySem PySem.Spec PyProof.Rows L2
/-! sum(lists, []), sorted(ints) -/
section
variable {X : Cx} {G : Gi} {C : Cfg}
theorem ws_of {pins : List (Addr × Obj)} {σ : L2.St} {H : Hp} {s : Shared} (I : L2.Inv X pins σ H s) : ∀ (ws : List (Addr × List V)), (∀ p ∈ ws, H p.1 = some (.lst p.2)) →
    ∃ us : List (Addr × List Value), us.map (·.1) = ws.map (·.1) ∧ (∀ p ∈ us, ∃ n, IsL s.heap p.1 p.2.toArray n) ∧ Vals (ws.map (·.2)).flatten (us.map (·.2)).flatten
  | [], _ => ⟨[], rfl, fun _ h => by simp at h, .nil⟩
  | p :: ws, h => by
    obtain ⟨us, e1, e2, e3⟩ := ws_of I ws fun q hq => h q (List.mem_cons_of_mem _ hq)
    obtain ⟨_, its, n, r, _, e⟩ := I.lstM (h p (List.mem_cons_self ..))
    refine ⟨(p.1, its) :: us, by simp [e1], fun q hq => ?_, ?_⟩
    · rcases List.mem_cons.mp hq with rfl | hq
      · exact ⟨n, e⟩
      · exact e2 q hq
    · rw [List.map_cons, List.map_cons, List.flatten_cons, List.flatten_cons]
      exact r.append e3
theorem refs_of : ∀ {as : List Addr} {us : List Value}, Vals (as.map V.ref) us → us = as.map Value.ref
  | [], _, .nil => rfl
  | a :: as, _, .cons r t => by
    cases r
    rw [refs_of t]; rfl
theorem cr_sum2 (hc : X.calm = true) : CallR X (.builtin "sum") fun vs H Q => ∃ (a t : Addr) (ws : List (Addr × List V)), vs = [.ref a, .ref t] ∧ H a = some (.lst (ws.map fun p => V.ref p.1)) ∧ (∀ p ∈ ws, H p.1 = some (.lst p.2)) ∧ H t = some (.lst []) ∧
    (ws.map (·.2)).flatten.length ≤ sizeLine ∧ (ws = [] → Q (.ref t) H) ∧ (ws ≠ [] → ∀ p, H p = none → Q (.ref p) (upd H p (.lst (ws.map (·.2)).flatten))) := by
  intro pins s σ H vs us Q I r h
  obtain ⟨a, t, ws, rfl, ha, hw, ht, hz, q1, q2⟩ := h
  have eu : us = [.ref a, .ref t] := refs_of (as := [a, t]) r
  subst eu
  obtain ⟨_, its, n, ri, _, ea⟩ := I.lstM ha
  obtain ⟨_, its2, n2, ri2, hl2, et⟩ := I.lstM ht
  have e2 : its2 = [] := List.eq_nil_of_length_eq_zero hl2.symm
  subst e2
  obtain ⟨ps, p1, p2, p3⟩ := ws_of I ws hw
  have ei : its = ps.map fun p => Value.ref p.1 := by
    have : its = (ws.map (·.1)).map Value.ref := refs_of (by rw [List.map_map]; exact ri)
    rw [this, ← p1, List.map_map]; rfl
  subst ei
  have hl := p3.length
  refine call_sum_lists (acc := []) (ws := ps) (I.ok.hd hc) rfl ⟨_, ea, rfl, _, rfl⟩ et p2 (by rw [← hl]; simpa using hz) fun h' tk t' n' hk hL hcs => ?_
  have en : ps = [] ↔ ws = [] := by
    have : ps.length = ws.length := by have := congrArg List.length p1; simpa using this
    constructor
    · intro z; rw [z] at this; exact List.eq_nil_of_length_eq_zero this.symm
    · intro z; rw [z] at this; exact List.eq_nil_of_length_eq_zero this
  rcases hcs with ⟨z, rfl⟩ | ⟨z, hle⟩
  · exact ⟨.ref t', H, I.kept hk, rfl, q1 (en.mp z)⟩
  · have hn : H t' = none := I.hok.fresh hle
    refine ⟨.ref t', _, I.turnedNew (t' := tk) (ch := []) (ob := .lst (ws.map (·.2)).flatten) (fun b o _ e => hk b o e) (fun b hb => absurd hb (by simp)) hle ⟨hz, _, n', p3, by simpa using hL⟩, rfl, q2 (fun z' => z (en.mpr z')) t' hn⟩
theorem sumLists_of {Z : Wd} {μ : Mu} (R : Rel G Z μ) : ∀ {xs : List D} {vs : List V} {ys : List D}, sumLists μ xs = some ys → RVs G Z xs vs →
    ∃ ws : List (Addr × List V), vs = ws.map (fun p => V.ref p.1) ∧ (∀ p ∈ ws, Z.H p.1 = some (.lst p.2)) ∧ RVs G Z ys (ws.map (·.2)).flatten
  | [], vs, ys, h, r => by
    have e1 : vs = [] := r
    have e2 : [] = ys := Option.some.inj h
    subst e1 e2
    exact ⟨[], rfl, fun _ h => by simp at h, rfl⟩
  | x :: xs, vs, ys, h, r => by
    obtain ⟨v, vs', rfl, r1, r2⟩ := r
    obtain ⟨zs, h1, h2⟩ := Option.bind_eq_some_iff.mp (show ((litems μ x).bind fun xs' => (sumLists μ xs).map fun ys => xs' ++ ys) = some ys from h)
    obtain ⟨ys', h3, rfl⟩ := Option.map_eq_some_iff.mp h2
    obtain ⟨a, us, rfl, qa, ra, _⟩ := R.litems h1 r1
    obtain ⟨ws, rfl, hw, rw'⟩ := sumLists_of R h3 r2
    refine ⟨(a, us) :: ws, rfl, fun p hp => ?_, ?_⟩
    · rcases List.mem_cons.mp hp with rfl | hp
      · exact qa
      · exact hw p hp
    · rw [List.map_cons, List.flatten_cons]
      exact ra.append rw'
theorem o_sum2 (hc : X.calm = true) : CallR X (.builtin "sum") fun vs H Q => (∃ x y, vs = [x, y]) ∧ rO G C .sum2 vs H Q := by
  intro pins s σ H xs us Q I r h
  obtain ⟨⟨x, y, rfl⟩, Z, μ, ds, pr, rfl, R, rv, e, q⟩ := h
  obtain ⟨d, d2, rfl, r1, r2⟩ := rv.two_inv
  have e' : sum2S μ d d2 = some pr := e
  unfold sum2S at e'
  split at e'
  · obtain ⟨ys, h1, e'⟩ := Option.bind_eq_some_iff.mp e'
    obtain ⟨a, vs, ea, qa, ra, _⟩ := R.litems h1 r1
    obtain ⟨t, ts, et, st, qt, _, rt⟩ := r2
    have ets : ts = [] := rt
    subst ea et ets
    split at e'
    · rename_i hn
      have hn := List.isEmpty_iff.mp hn
      subst hn
      cases e'
      have ev : vs = [] := ra
      subst ev
      refine cr_sum2 hc pins s σ Z.H _ us Q I r ⟨a, t, [], rfl, qa, fun p hp => by simp at hp, qt, Nat.zero_le _, fun _ => q.here R ⟨t, [], rfl, st, qt, Nat.zero_le _, rfl⟩, fun z => absurd rfl z⟩
    · rename_i hn
      obtain ⟨l, h2, e'⟩ := Option.bind_eq_some_iff.mp e'
      obtain ⟨rfl, hz⟩ := newL_some e'
      obtain ⟨ws, rfl, hw, rw'⟩ := sumLists_of R h2 ra
      have hne : ws ≠ [] := fun z => by
        subst z
        have : ys = [] := List.eq_nil_of_length_eq_zero (by rw [ra.length]; rfl)
        exact hn (by rw [this]; rfl)
      exact cr_sum2 hc pins s σ Z.H _ us Q I r ⟨a, t, ws, rfl, qa, hw, qt, by rw [← rw'.length, ← LIM_eq]; exact hz, fun z => absurd z hne, fun _ => q.made R rw' hz⟩
  · cases e'
/-! sorted -/
theorem o_sorted (hK : X.K = G.K) : CallR X (.builtin "sorted") fun vs H Q => (∃ x, vs = [x]) ∧ rO G C .sorted vs H Q := by
  intro pins s σ H xs us Q I r h
  obtain ⟨⟨x, rfl⟩, Z, μ, ds, pr, rfl, R, rv, e, q⟩ := h
  obtain ⟨d, rfl, r1⟩ := rv.one_inv
  have e' : sortedS μ d = some pr := e
  obtain ⟨ys, h1, e'⟩ := Option.bind_eq_some_iff.mp e'
  obtain ⟨l, h2, e'⟩ := Option.bind_eq_some_iff.mp e'
  split at e'
  · rename_i hz
    cases e'
    obtain ⟨a, vs, ea, qa, ra, _⟩ := R.litems h1 r1
    have ev := ints_of h2 ra
    subst ea ev
    refine cr_sorted pins s σ Z.H _ us Q I r ⟨a, l, rfl, .inl (.inl qa), hz, fun ns' p h3 h4 hp => ?_⟩
    have en := perm_pw_eq (h3.trans (isort_perm l).symm) h4 (isort_pw l)
    rw [en]
    exact q.made R (ints_rv _) (by rw [List.length_map, (isort_perm l).length_eq]; unfold LIM; omega) p hp
  · cases e'
end
end PyE
set_option maxRecDepth 100000
set_option maxHeartbeats 4000000
/-! zip(a, b, strict=True) of two lists -/
namespace PyE
open PySem
open Sem (wp)
abbrev IsZipS (h : Heap) (z TI TO : Addr) (f0 : Value) : Prop :=
  h.get? z = some { cls := .type "zip", dict := none, data := .fields #[f0, .bool false, .bool true, .ref TI, .ref TO], slots := #[] }
section
variable {prog : Program} {w : World} {A : Around} {E : Value → Shared → Prop} {s : Shared}
theorem nextOrEnd_item {it l : Addr} {i : Nat} {items : Array Value} {x : Value} {Q : Option Value → Shared → Prop} (hit : s.heap.IsListIter it l i)
    (hl : s.heap.IsList l items) (hx : items[i]? = some x)
    (hQ : ∀ h', h'.IsListIter it l (i + 1) → Heap.SameBut it s.heap h' → Q (some x) { s with heap := h' }) :
    wpAny (model prog w) A (Builtin.SmallTypes.nextOrEnd (.ref it)) Q E s := by
  unfold Builtin.SmallTypes.nextOrEnd
  exact wpAny_bind (wpAny_attempt (wpAny_nextOf_list_item hit hl hx fun h' a b => wpAny_pure (hQ h' a b)))
theorem nextOrEnd_end {it l : Addr} {i : Nat} {items : Array Value} {Q : Option Value → Shared → Prop} (hh : A.handled = none) (hit : s.heap.IsListIter it l i)
    (hl : s.heap.IsList l items) (hx : items[i]? = none)
    (hQ : ∀ h', Heap.ExtBut it s.heap h' → Q none { s with heap := h' }) :
    wpAny (model prog w) A (Builtin.SmallTypes.nextOrEnd (.ref it)) Q E s := by
  unfold Builtin.SmallTypes.nextOrEnd
  refine wpAny_bind (wpAny_attempt (wpAny_nextOf_list_end hh hit hl hx fun h' e a b => ?_))
  obtain ⟨o, ho, hc⟩ := b
  refine wpAny_bind (wpAny_isInstance (T := "StopIteration") (b := true) ⟨o, ho, hc⟩ isSubtype_stop ?_)
  exact wpAny_pure (hQ _ a)
theorem stop_raise {α : Type} {Q : α → Shared → Prop} (hh : A.handled = none) (hE : ∀ h' e, (∀ c o, s.heap.get? c = some o → h'.get? c = some o) → (∃ o, h'.get? e = some o ∧ o.cls = .type "StopIteration") → E (.ref e) { s with heap := h' }) :
    wpAny (model prog w) A (Builtin.SmallTypes.stopIteration : Sem α) Q E s := by
  unfold Builtin.SmallTypes.stopIteration
  refine wpAny_bind ?_
  simp only [newExc, newTuple]
  refine wpAny_bind (wpAny_newObj_type ?_ (by size_fits))
  refine wpAny_bind (m := firstArgMember _ _) (wpAny_of_eq (a := Value.none) (by first | rfl | (simp only [firstArgMember]; rfl)) ?_)
  refine wpAny_newObj_type ?_ (by size_fits)
  simp only [raiseNew]
  refine wpAny_bind (wpAny_handled ?_)
  rw [hh]
  refine wpAny_bind (wpAny_pure (wpAny_throw ?_))
  exact hE _ _ (fun c o x => Heap.get?_push_of_some _ (Heap.get?_push_of_some _ x)) ⟨_, Heap.get?_push_size _ rfl, rfl⟩

theorem zips_next_item {z TI TO i1 i2 l1 l2 : Addr} {k1 k2 : Nat} {xs ys : Array Value} {x y a b : Value} {Q : Value → Shared → Prop} (D : ZipApart z TI TO i1 i2 l1 l2)
    (hz : IsZipS s.heap z TI TO .none) (hTI : IsPair s.heap TI (.ref i1) (.ref i2)) (hTO : IsPair s.heap TO a b)
    (h1 : s.heap.IsListIter i1 l1 k1) (h2 : s.heap.IsListIter i2 l2 k2) (hl1 : s.heap.IsList l1 xs) (hl2 : s.heap.IsList l2 ys) (hx : xs[k1]? = some x) (hy : ys[k2]? = some y)
    (hQ : ∀ h', IsZipS h' z TI TO (rawInt s.heap.objs.size) → IsPair h' TO x y → h'.IsListIter i1 l1 (k1 + 1) → h'.IsListIter i2 l2 (k2 + 1) → IsPair h' s.heap.objs.size x y → h'.objs.size = s.heap.objs.size + 1 →
      (∀ c o, c ≠ z → c ≠ TO → c ≠ i1 → c ≠ i2 → s.heap.get? c = some o → h'.get? c = some o) → Q (.ref s.heap.objs.size) { s with heap := h' }) :
    wpAny (model prog w) A (Builtin.«zip.__next__» ⟨[.ref z], []⟩) (fun fin s' => ∃ v, fin = .done (.ret v) ∧ Q v s') E s := by
  show wpAny _ _ (field (.ref z) 2 >>= _) _ _ _
  refine wpAny_bind (wpAny_field hz rfl (x := .bool true) rfl ?_)
  show wpAny _ _ (field (.ref z) 3 >>= _) _ _ _
  refine wpAny_bind (wpAny_field hz rfl (x := .ref TI) rfl ?_)
  refine wpAny_bind (wpAny_seqItems hTI rfl ?_)
  show wpAny _ _ (Builtin.SmallTypes.ownedTupleIsFree (.ref z) >>= _) _ _ _
  refine wpAny_bind ?_
  unfold Builtin.SmallTypes.ownedTupleIsFree
  refine wpAny_bind (wpAny_field hz rfl (x := .none) rfl (wpAny_pure ?_))
  simp only [if_true]
  refine wpAny_bind (wpAny_rule ?_)
  refine wpAny_bind (wpAny_field hz rfl (x := .ref TO) rfl ?_)
  refine wpAny_bind (wpAny_setField_rec hz (by simp) fun h₁ hz₁ hs₁ => ?_)
  replace hz₁ : IsZipS h₁ z TI TO .ellipsis := hz₁
  refine wpAny_bind ?_
  simp only [List.zipIdx_cons, List.zipIdx_nil, List.forIn_cons, List.forIn_nil]
  refine wpAny_bind (wpAny_bind (wpAny_onRaise ?_))
  show wpAny _ _ (Builtin.SmallTypes.nextOrEnd (.ref i1)) _ _ _
  refine nextOrEnd_item (h1.extBut hs₁.extBut D.i1z) (hl1.extBut hs₁.extBut D.l1z) hx fun h₂ h1₂ hs₂ => ?_
  have hTO₂ : IsPair h₂ TO a b := hs₂.extBut _ _ D.TOi1 (hs₁.extBut _ _ D.TOz hTO)
  refine wpAny_bind (wpAny_seqItems hTO₂ rfl ?_)
  refine wpAny_bind (wpAny_updateSeq_pair hTO₂ fun h₃ hTO₃ hs₃ => ?_)
  replace hTO₃ : IsPair h₃ TO x b := hTO₃
  refine wpAny_bind (wpAny_letGo (wpAny_pure ?_))
  refine wpAny_bind (wpAny_bind (wpAny_onRaise ?_))
  show wpAny _ _ (Builtin.SmallTypes.nextOrEnd (.ref i2)) _ _ _
  refine nextOrEnd_item (((h2.extBut hs₁.extBut D.i2z).extBut hs₂.extBut D.i12.symm).extBut hs₃.extBut D.TOi2.symm)
    (((hl2.extBut hs₁.extBut D.l2z).extBut hs₂.extBut D.l2i1).extBut hs₃.extBut D.l2TO) hy fun h₄ h2₄ hs₄ => ?_
  have hTO₄ : IsPair h₄ TO x b := hs₄.extBut _ _ D.TOi2 hTO₃
  refine wpAny_bind (wpAny_seqItems hTO₄ rfl ?_)
  refine wpAny_bind (wpAny_updateSeq_pair hTO₄ fun h₅ hTO₅ hs₅ => ?_)
  replace hTO₅ : IsPair h₅ TO x y := hTO₅
  refine wpAny_bind (wpAny_letGo (wpAny_pure (wpAny_pure ?_)))
  refine wpAny_bind (wpAny_seqItems hTO₅ rfl ?_)
  refine wpAny_bind (wpAny_newTuple ?_)
  have hsz : h₅.objs.size = s.heap.objs.size := by rw [hs₅.1, hs₄.1, hs₃.1, hs₂.1, hs₁.1]
  have hz₅ : IsZipS h₅ z TI TO .ellipsis := hs₅.extBut _ _ D.TOz.symm (hs₄.extBut _ _ D.i2z.symm (hs₃.extBut _ _ D.TOz.symm (hs₂.extBut _ _ D.i1z.symm hz₁)))
  have hk₅ : ∀ c o, c ≠ z → c ≠ TO → c ≠ i1 → c ≠ i2 → s.heap.get? c = some o → h₅.get? c = some o := fun c o c1 c2 c3 c4 e =>
    hs₅.extBut _ _ c2 (hs₄.extBut _ _ c4 (hs₃.extBut _ _ c2 (hs₂.extBut _ _ c3 (hs₁.extBut _ _ c1 e))))
  have h1₅ : h₅.IsListIter i1 l1 (k1 + 1) := ((h1₂.extBut hs₃.extBut D.TOi1.symm).extBut hs₄.extBut D.i12).extBut hs₅.extBut D.TOi1.symm
  have h2₅ : h₅.IsListIter i2 l2 (k2 + 1) := h2₄.extBut hs₅.extBut D.TOi2.symm
  have hzlt : z < h₅.objs.size := Heap.lt_size hz₅
  show wpAny _ _ (Builtin.SmallTypes.ownedTupleHandOut (.ref z) (.ref h₅.objs.size) >>= _) _ _ _
  refine wpAny_bind ?_
  unfold Builtin.SmallTypes.ownedTupleHandOut
  have hz₆ : IsZipS (h₅.push { cls := .type "tuple", data := .seq #[x, y] }) z TI TO .ellipsis := Heap.get?_push_of_some _ hz₅
  refine wpAny_bind (wpAny_setField_rec hz₆ (by simp) fun h₇ hz₇ hs₇ => ?_)
  replace hz₇ : IsZipS h₇ z TI TO (rawInt h₅.objs.size) := hz₇
  refine wpAny_setField_rec hz₇ (by simp) fun h₈ hz₈ hs₈ => ?_
  replace hz₈ : IsZipS h₈ z TI TO (rawInt h₅.objs.size) := hz₈
  have up : ∀ c o, c ≠ z → h₅.get? c = some o → h₈.get? c = some o := fun c o c1 e => hs₈.extBut _ _ c1 (hs₇.extBut _ _ c1 (Heap.get?_push_of_some _ e))
  have hT₈ : IsPair h₈ h₅.objs.size x y := hs₈.extBut _ _ (Nat.ne_of_gt hzlt) (hs₇.extBut _ _ (Nat.ne_of_gt hzlt) (Heap.get?_push_size _ rfl))
  have hz8 : h₈.objs.size = h₅.objs.size + 1 := by rw [hs₈.1, hs₇.1, Heap.size_push]
  rw [hsz] at hz₈ hT₈ hz8
  refine wpAny_pure ⟨_, rfl, ?_⟩
  show Q (.ref h₅.objs.size) _
  rw [hsz]
  exact hQ h₈ hz₈ (up _ _ D.TOz hTO₅) (h1₅.at fun o e => up _ o D.i1z e) (h2₅.at fun o e => up _ o D.i2z e) hT₈ hz8 fun c o c1 c2 c3 c4 e => up c o c1 (hk₅ c o c1 c2 c3 c4 e)

theorem zips_next_end {z TI TO i1 i2 l1 l2 : Addr} {k1 k2 : Nat} {xs ys : Array Value} {a b : Value} {Q : PySem.Fin → Shared → Prop} (hh : A.handled = none) (D : ZipApart z TI TO i1 i2 l1 l2)
    (hz : IsZipS s.heap z TI TO .none) (hTI : IsPair s.heap TI (.ref i1) (.ref i2)) (hTO : IsPair s.heap TO a b)
    (h1 : s.heap.IsListIter i1 l1 k1) (h2 : s.heap.IsListIter i2 l2 k2) (hl1 : s.heap.IsList l1 xs) (hl2 : s.heap.IsList l2 ys) (hx : xs[k1]? = none) (hy : ys[k2]? = none)
    (hE : ∀ h' e, (∀ c o, c ≠ z → c ≠ TO → c ≠ i1 → c ≠ i2 → s.heap.get? c = some o → h'.get? c = some o) → (∃ o, h'.get? e = some o ∧ o.cls = .type "StopIteration") → E (.ref e) { s with heap := h' }) :
    wpAny (model prog w) A (Builtin.«zip.__next__» ⟨[.ref z], []⟩) Q E s := by
  show wpAny _ _ (field (.ref z) 2 >>= _) _ _ _
  refine wpAny_bind (wpAny_field hz rfl (x := .bool true) rfl ?_)
  show wpAny _ _ (field (.ref z) 3 >>= _) _ _ _
  refine wpAny_bind (wpAny_field hz rfl (x := .ref TI) rfl ?_)
  refine wpAny_bind (wpAny_seqItems hTI rfl ?_)
  show wpAny _ _ (Builtin.SmallTypes.ownedTupleIsFree (.ref z) >>= _) _ _ _
  refine wpAny_bind ?_
  unfold Builtin.SmallTypes.ownedTupleIsFree
  refine wpAny_bind (wpAny_field hz rfl (x := .none) rfl (wpAny_pure ?_))
  simp only [if_true]
  refine wpAny_bind (wpAny_rule ?_)
  refine wpAny_bind (wpAny_field hz rfl (x := .ref TO) rfl ?_)
  refine wpAny_bind (wpAny_setField_rec hz (by simp) fun h₁ hz₁ hs₁ => ?_)
  replace hz₁ : IsZipS h₁ z TI TO .ellipsis := hz₁
  refine wpAny_bind ?_
  simp only [List.zipIdx_cons, List.zipIdx_nil, List.forIn_cons, List.forIn_nil]
  refine wpAny_bind (wpAny_bind (wpAny_onRaise ?_))
  show wpAny _ _ (Builtin.SmallTypes.nextOrEnd (.ref i1)) _ _ _
  refine nextOrEnd_end hh (h1.extBut hs₁.extBut D.i1z) (hl1.extBut hs₁.extBut D.l1z) hx fun h₂ hs₂ => ?_
  have hz₂ : IsZipS h₂ z TI TO .ellipsis := hs₂ _ _ D.i1z.symm hz₁
  refine wpAny_bind (wpAny_setField_rec hz₂ (by simp) fun h₃ _ hs₃ => ?_)
  have k3 : ∀ c o, c ≠ z → c ≠ TO → c ≠ i1 → c ≠ i2 → s.heap.get? c = some o → h₃.get? c = some o := fun c o c1 _ c3 _ x => hs₃.extBut _ _ c1 (hs₂ _ _ c3 (hs₁.extBut _ _ c1 x))
  refine wpAny_bind ?_
  show wpAny _ _ (forIn (m := Sem) [((Value.ref i2, 1) : Value × Nat)] PUnit.unit _ >>= _) _ _ _
  simp only [List.forIn_cons, List.forIn_nil]
  refine wpAny_bind (wpAny_bind (wpAny_bind ?_))
  refine (nextOrEnd_end hh (((h2.extBut hs₁.extBut D.i2z).extBut hs₂ D.i12.symm).extBut hs₃.extBut D.i2z) (((hl2.extBut hs₁.extBut D.l2z).extBut hs₂ D.l2i1).extBut hs₃.extBut D.l2z) hy fun h₄ hs₄ => ?_)
  simp only [Option.isSome_none, Bool.false_eq_true, if_false]
  refine wpAny_pure (wpAny_pure ?_)
  refine wpAny_bind (wpAny_rule ?_)
  refine stop_raise hh fun h₅ e k5 he => hE _ _ (fun c o c1 c2 c3 c4 x => k5 _ _ (hs₄ _ _ c4 (k3 c o c1 c2 c3 c4 x))) he

theorem pyNext_zips_item {z TI TO i1 i2 l1 l2 : Addr} {k1 k2 : Nat} {xs ys : Array Value} {x y a b : Value} {Q : Option Value → Shared → Prop} (D : ZipApart z TI TO i1 i2 l1 l2)
    (hz : IsZipS s.heap z TI TO .none) (hTI : IsPair s.heap TI (.ref i1) (.ref i2)) (hTO : IsPair s.heap TO a b)
    (h1 : s.heap.IsListIter i1 l1 k1) (h2 : s.heap.IsListIter i2 l2 k2) (hl1 : s.heap.IsList l1 xs) (hl2 : s.heap.IsList l2 ys) (hx : xs[k1]? = some x) (hy : ys[k2]? = some y)
    (hQ : ∀ h', IsZipS h' z TI TO (rawInt s.heap.objs.size) → IsPair h' TO x y → h'.IsListIter i1 l1 (k1 + 1) → h'.IsListIter i2 l2 (k2 + 1) → IsPair h' s.heap.objs.size x y → h'.objs.size = s.heap.objs.size + 1 →
      (∀ c o, c ≠ z → c ≠ TO → c ≠ i1 → c ≠ i2 → s.heap.get? c = some o → h'.get? c = some o) → Q (some (.ref s.heap.objs.size)) { s with heap := h' }) :
    wpAny (model prog w) A (pyNext (.ref z)) Q E s := by
  have hT : s.TypeIs (.ref z) "zip" := ⟨_, hz, rfl⟩
  unfold pyNext
  exact wpAny_bind (wpAny_attempt (wpAny_callSpecial?_slot (name := Str.ofString "__next__") hT F.slot_zip_next
    (wpAny_call_entry F.slot_zip_next hT F.entry_zip_next
      (zips_next_item D hz hTI hTO h1 h2 hl1 hl2 hx hy fun h' a1 a2 a3 a4 a5 a6 a7 => wpAny_pure (hQ h' a1 a2 a3 a4 a5 a6 a7)) (F.args_zip_next_1 _))))
theorem pyNext_zips_end {z TI TO i1 i2 l1 l2 : Addr} {k1 k2 : Nat} {xs ys : Array Value} {a b : Value} {Q : Option Value → Shared → Prop} (hh : A.handled = none) (D : ZipApart z TI TO i1 i2 l1 l2)
    (hz : IsZipS s.heap z TI TO .none) (hTI : IsPair s.heap TI (.ref i1) (.ref i2)) (hTO : IsPair s.heap TO a b)
    (h1 : s.heap.IsListIter i1 l1 k1) (h2 : s.heap.IsListIter i2 l2 k2) (hl1 : s.heap.IsList l1 xs) (hl2 : s.heap.IsList l2 ys) (hx : xs[k1]? = none) (hy : ys[k2]? = none)
    (hQ : ∀ h', (∀ c o, c ≠ z → c ≠ TO → c ≠ i1 → c ≠ i2 → s.heap.get? c = some o → h'.get? c = some o) → Q none { s with heap := h' }) : wpAny (model prog w) A (pyNext (.ref z)) Q E s := by
  have hT : s.TypeIs (.ref z) "zip" := ⟨_, hz, rfl⟩
  unfold pyNext
  refine wpAny_bind (wpAny_attempt (wpAny_callSpecial?_slot (name := Str.ofString "__next__") hT F.slot_zip_next
    (wpAny_call_entry F.slot_zip_next hT F.entry_zip_next (zips_next_end hh D hz hTI hTO h1 h2 hl1 hl2 hx hy fun h' e hk he => ?_) (F.args_zip_next_1 _))))
  obtain ⟨o, ho, hc⟩ := he
  refine wpAny_bind (wpAny_isInstance (T := "StopIteration") (b := true) ⟨o, ho, hc⟩ isSubtype_stop ?_)
  exact wpAny_pure (hQ _ hk)
theorem letGo_zips {elts : List Expr} {x1} {pos : Pos} {z TI TO T : Addr} {Q : Unit → Shared → Prop} (hz : IsZipS s.heap z TI TO (rawInt T))
    (hQ : ∀ h', IsZipS h' z TI TO .none → Heap.SameBut z s.heap h' → Q () { s with heap := h' }) :
    wpAny (model prog w) A (letOwnedTupleGo (.Tuple elts x1 pos) (.ref z) (.ref T)) Q E s := by
  unfold letOwnedTupleGo
  refine wpAny_bind (wpAny_load hz ?_)
  show wpAny _ _ (if (["enumerate", "zip", "dict_itemiterator", "dict_reverseitemiterator", "odict_iterator", "itertools.zip_longest", "itertools.pairwise"].contains "zip" &&
      (#[rawInt T, .bool false, .bool true, .ref TI, .ref TO] : Array Value)[0]? == some (rawInt T)) = true then _ else _) Q E s
  rw [if_pos (by simp)]
  refine wpAny_bind (wpAny_rule ?_)
  show wpAny _ _ (setField (.ref z) 0 .none) Q E s
  exact wpAny_setField_rec hz (by simp) fun h' hz' hs' => hQ h' hz' hs'
theorem pyIter_zips {z TI TO : Addr} {f0 : Value} {Q : Value → Shared → Prop} (hz : IsZipS s.heap z TI TO f0) (h : Q (.ref z) s) : wpAny (model prog w) A (pyIter (.ref z)) Q E s := by
  have hT : s.TypeIs (.ref z) "zip" := ⟨_, hz, rfl⟩
  refine wpAny_pyIter_slot hT F.slot_zip_iter (wpAny_call_entry F.slot_zip_iter hT F.entry_zip_iter ?_ (F.args_zip_iter_1 _))
  show wpAny _ _ (ret (.ref z)) _ _ s
  exact wpAny_pure ⟨_, rfl, "zip", _, hT, F.slot_zip_next.lookup, h⟩
end
abbrev zipS5 (h : Heap) (l1 l2 : Addr) : Heap := (zipH4 h l1 l2).push { cls := .type "zip", data := .fields #[.none, .bool false, .bool true, .ref (zipH2 h l1 l2).objs.size, .ref (zipH3 h l1 l2).objs.size] }
namespace F
theorem typeCall_zips (a b : Value) : checkTypeCall "zip" ⟨[a, b], [(Str.ofString "strict", .bool true)]⟩ = pure () := by kernel_rfl
theorem newCall_zips (a b : Value) : checkBuiltinCall "zip.__new__" ⟨[.type "zip", a, b], [(Str.ofString "strict", .bool true)]⟩ = pure () := by kernel_rfl
theorem args_object_init_zips (obj a b : Value) : argsOk "object.__init__" ⟨[obj, a, b], [(Str.ofString "strict", .bool true)]⟩ := by unfold argsOk; kernel_rfl
end F
theorem meets_zips_new (l1 l2 : Addr) (xs ys : Array Value) :
    Meets (Builtin.«zip.__new__» ⟨[.type "zip", .ref l1, .ref l2], [(Str.ofString "strict", .bool true)]⟩) (fun _ R s => s.heap.IsList l1 xs ∧ s.heap.IsList l2 ys ∧
      R (.ok (.ret (.ref (zipH4 s.heap l1 l2).objs.size))) { s with heap := zipS5 s.heap l1 l2 }) :=
  .of_wp fun prog w A R s h => by
    obtain ⟨hp, g, d, tk, os⟩ := s; obtain ⟨hl1, hl2, h⟩ := h
    have hsub := sub_zip
    have e1 : (Str.ofString "strict" != ("strict" : Str)) = false := by decide +kernel
    have hL1 : Heap.IsList (Shared.heap ⟨hp, g, d, tk, os⟩) l1 xs := hl1
    have hL2 : Heap.IsList (Shared.heap ⟨hp.push { cls := .type "list_iterator", data := .fields #[.ref l1, .int 0 0] }, g, d, tk, os⟩) l2 ys := Heap.IsList.push hl2 _
    wp_walk using wpAny_pyIter_list hL1, wpAny_pyIter_list hL2
    exact ⟨_, rfl, h⟩
end PyE
set_option maxRecDepth 100000
set_option maxHeartbeats 4000000
/-! zip(.., strict=True) walked -/
namespace PyE
open PySem PySem.Spec PyProof.Rows L2
section
variable {prog : Program} {w : World} {A : Around} {E : Value → Shared → Prop} {s : Shared}
theorem call_zips {l1 l2 : Addr} {xs ys : Array Value} {Q : Value → Shared → Prop} (hl1 : s.heap.IsList l1 xs) (hl2 : s.heap.IsList l2 ys)
    (h : ∀ h', IsZipS h' (s.heap.objs.size + 4) (s.heap.objs.size + 2) (s.heap.objs.size + 3) .none → IsPair h' (s.heap.objs.size + 2) (.ref s.heap.objs.size) (.ref (s.heap.objs.size + 1)) →
      IsPair h' (s.heap.objs.size + 3) .none .none → h'.IsListIter s.heap.objs.size l1 0 → h'.IsListIter (s.heap.objs.size + 1) l2 0 → h'.objs.size = s.heap.objs.size + 5 →
      (∀ c o, s.heap.get? c = some o → h'.get? c = some o) → Q (.ref (s.heap.objs.size + 4)) { s with heap := h' }) :
    wpAny (model prog w) A (call (.type "zip") [.ref l1, .ref l2] [(Str.ofString "strict", .bool true)]) Q E s := by
  refine callType_newKw PySem.F.called_zip (by decide) (F.typeCall_zips _ _) (F.newCall_zips _ _) (fun obj => F.args_object_init_zips obj _ _) PySem.F.entry_zip_new
    (meets_zips_new l1 l2 xs ys) ⟨hl1, hl2, ?_⟩
  have z1 : (zipH1 s.heap l1).objs.size = s.heap.objs.size + 1 := Heap.size_push ..
  have z2 : (zipH2 s.heap l1 l2).objs.size = s.heap.objs.size + 2 := by rw [Heap.size_push, z1]
  have z3 : (zipH3 s.heap l1 l2).objs.size = s.heap.objs.size + 3 := by rw [Heap.size_push, z2]
  have z4 : (zipH4 s.heap l1 l2).objs.size = s.heap.objs.size + 4 := by rw [Heap.size_push, z3]
  have z5 : (zipS5 s.heap l1 l2).objs.size = s.heap.objs.size + 5 := by rw [Heap.size_push, z4]
  have g5 : (zipS5 s.heap l1 l2).get? (zipH4 s.heap l1 l2).objs.size = some _ := Heap.get?_push_size _ rfl
  have g4 : (zipS5 s.heap l1 l2).get? (zipH3 s.heap l1 l2).objs.size = some _ := Heap.get?_push_of_some _ (Heap.get?_push_size _ rfl)
  have g3 : (zipS5 s.heap l1 l2).get? (zipH2 s.heap l1 l2).objs.size = some _ := Heap.get?_push_of_some _ (Heap.get?_push_of_some _ (Heap.get?_push_size _ rfl))
  have g2 : (zipS5 s.heap l1 l2).get? (zipH1 s.heap l1).objs.size = some _ := Heap.get?_push_of_some _ (Heap.get?_push_of_some _ (Heap.get?_push_of_some _ (Heap.get?_push_size _ rfl)))
  have g1 : (zipS5 s.heap l1 l2).get? s.heap.objs.size = some _ := Heap.get?_push_of_some _ (Heap.get?_push_of_some _ (Heap.get?_push_of_some _ (Heap.get?_push_of_some _ (Heap.get?_push_size _ rfl))))
  show _ ∧ _
  rw [z2, z3, z4] at g5
  rw [z1, z2] at g3
  rw [z3] at g4
  rw [z1] at g2
  rw [z4]
  exact ⟨⟨_, g5, rfl⟩, h _ g5 g3 g4 ⟨_, g1, rfl, rfl⟩ ⟨_, g2, rfl, rfl⟩ z5 fun c o x =>
    Heap.get?_push_of_some _ (Heap.get?_push_of_some _ (Heap.get?_push_of_some _ (Heap.get?_push_of_some _ (Heap.get?_push_of_some _ x))))⟩
end
/-- two lists of one length -/
def Itzs (K : PySem.W.Frag) (a b : Addr) : It :=
  ⟨fun i H => ∃ (xs ys : List V) (x y : V), SqL K H a xs ∧ SqL K H b ys ∧ xs[i]? = some x ∧ ys[i]? = some y,
    fun i H v H' => ∃ T x y, v = .ref T ∧ H T = none ∧ H' = upd H T (.tup [x, y]) ∧ (∀ xs, SqL K H a xs → xs[i]? = some x) ∧ ∀ ys, SqL K H b ys → ys[i]? = some y,
    fun i H => ∃ xs ys : List V, SqL K H a xs ∧ SqL K H b ys ∧ xs.length ≤ i ∧ ys.length ≤ i⟩
theorem turn_zips {P : Program} {w : World} {K : PySem.W.Frag} {elts : List Expr} {kk : Nat} {tpos : Pos} {a b z TI TO i1 i2 : Addr} (D : ZipApart z TI TO i1 i2 a b) :
    Turn P w K (.Tuple elts kk tpos) (Itzs K a b) [z, TI, TO, i1, i2] z (fun i h => IsZipS h z TI TO .none ∧ IsPair h TI (.ref i1) (.ref i2) ∧ (∃ x y, IsPair h TO x y) ∧ h.IsListIter i1 a i ∧ h.IsListIter i2 b i) where
  mem := by simp
  obj := fun i h st c hc => by
    obtain ⟨hz, hTI, ⟨x, y, hTO⟩, ⟨o1, e1, _, d1⟩, ⟨o2, e2, _, d2⟩⟩ := st
    have e' : c = z ∨ c = TI ∨ c = TO ∨ c = i1 ∨ c = i2 := by simpa using hc
    rcases e' with q | q | q | q | q
    · rw [q]; exact ⟨_, hz, fun v q => nomatch q⟩
    · rw [q]; exact ⟨_, hTI, fun v q => nomatch q⟩
    · rw [q]; exact ⟨_, hTO, fun v q => nomatch q⟩
    · rw [q]; exact ⟨o1, e1, fun v q => by rw [d1] at q; cases q⟩
    · rw [q]; exact ⟨o2, e2, fun v q => by rw [d2] at q; cases q⟩
  keep := fun i h h' st k => by
    obtain ⟨hz, hTI, ⟨x, y, hTO⟩, h1, h2⟩ := st
    exact ⟨k z (by simp) _ hz, k TI (by simp) _ hTI, ⟨x, y, k TO (by simp) _ hTO⟩, h1.at fun o q => k i1 (by simp) o q, h2.at fun o q => k i2 (by simp) o q⟩
  item := by
    intro X hP hw hK hc i pins s σ H E I hf st hg
    subst hP hw hK
    obtain ⟨hz, hTI, ⟨x0, y0, hTO⟩, h1, h2⟩ := st
    obtain ⟨xs, ys, x, y, hqx, hqy, hx, hy⟩ := hg
    obtain ⟨its, rv, p, _⟩ := I.list hqx
    obtain ⟨its2, rv2, p2, _⟩ := I.list hqy
    obtain ⟨u, hu, ru⟩ := rv.get hx
    obtain ⟨u2, hu2, ru2⟩ := rv2.get hy
    have hzl : z < s.heap.objs.size := Heap.lt_size hz
    refine pyNext_zips_item D hz hTI hTO h1 h2 p.isList p2.isList (x := u) (y := u2) (by simpa using hu) (by simpa using hu2) fun h' z' TO' h1' h2' hT hsz hk => ?_
    refine ⟨_, rfl, letGo_zips (s := { s with heap := h' }) z' fun h'' z'' sb => ?_⟩
    have hT2 : h''.get? s.heap.objs.size = some { cls := .type "tuple", data := .seq #[u, u2] } := (sb.2 _ (Nat.ne_of_gt hzl)).trans hT
    have new : ObjOk X.prog X.w (upd H s.heap.objs.size (.tup [x, y])) h'' s.heap.objs.size (.tup [x, y]) :=
      ⟨by show 2 ≤ sizeLine; decide, [u, u2], .cons ru (.cons ru2 .nil), ⟨_, hT2, rfl, _, rfl⟩⟩
    have I1 : Inv X pins σ (upd H s.heap.objs.size (.tup [x, y])) { s with heap := h'' } :=
      I.turnedNew (t' := s.toks) (ch := [z, TI, TO, i1, i2]) (fun c o hb q => (sb.2 c (fun q' => hb (by simp [q']))).trans (hk c o (fun q' => hb (by simp [q'])) (fun q' => hb (by simp [q'])) (fun q' => hb (by simp [q'])) (fun q' => hb (by simp [q'])) q)) hf (Nat.le_refl _) new
    refine ⟨.ref s.heap.objs.size, _, I1, rfl, ⟨_, x, y, rfl, I.hok.fresh (Nat.le_refl _), rfl, fun l hl => by rw [I.list_inj hl hqx]; exact hx, fun l hl => by rw [I.list_inj hl hqy]; exact hy⟩, ⟨z'', ?_, ⟨u, u2, ?_⟩, ?_, ?_⟩, fun c hcm => ?_⟩
    · exact (sb.2 _ D.TIz).trans (hk _ _ D.TIz D.TITO D.TIi1 D.TIi2 hTI)
    · exact (sb.2 _ D.TOz).trans TO'
    · exact h1'.at fun o q => (sb.2 _ D.i1z).trans q
    · exact h2'.at fun o q => (sb.2 _ D.i2z).trans q
    · have hlt : c < s.heap.objs.size := by
        have e' : c = z ∨ c = TI ∨ c = TO ∨ c = i1 ∨ c = i2 := by simpa using hcm
        rcases e' with q | q | q | q | q
        · rw [q]; exact hzl
        · rw [q]; exact Heap.lt_size hTI
        · rw [q]; exact Heap.lt_size hTO
        · rw [q]; obtain ⟨_, e1, _⟩ := h1; exact Heap.lt_size e1
        · rw [q]; obtain ⟨_, e2, _⟩ := h2; exact Heap.lt_size e2
      rw [upd_ne (Nat.ne_of_lt hlt)]
      exact (hf c hcm).1
  done := by
    intro X hP hw hK hc i pins s σ H E I hf st hg
    subst hP hw hK
    obtain ⟨hz, hTI, ⟨x0, y0, hTO⟩, h1, h2⟩ := st
    obtain ⟨xs, ys, hqx, hqy, hend⟩ := hg
    obtain ⟨its, rv, p, _⟩ := I.list hqx
    obtain ⟨its2, rv2, p2, _⟩ := I.list hqy
    have l1 := rv.length
    have l2 := rv2.length
    have he1 : its.toArray[i]? = none := by simp; omega
    have he2 : its2.toArray[i]? = none := by simp; omega
    exact pyNext_zips_end (I.ok.hd hc) D hz hTI hTO h1 h2 p.isList p2.isList he1 he2 fun h' hk => ⟨rfl, I.turnedL (t' := s.toks) (ch := [z, TI, TO, i1, i2]) (fun c o hb q =>
      hk c o (fun q' => hb (by simp [q'])) (fun q' => hb (by simp [q'])) (fun q' => hb (by simp [q'])) (fun q' => hb (by simp [q'])) q) hf⟩
  self := fun A i s Q E st h => pyIter_zips st.1 h
def iZips (K : PySem.W.Frag) (ta : TA) : TI := fun σ H R => ta σ H fun vs H1 => ∃ a b xs ys, vs = [.ref a, .ref b] ∧ SqL K H1 a xs ∧ SqL K H1 b ys ∧ R (Itzs K a b) H1
theorem callWith_typeKw {M : Model} {A : Around} {E : Value → Shared → Prop} {s : Shared} {env : Env} {pos : Pos} {T : String} {e : Expr} {rest : List Expr} {kws : List Keyword} {Q : Value → Shared → Prop} (hall : (backToKw pos (keywordEach kws env)).all (·.1.isSome) = true)
    (h : wpAny M A (spliced (backTo pos (starEach (e :: rest) env))) (fun vs s₁ => wpAny M A (evalAll ((backToKw pos (keywordEach kws env)).map (·.2)))
      (fun ks s₂ => wpAny M A (call (.type T) vs (((backToKw pos (keywordEach kws env)).filterMap (·.1)).zip ks)) Q E s₂) E s₁) E s)
    (he : starEach (e :: rest) env = (false, eval e env) :: starEach rest env)
    (hplain : ((backTo pos (starEach (e :: rest) env)).any (·.1) || (backToKw pos (keywordEach kws env)).any (·.1.isNone)) = false) :
    wpAny M A (callWith pos (.type T) [] (backTo pos (starEach (e :: rest) env)) (backToKw pos (keywordEach kws env))) Q E s := by
  unfold callWith
  refine wpAny_bind (wpAny_holding (wpAny_mono (evalArgs_kw2 (f := .type T) (Q := fun a s₂ => wpAny M A (call (.type T) a.pos a.kw) Q E s₂) hall h he) (fun a s₁ h₁ => wpAny_bind (wpAny_standAt ?_)) fun _ _ x => x))
  simp only [hplain]
  refine wpAny_bind (wpAny_pure ?_)
  exact wpAny_bind (wpAny_mono h₁ (fun r s₂ hr => wpAny_bind (wpAny_holding (wpAny_point (wpAny_pure hr)))) fun _ _ x => x)
theorem pi_zips {X : Cx} {e e2 : Expr} {ta : TA} {p pos tpos cp kp : Pos} {cj : Nat} {elts : List Expr} {kk : Nat} (hg : Gl X "zip") (hm : X.mg "zip" = none) (ha : PA X [e, e2] ta)
    (hs : starEach [e, e2] X.env = (false, eval e X.env) :: starEach [e2] X.env) (hpl : (backTo pos (starEach [e, e2] X.env)).any (·.1) = false) :
    PI X (.Tuple elts kk tpos) (.Call (.Name "zip" p) [e, e2] [⟨some (Str.ofString "strict"), .Constant (.bool true) cj cp, kp⟩] pos) (iZips X.K ta) := by
  refine ⟨fun pins s σ H R I h => ?_⟩
  refine wpAny_Call_Name_kw (ld_blt I hg hm PyProof.Rows.boot_zip (callWith_typeKw rfl (thn (ha.run pos pins s σ H _ I h) fun us s1 ⟨vs, H1, I1, r1, q1⟩ => ?_) hs (by rw [hpl]; rfl)))
  refine kwAll_cons ?_
  refine wpAny_Constant_bool ?_
  refine kwAll_nil ?_
  obtain ⟨a, b, xs, ys, ex, hqx, hqy, q⟩ := q1
  subst ex
  cases r1 with
  | cons r rr =>
    cases rr with
    | cons r' rr =>
      cases rr
      cases r
      cases r'
      obtain ⟨its, rv, p1, _⟩ := I1.list hqx
      obtain ⟨its2, rv2, p2, _⟩ := I1.list hqy
      have la : a < s1.heap.objs.size := p1.lt
      have lb : b < s1.heap.objs.size := p2.lt
      refine call_zips p1.isList p2.isList fun h' hz hTI hTO h1 h2 hsz hk => pyIter_zips hz ?_
      have I2 : Inv X pins σ H1 { s1 with heap := h' } := I1.kept (t' := s1.toks) hk
      refine ⟨s1.heap.objs.size + 4, [s1.heap.objs.size + 4, s1.heap.objs.size + 2, s1.heap.objs.size + 3, s1.heap.objs.size, s1.heap.objs.size + 1], _, _, H1, rfl, I2, turn_zips (PySem.W.ktu_apart s1.heap.objs.size a b la lb), ⟨hz, hTI, ⟨_, _, hTO⟩, h1, h2⟩, fun c hcm => ?_, q⟩
      have e' : c = s1.heap.objs.size + 4 ∨ c = s1.heap.objs.size + 2 ∨ c = s1.heap.objs.size + 3 ∨ c = s1.heap.objs.size ∨ c = s1.heap.objs.size + 1 := by simpa using hcm
      have hle : s1.heap.objs.size ≤ c := by
        rcases e' with z | z | z | z | z
        · rw [z]; exact Nat.le_add_right _ _
        · rw [z]; exact Nat.le_add_right _ _
        · rw [z]; exact Nat.le_add_right _ _
        · rw [z]; exact Nat.le_refl _
        · rw [z]; exact Nat.le_add_right _ _
      exact I1.fpOk hle (I1.hok.fresh hle)

end PyE
set_option maxRecDepth 100000
set_option maxHeartbeats 4000000
namespace PyE
open PySem PySem.Spec PyProof.Rows L2
section
variable {X : Cx} {G : Gi} {C : Cfg} {pins : List (Addr × Obj)} {σ : L2.St} {s : Shared} {Z : Wd} {μ : Mu}
/-- the modules' dict is a part of the written heap -/
def SysK (K : PySem.W.Frag) : Prop := ∃ o : Obj, K.lookup sysModules = some o ∧ o.cls = .type "dict"
theorem sys_free {H : Hp} (I : Inv X pins σ H s) (hS : SysK X.K) {a : Addr} {o : HO} (h : H a = some o) : sysModules ≠ a := by
  obtain ⟨os, e, _⟩ := hS
  intro q
  rw [← q, (I.bs sysModules os (I.ok.mod.kin sysModules os e)).2] at h
  cases h
theorem sys_list {H : Hp} (I : Inv X pins σ H s) (hS : SysK X.K) {a : Addr} {xs : List V} (h : SqL X.K H a xs) : sysModules ≠ a := by
  rcases h with (h | ⟨o, h⟩) | ⟨o, its, n, hk, hc, _⟩
  · exact sys_free I hS h
  · exact sys_free I hS h
  · obtain ⟨os, e, c⟩ := hS
    intro q
    rw [← q, e] at hk
    have e2 : os = o := Option.some.inj hk
    rw [e2, hc] at c
    exact absurd c (by decide)
/-- v reads as p, and the modules' dict is not among what is read -/
def RdP (s : Shared) (u : Value) (p : PyData) : Prop := ∃ as, Reads s.heap u p as ∧ sysModules ∉ as
def RdPs (s : Shared) (us : List Value) (ps : List PyData) : Prop := ∃ as, ReadsAll s.heap us ps as ∧ sysModules ∉ as
theorem rd_list (I : Inv X pins σ Z.H s) (hS : SysK X.K) {a : Addr} {xs : List V} {ps : List PyData} (h : SqL X.K Z.H a xs) (r : ∀ us, Vals xs us → RdPs s us ps) : RdP s (.ref a) (.list ps) := by
  obtain ⟨its, rv, ⟨o, n, e, c, _, d⟩, _⟩ := I.list h
  obtain ⟨as, ra, hn⟩ := r its rv
  refine ⟨a :: as, .list e c d ?_, fun q => ?_⟩
  · simpa using ra
  · rcases List.mem_cons.mp q with q | q
    · exact sys_list I hS h q
    · exact hn q
theorem rd_ints : ∀ (l : List Int) (us : List Value), Vals (l.map V.int) us → RdPs s us (l.map .int)
  | [], us, r => by
    cases r
    exact ⟨[], .nil, by simp⟩
  | i :: l, us, r => by
    cases r with
    | cons r1 r2 =>
      obtain ⟨t, rfl⟩ := r1
      obtain ⟨as, h1, h2⟩ := rd_ints l _ r2
      exact ⟨[] ++ as, .cons (.int i t) h1, h2⟩
mutual
theorem rd_d (I : Inv X pins σ Z.H s) (hK : X.K = G.K) (hS : SysK X.K) {R : Nat → Option PyData} (hR : ∀ (n : Nat) (a : Addr) (p : PyData), Z.th[n]? = some a → R n = some p → RdP s (.ref a) p) :
    ∀ (d : D) (v : V) (u : Value) (p : PyData), d.py R = some p → RV G Z d v → RelV v u → RdP s u p
  | .none, v, u, p, e, r, rv => by
    have e' : PyData.none = p := Option.some.inj e
    rw [show v = V.non from r] at rv
    rw [← e', show u = Value.none from rv]
    exact ⟨[], .none, by simp⟩
  | .bl b, v, u, p, e, r, rv => by
    have e' : PyData.bool b = p := Option.some.inj e
    rw [show v = V.bl b from r] at rv
    rw [← e', show u = Value.bool b from rv]
    exact ⟨[], .bool b, by simp⟩
  | .int b, v, u, p, e, r, rv => by
    have e' : PyData.int b = p := Option.some.inj e
    rw [show v = V.int b from r] at rv
    obtain ⟨t, rfl⟩ := rv
    rw [← e']
    exact ⟨[], .int b t, by simp⟩
  | .str b, v, u, p, e, r, rv => by
    have e' : PyData.str b = p := Option.some.inj e
    rw [show v = V.str b from r] at rv
    obtain ⟨t, rfl⟩ := rv
    rw [← e']
    exact ⟨[], .str b t, by simp⟩
  | .fn _, _, _, _, e, _, _ => by cases e
  | .exc _ _, _, _, _, e, _, _ => by cases e
  | .dct, v, u, p, e, r, rv => by
    have e' : PyData.dict [] = p := Option.some.inj e
    obtain ⟨a, ea, q⟩ := r
    rw [ea] at rv
    rw [← e', show u = Value.ref a from rv]
    obtain ⟨_, hs, vs, kv, o, es, ep, ho, ex, hd, _, hp, _⟩ := I.hok a _ q
    cases kv
    have he : es.toList = [] := by
      cases hes : es.toList with
      | nil => rfl
      | cons x xs => rw [hes] at hp; cases hp
    have r1 : ReadsAll s.heap (es.toList.map (·.key)) (([] : List (PyData × PyData)).map (·.1)) [] := by rw [he]; exact .nil
    have r2 : ReadsAll s.heap (es.toList.map (·.val)) (([] : List (PyData × PyData)).map (·.2)) [] := by rw [he]; exact .nil
    exact ⟨_, .dict ho ex.1 hd r1 r2, by simpa using (sys_free I hS q)⟩
  | .scr xs, v, u, p, e, r, rv => by
    have e' : PyData.list (xs.map .int) = p := Option.some.inj e
    obtain ⟨a, ea, q, _⟩ := r
    rw [ea] at rv
    rw [← e', show u = Value.ref a from rv]
    refine rd_list I hS (xs := xs.map V.int) ?_ (rd_ints xs)
    rw [hK]
    rcases q with ⟨o, q⟩ | q
    · exact .inl (.inr ⟨o, q⟩)
    · exact q _
  | .tup ds, v, u, p, e, r, rv => by
    obtain ⟨ps, e1, e2⟩ := Option.map_eq_some_iff.mp (show (D.pyL R ds).map .tuple = some p from e)
    obtain ⟨a, vs, ea, q, _, rs⟩ := r
    rw [ea] at rv
    subst e2
    rw [show u = Value.ref a from rv]
    rw [← hK] at q
    obtain ⟨its, rv', ⟨o, ho, hc, n, hd⟩, _⟩ := I.tuple q
    obtain ⟨as, h1, h2⟩ := rd_l I hK hS hR ds vs its ps e1 rs rv'
    exact ⟨as, .tuple ho hc hd (by simpa using h1), h2⟩
  | .lst ds, v, u, p, e, r, rv => by
    obtain ⟨ps, e1, e2⟩ := Option.map_eq_some_iff.mp (show (D.pyL R ds).map .list = some p from e)
    obtain ⟨a, vs, ea, _, q, _, rs⟩ := r
    rw [ea] at rv
    subst e2
    rw [show u = Value.ref a from rv]
    exact rd_list I hS (SqL.of q) fun us r' => rd_l I hK hS hR ds vs us ps e1 rs r'
  | .ref n, v, u, p, e, r, rv => by
    obtain ⟨a, e1, e2⟩ := r
    rw [e2] at rv
    rw [show u = Value.ref a from rv]
    exact hR n a p e1 e
theorem rd_l (I : Inv X pins σ Z.H s) (hK : X.K = G.K) (hS : SysK X.K) {R : Nat → Option PyData} (hR : ∀ (n : Nat) (a : Addr) (p : PyData), Z.th[n]? = some a → R n = some p → RdP s (.ref a) p) :
    ∀ (ds : List D) (vs : List V) (us : List Value) (ps : List PyData), D.pyL R ds = some ps → RVs G Z ds vs → Vals vs us → RdPs s us ps
  | [], vs, us, ps, e, r, rv => by
    have e' : [] = ps := Option.some.inj e
    rw [show vs = [] from r] at rv
    cases rv
    rw [← e']
    exact ⟨[], .nil, by simp⟩
  | d :: ds, vs, us, ps, e, r, rv => by
    obtain ⟨p, e1, e2⟩ := Option.bind_eq_some_iff.mp (show ((D.py R d).bind fun a => (D.pyL R ds).map fun b => a :: b) = some ps from e)
    obtain ⟨qs, e3, e4⟩ := Option.map_eq_some_iff.mp e2
    obtain ⟨v, ws, ev, r1, r2⟩ := r
    subst e4
    rw [ev] at rv
    cases rv with
    | cons q1 q2 =>
      obtain ⟨as, h1, h2⟩ := rd_d I hK hS hR d v _ p e1 r1 q1
      obtain ⟨bs, h3, h4⟩ := rd_l I hK hS hR ds ws _ qs e3 r2 q2
      exact ⟨as ++ bs, .cons h1 h3, fun q => (List.mem_append.mp q).elim h2 h4⟩
end
theorem rd_tab (I : Inv X pins σ Z.H s) (hK : X.K = G.K) (hS : SysK X.K) (R : Rel G Z μ) : ∀ (k n : Nat) (a : Addr) (p : PyData), Z.th[n]? = some a → tab μ k n = some p → RdP s (.ref a) p
  | 0, _, _, _, _, e => by cases e
  | k + 1, n, a, p, hn, e => by
    unfold tab at e
    cases hm : μ[n]? with
    | none => rw [hm] at e; cases e
    | some xs =>
      rw [hm] at e
      obtain ⟨ps, e1, e2⟩ := Option.map_eq_some_iff.mp e
      obtain ⟨vs, hv, rs, _⟩ := R.cell n a xs hn hm
      subst e2
      exact rd_list I hS (SqL.of hv) fun us r' => rd_l I hK hS (rd_tab I hK hS R k) xs vs us ps e1 rs r'
theorem rd_view (I : Inv X pins σ Z.H s) (hK : X.K = G.K) (hS : SysK X.K) (R : Rel G Z μ) {d : D} {v : V} {u : Value} {p : PyData} (h : view μ d = some p) (r : RV G Z d v) (rv : RelV v u) : RdP s u p :=
  rd_d I hK hS (rd_tab I hK hS R FUEL) d v u p h r rv
/-- repr of data -/
theorem repr_at {prog : Program} {w : World} {A : Around} {E : Value → Shared → Prop} {s : Shared} {u : Value} {p : PyData} {Q : Value → Shared → Prop} (r : RdP s u p) (hg : A.guards = some []) (hu : A.units + 100 < cLine) (ok : reprOk p = true)
    (q : ∀ h' t tk, (∀ b o, s.heap.get? b = some o → h'.get? b = some o) → Q (.str p.shown t) { s with heap := h', toks := tk }) : wpAny (model prog w) A (call (.builtin "repr") [u]) Q E s := by
  obtain ⟨as, rd, hn⟩ := r
  have ok' := Bool.and_eq_true_iff.mp ok
  have ok2 := Bool.and_eq_true_iff.mp ok'.1
  have hs : p.showable = true := ok2.1
  have hz : p.shown.length ≤ sizeLine := by rw [← LIM_eq]; exact of_decide_eq_true ok2.2
  have hd : p.depth ≤ 64 := of_decide_eq_true ok'.2
  have st : ∀ {x : Str}, x = p.shown → Q (.str x s.toks) { s with toks := s.toks + 1 } := fun {x} e => by
    rw [e]
    exact q s.heap _ _ fun _ _ z => z
  cases rd with
  | none => exact P.repr_of_none (st (by rw [PyData.shown_none]))
  | bool b => exact P.repr_of_bool (st (by rw [PyData.shown_bool]))
  | int i t => exact P.repr_of_int (by simpa [PyData.showable] using hs) (st (by rw [PyData.shown_int]))
  | str x t => exact P.repr_of_str (st (by rw [PyData.shown_str])) (by rw [PyData.shown_str] at hz; exact hz)
  | list h1 h2 h3 h4 =>
    obtain ⟨T, idr, B⟩ := showsBy_of_reads (prog := prog) (w := w) (Reads.list h1 h2 h3 h4) hs (fun _ => hn) hz
    refine call_repr_slot (by omega) (B.typeIs s fun _ _ z => z) B.slotRepr (B.call _ _ s _ hg ?_ (fun _ _ z => z) fun h' u tk k => ⟨_, _, rfl, q h' u tk k⟩)
    show A.units + 1 + _ < cLine
    omega
  | tuple h1 h2 h3 h4 =>
    obtain ⟨T, idr, B⟩ := showsBy_of_reads (prog := prog) (w := w) (Reads.tuple h1 h2 h3 h4) hs (fun _ => hn) hz
    refine call_repr_slot (by omega) (B.typeIs s fun _ _ z => z) B.slotRepr (B.call _ _ s _ hg ?_ (fun _ _ z => z) fun h' u tk k => ⟨_, _, rfl, q h' u tk k⟩)
    show A.units + 1 + _ < cLine
    omega
  | dict h1 h2 h3 h4 h5 =>
    obtain ⟨T, idr, B⟩ := showsBy_of_reads (prog := prog) (w := w) (Reads.dict h1 h2 h3 h4 h5) hs (fun _ => hn) hz
    refine call_repr_slot (by omega) (B.typeIs s fun _ _ z => z) B.slotRepr (B.call _ _ s _ hg ?_ (fun _ _ z => z) fun h' u tk k => ⟨_, _, rfl, q h' u tk k⟩)
    show A.units + 1 + _ < cLine
    omega
theorem o_repr (hK : X.K = G.K) (hS : SysK X.K) (hg : X.A.guards = some []) (hu : X.A.units + 100 < cLine) : CallR X (.builtin "repr") fun vs H Q => (∃ x, vs = [x]) ∧ rO G C .repr vs H Q := by
  intro pins s σ H xs us Q I r h
  obtain ⟨⟨x, rfl⟩, Z, μ, ds, pr, rfl, R, rv, e, q⟩ := h
  obtain ⟨d, rfl, r1⟩ := rv.one_inv
  obtain ⟨p, h1, e⟩ := Option.bind_eq_some_iff.mp (show ((view μ d).bind fun a => if reprOk a = true then some (PR.v (.str a.shown)) else none) = some pr from e)
  obtain ⟨ok, rfl⟩ := if_some e
  obtain ⟨u, rfl, ru⟩ := vals1 r
  exact repr_at (rd_view I hK hS R h1 r1 ru) hg hu ok fun h' t tk k => ⟨.str p.shown, Z.H, I.kept k, ⟨_, rfl⟩, q.here R rfl⟩
end
end PyE
set_option maxRecDepth 100000
set_option maxHeartbeats 4000000
/-! isinstance; an exception's value -/
namespace PyE
open PySem PySem.Spec PyProof.Rows L2

/-- what an own error class must be -/
structure XcF (K : PySem.W.Frag) (C : Addr) : Prop where
  cl : (PySem.W.clsIn K C).isSome = true
  ga : PySem.W.findIn K (.ref C) "__getattribute__" = some (some (.builtin "BaseException.__getattribute__"))
  gg : PySem.W.findIn K (.ref C) "__getattr__" = some none
  sub : PySem.W.subIn K (.ref C) (.type "BaseException") = some true
  hd : PySem.W.hasDictIn K C = true
  hc : PySem.W.findIn K (.ref C) "__class__" = some (some (.builtin "object.__class__"))
  hn : PySem.W.specialIn K (.builtin "object.__class__") "__get__" = some (some (.builtin "getset_descriptor.__get__"))
  ht : PySem.W.takesIn K (.builtin "object.__class__") = some true
  hm : PySem.W.mroIn K C (.type "object") = some true
  nv : PySem.W.findIn K (.ref C) "value" = some none
/-- the classes -/
structure GF (G : Gi) (C : Cfg) : Prop where
  xc : ∀ c, G.kc c = true → XcF G.K (G.ca c)
  sub : ∀ c k, G.kc c = true → G.kc k = true → PySem.W.kitOne G.K (.ref (G.ca c)) (.ref (G.ca k)) = some (C.sub c k)
  val : ∀ c, G.kc c = true → PySem.W.kitOne G.K (.ref (G.ca c)) (.type "ValueError") = some true

def tyU (G : Gi) : Ty → Value
  | .tint => .type "int" | .tbool => .type "bool" | .tstr => .type "str" | .tlist => .type "list" | .ttuple => .type "tuple" | .tdict => .type "dict" | .tval => .type "ValueError"
  | .tcls c => .ref (G.ca c)
def tyV (G : Gi) : Ty → V
  | .tint => .ty "int" | .tbool => .ty "bool" | .tstr => .ty "str" | .tlist => .ty "list" | .ttuple => .ty "tuple" | .tdict => .ty "dict" | .tval => .ty "ValueError"
  | .tcls c => .ref (G.ca c)
def tyOk (G : Gi) : Ty → Bool
  | .tcls c => G.kc c
  | _ => true
theorem tyUV (G : Gi) (t : Ty) : ClsV (tyV G t) (tyU G t) := by
  cases t <;> first | exact .ty _ | exact .own _

section
variable {X : Cx} {G : Gi} {C : Cfg} {Z : Wd} {μ : Mu}
/-- a built-in type against the classes -/
theorem ty_base {K : PySem.W.Frag} (T : String) (d : D) (hT : ∀ t : Ty, (∀ c, t ≠ .tcls c) → t ≠ .tval → ∃ n, tyU G t = .type n ∧ kitB T n = some (tyB d t)) (hf : ∀ f, d ≠ .fn f) (he : ∀ c v, d ≠ .exc c v) (t : Ty) (b : Bool) (h : tyIs C.sub d t = some b) :
    PySem.W.kitOne K (.type T) (tyU G t) = some b := by
  have no : ∀ (P : Prop), tyIs C.sub d t = none → P := fun P z => by rw [z] at h; cases h
  have at_ : (∀ c, t ≠ .tcls c) → t ≠ .tval → some (tyB d t) = some b := fun z1 z2 => by
    cases d with
    | fn f => exact absurd rfl (hf f)
    | exc c v => exact absurd rfl (he c v)
    | _ => cases t with
      | tcls c => exact absurd rfl (z1 c)
      | tval => exact absurd rfl z2
      | _ => exact h
  have z1 : ∀ c, t ≠ .tcls c := fun c z => by
    subst z
    refine no _ ?_
    cases d with
    | fn f => exact absurd rfl (hf f)
    | exc c v => exact absurd rfl (he c v)
    | _ => rfl
  have z2 : t ≠ .tval := fun z => by
    subst z
    refine no _ ?_
    cases d with
    | fn f => exact absurd rfl (hf f)
    | exc c v => exact absurd rfl (he c v)
    | _ => rfl
  obtain ⟨n, e1, e2⟩ := hT t z1 z2
  rw [e1, ← at_ z1 z2]
  exact kit_ty e2
theorem ty_all {T : String} {d : D} (h1 : kitB T "int" = some (tyB d .tint)) (h2 : kitB T "bool" = some (tyB d .tbool)) (h3 : kitB T "str" = some (tyB d .tstr)) (h4 : kitB T "list" = some (tyB d .tlist)) (h5 : kitB T "tuple" = some (tyB d .ttuple)) (h6 : kitB T "dict" = some (tyB d .tdict)) :
    ∀ t : Ty, (∀ c, t ≠ .tcls c) → t ≠ .tval → ∃ n, tyU G t = .type n ∧ kitB T n = some (tyB d t)
  | .tint, _, _ => ⟨_, rfl, h1⟩
  | .tbool, _, _ => ⟨_, rfl, h2⟩
  | .tstr, _, _ => ⟨_, rfl, h3⟩
  | .tlist, _, _ => ⟨_, rfl, h4⟩
  | .ttuple, _, _ => ⟨_, rfl, h5⟩
  | .tdict, _, _ => ⟨_, rfl, h6⟩
  | .tval, _, z => absurd rfl z
  | .tcls c, z, _ => absurd rfl (z c)
/-- a value's class, as isinstance asks it -/
theorem kit_D (hK : X.K = G.K) (gf : GF G C) {pins : List (Addr × Obj)} {σ : L2.St} {s : Shared} (I : Inv X pins σ Z.H s) (R : Rel G Z μ) {d : D} {x : V} {u : Value} (r : RV G Z d x) (rx : RelV x u) (hfn : ∀ f, d ≠ .fn f) :
    ∃ (tv : Value) (P : Heap → Prop), PySem.W.KitX X.K u tv P ∧ P s.heap ∧ u ≠ .builtin "__main__.__loader__#opaque" ∧ ∀ t b, tyOk G t = true → tyIs C.sub d t = some b → PySem.W.kitOne X.K tv (tyU G t) = some b := by
  have base : ∀ (T : String), TyX X.K Z.H x (.type T) → (∀ t : Ty, (∀ c, t ≠ .tcls c) → t ≠ .tval → ∃ n, tyU G t = .type n ∧ kitB T n = some (tyB d t)) → (∀ c v, d ≠ .exc c v) →
      ∃ (tv : Value) (P : Heap → Prop), PySem.W.KitX X.K u tv P ∧ P s.heap ∧ u ≠ .builtin "__main__.__loader__#opaque" ∧ ∀ t b, tyOk G t = true → tyIs C.sub d t = some b → PySem.W.kitOne X.K tv (tyU G t) = some b := fun T ty hT he => by
    obtain ⟨P, q1, q2, q3⟩ := kit_of I rx ty
    exact ⟨_, P, q1, q2, q3, fun t b _ h => ty_base T d hT hfn he t b h⟩
  cases d with
  | none =>
    cases (show x = V.non from r)
    exact base "NoneType" (.base .non) (ty_all ((by first | (show kitB _ _ = some true; decide +kernel) | (show kitB _ _ = some false; decide +kernel))) ((by first | (show kitB _ _ = some true; decide +kernel) | (show kitB _ _ = some false; decide +kernel))) ((by first | (show kitB _ _ = some true; decide +kernel) | (show kitB _ _ = some false; decide +kernel))) ((by first | (show kitB _ _ = some true; decide +kernel) | (show kitB _ _ = some false; decide +kernel))) ((by first | (show kitB _ _ = some true; decide +kernel) | (show kitB _ _ = some false; decide +kernel))) ((by first | (show kitB _ _ = some true; decide +kernel) | (show kitB _ _ = some false; decide +kernel)))) fun _ _ z => by cases z
  | bl y =>
    cases (show x = V.bl y from r)
    exact base "bool" (.base (.bl y)) (ty_all ((by first | (show kitB _ _ = some true; decide +kernel) | (show kitB _ _ = some false; decide +kernel))) ((by first | (show kitB _ _ = some true; decide +kernel) | (show kitB _ _ = some false; decide +kernel))) ((by first | (show kitB _ _ = some true; decide +kernel) | (show kitB _ _ = some false; decide +kernel))) ((by first | (show kitB _ _ = some true; decide +kernel) | (show kitB _ _ = some false; decide +kernel))) ((by first | (show kitB _ _ = some true; decide +kernel) | (show kitB _ _ = some false; decide +kernel))) ((by first | (show kitB _ _ = some true; decide +kernel) | (show kitB _ _ = some false; decide +kernel)))) fun _ _ z => by cases z
  | int y =>
    cases (show x = V.int y from r)
    exact base "int" (.base (.int y)) (ty_all ((by first | (show kitB _ _ = some true; decide +kernel) | (show kitB _ _ = some false; decide +kernel))) ((by first | (show kitB _ _ = some true; decide +kernel) | (show kitB _ _ = some false; decide +kernel))) ((by first | (show kitB _ _ = some true; decide +kernel) | (show kitB _ _ = some false; decide +kernel))) ((by first | (show kitB _ _ = some true; decide +kernel) | (show kitB _ _ = some false; decide +kernel))) ((by first | (show kitB _ _ = some true; decide +kernel) | (show kitB _ _ = some false; decide +kernel))) ((by first | (show kitB _ _ = some true; decide +kernel) | (show kitB _ _ = some false; decide +kernel)))) fun _ _ z => by cases z
  | str y =>
    cases (show x = V.str y from r)
    exact base "str" (.base (.str y)) (ty_all ((by first | (show kitB _ _ = some true; decide +kernel) | (show kitB _ _ = some false; decide +kernel))) ((by first | (show kitB _ _ = some true; decide +kernel) | (show kitB _ _ = some false; decide +kernel))) ((by first | (show kitB _ _ = some true; decide +kernel) | (show kitB _ _ = some false; decide +kernel))) ((by first | (show kitB _ _ = some true; decide +kernel) | (show kitB _ _ = some false; decide +kernel))) ((by first | (show kitB _ _ = some true; decide +kernel) | (show kitB _ _ = some false; decide +kernel))) ((by first | (show kitB _ _ = some true; decide +kernel) | (show kitB _ _ = some false; decide +kernel)))) fun _ _ z => by cases z
  | tup xs =>
    obtain ⟨a, vs, rfl, q, _, _⟩ := r
    refine base "tuple" ?_ (ty_all ((by first | (show kitB _ _ = some true; decide +kernel) | (show kitB _ _ = some false; decide +kernel))) ((by first | (show kitB _ _ = some true; decide +kernel) | (show kitB _ _ = some false; decide +kernel))) ((by first | (show kitB _ _ = some true; decide +kernel) | (show kitB _ _ = some false; decide +kernel))) ((by first | (show kitB _ _ = some true; decide +kernel) | (show kitB _ _ = some false; decide +kernel))) ((by first | (show kitB _ _ = some true; decide +kernel) | (show kitB _ _ = some false; decide +kernel))) ((by first | (show kitB _ _ = some true; decide +kernel) | (show kitB _ _ = some false; decide +kernel)))) fun _ _ z => by cases z
    rcases q with (q | ⟨o, q⟩) | ⟨o, its, n, e, e1, _⟩
    · exact .base (.tup q)
    · exact .fTuple q
    · exact .kTuple (by rw [hK]; exact e) e1
  | lst xs =>
    obtain ⟨a, vs, rfl, _, q, _, _⟩ := r
    exact base "list" (.base (.lst q)) (ty_all ((by first | (show kitB _ _ = some true; decide +kernel) | (show kitB _ _ = some false; decide +kernel))) ((by first | (show kitB _ _ = some true; decide +kernel) | (show kitB _ _ = some false; decide +kernel))) ((by first | (show kitB _ _ = some true; decide +kernel) | (show kitB _ _ = some false; decide +kernel))) ((by first | (show kitB _ _ = some true; decide +kernel) | (show kitB _ _ = some false; decide +kernel))) ((by first | (show kitB _ _ = some true; decide +kernel) | (show kitB _ _ = some false; decide +kernel))) ((by first | (show kitB _ _ = some true; decide +kernel) | (show kitB _ _ = some false; decide +kernel)))) fun _ _ z => by cases z
  | ref n =>
    obtain ⟨a, e, rfl⟩ := r
    obtain ⟨vs, q⟩ := R.atCell (List.mem_of_getElem? e)
    exact base "list" (.base (.lst q)) (ty_all ((by first | (show kitB _ _ = some true; decide +kernel) | (show kitB _ _ = some false; decide +kernel))) ((by first | (show kitB _ _ = some true; decide +kernel) | (show kitB _ _ = some false; decide +kernel))) ((by first | (show kitB _ _ = some true; decide +kernel) | (show kitB _ _ = some false; decide +kernel))) ((by first | (show kitB _ _ = some true; decide +kernel) | (show kitB _ _ = some false; decide +kernel))) ((by first | (show kitB _ _ = some true; decide +kernel) | (show kitB _ _ = some false; decide +kernel))) ((by first | (show kitB _ _ = some true; decide +kernel) | (show kitB _ _ = some false; decide +kernel)))) fun _ _ z => by cases z
  | scr xs =>
    obtain ⟨a, rfl, q, _⟩ := r
    refine base "list" ?_ (ty_all ((by first | (show kitB _ _ = some true; decide +kernel) | (show kitB _ _ = some false; decide +kernel))) ((by first | (show kitB _ _ = some true; decide +kernel) | (show kitB _ _ = some false; decide +kernel))) ((by first | (show kitB _ _ = some true; decide +kernel) | (show kitB _ _ = some false; decide +kernel))) ((by first | (show kitB _ _ = some true; decide +kernel) | (show kitB _ _ = some false; decide +kernel))) ((by first | (show kitB _ _ = some true; decide +kernel) | (show kitB _ _ = some false; decide +kernel))) ((by first | (show kitB _ _ = some true; decide +kernel) | (show kitB _ _ = some false; decide +kernel)))) fun _ _ z => by cases z
    rcases q with ⟨o, q⟩ | q
    · exact .base (.frz q)
    · rcases q (fun _ => none) with (q | ⟨o, q⟩) | ⟨o, its, n, e, e1, _⟩
      · cases q
      · cases q
      · exact .kList (by rw [hK]; exact e) e1
  | dct =>
    obtain ⟨a, rfl, q⟩ := r
    exact base "dict" (.base (.dK q)) (ty_all ((by first | (show kitB _ _ = some true; decide +kernel) | (show kitB _ _ = some false; decide +kernel))) ((by first | (show kitB _ _ = some true; decide +kernel) | (show kitB _ _ = some false; decide +kernel))) ((by first | (show kitB _ _ = some true; decide +kernel) | (show kitB _ _ = some false; decide +kernel))) ((by first | (show kitB _ _ = some true; decide +kernel) | (show kitB _ _ = some false; decide +kernel))) ((by first | (show kitB _ _ = some true; decide +kernel) | (show kitB _ _ = some false; decide +kernel))) ((by first | (show kitB _ _ = some true; decide +kernel) | (show kitB _ _ = some false; decide +kernel)))) fun _ _ z => by cases z
  | fn f => exact absurd rfl (hfn f)
  | exc c v =>
    obtain ⟨kc, a, dd, w, rfl, q1, q2, _⟩ := r
    cases (show u = Value.ref a from rx)
    have F := gf.xc c kc
    obtain ⟨⟨oe, vs, e1, z, e2⟩, _⟩ := (show ObjOk X.prog X.w Z.H s.heap a (ExV (.ref (G.ca c)) a dd) from I.hok a _ q1)
    obtain ⟨mA, hns, hr⟩ := (show ObjOk X.prog X.w Z.H s.heap dd (.xd [("value", w)]) from I.hok dd _ q2)
    obtain ⟨od, ho, hl⟩ := lookIn_ns hns
    refine ⟨.ref (G.ca c), _, PySem.W.kitx_exc (ox := oe) (od := some od) (by rw [hK]; exact F.cl) (by rw [hK]; exact F.ga) (by rw [hK]; exact F.gg) (by rw [hK]; exact F.sub) (by rw [hK]; exact F.hc) (by rw [hK]; exact F.hn) (by rw [hK]; exact F.ht) (by rw [hK]; exact F.hm), ?_, fun z => (by cases z), ?_⟩
    · exact ⟨e1, z.1, by unfold PySem.W.notCls; rw [e2], by rw [z.2]; exact ho⟩
    · intro t b ok h
      cases t with
      | tcls k =>
        have e : some (C.sub c k) = some b := h
        rw [hK, ← e]
        exact gf.sub c k kc ok
      | tval =>
        have e : some true = some b := h
        rw [hK, ← e]
        exact gf.val c kc
      | _ => cases h
theorem kits_any {K : PySem.W.Frag} {tv : Value} {d : D} (h : ∀ t b, tyOk G t = true → tyIs C.sub d t = some b → PySem.W.kitOne K tv (tyU G t) = some b) : ∀ (ts : List Ty) (b : Bool), ts.all (tyOk G) = true → isiS C.sub d ts = some b → PySem.W.kitAny K tv (ts.map (tyU G)) = some b
  | [], b, _, e => e
  | t :: ts, b, ok, e => by
    rw [List.all_cons, Bool.and_eq_true] at ok
    obtain ⟨b1, e1, e⟩ := Option.bind_eq_some_iff.mp e
    obtain ⟨b2, e2, e⟩ := Option.map_eq_some_iff.mp e
    refine kitAny_cons (h t b1 ok.1 e1) (fun z => ?_) fun z => ?_
    · rw [kits_any h ts b2 ok.2 e2, ← e, z]; rfl
    · rw [← e, z]; rfl
theorem tyIs_nf {sub : Fid → Fid → Bool} {d : D} {t : Ty} {b : Bool} (h : tyIs sub d t = some b) : ∀ f, d ≠ .fn f := fun f z => by
  rw [z] at h; cases h
/-- isinstance, one class or a tuple of classes just made -/
def rIs (G : Gi) (C : Cfg) (ts : List Ty) : List V → Hp → VK → Prop := fun xs H Q => ∃ x c, xs = [x, c] ∧ ((∃ t, ts = [t] ∧ c = tyV G t) ∨ ∃ p, c = .ref p ∧ H p = some (.tup (ts.map (tyV G)))) ∧
  ∃ Z μ d b, Z.H = H ∧ Rel G Z μ ∧ RV G Z d x ∧ isiS C.sub d ts = some b ∧ Q (.bl b) H
theorem c_isi (hK : X.K = G.K) (gf : GF G C) {ts : List Ty} (ok : ts.all (tyOk G) = true) (hne : ts ≠ []) : CallR X (.builtin "isinstance") (rIs G C ts) := by
  intro pins s σ H xs us Q I r h
  obtain ⟨x, c, rfl, hc, Z, μ, d, b, rfl, R, rv, e, q⟩ := h
  obtain ⟨u1, u2, rfl, r1, r2⟩ := vals2 r
  have nf : ∀ f, d ≠ .fn f := by
    cases ts with
    | nil => exact absurd rfl hne
    | cons t ts =>
      obtain ⟨b1, e1, _⟩ := Option.bind_eq_some_iff.mp e
      exact tyIs_nf e1
  obtain ⟨tv, P, k1, k2, k3, k4⟩ := kit_D hK gf I R rv r1 nf
  rcases hc with ⟨t, rfl, rfl⟩ | ⟨p, rfl, hp⟩
  · have e2 := (tyUV G t).eq r2
    subst e2
    rw [List.all_cons, Bool.and_eq_true] at ok
    obtain ⟨b1, e1, e⟩ := Option.bind_eq_some_iff.mp e
    have e' : some (b1 || false) = some b := e
    rw [Bool.or_false] at e'
    refine PySem.W.kia_one k1 I.kIn k2 (k4 t b1 ok.1 e1) k3 fun tk => ⟨.bl b, Z.H, I.tok tk, ?_, q⟩
    rw [← Option.some.inj e']; rfl
  · cases (show u2 = Value.ref p from r2)
    obtain ⟨_, its, rw', o, h1, h2, n, h3⟩ := (show ObjOk X.prog X.w Z.H s.heap p (.tup (ts.map (tyV G))) from I.hok p _ hp)
    have pz : ∀ l : List Ty, Paired ClsV (l.map (tyV G)) (l.map (tyU G)) := fun l => by
      induction l with
      | nil => exact .nil
      | cons t l ih => exact .cons (tyUV G t) ih
    have e3 := ClsV.all (pz ts) rw'
    subst e3
    obtain ⟨oc, od, dt, sl⟩ := o
    simp only at h2 h3
    subst h2 h3
    exact PySem.W.kia_tup k1 I.kIn k2 h1 (kits_any k4 ts b ok e) k3 fun tk => ⟨.bl b, Z.H, I.tok tk, rfl, q⟩

/-- e.value -/
theorem p_value (hK : X.K = G.K) (gf : GF G C) {e : Expr} {te : TE} {pos : Pos} (he : PE X e te) (hb : attributeBase e "value" X.env (eval e X.env) = eval e X.env) :
    PE X (.Attribute e "value" pos) (fun σ H Q => te σ H fun x H1 => rO G C .attr [x] H1 Q) := by
  refine ⟨fun pins s σ H Q I h => ?_⟩
  refine attr_of hb (thn (he.run pins s σ H _ I h) fun u s1 hh => ?_)
  obtain ⟨x, H1, I1, rx, Z, μ, ds, pr, rfl, R, rv, eo, q⟩ := hh
  obtain ⟨d, rfl, r1⟩ := rv.one_inv
  cases d with
  | exc c v =>
    have epr : PR.v v = pr := Option.some.inj eo
    subst epr
    obtain ⟨kc, a, dd, w, rfl, q1, q2, rw'⟩ := r1
    cases (show u = Value.ref a from rx)
    have F := gf.xc c kc
    obtain ⟨⟨oe, vs, e1, z, e2⟩, _⟩ := (show ObjOk X.prog X.w Z.H s1.heap a (ExV (.ref (G.ca c)) a dd) from I1.hok a _ q1)
    obtain ⟨mA, hns, hr⟩ := (show ObjOk X.prog X.w Z.H s1.heap dd (.xd [("value", w)]) from I1.hok dd _ q2)
    obtain ⟨od, ho, hl⟩ := lookIn_ns hns
    obtain ⟨y, hy, ry⟩ := RelO.some_of (v := w) (o := mA "value") (hr "value")
    have J : PySem.W.InstAt s1.heap a oe (G.ca c) (some od) := ⟨e1, z.1, by unfold PySem.W.notCls; rw [e2], by rw [z.2]; exact ho⟩
    exact HandSPX.exc_get I1.kIn J (by rw [hK]; exact F.ga) (by rw [hK]; exact F.gg) (by rw [hK]; exact F.sub) (PySem.W.findObj_own (by rw [hK]; exact F.hd) (by rw [hK]; exact F.nv) rfl (by rw [hl, hy])) (handed_of ry) ⟨w, Z.H, I1.tok _, ry, q.here R rw'⟩
  | _ => cases eo
end
end PyE
set_option maxRecDepth 100000
set_option maxHeartbeats 4000000
/-! methods of lists, bit_length, [::-1], stores -/
namespace PyE
open PySem PySem.Spec PyProof.Rows L2
section
variable {G : Gi} {Z Z' : Wd} {μ μ' : Mu}
/-- a cell written anew -/
theorem Ext.put {a : Addr} {o : HO} (R : Rel G Z μ) (h : a ∈ Z.th) : Ext Z (Z.lay a o) where
  pre := List.prefix_refl _
  fresh := fun _ q => .inl q
  sub := fun _ q => q
  new := fun _ q => .inl q
  keep := fun b u q n => by
    show upd Z.H a o b = some u
    rw [upd_ne (fun z => n (by rw [z]; exact h))]
    exact q
  dom := fun b q => by
    have q' : upd Z.H a o b = none := q
    by_cases e : b = a
    · rw [e, upd_same] at q'; cases q'
    · rw [upd_ne e] at q'; exact q'
theorem Rel.put (R : Rel G Z μ) {n : Nat} {a : Addr} {ds : List D} {vs : List V} (h : Z.th[n]? = some a) (r : RVs G Z ds vs) (z : ds.length ≤ LIM) : Rel G (Z.lay a (.lst vs)) (μ.set n ds) := by
  have ha : a ∈ Z.th := List.mem_of_getElem? h
  refine ⟨by rw [List.length_set]; exact R.len, R.nd, fun m b es hb hm => ?_, R.sep, fun b q z => R.has b q ((Ext.put R ha).dom b z)⟩
  have hn : n < μ.length := by rw [← R.len]; exact (List.getElem?_eq_some_iff.mp h).1
  by_cases e : m = n
  · subst e
    have e1 : b = a := by rw [show (Z.lay a (.lst vs)).th = Z.th from rfl, h] at hb; exact (Option.some.inj hb).symm
    subst e1
    rw [List.getElem?_set_self hn] at hm
    have e2 : ds = es := Option.some.inj hm
    subst e2
    exact ⟨vs, upd_same, RVs.ext (Ext.put R ha) R ds vs r, z⟩
  · rw [List.getElem?_set_ne (fun z => e z.symm)] at hm
    obtain ⟨ws, q1, q2, q3⟩ := R.cell m b es hb hm
    have hne : b ≠ a := fun z => by
      have hb' : Z.th[m]? = some b := hb
      rw [z] at hb'
      have h1 := (List.getElem?_eq_some_iff.mp hb')
      have h2 := (List.getElem?_eq_some_iff.mp h)
      obtain ⟨l1, e1⟩ := h1
      obtain ⟨l2, e2⟩ := h2
      exact e (List.getElem_inj R.nd |>.mp (e1.trans e2.symm))
    refine ⟨ws, ?_, RVs.ext (Ext.put R ha) R es ws q2, q3⟩
    show upd Z.H a _ b = _
    rw [upd_ne hne]; exact q1
theorem RVs.dropLast : ∀ {ds : List D} {vs : List V}, RVs G Z ds vs → RVs G Z ds.dropLast vs.dropLast := fun {ds vs} h => by
  rw [List.dropLast_eq_take, List.dropLast_eq_take, ← h.length]
  exact RVs.take _ h
theorem RVs.eraseIdx {ds : List D} {vs : List V} (k : Nat) (h : RVs G Z ds vs) : RVs G Z (ds.eraseIdx k) (vs.eraseIdx k) := by
  rw [List.eraseIdx_eq_take_drop_succ, List.eraseIdx_eq_take_drop_succ]
  exact (RVs.take _ h).append (RVs.drop _ h)
end
theorem place_ix (i : Int) (n : Nat) : place i n = ixN n i := rfl

/-- a method of a cell -/
def rM (G : Gi) (m : MOp) : V → List V → Hp → VK → Prop := fun x xs H Q => ∃ Z μ n ds r μ', Z.H = H ∧ Rel G Z μ ∧ RV G Z (.ref n) x ∧ RVs G Z ds xs ∧ mopS μ m (.ref n) ds = some (r, μ') ∧ ∀ v Z', Ext Z Z' → Rel G Z' μ' → RV G Z' r v → Q v Z'.H
section
variable {X : Cx} {G : Gi} {C : Cfg}
theorem m_append : MtM X "list.append" (rM G .append) := by
  intro pins s σ H x xs v us Q I rx rxs h
  obtain ⟨Z, μ, n, ds, r, μ', rfl, R, r1, r2, e, q⟩ := h
  obtain ⟨d, rfl⟩ : ∃ d, ds = [d] := by
    cases ds with
    | nil => cases e
    | cons d t => cases t with
      | nil => exact ⟨d, rfl⟩
      | cons _ _ => cases e
  obtain ⟨a, ea, rfl⟩ := r1
  obtain ⟨cs, hc, e⟩ := Option.bind_eq_some_iff.mp e
  split at e
  · rename_i hz
    cases e
    obtain ⟨w, t, rfl, rw1, rt⟩ := r2
    have et : t = [] := rt
    subst et
    obtain ⟨ws, q1, q2, q3⟩ := R.cell n a cs ea hc
    refine mt_append pins s σ Z.H _ _ v us Q I rx rxs ⟨a, ws, w, rfl, rfl, q1, by rw [← q2.length, ← LIM_eq]; exact hz, ?_⟩
    exact q .non (Z.lay a (.lst (ws ++ [w]))) (Ext.put R (List.mem_of_getElem? ea)) (R.put ea (q2.append (.one rw1)) (by rw [List.length_append]; exact hz)) rfl
  · cases e
theorem m_pop : MtM X "list.pop" (rM G .pop) := by
  intro pins s σ H x xs v us Q I rx rxs h
  obtain ⟨Z, μ, n, ds, r, μ', rfl, R, r1, r2, e, q⟩ := h
  cases ds with
  | cons d ds => cases e
  | nil =>
    obtain ⟨a, ea, rfl⟩ := r1
    obtain ⟨cs, hc, e⟩ := Option.bind_eq_some_iff.mp e
    obtain ⟨d, hd, e⟩ := Option.map_eq_some_iff.mp e
    cases e
    have et : xs = [] := r2
    subst et
    obtain ⟨ws, q1, q2, q3⟩ := R.cell n a cs ea hc
    obtain ⟨w, w1, w2⟩ := q2.get hd
    refine mt_pop pins s σ Z.H _ _ v us Q I rx rxs ⟨a, ws, w, rfl, rfl, q1, by rw [← q2.length]; exact w1, ?_⟩
    have X := Ext.put (o := .lst ws.dropLast) R (List.mem_of_getElem? ea)
    exact q w (Z.lay a (.lst ws.dropLast)) X (R.put ea q2.dropLast (by rw [List.length_dropLast]; omega)) (RV.ext X R _ _ w2)
theorem m_popi : MtM X "list.pop" (rM G .popi) := by
  intro pins s σ H x xs v us Q I rx rxs h
  obtain ⟨Z, μ, n, ds, r, μ', rfl, R, r1, r2, e, q⟩ := h
  obtain ⟨i, rfl⟩ : ∃ i, ds = [.int i] := by
    cases ds with
    | nil => cases e
    | cons d t => cases t with
      | nil => cases d with
        | int i => exact ⟨i, rfl⟩
        | _ => cases e
      | cons _ _ => cases d <;> cases e
  obtain ⟨a, ea, rfl⟩ := r1
  obtain ⟨cs, hc, e⟩ := Option.bind_eq_some_iff.mp e
  obtain ⟨k, hk, e⟩ := Option.bind_eq_some_iff.mp e
  obtain ⟨d, hd, e⟩ := Option.map_eq_some_iff.mp e
  cases e
  obtain ⟨y, t, rfl, ry, rt⟩ := r2
  have et : t = [] := rt
  subst et
  have ey : y = .int i := ry
  subst ey
  obtain ⟨ws, q1, q2, q3⟩ := R.cell n a cs ea hc
  obtain ⟨w, w1, w2⟩ := q2.get hd
  rw [place_ix, q2.length] at hk
  obtain ⟨s1, s2, s3, s4⟩ := ixN_seq hk
  have hz : (ws.length : Int) ≤ 16777216 := by have := q3; rw [q2.length] at this; unfold LIM at this; omega
  refine mt_popAt pins s σ Z.H _ _ v us Q I rx rxs ⟨a, ws, i, k, w, rfl, rfl, q1, by omega, by omega, s1, w1, ?_⟩
  have X := Ext.put (o := .lst (ws.eraseIdx k)) R (List.mem_of_getElem? ea)
  refine q w (Z.lay a (.lst (ws.eraseIdx k))) X (R.put ea (q2.eraseIdx k) ?_) (RV.ext X R _ _ w2)
  have := List.length_eraseIdx_le cs k
  omega
theorem tyV_ref {Z : Wd} {μ : Mu} {n : Nat} {x : V} (R : Rel G Z μ) (r : RV G Z (.ref n) x) : L2.tyV X.K "list" x Z.H := by
  obtain ⟨a, ea, rfl⟩ := r
  obtain ⟨vs, e⟩ := R.atCell (List.mem_of_getElem? ea)
  exact .inl ⟨rfl, vs, .of e⟩
/-! ### [::-1] -/
theorem p_rev (hK : X.K = G.K) {e : Expr} {te : TE} {k : Nat} {p1 p2 p3 pos : Pos} (he : PE X e te) (hm : ∀ σ H (Q Q' : VK), (∀ x H, Q x H → Q' x H) → te σ H Q → te σ H Q') :
    PE X (.Subscript e (.Slice none none (some (.UnaryOp .USub (.Constant (.int 1) k p1) p2)) p3) pos) (fun σ H Q => te σ H fun x H1 => rO G C .rev [x] H1 Q) := by
  refine pe_mono (pe_revL he) fun σ H Q q => hm σ H _ _ (fun x H1 z => ?_) q
  obtain ⟨Z, μ, ds, pr, e, R, rv, eo, q⟩ := z
  subst e
  obtain ⟨d, rfl, r1⟩ := rv.one_inv
  obtain ⟨xs, hx, e⟩ := Option.map_eq_some_iff.mp (show (litems μ d).map (fun xs => PR.new xs.reverse) = some pr from eo)
  subst e
  obtain ⟨a, vs, rfl, q1, q2, q3⟩ := R.litems hx r1
  exact ⟨a, vs, rfl, by rw [hK]; exact .of q1, q.made R q2.reverse (by rw [List.length_reverse]; exact q3)⟩
/-! ### x.bit_length() -/
/-! ### stores -/
def tSetS (G : Gi) : TSet := fun o i v H Q => ∃ Z μ d k e μ', Z.H = H ∧ Rel G Z μ ∧ RV G Z d o ∧ RV G Z k i ∧ RV G Z e v ∧ subS μ d k e = some μ' ∧ ∀ Z', Ext Z Z' → Rel G Z' μ' → Q Z'.H
theorem s_set : PSet X (tSetS G) := by
  intro pins s σ H o i v ov iv u Q I ro ri rv h
  obtain ⟨Z, μ, d, k, e, μ', rfl, R, r1, r2, r3, es, q⟩ := h
  unfold subS at es
  split at es
  · rename_i n j
    obtain ⟨cs, hc, es⟩ := Option.bind_eq_some_iff.mp es
    obtain ⟨p, hp, es⟩ := Option.map_eq_some_iff.mp es
    subst es
    obtain ⟨a, ea, rfl⟩ := r1
    have ei : i = .int j := r2
    subst ei
    obtain ⟨ws, q1, q2, q3⟩ := R.cell n a cs ea hc
    rw [place_ix, q2.length] at hp
    refine set_list pins s σ Z.H _ _ v ov iv u Q I ro ri rv ⟨a, ws, j, p, rfl, rfl, q1, hp, ?_⟩
    exact q (Z.lay a (.lst (ws.set p v))) (Ext.put R (List.mem_of_getElem? ea)) (R.put ea (RVs.set r3 p q2) (by rw [List.length_set]; exact q3))
  · cases es
end
end PyE
set_option maxRecDepth 100000
set_option maxHeartbeats 4000000
/-! readings, step by step -/
namespace PyE
open PySem PySem.Spec PyProof.Rows L2

section
variable (G : Gi) (W : WX) (σ : L2.St)
/-- what may stand behind a step -/
structure Like {β : Type} (Φ : Wd → Res β → Prop) : Prop where
  base : ∀ Z Z' r, Ext Z Z' → Φ Z r → Φ Z' r
  exc : ∀ Z c d μ, Φ Z (.exc c d μ) → ExP G W σ Z c d μ
  err : ∀ Z, ¬ Φ Z .err
end
section
variable {G : Gi} {W : WX} {σ : L2.St} {Z : Wd} {H : Hp} {ρ : Ro} {μ : Mu}
theorem like_pst {α β : Type} (rel : Wd → α → β → Prop) (Q : β → Hp → Prop) : Like G W σ (fun Z (r : Res α) => Pst G W σ rel Z r Q) := ⟨fun Z Z' r X h => Pst.base h X, fun Z c d μ h => h, fun Z h => h⟩
/-- an operator's result -/
def PstP (G : Gi) (W : WX) (σ : L2.St) (Z : Wd) (r : Res PR) (Q : VK) : Prop := match r with
  | .ok pr μ' => PrP G Z μ' pr Q
  | .exc c d μ' => ExP G W σ Z c d μ'
  | .err => False
theorem PrP.base {Z Z' : Wd} {pr : PR} {Q : VK} (h : PrP G Z μ pr Q) (X : Ext Z Z') : PrP G Z' μ pr Q := by
  cases pr with
  | v d => exact fun v Z2 x R r => h v Z2 (X.trans x) R r
  | new xs => exact fun p vs Z2 x R n r z => h p vs Z2 (X.trans x) R n r z
theorem like_pstP (Q : VK) : Like G W σ (fun Z (r : Res PR) => PstP G W σ Z r Q) := ⟨fun Z Z' r X h => by
  cases r with
  | ok pr μ' => exact PrP.base h X
  | exc c d μ' => exact ExP.base h X
  | err => exact h, fun Z c d μ h => h, fun Z h => h⟩
theorem At.ext {Z Z' : Wd} {μ' : Mu} (A : At G Z H σ ρ μ) (X : Ext Z Z') (R : Rel G Z' μ') : At G Z' Z'.H σ ρ μ' := ⟨rfl, A.se.ext X A.rel, R⟩

/-- a first part, and what follows -/
theorem step {α β γ : Type} {Φ : Wd → Res β → Prop} (L : Like G W σ Φ) {rel : Wd → α → γ → Prop} {r : Res α} {k : α → Mu → Res β} (A : At G Z H σ ρ μ) (h : Φ Z (r.bind k)) {Q : γ → Hp → Prop}
    (hq : ∀ b Z1 μ1 a, At G Z1 Z1.H σ ρ μ1 → Ext Z Z1 → rel Z1 a b → Φ Z1 (k a μ1) → Q b Z1.H) : Pst G W σ rel Z r Q := by
  cases r with
  | ok a μ1 => exact fun b Z2 x R q => hq b Z2 μ1 a (A.ext x R) x q (L.base _ _ _ x h)
  | exc c d μ1 => exact L.exc _ _ _ _ h
  | err => exact L.err _ h
theorem step_lift {α β : Type} {Φ : Wd → Res β → Prop} (L : Like G W σ Φ) {o : Option α} {k : α → Mu → Res β} (h : Φ Z ((PyE.lift o μ).bind k)) : ∃ a, o = some a ∧ Φ Z (k a μ) := by
  cases o with
  | none => exact False.elim (L.err _ h)
  | some a => exact ⟨a, rfl, h⟩
theorem bind_bind {α β γ : Type} (r : Res α) (f : α → Mu → Res β) (g : β → Mu → Res γ) : (r.bind f).bind g = r.bind fun a μ => (f a μ).bind g := by cases r <;> rfl
variable {C : Cfg} {cl : Cl}
theorem eA1 {β : Type} (a : CE) (F : List D → Mu → Res β) : (eA C cl (.cons a .nil) ρ μ).bind F = (eE C cl a ρ μ).bind fun d μ1 => F [d] μ1 := by
  show ((eE C cl a ρ μ).bind fun d μ1 => (Res.ok [] μ1).bind fun ds μ2 => .ok (d :: ds) μ2).bind F = _
  rw [bind_bind]; rfl
theorem eA2 {β : Type} (a b : CE) (F : List D → Mu → Res β) : (eA C cl (.cons a (.cons b .nil)) ρ μ).bind F = (eE C cl a ρ μ).bind fun d μ1 => (eE C cl b ρ μ1).bind fun e μ2 => F [d, e] μ2 := by
  show ((eE C cl a ρ μ).bind fun d μ1 => (eA C cl (.cons b .nil) ρ μ1).bind fun ds μ2 => .ok (d :: ds) μ2).bind F = _
  rw [bind_bind]
  congr 1
  funext d μ1
  rw [eA1, bind_bind]; rfl
theorem eA3 {β : Type} (a b c : CE) (F : List D → Mu → Res β) : (eA C cl (.cons a (.cons b (.cons c .nil))) ρ μ).bind F = (eE C cl a ρ μ).bind fun d μ1 => (eE C cl b ρ μ1).bind fun e μ2 => (eE C cl c ρ μ2).bind fun f μ3 => F [d, e, f] μ3 := by
  show ((eE C cl a ρ μ).bind fun d μ1 => (eA C cl (.cons b (.cons c .nil)) ρ μ1).bind fun ds μ2 => .ok (d :: ds) μ2).bind F = _
  rw [bind_bind]
  congr 1
  funext d μ1
  rw [eA2, bind_bind]
  congr 1
  funext e μ2
  rw [bind_bind]; rfl
end

/-! ### an operator: its items, then it -/
noncomputable def eO (C : Cfg) (cl : Cl) (o : Op) (es : CE) (ρ : Ro) (μ : Mu) : Res PR := (eA C cl es ρ μ).bind fun vs μ1 => lift (opS C μ1 o vs) μ1
def tP (G : Gi) (W : WX) (m : Ro → Mu → Res PR) : TE := fun σ H Q => ∃ Z ρ μ, At G Z H σ ρ μ ∧ PstP G W σ Z (m ρ μ) Q
section
variable {G : Gi} {W : WX} {σ : L2.St} {Z : Wd} {H : Hp} {ρ : Ro} {μ : Mu} {C : Cfg} {cl : Cl}
theorem pst_lift {o : Option PR} {Q : VK} (h : PstP G W σ Z (lift o μ) Q) : ∃ pr, o = some pr ∧ PrP G Z μ pr Q := by
  cases o with
  | none => exact False.elim h
  | some pr => exact ⟨pr, rfl, h⟩
theorem op1 {o : Op} {a : CE} {Q : VK} (h : tP G W (eO C cl o (.cons a .nil)) σ H Q) : tE G W (eE C cl a) σ H fun x H1 => rO G C o [x] H1 Q := by
  obtain ⟨Z, ρ, μ, A, h⟩ := h
  unfold eO at h
  rw [eA1] at h
  refine ⟨Z, ρ, μ, A, step (like_pstP Q) A h fun x Z1 μ1 d A1 X1 r1 h1 => ?_⟩
  obtain ⟨pr, e, q⟩ := pst_lift h1
  exact ⟨Z1, μ1, [d], pr, rfl, A1.rel, .one r1, e, q⟩
theorem op2 {o : Op} {a b : CE} {Q : VK} (h : tP G W (eO C cl o (.cons a (.cons b .nil))) σ H Q) : tE G W (eE C cl a) σ H fun x H1 => tE G W (eE C cl b) σ H1 fun y H2 => rO G C o [x, y] H2 Q := by
  obtain ⟨Z, ρ, μ, A, h⟩ := h
  unfold eO at h
  rw [eA2] at h
  refine ⟨Z, ρ, μ, A, step (like_pstP Q) A h fun x Z1 μ1 d A1 X1 r1 h1 => ⟨Z1, ρ, μ1, A1, step (like_pstP Q) A1 h1 fun y Z2 μ2 e A2 X2 r2 h2 => ?_⟩⟩
  obtain ⟨pr, eo, q⟩ := pst_lift h2
  exact ⟨Z2, μ2, [d, e], pr, rfl, A2.rel, ⟨x, _, rfl, RV.ext X2 A1.rel _ _ r1, .one r2⟩, eo, q⟩
theorem opA {o : Op} {es : CE} {Q : VK} (h : tP G W (eO C cl o es) σ H Q) : tA G W (eA C cl es) σ H fun vs H1 => rO G C o vs H1 Q := by
  obtain ⟨Z, ρ, μ, A, h⟩ := h
  refine ⟨Z, ρ, μ, A, step (like_pstP Q) A h fun x Z1 μ1 d A1 X1 r1 h1 => ?_⟩
  obtain ⟨pr, e, q⟩ := pst_lift h1
  exact ⟨Z1, μ1, d, pr, rfl, A1.rel, r1, e, q⟩

/-- a frozen list just laid -/
theorem froze {Z : Wd} {μ : Mu} {p : Addr} {xs : List D} {vs : List V} (R : Rel G Z μ) (hp : Z.H p = none) (r : RVs G Z xs vs) (z : xs.length ≤ LIM) :
    ∃ Z', Z'.H = upd Z.H p (.lst vs) ∧ Ext Z Z' ∧ Rel G Z' μ ∧ RV G Z' (.lst xs) (.ref p) := by
  have hpth : p ∉ Z.th := fun q => by
    obtain ⟨ws, e⟩ := R.atCell q
    rw [hp] at e; cases e
  let Z' : Wd := ⟨Z.th, fun a => Z.S a ∨ a = p, upd Z.H p (.lst vs)⟩
  have X : Ext Z Z' := ⟨List.prefix_refl _, fun _ q => .inl q, fun _ q => .inl q, fun a q => q.elim .inl fun e => .inr (by rw [e]; exact hp), fun a u q _ => by
      show upd Z.H p _ a = some u
      rw [upd_ne (ne_of_none q hp)]; exact q, fun a q => by
      have q' : upd Z.H p (.lst vs) a = none := q
      by_cases e : a = p
      · rw [e]; exact hp
      · rw [upd_ne e] at q'; exact q'⟩
  refine ⟨Z', rfl, X, ⟨R.len, R.nd, fun n a ds h1 h2 => ?_, fun a q => q.elim (R.sep a) fun e => by rw [e]; exact hpth, fun a q z => q.elim (fun q => R.has a q (X.dom a z)) fun e => by
    have z' : upd Z.H p (.lst vs) a = none := z
    rw [e, upd_same] at z'; cases z'⟩, ?_⟩
  · obtain ⟨ws, e, q, z⟩ := R.cell n a ds h1 h2
    refine ⟨ws, ?_, RVs.ext X R ds ws q, z⟩
    show upd Z.H p _ a = _
    rw [upd_ne (ne_of_none e hp)]; exact e
  · exact ⟨p, vs, rfl, .inr rfl, upd_same, z, RVs.ext X R xs vs r⟩
/-- a cell just laid -/
theorem celled {Z : Wd} {μ : Mu} {p : Addr} {xs : List D} {vs : List V} (R : Rel G Z μ) (hp : Z.H p = none) (r : RVs G Z xs vs) (z : xs.length ≤ LIM) :
    ∃ Z', Z'.H = upd Z.H p (.lst vs) ∧ Ext Z Z' ∧ Rel G Z' (μ ++ [xs]) ∧ RV G Z' (.ref μ.length) (.ref p) := by
  have hpth : p ∉ Z.th := fun q => by
    obtain ⟨ws, e⟩ := R.atCell q
    rw [hp] at e; cases e
  let Z' : Wd := ⟨Z.th ++ [p], Z.S, upd Z.H p (.lst vs)⟩
  have X : Ext Z Z' := ⟨List.prefix_append _ _, fun a q => by
      rcases List.mem_append.mp q with q | q
      · exact .inl q
      · rw [List.mem_singleton.mp q]; exact .inr hp, fun _ q => q, fun a q => .inl q, fun a u q _ => by
      show upd Z.H p _ a = some u
      rw [upd_ne (ne_of_none q hp)]; exact q, fun a q => by
      have q' : upd Z.H p (.lst vs) a = none := q
      by_cases e : a = p
      · rw [e]; exact hp
      · rw [upd_ne e] at q'; exact q'⟩
  have hl := R.len
  refine ⟨Z', rfl, X, ⟨by show (Z.th ++ [p]).length = _; rw [List.length_append, List.length_append, hl]; rfl, ?_, fun n a ds h1 h2 => ?_, fun a q hm => ?_, fun a q z => R.has a q (X.dom a z)⟩, ?_⟩
  · exact List.nodup_append.mpr ⟨R.nd, List.nodup_cons.mpr ⟨by simp, List.nodup_nil⟩, fun a ha b hb e => hpth (by rw [List.mem_singleton.mp hb] at e; rw [← e]; exact ha)⟩
  · have h1' : (Z.th ++ [p])[n]? = some a := h1
    by_cases hn : n < Z.th.length
    · rw [List.getElem?_append_left hn] at h1'
      rw [List.getElem?_append_left (by rw [← hl]; exact hn)] at h2
      obtain ⟨ws, e, q, z⟩ := R.cell n a ds h1' h2
      refine ⟨ws, ?_, RVs.ext X R ds ws q, z⟩
      show upd Z.H p _ a = _
      rw [upd_ne (ne_of_none e hp)]; exact e
    · rw [List.getElem?_append_right (by omega)] at h1'
      rw [List.getElem?_append_right (by omega)] at h2
      have hn' : n - Z.th.length = 0 := by
        have := (List.getElem?_eq_some_iff.mp h1').1
        simp at this; omega
      rw [hn'] at h1'
      rw [← hl, hn'] at h2
      have e1 : p = a := by simpa using h1'
      have e2 : xs = ds := by simpa using h2
      subst e1 e2
      exact ⟨vs, upd_same, RVs.ext X R xs vs r, z⟩
  · rcases List.mem_append.mp hm with q' | q'
    · exact R.sep a q q'
    · rw [List.mem_singleton.mp q'] at q
      exact R.has p q hp
  · refine ⟨p, ?_, rfl⟩
    show (Z.th ++ [p])[μ.length]? = some p
    rw [List.getElem?_append_right (by omega), hl]; simp
end
end PyE
set_option maxRecDepth 100000
set_option maxHeartbeats 4000000
/-! does the program's text say what the own text says? A test, by computation. -/
namespace PyE
open PySem PySem.Spec PyProof.Rows L2

/-- what a global name stands for -/
inductive GK where
  | fn (f : Fid) | cls (c : Fid) | con (d : D) | blt
structure Tb where
  gl : List (Str × GK)
  ps : Fid → Nat
  kw : List (Fid × Nat × List Str × List Nat) := []
/-- the surroundings of an expression: the slots' names, the scope, which cells are one's own -/
structure En where
  N : List Str
  sc : Scope
  fn : Str → Bool

mutual
def eqD1 : D → D → Bool
  | .none, .none => true
  | .bl a, .bl b => decide (a = b)
  | .int a, .int b => decide (a = b)
  | .str a, .str b => decide (a = b)
  | .tup a, .tup b => eqDs a b
  | _, _ => false
def eqDs : List D → List D → Bool
  | [], [] => true
  | a :: r, b :: s => eqD1 a b && eqDs r s
  | _, _ => false
end
mutual
theorem eqD1_eq : ∀ (a b : D), eqD1 a b = true → a = b
  | .none, b, h => by cases b <;> first | rfl | cases h
  | .bl x, b, h => by
    cases b <;> first | cases h | skip
    rename_i y
    rw [show x = y from of_decide_eq_true h]
  | .int x, b, h => by
    cases b <;> first | cases h | skip
    rename_i y
    rw [show x = y from of_decide_eq_true h]
  | .str x, b, h => by
    cases b <;> first | cases h | skip
    rename_i y
    rw [show x = y from of_decide_eq_true h]
  | .tup xs, b, h => by
    cases b <;> first | cases h | skip
    rename_i ys
    rw [eqDs_eq xs ys h]
  | .lst _, b, h => by cases b <;> cases h
  | .ref _, b, h => by cases b <;> cases h
  | .fn _, b, h => by cases b <;> cases h
  | .dct, b, h => by cases b <;> cases h
  | .exc _ _, b, h => by cases b <;> cases h
  | .scr _, b, h => by cases b <;> cases h
theorem eqDs_eq : ∀ (a b : List D), eqDs a b = true → a = b
  | [], b, h => by cases b <;> first | rfl | cases h
  | x :: xs, b, h => by
    cases b with
    | nil => cases h
    | cons y ys =>
      have h' : (eqD1 x y && eqDs xs ys) = true := h
      rw [Bool.and_eq_true] at h'
      rw [eqD1_eq x y h'.1, eqDs_eq xs ys h'.2]
end

section
variable (T : Tb) (n : En)
def isGl (x : Str) : Bool := (match n.sc.names.lookup x with | some .globalImplicit => true | _ => false) && decide (x ≠ "__debug__") && decide (x ≠ "__name__")
def isBlt (x : Str) : Bool := isGl n x && (match T.gl.lookup x with | some .blt => true | _ => false)
def isFnN (x : Str) (f : Fid) : Bool := isGl n x && (match T.gl.lookup x with | some (.fn g) => decide (g = f) | _ => false)
def isClsN (x : Str) (c : Fid) : Bool := isGl n x && (match T.gl.lookup x with | some (.cls g) => decide (g = c) | _ => false)
def isConN (x : Str) (d : D) : Bool := isGl n x && (match T.gl.lookup x with | some (.con e) => eqD1 d e | _ => false)
def isVar (x : Str) (i : Nat) : Bool := decide (n.N[i]? = some x) && (match n.sc.names.lookup x with | some .local => true | some .cell => true | some .free => true | _ => false) && decide (x ≠ "__debug__") && decide (x ≠ "__classdict__")
/-- a name that may be assigned -/
def isTo (x : Str) (i : Nat) : Bool := decide (n.N[i]? = some x) && (match n.sc.names.lookup x with | some .local => true | some .cell => n.fn x | _ => false)
def notStar : Expr → Bool
  | .Starred _ _ => false
  | _ => true
def noSet : Expr → Bool
  | .Set _ _ _ => false
  | _ => true
def noSlice : Expr → Bool
  | .Slice _ _ _ _ => false
  | _ => true
/-- no super() -/
def plainBase : Expr → Bool
  | .Call (.Name id _) [] [] _ => decide (id ≠ "super")
  | _ => true
def callB (id : Str) : Expr → Option (List Expr)
  | .Call (.Name x _) es [] _ => if x = id ∧ isBlt T n x = true ∧ es.all notStar = true then some es else none
  | _ => none
def callM (id : Str) : Expr → Option (Expr × List Expr)
  | .Call (.Attribute o m apos) es [] pos => if m = id ∧ es.all notStar = true ∧ plainBase o = true ∧ apos.endLine = pos.line ∧ es.length < 5 then some (o, es) else none
  | _ => none
def binA (op : Operator) : Expr → Option (List Expr)
  | .BinOp a o b _ => if o = op then some [a, b] else none
  | _ => none
def cmpA (op : CmpOp) : Expr → Option (List Expr)
  | .Compare a [o] [b] _ => if o = op ∧ noSet b = true then some [a, b] else none
  | _ => none
def cmpN (op : CmpOp) : Expr → Option (List Expr)
  | .Compare a [o] [.Constant .none _ _] _ => if o = op then some [a] else none
  | _ => none
def tyName : Ty → Option Str
  | .tint => some "int" | .tbool => some "bool" | .tstr => some "str" | .tlist => some "list" | .ttuple => some "tuple" | .tdict => some "dict" | .tval => some "ValueError"
  | .tcls _ => none
def isTyN (x : Str) (t : Ty) : Bool := match t with
  | .tcls c => isClsN T n x c
  | t => (match tyName t with | some y => decide (x = y) | none => false) && isBlt T n x
def tysN : List Expr → List Ty → Bool
  | [], [] => true
  | .Name x _ :: es, t :: ts => isTyN T n x t && tysN es ts
  | _, _ => false
def tyArg : Expr → List Ty → Bool
  | .Name x _, [t] => isTyN T n x t
  | .Tuple es _ _, ts => tysN T n es ts && !ts.isEmpty && decide (ts.length < 100)
  | _, _ => false
def negA : Expr → Option (List Expr)
  | .UnaryOp .USub a _ => some [a]
  | _ => none
def isbA (b : Bool) : Expr → Option (List Expr)
  | .Compare a [.Is] [.Constant (.bool c) _ _] _ => if b = c then some [a] else none
  | _ => none
def idxA : Expr → Option (List Expr)
  | .Subscript a b _ => if noSlice b = true then some [a, b] else none
  | _ => none
def slc00 : Expr → Option (List Expr)
  | .Subscript a (.Slice none none none _) _ => some [a]
  | _ => none
def slc10 : Expr → Option (List Expr)
  | .Subscript a (.Slice (some b) none none _) _ => some [a, b]
  | _ => none
def slc01 : Expr → Option (List Expr)
  | .Subscript a (.Slice none (some c) none _) _ => some [a, c]
  | _ => none
def slc11 : Expr → Option (List Expr)
  | .Subscript a (.Slice (some b) (some c) none _) _ => some [a, b, c]
  | _ => none
def revA : Expr → Option (List Expr)
  | .Subscript a (.Slice none none (some (.UnaryOp .USub (.Constant (.int 1) _ _) _)) _) _ => some [a]
  | _ => none
def isiA (ts : List Ty) (x : Expr) : Option (List Expr) := match callB T n "isinstance" x with
  | some [a, t] => if tyArg T n t ts = true then some [a] else none
  | _ => none
def tupA : Expr → Option (List Expr)
  | .Tuple es _ _ => if es.all notStar = true ∧ es.length ≤ 10000 then some es else none
  | _ => none
def lstA : Expr → Option (List Expr)
  | .List es _ => if es.all notStar = true ∧ es.length ≤ 10000 then some es else none
  | _ => none
def attrA : Expr → Option (List Expr)
  | .Attribute a m _ => if m = "value" ∧ plainBase a = true then some [a] else none
  | _ => none
def bitA (x : Expr) : Option (List Expr) := match callM "bit_length" x with
  | some (a, []) => some [a]
  | _ => none
/-- a call of so many items -/
def callN (k : Nat) (id : Str) (x : Expr) : Option (List Expr) := match callB T n id x with
  | some xs => if xs.length = k then some xs else none
  | none => none
/-- list(range(a)) -/
def lrA (x : Expr) : Option (List Expr) := match callN T n 1 "list" x with
  | some [y] => callN T n 1 "range" y
  | _ => none
/-- an operator's operands in an expression -/
def opArgs (o : Op) (x : Expr) : Option (List Expr) := match o with
  | .add => binA .Add x
  | .sub => binA .Sub x
  | .mul => binA .Mult x
  | .fdiv => binA .FloorDiv x
  | .mod => binA .Mod x
  | .pow => binA .Pow x
  | .neg => negA x
  | .eq => cmpA .Eq x
  | .ne => cmpA .NotEq x
  | .lt => cmpA .Lt x
  | .le => cmpA .LtE x
  | .gt => cmpA .Gt x
  | .ge => cmpA .GtE x
  | .isn => cmpN .Is x
  | .notn => cmpN .IsNot x
  | .isb b => isbA b x
  | .in_ => cmpA .In x
  | .notin => cmpA .NotIn x
  | .idx => idxA x
  | .slc false false => slc00 x
  | .slc true false => slc10 x
  | .slc false true => slc01 x
  | .rev => revA x
  | .len => callN T n 1 "len" x
  | .abs => callN T n 1 "abs" x
  | .int_ => callN T n 1 "int" x
  | .bool_ => callN T n 1 "bool" x
  | .repr => callN T n 1 "repr" x
  | .max2 => callN T n 2 "max" x
  | .min2 => callN T n 2 "min" x
  | .sum1 => callN T n 1 "sum" x
  | .sum2 => callN T n 2 "sum" x
  | .sorted => callN T n 1 "sorted" x
  | .all => callN T n 1 "all" x
  | .any => callN T n 1 "any" x
  | .list => callN T n 1 "list" x
  | .tuple => callN T n 1 "tuple" x
  | .isi ts => isiA T n ts x
  | .lrange => lrA T n x
  | .tup => tupA x
  | .lst => lstA x
  | .attr => attrA x
  | .bitlen => bitA x
  | _ => none
def mop1 (id : Str) (x : Expr) : Option (Expr × List Expr) := match callM id x with
  | some (o, [a]) => some (o, [a])
  | _ => none
def mop0 (id : Str) (x : Expr) : Option (Expr × List Expr) := match callM id x with
  | some (o, []) => some (o, [])
  | _ => none
def mopArgs (m : MOp) (x : Expr) : Option (Expr × List Expr) := match m with
  | .append => mop1 "append" x
  | .pop => mop0 "pop" x
  | .popi => mop1 "pop" x
  | .insert => none
def isCon (d : D) (x : Expr) : Bool := match x with
  | .Constant c _ _ => (match d, c with
    | .none, .none => true
    | .bl b, .bool c => decide (b = c)
    | .int i, .int j => decide (i = j)
    | .str s, .str t => decide (s = t)
    | _, _ => false)
  | .Name x _ => isConN T n x d
  | .Dict [] [] _ => (match d with | .dct => true | _ => false)
  | _ => false
def isTos : List Expr → List Nat → Bool
  | [], [] => true
  | .Name x _ :: es, i :: is => isTo n x i && isTos es is
  | _, _ => false
def ckT (t : Tg) (x : Expr) : Bool := match t, x with
  | .nm i, .Name x _ => isTo n x i
  | .tp l, .Tuple es _ _ => isTos n es l
  | _, _ => false
/-- a call's items: by place, then by name -/
def callA (f : Fid) (perm : List Nat) (x : Expr) : Option (List Expr) := match x with
  | .Call (.Name y _) es [] _ => if isFnN T n y f = true ∧ es.all notStar = true ∧ perm = List.range es.length ∧ T.ps f = es.length then some es else none
  | _ => none
def noCallee : Expr → Bool
  | .Subscript _ b _ => noSlice b
  | _ => false
def callvA : Expr → Option (Expr × List Expr)
  | .Call f es [] _ => if noCallee f = true ∧ es.all notStar = true ∧ es ≠ [] ∧ es.length < 5 then some (f, es) else none
  | _ => none
def ownOf (N : List Str) (l : List Nat) : List (Str × Nat) := l.map fun i => ((N[i]?).getD "", i)
def En.blk (scope : Scope) : En := ⟨n.N, relS scope n.sc, fun x => scope.names.lookup x == some .cell⟩
def isTpl : Expr → Bool
  | .Tuple _ _ _ => true
  | _ => false
end
def isCmp : Expr → Bool
  | .Compare _ _ _ _ => true
  | _ => false
def chainOp : Op → CmpOp → Bool
  | .lt, .Lt => true
  | .le, .LtE => true
  | _, _ => false
variable (T : Tb)
mutual
def ckE (c : CE) (n : En) (x : Expr) : Bool := match c with
  | .con d => isCon T n d x
  | .v i => (match x with | .Name y _ => isVar n y i | _ => false)
  | .fnv f => (match x with | .Name y _ => isFnN T n y f | _ => false)
  | .op o es => (match opArgs T n o x with | some xs => ckA es n xs | none => false)
  | .mop m o es => (match mopArgs m x with | some (y, xs) => ckE o n y && ckA es n xs | none => false)
  | .not_ a => (match x with | .UnaryOp .Not y _ => ckE a n y | _ => false)
  | .and_ a b => (match x with
    | .BoolOp .And [y, z] _ => ckE a n y && ckE b n z
    | .BoolOp .And (y :: z :: w :: r) p => ckE a n y && ckE b n (.BoolOp .And (z :: w :: r) p)
    | _ => false)
  | .or_ a b => (match x with
    | .BoolOp .Or [y, z] _ => ckE a n y && ckE b n z
    | .BoolOp .Or (y :: z :: w :: r) p => ckE a n y && ckE b n (.BoolOp .Or (z :: w :: r) p)
    | _ => false)
  | .chain o1 o2 a b c => (match x with
    | .Compare y [p1, p2] [z, w] _ => chainOp o1 p1 && chainOp o2 p2 && noSet z && noSet w && ckE a n y && ckE b n z && ckE c n w
    | _ => false)
  | .ite t a b => (match x with | .IfExp y z w _ => ckE t n y && ckE a n z && ckE b n w | _ => false)
  | .cell (.op o es) => !isCmp x && (match opArgs T n o x with | some xs => ckA es n xs | none => false)
  | .cell (.comp t it c e) => (match x with
    | .ListComp elt [⟨tg, iter, ifs, 0⟩] scope _ => ckI it n tg iter && noSet iter && blkC n.N n.sc scope (ownOf n.N t.slots) && ckT (n.blk scope) t tg && ckC c (n.blk scope) ifs && ckE e (n.blk scope) elt
    | _ => false)
  | .cell (.comp2 t it t1 it1 c e) => (match x with
    | .ListComp elt [⟨tg, iter, [], 0⟩, ⟨tg1, iter1, ifs, 0⟩] scope _ => ckI it n tg iter && noSet iter && noSet iter1 && blkC n.N n.sc scope (ownOf n.N (t.slots ++ t1.slots)) && ckT (n.blk scope) t tg && ckI it1 (n.blk scope) tg1 iter1 && ckT (n.blk scope) t1 tg1 && ckC c (n.blk scope) ifs && ckE e (n.blk scope) elt
    | _ => false)
  | .comp t it c e => (match x with
    | .ListComp elt [⟨tg, iter, ifs, 0⟩] scope _ => ckI it n tg iter && noSet iter && blkC n.N n.sc scope (ownOf n.N t.slots) && ckT (n.blk scope) t tg && ckC c (n.blk scope) ifs && ckE e (n.blk scope) elt
    | _ => false)
  | .comp2 t it t1 it1 c e => (match x with
    | .ListComp elt [⟨tg, iter, [], 0⟩, ⟨tg1, iter1, ifs, 0⟩] scope _ => ckI it n tg iter && noSet iter && noSet iter1 && blkC n.N n.sc scope (ownOf n.N (t.slots ++ t1.slots)) && ckT (n.blk scope) t tg && ckI it1 (n.blk scope) tg1 iter1 && ckT (n.blk scope) t1 tg1 && ckC c (n.blk scope) ifs && ckE e (n.blk scope) elt
    | _ => false)
  | .call f perm es => (match callA T n f perm x with | some xs => ckA es n xs | none => false)
  | .callv g es => (match callvA x with | some (y, xs) => ckE g n y && ckA es n xs | none => false)
  | _ => false
def ckA (c : CE) (n : En) (xs : List Expr) : Bool := match c with
  | .nil => xs.isEmpty
  | .cons e es => (match xs with | x :: r => notStar x && ckE e n x && ckA es n r | [] => false)
  | _ => false
def ckC (c : CE) (n : En) (xs : List Expr) : Bool := match c with
  | .nil => xs.isEmpty
  | .cons e .nil => (match xs with | [x] => ckE e n x | _ => false)
  | _ => false
def ckI (c : CE) (n : En) (tg : Expr) (x : Expr) : Bool := match c with
  | .iseq a => ckE a n x
  | .irng1 a => (match callB T n "range" x with | some [y] => ckE a n y | _ => false)
  | .irng2 a b => (match callB T n "range" x with | some [y, z] => ckE a n y && ckE b n z | _ => false)
  | .izip false a b => isTpl tg && (match callB T n "zip" x with | some [y, z] => ckE a n y && ckE b n z | _ => false)
  | .izip true a b => isTpl tg && (match x with
    | .Call (.Name w _) [y, z] [⟨some k, .Constant (.bool true) _ _, _⟩] _ => decide (w = "zip") && isBlt T n w && decide (k = "strict") && notStar y && notStar z && ckE a n y && ckE b n z
    | _ => false)
  | .ienum a => isTpl tg && (match callB T n "enumerate" x with | some [y] => ckE a n y | _ => false)
  | _ => false
end
end PyE
set_option maxRecDepth 100000
set_option maxHeartbeats 4000000
/-! where an expression stands; the operators' rules by the test -/
namespace PyE
open PySem PySem.Spec PyProof.Rows L2

/-- the names of the table are what it says -/
structure TbOk (G : Gi) (T : Tb) : Prop where
  fn : ∀ x f, T.gl.lookup x = some (.fn f) → G.mg x = some (.ref (G.fa f)) ∧ G.kf f = true
  keep : ∀ f, G.kf f = true → PySem.W.keepIn G.K (.ref (G.fa f)) = true
  con : ∀ x d, T.gl.lookup x = some (.con d) → ∃ v u, G.mg x = some u ∧ RelV v u ∧ ∀ Z, RV G Z d v
  cls : ∀ x c, T.gl.lookup x = some (.cls c) → G.mg x = some (.ref (G.ca c)) ∧ G.kc c = true
  blt : ∀ x, T.gl.lookup x = some .blt → G.mg x = none
/-- a function's promise, by what it computes -/
def spOf (G : Gi) (ps : Nat) (m : List D → Mu → Res D) : Sp := fun vs H Q E => vs.length = ps ∧ ∃ Z μ ds, Z.H = H ∧ Rel G Z μ ∧ RVs G Z ds vs ∧ Pst G (fun c d _ H => E c d H) [] (RV G) Z (m ds μ) Q
structure FnG (G : Gi) (fd : FuncData) (ps : List Str) (k : Nat) (f : Addr) (sp : Sp) : Prop where
  bind : ∀ (s : Shared) (us : List Value), G.K.In s.heap → us.length = ps.length → BindsTo s fd ⟨us, []⟩ (ps.zip us)
  run : ∀ (A : Around) (outer : List Env) (s : Shared) (H : Hp) (args : Args) (us : List Value) (vs : List V) (Q : VK) (E : XK), A.guards = some [] → Room k A → Env0 G.P G.w G.K G.mg G.base A outer s H → BindsTo s fd args (ps.zip us) → Vals vs us → sp vs H Q E →
    codeAny (model G.P G.w) A (.call (.ref f) args) (CR (CX G.P G.w) outer G.P G.w H s Q E) s
/-- a known function: its text, its promise -/
structure FnK (G : Gi) (T : Tb) (cl : Cl) (k : Nat) (f : Fid) : Prop where
  ex : ∃ fd ps, ps.length = T.ps f ∧ FnG G fd ps k (G.fa f) (spOf G (T.ps f) (cl f))
  ar : ∀ ds μ, cl f ds μ ≠ .err → ds.length = T.ps f
/-- the whole surroundings -/
structure Wk (G : Gi) (C : Cfg) (T : Tb) (cl : Cl) (k : Nat) : Prop where
  tb : TbOk G T
  gf : GF G C
  sys : SysK G.K
  fn : ∀ f, G.kf f = true → FnK G T cl k f
/-- an expression's surroundings -/
structure CxE (G : Gi) (C : Cfg) (T : Tb) (cl : Cl) (n : En) (W : WX) (k : Nat) (X : Cx) : Prop where
  wk : Wk G C T cl k
  prog : X.prog = G.P
  w : X.w = G.w
  K : X.K = G.K
  mg : X.mg = G.mg
  base : X.base = G.base
  calm : X.calm = true
  N : X.N = n.N
  nd : n.N.Nodup
  sc : X.env.scope = n.sc
  fn : X.fn = n.fn
  room : Room k X.A
  gd : X.A.guards = some []
  tk : Takes X W
section
variable {G : Gi} {C : Cfg} {T : Tb} {cl : Cl} {n : En} {W : WX} {k : Nat} {X : Cx}
theorem CxE.gl (c : CxE G C T cl n W k X) {x : Str} (h : isGl n x = true) : Gl X x ∧ (x == ("__debug__" : Str)) = false ∧ x ≠ "__name__" := by
  unfold isGl at h
  rw [Bool.and_eq_true, Bool.and_eq_true] at h
  obtain ⟨⟨h1, h2⟩, h3⟩ := h
  refine ⟨?_, beq_eq_false_iff_ne.mpr (of_decide_eq_true h2), of_decide_eq_true h3⟩
  unfold Gl Env.kindOf
  rw [c.sc]
  split at h1
  · assumption
  · cases h1
theorem CxE.blt (c : CxE G C T cl n W k X) {x : Str} (h : isBlt T n x = true) : Gl X x ∧ (x == ("__debug__" : Str)) = false ∧ x ≠ "__name__" ∧ X.mg x = none := by
  unfold isBlt at h
  rw [Bool.and_eq_true] at h
  obtain ⟨q1, q2, q3⟩ := c.gl h.1
  refine ⟨q1, q2, q3, ?_⟩
  have h2 := h.2
  split at h2
  · rw [c.mg]; exact c.wk.tb.blt _ (by assumption)
  · cases h2
theorem CxE.fnN (c : CxE G C T cl n W k X) {x : Str} {f : Fid} (h : isFnN T n x f = true) : Gl X x ∧ (x == ("__debug__" : Str)) = false ∧ X.mg x = some (.ref (G.fa f)) ∧ PySem.W.keepIn X.K (.ref (G.fa f)) = true ∧ FnK G T cl k f ∧ G.kf f = true := by
  unfold isFnN at h
  rw [Bool.and_eq_true] at h
  obtain ⟨q1, q2, q3⟩ := c.gl h.1
  have h2 := h.2
  split at h2
  · rename_i g e
    have eg : g = f := of_decide_eq_true h2
    subst eg
    obtain ⟨z1, z2⟩ := c.wk.tb.fn _ _ e
    exact ⟨q1, q2, by rw [c.mg]; exact z1, by rw [c.K]; exact c.wk.tb.keep _ z2, c.wk.fn _ z2, z2⟩
  · cases h2
theorem CxE.clsN (c : CxE G C T cl n W k X) {x : Str} {f : Fid} (h : isClsN T n x f = true) : Gl X x ∧ (x == ("__debug__" : Str)) = false ∧ X.mg x = some (.ref (G.ca f)) ∧ G.kc f = true := by
  unfold isClsN at h
  rw [Bool.and_eq_true] at h
  obtain ⟨q1, q2, q3⟩ := c.gl h.1
  have h2 := h.2
  split at h2
  · rename_i g e
    have eg : g = f := of_decide_eq_true h2
    subst eg
    obtain ⟨z1, z2⟩ := c.wk.tb.cls _ _ e
    exact ⟨q1, q2, by rw [c.mg]; exact z1, z2⟩
  · cases h2
theorem CxE.conN (c : CxE G C T cl n W k X) {x : Str} {d : D} (h : isConN T n x d = true) : Gl X x ∧ (x == ("__debug__" : Str)) = false ∧ ∃ v u, X.mg x = some u ∧ RelV v u ∧ ∀ Z, RV G Z d v := by
  unfold isConN at h
  rw [Bool.and_eq_true] at h
  obtain ⟨q1, q2, q3⟩ := c.gl h.1
  have h2 := h.2
  split at h2
  · rename_i g e
    have eg := eqD1_eq _ _ h2
    subst eg
    obtain ⟨v, u, z1, z2, z3⟩ := c.wk.tb.con _ _ e
    exact ⟨q1, q2, v, u, by rw [c.mg]; exact z1, z2, z3⟩
  · cases h2
theorem CxE.var (c : CxE G C T cl n W k X) {x : Str} {i : Nat} (h : isVar n x i = true) : X.N[i]? = some x ∧ Vis X.env.scope x ∧ (x == ("__debug__" : Str)) = false ∧ (x == ("__classdict__" : Str)) = false := by
  unfold isVar at h
  simp only [Bool.and_eq_true] at h
  obtain ⟨⟨⟨h1, h2⟩, h3⟩, h4⟩ := h
  refine ⟨by rw [c.N]; exact of_decide_eq_true h1, ?_, beq_eq_false_iff_ne.mpr (of_decide_eq_true h3), beq_eq_false_iff_ne.mpr (of_decide_eq_true h4)⟩
  unfold Vis
  rw [c.sc]
  split at h2
  · exact .inl (by assumption)
  · exact .inr (.inl (by assumption))
  · exact .inr (.inr (by assumption))
  · cases h2
theorem CxE.to (c : CxE G C T cl n W k X) {x : Str} {i : Nat} (h : isTo n x i = true) : X.N[i]? = some x ∧ Loc X.env.scope x ∧ (X.fn x = true ∨ X.env.scope.names.lookup x = some .local) := by
  unfold isTo at h
  rw [Bool.and_eq_true] at h
  refine ⟨by rw [c.N]; exact of_decide_eq_true h.1, ?_⟩
  have h2 := h.2
  unfold L2.Loc
  rw [c.sc, c.fn]
  split at h2
  · rename_i e
    exact ⟨.inl e, .inr e⟩
  · rename_i e
    exact ⟨.inr e, .inl h2⟩
  · cases h2
/-! ### items -/
theorem star_of {e : Expr} {es : List Expr} {env : Env} (h : notStar e = true) : starEach (e :: es) env = (false, eval e env) :: starEach es env := by
  cases e <;> first | rfl | cases h
theorem stars_plain {env : Env} {pos : Pos} : ∀ {es : List Expr}, es.all notStar = true → (backTo pos (starEach es env)).any (·.1) = false
  | [], _ => rfl
  | e :: es, h => by
    rw [List.all_cons, Bool.and_eq_true] at h
    rw [star_of h.1]
    show (false || (backTo pos (starEach es env)).any (·.1)) = false
    rw [stars_plain h.2]; rfl
theorem stars_all {env : Env} {pos : Pos} : ∀ {es : List Expr}, es.all notStar = true → (backTo pos (starEach es env)).all (fun x => !x.1) = true
  | [], _ => rfl
  | e :: es, h => by
    rw [List.all_cons, Bool.and_eq_true] at h
    rw [star_of h.1]
    show (true && (backTo pos (starEach es env)).all (fun x => !x.1)) = true
    rw [stars_all h.2]; rfl
theorem callB_inv {id : Str} {x : Expr} {xs : List Expr} (h : callB T n id x = some xs) : ∃ p pos, x = .Call (.Name id p) xs [] pos ∧ isBlt T n id = true ∧ xs.all notStar = true := by
  unfold callB at h
  split at h
  · split at h
    · rename_i q
      obtain ⟨q1, q2, q3⟩ := q
      cases h
      subst q1
      exact ⟨_, _, rfl, q2, q3⟩
    · cases h
  · cases h
theorem callM_inv {id : Str} {x o : Expr} {xs : List Expr} (h : callM id x = some (o, xs)) : ∃ ap pos, x = .Call (.Attribute o id ap) xs [] pos ∧ xs.all notStar = true ∧ plainBase o = true ∧ ap.endLine = pos.line ∧ xs.length < 5 := by
  unfold callM at h
  split at h
  · split at h
    · rename_i q
      obtain ⟨q1, q2, q3, q4, q5⟩ := q
      cases h
      subst q1
      exact ⟨_, _, rfl, q2, q3, q4, q5⟩
    · cases h
  · cases h
theorem binA_inv {op : Operator} {x : Expr} {xs : List Expr} (h : binA op x = some xs) : ∃ a b p, x = .BinOp a op b p ∧ xs = [a, b] := by
  unfold binA at h
  split at h
  · split at h
    · rename_i q
      cases h
      subst q
      exact ⟨_, _, _, rfl, rfl⟩
    · cases h
  · cases h
theorem cmpA_inv {op : CmpOp} {x : Expr} {xs : List Expr} (h : cmpA op x = some xs) : ∃ a b p, x = .Compare a [op] [b] p ∧ xs = [a, b] ∧ noSet b = true := by
  unfold cmpA at h
  split at h
  · split at h
    · rename_i q
      cases h
      obtain ⟨q1, q2⟩ := q
      subst q1
      exact ⟨_, _, _, rfl, rfl, q2⟩
    · cases h
  · cases h
theorem cmpN_inv {op : CmpOp} {x : Expr} {xs : List Expr} (h : cmpN op x = some xs) : ∃ a j q p, x = .Compare a [op] [.Constant .none j q] p ∧ xs = [a] := by
  unfold cmpN at h
  split at h
  · split at h
    · rename_i q
      cases h
      subst q
      exact ⟨_, _, _, _, rfl, rfl⟩
    · cases h
  · cases h
theorem noSet_marks {op : CmpOp} {b : Expr} (h : noSet b = true) : behindInMarks op b = false := by
  cases b <;> first | rfl | cases h
theorem plainBase_of {o : Expr} {attr : Str} {env : Env} (h : plainBase o = true) : attributeBase o attr env (eval o env) = eval o env := by
  unfold plainBase at h
  split at h
  · rename_i id _ _
    have hn : id ≠ "super" := of_decide_eq_true h
    unfold attributeBase
    simp only []
    rw [if_pos (by simp [hn])]
  · rename_i hx
    unfold attributeBase
    split
    · rename_i id p pos
      exact absurd rfl (hx id p pos)
    · rfl
end
end PyE
set_option maxRecDepth 100000
set_option maxHeartbeats 4000000
/-! operators, by the test -/
namespace PyE
open PySem PySem.Spec PyProof.Rows L2
section
variable {G : Gi} {C : Cfg} {T : Tb} {cl : Cl} {n : En} {W : WX} {k : Nat} {X : Cx} {σ : L2.St} {H : Hp}
/-- each item by itself -/
def Its (G : Gi) (C : Cfg) (cl : Cl) (W : WX) (X : Cx) : CE → List Expr → Prop
  | .nil, xs => xs = []
  | .cons e r, xs => ∃ x s, xs = x :: s ∧ notStar x = true ∧ PE X x (tE G W (eE C cl e)) ∧ Its G C cl W X r s
  | _, _ => False
theorem its_pa : ∀ {es : CE} {xs : List Expr}, Its G C cl W X es xs → PA X xs (tA G W (eA C cl es))
  | .nil, xs, h => by
    have e : xs = [] := h
    subst e
    refine pa_mono pa_nil fun σ H Q q => ?_
    obtain ⟨Z, ρ, μ, A, q⟩ := q
    have q' : ∀ b Z', Ext Z Z' → Rel G Z' μ → RVs G Z' [] b → Q b Z'.H := q
    have := q' [] Z (Ext.refl Z) A.rel rfl
    rw [A.hp] at this
    exact this
  | .cons e r, xs, h => by
    obtain ⟨x, s, rfl, hs, p, q⟩ := h
    refine pa_mono (pa_cons p (its_pa q) (star_of hs)) fun σ H Q q => ?_
    obtain ⟨Z, ρ, μ, A, q⟩ := q
    have L := like_pst (G := G) (W := W) (σ := σ) (RVs G) Q
    refine ⟨Z, ρ, μ, A, step L (r := eE C cl e ρ μ) A q fun v Z1 μ1 d A1 X1 r1 h1 => ⟨Z1, ρ, μ1, A1, step L A1 h1 fun vs Z2 μ2 ds A2 X2 r2 h2 => ?_⟩⟩
    have h2' : ∀ b Z', Ext Z2 Z' → Rel G Z' μ2 → RVs G Z' (d :: ds) b → Q b Z'.H := h2
    exact h2' (v :: vs) Z2 (Ext.refl _) A2.rel ⟨v, vs, rfl, RV.ext X2 A1.rel _ _ r1, r2⟩
  | .con _, _, h => h.elim
  | .v _, _, h => h.elim
  | .fnv _, _, h => h.elim
  | .op _ _, _, h => h.elim
  | .mop _ _ _, _, h => h.elim
  | .not_ _, _, h => h.elim
  | .and_ _ _, _, h => h.elim
  | .or_ _ _, _, h => h.elim
  | .chain _ _ _ _ _, _, h => h.elim
  | .ite _ _ _, _, h => h.elim
  | .cell _, _, h => h.elim
  | .call _ _ _, _, h => h.elim
  | .callv _ _, _, h => h.elim
  | .mk _ _, _, h => h.elim
  | .comp _ _ _ _, _, h => h.elim
  | .comp2 _ _ _ _ _ _, _, h => h.elim
  | .iseq _, _, h => h.elim
  | .irng1 _, _, h => h.elim
  | .irng2 _ _, _, h => h.elim
  | .irng3 _ _ _, _, h => h.elim
  | .izip _ _ _, _, h => h.elim
  | .ienum _, _, h => h.elim
theorem its_cons {es : CE} {x : Expr} {s : List Expr} (h : Its G C cl W X es (x :: s)) : ∃ e r, es = .cons e r ∧ notStar x = true ∧ PE X x (tE G W (eE C cl e)) ∧ Its G C cl W X r s := by
  cases es with
  | cons e r =>
    obtain ⟨y, t, e1, hs, p, q⟩ := h
    cases e1
    exact ⟨e, r, rfl, hs, p, q⟩
  | nil => cases (show x :: s = [] from h)
  | _ => exact False.elim h
theorem its_nil {es : CE} (h : Its G C cl W X es []) : es = .nil := by
  cases es with
  | cons e r =>
    obtain ⟨y, t, e1, _⟩ := h
    cases e1
  | nil => rfl
  | _ => exact False.elim h
theorem its1 {es : CE} {x : Expr} (h : Its G C cl W X es [x]) : ∃ e, es = .cons e .nil ∧ notStar x = true ∧ PE X x (tE G W (eE C cl e)) := by
  obtain ⟨e, r, rfl, hs, p, q⟩ := its_cons h
  exact ⟨e, by rw [its_nil q], hs, p⟩
theorem its2 {es : CE} {x y : Expr} (h : Its G C cl W X es [x, y]) : ∃ e f, es = .cons e (.cons f .nil) ∧ notStar x = true ∧ notStar y = true ∧ PE X x (tE G W (eE C cl e)) ∧ PE X y (tE G W (eE C cl f)) := by
  obtain ⟨e, r, rfl, hs, p, q⟩ := its_cons h
  obtain ⟨f, rfl, hs2, p2⟩ := its1 q
  exact ⟨e, f, rfl, hs, hs2, p, p2⟩
theorem its3 {es : CE} {x y z : Expr} (h : Its G C cl W X es [x, y, z]) : ∃ e f g, es = .cons e (.cons f (.cons g .nil)) ∧ PE X x (tE G W (eE C cl e)) ∧ PE X y (tE G W (eE C cl f)) ∧ PE X z (tE G W (eE C cl g)) := by
  obtain ⟨e, r, rfl, hs, p, q⟩ := its_cons h
  obtain ⟨f, g, rfl, hs2, hs3, p2, p3⟩ := its2 q
  exact ⟨e, f, g, rfl, p, p2, p3⟩

theorem Like.ok {α : Type} {Z : Wd} {μ : Mu} {a : α} {β : Type} {b : β} {rel : Wd → α → β → Prop} {Q : β → Hp → Prop} (h : Pst G W σ rel Z (.ok a μ) Q) (R : Rel G Z μ) (r : rel Z a b) : Q b Z.H := h b Z (Ext.refl Z) R r
/-- a value or a frozen list just made -/
theorem e_op {o : Op} {es : CE} {Q : VK} (h : tE G W (eE C cl (.op o es)) σ H Q) : tP G W (eO C cl o es) σ H Q := by
  obtain ⟨Z, ρ, μ, A, h⟩ := h
  refine ⟨Z, ρ, μ, A, ?_⟩
  have h' : Pst G W σ (RV G) Z ((eA C cl es ρ μ).bind fun vs μ1 => lift ((opS C μ1 o vs).map prD) μ1) Q := h
  show PstP G W σ Z ((eA C cl es ρ μ).bind fun vs μ1 => lift (opS C μ1 o vs) μ1) Q
  revert h'
  cases eA C cl es ρ μ with
  | exc c d μ1 => exact fun h' => h'
  | err => exact fun h' => h'
  | ok vs μ1 =>
    intro h'
    have h2 : Pst G W σ (RV G) Z (lift ((opS C μ1 o vs).map prD) μ1) Q := h'
    show PstP G W σ Z (lift (opS C μ1 o vs) μ1) Q
    cases e : opS C μ1 o vs with
    | none => rw [e] at h2; exact h2
    | some pr =>
      rw [e] at h2
      cases pr with
      | v d => exact h2
      | new xs =>
        intro p vs' Z' x R hp r z
        obtain ⟨Z2, e1, e2, e3, e4⟩ := froze R hp r z
        rw [← e1]
        exact h2 _ Z2 (x.trans e2) e3 e4
/-- a cell just made -/
theorem e_cell {o : Op} {es : CE} {Q : VK} (h : tE G W (eE C cl (.cell (.op o es))) σ H Q) : tP G W (eO C cl o es) σ H Q := by
  obtain ⟨Z, ρ, μ, A, h⟩ := h
  refine ⟨Z, ρ, μ, A, ?_⟩
  have h' : Pst G W σ (RV G) Z (((eA C cl es ρ μ).bind fun vs μ1 => lift ((opS C μ1 o vs).bind prN) μ1).bind fun xs μ1 => .ok (.ref μ1.length) (μ1 ++ [xs])) Q := h
  rw [bind_bind] at h'
  show PstP G W σ Z ((eA C cl es ρ μ).bind fun vs μ1 => lift (opS C μ1 o vs) μ1) Q
  revert h'
  cases eA C cl es ρ μ with
  | exc c d μ1 => exact fun h' => h'
  | err => exact fun h' => h'
  | ok vs μ1 =>
    intro h'
    have h2 : Pst G W σ (RV G) Z ((lift ((opS C μ1 o vs).bind prN) μ1).bind fun xs μ1 => .ok (.ref μ1.length) (μ1 ++ [xs])) Q := h'
    show PstP G W σ Z (lift (opS C μ1 o vs) μ1) Q
    cases e : opS C μ1 o vs with
    | none => rw [e] at h2; exact h2
    | some pr =>
      rw [e] at h2
      cases pr with
      | v d => exact False.elim h2
      | new xs =>
        intro p vs' Z' x R hp r z
        obtain ⟨Z2, e1, e2, e3, e4⟩ := celled R hp r z
        rw [← e1]
        exact h2 _ Z2 (x.trans e2) e3 e4

/-! ### arities -/
theorem ar1 {o : Op} {μ : Mu} {ds : List D} {pr : PR} (h0 : opS C μ o [] = none) (h2 : ∀ a b r, opS C μ o (a :: b :: r) = none) (h : opS C μ o ds = some pr) : ∃ d, ds = [d] := by
  cases ds with
  | nil => rw [h0] at h; cases h
  | cons a r => cases r with
    | nil => exact ⟨a, rfl⟩
    | cons b r => rw [h2] at h; cases h
theorem ar2 {o : Op} {μ : Mu} {ds : List D} {pr : PR} (h0 : opS C μ o [] = none) (h1 : ∀ a, opS C μ o [a] = none) (h2 : ∀ a b c r, opS C μ o (a :: b :: c :: r) = none) (h : opS C μ o ds = some pr) : ∃ d e, ds = [d, e] := by
  cases ds with
  | nil => rw [h0] at h; cases h
  | cons a r => cases r with
    | nil => rw [h1] at h; cases h
    | cons b r => cases r with
      | nil => exact ⟨a, b, rfl⟩
      | cons c r => rw [h2] at h; cases h
theorem rO_1 {o : Op} {vs : List V} {Q : VK} (h0 : ∀ μ, opS C μ o [] = none) (h2 : ∀ μ a b r, opS C μ o (a :: b :: r) = none) (h : rO G C o vs H Q) : (∃ x, vs = [x]) ∧ rO G C o vs H Q := by
  refine ⟨?_, h⟩
  obtain ⟨Z, μ, ds, pr, _, _, r, e, _⟩ := h
  obtain ⟨d, rfl⟩ := ar1 (h0 μ) (h2 μ) e
  obtain ⟨v, t, rfl, _, e2⟩ := r
  have e2' : t = [] := e2
  exact ⟨v, by rw [e2']⟩
theorem rO_2 {o : Op} {vs : List V} {Q : VK} (h0 : ∀ μ, opS C μ o [] = none) (h1 : ∀ μ a, opS C μ o [a] = none) (h2 : ∀ μ a b c r, opS C μ o (a :: b :: c :: r) = none) (h : rO G C o vs H Q) : (∃ x y, vs = [x, y]) ∧ rO G C o vs H Q := by
  refine ⟨?_, h⟩
  obtain ⟨Z, μ, ds, pr, _, _, r, e, _⟩ := h
  obtain ⟨d, d2, rfl⟩ := ar2 (h0 μ) (h1 μ) (h2 μ) e
  obtain ⟨v, t, rfl, _, v2, t2, rfl, _, e2⟩ := r
  have e2' : t2 = [] := e2
  exact ⟨v, v2, by rw [e2']⟩

/-! ### rules -/
theorem k_bin (c : CxE G C T cl n W k X) {o : Op} {op : Operator} {es : CE} {x : Expr} {xs : List Expr} (hr : OpR X (binaryOp op) fun x y H Q => rO G C o [x, y] H Q) (h : binA op x = some xs) (hi : Its G C cl W X es xs) : PE X x (tP G W (eO C cl o es)) := by
  obtain ⟨a, b, p, rfl, rfl⟩ := binA_inv h
  obtain ⟨e, f, rfl, _, _, p1, p2⟩ := its2 hi
  exact pe_mono (pe_op hr p1 p2) fun σ H Q q => op2 q
theorem k_cmp (c : CxE G C T cl n W k X) {o : Op} {op : CmpOp} {es : CE} {x : Expr} {xs : List Expr} (hr : OpR X (compareOp op) fun x y H Q => rO G C o [x, y] H Q) (h : cmpA op x = some xs) (hi : Its G C cl W X es xs) :
    PE X x (tP G W (eO C cl o es)) ∧ PT X x (tTest (tP G W (eO C cl o es))) := by
  obtain ⟨a, b, p, rfl, rfl, hs⟩ := cmpA_inv h
  obtain ⟨e, f, rfl, _, _, p1, p2⟩ := its2 hi
  exact ⟨pe_mono (pe_cmpR hr p1 p2 (noSet_marks hs)) fun σ H Q q => op2 q, pt_mono (pt_cmpR hr p1 p2 (noSet_marks hs)) fun σ H Q q => op2 q⟩
theorem k_cmp1 (c : CxE G C T cl n W k X) {o : Op} {op : CmpOp} {e : CE} {a b : Expr} {v : V} {pos : Pos} (hr : OpR X (compareOp op) fun x y H Q => y = v ∧ rO G C o [x] H Q) (hb : PE X b (tC v)) (hs : noSet b = true) (p1 : PE X a (tE G W (eE C cl e))) :
    PE X (.Compare a [op] [b] pos) (tP G W (eO C cl o (.cons e .nil))) ∧ PT X (.Compare a [op] [b] pos) (tTest (tP G W (eO C cl o (.cons e .nil)))) := by
  have key : ∀ (σ : L2.St) (H : Hp) (Q : VK), tP G W (eO C cl o (.cons e .nil)) σ H Q → tOp (fun x y H Q => y = v ∧ rO G C o [x] H Q) (tE G W (eE C cl e)) (tC v) σ H Q := fun σ H Q q => by
    have q1 := op1 q
    obtain ⟨Z, ρ, μ, A, q1⟩ := q1
    exact ⟨Z, ρ, μ, A, Pst.mono q1 fun b H1 q2 => ⟨rfl, q2⟩⟩
  exact ⟨pe_mono (pe_cmpR hr p1 hb (noSet_marks hs)) key, pt_mono (pt_cmpR hr p1 hb (noSet_marks hs)) fun σ H Q q => key _ _ _ q⟩
theorem k_callB (c : CxE G C T cl n W k X) {o : Op} {id : String} {es : CE} {x : Expr} {xs : List Expr} {r : List V → Hp → VK → Prop} (hr : CallR X (.builtin id) r) (hv : bootBuiltins (id : Str) = some (.builtin id)) (h : callB T n (id : Str) x = some xs) (hne : xs ≠ [])
    (hi : Its G C cl W X es xs) (hm : ∀ vs H Q, rO G C o vs H Q → r vs H Q) : PE X x (tP G W (eO C cl o es)) := by
  obtain ⟨p, pos, rfl, hb, hs⟩ := callB_inv h
  obtain ⟨g1, g2, g3, g4⟩ := c.blt hb
  cases xs with
  | nil => exact absurd rfl hne
  | cons y ys =>
    rw [List.all_cons, Bool.and_eq_true] at hs
    refine pe_mono (pe_callB hr g1 g4 hv (its_pa hi) g3 g2 (star_of hs.1) (stars_plain hs.2)) fun σ H Q q => ?_
    obtain ⟨Z, ρ, μ, A, q1⟩ := opA q
    exact ⟨Z, ρ, μ, A, Pst.mono q1 fun vs H1 q2 => hm vs H1 Q q2⟩
theorem k_callT (c : CxE G C T cl n W k X) {o : Op} {id : String} {es : CE} {x : Expr} {xs : List Expr} {r : List V → Hp → VK → Prop} (hr : CallR X (.type id) r) (hv : bootBuiltins (id : Str) = some (.type id)) (h : callB T n (id : Str) x = some xs) (hne : xs ≠ [])
    (hi : Its G C cl W X es xs) (hm : ∀ vs H Q, rO G C o vs H Q → r vs H Q) : PE X x (tP G W (eO C cl o es)) := by
  obtain ⟨p, pos, rfl, hb, hs⟩ := callB_inv h
  obtain ⟨g1, g2, g3, g4⟩ := c.blt hb
  cases xs with
  | nil => exact absurd rfl hne
  | cons y ys =>
    rw [List.all_cons, Bool.and_eq_true] at hs
    refine pe_mono (pe_callTy hr g1 g4 hv (its_pa hi) g3 g2 (star_of hs.1) (stars_plain hs.2)) fun σ H Q q => ?_
    obtain ⟨Z, ρ, μ, A, q1⟩ := opA q
    exact ⟨Z, ρ, μ, A, Pst.mono q1 fun vs H1 q2 => hm vs H1 Q q2⟩
end
end PyE
set_option maxRecDepth 100000
set_option maxHeartbeats 4000000
namespace PyE
open PySem PySem.Spec PyProof.Rows L2
theorem b_len : bootBuiltins ("len" : Str) = some (.builtin "len") := by decide +kernel
theorem b_abs : bootBuiltins ("abs" : Str) = some (.builtin "abs") := by decide +kernel
theorem b_repr : bootBuiltins ("repr" : Str) = some (.builtin "repr") := by decide +kernel
theorem b_max : bootBuiltins ("max" : Str) = some (.builtin "max") := by decide +kernel
theorem b_min : bootBuiltins ("min" : Str) = some (.builtin "min") := by decide +kernel
theorem b_sorted : bootBuiltins ("sorted" : Str) = some (.builtin "sorted") := by decide +kernel
theorem b_sum : bootBuiltins ("sum" : Str) = some (.builtin "sum") := by decide +kernel
theorem b_all : bootBuiltins ("all" : Str) = some (.builtin "all") := by decide +kernel
theorem b_any : bootBuiltins ("any" : Str) = some (.builtin "any") := by decide +kernel
theorem b_isi : bootBuiltins ("isinstance" : Str) = some (.builtin "isinstance") := by decide +kernel
theorem b_int : bootBuiltins ("int" : Str) = some (.type "int") := by decide +kernel
theorem b_bool : bootBuiltins ("bool" : Str) = some (.type "bool") := by decide +kernel
theorem b_str : bootBuiltins ("str" : Str) = some (.type "str") := by decide +kernel
theorem b_list : bootBuiltins ("list" : Str) = some (.type "list") := by decide +kernel
theorem b_tuple : bootBuiltins ("tuple" : Str) = some (.type "tuple") := by decide +kernel
theorem b_dict : bootBuiltins ("dict" : Str) = some (.type "dict") := by decide +kernel
theorem b_ve : bootBuiltins ("ValueError" : Str) = some (.type "ValueError") := by decide +kernel
section
variable {G : Gi} {C : Cfg} {T : Tb} {cl : Cl} {n : En} {W : WX} {k : Nat} {X : Cx} {σ : L2.St} {H : Hp}
/-- a type's name -/
theorem k_ty (c : CxE G C T cl n W k X) {x : Str} {t : Ty} {p : Pos} (h : isTyN T n x t = true) : PE X (.Name x p) (tC (tyV G t)) ∧ tyOk G t = true := by
  unfold isTyN at h
  have bl : ∀ {y : Str} {nm : String}, bootBuiltins y = some (.type nm) → x = y → isBlt T n x = true → PE X (.Name x p) (tC (.ty nm)) := fun {y nm} hb e hx => by
    subst e
    obtain ⟨g1, g2, g3, g4⟩ := c.blt hx
    exact pe_bltn g1 g4 hb rfl g3 g2
  cases t with
  | tcls q =>
    obtain ⟨g1, g2, g3, g4⟩ := c.clsN h
    exact ⟨pe_glob g1 g3 rfl g2, g4⟩
  | tint => rw [Bool.and_eq_true] at h; exact ⟨bl b_int (of_decide_eq_true h.1) h.2, rfl⟩
  | tbool => rw [Bool.and_eq_true] at h; exact ⟨bl b_bool (of_decide_eq_true h.1) h.2, rfl⟩
  | tstr => rw [Bool.and_eq_true] at h; exact ⟨bl b_str (of_decide_eq_true h.1) h.2, rfl⟩
  | tlist => rw [Bool.and_eq_true] at h; exact ⟨bl b_list (of_decide_eq_true h.1) h.2, rfl⟩
  | ttuple => rw [Bool.and_eq_true] at h; exact ⟨bl b_tuple (of_decide_eq_true h.1) h.2, rfl⟩
  | tdict => rw [Bool.and_eq_true] at h; exact ⟨bl b_dict (of_decide_eq_true h.1) h.2, rfl⟩
  | tval => rw [Bool.and_eq_true] at h; exact ⟨bl b_ve (of_decide_eq_true h.1) h.2, rfl⟩
theorem k_tys (c : CxE G C T cl n W k X) : ∀ {es : List Expr} {ts : List Ty}, tysN T n es ts = true → PA X es (fun _ H Q => Q (ts.map (tyV G)) H) ∧ ts.all (tyOk G) = true
  | [], [], _ => ⟨pa_mono pa_nil fun σ H Q q => q, rfl⟩
  | .Name x p :: es, t :: ts, h => by
    have h' : (isTyN T n x t && tysN T n es ts) = true := h
    rw [Bool.and_eq_true] at h'
    obtain ⟨p1, o1⟩ := k_ty c (p := p) h'.1
    obtain ⟨p2, o2⟩ := k_tys c h'.2
    exact ⟨pa_mono (pa_cons p1 p2 (star_of rfl)) fun σ H Q q => q, by rw [List.all_cons, o1, o2]; rfl⟩
  | [], _ :: _, h => by cases h
  | x :: _, [], h => by cases x <;> cases h
  | .BoolOp .. :: _, _ :: _, h => by cases h
  | .NamedExpr .. :: _, _ :: _, h => by cases h
  | .BinOp .. :: _, _ :: _, h => by cases h
  | .UnaryOp .. :: _, _ :: _, h => by cases h
  | .Lambda .. :: _, _ :: _, h => by cases h
  | .IfExp .. :: _, _ :: _, h => by cases h
  | .Dict .. :: _, _ :: _, h => by cases h
  | .Set .. :: _, _ :: _, h => by cases h
  | .ListComp .. :: _, _ :: _, h => by cases h
  | .SetComp .. :: _, _ :: _, h => by cases h
  | .DictComp .. :: _, _ :: _, h => by cases h
  | .GeneratorExp .. :: _, _ :: _, h => by cases h
  | .Await .. :: _, _ :: _, h => by cases h
  | .Yield .. :: _, _ :: _, h => by cases h
  | .YieldFrom .. :: _, _ :: _, h => by cases h
  | .Compare .. :: _, _ :: _, h => by cases h
  | .Call .. :: _, _ :: _, h => by cases h
  | .FormattedValue .. :: _, _ :: _, h => by cases h
  | .JoinedStr .. :: _, _ :: _, h => by cases h
  | .Constant .. :: _, _ :: _, h => by cases h
  | .Attribute .. :: _, _ :: _, h => by cases h
  | .Subscript .. :: _, _ :: _, h => by cases h
  | .Starred .. :: _, _ :: _, h => by cases h
  | .List .. :: _, _ :: _, h => by cases h
  | .Tuple .. :: _, _ :: _, h => by cases h
  | .Slice .. :: _, _ :: _, h => by cases h
theorem k_isi (c : CxE G C T cl n W k X) {es : CE} {x a t : Expr} {ts : List Ty} (h : callB T n "isinstance" x = some [a, t]) (ht : tyArg T n t ts = true) (hi : Its G C cl W X es [a]) : PE X x (tP G W (eO C cl (.isi ts) es)) := by
  obtain ⟨p, pos, rfl, hb, hs⟩ := callB_inv h
  obtain ⟨g1, g2, g3, g4⟩ := c.blt hb
  obtain ⟨e, rfl, hs1, p1⟩ := its1 hi
  have hK := c.K
  rw [List.all_cons, Bool.and_eq_true] at hs
  unfold tyArg at ht
  have fin_ : ∀ {tt : TE}, PE X t tt → ts.all (tyOk G) = true → ts ≠ [] → (∀ σ H Q, (∀ v H', ((∃ t, ts = [t] ∧ v = tyV G t ∧ H' = H) ∨ ∃ p, v = .ref p ∧ H p = none ∧ H' = upd H p (.tup (ts.map (tyV G)))) → Q v H') → tt σ H Q) →
      PE X (.Call (.Name "isinstance" p) [a, t] [] pos) (tP G W (eO C cl (.isi ts) (.cons e .nil))) := fun {tt} pt ok ne ht => by
    refine pe_mono (pe_callB (c_isi hK c.wk.gf ok ne) g1 g4 b_isi (pa_cons p1 (pa_cons pt pa_nil (star_of (by have := hs.2; rw [List.all_cons, Bool.and_eq_true] at this; exact this.1))) (star_of hs.1)) g3 g2 (star_of hs.1) (stars_plain hs.2)) fun σ H Q q => ?_
    obtain ⟨Z, ρ, μ, A, q1⟩ := op1 q
    refine ⟨Z, ρ, μ, A, Pst.mono q1 fun v H1 q2 => ?_⟩
    obtain ⟨Z1, μ1, ds, pr, e1, R1, rv, eo, qp⟩ := q2
    obtain ⟨d, rfl, r1⟩ := rv.one_inv
    obtain ⟨b, eb, ep⟩ := Option.map_eq_some_iff.mp (show (isiS C.sub d ts).map (fun b => PR.v (.bl b)) = some pr from eo)
    subst ep e1
    refine ht σ Z1.H _ fun w H2 hw => ?_
    show rIs G C ts [v, w] H2 Q
    rcases hw with ⟨t, e1, e2, e3⟩ | ⟨p, e1, e2, e3⟩
    · subst e3
      exact ⟨v, w, rfl, .inl ⟨t, e1, e2⟩, Z1, μ1, d, b, rfl, R1, r1, eb, qp.here R1 rfl⟩
    · subst e3
      exact ⟨v, w, rfl, .inr ⟨p, e1, upd_same⟩, Z1.lay p (.tup (ts.map (tyV G))), μ1, d, b, rfl, R1.lay e2, RV.ext (Ext.lay e2) R1 _ _ r1, eb, (PrP.base qp (Ext.lay e2)).here (R1.lay e2) rfl⟩
  split at ht
  · rename_i y q t'
    obtain ⟨pt, ok⟩ := k_ty c (p := q) ht
    exact fin_ pt (by rw [List.all_cons, ok]; rfl) (by simp) fun σ H Q hq => hq _ _ (.inl ⟨_, rfl, rfl, rfl⟩)
  · simp only [Bool.and_eq_true] at ht
    obtain ⟨⟨ht1, ht2⟩, ht3⟩ := ht
    obtain ⟨pt, ok⟩ := k_tys c ht1
    have ht3' := of_decide_eq_true ht3
    refine fin_ (pe_tup pt) ok (by intro z; rw [z] at ht2; cases ht2) fun σ H Q hq => ⟨?_, fun p hp => hq _ _ (.inr ⟨p, rfl, hp, rfl⟩)⟩
    rw [List.length_map, sizeLine_eq]; omega
  · cases ht

theorem asInt_some {d : D} {i : Int} (h : asInt d = some i) : d = .int i := by
  cases d <;> first | (cases h; rfl) | cases h
theorem callN_inv {q : Nat} {id : Str} {x : Expr} {xs : List Expr} (h : callN T n q id x = some xs) : callB T n id x = some xs ∧ xs.length = q := by
  unfold callN at h
  split at h
  · split at h
    · cases h; exact ⟨by assumption, by assumption⟩
    · cases h
  · cases h
theorem k_call1 (c : CxE G C T cl n W k X) {o : Op} {id : String} {es : CE} {x : Expr} {xs : List Expr} (hr : CallR X (.builtin id) fun vs H Q => (∃ x, vs = [x]) ∧ rO G C o vs H Q) (hv : bootBuiltins (id : Str) = some (.builtin id)) (h : callN T n 1 (id : Str) x = some xs)
    (h0 : ∀ μ, opS C μ o [] = none) (h2 : ∀ μ a b r, opS C μ o (a :: b :: r) = none) (hi : Its G C cl W X es xs) : PE X x (tP G W (eO C cl o es)) := by
  obtain ⟨h1, hl⟩ := callN_inv h
  exact k_callB c hr hv h1 (by intro z; rw [z] at hl; cases hl) hi fun vs H Q q => rO_1 h0 h2 q
theorem k_callT1 (c : CxE G C T cl n W k X) {o : Op} {id : String} {es : CE} {x : Expr} {xs : List Expr} (hr : CallR X (.type id) fun vs H Q => (∃ x, vs = [x]) ∧ rO G C o vs H Q) (hv : bootBuiltins (id : Str) = some (.type id)) (h : callN T n 1 (id : Str) x = some xs)
    (h0 : ∀ μ, opS C μ o [] = none) (h2 : ∀ μ a b r, opS C μ o (a :: b :: r) = none) (hi : Its G C cl W X es xs) : PE X x (tP G W (eO C cl o es)) := by
  obtain ⟨h1, hl⟩ := callN_inv h
  exact k_callT c hr hv h1 (by intro z; rw [z] at hl; cases hl) hi fun vs H Q q => rO_1 h0 h2 q
theorem k_call2 (c : CxE G C T cl n W k X) {o : Op} {id : String} {es : CE} {x : Expr} {xs : List Expr} (hr : CallR X (.builtin id) fun vs H Q => (∃ x y, vs = [x, y]) ∧ rO G C o vs H Q) (hv : bootBuiltins (id : Str) = some (.builtin id)) (h : callN T n 2 (id : Str) x = some xs)
    (h0 : ∀ μ, opS C μ o [] = none) (h1 : ∀ μ a, opS C μ o [a] = none) (h2 : ∀ μ a b c r, opS C μ o (a :: b :: c :: r) = none) (hi : Its G C cl W X es xs) : PE X x (tP G W (eO C cl o es)) := by
  obtain ⟨h3, hl⟩ := callN_inv h
  exact k_callB c hr hv h3 (by intro z; rw [z] at hl; cases hl) hi fun vs H Q q => rO_2 h0 h1 h2 q
theorem lrA_inv {x : Expr} {xs : List Expr} (h : lrA T n x = some xs) : ∃ y, callN T n 1 "list" x = some [y] ∧ callN T n 1 "range" y = some xs := by
  unfold lrA at h
  split at h
  · exact ⟨_, by assumption, h⟩
  · cases h
theorem k_lrange (c : CxE G C T cl n W k X) {es : CE} {x : Expr} {xs : List Expr} (h : lrA T n x = some xs) (hi : Its G C cl W X es xs) : PE X x (tP G W (eO C cl .lrange es)) := by
  obtain ⟨y, h1, h2⟩ := lrA_inv h
  obtain ⟨h1, l1⟩ := callN_inv h1
  obtain ⟨h2, l2⟩ := callN_inv h2
  obtain ⟨p, pos, rfl, hb, hs⟩ := callB_inv h1
  obtain ⟨p2, pos2, rfl, hb2, hs2⟩ := callB_inv h2
  obtain ⟨g1, g2, g3, g4⟩ := c.blt hb
  obtain ⟨f1, f2, f3, f4⟩ := c.blt hb2
  match xs, l2 with
  | [a], _ =>
  obtain ⟨e, rfl, hsa, p1⟩ := its1 hi
  refine pe_mono (pe_listRg c.calm g1 g4 (prg_1 f1 f4 p1 (star_of hsa)) rfl) fun σ H Q q => ?_
  obtain ⟨Z, ρ, μ, A, q1⟩ := op1 q
  refine ⟨Z, ρ, μ, A, Pst.mono q1 fun v H1 q2 => ?_⟩
  obtain ⟨Z1, μ1, ds, pr, e1, R1, rv, eo, qp⟩ := q2
  obtain ⟨d, rfl, r1⟩ := rv.one_inv
  subst e1
  have eo' : lrangeS d = some pr := eo
  cases d with
  | int j =>
    have eo2 : (if j ≤ LIM ∧ -(2 ^ 62) ≤ j then some (PR.new ((List.range j.toNat).map fun k : Nat => .int (k : Int))) else none) = some pr := eo'
    split at eo2
    · rename_i hj
      cases eo2
      have hL : j ≤ 16777216 := hj.1
      have ev : rgV 0 j = (List.range j.toNat).map fun k : Nat => V.int (k : Int) := by
        unfold rgV
        rw [Int.sub_zero]
        refine List.map_congr_left fun i _ => ?_
        rw [Int.zero_add]
      have rvs : ∀ l : List Nat, RVs G Z1 (l.map fun k : Nat => D.int (k : Int)) (l.map fun k : Nat => V.int (k : Int)) := fun l => by
        induction l with
        | nil => rfl
        | cons a l ih => exact ⟨_, _, rfl, rfl, ih⟩
      refine ⟨j, r1, ⟨by omega, by omega, by omega, by omega, by omega⟩, ?_⟩
      rw [ev]
      exact qp.made R1 (rvs _) (by rw [List.length_map, List.length_range]; unfold LIM; omega)
    · cases eo2
  | _ => cases eo'
theorem negA_inv {x : Expr} {xs : List Expr} (h : negA x = some xs) : ∃ a p, x = .UnaryOp .USub a p ∧ xs = [a] := by
  unfold negA at h
  split at h <;> cases h
  exact ⟨_, _, rfl, rfl⟩
theorem isbA_inv {b : Bool} {x : Expr} {xs : List Expr} (h : isbA b x = some xs) : ∃ a j q p, x = .Compare a [.Is] [.Constant (.bool b) j q] p ∧ xs = [a] := by
  unfold isbA at h
  split at h
  · split at h
    · rename_i e; cases h; subst e; exact ⟨_, _, _, _, rfl, rfl⟩
    · cases h
  · cases h
theorem idxA_inv {x : Expr} {xs : List Expr} (h : idxA x = some xs) : ∃ a b p, x = .Subscript a b p ∧ xs = [a, b] ∧ noSlice b = true := by
  unfold idxA at h
  split at h
  · split at h
    · rename_i e; cases h; exact ⟨_, _, _, rfl, rfl, e⟩
    · cases h
  · cases h
theorem slc00_inv {x : Expr} {xs : List Expr} (h : slc00 x = some xs) : ∃ a p q, x = .Subscript a (.Slice none none none p) q ∧ xs = [a] := by
  unfold slc00 at h
  split at h <;> cases h
  exact ⟨_, _, _, rfl, rfl⟩
theorem slc10_inv {x : Expr} {xs : List Expr} (h : slc10 x = some xs) : ∃ a b p q, x = .Subscript a (.Slice (some b) none none p) q ∧ xs = [a, b] := by
  unfold slc10 at h
  split at h <;> cases h
  exact ⟨_, _, _, _, rfl, rfl⟩
theorem slc01_inv {x : Expr} {xs : List Expr} (h : slc01 x = some xs) : ∃ a b p q, x = .Subscript a (.Slice none (some b) none p) q ∧ xs = [a, b] := by
  unfold slc01 at h
  split at h <;> cases h
  exact ⟨_, _, _, _, rfl, rfl⟩
theorem slc11_inv {x : Expr} {xs : List Expr} (h : slc11 x = some xs) : ∃ a b c p q, x = .Subscript a (.Slice (some b) (some c) none p) q ∧ xs = [a, b, c] := by
  unfold slc11 at h
  split at h <;> cases h
  exact ⟨_, _, _, _, _, rfl, rfl⟩
theorem revA_inv {x : Expr} {xs : List Expr} (h : revA x = some xs) : ∃ a j p1 p2 p3 p, x = .Subscript a (.Slice none none (some (.UnaryOp .USub (.Constant (.int 1) j p1) p2)) p3) p ∧ xs = [a] := by
  unfold revA at h
  split at h <;> cases h
  exact ⟨_, _, _, _, _, _, rfl, rfl⟩
theorem isiA_inv {ts : List Ty} {x : Expr} {xs : List Expr} (h : isiA T n ts x = some xs) : ∃ a t, callB T n "isinstance" x = some [a, t] ∧ tyArg T n t ts = true ∧ xs = [a] := by
  unfold isiA at h
  split at h
  · split at h
    · cases h; exact ⟨_, _, by assumption, by assumption, rfl⟩
    · cases h
  · cases h
theorem tupA_inv {x : Expr} {xs : List Expr} (h : tupA x = some xs) : ∃ j p, x = .Tuple xs j p ∧ xs.length ≤ 10000 := by
  unfold tupA at h
  split at h
  · split at h
    · rename_i q; cases h; exact ⟨_, _, rfl, q.2⟩
    · cases h
  · cases h
theorem lstA_inv {x : Expr} {xs : List Expr} (h : lstA x = some xs) : ∃ p, x = .List xs p ∧ xs.length ≤ 10000 := by
  unfold lstA at h
  split at h
  · split at h
    · rename_i q; cases h; exact ⟨_, rfl, q.2⟩
    · cases h
  · cases h
theorem eA_len : ∀ {es : CE} {xs : List Expr} {ρ : Ro} {μ μ' : Mu} {ds : List D}, Its G C cl W X es xs → eA C cl es ρ μ = .ok ds μ' → ds.length = xs.length
  | .nil, xs, ρ, μ, μ', ds, h, e => by
    have e1 : xs = [] := h
    cases e
    rw [e1]; rfl
  | .cons a r, xs, ρ, μ, μ', ds, h, e => by
    obtain ⟨x, s, rfl, _, _, q⟩ := h
    have e' : ((eE C cl a ρ μ).bind fun d μ1 => (eA C cl r ρ μ1).bind fun ds μ2 => .ok (d :: ds) μ2) = .ok ds μ' := e
    cases e1 : eE C cl a ρ μ with
    | err => rw [e1] at e'; cases e'
    | exc c v μ1 => rw [e1] at e'; cases e'
    | ok d μ1 =>
      rw [e1] at e'
      have e2' : ((eA C cl r ρ μ1).bind fun ds μ2 => Res.ok (d :: ds) μ2) = .ok ds μ' := e'
      cases e2 : eA C cl r ρ μ1 with
      | err => rw [e2] at e2'; cases e2'
      | exc c v μ1 => rw [e2] at e2'; cases e2'
      | ok es μ2 =>
        rw [e2] at e2'
        cases e2'
        rw [List.length_cons, List.length_cons, eA_len q e2]
  | .con _, _, _, _, _, _, h, _ => h.elim
  | .v _, _, _, _, _, _, h, _ => h.elim
  | .fnv _, _, _, _, _, _, h, _ => h.elim
  | .op _ _, _, _, _, _, _, h, _ => h.elim
  | .mop _ _ _, _, _, _, _, _, h, _ => h.elim
  | .not_ _, _, _, _, _, _, h, _ => h.elim
  | .and_ _ _, _, _, _, _, _, h, _ => h.elim
  | .or_ _ _, _, _, _, _, _, h, _ => h.elim
  | .chain _ _ _ _ _, _, _, _, _, _, h, _ => h.elim
  | .ite _ _ _, _, _, _, _, _, h, _ => h.elim
  | .cell _, _, _, _, _, _, h, _ => h.elim
  | .call _ _ _, _, _, _, _, _, h, _ => h.elim
  | .callv _ _, _, _, _, _, _, h, _ => h.elim
  | .mk _ _, _, _, _, _, _, h, _ => h.elim
  | .comp _ _ _ _, _, _, _, _, _, h, _ => h.elim
  | .comp2 _ _ _ _ _ _, _, _, _, _, _, h, _ => h.elim
  | .iseq _, _, _, _, _, _, h, _ => h.elim
  | .irng1 _, _, _, _, _, _, h, _ => h.elim
  | .irng2 _ _, _, _, _, _, _, h, _ => h.elim
  | .irng3 _ _ _, _, _, _, _, _, h, _ => h.elim
  | .izip _ _ _, _, _, _, _, _, h, _ => h.elim
  | .ienum _, _, _, _, _, _, h, _ => h.elim
theorem opL {o : Op} {es : CE} {xs : List Expr} {Q : VK} (hi : Its G C cl W X es xs) (h : tP G W (eO C cl o es) σ H Q) : tA G W (eA C cl es) σ H fun vs H1 => vs.length = xs.length ∧ rO G C o vs H1 Q := by
  obtain ⟨Z, ρ, μ, A, h⟩ := h
  refine ⟨Z, ρ, μ, A, ?_⟩
  have h' : PstP G W σ Z ((eA C cl es ρ μ).bind fun vs μ1 => lift (opS C μ1 o vs) μ1) Q := h
  cases e : eA C cl es ρ μ with
  | err => rw [e] at h'; exact h'
  | exc c v μ1 => rw [e] at h'; exact h'
  | ok ds μ1 =>
    rw [e] at h'
    intro vs Z1 X1 R1 r1
    obtain ⟨pr, eo, q⟩ := pst_lift (show PstP G W σ Z (lift (opS C μ1 o ds) μ1) Q from h')
    exact ⟨by rw [← r1.length]; exact eA_len hi e, Z1, μ1, ds, pr, rfl, R1, r1, eo, PrP.base q X1⟩
theorem attrA_inv {x : Expr} {xs : List Expr} (h : attrA x = some xs) : ∃ a p, x = .Attribute a "value" p ∧ xs = [a] ∧ plainBase a = true := by
  unfold attrA at h
  split at h
  · split at h
    · rename_i e; cases h; obtain ⟨e1, e2⟩ := e; subst e1; exact ⟨_, _, rfl, rfl, e2⟩
    · cases h
  · cases h
theorem bitA_inv {x : Expr} {xs : List Expr} (h : bitA x = some xs) : ∃ a, callM "bit_length" x = some (a, []) ∧ xs = [a] := by
  unfold bitA at h
  split at h
  · cases h; exact ⟨_, by assumption, rfl⟩
  · cases h
/-- a slice's parts -/
theorem k_slc (c : CxE G C T cl n W k X) {Z : Wd} {x : V} {Q : VK} {μ : Mu} {d : D} {lo hi : Option Int} {pr : PR} (R : Rel G Z μ) (r : RV G Z d x) (e : slcS μ d lo hi = some pr) (q : PrP G Z μ pr Q) : rSl G () x lo hi Z.H Q := ⟨Z, μ, d, pr, rfl, R, r, e, q⟩
theorem tE_mono {m : Ro → Mu → Res D} (σ : L2.St) (H : Hp) (Q Q' : VK) (h : ∀ x H, Q x H → Q' x H) (q : tE G W m σ H Q) : tE G W m σ H Q' := by
  obtain ⟨Z, ρ, μ, A, q⟩ := q
  exact ⟨Z, ρ, μ, A, Pst.mono q h⟩
theorem k_bits {e : Expr} {te : TE} {pos apos : Pos} (he : PE X e te) (hm : ∀ σ H (Q Q' : VK), (∀ x H, Q x H → Q' x H) → te σ H Q → te σ H Q') (hb : attributeBase e "bit_length" X.env (eval e X.env) = eval e X.env) (hl : (apos.endLine == pos.line) = true) :
    PE X (.Call (.Attribute e "bit_length" apos) [] [] pos) (fun σ H Q => te σ H fun x H1 => rO G C .bitlen [x] H1 Q) := by
  refine pe_mono (pe_bits he hb hl) fun σ H Q q => hm σ H _ _ (fun x H1 z => ?_) q
  obtain ⟨Z, μ, ds, pr, e, R, rv, eo, q⟩ := z
  subst e
  obtain ⟨d, rfl, r1⟩ := rv.one_inv
  have eb : bitS d = some pr := eo
  cases d with
  | int i =>
    cases eb
    refine ⟨i, r1, ?_⟩
    rw [ibits_eq]
    exact q.here R rfl
  | _ => cases eb
/-- an operator in the program's text -/
theorem k_op (c : CxE G C T cl n W k X) {o : Op} {es : CE} {x : Expr} {xs : List Expr} (h : opArgs T n o x = some xs) (hi : Its G C cl W X es xs) : PE X x (tP G W (eO C cl o es)) := by
  have hK := c.K
  have hu := c.room.units
  have hu0 := c.room.units0
  have un := c.room.un
  have hc := c.calm
  cases o with
  | add => exact k_bin c (o_add hK) h hi
  | sub => exact k_bin c o_sub h hi
  | mul => exact k_bin c o_mul h hi
  | fdiv => exact k_bin c o_fdiv h hi
  | mod => exact k_bin c o_mod h hi
  | pow => exact k_bin c o_pow h hi
  | neg =>
    obtain ⟨a, p, rfl, rfl⟩ := negA_inv h
    obtain ⟨e, rfl, hs, p1⟩ := its1 hi
    exact pe_mono (pe_un o_neg p1) fun σ H Q q => op1 q
  | eq => exact (k_cmp c (o_eq hK hu) h hi).1
  | ne => exact (k_cmp c (o_ne hK hu) h hi).1
  | lt => exact (k_cmp c (o_lt hK hu0) h hi).1
  | le => exact (k_cmp c o_le h hi).1
  | gt => exact (k_cmp c o_gt h hi).1
  | ge => exact (k_cmp c o_ge h hi).1
  | isn =>
    obtain ⟨a, j, q, p, rfl, rfl⟩ := cmpN_inv h
    obtain ⟨e, rfl, hs, p1⟩ := its1 hi
    exact (k_cmp1 c o_isn pe_non rfl p1).1
  | notn =>
    obtain ⟨a, j, q, p, rfl, rfl⟩ := cmpN_inv h
    obtain ⟨e, rfl, hs, p1⟩ := its1 hi
    exact (k_cmp1 c o_notn pe_non rfl p1).1
  | isb b =>
    obtain ⟨a, j, q, p, rfl, rfl⟩ := isbA_inv h
    obtain ⟨e, rfl, hs, p1⟩ := its1 hi
    exact (k_cmp1 c (o_isb _) pe_bl rfl p1).1
  | in_ => exact (k_cmp c (o_in hK (by omega)) h hi).1
  | notin => exact (k_cmp c (o_notin hK (by omega)) h hi).1
  | idx =>
    obtain ⟨a, b, p, rfl, rfl, hb⟩ := idxA_inv h
    obtain ⟨e, f, rfl, _, _, p1, p2⟩ := its2 hi
    refine pe_mono (pe_ix (o_idx hK) p1 p2 ?_) fun σ H Q q => op2 q
    intro o i
    cases b <;> first | rfl | cases hb
  | slc lo hi' =>
    cases lo <;> cases hi'
    · obtain ⟨a, p, q, rfl, rfl⟩ := slc00_inv h
      obtain ⟨e, rfl, hs, p1⟩ := its1 hi
      refine pe_mono (pe_slice (o_slc hK) p1 po_none po_none) fun σ H Q q => ?_
      obtain ⟨Z, ρ, μ, A, q1⟩ := op1 q
      refine ⟨Z, ρ, μ, A, Pst.mono q1 fun v H1 ⟨Z1, μ1, ds, pr, e1, R1, rv, eo, qp⟩ => ?_⟩
      obtain ⟨d, rfl, r1⟩ := rv.one_inv
      exact ⟨Z1, μ1, d, pr, e1, R1, r1, eo, qp⟩
    · obtain ⟨a, b, p, q, rfl, rfl⟩ := slc01_inv h
      obtain ⟨e, f, rfl, _, _, p1, p2⟩ := its2 hi
      refine pe_mono (pe_slice (o_slc hK) p1 po_none (po_some p2)) fun σ H Q q => ?_
      refine tE_mono σ H _ _ (fun v H1 q1 => ?_) (op2 q)
      refine tE_mono σ H1 _ _ (fun w H2 ⟨Z1, μ1, ds, pr, e1, R1, rv, eo, qp⟩ => ?_) q1
      obtain ⟨d, d2, rfl, r1, r2⟩ := rv.two_inv
      obtain ⟨i, hi, eo⟩ := Option.bind_eq_some_iff.mp (show (asInt d2).bind (fun i => slcS μ1 d none (some i)) = some pr from eo)
      have e2 := asInt_some hi
      subst e2
      exact ⟨i, r2, Z1, μ1, d, pr, e1, R1, r1, eo, qp⟩
    · obtain ⟨a, b, p, q, rfl, rfl⟩ := slc10_inv h
      obtain ⟨e, f, rfl, _, _, p1, p2⟩ := its2 hi
      refine pe_mono (pe_slice (o_slc hK) p1 (po_some p2) po_none) fun σ H Q q => ?_
      refine tE_mono σ H _ _ (fun v H1 q1 => ?_) (op2 q)
      refine tE_mono σ H1 _ _ (fun w H2 ⟨Z1, μ1, ds, pr, e1, R1, rv, eo, qp⟩ => ?_) q1
      obtain ⟨d, d2, rfl, r1, r2⟩ := rv.two_inv
      obtain ⟨i, hi, eo⟩ := Option.bind_eq_some_iff.mp (show (asInt d2).bind (fun i => slcS μ1 d (some i) none) = some pr from eo)
      have e2 := asInt_some hi
      subst e2
      exact ⟨i, r2, Z1, μ1, d, pr, e1, R1, r1, eo, qp⟩
    · cases h
  | rev =>
    obtain ⟨a, j, p1, p2, p3, p, rfl, rfl⟩ := revA_inv h
    obtain ⟨e, rfl, hs, pe⟩ := its1 hi
    exact pe_mono (p_rev hK pe tE_mono) fun σ H Q q => op1 q
  | len => exact k_call1 c (o_len hK) b_len h (fun _ => rfl) (fun _ _ _ _ => rfl) hi
  | abs => exact k_call1 c o_abs b_abs h (fun _ => rfl) (fun _ _ _ _ => rfl) hi
  | int_ => exact k_callT1 c o_int_ b_int h (fun _ => rfl) (fun _ _ _ _ => rfl) hi
  | bool_ => exact k_callT1 c o_bool_ b_bool h (fun _ => rfl) (fun _ _ _ _ => rfl) hi
  | repr => exact k_call1 c (o_repr hK (by rw [hK]; exact c.wk.sys) c.gd (by omega)) b_repr h (fun _ => rfl) (fun _ _ _ _ => rfl) hi
  | max2 => exact k_call2 c (o_max2 hc) b_max h (fun _ => rfl) (fun _ _ => rfl) (fun _ _ _ _ _ => rfl) hi
  | min2 => exact k_call2 c (o_min2 hc) b_min h (fun _ => rfl) (fun _ _ => rfl) (fun _ _ _ _ _ => rfl) hi
  | sum1 => exact k_call1 c (o_sum1 hK hc) b_sum h (fun _ => rfl) (fun _ _ _ _ => rfl) hi
  | sum2 => exact k_call2 c (o_sum2 hc) b_sum h (fun _ => rfl) (fun _ _ => rfl) (fun _ _ _ _ _ => rfl) hi
  | lrange => exact k_lrange c h hi
  | sorted => exact k_call1 c (o_sorted hK) b_sorted h (fun _ => rfl) (fun _ _ _ _ => rfl) hi
  | all => exact k_call1 c (o_all hK hc) b_all h (fun _ => rfl) (fun _ _ _ _ => rfl) hi
  | any => exact k_call1 c (o_any hK hc) b_any h (fun _ => rfl) (fun _ _ _ _ => rfl) hi
  | list => exact k_callT1 c (o_list hK) b_list h (fun _ => rfl) (fun _ _ _ _ => rfl) hi
  | tuple => exact k_callT1 c (o_tuple hK) b_tuple h (fun _ => rfl) (fun _ _ _ _ => rfl) hi
  | isi ts =>
    obtain ⟨a, t, h1, h2, rfl⟩ := isiA_inv h
    exact k_isi c h1 h2 hi
  | tup =>
    obtain ⟨j, p, rfl, hz⟩ := tupA_inv h
    refine pe_mono (pe_tup (its_pa hi)) fun σ H Q q => ?_
    obtain ⟨Z, ρ, μ, A, q1⟩ := opL hi q
    refine ⟨Z, ρ, μ, A, Pst.mono q1 fun vs H1 q2 => ?_⟩
    obtain ⟨hl, Z1, μ1, ds, pr, e1, R1, rv, eo, qp⟩ := q2
    cases eo
    subst e1
    have hz' : vs.length ≤ LIM := by unfold LIM; omega
    refine ⟨by rw [← LIM_eq]; exact hz', fun p hp => ?_⟩
    exact qp _ (Z1.lay p (.tup vs)) (Ext.lay hp) (R1.lay hp) ⟨p, vs, rfl, .of upd_same, by rw [rv.length]; exact hz', RVs.ext (Ext.lay hp) R1 _ _ rv⟩
  | lst =>
    obtain ⟨p, rfl, hz⟩ := lstA_inv h
    refine pe_mono (pe_lst (its_pa hi)) fun σ H Q q => ?_
    obtain ⟨Z, ρ, μ, A, q1⟩ := opL hi q
    refine ⟨Z, ρ, μ, A, Pst.mono q1 fun vs H1 q2 => ?_⟩
    obtain ⟨hl, Z1, μ1, ds, pr, e1, R1, rv, eo, qp⟩ := q2
    cases eo
    subst e1
    have hz' : vs.length ≤ LIM := by unfold LIM; omega
    exact ⟨by rw [← LIM_eq]; exact hz', qp.made R1 rv (by rw [rv.length]; exact hz')⟩
  | attr =>
    obtain ⟨a, p, rfl, rfl, hb⟩ := attrA_inv h
    obtain ⟨e, rfl, hs, pe⟩ := its1 hi
    exact pe_mono (p_value hK c.wk.gf pe (plainBase_of hb)) fun σ H Q q => op1 q
  | bitlen =>
    obtain ⟨a, h1, rfl⟩ := bitA_inv h
    obtain ⟨ap, pos, rfl, _, hb, hl, _⟩ := callM_inv h1
    obtain ⟨e, rfl, hs, pe⟩ := its1 hi
    exact pe_mono (k_bits pe tE_mono (plainBase_of hb) (by rw [hl]; exact beq_self_eq_true _)) fun σ H Q q => op1 q
  | _ => cases h
end
end PyE
set_option maxRecDepth 100000
set_option maxHeartbeats 4000000
/-! tests -/
namespace PyE
open PySem PySem.Spec PyProof.Rows L2
section
variable {G : Gi} {C : Cfg} {T : Tb} {cl : Cl} {n : En} {W : WX} {k : Nat} {X : Cx} {σ : L2.St} {H : Hp}
theorem k_test (c : CxE G C T cl n W k X) {o : Op} {es : CE} {x : Expr} {xs : List Expr} (h : opArgs T n o x = some xs) (hx : isCmp x = true) (hi : Its G C cl W X es xs) :
    PT X x (tTest (tP G W (eO C cl o es))) ∧ ∀ μ ds pr, opS C μ o ds = some pr → ∃ b, pr = .v (.bl b) := by
  have hK := c.K
  have hu := c.room.units
  have hu0 := c.room.units0
  have un := c.room.un
  have two : ∀ {μ : Mu} {ds : List D} {pr : PR} {g : D → D → Option PR}, (∀ ds, opS C μ o ds = (match ds with | [x, y] => g x y | _ => none)) → (∀ x y pr, g x y = some pr → ∃ b, pr = .v (.bl b)) → opS C μ o ds = some pr → ∃ b, pr = .v (.bl b) := fun {μ ds pr g} h1 h2 h3 => by
    rw [h1] at h3
    split at h3
    · exact h2 _ _ _ h3
    · cases h3
  have map2 : ∀ {a : Option Bool} {f : Bool → Bool} {pr : PR}, a.map (fun b => PR.v (.bl (f b))) = some pr → ∃ b, pr = .v (.bl b) := fun {a f pr} e => by
    obtain ⟨b, _, rfl⟩ := Option.map_eq_some_iff.mp e
    exact ⟨_, rfl⟩
  have int2 : ∀ {f : Int → Int → Bool} {x y : D} {pr : PR}, intO (fun i j => some (.v (.bl (f i j)))) x y = some pr → ∃ b, pr = .v (.bl b) := fun {f x y pr} e => by
    unfold intO at e
    split at e
    · cases e; exact ⟨_, rfl⟩
    · cases e
  cases o with
  | eq => exact ⟨(k_cmp c (o_eq hK hu) h hi).2, fun μ ds pr e => by
      cases ds with | nil => cases e | cons a r => cases r with | nil => cases e | cons b r => cases r with | nil => exact map2 (f := id) e | cons _ _ => cases e⟩
  | ne => exact ⟨(k_cmp c (o_ne hK hu) h hi).2, fun μ ds pr e => by
      cases ds with | nil => cases e | cons a r => cases r with | nil => cases e | cons b r => cases r with | nil => exact map2 (f := Bool.not) e | cons _ _ => cases e⟩
  | lt => exact ⟨(k_cmp c (o_lt hK hu0) h hi).2, fun μ ds pr e => by
      cases ds with | nil => cases e | cons a r => cases r with | nil => cases e | cons b r => cases r with
        | nil =>
          have e' : ltS a b = some pr := e
          unfold ltS at e'
          split at e'
          · cases e'; exact ⟨_, rfl⟩
          · obtain ⟨_, _, e'⟩ := Option.bind_eq_some_iff.mp e'
            obtain ⟨_, _, rfl⟩ := Option.map_eq_some_iff.mp e'
            exact ⟨_, rfl⟩
          · cases e'
        | cons _ _ => cases e⟩
  | le => exact ⟨(k_cmp c o_le h hi).2, fun μ ds pr e => by
      cases ds with | nil => cases e | cons a r => cases r with | nil => cases e | cons b r => cases r with | nil => exact int2 e | cons _ _ => cases e⟩
  | gt => exact ⟨(k_cmp c o_gt h hi).2, fun μ ds pr e => by
      cases ds with | nil => cases e | cons a r => cases r with | nil => cases e | cons b r => cases r with | nil => exact int2 e | cons _ _ => cases e⟩
  | ge => exact ⟨(k_cmp c o_ge h hi).2, fun μ ds pr e => by
      cases ds with | nil => cases e | cons a r => cases r with | nil => cases e | cons b r => cases r with | nil => exact int2 e | cons _ _ => cases e⟩
  | isn =>
    obtain ⟨a, j, q, p, rfl, rfl⟩ := cmpN_inv h
    obtain ⟨e, rfl, hs, p1⟩ := its1 hi
    exact ⟨(k_cmp1 c o_isn pe_non rfl p1).2, fun μ ds pr e => by
      cases ds with | nil => cases e | cons a r => cases r with | nil => cases e; exact ⟨_, rfl⟩ | cons _ _ => cases e⟩
  | notn =>
    obtain ⟨a, j, q, p, rfl, rfl⟩ := cmpN_inv h
    obtain ⟨e, rfl, hs, p1⟩ := its1 hi
    exact ⟨(k_cmp1 c o_notn pe_non rfl p1).2, fun μ ds pr e => by
      cases ds with | nil => cases e | cons a r => cases r with | nil => cases e; exact ⟨_, rfl⟩ | cons _ _ => cases e⟩
  | isb b =>
    obtain ⟨a, j, q, p, rfl, rfl⟩ := isbA_inv h
    obtain ⟨e, rfl, hs, p1⟩ := its1 hi
    exact ⟨(k_cmp1 c (o_isb _) pe_bl rfl p1).2, fun μ ds pr e => by
      cases ds with | nil => cases e | cons a r => cases r with | nil => cases e; exact ⟨_, rfl⟩ | cons _ _ => cases e⟩
  | in_ => exact ⟨(k_cmp c (o_in hK (by omega)) h hi).2, fun μ ds pr e => by
      cases ds with | nil => cases e | cons a r => cases r with | nil => cases e | cons b r => cases r with | nil => exact map2 (f := id) e | cons _ _ => cases e⟩
  | notin => exact ⟨(k_cmp c (o_notin hK (by omega)) h hi).2, fun μ ds pr e => by
      cases ds with | nil => cases e | cons a r => cases r with | nil => cases e | cons b r => cases r with | nil => exact map2 (f := Bool.not) e | cons _ _ => cases e⟩
  | add => obtain ⟨_, _, _, rfl, _⟩ := binA_inv h; cases hx
  | sub => obtain ⟨_, _, _, rfl, _⟩ := binA_inv h; cases hx
  | mul => obtain ⟨_, _, _, rfl, _⟩ := binA_inv h; cases hx
  | fdiv => obtain ⟨_, _, _, rfl, _⟩ := binA_inv h; cases hx
  | mod => obtain ⟨_, _, _, rfl, _⟩ := binA_inv h; cases hx
  | pow => obtain ⟨_, _, _, rfl, _⟩ := binA_inv h; cases hx
  | neg => obtain ⟨_, _, rfl, _⟩ := negA_inv h; cases hx
  | idx => obtain ⟨_, _, _, rfl, _⟩ := idxA_inv h; cases hx
  | slc a b =>
    cases a <;> cases b
    · obtain ⟨_, _, _, rfl, _⟩ := slc00_inv h; cases hx
    · obtain ⟨_, _, _, _, rfl, _⟩ := slc01_inv h; cases hx
    · obtain ⟨_, _, _, _, rfl, _⟩ := slc10_inv h; cases hx
    · cases h
  | rev => obtain ⟨_, _, _, _, _, _, rfl, _⟩ := revA_inv h; cases hx
  | len => obtain ⟨_, _, rfl, _⟩ := callB_inv (callN_inv h).1; cases hx
  | abs => obtain ⟨_, _, rfl, _⟩ := callB_inv (callN_inv h).1; cases hx
  | int_ => obtain ⟨_, _, rfl, _⟩ := callB_inv (callN_inv h).1; cases hx
  | bool_ => obtain ⟨_, _, rfl, _⟩ := callB_inv (callN_inv h).1; cases hx
  | repr => obtain ⟨_, _, rfl, _⟩ := callB_inv (callN_inv h).1; cases hx
  | max2 => obtain ⟨_, _, rfl, _⟩ := callB_inv (callN_inv h).1; cases hx
  | min2 => obtain ⟨_, _, rfl, _⟩ := callB_inv (callN_inv h).1; cases hx
  | sum1 => obtain ⟨_, _, rfl, _⟩ := callB_inv (callN_inv h).1; cases hx
  | lrange => obtain ⟨_, h1, _⟩ := lrA_inv h; obtain ⟨_, _, rfl, _⟩ := callB_inv (callN_inv h1).1; cases hx
  | sum2 => obtain ⟨_, _, rfl, _⟩ := callB_inv (callN_inv h).1; cases hx
  | sorted => obtain ⟨_, _, rfl, _⟩ := callB_inv (callN_inv h).1; cases hx
  | all => obtain ⟨_, _, rfl, _⟩ := callB_inv (callN_inv h).1; cases hx
  | any => obtain ⟨_, _, rfl, _⟩ := callB_inv (callN_inv h).1; cases hx
  | list => obtain ⟨_, _, rfl, _⟩ := callB_inv (callN_inv h).1; cases hx
  | tuple => obtain ⟨_, _, rfl, _⟩ := callB_inv (callN_inv h).1; cases hx
  | isi ts =>
    obtain ⟨_, _, h1, _⟩ := isiA_inv h
    obtain ⟨_, _, rfl, _⟩ := callB_inv h1
    cases hx
  | tup => obtain ⟨_, _, rfl, _⟩ := tupA_inv h; cases hx
  | lst => obtain ⟨_, rfl, _⟩ := lstA_inv h; cases hx
  | attr => obtain ⟨_, _, rfl, _⟩ := attrA_inv h; cases hx
  | bitlen =>
    obtain ⟨_, h1, _⟩ := bitA_inv h
    obtain ⟨_, _, rfl, _⟩ := callM_inv h1
    cases hx
  | _ => cases h

/-! ### truth -/
theorem tru_of (hK : X.K = G.K) {Z : Wd} {μ : Mu} (R : Rel G Z μ) {d : D} {v : V} {b : Bool} (h : truth μ d = some b) (r : RV G Z d v) : TruV X.K v Z.H b := by
  have em : ∀ {xs : List D} {vs : List V}, RVs G Z xs vs → (!xs.isEmpty) = !vs.isEmpty := fun {xs vs} q => by
    cases xs with
    | nil => rw [show vs = [] from q]; rfl
    | cons _ _ => obtain ⟨_, _, rfl, _⟩ := q; rfl
  cases d with
  | none => cases h; rw [show v = V.non from r]; rfl
  | bl y => have r' : v = V.bl y := r; subst r'; exact (Option.some.inj h).symm
  | int y => have r' : v = V.int y := r; subst r'; exact (Option.some.inj h).symm
  | str y =>
    rw [show v = V.str y from r]
    have h' : (if y.length ≤ LIM then some (y.length != 0) else none) = some b := h
    split at h'
    · rename_i hz
      refine ⟨by rw [← LIM_eq]; exact hz, ?_⟩
      rw [← Option.some.inj h']
      cases e : y.length with
      | zero => rfl
      | succ q => rfl
    · cases h'
  | tup xs =>
    cases h
    obtain ⟨a, vs, rfl, q, _, qr⟩ := r
    exact .inr (.inl ⟨vs, by rw [hK]; exact q, em qr⟩)
  | lst xs =>
    cases h
    obtain ⟨a, vs, rfl, _, q, _, qr⟩ := r
    exact .inl ⟨vs, by rw [hK]; exact .of q, em qr⟩
  | ref m =>
    obtain ⟨xs, hx, e⟩ := Option.map_eq_some_iff.mp (show (μ[m]?).map (fun xs => !xs.isEmpty) = some b from h)
    obtain ⟨a, ea, rfl⟩ := r
    obtain ⟨vs, q, qr, _⟩ := R.cell m a xs ea hx
    exact .inl ⟨vs, by rw [hK]; exact .of q, by rw [← e]; exact em qr⟩
  | _ => cases h
/-- a value as a test -/
noncomputable def eTr (C : Cfg) (cl : Cl) (c : CE) (ρ : Ro) (μ : Mu) : Res Bool := (eE C cl c ρ μ).bind fun d μ1 => lift (truth μ1 d) μ1
def plainT : Expr → Bool
  | .UnaryOp .Not _ _ => false
  | .BoolOp _ _ _ => false
  | .IfExp _ _ _ _ => false
  | .Compare _ _ _ _ => false
  | _ => true
theorem isTrue_plain {x : Expr} {env : Env} (h : plainT x = true) (whole : Sem Value) : isTrue x env whole = (do let v ← whole; standAt x.pos; holding [v] (truthy v)) := by
  cases x <;> first | rfl | (cases h; done) | skip
  rename_i op _ _
  cases op <;> first | rfl | cases h
theorem t_plain (hK : X.K = G.K) {c : CE} {x : Expr} (hx : plainT x = true) (p : PE X x (tE G W (eE C cl c))) : PT X x (tT G W (eTr C cl c)) := by
  refine pt_mono (pt_truth p (isTrue_plain hx)) fun σ H Q q => ?_
  obtain ⟨Z, ρ, μ, A, q⟩ := q
  refine ⟨Z, ρ, μ, A, step (like_pst _ Q) (r := eE C cl c ρ μ) A q fun v Z1 μ1 d A1 X1 r1 h1 => ?_⟩
  obtain ⟨b, e, h2⟩ := step_lift (k := fun b μ => .ok b μ) (like_pst (G := G) (W := W) (σ := σ) (fun _ a b => a = b) Q) (μ := μ1) (o := truth μ1 d) (by
    cases e : truth μ1 d with
    | none => rw [e] at h1; exact h1
    | some b => rw [e] at h1; exact h1)
  exact ⟨b, tru_of hK A1.rel e r1, Like.ok (rel := fun _ a b => a = b) h2 A1.rel rfl⟩
theorem t_cmp {o : Op} {es : CE} {x : Expr} (hb : ∀ μ ds pr, opS C μ o ds = some pr → ∃ b, pr = .v (.bl b)) (p : PT X x (tTest (tP G W (eO C cl o es)))) : PT X x (tT G W (eTr C cl (.op o es))) := by
  refine pt_mono p fun σ H Q q => ?_
  obtain ⟨Z, ρ, μ, A, q⟩ := q
  refine ⟨Z, ρ, μ, A, ?_⟩
  have q' : Pst G W σ (fun _ a b => a = b) Z (((eA C cl es ρ μ).bind fun vs μ1 => opR C o vs μ1).bind fun d μ1 => lift (truth μ1 d) μ1) Q := q
  rw [bind_bind] at q'
  show PstP G W σ Z ((eA C cl es ρ μ).bind fun vs μ1 => lift (opS C μ1 o vs) μ1) _
  revert q'
  cases eA C cl es ρ μ with
  | err => exact fun q' => q'
  | exc c v μ1 => exact fun q' => q'
  | ok vs μ1 =>
    intro q'
    have q2 : Pst G W σ (fun _ a b => a = b) Z ((lift ((opS C μ1 o vs).map prD) μ1).bind fun d μ1 => lift (truth μ1 d) μ1) Q := q'
    show PstP G W σ Z (lift (opS C μ1 o vs) μ1) _
    cases e : opS C μ1 o vs with
    | none => rw [e] at q2; exact q2
    | some pr =>
      rw [e] at q2
      obtain ⟨b, rfl⟩ := hb _ _ _ e
      have q3 : ∀ b' Z', Ext Z Z' → Rel G Z' μ1 → b = b' → Q b' Z'.H := q2
      exact fun v Z' x R r => ⟨b, r, q3 b Z' x R rfl⟩
end
end PyE
set_option maxRecDepth 100000
set_option maxHeartbeats 4000000
/-! targets; what is walked -/
namespace PyE
open PySem PySem.Spec PyProof.Rows L2
section
variable {G : Gi} {C : Cfg} {T : Tb} {cl : Cl} {n : En} {W : WX} {k : Nat} {X : Cx} {σ : L2.St} {H : Hp}
/-! ### targets -/
theorem wipe_set {i : Nat} {x : Option V} : ∀ {l : List Nat} {σ : L2.St}, i ∈ l → L2.wipe (σ.set i x) l = L2.wipe σ l
  | j :: l, σ, h => by
    show (L2.wipe (σ.set i x) l).set j none = (L2.wipe σ l).set j none
    by_cases e : i ∈ l
    · rw [wipe_set e]
    · have e1 : i = j := by
        rcases List.mem_cons.mp h with q | q
        · exact q
        · exact absurd q e
      subst e1
      have key : ∀ (l : List Nat) (σ : L2.St), i ∉ l → L2.wipe (σ.set i x) l = (L2.wipe σ l).set i x := by
        intro l
        induction l with
        | nil => intro σ _; rfl
        | cons a r ih =>
          intro σ ha
          show (L2.wipe (σ.set i x) r).set a none = ((L2.wipe σ r).set a none).set i x
          rw [ih σ (fun q => ha (List.mem_cons_of_mem _ q)), List.set_comm _ _ (fun q => ha (by rw [q]; exact List.mem_cons_self))]
      rw [key l σ e, List.set_set]
def gT (G : Gi) (t : Tg) : TG := fun v σ H Q => ∃ Z ρ μ d ρ', At G Z H σ ρ μ ∧ RV G Z d v ∧ setT μ t d ρ = some ρ' ∧ ∀ σ', SE G Z σ' ρ' → (∀ l : List Nat, (∀ i ∈ t.slots, i ∈ l) → L2.wipe σ' l = L2.wipe σ l) → Q σ' H
def gTs (G : Gi) (is : List Nat) : TGs := fun vs σ H Q => ∃ Z ρ μ ds ρ', At G Z H σ ρ μ ∧ RVs G Z ds vs ∧ setAll is ds ρ = some ρ' ∧ ∀ σ', SE G Z σ' ρ' → (∀ l : List Nat, (∀ i ∈ is, i ∈ l) → L2.wipe σ' l = L2.wipe σ l) → Q σ' H
theorem k_tos (c : CxE G C T cl n W k X) : ∀ {es : List Expr} {is : List Nat}, isTos n es is = true → PGs X es (gTs G is) ∧ (assignEach es X.env).length = is.length ∧ (assignEach es X.env).findIdx? (·.1) = none
  | [], [], _ => ⟨⟨fun pins s σ H vs us Q I r ⟨Z, ρ, μ, ds, ρ', A, rv, e, q⟩ => (pgs_nil (X := X)).run pins s σ H vs us Q I r (by
      cases ds with
      | cons d ds => cases e
      | nil =>
        cases e
        exact ⟨rv, q σ A.se fun l _ => rfl⟩)⟩, rfl, rfl⟩
  | .Name x p :: es, i :: is, h => by
    have h' : (isTo n x i && isTos n es is) = true := h
    rw [Bool.and_eq_true] at h'
    obtain ⟨g1, g2, g3⟩ := c.to h'.1
    obtain ⟨p1, p2, p3⟩ := k_tos c h'.2
    refine ⟨⟨fun pins s σ H vs us Q I r ⟨Z, ρ, μ, ds, ρ', A, rv, e, q⟩ => (pgs_cons (pg_name (i := i) (pos := p) (by rw [c.N]; exact c.nd) g1 g2 g3) p1 rfl).run pins s σ H vs us Q I r ?_⟩, by
      show (assignEach es X.env).length + 1 = _
      rw [p2]; rfl, ?_⟩
    · cases ds with
      | nil => cases e
      | cons d ds =>
        obtain ⟨v, t, rfl, r1, r2⟩ := rv
        refine ⟨v, t, rfl, Z, ρ.set i (some d), μ, ds, ρ', ⟨A.hp, A.se.set i r1, A.rel⟩, r2, e, fun σ' s' w => q σ' s' fun l hl => ?_⟩
        rw [w l fun j hj => hl j (List.mem_cons_of_mem _ hj), wipe_set (hl i List.mem_cons_self)]
    · show List.findIdx? (·.1) ((false, assign (.Name x p) X.env) :: assignEach es X.env) = none
      rw [List.findIdx?_cons]
      simp [p3]
  | [], _ :: _, h => by cases h
  | x :: _, [], h => by cases x <;> cases h
  | .BoolOp .. :: _, _ :: _, h => by cases h
  | .NamedExpr .. :: _, _ :: _, h => by cases h
  | .BinOp .. :: _, _ :: _, h => by cases h
  | .UnaryOp .. :: _, _ :: _, h => by cases h
  | .Lambda .. :: _, _ :: _, h => by cases h
  | .IfExp .. :: _, _ :: _, h => by cases h
  | .Dict .. :: _, _ :: _, h => by cases h
  | .Set .. :: _, _ :: _, h => by cases h
  | .ListComp .. :: _, _ :: _, h => by cases h
  | .SetComp .. :: _, _ :: _, h => by cases h
  | .DictComp .. :: _, _ :: _, h => by cases h
  | .GeneratorExp .. :: _, _ :: _, h => by cases h
  | .Await .. :: _, _ :: _, h => by cases h
  | .Yield .. :: _, _ :: _, h => by cases h
  | .YieldFrom .. :: _, _ :: _, h => by cases h
  | .Compare .. :: _, _ :: _, h => by cases h
  | .Call .. :: _, _ :: _, h => by cases h
  | .FormattedValue .. :: _, _ :: _, h => by cases h
  | .JoinedStr .. :: _, _ :: _, h => by cases h
  | .Constant .. :: _, _ :: _, h => by cases h
  | .Attribute .. :: _, _ :: _, h => by cases h
  | .Subscript .. :: _, _ :: _, h => by cases h
  | .Starred .. :: _, _ :: _, h => by cases h
  | .List .. :: _, _ :: _, h => by cases h
  | .Tuple .. :: _, _ :: _, h => by cases h
  | .Slice .. :: _, _ :: _, h => by cases h
theorem ckT_inv {t : Tg} {x : Expr} (h : ckT n t x = true) : (∃ i y p, t = .nm i ∧ x = .Name y p ∧ isTo n y i = true) ∨ ∃ l es j p, t = .tp l ∧ x = .Tuple es j p ∧ isTos n es l = true := by
  unfold ckT at h
  split at h
  · exact .inl ⟨_, _, _, rfl, rfl, h⟩
  · exact .inr ⟨_, _, _, _, rfl, rfl, h⟩
  · cases h
theorem setAll_len : ∀ {l : List Nat} {ds : List D} {ρ ρ' : Ro}, setAll l ds ρ = some ρ' → ds.length = l.length
  | [], [], _, _, _ => rfl
  | _ :: l, _ :: ds, _, _, e => by rw [List.length_cons, List.length_cons, setAll_len (l := l) (ds := ds) e]
  | [], _ :: _, _, _, e => by cases e
  | _ :: _, [], _, _, e => by cases e
theorem k_tg (c : CxE G C T cl n W k X) {t : Tg} {x : Expr} (h : ckT n t x = true) : PG X x (gT G t) := by
  rcases ckT_inv h with ⟨i, y, p, rfl, rfl, h⟩ | ⟨l, es, j, p, rfl, rfl, h⟩
  · obtain ⟨g1, g2, g3⟩ := c.to h
    refine ⟨fun pins s σ H v u Q I r ⟨Z, ρ, μ, d, ρ', A, rv, e, q⟩ => (pg_name (i := i) (pos := p) (by rw [c.N]; exact c.nd) g1 g2 g3).run pins s σ H v u Q I r ?_⟩
    cases e
    exact q _ (A.se.set i rv) fun l hl => wipe_set (hl i (List.mem_singleton.mpr rfl))
  · obtain ⟨p1, p2, p3⟩ := k_tos c h
    refine ⟨fun pins s σ H v u Q I r ⟨Z, ρ, μ, d, ρ', A, rv, e, q⟩ => (pg_tup (k := j) (pos := p) c.calm p1 p2 p3).run pins s σ H v u Q I r ?_⟩
    cases d with
    | tup xs =>
      obtain ⟨a, vs, rfl, q1, q2, q3⟩ := rv
      have e' : setAll l xs ρ = some ρ' := e
      exact ⟨a, vs, rfl, by rw [c.K, ← A.hp]; exact q1, by rw [← q3.length]; exact setAll_len e', Z, ρ, μ, xs, ρ', A, q3, e', q⟩
    | _ => cases e

/-! ### what is walked -/
/-- lists that nobody has frozen may have changed -/
structure ExtB (Z Z' : Wd) : Prop where
  pre : Z.th <+: Z'.th
  sub : ∀ a, Z.S a → Z'.S a
  keepN : ∀ a o, Z.H a = some o → (∀ vs, o ≠ .lst vs) → Z'.H a = some o
  keepS : ∀ a o, Z.S a → Z.H a = some o → Z'.H a = some o
theorem Ext.b {Z Z' : Wd} {μ : Mu} (X : Ext Z Z') (R : Rel G Z μ) : ExtB Z Z' := ⟨X.pre, X.sub, fun a o h m => X.keep a o h (R.notCell h m), fun a o s h => X.keep a o h (R.sep a s)⟩
theorem ExtB.trans {Z Z1 Z2 : Wd} (x : ExtB Z Z1) (y : ExtB Z1 Z2) : ExtB Z Z2 := ⟨x.pre.trans y.pre, fun a s => y.sub a (x.sub a s), fun a o h m => y.keepN a o (x.keepN a o h m) m, fun a o s h => y.keepS a o (x.sub a s) (x.keepS a o s h)⟩
theorem ExtB.sqT {Z Z' : Wd} (X : ExtB Z Z') {a : Addr} {vs : List V} (h : SqT G.K Z.H a vs) : SqT G.K Z'.H a vs := by
  rcases h with (h | ⟨o, h⟩) | h
  · exact .inl (.inl (X.keepN _ _ h fun _ q => by cases q))
  · exact .inl (.inr ⟨o, X.keepN _ _ h fun _ q => by cases q⟩)
  · exact .inr h
mutual
theorem RV.extB {Z Z' : Wd} (X : ExtB Z Z') : ∀ (d : D) (v : V), RV G Z d v → RV G Z' d v
  | .none, _, h => h
  | .bl _, _, h => h
  | .int _, _, h => h
  | .str _, _, h => h
  | .fn _, _, h => h
  | .tup ds, v, h => by
    obtain ⟨a, vs, e, q, z, r⟩ := h
    exact ⟨a, vs, e, X.sqT q, z, RVs.extB X ds vs r⟩
  | .lst ds, v, h => by
    obtain ⟨a, vs, e, s, q, z, r⟩ := h
    exact ⟨a, vs, e, X.sub a s, X.keepS _ _ s q, z, RVs.extB X ds vs r⟩
  | .scr xs, v, h => by
    obtain ⟨a, e, q, z⟩ := h
    refine ⟨a, e, ?_, z⟩
    rcases q with ⟨o, q⟩ | q
    · exact .inl ⟨o, X.keepN _ _ q fun _ z => by cases z⟩
    · exact .inr q
  | .ref i, v, h => by
    obtain ⟨a, e, q⟩ := h
    obtain ⟨t, et⟩ := X.pre
    exact ⟨a, by rw [← et, List.getElem?_append_left (List.getElem?_eq_some_iff.mp e).1]; exact e, q⟩
  | .dct, v, h => by
    obtain ⟨a, e, q⟩ := h
    exact ⟨a, e, X.keepN _ _ q fun _ z => by cases z⟩
  | .exc c d, v, h => by
    obtain ⟨kc, a, dd, w, e, q1, q2, r⟩ := h
    exact ⟨kc, a, dd, w, e, X.keepN _ _ q1 fun _ z => (by cases z), X.keepN _ _ q2 fun _ z => (by cases z), RV.extB X d w r⟩
theorem RVs.extB {Z Z' : Wd} (X : ExtB Z Z') : ∀ (ds : List D) (vs : List V), RVs G Z ds vs → RVs G Z' ds vs
  | [], _, h => h
  | d :: ds, vs, h => by
    obtain ⟨v, r, e, h1, h2⟩ := h
    exact ⟨v, r, e, RV.extB X d v h1, RVs.extB X ds r h2⟩
end
/-- the turns of J are the items -/
def SrcOk (G : Gi) (s : Src) (Z : Wd) (μ : Mu) (J : It) : Prop := s.xs.length ≤ LIM ∧ ∀ (i : Nat) (Z2 : Wd) (μ2 : Mu), ExtB Z Z2 → Rel G Z2 μ2 → s.okAt μ2 = true →
  (∀ d, s.xs[i]? = some d → J.go i Z2.H ∧ ∀ x H', J.yld i Z2.H x H' → ∃ Z3, Z3.H = H' ∧ Ext Z2 Z3 ∧ Rel G Z3 μ2 ∧ RV G Z3 d x) ∧ (s.xs.length ≤ i → J.stop i Z2.H)
def PstI (G : Gi) (W : WX) (σ : L2.St) (Z : Wd) (r : Res Src) (R : It → Hp → Prop) : Prop := match r with
  | .ok s μ' => ∀ J Z', Ext Z Z' → Rel G Z' μ' → SrcOk G s Z' μ' J → R J Z'.H
  | .exc c d μ' => ExP G W σ Z c d μ'
  | .err => False
def tI (G : Gi) (W : WX) (m : Ro → Mu → Res Src) : TI := fun σ H R => ∃ Z ρ μ, At G Z H σ ρ μ ∧ PstI G W σ Z (m ρ μ) R
theorem like_pstI (R : It → Hp → Prop) : Like G W σ (fun Z (r : Res Src) => PstI G W σ Z r R) := ⟨fun Z Z' r X h => by
  cases r with
  | ok s μ' => exact fun J Z2 x Rl o => h J Z2 (X.trans x) Rl o
  | exc c d μ' => exact ExP.base h X
  | err => exact h, fun Z c d μ h => h, fun Z h => h⟩
open Classical in
theorem okAt_mem {s : Src} {μ : Mu} {p : Nat × List D} (h : s.okAt μ = true) (hp : p ∈ s.gs) : μ[p.1]? = some p.2 := by
  unfold Src.okAt at h
  exact of_decide_eq_true (List.all_eq_true.mp h p hp)
theorem items_at {s : Src} {μ μ2 : Mu} {d : D} {xs : List D} (hs : ∀ p ∈ guard d xs, p ∈ s.gs) (e : items μ d = some xs) (h : s.okAt μ2 = true) : items μ2 d = some xs := by
  cases d with
  | ref m => exact okAt_mem h (hs _ List.mem_cons_self)
  | _ => exact e
/-- a list's or tuple's items, as they are walked -/
theorem src_list (hK : X.K = G.K) {Z : Wd} {μ : Mu} {d : D} {v : V} {xs : List D} (R : Rel G Z μ) (e : items μ d = some xs) (r : RV G Z d v) :
    ∃ a, v = .ref a ∧ (((∃ vs, SqL X.K Z.H a vs) ∧ SrcOk G ⟨xs, guard d xs⟩ Z μ (Itl X.K a)) ∨ ((∃ vs, SqT X.K Z.H a vs) ∧ SrcOk G ⟨xs, guard d xs⟩ Z μ (Itt X.K a))) := by
  by_cases ht : ∃ ys, d = .tup ys
  · obtain ⟨ys, rfl⟩ := ht
    cases e
    obtain ⟨a, vs, rfl, q, z, qr⟩ := r
    have at_ : ∀ Z2, ExtB Z Z2 → ∃ ws, SqT X.K Z2.H a ws ∧ RVs G Z2 xs ws := fun Z2 x => by
      obtain ⟨a', ws, e1, q1, _, q2⟩ := RV.extB x (.tup xs) (.ref a) ⟨a, vs, rfl, q, z, qr⟩
      cases e1
      exact ⟨ws, by rw [hK]; exact q1, q2⟩
    refine ⟨a, rfl, .inr ⟨⟨vs, by rw [hK]; exact q⟩, z, fun i Z2 μ2 x R2 _ => ?_⟩⟩
    obtain ⟨ws, w1, w2⟩ := at_ Z2 x
    refine ⟨fun d hd => ?_, fun hl => ⟨ws, w1, by rw [← w2.length]; exact hl⟩⟩
    obtain ⟨y, y1, y2⟩ := w2.get hd
    refine ⟨⟨ws, y, w1, y1⟩, fun x' H' hy => ?_⟩
    obtain ⟨h1, h2⟩ := hy
    have e2 : x' = y := by have := h2 ws w1; rw [y1] at this; exact (Option.some.inj this).symm
    subst e2
    exact ⟨Z2, h1.symm, Ext.refl _, R2, y2⟩
  · have at_ : ∀ Z2 μ2, ExtB Z Z2 → Rel G Z2 μ2 → items μ2 d = some xs → ∃ a ws, v = .ref a ∧ SqL X.K Z2.H a ws ∧ RVs G Z2 xs ws := fun Z2 μ2 x R2 e2 => by
      have e3 : sitems μ2 d = some xs := by
        cases d with
        | tup ys => exact absurd ⟨ys, rfl⟩ ht
        | _ => exact e2
      obtain ⟨a, ws, e1, q1, q2, _⟩ := R2.sitems e3 (RV.extB x d v r)
      exact ⟨a, ws, e1, by rw [hK]; exact q1, q2⟩
    obtain ⟨a, ws, e1, q1, q2⟩ := at_ Z μ ((Ext.refl _).b R) R e
    subst e1
    refine ⟨a, rfl, .inl ⟨⟨ws, q1⟩, (by obtain ⟨_, _, _, _, _, z⟩ := R.items e r; exact z), fun i Z2 μ2 x R2 ok => ?_⟩⟩
    obtain ⟨a', ws, e1, w1, w2⟩ := at_ Z2 μ2 x R2 (items_at (s := ⟨xs, guard d xs⟩) (fun p hp => hp) e ok)
    cases e1
    refine ⟨fun d hd => ?_, fun hl => ⟨ws, w1, by rw [← w2.length]; exact hl⟩⟩
    obtain ⟨y, y1, y2⟩ := w2.get hd
    refine ⟨⟨ws, y, w1, y1⟩, fun x' H' hy => ?_⟩
    obtain ⟨h1, h2⟩ := hy
    have e2 : x' = y := by have := h2 ws w1; rw [y1] at this; exact (Option.some.inj this).symm
    subst e2
    exact ⟨Z2, h1.symm, Ext.refl _, R2, y2⟩
theorem pi_of_list {tg l : Expr} {tl : TE} (hl : PE X l tl) : PI X tg l (fun σ H R => tl σ H fun x H1 => ∃ a, x = .ref a ∧ (((∃ xs, SqL X.K H1 a xs) ∧ R (Itl X.K a) H1) ∨ ((∃ xs, SqT X.K H1 a xs) ∧ R (Itt X.K a) H1))) := by
  refine ⟨fun pins s σ H R I h => ?_⟩
  refine thn (hl.run pins s σ H _ I h) fun v s1 ⟨x, H1, I1, r1, a, e, q⟩ => ?_
  have one : ∀ c ∈ [s1.heap.objs.size], FpOk X pins H1 c := fun c hc => by
    rw [List.mem_singleton.mp hc]
    exact I1.fpOk (Nat.le_refl _) (I1.hok.fresh (Nat.le_refl _))
  subst e
  have ev : v = Value.ref a := r1
  subst ev
  have I2 : ∀ it, Inv X pins σ H1 { s1 with heap := s1.heap.push it } := fun it => I1.kept (t' := s1.toks) fun b o e => Heap.get?_push_of_some _ e
  rcases q with ⟨⟨xs, hq⟩, q⟩ | ⟨⟨xs, hq⟩, q⟩
  · obtain ⟨its, rv, p, hz⟩ := I1.list hq
    exact wpAny_pyIter_list p.isList ⟨_, [s1.heap.objs.size], _, _, H1, rfl, I2 _, turn_list a _, ⟨_, Heap.get?_push_size _ rfl, rfl, rfl⟩, one, q⟩
  · obtain ⟨its, rv, p, hz⟩ := I1.tuple hq
    exact wpAny_pyIter_tuple (show s1.heap.IsTuple a its.toArray from p) ⟨_, [s1.heap.objs.size], _, _, H1, rfl, I2 _, turn_tuple a _, ⟨_, Heap.get?_push_size _ rfl, rfl, rfl⟩, one, q⟩
theorem pi_mono {tg l : Expr} {t t' : TI} (h : PI X tg l t) (m : ∀ σ H R, t' σ H R → t σ H R) : PI X tg l t' := ⟨fun pins s σ H R I q => h.run pins s σ H R I (m σ H R q)⟩
theorem pstI_lift {Z : Wd} {μ : Mu} {o : Option Src} {R : It → Hp → Prop} (h : PstI G W σ Z (lift o μ) R) : ∃ s, o = some s ∧ ∀ J Z', Ext Z Z' → Rel G Z' μ → SrcOk G s Z' μ J → R J Z'.H := by
  cases o with
  | none => exact False.elim h
  | some s => exact ⟨s, rfl, h⟩
theorem i_seq (hK : X.K = G.K) {a : CE} {x tg : Expr} (p : PE X x (tE G W (eE C cl a))) : PI X tg x (tI G W (eI C cl (.iseq a))) := by
  refine pi_mono (pi_of_list p) fun σ H R q => ?_
  obtain ⟨Z, ρ, μ, A, q⟩ := q
  refine ⟨Z, ρ, μ, A, step (like_pstI R) (r := eE C cl a ρ μ) A q fun v Z1 μ1 d A1 X1 r1 h1 => ?_⟩
  obtain ⟨s, e, q⟩ := pstI_lift h1
  obtain ⟨xs, hx, e⟩ := Option.map_eq_some_iff.mp (show (items μ1 d).map (fun xs => (⟨xs, guard d xs⟩ : Src)) = some s from e)
  subst e
  obtain ⟨ad, e1, e2⟩ := src_list hK A1.rel hx r1
  refine ⟨ad, e1, ?_⟩
  rcases e2 with ⟨e2, e3⟩ | ⟨e2, e3⟩
  · exact .inl ⟨e2, q _ Z1 (Ext.refl _) A1.rel e3⟩
  · exact .inr ⟨e2, q _ Z1 (Ext.refl _) A1.rel e3⟩
theorem src_range {Z : Wd} {μ : Mu} (lo : Int) (m : Nat) (hm : m ≤ LIM) : SrcOk G ⟨rangeD lo m, []⟩ Z μ (Itr lo m) := by
  have hl : (rangeD lo m).length = m := by unfold rangeD; simp
  refine ⟨by show (rangeD lo m).length ≤ LIM; rw [hl]; exact hm, fun i Z2 μ2 x R2 _ => ?_⟩
  refine ⟨fun d hd => ?_, fun h => by rw [hl] at h; exact h⟩
  have hi : i < m := by rw [← hl]; exact (List.getElem?_eq_some_iff.mp hd).1
  refine ⟨hi, fun x' H' hy => ?_⟩
  obtain ⟨h1, h2⟩ := hy
  refine ⟨Z2, h1.symm, Ext.refl _, R2, ?_⟩
  have : d = .int (lo + (i : Int)) := by
    unfold rangeD at hd
    rw [List.getElem?_map, List.getElem?_range hi] at hd
    exact (Option.some.inj hd).symm
  rw [this, h2]; rfl
theorem b_range : isBlt T n "range" = true → CxE G C T cl n W k X → Gl X "range" ∧ X.mg "range" = none := fun h c => by
  obtain ⟨g1, _, _, g4⟩ := c.blt h
  exact ⟨g1, g4⟩
theorem i_range1 (c : CxE G C T cl n W k X) {a : CE} {x y tg : Expr} (h : callB T n "range" x = some [y]) (p : PE X y (tE G W (eE C cl a))) : PI X tg x (tI G W (eI C cl (.irng1 a))) := by
  obtain ⟨q, pos, rfl, hb, hs⟩ := callB_inv h
  obtain ⟨g1, g4⟩ := b_range hb c
  rw [List.all_cons, Bool.and_eq_true] at hs
  refine pi_mono (pi_range1 g1 g4 (pa_cons p pa_nil (star_of hs.1)) (star_of hs.1)) fun σ H R q => ?_
  obtain ⟨Z, ρ, μ, A, q⟩ := q
  refine ⟨Z, ρ, μ, A, step (like_pstI R) (r := eE C cl a ρ μ) A q fun v Z1 μ1 d A1 X1 r1 h1 => ?_⟩
  obtain ⟨s, e, q⟩ := pstI_lift h1
  unfold srcR1 at e
  split at e
  · rename_i j
    split at e
    · rename_i hj
      cases e
      have ev : v = V.int j := r1
      subst ev
      have hz : j ≤ 16777216 := hj.1
      exact ⟨j, rfl, hj.2, by omega, q _ Z1 (Ext.refl _) A1.rel (src_range 0 _ (by unfold LIM; omega))⟩
    · cases e
  · cases e
theorem rng62_of {i : Int} (h : rng62 i = true) : -(2 ^ 62) ≤ i ∧ i < 2 ^ 62 := by
  unfold rng62 at h
  rw [Bool.and_eq_true] at h
  exact ⟨of_decide_eq_true h.1, of_decide_eq_true h.2⟩
theorem i_range2 (c : CxE G C T cl n W k X) {a b : CE} {x y z tg : Expr} (h : callB T n "range" x = some [y, z]) (p1 : PE X y (tE G W (eE C cl a))) (p2 : PE X z (tE G W (eE C cl b))) : PI X tg x (tI G W (eI C cl (.irng2 a b))) := by
  obtain ⟨q, pos, rfl, hb, hs⟩ := callB_inv h
  obtain ⟨g1, g4⟩ := b_range hb c
  simp only [List.all_cons, List.all_nil, Bool.and_true, Bool.and_eq_true] at hs
  refine pi_mono (pi_range2 g1 g4 (pa_cons p1 (pa_cons p2 pa_nil (star_of hs.2)) (star_of hs.1)) (by rw [star_of hs.1, star_of hs.2]; rfl) (star_of hs.2)) fun σ H R q => ?_
  obtain ⟨Z, ρ, μ, A, q⟩ := q
  refine ⟨Z, ρ, μ, A, step (like_pstI R) (r := eE C cl a ρ μ) A q fun v Z1 μ1 d A1 X1 r1 h1 => ⟨Z1, ρ, μ1, A1, step (like_pstI R) (r := eE C cl b ρ μ1) A1 h1 fun w Z2 μ2 e A2 X2 r2 h2 => ?_⟩⟩
  obtain ⟨s, es, q⟩ := pstI_lift h2
  unfold srcR2 at es
  split at es
  · rename_i i j
    split at es
    · rename_i hj
      cases es
      have ev : v = V.int i := r1
      have ew : w = V.int j := r2
      subst ev ew
      obtain ⟨b1, b2⟩ := rng62_of hj.2.1
      have hz : j - i ≤ 16777216 := hj.1
      obtain ⟨b3, b4⟩ := rng62_of hj.2.2
      exact ⟨i, j, rfl, ⟨b1, b2, b3, b4⟩, q _ Z2 (Ext.refl _) A2.rel (src_range i _ (by unfold LIM; omega))⟩
    · cases es
  · cases es
end
end PyE
set_option maxRecDepth 100000
set_option maxHeartbeats 4000000
/-! zip, enumerate -/
namespace PyE
open PySem PySem.Spec PyProof.Rows L2
section
variable {G : Gi} {C : Cfg} {T : Tb} {cl : Cl} {n : En} {W : WX} {k : Nat} {X : Cx} {σ : L2.St} {H : Hp}
theorem zipD_get {xs ys : List D} {i : Nat} {d : D} (h : (zipD xs ys)[i]? = some d) : ∃ x y, xs[i]? = some x ∧ ys[i]? = some y ∧ d = .tup [x, y] := by
  unfold zipD at h
  rw [List.getElem?_zipWith] at h
  cases hx : xs[i]? with
  | none => rw [hx] at h; cases h
  | some x =>
    cases hy : ys[i]? with
    | none => rw [hx, hy] at h; cases h
    | some y =>
      rw [hx, hy] at h
      exact ⟨x, y, rfl, rfl, (Option.some.inj h).symm⟩
theorem pair_laid {Z : Wd} {μ : Mu} (R : Rel G Z μ) {p : Addr} (hp : Z.H p = none) {x y : D} {u v : V} (r1 : RV G Z x u) (r2 : RV G Z y v) :
    ∃ Z3, Z3.H = upd Z.H p (.tup [u, v]) ∧ Ext Z Z3 ∧ Rel G Z3 μ ∧ RV G Z3 (.tup [x, y]) (.ref p) :=
  ⟨Z.lay p (.tup [u, v]), rfl, Ext.lay hp, R.lay hp, p, [u, v], rfl, .of upd_same, by show 2 ≤ LIM; decide, u, [v], rfl, RV.ext (Ext.lay hp) R _ _ r1, RVs.one (RV.ext (Ext.lay hp) R _ _ r2)⟩
theorem lit_of {Z2 : Wd} {μ μ2 : Mu} {d : D} {v : V} {xs : List D} {Z : Wd} {s : Src} (R : Rel G Z μ) (e : litems μ d = some xs) (r : RV G Z d v) (hs : ∀ p ∈ guard d xs, p ∈ s.gs) (x : ExtB Z Z2) (R2 : Rel G Z2 μ2) (ok : s.okAt μ2 = true) :
    ∃ a ws, v = .ref a ∧ Z2.H a = some (.lst ws) ∧ RVs G Z2 xs ws := by
  have e2 : litems μ2 d = some xs := by
    cases d with
    | ref m => exact okAt_mem ok (hs _ List.mem_cons_self)
    | lst _ => exact e
    | _ => cases e
  obtain ⟨a, ws, e1, q1, q2, _⟩ := R2.litems e2 (RV.extB x d v r)
  exact ⟨a, ws, e1, q1, q2⟩
theorem src_zip (hK : X.K = G.K) {Z : Wd} {μ : Mu} {d e : D} {u v : V} {xs ys : List D} (R : Rel G Z μ) (h1 : litems μ d = some xs) (h2 : litems μ e = some ys) (r1 : RV G Z d u) (r2 : RV G Z e v) :
    ∃ a b vs ws, u = .ref a ∧ v = .ref b ∧ SqL X.K Z.H a vs ∧ SqL X.K Z.H b ws ∧ vs.length = xs.length ∧ ws.length = ys.length ∧ SrcOk G ⟨zipD xs ys, guard d xs ++ guard e ys⟩ Z μ (Itz X.K a b) := by
  obtain ⟨a, vs, rfl, q1, q2, z1⟩ := R.litems h1 r1
  obtain ⟨b, ws, rfl, q3, q4, z2⟩ := R.litems h2 r2
  refine ⟨a, b, vs, ws, rfl, rfl, .of q1, .of q3, q2.length.symm, q4.length.symm, (by show (zipD xs ys).length ≤ LIM; unfold zipD; rw [List.length_zipWith]; omega), fun i Z2 μ2 x R2 ok => ?_⟩
  obtain ⟨a', vs2, e1, w1, w2⟩ := lit_of (s := ⟨zipD xs ys, guard d xs ++ guard e ys⟩) R h1 r1 (fun p hp => List.mem_append_left _ hp) x R2 ok
  obtain ⟨b', ws2, e2, w3, w4⟩ := lit_of (s := ⟨zipD xs ys, guard d xs ++ guard e ys⟩) R h2 r2 (fun p hp => List.mem_append_right _ hp) x R2 ok
  cases e1
  cases e2
  refine ⟨fun t ht => ?_, fun hl => ⟨vs2, ws2, .of w1, .of w3, ?_⟩⟩
  · obtain ⟨x1, y1, hx, hy, rfl⟩ := zipD_get ht
    obtain ⟨p, p1, p2⟩ := w2.get hx
    obtain ⟨q, q1, q2⟩ := w4.get hy
    refine ⟨⟨vs2, ws2, p, q, .of w1, .of w3, p1, q1⟩, fun x' H' hyl => ?_⟩
    obtain ⟨P, px, py, rfl, hn, rfl, f1, f2⟩ := hyl
    have e1 : p = px := by have := f1 vs2 (.of w1); rw [p1] at this; exact Option.some.inj this
    have e2 : q = py := by have := f2 ws2 (.of w3); rw [q1] at this; exact Option.some.inj this
    subst e1 e2
    exact pair_laid R2 hn p2 q2
  · have hl' : (zipD xs ys).length ≤ i := hl
    unfold zipD at hl'
    rw [List.length_zipWith] at hl'
    rw [← w2.length, ← w4.length]
    omega
theorem i_zip (c : CxE G C T cl n W k X) {a b : CE} {x y z tg : Expr} (htg : isTpl tg = true) (h : callB T n "zip" x = some [y, z]) (p1 : PE X y (tE G W (eE C cl a))) (p2 : PE X z (tE G W (eE C cl b))) : PI X tg x (tI G W (eI C cl (.izip false a b))) := by
  obtain ⟨q, pos, rfl, hb, hs⟩ := callB_inv h
  obtain ⟨g1, _, _, g4⟩ := c.blt hb
  simp only [List.all_cons, List.all_nil, Bool.and_true, Bool.and_eq_true] at hs
  cases tg <;> first | cases htg | skip
  refine pi_mono (pi_zip g1 g4 (pa_cons p1 (pa_cons p2 pa_nil (star_of hs.2)) (star_of hs.1)) (star_of hs.1) (stars_plain (by simp [hs.2]))) fun σ H R q => ?_
  obtain ⟨Z, ρ, μ, A, q⟩ := q
  refine ⟨Z, ρ, μ, A, step (like_pstI R) (r := eE C cl a ρ μ) A q fun v Z1 μ1 d A1 X1 r1 h1 => ⟨Z1, ρ, μ1, A1, step (like_pstI R) (r := eE C cl b ρ μ1) A1 h1 fun w Z2 μ2 e A2 X2 r2 h2 => ?_⟩⟩
  obtain ⟨s, es, q⟩ := pstI_lift h2
  obtain ⟨xs, hx, es⟩ := Option.bind_eq_some_iff.mp es
  obtain ⟨ys, hy, es⟩ := Option.bind_eq_some_iff.mp es
  rw [if_neg (fun z => Bool.false_ne_true z.1)] at es
  cases es
  obtain ⟨a', b', vs, ws, rfl, rfl, s1, s2, _, _, ok⟩ := src_zip c.K A2.rel hx hy (RV.ext X2 A1.rel _ _ r1) r2
  exact ⟨a', b', vs, ws, rfl, s1, s2, q _ Z2 (Ext.refl _) A2.rel ok⟩
theorem src_zips (hK : X.K = G.K) {Z : Wd} {μ : Mu} {d e : D} {u v : V} {xs ys : List D} (R : Rel G Z μ) (h1 : litems μ d = some xs) (h2 : litems μ e = some ys) (r1 : RV G Z d u) (r2 : RV G Z e v) (hlen : xs.length = ys.length) :
    ∃ a b vs ws, u = .ref a ∧ v = .ref b ∧ SqL X.K Z.H a vs ∧ SqL X.K Z.H b ws ∧ vs.length = xs.length ∧ ws.length = ys.length ∧ SrcOk G ⟨zipD xs ys, guard d xs ++ guard e ys⟩ Z μ (Itzs X.K a b) := by
  obtain ⟨a, vs, rfl, q1, q2, z1⟩ := R.litems h1 r1
  obtain ⟨b, ws, rfl, q3, q4, z2⟩ := R.litems h2 r2
  refine ⟨a, b, vs, ws, rfl, rfl, .of q1, .of q3, q2.length.symm, q4.length.symm, (by show (zipD xs ys).length ≤ LIM; unfold zipD; rw [List.length_zipWith]; omega), fun i Z2 μ2 x R2 ok => ?_⟩
  obtain ⟨a', vs2, e1, w1, w2⟩ := lit_of (s := ⟨zipD xs ys, guard d xs ++ guard e ys⟩) R h1 r1 (fun p hp => List.mem_append_left _ hp) x R2 ok
  obtain ⟨b', ws2, e2, w3, w4⟩ := lit_of (s := ⟨zipD xs ys, guard d xs ++ guard e ys⟩) R h2 r2 (fun p hp => List.mem_append_right _ hp) x R2 ok
  cases e1
  cases e2
  refine ⟨fun t ht => ?_, fun hl => ⟨vs2, ws2, .of w1, .of w3, ?_⟩⟩
  · obtain ⟨x1, y1, hx, hy, rfl⟩ := zipD_get ht
    obtain ⟨p, p1, p2⟩ := w2.get hx
    obtain ⟨q, q1, q2⟩ := w4.get hy
    refine ⟨⟨vs2, ws2, p, q, .of w1, .of w3, p1, q1⟩, fun x' H' hyl => ?_⟩
    obtain ⟨P, px, py, rfl, hn, rfl, f1, f2⟩ := hyl
    have e1 : p = px := by have := f1 vs2 (.of w1); rw [p1] at this; exact Option.some.inj this
    have e2 : q = py := by have := f2 ws2 (.of w3); rw [q1] at this; exact Option.some.inj this
    subst e1 e2
    exact pair_laid R2 hn p2 q2
  · have hl' : (zipD xs ys).length ≤ i := hl
    unfold zipD at hl'
    rw [List.length_zipWith] at hl'
    rw [← w2.length, ← w4.length]
    exact ⟨by omega, by omega⟩
theorem i_zips (c : CxE G C T cl n W k X) {a b : CE} {x y z tg : Expr} (htg : isTpl tg = true) {w : Str} {q cp kp pos : Pos} {cj : Nat} (hx : x = .Call (.Name w q) [y, z] [⟨some (Str.ofString "strict"), .Constant (.bool true) cj cp, kp⟩] pos) (hw : w = "zip") (hb : isBlt T n w = true)
    (hy : notStar y = true) (hz : notStar z = true) (p1 : PE X y (tE G W (eE C cl a))) (p2 : PE X z (tE G W (eE C cl b))) : PI X tg x (tI G W (eI C cl (.izip true a b))) := by
  subst hx hw
  obtain ⟨g1, _, _, g4⟩ := c.blt hb
  cases tg <;> first | cases htg | skip
  refine pi_mono (pi_zips g1 g4 (pa_cons p1 (pa_cons p2 pa_nil (star_of hz)) (star_of hy)) (star_of hy) (stars_plain (by simp [hy, hz]))) fun σ H R q => ?_
  obtain ⟨Z, ρ, μ, A, q⟩ := q
  refine ⟨Z, ρ, μ, A, step (like_pstI R) (r := eE C cl a ρ μ) A q fun v Z1 μ1 d A1 X1 r1 h1 => ⟨Z1, ρ, μ1, A1, step (like_pstI R) (r := eE C cl b ρ μ1) A1 h1 fun w Z2 μ2 e A2 X2 r2 h2 => ?_⟩⟩
  obtain ⟨s, es, q⟩ := pstI_lift h2
  obtain ⟨xs, hx, es⟩ := Option.bind_eq_some_iff.mp es
  obtain ⟨ys, hy, es⟩ := Option.bind_eq_some_iff.mp es
  split at es
  · cases es
  · rename_i hn
    have hlen : xs.length = ys.length := Decidable.byContradiction fun z => hn ⟨rfl, z⟩
    cases es
    obtain ⟨a', b', vs, ws, rfl, rfl, s1, s2, _, _, ok⟩ := src_zips c.K A2.rel hx hy (RV.ext X2 A1.rel _ _ r1) r2 hlen
    exact ⟨a', b', vs, ws, rfl, s1, s2, q _ Z2 (Ext.refl _) A2.rel ok⟩
theorem enumD_get {xs : List D} {i : Nat} {d : D} (h : (enumD xs)[i]? = some d) : ∃ x, xs[i]? = some x ∧ d = .tup [.int (i : Int), x] := by
  unfold enumD at h
  rw [List.getElem?_zipWith] at h
  cases hx : xs[i]? with
  | none =>
    rw [hx] at h
    cases hr : (List.range xs.length)[i]? with
    | none => rw [hr] at h; cases h
    | some _ => rw [hr] at h; cases h
  | some x =>
    have hi := (List.getElem?_eq_some_iff.mp hx).1
    rw [hx, List.getElem?_range hi] at h
    exact ⟨x, rfl, (Option.some.inj h).symm⟩
theorem src_enum (hK : X.K = G.K) {Z : Wd} {μ : Mu} {d : D} {u : V} {xs : List D} (R : Rel G Z μ) (h1 : litems μ d = some xs) (r1 : RV G Z d u) :
    ∃ a vs, u = .ref a ∧ SqL X.K Z.H a vs ∧ SrcOk G ⟨enumD xs, guard d xs⟩ Z μ (Ite X.K a) := by
  obtain ⟨a, vs, rfl, q1, q2, z1⟩ := R.litems h1 r1
  refine ⟨a, vs, rfl, .of q1, (by show (enumD xs).length ≤ LIM; unfold enumD; rw [List.length_zipWith, List.length_range]; omega), fun i Z2 μ2 x R2 ok => ?_⟩
  obtain ⟨a', vs2, e1, w1, w2⟩ := lit_of (s := ⟨enumD xs, guard d xs⟩) R h1 r1 (fun p hp => hp) x R2 ok
  cases e1
  refine ⟨fun t ht => ?_, fun hl => ⟨vs2, .of w1, ?_⟩⟩
  · obtain ⟨x1, hx, rfl⟩ := enumD_get ht
    obtain ⟨p, p1, p2⟩ := w2.get hx
    refine ⟨⟨vs2, p, .of w1, p1⟩, fun x' H' hyl => ?_⟩
    obtain ⟨P, px, rfl, hn, rfl, f1⟩ := hyl
    have e1 : p = px := by have := f1 vs2 (.of w1); rw [p1] at this; exact Option.some.inj this
    subst e1
    exact pair_laid R2 hn (x := .int (i : Int)) rfl p2
  · have hl' : (enumD xs).length ≤ i := hl
    unfold enumD at hl'
    rw [List.length_zipWith, List.length_range] at hl'
    rw [← w2.length]
    omega
theorem i_enum (c : CxE G C T cl n W k X) {a : CE} {x y tg : Expr} (htg : isTpl tg = true) (h : callB T n "enumerate" x = some [y]) (p1 : PE X y (tE G W (eE C cl a))) : PI X tg x (tI G W (eI C cl (.ienum a))) := by
  obtain ⟨q, pos, rfl, hb, hs⟩ := callB_inv h
  obtain ⟨g1, _, _, g4⟩ := c.blt hb
  simp only [List.all_cons, List.all_nil, Bool.and_true] at hs
  cases tg <;> first | cases htg | skip
  refine pi_mono (pi_enum g1 g4 (pa_cons p1 pa_nil (star_of hs)) (star_of hs)) fun σ H R q => ?_
  obtain ⟨Z, ρ, μ, A, q⟩ := q
  refine ⟨Z, ρ, μ, A, step (like_pstI R) (r := eE C cl a ρ μ) A q fun v Z1 μ1 d A1 X1 r1 h1 => ?_⟩
  obtain ⟨s, es, q⟩ := pstI_lift h1
  obtain ⟨xs, hx, es⟩ := Option.map_eq_some_iff.mp (show (litems μ1 d).map (fun xs => (⟨enumD xs, guard d xs⟩ : Src)) = some s from es)
  cases es
  obtain ⟨a', vs, rfl, s1, ok⟩ := src_enum c.K A1.rel hx r1
  exact ⟨a', vs, rfl, s1, q _ Z1 (Ext.refl _) A1.rel ok⟩
end
end PyE
set_option maxRecDepth 100000
set_option maxHeartbeats 4000000
/-! comprehensions -/
namespace PyE
open PySem PySem.Spec PyProof.Rows L2
section
variable {G : Gi} {C : Cfg} {T : Tb} {cl : Cl} {n : En} {W : WX} {k : Nat} {X : Cx} {σ : L2.St} {H : Hp}
/-- nothing is raised -/
def W0 : WX := fun _ _ _ _ => False
theorem nox_pst {α β : Type} {rel : Wd → α → β → Prop} {Z : Wd} {r : Res α} {Q : β → Hp → Prop} (h : Pst G W σ rel Z r.nox Q) : Pst G W0 σ rel Z r Q := by
  cases r with
  | ok a μ => exact h
  | exc c d μ => exact False.elim h
  | err => exact False.elim h
theorem stepN {α β γ : Type} {P : Res β → Prop} (herr : ¬ P .err) {σ' : L2.St} {rel : Wd → α → γ → Prop} {r : Res α} {f : α → Mu → Res β} {Z : Wd} {ρ : Ro} {μ : Mu} (A : At G Z H σ' ρ μ) (h : P (r.nox.bind f)) {Q : γ → Hp → Prop}
    (hq : ∀ b Z1 μ1 a, At G Z1 Z1.H σ' ρ μ1 → Ext Z Z1 → rel Z1 a b → P (f a μ1) → Q b Z1.H) : Pst G W0 σ' rel Z r Q := by
  cases r with
  | ok a μ1 => exact fun b Z2 x R q => hq b Z2 μ1 a (A.ext x R) x q h
  | exc c d μ1 => exact False.elim (herr h)
  | err => exact False.elim (herr h)
theorem liftN {α β : Type} {P : Res β → Prop} (herr : ¬ P .err) {o : Option α} {k : α → Mu → Res β} {μ : Mu} (h : P ((PyE.lift o μ).bind k)) : ∃ a, o = some a ∧ P (k a μ) := by
  cases o with
  | none => exact False.elim (herr h)
  | some a => exact ⟨a, rfl, h⟩
/-- the block's own surroundings -/
theorem blk_cx (c : CxE G C T cl n W k X) {scope : Scope} (s : Shared) (H : Hp) (Ca : Addr) (l : List (Str × Addr)) (fp : List Addr) : CxE G C T cl (n.blk scope) W0 k (X.blk s H scope (compEnvC scope l Ca X.env) fp) where
  wk := c.wk
  prog := c.prog
  w := c.w
  K := c.K
  mg := c.mg
  base := c.base
  calm := c.calm
  N := c.N
  nd := c.nd
  sc := by
    show relabel scope X.env = relS scope n.sc
    rw [← c.sc]; rfl
  fn := rfl
  room := c.room
  gd := c.gd
  tk := fun u s' ⟨_, _, _, _, _, _, _, _, _, _, _, _, _, _, _, _, z⟩ => False.elim z
/-- a turn's items, gathered -/
def PstL (G : Gi) (W : WX) (σ : L2.St) (Z : Wd) (r : Res (List D)) (Q : VK) : Prop := match r with
  | .ok xs μ' => PrP G Z μ' (.new xs) Q
  | .exc c d μ' => ExP G W σ Z c d μ'
  | .err => False
theorem like_pstL (Q : VK) : Like G W σ (fun Z (r : Res (List D)) => PstL G W σ Z r Q) := ⟨fun Z Z' r X h => by
  cases r with
  | ok xs μ' => exact PrP.base (pr := .new xs) h X
  | exc c d μ' => exact ExP.base h X
  | err => exact h, fun Z c d μ h => h, fun Z h => h⟩
def tL (G : Gi) (W : WX) (m : Ro → Mu → Res (List D)) : TE := fun σ H Q => ∃ Z ρ μ, At G Z H σ ρ μ ∧ PstL G W σ Z (m ρ μ) Q
/-- the comprehension's items -/
noncomputable def eL (C : Cfg) (cl : Cl) (t : Tg) (it c e : CE) (ρ : Ro) (μ : Mu) : Res (List D) := (eI C cl it ρ μ).bind fun s μ0 => compL s.okAt (fun d μ1 => (lift (setT μ1 t d (PyE.wipe ρ t.slots)) μ1).bind fun ρ1 μ2 =>
  (eC C cl c ρ1 μ2).nox.bind fun b μ3 => if b = true then (eE C cl e ρ1 μ3).nox.bind fun x μ4 => .ok [x] μ4 else .ok [] μ3) s.xs μ0
theorem set_own {n : En} {l : List Nat} : (ownOf n.N l).map (·.2) = l := by
  unfold ownOf
  rw [List.map_map]
  induction l with
  | nil => rfl
  | cons a r ih => rw [List.map_cons, ih]; rfl
/-! ### a list that nobody knows yet -/
section
variable {Z Z2 : Wd} {μ : Mu} {a : Addr} {vs : List V}
def Wd.drop (Z : Wd) (a : Addr) : Wd := { Z with H := fun b => if b = a then none else Z.H b }
theorem drop_ne {b : Addr} (h : b ≠ a) : (Z.drop a).H b = Z.H b := if_neg h
theorem drop_same : (Z.drop a).H a = none := if_pos rfl
structure Lone (Z : Wd) (a : Addr) (vs : List V) : Prop where
  at_ : Z.H a = some (.lst vs)
  th : a ∉ Z.th
  fz : ¬ Z.S a
theorem Lone.upd_drop (L : Lone Z a vs) {o : HO} : upd (Z.drop a).H a o = upd Z.H a o := by
  funext b
  by_cases e : b = a
  · rw [e, upd_same, upd_same]
  · rw [upd_ne e, upd_ne e, drop_ne e]
theorem Lone.sq (L : Lone Z a vs) {b : Addr} {ws : List V} (h : SqT G.K Z.H b ws) : SqT G.K (Z.drop a).H b ws := by
  rcases h with (h | ⟨o, h⟩) | h
  · exact .inl (.inl (by rw [drop_ne (fun e => by rw [e, L.at_] at h; cases h)]; exact h))
  · exact .inl (.inr ⟨o, by rw [drop_ne (fun e => by rw [e, L.at_] at h; cases h)]; exact h⟩)
  · exact .inr h
mutual
theorem RV.dropped (L : Lone Z a vs) : ∀ (d : D) (v : V), RV G Z d v → RV G (Z.drop a) d v
  | .none, _, h => h
  | .bl _, _, h => h
  | .int _, _, h => h
  | .str _, _, h => h
  | .fn _, _, h => h
  | .tup ds, v, h => by
    obtain ⟨b, ws, e, q, z, r⟩ := h
    exact ⟨b, ws, e, L.sq q, z, RVs.dropped L ds ws r⟩
  | .lst ds, v, h => by
    obtain ⟨b, ws, e, s, q, z, r⟩ := h
    exact ⟨b, ws, e, s, by rw [drop_ne (fun e => L.fz (by rw [← e]; exact s))]; exact q, z, RVs.dropped L ds ws r⟩
  | .scr xs, v, h => by
    obtain ⟨b, e, q, z⟩ := h
    refine ⟨b, e, ?_, z⟩
    rcases q with ⟨o, q⟩ | q
    · exact .inl ⟨o, by rw [drop_ne (fun e => by rw [e, L.at_] at q; cases q)]; exact q⟩
    · exact .inr q
  | .ref n, v, h => h
  | .dct, v, h => by
    obtain ⟨b, e, q⟩ := h
    exact ⟨b, e, by rw [drop_ne (fun e => by rw [e, L.at_] at q; cases q)]; exact q⟩
  | .exc c d, v, h => by
    obtain ⟨k, b, dd, w, e, q1, q2, r⟩ := h
    exact ⟨k, b, dd, w, e, by rw [drop_ne (fun e => by rw [e, L.at_] at q1; cases q1)]; exact q1, by rw [drop_ne (fun e => by rw [e, L.at_] at q2; cases q2)]; exact q2, RV.dropped L d w r⟩
theorem RVs.dropped (L : Lone Z a vs) : ∀ (ds : List D) (ws : List V), RVs G Z ds ws → RVs G (Z.drop a) ds ws
  | [], _, h => h
  | d :: ds, ws, h => by
    obtain ⟨v, r, e, h1, h2⟩ := h
    exact ⟨v, r, e, RV.dropped L d v h1, RVs.dropped L ds r h2⟩
end
theorem Rel.dropped (L : Lone Z a vs) (R : Rel G Z μ) : Rel G (Z.drop a) μ := ⟨R.len, R.nd, fun n b ds h1 h2 => by
  obtain ⟨ws, q1, q2, q3⟩ := R.cell n b ds h1 h2
  exact ⟨ws, by rw [drop_ne (fun e => L.th (by rw [← e]; exact List.mem_of_getElem? h1))]; exact q1, RVs.dropped L _ _ q2, q3⟩, R.sep, fun b h => by
  rw [drop_ne (fun e => L.fz (by rw [← e]; exact h))]; exact R.has b h⟩
theorem SE.dropped (L : Lone Z a vs) {ρ : Ro} (s : SE G Z σ ρ) : SE G (Z.drop a) σ ρ := ⟨s.len, fun i d h => by
  obtain ⟨v, e, r⟩ := s.at_ i d h
  exact ⟨v, e, RV.dropped L d v r⟩⟩
theorem At.dropped (L : Lone Z a vs) {ρ : Ro} (A : At G Z H σ ρ μ) : At G (Z.drop a) (Z.drop a).H σ ρ μ := ⟨rfl, A.se.dropped L, A.rel.dropped L⟩
theorem lone_lay (R : Rel G Z μ) (h : Z.H a = none) : Lone (Z.lay a (.lst vs)) a vs := ⟨upd_same, fun q => by
  obtain ⟨ws, e⟩ := R.atCell q
  rw [h] at e
  exact absurd e (by simp), fun q => R.has a q h⟩
theorem Lone.ext (L : Lone Z a vs) (X : Ext Z Z2) : Lone Z2 a vs := ⟨X.keep _ _ L.at_ L.th, fun q => (X.fresh a q).elim L.th (fun z => by rw [L.at_] at z; cases z), fun q => (X.new a q).elim L.fz (fun z => by rw [L.at_] at z; cases z)⟩
theorem Ext.dropped (h : Z.H a = none) (X : Ext (Z.lay a (.lst vs)) Z2) : Ext Z (Z2.drop a) where
  pre := X.pre
  fresh := fun b q => (X.fresh b q).elim .inl fun z => .inr ((Ext.lay h).dom b z)
  sub := fun b q => X.sub b q
  new := fun b q => (X.new b q).elim .inl fun z => .inr ((Ext.lay h).dom b z)
  keep := fun b o q n => by
    have hb : b ≠ a := ne_of_none q h
    rw [drop_ne hb]
    exact X.keep b o (by show upd Z.H a _ b = _; rw [upd_ne hb]; exact q) n
  dom := fun b q => by
    by_cases e : b = a
    · rw [e]; exact h
    · rw [drop_ne e] at q
      exact (Ext.lay h).dom b (X.dom b q)
end
theorem SE.wiped {Z : Wd} {ρ : Ro} (s : SE G Z σ ρ) (l : List Nat) : SE G Z (L2.wipe σ l) (PyE.wipe ρ l) := s.wipe l
/-- the list under way -/
theorem lc_read {t : Tg} {it c e : CE} {Q : VK} (h : tL G W (eL C cl t it c e) σ H Q) :
    tLc (tI G W (eI C cl it)) (gT G t) (tT G W0 (eC C cl c)) (tE G W0 (eE C cl e)) t.slots σ H Q := by
  obtain ⟨Z, ρ, μ, A, h⟩ := h
  have L := like_pstL (G := G) (W := W) (σ := σ) Q
  let f : D → Mu → Res (List D) := fun d μ1 => (lift (setT μ1 t d (PyE.wipe ρ t.slots)) μ1).bind fun ρ1 μ2 =>
    (eC C cl c ρ1 μ2).nox.bind fun b μ3 => if b = true then (eE C cl e ρ1 μ3).nox.bind fun x μ4 => .ok [x] μ4 else .ok [] μ3
  refine ⟨Z, ρ, μ, A, ?_⟩
  have h' : PstL G W σ Z ((eI C cl it ρ μ).bind fun s μ0 => compL s.okAt f s.xs μ0) Q := h
  revert h'
  cases eI C cl it ρ μ with
  | err => exact fun h' => h'
  | exc c d μ1 => exact fun h' => h'
  | ok s μ0 =>
    intro h' J Z1 x1 R1 ok1 D hD
    obtain ⟨hz, ok1⟩ := ok1
    have h1 : PstL G W σ Z1 (compL s.okAt f s.xs μ0) Q := L.base _ _ _ x1 h'
    refine ⟨fun i m H => m = s.xs.length - i ∧ i ≤ s.xs.length ∧ ∃ Z2 μ2 acc vs, H = upd Z2.H D (.lst vs) ∧ Z2.H D = none ∧ At G Z2 Z2.H σ ρ μ2 ∧ Ext Z1 Z2 ∧ RVs G Z2 acc vs ∧ acc.length ≤ i ∧
      PstL G W σ Z2 ((compL s.okAt f (s.xs.drop i) μ2).bind fun r μ3 => .ok (acc ++ r) μ3) Q, ⟨s.xs.length, ?_⟩, ?_⟩
    · refine ⟨rfl, Nat.zero_le _, Z1, μ0, [], [], rfl, hD, A.ext x1 R1, Ext.refl _, rfl, Nat.le_refl _, ?_⟩
      rw [List.drop_zero]
      have e0 : ((compL s.okAt f s.xs μ0).bind fun r μ3 => .ok ([] ++ r) μ3) = compL s.okAt f s.xs μ0 := by cases compL s.okAt f s.xs μ0 <;> rfl
      rw [e0]; exact h1
    · rintro i m H ⟨rfl, hi, Z2, μ2, acc, vs, rfl, hn, A2, x2, rv, ha, hp⟩
      have A3 : At G (Z2.lay D (.lst vs)) (Z2.lay D (.lst vs)).H σ ρ μ2 := A2.ext (Ext.lay hn) (A2.rel.lay hn)
      have X3 : Ext Z1 (Z2.lay D (.lst vs)) := x2.trans (Ext.lay hn)
      by_cases he : i = s.xs.length
      · left
        rw [he, List.drop_length] at hp
        have hp' : PstL G W σ Z2 ((if s.okAt μ2 = true then Res.ok [] μ2 else .err).bind fun r μ3 => .ok (acc ++ r) μ3) Q := hp
        by_cases hk : s.okAt μ2 = true
        · rw [if_pos hk] at hp'
          have hp2 : PrP G Z2 μ2 (.new (acc ++ [])) Q := hp'
          rw [List.append_nil] at hp2
          refine ⟨((ok1 i _ μ2 (X3.b R1) A3.rel hk).2 (by rw [he]; exact Nat.le_refl _)), ?_⟩
          exact hp2 D vs Z2 (Ext.refl _) A2.rel hn rv (by omega)
        · rw [if_neg hk] at hp'
          exact False.elim hp'
      · right
        have hlt : i < s.xs.length := by omega
        obtain ⟨d, hd⟩ : ∃ d, s.xs[i]? = some d := ⟨_, List.getElem?_eq_getElem hlt⟩
        have hdr : s.xs.drop i = d :: s.xs.drop (i + 1) := by
          rw [List.drop_eq_getElem_cons hlt]
          have := List.getElem?_eq_getElem hlt
          rw [hd] at this
          rw [← Option.some.inj this]
        rw [hdr] at hp
        have hp' : PstL G W σ Z2 ((if s.okAt μ2 = true then (f d μ2).bind fun o μ1 => (compL s.okAt f (s.xs.drop (i + 1)) μ1).bind fun r μ2 => .ok (o ++ r) μ2 else .err).bind fun r μ3 => .ok (acc ++ r) μ3) Q := hp
        by_cases hk : s.okAt μ2 = true
        · rw [if_pos hk, bind_bind] at hp'
          obtain ⟨og, oy⟩ := (ok1 i _ μ2 (X3.b R1) A3.rel hk).1 d hd
          refine ⟨og, fun H' => ∃ m', m' < s.xs.length - i ∧ (m' = s.xs.length - (i + 1) ∧ i + 1 ≤ s.xs.length ∧ ∃ Z2 μ2 acc vs, H' = upd Z2.H D (.lst vs) ∧ Z2.H D = none ∧ At G Z2 Z2.H σ ρ μ2 ∧ Ext Z1 Z2 ∧ RVs G Z2 acc vs ∧ acc.length ≤ i + 1 ∧
            PstL G W σ Z2 ((compL s.okAt f (s.xs.drop (i + 1)) μ2).bind fun r μ3 => .ok (acc ++ r) μ3) Q), fun H' q => q, fun x H' hy => ?_⟩
          obtain ⟨Z3, rfl, X4, R4, r4⟩ := oy x H' hy
          have L3 : Lone Z3 D vs := (lone_lay A2.rel hn).ext X4
          have A4 : At G Z3 Z3.H (L2.wipe σ t.slots) (PyE.wipe ρ t.slots) μ2 := ⟨rfl, (A3.se.ext X4 A3.rel).wipe _, R4⟩
          have X5 : Ext Z2 Z3 := (Ext.lay hn).trans X4
          let P : Res (List PyE.D) → Prop := fun r => PstL G W σ Z2 r Q
          have herr : ¬ P .err := fun z => z
          have hq : P ((f d μ2).bind fun o μ1 => ((compL s.okAt f (s.xs.drop (i + 1)) μ1).bind fun r μ2 => .ok (o ++ r) μ2).bind fun r μ3 => .ok (acc ++ r) μ3) := hp'
          have hf : (f d μ2) = ((lift (setT μ2 t d (PyE.wipe ρ t.slots)) μ2).bind fun ρ1 μ2 =>
            (eC C cl c ρ1 μ2).nox.bind fun b μ3 => if b = true then (eE C cl e ρ1 μ3).nox.bind fun x μ4 => .ok [x] μ4 else .ok [] μ3) := rfl
          rw [hf, bind_bind] at hq
          obtain ⟨ρ1, hs, hq⟩ := liftN herr hq
          rw [bind_bind] at hq
          refine ⟨Z3, PyE.wipe ρ t.slots, μ2, d, ρ1, A4, r4, hs, fun σ' s' w => ⟨?_, ?_⟩⟩
          · rw [w t.slots fun i hi => hi]
            have wp : ∀ (l : List Nat) (σ : L2.St), (∀ i ∈ l, i ∈ t.slots) → L2.wipe (L2.wipe σ l) t.slots = L2.wipe σ t.slots := by
              intro l
              induction l with
              | nil => intro σ _; rfl
              | cons a r ih =>
                intro σ hl
                show L2.wipe ((L2.wipe σ r).set a none) t.slots = _
                rw [wipe_set (hl a List.mem_cons_self)]
                exact ih σ fun i hi => hl i (List.mem_cons_of_mem _ hi)
            exact wp _ _ fun i hi => hi
          · have A5 : At G Z3 Z3.H σ' ρ1 μ2 := ⟨rfl, s', R4⟩
            have A0 : At G Z3 Z3.H σ ρ μ2 := A3.ext X4 R4
            refine ⟨Z3, ρ1, μ2, A5, stepN herr A5 hq fun b Z4 μ4 b' A6 X6 e6 hq => ?_⟩
            subst e6
            have A0' : At G Z4 Z4.H σ ρ μ4 := A0.ext X6 A6.rel
            have hq' : P ((if b' = true then (eE C cl e ρ1 μ4).nox.bind fun x μ4 => .ok [x] μ4 else .ok [] μ4).bind fun o μ1 => ((compL s.okAt f (s.xs.drop (i + 1)) μ1).bind fun r μ2 => .ok (o ++ r) μ2).bind fun r μ3 => .ok (acc ++ r) μ3) := hq
            cases b' with
            | true =>
              rw [if_pos rfl]
              rw [if_pos rfl, bind_bind] at hq'
              refine ⟨Z4, ρ1, μ4, A6, stepN herr A6 hq' fun y Z5 μ5 yd A7 X7 r7 hq => ?_⟩
              have L5 : Lone Z5 D vs := (L3.ext X6).ext X7
              have X8 : Ext (Z2.lay D (.lst vs)) Z5 := (X4.trans X6).trans X7
              have A8 : At G Z5 Z5.H σ ρ μ5 := A0'.ext X7 A7.rel
              refine ⟨vs, L5.at_, by rw [← rv.length, ← LIM_eq]; omega, s.xs.length - (i + 1), by omega, rfl, hlt, Z5.drop D, μ5, acc ++ [yd], vs ++ [y], (L5.upd_drop).symm, drop_same, A8.dropped L5, x2.trans (Ext.dropped hn X8), ?_, by rw [List.length_append, List.length_singleton]; omega, ?_⟩
              · have q1 : RVs G Z5 acc vs := RVs.ext X8 (A2.rel.lay hn) _ _ (RVs.ext (Ext.lay hn) A2.rel _ _ rv)
                exact RVs.dropped L5 _ _ (q1.append (.one r7))
              · have e1 : ((compL s.okAt f (s.xs.drop (i + 1)) μ5).bind fun r μ3 => Res.ok (acc ++ [yd] ++ r) μ3) = ((compL s.okAt f (s.xs.drop (i + 1)) μ5).bind fun r μ2 => Res.ok ([yd] ++ r) μ2).bind fun r μ3 => .ok (acc ++ r) μ3 := by
                  rw [bind_bind]
                  congr 1
                  funext r μ3
                  show Res.ok (acc ++ [yd] ++ r) μ3 = Res.ok (acc ++ ([yd] ++ r)) μ3
                  rw [List.append_assoc]
                rw [e1]
                exact L.base _ _ _ (Ext.dropped hn X8) hq
            | false =>
              rw [if_neg Bool.false_ne_true]
              rw [if_neg Bool.false_ne_true] at hq'
              have L5 : Lone Z4 D vs := L3.ext X6
              have X8 : Ext (Z2.lay D (.lst vs)) Z4 := X4.trans X6
              refine ⟨s.xs.length - (i + 1), by omega, rfl, hlt, Z4.drop D, μ4, acc, vs, ?_, drop_same, A0'.dropped L5, x2.trans (Ext.dropped hn X8), ?_, by omega, ?_⟩
              · rw [L5.upd_drop]
                funext b
                by_cases e : b = D
                · rw [e, upd_same]; exact L5.at_
                · rw [upd_ne e]
              · exact RVs.dropped L5 _ _ (RVs.ext X8 (A2.rel.lay hn) _ _ (RVs.ext (Ext.lay hn) A2.rel _ _ rv))
              · have e1 : ((compL s.okAt f (s.xs.drop (i + 1)) μ4).bind fun r μ3 => Res.ok (acc ++ r) μ3) = ((compL s.okAt f (s.xs.drop (i + 1)) μ4).bind fun r μ2 => Res.ok ([] ++ r) μ2).bind fun r μ3 => .ok (acc ++ r) μ3 := by
                  rw [bind_bind]; rfl
                rw [e1]
                exact L.base _ _ _ (Ext.dropped hn X8) hq'
        · rw [if_neg hk] at hp'
          exact False.elim hp'
/-! ### two clauses -/
theorem L2wipe_app (σ : L2.St) (a b : List Nat) : L2.wipe σ (a ++ b) = L2.wipe (L2.wipe σ b) a := by
  induction a with
  | nil => rfl
  | cons x r ih =>
    show (L2.wipe σ (r ++ b)).set x none = (L2.wipe (L2.wipe σ b) r).set x none
    rw [ih]
theorem wipe_idem {l : List Nat} : ∀ {r : List Nat} {σ : L2.St}, (∀ i ∈ r, i ∈ l) → L2.wipe (L2.wipe σ r) l = L2.wipe σ l
  | [], _, _ => rfl
  | a :: r, σ, h => by
    show L2.wipe ((L2.wipe σ r).set a none) l = _
    rw [wipe_set (h a List.mem_cons_self)]
    exact wipe_idem fun i hi => h i (List.mem_cons_of_mem _ hi)
theorem compL_nx {ok : Mu → Bool} {f : D → Mu → Res (List D)} (hf : ∀ d μ c v μ', f d μ ≠ .exc c v μ') : ∀ (xs : List D) (μ : Mu) (c : Fid) (v : D) (μ' : Mu), compL ok f xs μ ≠ .exc c v μ'
  | [], μ, c, v, μ', h => by
    have h' : (if ok μ = true then Res.ok [] μ else .err) = .exc c v μ' := h
    split at h' <;> cases h'
  | d :: ds, μ, c, v, μ', h => by
    have h' : (if ok μ = true then (f d μ).bind fun o μ1 => (compL ok f ds μ1).bind fun r μ2 => .ok (o ++ r) μ2 else .err) = .exc c v μ' := h
    split at h'
    · cases e : f d μ with
      | err => rw [e] at h'; cases h'
      | exc a b m => exact hf _ _ _ _ _ e
      | ok o μ1 =>
        rw [e] at h'
        have h2 : ((compL ok f ds μ1).bind fun r μ2 => Res.ok (o ++ r) μ2) = .exc c v μ' := h'
        cases e2 : compL ok f ds μ1 with
        | err => rw [e2] at h2; cases h2
        | exc a b m => exact compL_nx hf _ _ _ _ _ e2
        | ok r μ2 => rw [e2] at h2; cases h2
    · cases h'
theorem bind_nx {α β : Type} {r : Res α} {f : α → Mu → Res β} (h1 : ∀ c v μ, r ≠ .exc c v μ) (h2 : ∀ a μ c v μ', f a μ ≠ .exc c v μ') : ∀ c v μ, r.bind f ≠ .exc c v μ := fun c v μ h => by
  cases r with
  | ok a m => exact h2 _ _ _ _ _ h
  | exc a b m => exact h1 _ _ _ rfl
  | err => cases h
theorem nox_nx {α : Type} {r : Res α} : ∀ c v μ, r.nox ≠ .exc c v μ := fun c v μ h => by cases r <;> cases h
theorem lift_nx {α : Type} {o : Option α} {μ : Mu} : ∀ c v μ', PyE.lift o μ ≠ .exc c v μ' := fun c v μ' h => by cases o <;> cases h
theorem ExtB.relay {Z : Wd} {a : Addr} {vs : List V} {o : HO} (L : Lone Z a vs) : ExtB Z ((Z.drop a).lay a o) where
  pre := List.prefix_refl _
  sub := fun _ h => h
  keepN := fun b u h m => by
    have hb : b ≠ a := fun e => by rw [e, L.at_] at h; cases h; exact m vs rfl
    show upd (Z.drop a).H a o b = _
    rw [upd_ne hb, drop_ne hb]; exact h
  keepS := fun b u s h => by
    have hb : b ≠ a := fun e => L.fz (by rw [← e]; exact s)
    show upd (Z.drop a).H a o b = _
    rw [upd_ne hb, drop_ne hb]; exact h
theorem Lone.undrop {Z : Wd} {a : Addr} {vs : List V} (L : Lone Z a vs) : upd (Z.drop a).H a (.lst vs) = Z.H := by
  rw [L.upd_drop]
  funext b
  by_cases e : b = a
  · rw [e, upd_same]; exact L.at_.symm
  · rw [upd_ne e]
noncomputable def fIn (C : Cfg) (cl : Cl) (t1 : Tg) (c e : CE) (ρ1 : Ro) : D → Mu → Res (List D) := fun d1 μ4 => (lift (setT μ4 t1 d1 (PyE.wipe ρ1 t1.slots)) μ4).bind fun ρ2 μ5 =>
  (eC C cl c ρ2 μ5).nox.bind fun b μ6 => if b = true then (eE C cl e ρ2 μ6).nox.bind fun x μ7 => .ok [x] μ7 else .ok [] μ6
noncomputable def fOut (C : Cfg) (cl : Cl) (t t1 : Tg) (it1 c e : CE) (ρ : Ro) : D → Mu → Res (List D) := fun d μ1 => (lift (setT μ1 t d (PyE.wipe (PyE.wipe ρ t1.slots) t.slots)) μ1).bind fun ρ1 μ2 =>
  (eI C cl it1 ρ1 μ2).nox.bind fun s1 μ3 => compL s1.okAt (fIn C cl t1 c e ρ1) s1.xs μ3
theorem fIn_nx {t1 : Tg} {c e : CE} {ρ1 : Ro} : ∀ d μ k v μ', fIn C cl t1 c e ρ1 d μ ≠ .exc k v μ' := fun d μ => bind_nx lift_nx fun ρ2 μ5 => bind_nx nox_nx fun b μ6 c v μ' => by
  cases b with
  | true => rw [if_pos rfl]; exact bind_nx nox_nx (fun x μ7 c v μ' h => by cases h) c v μ'
  | false => rw [if_neg Bool.false_ne_true]; intro h; cases h
theorem fOut_nx {t t1 : Tg} {it1 c e : CE} {ρ : Ro} : ∀ d μ k v μ', fOut C cl t t1 it1 c e ρ d μ ≠ .exc k v μ' := fun d μ => bind_nx lift_nx fun ρ1 μ2 => bind_nx nox_nx fun s1 μ3 => compL_nx fIn_nx _ _
noncomputable def eL2 (C : Cfg) (cl : Cl) (t : Tg) (it : CE) (t1 : Tg) (it1 c e : CE) (ρ : Ro) (μ : Mu) : Res (List D) := (eI C cl it ρ μ).bind fun s μ0 => (compL s.okAt (fOut C cl t t1 it1 c e ρ) s.xs μ0).bind chk
end
end PyE
set_option maxRecDepth 100000
set_option maxHeartbeats 4000000
/-! a comprehension with two clauses -/
namespace PyE
open PySem PySem.Spec PyProof.Rows L2
section
variable {G : Gi} {C : Cfg} {T : Tb} {cl : Cl} {n : En} {W : WX} {k : Nat} {X : Cx} {σ : L2.St} {H : Hp}
/-- what is still to do in the outer walk, with so much gathered -/
noncomputable def kOut (C : Cfg) (cl : Cl) (t t1 : Tg) (it1 c e : CE) (ρ : Ro) (s : Src) (i : Nat) (acc : List D) (μ : Mu) : Res (List D) := (compL s.okAt (fOut C cl t t1 it1 c e ρ) (s.xs.drop i) μ).bind fun r μ3 => chk (acc ++ r) μ3
noncomputable def kIn (C : Cfg) (cl : Cl) (t t1 : Tg) (it1 c e : CE) (ρ : Ro) (s : Src) (i : Nat) (ρ1 : Ro) (s1 : Src) (j : Nat) (acc : List D) (μ : Mu) : Res (List D) := (compL s1.okAt (fIn C cl t1 c e ρ1) (s1.xs.drop j) μ).bind fun r μ' => kOut C cl t t1 it1 c e ρ s i (acc ++ r) μ'
theorem chk_nx {xs : List D} {μ : Mu} : ∀ c v μ', chk xs μ ≠ .exc c v μ' := fun c v μ' h => by
  unfold chk at h
  split at h <;> cases h
section
variable {t t1 : Tg} {it1 c e : CE} {ρ : Ro} {s : Src}
theorem kOut_len {P : Res (List D) → Prop} (he : ¬ P .err) {i : Nat} {acc : List D} {μ : Mu} (h : P (kOut C cl t t1 it1 c e ρ s i acc μ)) : acc.length ≤ LIM := by
  unfold kOut at h
  cases q : compL s.okAt (fOut C cl t t1 it1 c e ρ) (s.xs.drop i) μ with
  | err => rw [q] at h; exact absurd h he
  | exc a b m => exact absurd q (compL_nx fOut_nx _ _ _ _ _)
  | ok r μ1 =>
    rw [q] at h
    have h' : P (chk (acc ++ r) μ1) := h
    unfold chk at h'
    by_cases z : (acc ++ r).length ≤ LIM
    · rw [List.length_append] at z; omega
    · rw [if_neg z] at h'; exact absurd h' he
theorem kIn_len {P : Res (List D) → Prop} (he : ¬ P .err) {i j : Nat} {ρ1 : Ro} {s1 : Src} {acc : List D} {μ : Mu} (h : P (kIn C cl t t1 it1 c e ρ s i ρ1 s1 j acc μ)) : acc.length ≤ LIM := by
  unfold kIn at h
  cases q : compL s1.okAt (fIn C cl t1 c e ρ1) (s1.xs.drop j) μ with
  | err => rw [q] at h; exact absurd h he
  | exc a b m => exact absurd q (compL_nx fIn_nx _ _ _ _ _)
  | ok r μ1 =>
    rw [q] at h
    have := kOut_len he (show P (kOut C cl t t1 it1 c e ρ s i (acc ++ r) μ1) from h)
    rw [List.length_append] at this
    omega
theorem drop_at {xs : List D} {i : Nat} (h : i < xs.length) : ∃ d, xs[i]? = some d ∧ xs.drop i = d :: xs.drop (i + 1) := ⟨xs[i], List.getElem?_eq_getElem h, List.drop_eq_getElem_cons h⟩
theorem kOut_end {P : Res (List D) → Prop} (he : ¬ P .err) {i : Nat} {acc : List D} {μ : Mu} (hi : i = s.xs.length) (h : P (kOut C cl t t1 it1 c e ρ s i acc μ)) : s.okAt μ = true ∧ P (.ok acc μ) ∧ acc.length ≤ LIM := by
  have hl := kOut_len he h
  unfold kOut at h
  rw [hi, List.drop_length] at h
  have h' : P ((if s.okAt μ = true then Res.ok [] μ else .err).bind fun r μ3 => chk (acc ++ r) μ3) := h
  by_cases hk : s.okAt μ = true
  · rw [if_pos hk] at h'
    have h2 : P (chk (acc ++ []) μ) := h'
    rw [List.append_nil] at h2
    unfold chk at h2
    rw [if_pos hl] at h2
    exact ⟨hk, h2, hl⟩
  · rw [if_neg hk] at h'
    exact absurd h' he
theorem kOut_turn {P : Res (List D) → Prop} (he : ¬ P .err) {i : Nat} {acc : List D} {μ : Mu} {d : D} (hd : s.xs.drop i = d :: s.xs.drop (i + 1)) (h : P (kOut C cl t t1 it1 c e ρ s i acc μ)) :
    s.okAt μ = true ∧ ∃ ρ1, setT μ t d (PyE.wipe (PyE.wipe ρ t1.slots) t.slots) = some ρ1 ∧ P ((eI C cl it1 ρ1 μ).nox.bind fun s1 μ3 => kIn C cl t t1 it1 c e ρ s (i + 1) ρ1 s1 0 acc μ3) := by
  unfold kOut at h
  rw [hd] at h
  have h' : P ((if s.okAt μ = true then (fOut C cl t t1 it1 c e ρ d μ).bind fun o μ1 => (compL s.okAt (fOut C cl t t1 it1 c e ρ) (s.xs.drop (i + 1)) μ1).bind fun r μ2 => .ok (o ++ r) μ2 else .err).bind fun r μ3 => chk (acc ++ r) μ3) := h
  by_cases hk : s.okAt μ = true
  · rw [if_pos hk, bind_bind] at h'
    have hf : fOut C cl t t1 it1 c e ρ d μ = (lift (setT μ t d (PyE.wipe (PyE.wipe ρ t1.slots) t.slots)) μ).bind fun ρ1 μ2 => (eI C cl it1 ρ1 μ2).nox.bind fun s1 μ3 => compL s1.okAt (fIn C cl t1 c e ρ1) s1.xs μ3 := rfl
    rw [hf, bind_bind] at h'
    obtain ⟨ρ1, e1, h2⟩ := liftN he h'
    refine ⟨hk, ρ1, e1, ?_⟩
    rw [bind_bind] at h2
    have e2 : ((eI C cl it1 ρ1 μ).nox.bind fun s1 μ3 => kIn C cl t t1 it1 c e ρ s (i + 1) ρ1 s1 0 acc μ3) = (eI C cl it1 ρ1 μ).nox.bind fun s1 μ3 => (compL s1.okAt (fIn C cl t1 c e ρ1) s1.xs μ3).bind fun o μ1 => ((compL s.okAt (fOut C cl t t1 it1 c e ρ) (s.xs.drop (i + 1)) μ1).bind fun r μ2 => Res.ok (o ++ r) μ2).bind fun r μ3 => chk (acc ++ r) μ3 := by
      congr 1
      funext s1 μ3
      unfold kIn kOut
      rw [List.drop_zero]
      congr 1
      funext o μ1
      rw [bind_bind]
      congr 1
      funext r μ2
      show chk (acc ++ o ++ r) μ2 = chk (acc ++ (o ++ r)) μ2
      rw [List.append_assoc]
    rw [e2]
    exact h2
  · rw [if_neg hk] at h'
    exact absurd h' he
theorem kIn_end {P : Res (List D) → Prop} (he : ¬ P .err) {i j : Nat} {ρ1 : Ro} {s1 : Src} {acc : List D} {μ : Mu} (hj : j = s1.xs.length) (h : P (kIn C cl t t1 it1 c e ρ s i ρ1 s1 j acc μ)) : s1.okAt μ = true ∧ P (kOut C cl t t1 it1 c e ρ s i acc μ) := by
  unfold kIn at h
  rw [hj, List.drop_length] at h
  have h' : P ((if s1.okAt μ = true then Res.ok [] μ else .err).bind fun r μ' => kOut C cl t t1 it1 c e ρ s i (acc ++ r) μ') := h
  by_cases hk : s1.okAt μ = true
  · rw [if_pos hk] at h'
    have h2 : P (kOut C cl t t1 it1 c e ρ s i (acc ++ []) μ) := h'
    rw [List.append_nil] at h2
    exact ⟨hk, h2⟩
  · rw [if_neg hk] at h'
    exact absurd h' he
theorem kIn_turn {P : Res (List D) → Prop} (he : ¬ P .err) {i j : Nat} {ρ1 : Ro} {s1 : Src} {acc : List D} {μ : Mu} {d : D} (hd : s1.xs.drop j = d :: s1.xs.drop (j + 1)) (h : P (kIn C cl t t1 it1 c e ρ s i ρ1 s1 j acc μ)) :
    s1.okAt μ = true ∧ ∃ ρ2, setT μ t1 d (PyE.wipe ρ1 t1.slots) = some ρ2 ∧ P ((eC C cl c ρ2 μ).nox.bind fun b μ6 => if b = true then (eE C cl e ρ2 μ6).nox.bind fun x μ7 => kIn C cl t t1 it1 c e ρ s i ρ1 s1 (j + 1) (acc ++ [x]) μ7 else kIn C cl t t1 it1 c e ρ s i ρ1 s1 (j + 1) acc μ6) := by
  unfold kIn at h
  rw [hd] at h
  have h' : P ((if s1.okAt μ = true then (fIn C cl t1 c e ρ1 d μ).bind fun o μ1 => (compL s1.okAt (fIn C cl t1 c e ρ1) (s1.xs.drop (j + 1)) μ1).bind fun r μ2 => .ok (o ++ r) μ2 else .err).bind fun r μ' => kOut C cl t t1 it1 c e ρ s i (acc ++ r) μ') := h
  by_cases hk : s1.okAt μ = true
  · rw [if_pos hk, bind_bind] at h'
    have hf : fIn C cl t1 c e ρ1 d μ = (lift (setT μ t1 d (PyE.wipe ρ1 t1.slots)) μ).bind fun ρ2 μ5 => (eC C cl c ρ2 μ5).nox.bind fun b μ6 => if b = true then (eE C cl e ρ2 μ6).nox.bind fun x μ7 => .ok [x] μ7 else .ok [] μ6 := rfl
    rw [hf, bind_bind] at h'
    obtain ⟨ρ2, e1, h2⟩ := liftN he h'
    refine ⟨hk, ρ2, e1, ?_⟩
    rw [bind_bind] at h2
    have e2 : ((eC C cl c ρ2 μ).nox.bind fun b μ6 => if b = true then (eE C cl e ρ2 μ6).nox.bind fun x μ7 => kIn C cl t t1 it1 c e ρ s i ρ1 s1 (j + 1) (acc ++ [x]) μ7 else kIn C cl t t1 it1 c e ρ s i ρ1 s1 (j + 1) acc μ6) =
        (eC C cl c ρ2 μ).nox.bind fun b μ6 => (if b = true then (eE C cl e ρ2 μ6).nox.bind fun x μ7 => Res.ok [x] μ7 else .ok [] μ6).bind fun o μ1 => ((compL s1.okAt (fIn C cl t1 c e ρ1) (s1.xs.drop (j + 1)) μ1).bind fun r μ2 => Res.ok (o ++ r) μ2).bind fun r μ' => kOut C cl t t1 it1 c e ρ s i (acc ++ r) μ' := by
      congr 1
      funext b μ6
      cases b with
      | true =>
        rw [if_pos rfl, if_pos rfl, bind_bind]
        congr 1
        funext x μ7
        unfold kIn
        show _ = ((compL s1.okAt (fIn C cl t1 c e ρ1) (s1.xs.drop (j + 1)) μ7).bind fun r μ2 => Res.ok ([x] ++ r) μ2).bind fun r μ' => kOut C cl t t1 it1 c e ρ s i (acc ++ r) μ'
        rw [bind_bind]
        congr 1
        funext r μ8
        show kOut C cl t t1 it1 c e ρ s i (acc ++ [x] ++ r) μ8 = kOut C cl t t1 it1 c e ρ s i (acc ++ ([x] ++ r)) μ8
        rw [List.append_assoc]
      | false =>
        rw [if_neg Bool.false_ne_true, if_neg Bool.false_ne_true]
        unfold kIn
        show _ = ((compL s1.okAt (fIn C cl t1 c e ρ1) (s1.xs.drop (j + 1)) μ6).bind fun r μ2 => Res.ok ([] ++ r) μ2).bind fun r μ' => kOut C cl t t1 it1 c e ρ s i (acc ++ r) μ'
        rw [bind_bind]
        rfl
    rw [e2]
    exact h2
  · rw [if_neg hk] at h'
    exact absurd h' he
end
theorem yes_if {A B : Hp → Prop} {σ : L2.St} {H : Hp} (h : A H) : tYes σ H fun b H3 => if b = true then A H3 else B H3 := by
  show (if true = true then A H else B H)
  rw [if_pos rfl]
  exact h
theorem lc2_read {t t1 : Tg} {it it1 c e : CE} {Q : VK} (h : tL G W (eL2 C cl t it t1 it1 c e) σ H Q) :
    tLc2 (tI G W (eI C cl it)) (gT G t) tYes (tI G W0 (eI C cl it1)) (gT G t1) (tT G W0 (eC C cl c)) (tE G W0 (eE C cl e)) (t.slots ++ t1.slots) t1.slots σ H Q := by
  obtain ⟨Z, ρ, μ, A, h⟩ := h
  have L := like_pstL (G := G) (W := W) (σ := σ) Q
  have nErr : ∀ Z, ¬ PstL G W σ Z .err Q := fun Z z => z
  refine ⟨Z, ρ, μ, A, ?_⟩
  have h' : PstL G W σ Z ((eI C cl it ρ μ).bind fun s μ0 => (compL s.okAt (fOut C cl t t1 it1 c e ρ) s.xs μ0).bind chk) Q := h
  revert h'
  cases eI C cl it ρ μ with
  | err => exact fun h' => h'
  | exc c d μ1 => exact fun h' => h'
  | ok s μ0 =>
    intro h' J Z1 x1 R1 ok1 pD hD
    obtain ⟨hz, ok1⟩ := ok1
    have h1 : PstL G W σ Z1 (kOut C cl t t1 it1 c e ρ s 0 [] μ0) Q := by
      have := L.base _ _ _ x1 h'
      unfold kOut
      rw [List.drop_zero]
      exact this
    let Iv : Nat → Hp → Prop := fun i H => i ≤ s.xs.length ∧ ∃ Z2 μ2 acc vs, H = upd Z2.H pD (.lst vs) ∧ Z2.H pD = none ∧ At G Z2 Z2.H σ ρ μ2 ∧ Ext Z1 Z2 ∧ RVs G Z2 acc vs ∧ PstL G W σ Z2 (kOut C cl t t1 it1 c e ρ s i acc μ2) Q
    refine ⟨fun i m H => m = s.xs.length - i ∧ Iv i H, ⟨s.xs.length, rfl, Nat.zero_le _, Z1, μ0, [], [], rfl, hD, A.ext x1 R1, Ext.refl _, rfl, h1⟩, ?_⟩
    rintro i m H ⟨rfl, hi, Z2, μ2, acc, vs, rfl, hn, A2, x2, rv, hp⟩
    have A3 : At G (Z2.lay pD (.lst vs)) (Z2.lay pD (.lst vs)).H σ ρ μ2 := A2.ext (Ext.lay hn) (A2.rel.lay hn)
    have X3 : Ext Z1 (Z2.lay pD (.lst vs)) := x2.trans (Ext.lay hn)
    by_cases he : i = s.xs.length
    · left
      obtain ⟨hk, q, hl⟩ := kOut_end (P := fun r => PstL G W σ Z2 r Q) (nErr Z2) he hp
      exact ⟨(ok1 i _ μ2 (X3.b R1) A3.rel hk).2 (by rw [he]; exact Nat.le_refl _), (show PrP G Z2 μ2 (.new acc) Q from q) pD vs Z2 (Ext.refl _) A2.rel hn rv hl⟩
    · right
      have hlt : i < s.xs.length := by omega
      obtain ⟨d, hd, hdr⟩ := drop_at hlt
      obtain ⟨hk, ρ1, hs, hq⟩ := kOut_turn (P := fun r => PstL G W σ Z2 r Q) (nErr Z2) hdr hp
      obtain ⟨og, oy⟩ := (ok1 i _ μ2 (X3.b R1) A3.rel hk).1 d hd
      refine ⟨og, fun H' => ∃ m', m' < s.xs.length - i ∧ m' = s.xs.length - (i + 1) ∧ Iv (i + 1) H', fun H' q => q, fun x H' hy => ?_⟩
      obtain ⟨Z3, rfl, X4, R4, r4⟩ := oy x H' hy
      have L3 : Lone Z3 pD vs := (lone_lay A2.rel hn).ext X4
      have S3 := A3.se.ext X4 A3.rel
      refine ⟨Z3, PyE.wipe (PyE.wipe ρ t1.slots) t.slots, μ2, d, ρ1, ⟨rfl, ?_, R4⟩, r4, hs, fun σ' s' w => ⟨?_, ?_⟩⟩
      · rw [L2wipe_app]
        exact (S3.wipe _).wipe _
      · rw [w (t.slots ++ t1.slots) fun i hi => List.mem_append_left _ hi]
        exact wipe_idem fun i hi => hi
      · refine yes_if ?_
        have A5 : At G Z3 Z3.H σ' ρ1 μ2 := ⟨rfl, s', R4⟩
        have A0 : At G Z3 Z3.H σ ρ μ2 := A3.ext X4 R4
        refine ⟨Z3, ρ1, μ2, A5, ?_⟩
        revert hq
        cases eI C cl it1 ρ1 μ2 with
        | err => exact fun hq => hq
        | exc a b m => exact fun hq => False.elim (nErr Z2 hq)
        | ok s1 μ3 =>
          intro hq J1 Z4 x4 R4' ok2
          obtain ⟨hz1, ok2⟩ := ok2
          have hq0 : PstL G W σ Z2 (kIn C cl t t1 it1 c e ρ s (i + 1) ρ1 s1 0 acc μ3) Q := hq
          have L4 : Lone Z4 pD vs := L3.ext x4
          have X5 : Ext (Z2.lay pD (.lst vs)) Z4 := X4.trans x4
          have A04 : At G Z4 Z4.H σ ρ μ3 := A0.ext x4 R4'
          have A54 : At G Z4 Z4.H σ' ρ1 μ3 := A5.ext x4 R4'
          let Jv : Nat → Hp → Prop := fun j H => j ≤ s1.xs.length ∧ ∃ Z5 μ5 acc5 vs5, H = upd Z5.H pD (.lst vs5) ∧ Z5.H pD = none ∧ At G Z5 Z5.H σ ρ μ5 ∧ SE G Z5 σ' ρ1 ∧ ExtB Z4 (Z5.lay pD (.lst vs5)) ∧ Ext Z2 Z5 ∧ RVs G Z5 acc5 vs5 ∧
            PstL G W σ Z5 (kIn C cl t t1 it1 c e ρ s (i + 1) ρ1 s1 j acc5 μ5) Q
          have E24 : Ext Z2 (Z4.drop pD) := Ext.dropped hn X5
          refine ⟨fun j m H => m = s1.xs.length - j ∧ Jv j H, ⟨s1.xs.length, rfl, Nat.zero_le _, Z4.drop pD, μ3, acc, vs, L4.undrop.symm, drop_same, A04.dropped L4, A54.se.dropped L4, ExtB.relay L4, E24, RVs.dropped L4 _ _ (RVs.ext X5 (A2.rel.lay hn) _ _ (RVs.ext (Ext.lay hn) A2.rel _ _ rv)), L.base _ _ _ E24 hq0⟩, ?_⟩
          rintro j m H ⟨rfl, hj, Z5, μ5, acc5, vs5, rfl, hn5, A6, S6, B6, x6, rv5, hp5⟩
          have A7 : At G (Z5.lay pD (.lst vs5)) (Z5.lay pD (.lst vs5)).H σ ρ μ5 := A6.ext (Ext.lay hn5) (A6.rel.lay hn5)
          have S7 : SE G (Z5.lay pD (.lst vs5)) σ' ρ1 := S6.ext (Ext.lay hn5) A6.rel
          by_cases hje : j = s1.xs.length
          · left
            obtain ⟨hk1, q⟩ := kIn_end (P := fun r => PstL G W σ Z5 r Q) (nErr Z5) hje hp5
            exact ⟨(ok2 j _ μ5 B6 A7.rel hk1).2 (by rw [hje]; exact Nat.le_refl _), s.xs.length - (i + 1), by omega, rfl, hlt, Z5, μ5, acc5, vs5, rfl, hn5, A6, x2.trans x6, rv5, q⟩
          · right
            have hjlt : j < s1.xs.length := by omega
            obtain ⟨d1, hd1, hdr1⟩ := drop_at hjlt
            obtain ⟨hk1, ρ2, hs1, hq1⟩ := kIn_turn (P := fun r => PstL G W σ Z5 r Q) (nErr Z5) hdr1 hp5
            obtain ⟨og1, oy1⟩ := (ok2 j _ μ5 B6 A7.rel hk1).1 d1 hd1
            refine ⟨og1, fun H' => ∃ m', m' < s1.xs.length - j ∧ m' = s1.xs.length - (j + 1) ∧ Jv (j + 1) H', fun H' q => q, fun x1' H' hy1 => ?_⟩
            obtain ⟨Z6, rfl, X7, R7, r7⟩ := oy1 x1' H' hy1
            have L6 : Lone Z6 pD vs5 := (lone_lay A6.rel hn5).ext X7
            refine ⟨Z6, PyE.wipe ρ1 t1.slots, μ5, d1, ρ2, ⟨rfl, (S7.ext X7 A7.rel).wipe _, R7⟩, r7, hs1, fun σ'' s'' w1 => ⟨?_, ?_⟩⟩
            · rw [w1 t1.slots fun i hi => hi]
              exact wipe_idem fun i hi => hi
            · have A8 : At G Z6 Z6.H σ'' ρ2 μ5 := ⟨rfl, s'', R7⟩
              have A9 : At G Z6 Z6.H σ ρ μ5 := A7.ext X7 R7
              have S9 : SE G Z6 σ' ρ1 := S7.ext X7 A7.rel
              refine ⟨Z6, ρ2, μ5, A8, stepN (P := fun r => PstL G W σ Z5 r Q) (nErr Z5) A8 hq1 fun b Z7 μ7 b' A10 X8 e8 hq2 => ?_⟩
              subst e8
              have Bx : ∀ {Zf : Wd} {o : HO}, Ext Z6 Zf → Lone Zf pD vs5 → ExtB Z4 ((Zf.drop pD).lay pD o) := fun {Zf o} xf lf => B6.trans (((X7.trans xf).b A7.rel).trans (ExtB.relay lf))
              cases b' with
              | true =>
                rw [if_pos rfl]
                have hq2' : PstL G W σ Z5 ((eE C cl e ρ2 μ7).nox.bind fun x μ8 => kIn C cl t t1 it1 c e ρ s (i + 1) ρ1 s1 (j + 1) (acc5 ++ [x]) μ8) Q := by
                  have q := hq2
                  rw [if_pos rfl] at q
                  exact q
                refine ⟨Z7, ρ2, μ7, A10, stepN (P := fun r => PstL G W σ Z5 r Q) (nErr Z5) A10 hq2' fun y Z8 μ8 yd A11 X9 r9 hq3 => ?_⟩
                have X10 : Ext Z6 Z8 := X8.trans X9
                have L8 : Lone Z8 pD vs5 := L6.ext X10
                have E58 : Ext Z5 (Z8.drop pD) := Ext.dropped hn5 (X7.trans X10)
                have hlen := kIn_len (P := fun r => PstL G W σ Z5 r Q) (nErr Z5) hq3
                rw [List.length_append, List.length_singleton] at hlen
                refine ⟨vs5, L8.at_, by rw [← rv5.length, ← LIM_eq]; omega, s1.xs.length - (j + 1), by omega, rfl, hjlt, Z8.drop pD, μ8, acc5 ++ [yd], vs5 ++ [y], L8.upd_drop.symm, drop_same, (A9.ext X10 A11.rel).dropped L8, (S9.ext X10 A9.rel).dropped L8, Bx X10 L8, x6.trans E58, ?_, L.base _ _ _ E58 hq3⟩
                have q1 : RVs G Z8 acc5 vs5 := RVs.ext (X7.trans X10) A7.rel _ _ (RVs.ext (Ext.lay hn5) A6.rel _ _ rv5)
                exact RVs.dropped L8 _ _ (q1.append (.one r9))
              | false =>
                rw [if_neg Bool.false_ne_true]
                have hq2' : PstL G W σ Z5 (kIn C cl t t1 it1 c e ρ s (i + 1) ρ1 s1 (j + 1) acc5 μ7) Q := by
                  have q := hq2
                  rw [if_neg Bool.false_ne_true] at q
                  exact q
                have L8 : Lone Z7 pD vs5 := L6.ext X8
                have E58 : Ext Z5 (Z7.drop pD) := Ext.dropped hn5 (X7.trans X8)
                refine ⟨s1.xs.length - (j + 1), by omega, rfl, hjlt, Z7.drop pD, μ7, acc5, vs5, L8.undrop.symm, drop_same, (A9.ext X8 A10.rel).dropped L8, (S9.ext X8 A9.rel).dropped L8, Bx X8 L8, x6.trans E58, ?_, L.base _ _ _ E58 hq2'⟩
                exact RVs.dropped L8 _ _ (RVs.ext (X7.trans X8) A7.rel _ _ (RVs.ext (Ext.lay hn5) A6.rel _ _ rv5))
end
end PyE
set_option maxRecDepth 100000
set_option maxHeartbeats 4000000
/-! calls of own functions -/
namespace PyE
open PySem PySem.Spec PyProof.Rows L2
section
variable {G : Gi} {C : Cfg} {T : Tb} {cl : Cl} {n : En} {W : WX} {k : Nat} {X : Cx} {σ : L2.St} {H : Hp}
theorem run_g (c : CxE G C T cl n W k X) {fd : FuncData} {ps : List Str} {f : Addr} {sp : Sp} (F : FnG G fd ps k f sp) (hl : ∀ vs H Q E, sp vs H Q E → vs.length = ps.length) {pins : List (Addr × Obj)} {s : Shared} {Q : VK} {us : List Value} {vs : List V} (args : Args)
    (hb : us.length = ps.length → BindsTo s fd args (ps.zip us)) (I : Inv X pins σ H s) (r : Vals vs us) (h : sp vs H Q (WE W σ)) {kw : List (Str × Value)} {pos : List Value} (ea : args = ⟨pos, kw⟩) :
    wpAny (model X.prog X.w) X.A (call (.ref f) pos kw) (EP X pins σ Q) X.xe s := by
  have hl' : us.length = ps.length := by rw [← r.length]; exact hl _ _ _ _ h
  have e0 : Env0 G.P G.w G.K G.mg G.base X.A X.stack s H := by
    have := I.env0
    rw [c.prog, c.w, c.K, c.mg, c.base] at this
    exact this
  have hx := passAt c.tk σ
  subst ea
  have hr := F.run X.A X.stack s H ⟨pos, kw⟩ us vs Q (WE W σ) c.gd c.room e0 (hb hl') r h
  rw [← c.prog, ← c.w] at hr
  refine wpAny_call (codeAny_mono hr fun q s' hq => ?_)
  cases q with
  | error e => exact hx pins H s e s' I hq
  | ok fl =>
    cases fl with
    | ret u => exact I.after hq
    | next => exact False.elim hq
    | brk => exact False.elim hq
    | cont => exact False.elim hq
theorem sp_len {q : Nat} {m : List D → Mu → Res D} {vs : List V} {Q : VK} {E : XK} (h : spOf G q m vs H Q E) : vs.length = q := h.1
/-- what a call asks, from where it stands -/
theorem call_at {f : Fid} {Z : Wd} {ρ : Ro} {μ : Mu} {ds : List D} {vs : List V} {Q : VK} (hl : vs.length = T.ps f) (A : At G Z Z.H σ ρ μ) (r : RVs G Z ds vs) (h : Pst G W σ (RV G) Z (cl f ds μ) Q) : spOf G (T.ps f) (cl f) vs Z.H Q (WE W σ) :=
  ⟨hl, Z, μ, ds, rfl, A.rel, r, h⟩
theorem permD_range (vs : List D) : permD (List.range vs.length) vs = some vs := by
  have key : ∀ (l pre : List D), permD (List.range' pre.length l.length) (pre ++ l) = some l := by
    intro l
    induction l with
    | nil => intro pre; rfl
    | cons a r ih =>
      intro pre
      rw [List.length_cons, List.range'_succ]
      show ((pre ++ a :: r)[pre.length]?).bind (fun d => (permD (List.range' (pre.length + 1) r.length) (pre ++ a :: r)).map fun q => d :: q) = _
      rw [List.getElem?_append_right (Nat.le_refl _), Nat.sub_self]
      have h := ih (pre ++ [a])
      rw [List.length_append, List.length_singleton, List.append_assoc, List.singleton_append] at h
      rw [h]; rfl
  have := key vs []
  rw [List.range_eq_range']
  simpa using this
theorem callA_inv {f : Fid} {perm : List Nat} {x : Expr} {xs : List Expr} (h : callA T n f perm x = some xs) : ∃ y p pos, x = .Call (.Name y p) xs [] pos ∧ isFnN T n y f = true ∧ xs.all notStar = true ∧ perm = List.range xs.length ∧ T.ps f = xs.length := by
  unfold callA at h
  split at h
  · split at h
    · rename_i q; cases h; exact ⟨_, _, _, rfl, q.1, q.2.1, q.2.2.1, q.2.2.2⟩
    · cases h
  · cases h
theorem k_call (c : CxE G C T cl n W k X) {f : Fid} {perm : List Nat} {es : CE} {x : Expr} {xs : List Expr} (h : callA T n f perm x = some xs) (hi : Its G C cl W X es xs) : PE X x (tE G W (eE C cl (.call f perm es))) := by
  obtain ⟨y, p, pos, rfl, hf, hs, hp, hn⟩ := callA_inv h
  obtain ⟨g1, g2, g3, g4, ⟨⟨fd, ps, hps, F⟩, _⟩, _⟩ := c.fnN hf
  have lps : ∀ vs H Q E, spOf G (T.ps f) (cl f) vs H Q E → vs.length = ps.length := fun vs H Q E q => by rw [hps]; exact q.1
  refine ⟨fun pins s σ H Q I q => ?_⟩
  have key : tA G W (eA C cl es) σ H fun vs H1 => spOf G (T.ps f) (cl f) vs H1 Q (WE W σ) := by
    obtain ⟨Z, ρ, μ, A, q⟩ := q
    have L := like_pst (G := G) (W := W) (σ := σ) (RV G) Q
    refine ⟨Z, ρ, μ, A, ?_⟩
    have q' : Pst G W σ (RV G) Z ((eA C cl es ρ μ).bind fun vs μ1 => (lift (permD perm vs) μ1).bind fun ws μ2 => cl f ws μ2) Q := q
    cases e : eA C cl es ρ μ with
    | err => rw [e] at q'; exact q'
    | exc a b d => rw [e] at q'; exact q'
    | ok ds μ1 =>
      rw [e] at q'
      intro vs Z1 X1 R1 r1
      have hl := eA_len hi e
      have q2 : Pst G W σ (RV G) Z ((lift (permD perm ds) μ1).bind fun ws μ2 => cl f ws μ2) Q := q'
      rw [hp, ← hl, permD_range] at q2
      exact call_at (ρ := ρ) (by rw [← r1.length, hl, hn]) (A.ext X1 R1) r1 (Pst.base q2 X1)
  refine wpAny_Call_Name_kw (ld_glob I g1 g3 ?_ g2)
  cases xs with
  | nil =>
    have pa := its_pa hi
    rw [its_nil hi] at key
    obtain ⟨Z, ρ, μ, A, key⟩ := key
    have key' : spOf G (T.ps f) (cl f) [] Z.H Q (WE W σ) := key [] Z (Ext.refl _) A.rel rfl
    rw [A.hp] at key'
    exact PySem.W.callWith_K0 I.kIn g4 (run_g c F lps ⟨[], []⟩ (fun hl => F.bind s [] (by rw [← c.K]; exact I.kIn) hl) I .nil key' rfl)
  | cons y ys =>
    rw [List.all_cons, Bool.and_eq_true] at hs
    refine PySem.W.callWith_K (h₀ := X.base) I.ok.mod.kin g4 (thn ((its_pa hi).run pos pins s σ H _ I key) fun us s1 ⟨vs, H1, I1, r, q⟩ => ⟨I1.kIn, ?_⟩) (star_of hs.1) (stars_plain hs.2)
    exact run_g c F lps ⟨us, []⟩ (fun hl => F.bind s1 us (by rw [← c.K]; exact I1.kIn) hl) I1 r q rfl
theorem callvA_inv {x y : Expr} {xs : List Expr} (h : callvA x = some (y, xs)) : ∃ pos, x = .Call y xs [] pos ∧ noCallee y = true ∧ xs.all notStar = true ∧ xs ≠ [] := by
  unfold callvA at h
  split at h
  · split at h
    · rename_i q; cases h; exact ⟨_, rfl, q.1, q.2.1, q.2.2.1⟩
    · cases h
  · cases h
/-- a call of what an expression gives -/
theorem k_callv (c : CxE G C T cl n W k X) {g es : CE} {x y : Expr} {xs : List Expr} (h : callvA x = some (y, xs)) (p : PE X y (tE G W (eE C cl g))) (hi : Its G C cl W X es xs) : PE X x (tE G W (eE C cl (.callv g es))) := by
  obtain ⟨pos, rfl, hf, hs, hne⟩ := callvA_inv h
  refine ⟨fun pins s σ H Q I q => ?_⟩
  have key : tE G W (eE C cl g) σ H fun v H1 => ∃ f, G.kf f = true ∧ v = .ref (G.fa f) ∧ tA G W (eA C cl es) σ H1 fun vs H2 => spOf G (T.ps f) (cl f) vs H2 Q (WE W σ) := by
    obtain ⟨Z, ρ, μ, A, q⟩ := q
    have L := like_pst (G := G) (W := W) (σ := σ) (RV G) Q
    refine ⟨Z, ρ, μ, A, step L (r := eE C cl g ρ μ) A q fun v Z1 μ1 d A1 X1 r1 h1 => ?_⟩
    obtain ⟨f, e, h2⟩ := step_lift L h1
    have e' : d = .fn f := by cases d <;> first | (cases e; rfl) | cases e
    subst e'
    refine ⟨f, r1.1, r1.2, Z1, ρ, μ1, A1, step L (r := eA C cl es ρ μ1) A1 h2 fun vs Z2 μ2 ds A2 X2 r2 h3 => ?_⟩
    have hl := (c.wk.fn f r1.1).ar ds μ2 fun z => by
      have h3' : Pst G W σ (RV G) Z2 (cl f ds μ2) Q := h3
      rw [z] at h3'
      exact h3'
    exact call_at (ρ := ρ) (by rw [← r2.length, hl]) A2 r2 h3
  refine Call_ (thn (p.run pins s σ H _ I key) fun u s1 ⟨v, H1, I1, rv, f, kf, ev, q1⟩ => ?_) (by cases y <;> first | rfl | cases hf)
  subst ev
  have eu : u = Value.ref (G.fa f) := rv
  subst eu
  obtain ⟨fd, ps, hps, F⟩ := (c.wk.fn f kf).ex
  have lps : ∀ vs H Q E, spOf G (T.ps f) (cl f) vs H Q E → vs.length = ps.length := fun vs H Q E q => by rw [hps]; exact q.1
  cases xs with
  | nil => exact absurd rfl hne
  | cons a r =>
    rw [List.all_cons, Bool.and_eq_true] at hs
    refine PySem.W.callWith_K (h₀ := X.base) I.ok.mod.kin (by rw [c.K]; exact c.wk.tb.keep f kf) (thn ((its_pa hi).run pos pins s1 σ H1 _ I1 q1) fun us s2 ⟨vs, H2, I2, r2, q2⟩ => ⟨I2.kIn, ?_⟩) (star_of hs.1) (stars_plain hs.2)
    exact run_g c F lps ⟨us, []⟩ (fun hl => F.bind s2 us (by rw [← c.K]; exact I2.kIn) hl) I2 r2 q2 rfl
end
end PyE
set_option maxRecDepth 100000
set_option maxHeartbeats 4000000
/-! every expression -/
namespace PyE
open PySem PySem.Spec PyProof.Rows L2
section
variable {G : Gi} {C : Cfg} {T : Tb} {cl : Cl} {n : En} {W : WX} {k : Nat} {X : Cx} {σ : L2.St} {H : Hp}
theorem asB_some {d : D} {b : Bool} (h : asB d = some b) : d = .bl b := by
  cases d <;> first | (cases h; rfl) | cases h
theorem t_ok {Z : Wd} {μ : Mu} {b : Bool} {Q : Bool → Hp → Prop} (h : Pst G W σ (fun _ a b => a = b) Z (.ok b μ) Q) (R : Rel G Z μ) : Q b Z.H := h b Z (Ext.refl _) R rfl
/-! ### not, and, or -/
theorem e_not {a : CE} {Q : VK} (h : tE G W (eE C cl (.not_ a)) σ H Q) : tNotV (tE G W (eE C cl a)) σ H Q := by
  obtain ⟨Z, ρ, μ, A, h⟩ := h
  have L := like_pst (G := G) (W := W) (σ := σ) (RV G) Q
  refine ⟨Z, ρ, μ, A, step L (r := eE C cl a ρ μ) A h fun v Z1 μ1 d A1 X1 r1 h1 => ?_⟩
  obtain ⟨b, e, h2⟩ := step_lift L h1
  have e' := asB_some e
  subst e'
  exact ⟨b, r1, Like.ok (rel := RV G) h2 A1.rel rfl⟩
/-- a test of a value that is a bool -/
theorem tr_bl {r : Res D} {Z : Wd} {Q : Bool → Hp → Prop} {f : Bool → Bool} (h : Pst G W σ (fun _ a b => a = b) Z ((r.bind fun d μ1 => (lift (asB d) μ1).bind fun b μ2 => Res.ok (D.bl (f b)) μ2).bind fun d μ1 => lift (truth μ1 d) μ1) Q) :
    Pst G W σ (fun _ a b => a = b) Z (r.bind fun d μ1 => lift (truth μ1 d) μ1) fun b H => Q (f b) H := by
  cases r with
  | err => exact h
  | exc c v μ => exact h
  | ok d μ =>
    have h' : Pst G W σ (fun _ a b => a = b) Z (((lift (asB d) μ).bind fun b μ2 => Res.ok (D.bl (f b)) μ2).bind fun d μ1 => lift (truth μ1 d) μ1) Q := h
    cases e : asB d with
    | none => rw [e] at h'; exact False.elim h'
    | some b =>
      rw [e] at h'
      have e' := asB_some e
      subst e'
      have h2 : ∀ b' Z', Ext Z Z' → Rel G Z' μ → f b = b' → Q b' Z'.H := h'
      exact fun b' Z' x R e => by
        subst e
        exact h2 _ Z' x R rfl
theorem t_not {a : CE} {Q : Bool → Hp → Prop} (h : tT G W (eTr C cl (.not_ a)) σ H Q) : tNot (tT G W (eTr C cl a)) σ H Q := by
  obtain ⟨Z, ρ, μ, A, h⟩ := h
  exact ⟨Z, ρ, μ, A, tr_bl (f := Bool.not) h⟩
theorem e_and {a b : CE} {Q : VK} (h : tE G W (eE C cl (.and_ a b)) σ H Q) : tAndV (tE G W (eE C cl a)) (tE G W (eE C cl b)) σ H Q := by
  obtain ⟨Z, ρ, μ, A, h⟩ := h
  have L := like_pst (G := G) (W := W) (σ := σ) (RV G) Q
  refine ⟨Z, ρ, μ, A, step L (r := eE C cl a ρ μ) A h fun v Z1 μ1 d A1 X1 r1 h1 => ?_⟩
  obtain ⟨t, e, h2⟩ := step_lift L h1
  have e' := asB_some e
  subst e'
  refine ⟨t, r1, ?_⟩
  have h3 : Pst G W σ (RV G) Z1 (if t = true then eE C cl b ρ μ1 else .ok (.bl t) μ1) Q := h2
  cases t with
  | true => rw [if_pos rfl] at h3 ⊢; exact ⟨Z1, ρ, μ1, A1, h3⟩
  | false => rw [if_neg Bool.false_ne_true] at h3 ⊢; exact Like.ok (rel := RV G) h3 A1.rel rfl
theorem e_or {a b : CE} {Q : VK} (h : tE G W (eE C cl (.or_ a b)) σ H Q) : tOrV (tE G W (eE C cl a)) (tE G W (eE C cl b)) σ H Q := by
  obtain ⟨Z, ρ, μ, A, h⟩ := h
  have L := like_pst (G := G) (W := W) (σ := σ) (RV G) Q
  refine ⟨Z, ρ, μ, A, step L (r := eE C cl a ρ μ) A h fun v Z1 μ1 d A1 X1 r1 h1 => ?_⟩
  obtain ⟨t, e, h2⟩ := step_lift L h1
  have e' := asB_some e
  subst e'
  refine ⟨t, r1, ?_⟩
  have h3 : Pst G W σ (RV G) Z1 (if t = true then .ok (.bl t) μ1 else eE C cl b ρ μ1) Q := h2
  cases t with
  | true => rw [if_pos rfl] at h3 ⊢; exact Like.ok (rel := RV G) h3 A1.rel rfl
  | false => rw [if_neg Bool.false_ne_true] at h3 ⊢; exact ⟨Z1, ρ, μ1, A1, h3⟩
theorem t_and {a b : CE} {Q : Bool → Hp → Prop} (h : tT G W (eTr C cl (.and_ a b)) σ H Q) : tAnd (tT G W (eTr C cl a)) (tT G W (eTr C cl b)) σ H Q := by
  obtain ⟨Z, ρ, μ, A, h⟩ := h
  have L := like_pst (G := G) (W := W) (σ := σ) (fun _ (a b : Bool) => a = b) Q
  have h' : Pst G W σ (fun _ a b => a = b) Z (((eE C cl a ρ μ).bind fun d μ1 => (lift (asB d) μ1).bind fun t μ2 => if t = true then eE C cl b ρ μ2 else .ok d μ2).bind fun d μ1 => lift (truth μ1 d) μ1) Q := h
  rw [bind_bind] at h'
  refine ⟨Z, ρ, μ, A, ?_⟩
  show Pst G W σ (fun _ a b => a = b) Z ((eE C cl a ρ μ).bind fun d μ1 => lift (truth μ1 d) μ1) _
  revert h'
  cases eE C cl a ρ μ with
  | err => exact fun h => h
  | exc c v μ1 => exact fun h => h
  | ok d μ1 =>
    intro h'
    have h2 : Pst G W σ (fun _ a b => a = b) Z (((lift (asB d) μ1).bind fun t μ2 => if t = true then eE C cl b ρ μ2 else .ok d μ2).bind fun d μ1 => lift (truth μ1 d) μ1) Q := h'
    rw [bind_bind] at h2
    obtain ⟨t, e, h3⟩ := step_lift L h2
    have e' := asB_some e
    subst e'
    intro t' Z1 x1 R1 et
    have et' : t = t' := et
    subst et'
    have h4 := L.base _ _ _ x1 h3
    have A1 := A.ext x1 R1
    cases t with
    | true => rw [if_pos rfl] at h4 ⊢; exact ⟨Z1, ρ, μ1, A1, h4⟩
    | false => rw [if_neg Bool.false_ne_true] at h4 ⊢; exact t_ok h4 R1
theorem t_or {a b : CE} {Q : Bool → Hp → Prop} (h : tT G W (eTr C cl (.or_ a b)) σ H Q) : tOr (tT G W (eTr C cl a)) (tT G W (eTr C cl b)) σ H Q := by
  obtain ⟨Z, ρ, μ, A, h⟩ := h
  have L := like_pst (G := G) (W := W) (σ := σ) (fun _ (a b : Bool) => a = b) Q
  have h' : Pst G W σ (fun _ a b => a = b) Z (((eE C cl a ρ μ).bind fun d μ1 => (lift (asB d) μ1).bind fun t μ2 => if t = true then .ok d μ2 else eE C cl b ρ μ2).bind fun d μ1 => lift (truth μ1 d) μ1) Q := h
  rw [bind_bind] at h'
  refine ⟨Z, ρ, μ, A, ?_⟩
  show Pst G W σ (fun _ a b => a = b) Z ((eE C cl a ρ μ).bind fun d μ1 => lift (truth μ1 d) μ1) _
  revert h'
  cases eE C cl a ρ μ with
  | err => exact fun h => h
  | exc c v μ1 => exact fun h => h
  | ok d μ1 =>
    intro h'
    have h2 : Pst G W σ (fun _ a b => a = b) Z (((lift (asB d) μ1).bind fun t μ2 => if t = true then .ok d μ2 else eE C cl b ρ μ2).bind fun d μ1 => lift (truth μ1 d) μ1) Q := h'
    rw [bind_bind] at h2
    obtain ⟨t, e, h3⟩ := step_lift L h2
    have e' := asB_some e
    subst e'
    intro t' Z1 x1 R1 et
    have et' : t = t' := et
    subst et'
    have h4 := L.base _ _ _ x1 h3
    have A1 := A.ext x1 R1
    cases t with
    | true => rw [if_pos rfl] at h4 ⊢; exact t_ok h4 R1
    | false => rw [if_neg Bool.false_ne_true] at h4 ⊢; exact ⟨Z1, ρ, μ1, A1, h4⟩
theorem pw_bool {op : BoolOp} {vs : List Expr} {p : Pos} {t : TT} (h : PT X (.BoolOp op vs p) t) : PW X (.BoolOp op vs p) t := ⟨fun whole pins s σ H Q I q => h.run pins s σ H Q I q⟩
/-! ### if -/
theorem e_ite {t a b : CE} {Q : VK} (h : tE G W (eE C cl (.ite t a b)) σ H Q) : tIf (tT G W (eTr C cl t)) (tE G W (eE C cl a)) (tE G W (eE C cl b)) σ H Q := by
  obtain ⟨Z, ρ, μ, A, h⟩ := h
  have L := like_pst (G := G) (W := W) (σ := σ) (RV G) Q
  have e0 : eE C cl (.ite t a b) ρ μ = (eTr C cl t ρ μ).bind fun t μ2 => if t = true then eE C cl a ρ μ2 else eE C cl b ρ μ2 := by
    unfold eTr; rw [bind_bind]; rfl
  rw [e0] at h
  refine ⟨Z, ρ, μ, A, step L A h fun v Z1 μ1 d A1 X1 r1 h1 => ?_⟩
  have e1 : d = v := r1
  subst e1
  cases d with
  | true => rw [if_pos rfl] at h1 ⊢; exact ⟨Z1, ρ, μ1, A1, h1⟩
  | false => rw [if_neg Bool.false_ne_true] at h1 ⊢; exact ⟨Z1, ρ, μ1, A1, h1⟩
theorem t_ite {t a b : CE} {Q : Bool → Hp → Prop} (h : tT G W (eTr C cl (.ite t a b)) σ H Q) : tT G W (eTr C cl t) σ H fun c H1 => if c = true then tT G W (eTr C cl a) σ H1 Q else tT G W (eTr C cl b) σ H1 Q := by
  obtain ⟨Z, ρ, μ, A, h⟩ := h
  have L := like_pst (G := G) (W := W) (σ := σ) (fun _ (a b : Bool) => a = b) Q
  have e0 : eTr C cl (.ite t a b) ρ μ = (eTr C cl t ρ μ).bind fun t μ2 => if t = true then eTr C cl a ρ μ2 else eTr C cl b ρ μ2 := by
    show ((eE C cl t ρ μ).bind fun d μ1 => (lift (truth μ1 d) μ1).bind fun t μ2 => if t = true then eE C cl a ρ μ2 else eE C cl b ρ μ2).bind (fun d μ1 => lift (truth μ1 d) μ1) = _
    unfold eTr
    rw [bind_bind, bind_bind]
    congr 1
    funext d μ1
    rw [bind_bind]
    congr 1
    funext t μ2
    cases t <;> rfl
  rw [e0] at h
  refine ⟨Z, ρ, μ, A, step L A h fun v Z1 μ1 d A1 X1 r1 h1 => ?_⟩
  have e1 : d = v := r1
  subst e1
  cases d with
  | true => rw [if_pos rfl] at h1 ⊢; exact ⟨Z1, ρ, μ1, A1, h1⟩
  | false => rw [if_neg Bool.false_ne_true] at h1 ⊢; exact ⟨Z1, ρ, μ1, A1, h1⟩
theorem pt_ife {c a b : Expr} {p : Pos} {tc ta tb : TT} (hc : PT X c tc) (ha : PT X a ta) (hb : PT X b tb) : PT X (.IfExp c a b p) (fun σ H Q => tc σ H fun q H1 => if q = true then ta σ H1 Q else tb σ H1 Q) := by
  refine ⟨fun pins s σ H Q I h => ?_⟩
  show wpAny _ _ (do if ← PySem.isTrue c X.env (eval c X.env) then PySem.isTrue a X.env (eval a X.env) else PySem.isTrue b X.env (eval b X.env)) _ _ _
  refine wpAny_bind (thn (hc.run pins s σ H _ I h) fun q s1 ⟨H1, I1, hq⟩ => ?_)
  cases q with
  | true => rw [if_pos rfl] at hq ⊢; exact ha.run pins s1 σ H1 Q I1 hq
  | false => rw [if_neg Bool.false_ne_true] at hq ⊢; exact hb.run pins s1 σ H1 Q I1 hq
/-! ### a <= b < c -/
theorem chainOp_inv {o : Op} {p : CmpOp} (h : chainOp o p = true) : (o = .lt ∧ p = .Lt) ∨ (o = .le ∧ p = .LtE) := by
  unfold chainOp at h
  split at h
  · exact .inl ⟨rfl, rfl⟩
  · exact .inr ⟨rfl, rfl⟩
  · cases h
theorem chainOp_r (c : CxE G C T cl n W k X) {o : Op} {p : CmpOp} (h : chainOp o p = true) : OpR X (compareOp p) fun x y H Q => rO G C o [x, y] H Q := by
  rcases chainOp_inv h with ⟨rfl, rfl⟩ | ⟨rfl, rfl⟩
  · exact o_lt c.K c.room.units0
  · exact o_le
theorem chainOp_b {o : Op} {p : CmpOp} (h : chainOp o p = true) {μ : Mu} {x y : D} {pr : PR} (e : opS C μ o [x, y] = some pr) : ∃ b, pr = .v (.bl b) := by
  rcases chainOp_inv h with ⟨rfl, rfl⟩ | ⟨rfl, rfl⟩
  · have e' : ltS x y = some pr := e
    unfold ltS at e'
    split at e'
    · cases e'; exact ⟨_, rfl⟩
    · obtain ⟨_, _, e'⟩ := Option.bind_eq_some_iff.mp e'
      obtain ⟨_, _, rfl⟩ := Option.map_eq_some_iff.mp e'
      exact ⟨_, rfl⟩
    · cases e'
  · have e' : intO (fun i j => some (PR.v (.bl (decide (i ≤ j))))) x y = some pr := e
    unfold intO at e'
    split at e'
    · cases e'; exact ⟨_, rfl⟩
    · cases e'
theorem e_chain {o1 o2 : Op} {p1 p2 : CmpOp} {a b c : CE} {Q Q' : VK} (h1 : chainOp o1 p1 = true) (h2 : chainOp o2 p2 = true) (hq : ∀ x H, (∃ k, x = .bl k) → Q x H → Q' x H) (h : tE G W (eE C cl (.chain o1 o2 a b c)) σ H Q) :
    tChain (fun x y H Q => rO G C o1 [x, y] H Q) (fun x y H Q => rO G C o2 [x, y] H Q) (tE G W (eE C cl a)) (tE G W (eE C cl b)) (tE G W (eE C cl c)) σ H Q' := by
  obtain ⟨Z, ρ, μ, A, h⟩ := h
  have L := like_pst (G := G) (W := W) (σ := σ) (RV G) Q
  refine ⟨Z, ρ, μ, A, step L (r := eE C cl a ρ μ) A h fun x Z1 μ1 dx A1 X1 r1 h => ⟨Z1, ρ, μ1, A1, step L (r := eE C cl b ρ μ1) A1 h fun y Z2 μ2 dy A2 X2 r2 h => ?_⟩⟩
  have h' : Pst G W σ (RV G) Z2 ((lift ((opS C μ2 o1 [dx, dy]).map prD) μ2).bind fun t μ3 => (lift (asB t) μ3).bind fun t μ3 => if t = true then (eE C cl c ρ μ3).bind fun z μ4 => opR C o2 [dy, z] μ4 else .ok (.bl false) μ3) Q := h
  cases e : opS C μ2 o1 [dx, dy] with
  | none => rw [e] at h'; exact False.elim h'
  | some pr =>
    obtain ⟨t, rfl⟩ := chainOp_b h1 e
    rw [e] at h'
    have h3 : Pst G W σ (RV G) Z2 (if t = true then (eE C cl c ρ μ2).bind fun z μ4 => opR C o2 [dy, z] μ4 else .ok (.bl false) μ2) Q := h'
    refine ⟨Z2, μ2, [dx, dy], .v (.bl t), rfl, A2.rel, ⟨x, _, rfl, RV.ext X2 A1.rel _ _ r1, .one r2⟩, e, fun v Z3 X3 R3 r3 => ⟨t, r3, ?_⟩⟩
    have h4 := L.base _ _ _ X3 h3
    have A3 := A2.ext X3 R3
    cases t with
    | true =>
      rw [if_pos rfl] at h4 ⊢
      refine ⟨Z3, ρ, μ2, A3, step L A3 h4 fun z Z4 μ4 dz A4 X4 r4 h => ?_⟩
      have h' : Pst G W σ (RV G) Z4 (lift ((opS C μ4 o2 [dy, dz]).map prD) μ4) Q := h
      cases e2 : opS C μ4 o2 [dy, dz] with
      | none => rw [e2] at h'; exact False.elim h'
      | some pr2 =>
        obtain ⟨t2, rfl⟩ := chainOp_b h2 e2
        rw [e2] at h'
        refine ⟨Z4, μ4, [dy, dz], .v (.bl t2), rfl, A4.rel, ⟨y, _, rfl, RV.ext X4 A3.rel _ _ (RV.ext X3 A2.rel _ _ r2), .one r4⟩, e2, fun v Z5 X5 R5 r5 => ?_⟩
        exact hq _ _ ⟨t2, r5⟩ (h' v Z5 X5 R5 r5)
    | false =>
      rw [if_neg Bool.false_ne_true] at h4 ⊢
      exact hq _ _ ⟨false, rfl⟩ (Like.ok (rel := RV G) h4 R3 rfl)
theorem chain_bl {o1 o2 : Op} {p1 p2 : CmpOp} {a b c : CE} {ρ : Ro} {μ μ' : Mu} {d : D} (h1 : chainOp o1 p1 = true) (h2 : chainOp o2 p2 = true) (h : eE C cl (.chain o1 o2 a b c) ρ μ = .ok d μ') : ∃ b, d = .bl b := by
  have opb : ∀ {o : Op} {p : CmpOp} {x y d : D} {μ μ' : Mu}, chainOp o p = true → opR C o [x, y] μ = .ok d μ' → ∃ b, d = .bl b := fun {o p x y d μ μ'} hp e => by
    have e' : lift ((opS C μ o [x, y]).map prD) μ = .ok d μ' := e
    cases q : opS C μ o [x, y] with
    | none => rw [q] at e'; cases e'
    | some pr =>
      obtain ⟨b, rfl⟩ := chainOp_b hp q
      rw [q] at e'
      cases e'
      exact ⟨b, rfl⟩
  have bind_ok' : ∀ {α β : Type} {r : Res α} {f : α → Mu → Res β} {y : β} {μ' : Mu}, r.bind f = .ok y μ' → ∃ a μ1, r = .ok a μ1 ∧ f a μ1 = .ok y μ' := fun {α β r f y μ'} e => by
    cases r with
    | ok a μ1 => exact ⟨a, μ1, rfl, e⟩
    | exc c v μ1 => cases e
    | err => cases e
  obtain ⟨x, μ1, _, h⟩ := bind_ok' h
  obtain ⟨y, μ2, _, h⟩ := bind_ok' h
  obtain ⟨t, μ3, _, h⟩ := bind_ok' h
  obtain ⟨t, μ4, _, h⟩ := bind_ok' h
  cases t with
  | true =>
    rw [if_pos rfl] at h
    obtain ⟨z, μ5, _, h⟩ := bind_ok' h
    exact opb h2 h
  | false =>
    rw [if_neg Bool.false_ne_true] at h
    cases h
    exact ⟨_, rfl⟩
/-- a test whose value is a bool -/
theorem t_bl {c : CE} {Q : Bool → Hp → Prop} (hb : ∀ ρ μ d μ', eE C cl c ρ μ = .ok d μ' → ∃ b, d = .bl b) (h : tT G W (eTr C cl c) σ H Q) : tE G W (eE C cl c) σ H fun x H' => ∀ k, x = .bl k → Q k H' := by
  obtain ⟨Z, ρ, μ, A, h⟩ := h
  refine ⟨Z, ρ, μ, A, ?_⟩
  have h' : Pst G W σ (fun _ a b => a = b) Z ((eE C cl c ρ μ).bind fun d μ1 => lift (truth μ1 d) μ1) Q := h
  cases e : eE C cl c ρ μ with
  | err => rw [e] at h'; exact h'
  | exc c v μ1 => rw [e] at h'; exact h'
  | ok d μ1 =>
    rw [e] at h'
    obtain ⟨b, rfl⟩ := hb _ _ _ _ e
    have h2 : ∀ b' Z', Ext Z Z' → Rel G Z' μ1 → b = b' → Q b' Z'.H := h'
    intro v Z1 x1 R1 r1 k ek
    have e1 : v = V.bl b := r1
    rw [e1] at ek
    cases ek
    exact h2 _ Z1 x1 R1 rfl
end
end PyE
set_option maxRecDepth 100000
set_option maxHeartbeats 4000000
namespace PyE
open PySem PySem.Spec PyProof.Rows L2
section
variable (G : Gi) (C : Cfg) (T : Tb) (cl : Cl) (k : Nat)
def SndE (c : CE) : Prop := ∀ n W X x, CxE G C T cl n W k X → ckE T c n x = true → PE X x (tE G W (eE C cl c)) ∧ PT X x (tT G W (eTr C cl c))
def SndN (c : CE) : Prop := ∀ n W X x, CxE G C T cl n W k X → ckE T (.cell c) n x = true → PE X x (tE G W (eE C cl (.cell c))) ∧ PT X x (tT G W (eTr C cl (.cell c)))
def SndA (c : CE) : Prop := ∀ n W X xs, CxE G C T cl n W k X → ckA T c n xs = true → Its G C cl W X c xs
def SndI (c : CE) : Prop := ∀ n W X tg x, CxE G C T cl n W k X → ckI T c n tg x = true → PI X tg x (tI G W (eI C cl c))
def SndC (c : CE) : Prop := ∀ n W X xs, CxE G C T cl n W k X → ckC T c n xs = true → PTs X xs (tT G W (eC C cl c))
structure Snd (c : CE) : Prop where
  e : SndE G C T cl k c := by intro _ _ _ _ _ h; cases h
  n : SndN G C T cl k c := by intro _ _ _ _ _ h; cases h
  a : SndA G C T cl k c := by intro _ _ _ _ _ h; cases h
  i : SndI G C T cl k c := by intro _ _ _ _ _ _ h; cases h
  c : SndC G C T cl k c := by intro _ _ _ _ _ h; cases h
end
section
variable {G : Gi} {C : Cfg} {T : Tb} {cl : Cl} {n : En} {W : WX} {k : Nat} {X : Cx} {σ : L2.St} {H : Hp}
theorem pts_mono {xs : List Expr} {t t' : TT} (h : PTs X xs t) (m : ∀ σ H Q, t' σ H Q → t σ H Q) : PTs X xs t' := ⟨fun pins s σ H Q I q => h.run pins s σ H Q I (m σ H Q q)⟩
/-- a test's plain way -/
theorem both (c : CxE G C T cl n W k X) {e : CE} {x : Expr} (hx : plainT x = true) (p : PE X x (tE G W (eE C cl e))) : PE X x (tE G W (eE C cl e)) ∧ PT X x (tT G W (eTr C cl e)) := ⟨p, t_plain c.K hx p⟩
theorem con_at {x : Expr} {v : V} {d : D} (p : PE X x (tC v)) (h : ∀ Z, RV G Z d v) : PE X x (tE G W (eE C cl (.con d))) := pe_mono p fun σ H Q ⟨Z, ρ, μ, A, q⟩ => by
  have q' := Like.ok (rel := RV G) q A.rel (h Z)
  rw [A.hp] at q'
  exact q'
theorem op_kind {o : Op} {x : Expr} {xs : List Expr} (h : opArgs T n o x = some xs) : isCmp x = true ∨ plainT x = true := by
  cases o with
  | eq => obtain ⟨_, _, _, rfl, _⟩ := cmpA_inv h; exact .inl rfl
  | ne => obtain ⟨_, _, _, rfl, _⟩ := cmpA_inv h; exact .inl rfl
  | lt => obtain ⟨_, _, _, rfl, _⟩ := cmpA_inv h; exact .inl rfl
  | le => obtain ⟨_, _, _, rfl, _⟩ := cmpA_inv h; exact .inl rfl
  | gt => obtain ⟨_, _, _, rfl, _⟩ := cmpA_inv h; exact .inl rfl
  | ge => obtain ⟨_, _, _, rfl, _⟩ := cmpA_inv h; exact .inl rfl
  | in_ => obtain ⟨_, _, _, rfl, _⟩ := cmpA_inv h; exact .inl rfl
  | notin => obtain ⟨_, _, _, rfl, _⟩ := cmpA_inv h; exact .inl rfl
  | isn => obtain ⟨_, _, _, _, rfl, _⟩ := cmpN_inv h; exact .inl rfl
  | notn => obtain ⟨_, _, _, _, rfl, _⟩ := cmpN_inv h; exact .inl rfl
  | isb b => obtain ⟨_, _, _, _, rfl, _⟩ := isbA_inv h; exact .inl rfl
  | add => obtain ⟨_, _, _, rfl, _⟩ := binA_inv h; exact .inr rfl
  | sub => obtain ⟨_, _, _, rfl, _⟩ := binA_inv h; exact .inr rfl
  | mul => obtain ⟨_, _, _, rfl, _⟩ := binA_inv h; exact .inr rfl
  | fdiv => obtain ⟨_, _, _, rfl, _⟩ := binA_inv h; exact .inr rfl
  | mod => obtain ⟨_, _, _, rfl, _⟩ := binA_inv h; exact .inr rfl
  | pow => obtain ⟨_, _, _, rfl, _⟩ := binA_inv h; exact .inr rfl
  | neg => obtain ⟨_, _, rfl, _⟩ := negA_inv h; exact .inr rfl
  | idx => obtain ⟨_, _, _, rfl, _⟩ := idxA_inv h; exact .inr rfl
  | slc a b =>
    cases a <;> cases b
    · obtain ⟨_, _, _, rfl, _⟩ := slc00_inv h; exact .inr rfl
    · obtain ⟨_, _, _, _, rfl, _⟩ := slc01_inv h; exact .inr rfl
    · obtain ⟨_, _, _, _, rfl, _⟩ := slc10_inv h; exact .inr rfl
    · cases h
  | rev => obtain ⟨_, _, _, _, _, _, rfl, _⟩ := revA_inv h; exact .inr rfl
  | len => obtain ⟨_, _, rfl, _⟩ := callB_inv (callN_inv h).1; exact .inr rfl
  | abs => obtain ⟨_, _, rfl, _⟩ := callB_inv (callN_inv h).1; exact .inr rfl
  | int_ => obtain ⟨_, _, rfl, _⟩ := callB_inv (callN_inv h).1; exact .inr rfl
  | bool_ => obtain ⟨_, _, rfl, _⟩ := callB_inv (callN_inv h).1; exact .inr rfl
  | repr => obtain ⟨_, _, rfl, _⟩ := callB_inv (callN_inv h).1; exact .inr rfl
  | max2 => obtain ⟨_, _, rfl, _⟩ := callB_inv (callN_inv h).1; exact .inr rfl
  | min2 => obtain ⟨_, _, rfl, _⟩ := callB_inv (callN_inv h).1; exact .inr rfl
  | sum1 => obtain ⟨_, _, rfl, _⟩ := callB_inv (callN_inv h).1; exact .inr rfl
  | lrange => obtain ⟨_, h1, _⟩ := lrA_inv h; obtain ⟨_, _, rfl, _⟩ := callB_inv (callN_inv h1).1; exact .inr rfl
  | sum2 => obtain ⟨_, _, rfl, _⟩ := callB_inv (callN_inv h).1; exact .inr rfl
  | sorted => obtain ⟨_, _, rfl, _⟩ := callB_inv (callN_inv h).1; exact .inr rfl
  | all => obtain ⟨_, _, rfl, _⟩ := callB_inv (callN_inv h).1; exact .inr rfl
  | any => obtain ⟨_, _, rfl, _⟩ := callB_inv (callN_inv h).1; exact .inr rfl
  | list => obtain ⟨_, _, rfl, _⟩ := callB_inv (callN_inv h).1; exact .inr rfl
  | tuple => obtain ⟨_, _, rfl, _⟩ := callB_inv (callN_inv h).1; exact .inr rfl
  | isi ts =>
    obtain ⟨_, _, h1, _⟩ := isiA_inv h
    obtain ⟨_, _, rfl, _⟩ := callB_inv h1
    exact .inr rfl
  | tup => obtain ⟨_, _, rfl, _⟩ := tupA_inv h; exact .inr rfl
  | lst => obtain ⟨_, rfl, _⟩ := lstA_inv h; exact .inr rfl
  | attr => obtain ⟨_, _, rfl, _⟩ := attrA_inv h; exact .inr rfl
  | bitlen =>
    obtain ⟨_, h1, _⟩ := bitA_inv h
    obtain ⟨_, _, rfl, _⟩ := callM_inv h1
    exact .inr rfl
  | _ => cases h
theorem s_op (c : CxE G C T cl n W k X) {o : Op} {es : CE} {x : Expr} {xs : List Expr} (h : opArgs T n o x = some xs) (hi : Its G C cl W X es xs) : PE X x (tE G W (eE C cl (.op o es))) ∧ PT X x (tT G W (eTr C cl (.op o es))) := by
  have p := pe_mono (k_op c h hi) fun σ H Q q => e_op (cl := cl) q
  rcases op_kind h with hx | hx
  · obtain ⟨p2, hb⟩ := k_test c h hx hi
    exact ⟨p, t_cmp hb p2⟩
  · exact both c hx p
/-- a list's making: frozen, or a cell -/
theorem l_frz {m : Ro → Mu → Res (List D)} {m' : Ro → Mu → Res D} (e : ∀ ρ μ, m' ρ μ = (m ρ μ).bind fun xs μ5 => .ok (.lst xs) μ5) {Q : VK} (h : tE G W m' σ H Q) : tL G W m σ H Q := by
  obtain ⟨Z, ρ, μ, A, h⟩ := h
  refine ⟨Z, ρ, μ, A, ?_⟩
  rw [e] at h
  cases q : m ρ μ with
  | err => rw [q] at h; exact h
  | exc c v μ1 => rw [q] at h; exact h
  | ok xs μ1 =>
    rw [q] at h
    intro p vs Z1 x R hp r z
    obtain ⟨Z2, e1, e2, e3, e4⟩ := froze R hp r z
    rw [← e1]
    exact h _ Z2 (x.trans e2) e3 e4
theorem l_cell {m : Ro → Mu → Res (List D)} {m' : Ro → Mu → Res D} (e : ∀ ρ μ, m' ρ μ = (m ρ μ).bind fun xs μ1 => .ok (.ref μ1.length) (μ1 ++ [xs])) {Q : VK} (h : tE G W m' σ H Q) : tL G W m σ H Q := by
  obtain ⟨Z, ρ, μ, A, h⟩ := h
  refine ⟨Z, ρ, μ, A, ?_⟩
  rw [e] at h
  cases q : m ρ μ with
  | err => rw [q] at h; exact h
  | exc c v μ1 => rw [q] at h; exact h
  | ok xs μ1 =>
    rw [q] at h
    intro p vs Z1 x R hp r z
    obtain ⟨Z2, e1, e2, e3, e4⟩ := celled R hp r z
    rw [← e1]
    exact h _ Z2 (x.trans e2) e3 e4
theorem fold_noset {x : Expr} {env : Env} (h : noSet x = true) (v : Value) : foldedSetIterable x env v = pure v := by
  cases x <;> first | rfl | cases h
/-- a comprehension, one clause -/
theorem k_comp (c : CxE G C T cl n W k X) {t : Tg} {it cd e : CE} (si : SndI G C T cl k it) (sc : SndC G C T cl k cd) (se : SndE G C T cl k e) {elt tg iter : Expr} {ifs : List Expr} {scope : Scope} {pos : Pos}
    (h : (ckI T it n tg iter && noSet iter && blkC n.N n.sc scope (ownOf n.N t.slots) && ckT (n.blk scope) t tg && ckC T cd (n.blk scope) ifs && ckE T e (n.blk scope) elt) = true) :
    PE X (.ListComp elt [⟨tg, iter, ifs, 0⟩] scope pos) (tL G W (eL C cl t it cd e)) := by
  simp only [Bool.and_eq_true] at h
  obtain ⟨⟨⟨⟨⟨h1, h2⟩, h3⟩, h4⟩, h5⟩, h6⟩ := h
  have ok : BlkOk X.N X.env.scope scope (ownOf n.N t.slots) := by rw [c.N, c.sc]; exact blkOk_by h3
  have p := pe_lc (pos := pos) c.calm (by rw [c.N]; exact c.nd) (si n W X tg iter c h1) ok (fun s H Ca l fp => k_tg (blk_cx c s H Ca l fp) h4) (fun s H Ca l fp => sc _ _ _ _ (blk_cx c s H Ca l fp) h5) (fun s H Ca l fp => (se _ _ _ _ (blk_cx c s H Ca l fp) h6).1) (fold_noset h2)
  rw [set_own] at p
  exact pe_mono p fun σ H Q q => lc_read q
theorem eE_comp_eq (t : Tg) (it cd e : CE) (ρ : Ro) (μ : Mu) : eE C cl (.comp t it cd e) ρ μ = (eL C cl t it cd e ρ μ).bind fun xs μ5 => .ok (.lst xs) μ5 := by
  unfold eL
  rw [bind_bind]; rfl
theorem eE_ccomp_eq (t : Tg) (it cd e : CE) (ρ : Ro) (μ : Mu) : eE C cl (.cell (.comp t it cd e)) ρ μ = (eL C cl t it cd e ρ μ).bind fun xs μ1 => .ok (.ref μ1.length) (μ1 ++ [xs]) := rfl
/-- a comprehension, two clauses -/
theorem k_comp2 (c : CxE G C T cl n W k X) {t t1 : Tg} {it it1 cd e : CE} (si : SndI G C T cl k it) (si1 : SndI G C T cl k it1) (sc : SndC G C T cl k cd) (se : SndE G C T cl k e) {elt tg iter tg1 iter1 : Expr} {ifs : List Expr} {scope : Scope} {pos : Pos}
    (h : (ckI T it n tg iter && noSet iter && noSet iter1 && blkC n.N n.sc scope (ownOf n.N (t.slots ++ t1.slots)) && ckT (n.blk scope) t tg && ckI T it1 (n.blk scope) tg1 iter1 && ckT (n.blk scope) t1 tg1 && ckC T cd (n.blk scope) ifs && ckE T e (n.blk scope) elt) = true) :
    PE X (.ListComp elt [⟨tg, iter, [], 0⟩, ⟨tg1, iter1, ifs, 0⟩] scope pos) (tL G W (eL2 C cl t it t1 it1 cd e)) := by
  simp only [Bool.and_eq_true] at h
  obtain ⟨⟨⟨⟨⟨⟨⟨⟨h1, h2⟩, h3⟩, h4⟩, h5⟩, h6⟩, h7⟩, h8⟩, h9⟩ := h
  have ok : BlkOk X.N X.env.scope scope (ownOf n.N (t.slots ++ t1.slots)) := by rw [c.N, c.sc]; exact blkOk_by h4
  have p := pe_lc2 (pos := pos) (vs1 := t1.slots) c.calm (by rw [c.N]; exact c.nd) (si n W X tg iter c h1) ok (fun i hi => by rw [set_own]; exact List.mem_append_right _ hi) (fun s H Ca l fp => k_tg (blk_cx c s H Ca l fp) h5) (fun s H Ca l fp => pts_nil) (fun s H Ca l fp => si1 _ _ _ _ _ (blk_cx c s H Ca l fp) h6)
    (fun s H Ca l fp => k_tg (blk_cx c s H Ca l fp) h7) (fun s H Ca l fp => sc _ _ _ _ (blk_cx c s H Ca l fp) h8) (fun s H Ca l fp => (se _ _ _ _ (blk_cx c s H Ca l fp) h9).1) (fold_noset h2) (fun env x => fold_noset h3 x)
  rw [set_own] at p
  exact pe_mono p fun σ H Q q => lc2_read q
theorem eE_comp2_eq (t : Tg) (it : CE) (t1 : Tg) (it1 cd e : CE) (ρ : Ro) (μ : Mu) : eE C cl (.comp2 t it t1 it1 cd e) ρ μ = (eL2 C cl t it t1 it1 cd e ρ μ).bind fun xs μ5 => .ok (.lst xs) μ5 := by
  unfold eL2
  rw [bind_bind]
  show ((eI C cl it ρ μ).bind fun s μ0 => (compL s.okAt (fOut C cl t t1 it1 cd e ρ) s.xs μ0).bind fun xs μ8 => (chk xs μ8).bind fun xs μ9 => Res.ok (D.lst xs) μ9) = _
  congr 1
  funext s μ0
  rw [bind_bind]
theorem eE_ccomp2_eq (t : Tg) (it : CE) (t1 : Tg) (it1 cd e : CE) (ρ : Ro) (μ : Mu) : eE C cl (.cell (.comp2 t it t1 it1 cd e)) ρ μ = (eL2 C cl t it t1 it1 cd e ρ μ).bind fun xs μ1 => .ok (.ref μ1.length) (μ1 ++ [xs]) := rfl
theorem mop1_inv {id : Str} {x y : Expr} {xs : List Expr} (h : mop1 id x = some (y, xs)) : ∃ a, callM id x = some (y, [a]) ∧ xs = [a] := by
  unfold mop1 at h
  split at h
  · cases h; exact ⟨_, by assumption, rfl⟩
  · cases h
theorem mop0_inv {id : Str} {x y : Expr} {xs : List Expr} (h : mop0 id x = some (y, xs)) : callM id x = some (y, []) ∧ xs = [] := by
  unfold mop0 at h
  split at h
  · cases h; exact ⟨by assumption, rfl⟩
  · cases h
/-- a method of a cell -/
theorem k_mop (c : CxE G C T cl n W k X) {m : MOp} {o es : CE} {x y : Expr} {xs : List Expr} (h : mopArgs m x = some (y, xs)) (p : PE X y (tE G W (eE C cl o))) (hi : Its G C cl W X es xs) : PE X x (tE G W (eE C cl (.mop m o es))) := by
  have key : ∀ (σ : L2.St) (H : Hp) (Q : VK), tE G W (eE C cl (.mop m o es)) σ H Q → tBM X.K "list" (rM G m) (tE G W (eE C cl o)) (tA G W (eA C cl es)) σ H Q := fun σ H Q q => by
    obtain ⟨Z, ρ, μ, A, q⟩ := q
    have L := like_pst (G := G) (W := W) (σ := σ) (RV G) Q
    refine ⟨Z, ρ, μ, A, step L (r := eE C cl o ρ μ) A q fun v Z1 μ1 d A1 X1 r1 h1 => ?_⟩
    obtain ⟨j, e, h2⟩ := step_lift L h1
    have e' : d = .ref j := by cases d <;> first | (cases e; rfl) | cases e
    subst e'
    refine ⟨tyV_ref A1.rel r1, Z1, ρ, μ1, A1, step L (r := eA C cl es ρ μ1) A1 h2 fun vs Z2 μ2 ds A2 X2 r2 h3 => ?_⟩
    cases e3 : mopS μ2 m (.ref j) ds with
    | none =>
      have h3' : Pst G W σ (RV G) Z2 (lift2 (mopS μ2 m (.ref j) ds)) Q := h3
      rw [e3] at h3'
      exact False.elim h3'
    | some q =>
      have h3' : Pst G W σ (RV G) Z2 (lift2 (mopS μ2 m (.ref j) ds)) Q := h3
      rw [e3] at h3'
      exact ⟨Z2, μ2, j, ds, q.1, q.2, rfl, A2.rel, RV.ext X2 A1.rel _ _ r1, r2, e3, fun v Z' x R r => h3' v Z' x R r⟩
  have fin1 : ∀ {id : String} {name : Str} {a : Expr}, Slot "list" name id → typeOf (.builtin id) = pure (.type "method_descriptor") → MtM X id (rM G m) → callM name x = some (y, [a]) → xs = [a] → PE X x (tE G W (eE C cl (.mop m o es))) := fun {id name a} sl ty hm h1 hx => by
    subst hx
    obtain ⟨ap, pos, rfl, hs, hb, hl, _⟩ := callM_inv h1
    rw [List.all_cons, Bool.and_eq_true] at hs
    exact pe_mono (pe_bm PySem.F.plainAttrs_list sl ty hm p (its_pa hi) (plainBase_of hb) (by rw [star_of hs.1]; rfl) (by rw [hl]; exact beq_self_eq_true _) (star_of hs.1) rfl) key
  cases m with
  | append =>
    obtain ⟨a, h1, h2⟩ := mop1_inv h
    exact fin1 PySem.F.slot_list_append PySem.F.type_list_append m_append h1 h2
  | popi =>
    obtain ⟨a, h1, h2⟩ := mop1_inv h
    exact fin1 PySem.F.slot_list_pop PySem.F.type_list_pop m_popi h1 h2
  | pop =>
    obtain ⟨h1, h2⟩ := mop0_inv h
    subst h2
    obtain ⟨ap, pos, rfl, hs, hb, hl, _⟩ := callM_inv h1
    have e0 := its_nil hi
    subst e0
    refine pe_mono (pe_bm0 PySem.F.plainAttrs_list PySem.F.slot_list_pop PySem.F.type_list_pop (m_pop (G := G)) p (plainBase_of hb) (by rw [hl]; exact beq_self_eq_true _)) fun σ H Q q => ?_
    obtain ⟨Z, ρ, μ, A, q⟩ := key σ H Q q
    refine ⟨Z, ρ, μ, A, Pst.mono q fun v H1 q2 => ⟨q2.1, ?_⟩⟩
    obtain ⟨Z1, ρ1, μ1, A1, q3⟩ := q2.2
    have q4 : rM G .pop v [] Z1.H Q := q3 [] Z1 (Ext.refl _) A1.rel rfl
    rw [A1.hp] at q4
    exact q4
  | insert => cases h
end
end PyE
set_option maxRecDepth 100000
set_option maxHeartbeats 4000000
/-! every expression, by induction -/
namespace PyE
open PySem PySem.Spec PyProof.Rows L2
section
variable {G : Gi} {C : Cfg} {T : Tb} {cl : Cl} {n : En} {W : WX} {k : Nat} {X : Cx} {σ : L2.St} {H : Hp}
theorem s_con {d : D} (c : CxE G C T cl n W k X) {x : Expr} (h : isCon T n d x = true) : PE X x (tE G W (eE C cl (.con d))) ∧ PT X x (tT G W (eTr C cl (.con d))) := by
  unfold isCon at h
  split at h
  · rename_i cc j p
    refine both c rfl ?_
    split at h
    · exact con_at pe_non fun _ => rfl
    · have e := of_decide_eq_true h
      subst e
      exact con_at pe_bl fun _ => rfl
    · have e := of_decide_eq_true h
      subst e
      exact con_at pe_int fun _ => rfl
    · have e := of_decide_eq_true h
      subst e
      exact con_at pe_str fun _ => rfl
    · cases h
  · obtain ⟨g1, g2, v, u, g3, g4, g5⟩ := c.conN h
    exact both c rfl (con_at (pe_glob g1 g3 g4 g2) g5)
  · split at h
    · refine both c rfl (pe_mono pe_dnewK fun σ H Q ⟨Z, ρ, μ, A, q⟩ => ?_)
      intro p hp
      rw [← A.hp] at hp ⊢
      exact q (.ref p) (Z.lay p (.dK [])) (Ext.lay hp) (A.rel.lay hp) ⟨p, rfl, upd_same⟩
    · cases h
  · cases h
theorem s_and {a b : CE} (ia : SndE G C T cl k a) (ib : SndE G C T cl k b) : SndE G C T cl k (.and_ a b) := by
  intro n W X x c h
  unfold ckE at h
  have h' := h
  clear h
  split at h'
  · rw [Bool.and_eq_true] at h'
    obtain ⟨pa, ta⟩ := ia n W X _ c h'.1
    obtain ⟨pb, tb⟩ := ib n W X _ c h'.2
    exact ⟨pe_mono (pe_and pa (pe_one pb)) fun σ H Q q => e_and q, pt_mono (pw_and ta (pw_and1 tb)).pt fun σ H Q q => t_and q⟩
  · rw [Bool.and_eq_true] at h'
    obtain ⟨pa, ta⟩ := ia n W X _ c h'.1
    obtain ⟨pb, tb⟩ := ib n W X _ c h'.2
    exact ⟨pe_mono (pe_and pa pb) fun σ H Q q => e_and q, pt_mono (pw_and ta (pw_bool tb)).pt fun σ H Q q => t_and q⟩
  · cases h'
theorem s_or {a b : CE} (ia : SndE G C T cl k a) (ib : SndE G C T cl k b) : SndE G C T cl k (.or_ a b) := by
  intro n W X x c h
  unfold ckE at h
  have h' := h
  clear h
  split at h'
  · rw [Bool.and_eq_true] at h'
    obtain ⟨pa, ta⟩ := ia n W X _ c h'.1
    obtain ⟨pb, tb⟩ := ib n W X _ c h'.2
    exact ⟨pe_mono (pe_or pa (pe_one pb)) fun σ H Q q => e_or q, pt_mono (pw_or ta (pw_or1 tb)).pt fun σ H Q q => t_or q⟩
  · rw [Bool.and_eq_true] at h'
    obtain ⟨pa, ta⟩ := ia n W X _ c h'.1
    obtain ⟨pb, tb⟩ := ib n W X _ c h'.2
    exact ⟨pe_mono (pe_or pa pb) fun σ H Q q => e_or q, pt_mono (pw_or ta (pw_bool tb)).pt fun σ H Q q => t_or q⟩
  · cases h'
theorem s_chain {o1 o2 : Op} {a b d : CE} (ia : SndE G C T cl k a) (ib : SndE G C T cl k b) (id_ : SndE G C T cl k d) : SndE G C T cl k (.chain o1 o2 a b d) := by
  intro n W X x c h
  unfold ckE at h
  have h' := h
  clear h
  split at h'
  · rename_i y p1 p2 z w pos
    simp only [Bool.and_eq_true] at h'
    obtain ⟨⟨⟨⟨⟨⟨h1, h2⟩, h3⟩, h4⟩, h5⟩, h6⟩, h7⟩ := h'
    have pa := (ia n W X _ c h5).1
    have pb := (ib n W X _ c h6).1
    have pd := (id_ n W X _ c h7).1
    have hm : lastMarks [p1, p2] [z, w] = false := noSet_marks h4
    exact ⟨pe_mono (pe_chain (chainOp_r c h1) (chainOp_r c h2) pa pb pd hm) fun σ H Q q => e_chain h1 h2 (fun _ _ _ q => q) q,
      pt_mono (pt_chain (chainOp_r c h1) (chainOp_r c h2) pa pb pd hm) fun σ H Q q => e_chain h1 h2 (fun x H ⟨b, e⟩ q => ⟨b, e, q b e⟩) (t_bl (fun ρ μ d μ' e => chain_bl h1 h2 e) q)⟩
  · cases h'
theorem s_ite {t a b : CE} (it : SndE G C T cl k t) (ia : SndE G C T cl k a) (ib : SndE G C T cl k b) : SndE G C T cl k (.ite t a b) := by
  intro n W X x c h
  unfold ckE at h
  have h' := h
  clear h
  split at h'
  · simp only [Bool.and_eq_true] at h'
    obtain ⟨⟨h1, h2⟩, h3⟩ := h'
    obtain ⟨_, tt⟩ := it n W X _ c h1
    obtain ⟨pa, ta⟩ := ia n W X _ c h2
    obtain ⟨pb, tb⟩ := ib n W X _ c h3
    exact ⟨pe_mono (pe_ifExp tt pa pb) fun σ H Q q => e_ite q, pt_mono (pt_ife tt ta tb) fun σ H Q q => t_ite q⟩
  · cases h'
theorem s_not {a : CE} (ia : SndE G C T cl k a) : SndE G C T cl k (.not_ a) := by
  intro n W X x c h
  unfold ckE at h
  have h' := h
  clear h
  split at h'
  · obtain ⟨pa, ta⟩ := ia n W X _ c h'
    exact ⟨pe_mono (pe_not pa) fun σ H Q q => e_not q, pt_mono (pt_not ta) fun σ H Q q => t_not q⟩
  · cases h'
theorem s_var {i : Nat} : SndE G C T cl k (.v i) := by
  intro n W X x c h
  unfold ckE at h
  have h' := h
  clear h
  split at h'
  · obtain ⟨g1, g2, g3, g4⟩ := c.var h'
    refine both c rfl (pe_mono (pe_var g1 g2 g3 g4) fun σ H Q ⟨Z, ρ, μ, A, q⟩ => ?_)
    have q' : Pst G W σ (RV G) Z (lift (getV ρ i) μ) Q := q
    cases e : getV ρ i with
    | none => rw [e] at q'; exact False.elim q'
    | some d =>
      rw [e] at q'
      obtain ⟨v, e1, e2⟩ := A.se.getV e
      have q2 := Like.ok (rel := RV G) q' A.rel e2
      rw [A.hp] at q2
      exact ⟨v, e1, q2⟩
  · cases h'
theorem s_fnv {f : Fid} : SndE G C T cl k (.fnv f) := by
  intro n W X x c h
  unfold ckE at h
  have h' := h
  clear h
  split at h'
  · obtain ⟨g1, g2, g3, g4, _, g6⟩ := c.fnN h'
    refine both c rfl (pe_mono (pe_glob (v := .ref (G.fa f)) g1 g3 rfl g2) fun σ H Q ⟨Z, ρ, μ, A, q⟩ => ?_)
    have q2 := Like.ok (rel := RV G) q A.rel (b := .ref (G.fa f)) ⟨g6, rfl⟩
    rw [A.hp] at q2
    exact q2
  · cases h'
theorem s_call {f : Fid} {perm : List Nat} {es : CE} (ia : SndA G C T cl k es) : SndE G C T cl k (.call f perm es) := by
  intro n W X x c h
  unfold ckE at h
  have h' := h
  clear h
  split at h'
  · rename_i xs e
    have p := k_call c e (ia n W X xs c h')
    obtain ⟨_, _, _, rfl, _⟩ := callA_inv e
    exact both c rfl p
  · cases h'
theorem s_callv {g es : CE} (ig : SndE G C T cl k g) (ia : SndA G C T cl k es) : SndE G C T cl k (.callv g es) := by
  intro n W X x c h
  unfold ckE at h
  split at h
  · rename_i y xs e
    rw [Bool.and_eq_true] at h
    have p := k_callv c e (ig n W X y c h.1).1 (ia n W X xs c h.2)
    have hx : plainT x = true := by
      unfold callvA at e
      split at e
      · rfl
      · cases e
    exact both c hx p
  · cases h
theorem s_mop {m : MOp} {o es : CE} (io : SndE G C T cl k o) (ia : SndA G C T cl k es) : SndE G C T cl k (.mop m o es) := by
  intro n W X x c h
  unfold ckE at h
  have h' := h
  clear h
  split at h'
  · rename_i y xs e
    rw [Bool.and_eq_true] at h'
    have p := k_mop c e (io n W X y c h'.1).1 (ia n W X xs c h'.2)
    have hx : plainT x = true := by
      cases m with
      | append => obtain ⟨a, e1, _⟩ := mop1_inv e; obtain ⟨_, _, rfl, _⟩ := callM_inv e1; rfl
      | popi => obtain ⟨a, e1, _⟩ := mop1_inv e; obtain ⟨_, _, rfl, _⟩ := callM_inv e1; rfl
      | pop => obtain ⟨e1, _⟩ := mop0_inv e; obtain ⟨_, _, rfl, _⟩ := callM_inv e1; rfl
      | insert => cases e
    exact both c hx p
  · cases h'
theorem s_comp {t : Tg} {it cd e : CE} (si : SndI G C T cl k it) (sc : SndC G C T cl k cd) (se : SndE G C T cl k e) : SndE G C T cl k (.comp t it cd e) ∧ SndN G C T cl k (.comp t it cd e) := by
  constructor
  · intro n W X x c h
    unfold ckE at h
    have h' := h
    clear h
    split at h'
    · exact both c rfl (pe_mono (k_comp c si sc se h') fun σ H Q q => l_frz (eE_comp_eq t it cd e) q)
    · cases h'
  · intro n W X x c h
    unfold ckE at h
    have h' := h
    clear h
    split at h'
    · exact both c rfl (pe_mono (k_comp c si sc se h') fun σ H Q q => l_cell (eE_ccomp_eq t it cd e) q)
    · cases h'
theorem s_comp2 {t t1 : Tg} {it it1 cd e : CE} (si : SndI G C T cl k it) (si1 : SndI G C T cl k it1) (sc : SndC G C T cl k cd) (se : SndE G C T cl k e) : SndE G C T cl k (.comp2 t it t1 it1 cd e) ∧ SndN G C T cl k (.comp2 t it t1 it1 cd e) := by
  constructor
  · intro n W X x c h
    unfold ckE at h
    split at h
    · exact both c rfl (pe_mono (k_comp2 c si si1 sc se h) fun σ H Q q => l_frz (eE_comp2_eq t it t1 it1 cd e) q)
    · cases h
  · intro n W X x c h
    unfold ckE at h
    split at h
    · exact both c rfl (pe_mono (k_comp2 c si si1 sc se h) fun σ H Q q => l_cell (eE_ccomp2_eq t it t1 it1 cd e) q)
    · cases h
theorem s_opE {o : Op} {es : CE} (ia : SndA G C T cl k es) : SndE G C T cl k (.op o es) ∧ SndN G C T cl k (.op o es) := by
  constructor
  · intro n W X x c h
    unfold ckE at h
    have h' := h
    clear h
    split at h'
    · rename_i xs e
      exact s_op c e (ia n W X xs c h')
    · cases h'
  · intro n W X x c h
    unfold ckE at h
    rw [Bool.and_eq_true] at h
    have h' := h.2
    have hn : isCmp x = false := by simpa using h.1
    split at h'
    · rename_i xs e
      have hi := ia n W X xs c h'
      have p := pe_mono (k_op c e hi) fun σ H Q q => e_cell (cl := cl) q
      rcases op_kind e with hx | hx
      · rw [hn] at hx; cases hx
      · exact both c hx p
    · cases h'
theorem s_cons {e r : CE} (ie : SndE G C T cl k e) (ir : SndA G C T cl k r) : SndA G C T cl k (.cons e r) := by
  intro n W X xs c h
  unfold ckA at h
  split at h
  · simp only [Bool.and_eq_true] at h
    exact ⟨_, _, rfl, h.1.1, (ie n W X _ c h.1.2).1, ir n W X _ c h.2⟩
  · cases h
theorem s_consC {e r : CE} (ie : SndE G C T cl k e) : SndC G C T cl k (.cons e r) := by
  intro n W X xs c h
  unfold ckC at h
  split at h
  · cases ‹_ = CE.nil›
  · rename_i e1 e2
    cases e2
    split at h
    · exact pts_mono (pts_one (ie n W X _ c h).2) fun σ H Q q => q
    · cases h
  · cases h
theorem s_rng1 {a : CE} (ia : SndE G C T cl k a) : SndI G C T cl k (.irng1 a) := by
  intro n W X tg x c h
  unfold ckI at h
  split at h
  · exact i_range1 c (by assumption) (ia n W X _ c h).1
  · cases h
theorem s_rng2 {a b : CE} (ia : SndE G C T cl k a) (ib : SndE G C T cl k b) : SndI G C T cl k (.irng2 a b) := by
  intro n W X tg x c h
  unfold ckI at h
  split at h
  · rw [Bool.and_eq_true] at h
    exact i_range2 c (by assumption) (ia n W X _ c h.1).1 (ib n W X _ c h.2).1
  · cases h
theorem s_enum {a : CE} (ia : SndE G C T cl k a) : SndI G C T cl k (.ienum a) := by
  intro n W X tg x c h
  unfold ckI at h
  rw [Bool.and_eq_true] at h
  obtain ⟨h1, h⟩ := h
  split at h
  · exact i_enum c h1 (by assumption) (ia n W X _ c h).1
  · cases h
theorem s_zip {a b : CE} (ia : SndE G C T cl k a) (ib : SndE G C T cl k b) : SndI G C T cl k (.izip false a b) := by
  intro n W X tg x c h
  unfold ckI at h
  rw [Bool.and_eq_true] at h
  obtain ⟨h1, h⟩ := h
  split at h
  · rw [Bool.and_eq_true] at h
    exact i_zip c h1 (by assumption) (ia n W X _ c h.1).1 (ib n W X _ c h.2).1
  · cases h
theorem s_nilA : SndA G C T cl k .nil := by
  intro n W X xs c h
  unfold ckA at h
  exact List.isEmpty_iff.mp h
theorem s_nilC : SndC G C T cl k .nil := by
  intro n W X xs c h
  unfold ckC at h
  have e : xs = [] := List.isEmpty_iff.mp h
  subst e
  refine pts_mono pts_nil fun σ H Q ⟨Z, ρ, μ, A, q⟩ => ?_
  have q2 := t_ok q A.rel
  rw [A.hp] at q2
  exact q2
theorem s_seq {a : CE} (ia : SndE G C T cl k a) : SndI G C T cl k (.iseq a) := by
  intro n W X tg x c h
  unfold ckI at h
  exact i_seq c.K (ia n W X x c h).1
theorem s_zips {a b : CE} (ia : SndE G C T cl k a) (ib : SndE G C T cl k b) : SndI G C T cl k (.izip true a b) := by
  intro n W X tg x c h
  unfold ckI at h
  rw [Bool.and_eq_true] at h
  obtain ⟨h1, h⟩ := h
  split at h
  · simp only [Bool.and_eq_true, decide_eq_true_eq] at h
    obtain ⟨⟨⟨⟨⟨⟨hw, hb⟩, hk⟩, hy⟩, hz⟩, ka⟩, kb⟩ := h
    subst hk
    exact i_zips c h1 rfl hw hb hy hz (ia n W X _ c ka).1 (ib n W X _ c kb).1
  · cases h
theorem snd_all : ∀ c : CE, Snd G C T cl k c := by
  intro c
  induction c with
  | con d => exact { e := fun n W X x c h => s_con c h }
  | v i => exact { e := s_var }
  | fnv f => exact { e := s_fnv }
  | op o es ih => exact { e := (s_opE ih.a).1, n := (s_opE ih.a).2 }
  | mop m o es ih1 ih2 => exact { e := s_mop ih1.e ih2.a }
  | not_ a ih => exact { e := s_not ih.e }
  | and_ a b ih1 ih2 => exact { e := s_and ih1.e ih2.e }
  | or_ a b ih1 ih2 => exact { e := s_or ih1.e ih2.e }
  | chain o1 o2 a b d ih1 ih2 ih3 => exact { e := s_chain ih1.e ih2.e ih3.e }
  | ite t a b ih1 ih2 ih3 => exact { e := s_ite ih1.e ih2.e ih3.e }
  | cell e ih => exact { e := ih.n }
  | call f perm es ih => exact { e := s_call ih.a }
  | callv g es ih1 ih2 => exact { e := s_callv ih1.e ih2.a }
  | mk c e => exact { }
  | comp t it cd e ih1 ih2 ih3 => exact { e := (s_comp ih1.i ih2.c ih3.e).1, n := (s_comp ih1.i ih2.c ih3.e).2 }
  | comp2 t it t1 it1 cd e ih1 ih2 ih3 ih4 => exact { e := (s_comp2 ih1.i ih2.i ih3.c ih4.e).1, n := (s_comp2 ih1.i ih2.i ih3.c ih4.e).2 }
  | iseq a ih => exact { i := s_seq ih.e }
  | irng1 a ih => exact { i := s_rng1 ih.e }
  | irng2 a b ih1 ih2 => exact { i := s_rng2 ih1.e ih2.e }
  | irng3 a b d => exact { }
  | izip s a b ih1 ih2 =>
    cases s with
    | false => exact { i := s_zip ih1.e ih2.e }
    | true => exact { i := s_zips ih1.e ih2.e }
  | ienum a ih => exact { i := s_enum ih.e }
  | nil => exact { a := s_nilA, c := s_nilC }
  | cons e r ih1 ih2 => exact { a := s_cons ih1.e ih2.a, c := s_consC ih1.e }
end
end PyE
set_option maxRecDepth 100000
set_option maxHeartbeats 4000000
/-! statements: readings -/
namespace PyE
open PySem PySem.Spec PyProof.Rows L2
section
variable (G : Gi) (W : WX)
def PstS (E : Ends) (Z : Wd) (o : Out) : Prop := match o with
  | .next ρ' μ' => ∀ σ' Z', Ext Z Z' → Rel G Z' μ' → SE G Z' σ' ρ' → E.nx σ' Z'.H
  | .brk ρ' μ' => ∀ σ' Z', Ext Z Z' → Rel G Z' μ' → SE G Z' σ' ρ' → E.bk σ' Z'.H
  | .cont ρ' μ' => ∀ σ' Z', Ext Z Z' → Rel G Z' μ' → SE G Z' σ' ρ' → E.ct σ' Z'.H
  | .ret d μ' => ∀ v Z', Ext Z Z' → Rel G Z' μ' → RV G Z' d v → E.rt v Z'.H
  | .exc c d ρ' μ' => G.kc c = true → ∀ dd w σ' Z', Ext Z Z' → Rel G Z' μ' → SE G Z' σ' ρ' → Z'.H dd = some (.xd [("value", w)]) → RV G Z' d w → W (.ref (G.ca c)) (some dd) σ' Z'.H
  | .err => False
def tS (m : Ro → Mu → Out) : TS := fun E σ H => ∃ Z ρ μ, At G Z H σ ρ μ ∧ PstS G W E Z (m ρ μ)
end
section
variable {G : Gi} {C : Cfg} {T : Tb} {cl : Cl} {n : En} {W : WX} {k : Nat} {X : Cx} {σ : L2.St} {H : Hp} {E : Ends} {Z Z' : Wd} {ρ : Ro} {μ : Mu}
theorem PstS.base {o : Out} (h : PstS G W E Z o) (x : Ext Z Z') : PstS G W E Z' o := by
  cases o with
  | next ρ' μ' => exact fun σ' Z2 y R s => h σ' Z2 (x.trans y) R s
  | brk ρ' μ' => exact fun σ' Z2 y R s => h σ' Z2 (x.trans y) R s
  | cont ρ' μ' => exact fun σ' Z2 y R s => h σ' Z2 (x.trans y) R s
  | ret d μ' => exact fun v Z2 y R s => h v Z2 (x.trans y) R s
  | exc c d ρ' μ' => exact fun kc dd w σ' Z2 y R s => h kc dd w σ' Z2 (x.trans y) R s
  | err => exact h
theorem PstS.next (h : PstS G W E Z (.next ρ μ)) (A : At G Z H σ ρ μ) : E.nx σ H := by
  have := h σ Z (Ext.refl _) A.rel A.se
  rw [A.hp] at this
  exact this
theorem stepS {α γ : Type} {rel : Wd → α → γ → Prop} {r : Res α} {f : α → Mu → Out} (A : At G Z H σ ρ μ) (h : PstS G W E Z (r.out ρ f)) {Q : γ → Hp → Prop}
    (hq : ∀ b Z1 μ1 a, At G Z1 Z1.H σ ρ μ1 → Ext Z Z1 → rel Z1 a b → PstS G W E Z1 (f a μ1) → Q b Z1.H) : Pst G W σ rel Z r Q := by
  cases r with
  | ok a μ1 => exact fun b Z2 x R q => hq b Z2 μ1 a (A.ext x R) x q (PstS.base h x)
  | exc c d μ1 => exact fun kc dd w Z2 x R e r => h kc dd w σ Z2 x R (A.se.ext x A.rel) e r
  | err => exact h
theorem liftS {α : Type} {o : Option α} {f : α → Mu → Out} (h : PstS G W E Z ((PyE.lift o μ).out ρ f)) : ∃ a, o = some a ∧ PstS G W E Z (f a μ) := by
  cases o with
  | none => exact False.elim h
  | some a => exact ⟨a, rfl, h⟩
theorem PstS.seq {o : Out} {f : Ro → Mu → Out} (h : PstS G W E Z (o.seq f)) : PstS G W { E with nx := tS G W f E } Z o := by
  cases o with
  | next ρ' μ' => exact fun σ' Z2 y R s => ⟨Z2, ρ', μ', ⟨rfl, s, R⟩, PstS.base h y⟩
  | _ => exact h
theorem PstS.turn {o : Out} {f : Ro → Mu → Out} {N : L2.St → Hp → Prop} (h : PstS G W E Z (o.turn f)) (hN : ∀ σ' Z' ρ' μ', Ext Z Z' → Rel G Z' μ' → SE G Z' σ' ρ' → PstS G W E Z' (f ρ' μ') → N σ' Z'.H) : PstS G W { E with nx := N, ct := N, bk := E.nx } Z o := by
  cases o with
  | next ρ' μ' => exact fun σ' Z2 y R s => hN σ' Z2 ρ' μ' y R s (PstS.base h y)
  | cont ρ' μ' => exact fun σ' Z2 y R s => hN σ' Z2 ρ' μ' y R s (PstS.base h y)
  | brk ρ' μ' => exact h
  | ret d μ' => exact h
  | exc c d ρ' μ' => exact h
  | err => exact h
/-! ### readings -/
theorem r_nil (h : tS G W (eS C cl .nil) E σ H) : tNext E σ H := by
  obtain ⟨Z, ρ, μ, A, h⟩ := h
  exact h.next A
theorem r_cons {s r : CS} (h : tS G W (eS C cl (.cons s r)) E σ H) : tSeq (tS G W (eS C cl s)) (tS G W (eS C cl r)) E σ H := by
  obtain ⟨Z, ρ, μ, A, h⟩ := h
  exact ⟨Z, ρ, μ, A, PstS.seq h⟩
theorem r_ex {e : CE} (h : tS G W (eS C cl (.ex e)) E σ H) : tDrop (tE G W (eE C cl e)) E σ H := by
  obtain ⟨Z, ρ, μ, A, h⟩ := h
  exact ⟨Z, ρ, μ, A, stepS A h fun v Z1 μ1 d A1 X1 r1 h1 => h1.next A1⟩
theorem r_ret {e : CE} (h : tS G W (eS C cl (.ret e)) E σ H) : tRet (tE G W (eE C cl e)) E σ H := by
  obtain ⟨Z, ρ, μ, A, h⟩ := h
  exact ⟨Z, ρ, μ, A, stepS A h fun v Z1 μ1 d A1 X1 r1 h1 => h1 v Z1 (Ext.refl _) A1.rel r1⟩
theorem r_retn (h : tS G W (eS C cl .retn) E σ H) : tRetN E σ H := by
  obtain ⟨Z, ρ, μ, A, h⟩ := h
  have := h .non Z (Ext.refl _) A.rel rfl
  rw [A.hp] at this
  exact this
theorem r_if {t : CE} {a b : CS} (h : tS G W (eS C cl (.if_ t a b)) E σ H) : tIfS (tT G W (eTr C cl t)) (tS G W (eS C cl a)) (tS G W (eS C cl b)) E σ H := by
  obtain ⟨Z, ρ, μ, A, h⟩ := h
  have h' : PstS G W E Z ((eTr C cl t ρ μ).out ρ fun c μ1 => if c = true then eS C cl a ρ μ1 else eS C cl b ρ μ1) := h
  refine ⟨Z, ρ, μ, A, stepS A h' fun v Z1 μ1 d A1 X1 r1 h1 => ?_⟩
  have e : d = v := r1
  subst e
  cases d with
  | true => rw [if_pos rfl] at h1 ⊢; exact ⟨Z1, ρ, μ1, A1, h1⟩
  | false => rw [if_neg Bool.false_ne_true] at h1 ⊢; exact ⟨Z1, ρ, μ1, A1, h1⟩
theorem r_while {t : CE} {b : CS} (h : tS G W (eS C cl (.while_ t b)) E σ H) : tWhile (tT G W (eTr C cl t)) (tS G W (eS C cl b)) E σ H := by
  refine ⟨fun m σ H => ∃ Z ρ μ, At G Z H σ ρ μ ∧ PstS G W E Z (whileL (eTr C cl t) (fun ρ1 μ1 => eS C cl b ρ1 μ1) m ρ μ), ⟨C.W, h⟩, fun m σ H ⟨Z, ρ, μ, A, h⟩ => ?_⟩
  cases m with
  | zero => exact False.elim h
  | succ m =>
    have h' : PstS G W E Z ((eTr C cl t ρ μ).out ρ fun b' μ1 => if b' = true then (eS C cl b ρ μ1).turn fun ρ1 μ2 => whileL (eTr C cl t) (fun ρ1 μ1 => eS C cl b ρ1 μ1) m ρ1 μ2 else .next ρ μ1) := h
    refine ⟨Z, ρ, μ, A, stepS A h' fun v Z1 μ1 d A1 X1 r1 h1 => ?_⟩
    have e : d = v := r1
    subst e
    cases d with
    | true =>
      rw [if_pos rfl] at h1 ⊢
      exact ⟨fun σ' H' => ∃ Z ρ μ, At G Z H' σ' ρ μ ∧ PstS G W E Z (whileL (eTr C cl t) (fun ρ1 μ1 => eS C cl b ρ1 μ1) m ρ μ), fun σ' H' q => ⟨m, Nat.lt_succ_self _, q⟩, Z1, ρ, μ1, A1, PstS.turn h1 fun σ' Z' ρ' μ' x R s q => ⟨Z', ρ', μ', ⟨rfl, s, R⟩, q⟩⟩
    | false =>
      rw [if_neg Bool.false_ne_true] at h1 ⊢
      exact h1.next A1
theorem r_for {t : Tg} {it : CE} {b : CS} (h : tS G W (eS C cl (.for_ t it b)) E σ H) : tFor (tI G W (eI C cl it)) (gT G t) (tS G W (eS C cl b)) E σ H := by
  obtain ⟨Z, ρ, μ, A, h⟩ := h
  let f : D → Ro → Mu → Out := fun d ρ1 μ2 => (lift (setT μ2 t d ρ1) μ2).out ρ1 fun ρ2 μ3 => eS C cl b ρ2 μ3
  have h' : PstS G W E Z ((eI C cl it ρ μ).out ρ fun s μ1 => forL s.okAt f s.xs ρ μ1) := h
  refine ⟨Z, ρ, μ, A, ?_⟩
  revert h'
  cases eI C cl it ρ μ with
  | err => exact fun h' => h'
  | exc c d μ1 => exact fun h' kc dd w Z2 x R e r => h' kc dd w σ Z2 x R (A.se.ext x A.rel) e r
  | ok s μ0 =>
    intro h' J Z1 x1 R1 ok1
    obtain ⟨hz, ok1⟩ := ok1
    have h1 : PstS G W E Z1 (forL s.okAt f s.xs ρ μ0) := PstS.base h' x1
    refine ⟨fun i m σ H => m = s.xs.length - i ∧ i ≤ s.xs.length ∧ ∃ Z2 ρ2 μ2, At G Z2 H σ ρ2 μ2 ∧ Ext Z1 Z2 ∧ PstS G W E Z2 (forL s.okAt f (s.xs.drop i) ρ2 μ2), ⟨_, rfl, Nat.zero_le _, Z1, ρ, μ0, A.ext x1 R1, Ext.refl _, by rw [List.drop_zero]; exact h1⟩, ?_⟩
    rintro i m σ2 H2 ⟨rfl, hi, Z2, ρ2, μ2, A2, x2, hp⟩
    have ea := A2.hp
    subst ea
    by_cases he : i = s.xs.length
    · left
      rw [he, List.drop_length] at hp
      have hp' : PstS G W E Z2 (if s.okAt μ2 = true then Out.next ρ2 μ2 else .err) := hp
      by_cases hk : s.okAt μ2 = true
      · rw [if_pos hk] at hp'
        exact ⟨(ok1 i Z2 μ2 (x2.b R1) A2.rel hk).2 (by rw [he]; exact Nat.le_refl _), hp'.next A2⟩
      · rw [if_neg hk] at hp'
        exact False.elim hp'
    · right
      have hlt : i < s.xs.length := by omega
      obtain ⟨d, hd⟩ : ∃ d, s.xs[i]? = some d := ⟨_, List.getElem?_eq_getElem hlt⟩
      have hdr : s.xs.drop i = d :: s.xs.drop (i + 1) := by
        rw [List.drop_eq_getElem_cons hlt]
        have := List.getElem?_eq_getElem hlt
        rw [hd] at this
        rw [← Option.some.inj this]
      rw [hdr] at hp
      have hp' : PstS G W E Z2 (if s.okAt μ2 = true then (f d ρ2 μ2).turn fun ρ1 μ1 => forL s.okAt f (s.xs.drop (i + 1)) ρ1 μ1 else .err) := hp
      by_cases hk : s.okAt μ2 = true
      · rw [if_pos hk] at hp'
        obtain ⟨og, oy⟩ := (ok1 i Z2 μ2 (x2.b R1) A2.rel hk).1 d hd
        refine ⟨og, fun σ' H' => ∃ m', m' < s.xs.length - i ∧ (m' = s.xs.length - (i + 1) ∧ i + 1 ≤ s.xs.length ∧ ∃ Z2 ρ2 μ2, At G Z2 H' σ' ρ2 μ2 ∧ Ext Z1 Z2 ∧ PstS G W E Z2 (forL s.okAt f (s.xs.drop (i + 1)) ρ2 μ2)), fun σ' H' q => q, fun x H' hy => ?_⟩
        obtain ⟨Z3, rfl, X4, R4, r4⟩ := oy x H' hy
        have A3 : At G Z3 Z3.H σ2 ρ2 μ2 := A2.ext X4 R4
        have hq := PstS.base hp' X4
        have hf : f d ρ2 μ2 = (lift (setT μ2 t d ρ2) μ2).out ρ2 fun ρ2 μ3 => eS C cl b ρ2 μ3 := rfl
        rw [hf] at hq
        cases es : setT μ2 t d ρ2 with
        | none => rw [es] at hq; exact False.elim hq
        | some ρ3 =>
          rw [es] at hq
          have hq' : PstS G W E Z3 ((eS C cl b ρ3 μ2).turn fun ρ1 μ1 => forL s.okAt f (s.xs.drop (i + 1)) ρ1 μ1) := hq
          refine ⟨Z3, ρ2, μ2, d, ρ3, A3, r4, es, fun σ' s' _ => ⟨Z3, ρ3, μ2, ⟨rfl, s', R4⟩, ?_⟩⟩
          exact PstS.turn hq' fun σ'' Z4 ρ4 μ4 x R sv q => ⟨s.xs.length - (i + 1), by omega, rfl, hlt, Z4, ρ4, μ4, ⟨rfl, sv, R⟩, (x2.trans X4).trans x, q⟩
      · rw [if_neg hk] at hp'
        exact False.elim hp'
end
end PyE
set_option maxRecDepth 100000
set_option maxHeartbeats 4000000
/-! the test of statements -/
namespace PyE
open PySem PySem.Spec PyProof.Rows L2
def isLocal (n : En) (y : Str) : Bool := match n.sc.names.lookup y with
  | some .local => true
  | _ => false
def noComp : Expr → Bool
  | .ListComp _ _ _ _ => false
  | .SetComp _ _ _ _ => false
  | .DictComp _ _ _ _ _ => false
  | _ => true
def noTpl : Expr → Bool
  | .Tuple _ _ _ => false
  | _ => true
/-- the scope of y = [..] is swapped with y's -/
def swB (n : En) (scope : Scope) (y : Str) (py pos : Pos) : Bool := isLocal n y && (py.line == pos.line) && !(scope.names.any fun (m, k) => m == y && (k == .local || k == .cell))
/-- x, y = a, b: the stores are swapped -/
def swS (n : En) (x y : Str) (px py : Pos) (vs : List Expr) : Bool := isLocal n x && isLocal n y && (px.line == py.line) && decide (x ≠ y) && vs.all notStar && !(vs.all (foldedForSure 8)) && !(vs.all (constantsAlone 8))
def swS3 (n : En) (x y z : Str) (px py pz : Pos) (vs : List Expr) : Bool := isLocal n x && isLocal n y && isLocal n z && (px.line == py.line) && (px.line == pz.line) && decide (x ≠ y) && decide (x ≠ z) && decide (y ≠ z) && vs.all notStar && !(vs.all (foldedForSure 8)) && !(vs.all (constantsAlone 8))
def isCompE : CE → Bool
  | .comp _ _ _ _ => true
  | .cell (.comp _ _ _ _) => true
  | .comp2 _ _ _ _ _ _ => true
  | .cell (.comp2 _ _ _ _ _ _) => true
  | _ => false
section
variable (T : Tb)
def ckAsg (t : Tg) (e : CE) (n : En) (tg v : Expr) : Bool := match t, tg with
  | .nm i, .Name y _ => isTo n y i && (noComp v || isCompE e) && ckE T e n v
  | .tp [i, j], .Tuple [.Name x px, .Name y py] _ _ => isTo n x i && isTo n y j && (if (noTpl v || !(isLocal n x && isLocal n y)) = true then noComp v && ckE T e n v else (match e, v with
    | .op .tup es, .Tuple vs _ _ => decide (vs.length = 2) && swS n x y px py vs && decide (i ≠ j) && ckA T es n vs
    | _, _ => false))
  | .tp [i, j, l], .Tuple [.Name x px, .Name y py, .Name z pz] _ _ => isTo n x i && isTo n y j && isTo n z l && (if (noTpl v || !(isLocal n x && isLocal n y && isLocal n z)) = true then noComp v && ckE T e n v else (match e, v with
    | .op .tup es, .Tuple vs _ _ => decide (vs.length = 3) && swS3 n x y z px py pz vs && decide (i ≠ j) && decide (i ≠ l) && decide (j ≠ l) && ckA T es n vs
    | _, _ => false))
  | _, _ => false
mutual
def ckS (s : CS) (n : En) (st : Stmt) : Bool := match s with
  | .bad => true
  | .asg t e => (match st with | .Assign [tg] v _ => ckAsg T t e n tg v | _ => false)
  | .sub o i e => (match st with | .Assign [.Subscript xo xi _] v _ => noSlice xi && noComp v && ckE T o n xo && ckE T i n xi && ckE T e n v | _ => false)
  | .ex e => (match st with | .Expr x _ => noComp x && ckE T e n x | _ => false)
  | .ret e => (match st with | .Return (some x) _ => ckE T e n x | _ => false)
  | .retn => (match st with | .Return none _ => true | _ => false)
  | .if_ t a b => (match st with | .If x y z _ => ckE T t n x && ckSs a n y && ckSs b n z | _ => false)
  | .for_ t it b => (match st with | .For tg x y [] _ => ckT n t tg && noSet x && ckI T it n tg x && ckSs b n y | _ => false)
  | .while_ t b => (match st with | .While x y [] _ => ckE T t n x && ckSs b n y | _ => false)
  | .pass => (match st with | .Pass _ => true | _ => false)
  | .brk => (match st with | .Break _ => true | _ => false)
  | .cont => (match st with | .Continue _ => true | _ => false)
  | _ => false
def ckSs (s : CS) (n : En) (sts : List Stmt) : Bool := match s with
  | .nil => sts.isEmpty
  | .cons a r => (match sts with | x :: y => ckS a n x && ckSs r n y | [] => false)
  | _ => false
end
end
end PyE
set_option maxRecDepth 100000
set_option maxHeartbeats 4000000
/-! assignments -/
namespace PyE
open PySem PySem.Spec PyProof.Rows L2
section
variable {G : Gi} {C : Cfg} {T : Tb} {cl : Cl} {n : En} {W : WX} {k : Nat} {X : Cx} {σ : L2.St} {H : Hp} {E : Ends} {Z Z' : Wd} {ρ : Ro} {μ : Mu}
theorem noComp_sw {v : Expr} {t : Option Expr} {l : Nat} {env : Env} (h : noComp v = true) : swapsWith v t l env = pure false := by
  cases v <;> first | rfl | cases h
theorem isLocal_of {y : Str} (h : isLocal n y = true) : n.sc.names.lookup y = some .local := by
  unfold isLocal at h
  split at h
  · assumption
  · cases h
theorem blockKind_of {env : Env} (h : env.scope.kind = .function) : (env.blockKind == ScopeKind.function) = true := by
  unfold Env.blockKind
  rw [h]; rfl
theorem sw_name {elt : Expr} {gs : List Comprehension} {scope : Scope} {pos py : Pos} {y : Str} {l : Nat} {env : Env} (hk : env.scope.kind = .function) (hs : env.scope = n.sc) :
    swapsWith (.ListComp elt gs scope pos) (some (.Name y py)) l env = pure (swB n scope y py pos) := by
  have e1 : (env.kindOf y == some NameKind.local) = isLocal n y := by
    unfold Env.kindOf isLocal
    rw [hs]
    cases n.sc.names.lookup y with
    | none => rfl
    | some q => cases q <;> rfl
  show pure (env.blockKind == .function && env.kindOf y == some .local && py.line == pos.line && !(scope.names.any fun (n, k) => n == y && (k == .local || k == .cell))) = _
  rw [blockKind_of hk, e1]
  unfold swB
  rw [Bool.true_and]
theorem sw2 {x y : Str} {px py : Pos} {a b : Expr} {env : Env} {kt k2 : Nat} {pt pt2 : Pos} (hk : env.scope.kind = .function) (hs : env.scope = n.sc) (h : swS n x y px py [a, b] = true) :
    swappedStores [.Tuple [.Name x px, .Name y py] kt pt] (.Tuple [a, b] k2 pt2) env = pure (some [x, y]) := by
  unfold swS at h
  simp only [Bool.and_eq_true, List.all_cons, List.all_nil, Bool.and_true, Bool.not_eq_true'] at h
  obtain ⟨⟨⟨⟨⟨⟨h1, h2⟩, h3⟩, h4⟩, h5⟩, h6⟩, h7⟩ := h
  have k1 : (env.kindOf x == some NameKind.local) = true := by unfold Env.kindOf; rw [hs, isLocal_of h1]; rfl
  have k2 : (env.kindOf y == some NameKind.local) = true := by unfold Env.kindOf; rw [hs, isLocal_of h2]; rfl
  have b1 := blockKind_of hk
  have l1 : (py.line == px.line) = true := by rw [beq_iff_eq] at h3 ⊢; exact h3.symm
  have ne := of_decide_eq_true h4
  have st : ∀ e : Expr, notStar e = true → (match e with | .Starred .. => true | _ => false) = false := fun e he => by cases e <;> first | rfl | cases he
  have b2 : (env.blockKind != ScopeKind.function) = false := by rw [bne, b1]; rfl
  have sa := st a h5.1
  have sb := st b h5.2
  have kx : env.kindOf x = some NameKind.local := by simpa using k1
  have ky : env.kindOf y = some NameKind.local := by simpa using k2
  have pl : py.line = px.line := by simpa using l1
  have an : ([a, b].any fun | .Starred .. => true | _ => false) = false := by
    simp only [List.any_cons, List.any_nil, sa, sb, Bool.or_false]
  simp [swappedStores, b2, kx, ky, Expr.pos, pl, sa, sb, h6, h7, Ne.symm ne, List.eraseDups_cons]
  intro q
  exfalso
  obtain ⟨s1, s2⟩ := h5
  rcases q with q | q
  · cases a <;> first | (cases q; done) | cases s1
  · cases b <;> first | (cases q; done) | cases s2
theorem sw3 {x y z : Str} {px py pz : Pos} {a b d : Expr} {env : Env} {kt k2 : Nat} {pt pt2 : Pos} (hk : env.scope.kind = .function) (hs : env.scope = n.sc) (h : swS3 n x y z px py pz [a, b, d] = true) :
    swappedStores [.Tuple [.Name x px, .Name y py, .Name z pz] kt pt] (.Tuple [a, b, d] k2 pt2) env = pure (some [x, y, z]) := by
  unfold swS3 at h
  simp only [Bool.and_eq_true, List.all_cons, List.all_nil, Bool.and_true, Bool.not_eq_true'] at h
  obtain ⟨⟨⟨⟨⟨⟨⟨⟨⟨⟨h1, h2⟩, h3⟩, h4⟩, h5⟩, h6⟩, h7⟩, h8⟩, h9⟩, h10⟩, h11⟩ := h
  have kx : env.kindOf x = some NameKind.local := by unfold Env.kindOf; rw [hs]; exact isLocal_of h1
  have ky : env.kindOf y = some NameKind.local := by unfold Env.kindOf; rw [hs]; exact isLocal_of h2
  have kz : env.kindOf z = some NameKind.local := by unfold Env.kindOf; rw [hs]; exact isLocal_of h3
  have b2 : (env.blockKind != ScopeKind.function) = false := by rw [bne, blockKind_of hk]; rfl
  have py' : py.line = px.line := by rw [beq_iff_eq] at h4; exact h4.symm
  have pz' : pz.line = px.line := by rw [beq_iff_eq] at h5; exact h5.symm
  have n1 := of_decide_eq_true h6
  have n2 := of_decide_eq_true h7
  have n3 := of_decide_eq_true h8
  simp [swappedStores, b2, kx, ky, kz, Expr.pos, py', pz', h10, h11, Ne.symm n1, Ne.symm n2, Ne.symm n3, List.eraseDups_cons]
  intro q
  exfalso
  obtain ⟨s1, s2, s3⟩ := h9
  rcases q with q | q | q
  · cases a <;> first | (cases q; done) | cases s1
  · cases b <;> first | (cases q; done) | cases s2
  · cases d <;> first | (cases q; done) | cases s3
theorem sw_none {ts : List Expr} {v : Expr} {env : Env} {kt : Nat} {pt : Pos} (h : noTpl v = true) : swappedStores [.Tuple ts kt pt] v env = pure none := by
  cases v <;> first | rfl | cases h
theorem loc_iff {y : Str} {env : Env} (hs : env.scope = n.sc) : (env.kindOf y == some NameKind.local) = isLocal n y := by
  unfold Env.kindOf isLocal
  rw [hs]
  cases n.sc.names.lookup y with
  | none => rfl
  | some q => cases q <;> rfl
theorem sw2n {x y : Str} {px py : Pos} {v : Expr} {env : Env} {kt : Nat} {pt : Pos} (hs : env.scope = n.sc) (h : (noTpl v || !(isLocal n x && isLocal n y)) = true) :
    swappedStores [.Tuple [.Name x px, .Name y py] kt pt] v env = pure none := by
  by_cases hv : noTpl v = true
  · exact sw_none hv
  · have hv' : noTpl v = false := by simpa using hv
    rw [hv', Bool.false_or] at h
    cases v <;> try (cases hv'; done)
    unfold swappedStores
    simp only []
    split
    · rfl
    · split
      · rfl
      · have e1 := loc_iff (y := x) hs
        have e2 := loc_iff (y := y) hs
        have hl : (List.filterMap (fun e => match e with
          | .Name id pos => if env.kindOf id == some .local && pos.line == (([Expr.Name x px, Expr.Name y py].head?.map (·.pos.line)).getD 0) then some id else none
          | _ => none) [Expr.Name x px, Expr.Name y py]).length ≠ 2 := by
          simp only [List.filterMap_cons, List.filterMap_nil, e1, e2]
          cases h1 : isLocal n x <;> cases h2 : isLocal n y <;> simp [h1, h2] at h ⊢ <;> split <;> simp
        rw [if_pos (by rw [Bool.or_eq_true]; exact .inl (bne_iff_ne.mpr hl))]
theorem sw3n {x y z : Str} {px py pz : Pos} {v : Expr} {env : Env} {kt : Nat} {pt : Pos} (hs : env.scope = n.sc) (h : (noTpl v || !(isLocal n x && isLocal n y && isLocal n z)) = true) :
    swappedStores [.Tuple [.Name x px, .Name y py, .Name z pz] kt pt] v env = pure none := by
  by_cases hv : noTpl v = true
  · exact sw_none hv
  · have hv' : noTpl v = false := by simpa using hv
    rw [hv', Bool.false_or] at h
    cases v <;> try (cases hv'; done)
    unfold swappedStores
    simp only []
    split
    · rfl
    · split
      · rfl
      · have e1 := loc_iff (y := x) hs
        have e2 := loc_iff (y := y) hs
        have e3 := loc_iff (y := z) hs
        have hl : (List.filterMap (fun e => match e with
          | .Name id pos => if env.kindOf id == some .local && pos.line == (([Expr.Name x px, Expr.Name y py, Expr.Name z pz].head?.map (·.pos.line)).getD 0) then some id else none
          | _ => none) [Expr.Name x px, Expr.Name y py, Expr.Name z pz]).length ≠ 3 := by
          have key : ∀ (a b c : Bool) (u v w : Str), (a && b && c) = false → (List.filterMap id [if a = true then some u else none, if b = true then some v else none, if c = true then some w else none]).length ≠ 3 := by
            intro a b c u v w q
            cases a <;> cases b <;> cases c <;> simp at q ⊢
          have h' : (isLocal n x && isLocal n y && isLocal n z) = false := (Bool.not_eq_true' _).mp h
          have := key (isLocal n x && (px.line == (([Expr.Name x px, Expr.Name y py, Expr.Name z pz].head?.map (·.pos.line)).getD 0))) (isLocal n y && (py.line == (([Expr.Name x px, Expr.Name y py, Expr.Name z pz].head?.map (·.pos.line)).getD 0))) (isLocal n z && (pz.line == (([Expr.Name x px, Expr.Name y py, Expr.Name z pz].head?.map (·.pos.line)).getD 0))) x y z (by
            cases h1 : isLocal n x <;> cases h2 : isLocal n y <;> cases h3 : isLocal n z <;> simp [h1, h2, h3] at h' ⊢)
          simp only [List.filterMap_cons, List.filterMap_nil, id_eq] at this
          simp only [List.filterMap_cons, List.filterMap_nil, e1, e2, e3]
          exact this
        rw [if_pos (by rw [Bool.or_eq_true]; exact .inl (bne_iff_ne.mpr hl))]
/-! ### readings -/
theorem r_asg {t : Tg} {e : CE} (h : tS G W (eS C cl (.asg t e)) E σ H) : tAsg (tE G W (eE C cl e)) (gT G t) E σ H := by
  obtain ⟨Z, ρ, μ, A, h⟩ := h
  refine ⟨Z, ρ, μ, A, stepS A h fun v Z1 μ1 d A1 X1 r1 h1 => ?_⟩
  obtain ⟨ρ1, e1, h2⟩ := liftS h1
  exact ⟨Z1, ρ, μ1, d, ρ1, A1, r1, e1, fun σ' s' _ => (show PstS G W E Z1 (.next ρ1 μ1) from h2) σ' Z1 (Ext.refl _) A1.rel s'⟩
theorem r_asgN {i : Nat} {e : CE} (h : tS G W (eS C cl (.asg (.nm i) e)) E σ H) : tAsg (tE G W (eE C cl e)) (gName i) E σ H := by
  obtain ⟨Z, ρ, μ, A, h⟩ := h
  refine ⟨Z, ρ, μ, A, stepS A h fun v Z1 μ1 d A1 X1 r1 h1 => ?_⟩
  exact (show PstS G W E Z1 (.next (ρ.set i (some d)) μ1) from h1) _ Z1 (Ext.refl _) A1.rel (A1.se.set i r1)
theorem r_par2 {i j : Nat} {es : CE} (h : tS G W (eS C cl (.asg (.tp [i, j]) (.op .tup es))) E σ H) : tPar i j (tA G W (eA C cl es)) E σ H := by
  obtain ⟨Z, ρ, μ, A, h⟩ := h
  have h' : PstS G W E Z ((eE C cl (.op .tup es) ρ μ).out ρ fun d μ1 => (lift (setT μ1 (.tp [i, j]) d ρ) μ1).out ρ fun ρ1 μ2 => .next ρ1 μ2) := h
  have e0 : eE C cl (.op .tup es) ρ μ = (eA C cl es ρ μ).bind fun vs μ1 => .ok (.tup vs) μ1 := rfl
  rw [e0] at h'
  have e1 : ∀ {r : Res (List D)}, (r.bind fun vs μ1 => Res.ok (D.tup vs) μ1).out ρ (fun d μ1 => (lift (setT μ1 (.tp [i, j]) d ρ) μ1).out ρ fun ρ1 μ2 => Out.next ρ1 μ2) = r.out ρ fun vs μ1 => (lift (setT μ1 (.tp [i, j]) (.tup vs) ρ) μ1).out ρ fun ρ1 μ2 => Out.next ρ1 μ2 := fun {r} => by cases r <;> rfl
  rw [e1] at h'
  refine ⟨Z, ρ, μ, A, stepS A h' fun vs Z1 μ1 ds A1 X1 r1 h1 => ?_⟩
  obtain ⟨ρ1, e2, h2⟩ := liftS h1
  have hl := setAll_len (show setAll [i, j] ds ρ = some ρ1 from e2)
  obtain ⟨d, d2, rfl⟩ : ∃ d d2, ds = [d, d2] := by
    cases ds with
    | nil => cases hl
    | cons d r => cases r with
      | nil => cases hl
      | cons d2 r => cases r with
        | nil => exact ⟨d, d2, rfl⟩
        | cons _ _ => simp at hl
  cases e2
  obtain ⟨v, t, rfl, q1, w, t2, rfl, q2, q3⟩ := r1
  have q3' : t2 = [] := q3
  subst q3'
  exact ⟨v, w, rfl, (show PstS G W E Z1 (.next _ μ1) from h2) _ Z1 (Ext.refl _) A1.rel ((A1.se.set i q1).set j q2)⟩
theorem r_par3 {i j l : Nat} {es : CE} (h : tS G W (eS C cl (.asg (.tp [i, j, l]) (.op .tup es))) E σ H) : tPar3 i j l (tA G W (eA C cl es)) E σ H := by
  obtain ⟨Z, ρ, μ, A, h⟩ := h
  have h' : PstS G W E Z ((eE C cl (.op .tup es) ρ μ).out ρ fun d μ1 => (lift (setT μ1 (.tp [i, j, l]) d ρ) μ1).out ρ fun ρ1 μ2 => .next ρ1 μ2) := h
  have e0 : eE C cl (.op .tup es) ρ μ = (eA C cl es ρ μ).bind fun vs μ1 => .ok (.tup vs) μ1 := rfl
  rw [e0] at h'
  have e1 : ∀ {r : Res (List D)}, (r.bind fun vs μ1 => Res.ok (D.tup vs) μ1).out ρ (fun d μ1 => (lift (setT μ1 (.tp [i, j, l]) d ρ) μ1).out ρ fun ρ1 μ2 => Out.next ρ1 μ2) = r.out ρ fun vs μ1 => (lift (setT μ1 (.tp [i, j, l]) (.tup vs) ρ) μ1).out ρ fun ρ1 μ2 => Out.next ρ1 μ2 := fun {r} => by cases r <;> rfl
  rw [e1] at h'
  refine ⟨Z, ρ, μ, A, stepS A h' fun vs Z1 μ1 ds A1 X1 r1 h1 => ?_⟩
  obtain ⟨ρ1, e2, h2⟩ := liftS h1
  have hl := setAll_len (show setAll [i, j, l] ds ρ = some ρ1 from e2)
  obtain ⟨d, d2, d3, rfl⟩ : ∃ d d2 d3, ds = [d, d2, d3] := by
    cases ds with
    | nil => cases hl
    | cons d r => cases r with
      | nil => cases hl
      | cons d2 r => cases r with
        | nil => cases hl
        | cons d3 r => cases r with
          | nil => exact ⟨d, d2, d3, rfl⟩
          | cons _ _ => simp at hl
  cases e2
  obtain ⟨v, t, rfl, q1, w, t2, rfl, q2, x, t3, rfl, q3, q4⟩ := r1
  have q4' : t3 = [] := q4
  subst q4'
  exact ⟨v, w, x, rfl, (show PstS G W E Z1 (.next _ μ1) from h2) _ Z1 (Ext.refl _) A1.rel (((A1.se.set i q1).set j q2).set l q3)⟩
theorem r_sub {o i e : CE} (h : tS G W (eS C cl (.sub o i e)) E σ H) : tAsg (tE G W (eE C cl e)) (gSub (tE G W (eE C cl o)) (tE G W (eE C cl i)) (tSetS G)) E σ H := by
  obtain ⟨Z, ρ, μ, A, h⟩ := h
  refine ⟨Z, ρ, μ, A, stepS (rel := RV G) A h fun v Z1 μ1 d A1 X1 r1 h1 => ⟨Z1, ρ, μ1, A1, stepS (rel := RV G) A1 h1 fun x Z2 μ2 dx A2 X2 r2 h2 => ⟨Z2, ρ, μ2, A2, stepS (rel := RV G) A2 h2 fun y Z3 μ3 dy A3 X3 r3 h3 => ?_⟩⟩⟩
  have h3' : PstS G W E Z3 (liftM (subS μ3 dx dy d) ρ) := h3
  cases es : subS μ3 dx dy d with
  | none => rw [es] at h3'; exact False.elim h3'
  | some μ4 =>
    rw [es] at h3'
    refine ⟨Z3, μ3, dx, dy, d, μ4, rfl, A3.rel, RV.ext X3 A2.rel _ _ r2, r3, RV.ext X3 A2.rel _ _ (RV.ext X2 A1.rel _ _ r1), es, fun Z4 X4 R4 => ?_⟩
    exact (show PstS G W E Z3 (.next ρ μ4) from h3') σ Z4 X4 R4 (A3.se.ext X4 A3.rel)
end
end PyE
set_option maxRecDepth 100000
set_option maxHeartbeats 4000000
/-! every statement -/
namespace PyE
open PySem PySem.Spec PyProof.Rows L2
/-- a statement's surroundings -/
structure CxS (G : Gi) (C : Cfg) (T : Tb) (cl : Cl) (n : En) (W : WX) (k : Nat) (X : Cx) : Prop extends CxE G C T cl n W k X where
  pass : PassesOwn (model X.prog X.w) X.A X.env X.xe
section
variable {G : Gi} {C : Cfg} {T : Tb} {cl : Cl} {n : En} {W : WX} {k : Nat} {X : Cx} {σ : L2.St} {H : Hp} {E : Ends} {Z Z' : Wd} {ρ : Ro} {μ : Mu}
theorem ps_run {st : Stmt} {t : TS} (h : ∀ (pins : List (Addr × Obj)) (s : Shared) (σ : L2.St) (H : Hp), Inv X pins σ H s → PS X st t) : PS X st t := ⟨fun pins s σ H E I q => (h pins s σ H I).run pins s σ H E I q⟩
theorem kind_of (c : CxE G C T cl n W k X) {pins : List (Addr × Obj)} {s : Shared} (I : Inv X pins σ H s) : X.env.scope.kind = .function := I.ok.kind
/-- the comprehension's reading, frozen or a cell -/
theorem ps_comp (c : CxS G C T cl n W k X) {i : Nat} {t : Tg} {it cd e : CE} {y : Str} {py pos spos : Pos} {elt tg iter : Expr} {ifs : List Expr} {scope : Scope} {m' : Ro → Mu → Res D} (hy : isTo n y i = true)
    (p : PE X (.ListComp elt [⟨tg, iter, ifs, 0⟩] scope pos) (tE G W m'))
    (h : (ckI T it n tg iter && noSet iter && blkC n.N n.sc scope (ownOf n.N t.slots) && ckT (n.blk scope) t tg && ckC T cd (n.blk scope) ifs && ckE T e (n.blk scope) elt) = true)
    (hm : ∀ σ H Q, tE G W m' σ H Q → tL G W (eL C cl t it cd e) σ H Q) : PS X (.Assign [.Name y py] (.ListComp elt [⟨tg, iter, ifs, 0⟩] scope pos) spos) (tAsg (tE G W m') (gName i)) := by
  obtain ⟨g1, g2, g3⟩ := c.to hy
  have nd : X.N.Nodup := by rw [c.N]; exact c.nd
  refine ps_run fun pins s σ H I => ?_
  have hk := kind_of c.toCxE I
  by_cases hb : swB n scope y py pos = true
  · simp only [Bool.and_eq_true] at h
    obtain ⟨⟨⟨⟨⟨h1, h2⟩, h3⟩, h4⟩, h5⟩, h6⟩ := h
    have ok : BlkOk X.N X.env.scope scope (ownOf n.N t.slots) := by rw [c.N, c.sc]; exact blkOk_by h3
    have hl : X.env.scope.names.lookup y = some .local := by
      rw [c.sc]
      unfold swB at hb
      simp only [Bool.and_eq_true] at hb
      exact isLocal_of hb.1.1
    have q := ps_setLc (pos := pos) (py := py) (spos := spos) c.calm nd g1 hl (by rw [sw_name (n := n) hk c.sc, hb]) ((snd_all it).i n W X tg iter c.toCxE h1) ok (fun s H Ca l fp => k_tg (blk_cx c.toCxE s H Ca l fp) h4)
      (fun s H Ca l fp => (snd_all cd).c _ _ _ _ (blk_cx c.toCxE s H Ca l fp) h5) (fun s H Ca l fp => ((snd_all e).e _ _ _ _ (blk_cx c.toCxE s H Ca l fp) h6).1) (fold_noset h2)
    rw [set_own] at q
    exact ps_mono q fun E σ H z => lc_read (hm _ _ _ z)
  · have hb' : swB n scope y py pos = false := by simpa using hb
    exact ps_set nd g1 g2 p (by rw [sw_name (n := n) hk c.sc, hb']) g3
theorem ps_comp2 (c : CxS G C T cl n W k X) {i : Nat} {t t1 : Tg} {it it1 cd e : CE} {y : Str} {py pos spos : Pos} {elt tg iter tg1 iter1 : Expr} {ifs : List Expr} {scope : Scope} {m' : Ro → Mu → Res D} (hy : isTo n y i = true)
    (p : PE X (.ListComp elt [⟨tg, iter, [], 0⟩, ⟨tg1, iter1, ifs, 0⟩] scope pos) (tE G W m'))
    (h : (ckI T it n tg iter && noSet iter && noSet iter1 && blkC n.N n.sc scope (ownOf n.N (t.slots ++ t1.slots)) && ckT (n.blk scope) t tg && ckI T it1 (n.blk scope) tg1 iter1 && ckT (n.blk scope) t1 tg1 && ckC T cd (n.blk scope) ifs && ckE T e (n.blk scope) elt) = true)
    (hm : ∀ σ H Q, tE G W m' σ H Q → tL G W (eL2 C cl t it t1 it1 cd e) σ H Q) : PS X (.Assign [.Name y py] (.ListComp elt [⟨tg, iter, [], 0⟩, ⟨tg1, iter1, ifs, 0⟩] scope pos) spos) (tAsg (tE G W m') (gName i)) := by
  obtain ⟨g1, g2, g3⟩ := c.to hy
  have nd : X.N.Nodup := by rw [c.N]; exact c.nd
  refine ps_run fun pins s σ H I => ?_
  have hk := kind_of c.toCxE I
  by_cases hb : swB n scope y py pos = true
  · simp only [Bool.and_eq_true] at h
    obtain ⟨⟨⟨⟨⟨⟨⟨⟨h1, h2⟩, h3⟩, h4⟩, h5⟩, h6⟩, h7⟩, h8⟩, h9⟩ := h
    have ok : BlkOk X.N X.env.scope scope (ownOf n.N (t.slots ++ t1.slots)) := by rw [c.N, c.sc]; exact blkOk_by h4
    have hl : X.env.scope.names.lookup y = some .local := by
      rw [c.sc]
      unfold swB at hb
      simp only [Bool.and_eq_true] at hb
      exact isLocal_of hb.1.1
    have q := ps_setLc2 (pos := pos) (py := py) (spos := spos) (vs1 := t1.slots) c.calm nd g1 hl (by rw [sw_name (n := n) hk c.sc, hb]) ((snd_all it).i n W X tg iter c.toCxE h1) ok (fun i hi => by rw [set_own]; exact List.mem_append_right _ hi) (fun s H Ca l fp => k_tg (blk_cx c.toCxE s H Ca l fp) h5) (fun s H Ca l fp => pts_nil)
      (fun s H Ca l fp => (snd_all it1).i _ _ _ _ _ (blk_cx c.toCxE s H Ca l fp) h6) (fun s H Ca l fp => k_tg (blk_cx c.toCxE s H Ca l fp) h7) (fun s H Ca l fp => (snd_all cd).c _ _ _ _ (blk_cx c.toCxE s H Ca l fp) h8) (fun s H Ca l fp => ((snd_all e).e _ _ _ _ (blk_cx c.toCxE s H Ca l fp) h9).1) (fold_noset h2) (fun env x => fold_noset h3 x)
    rw [set_own] at q
    exact ps_mono q fun E σ H z => lc2_read (hm _ _ _ z)
  · have hb' : swB n scope y py pos = false := by simpa using hb
    exact ps_set nd g1 g2 p (by rw [sw_name (n := n) hk c.sc, hb']) g3
theorem sole_of {v t : Expr} {l : Nat} {env : Env} (h : noComp v = true) : swapsWithSole [t] v l env = pure false := by
  show swapsWith v (some t) l env = pure false
  exact noComp_sw h
theorem s_asg (c : CxS G C T cl n W k X) {t : Tg} {e : CE} {tg v : Expr} {pos : Pos} (h : ckAsg T t e n tg v = true) : PS X (.Assign [tg] v pos) (tS G W (eS C cl (.asg t e))) := by
  have nd : X.N.Nodup := by rw [c.N]; exact c.nd
  unfold ckAsg at h
  split at h
  · rename_i i y py
    rw [Bool.and_eq_true, Bool.and_eq_true] at h
    obtain ⟨⟨h1, h2⟩, h3⟩ := h
    obtain ⟨g1, g2, g3⟩ := c.to h1
    have p := ((snd_all e).e n W X v c.toCxE h3).1
    refine ps_mono ?_ fun E σ H q => r_asgN q
    by_cases hv : noComp v = true
    · exact ps_set nd g1 g2 p (noComp_sw hv) g3
    · have hv' : noComp v = false := by simpa using hv
      rw [hv', Bool.false_or] at h2
      unfold isCompE at h2
      split at h2
      · unfold ckE at h3
        split at h3
        · exact ps_comp c h1 p h3 fun σ H Q q => l_frz (eE_comp_eq _ _ _ _) q
        · cases h3
      · unfold ckE at h3
        split at h3
        · exact ps_comp c h1 p h3 fun σ H Q q => l_cell (eE_ccomp_eq _ _ _ _) q
        · cases h3
      · unfold ckE at h3
        split at h3
        · exact ps_comp2 c h1 p h3 fun σ H Q q => l_frz (eE_comp2_eq _ _ _ _ _ _) q
        · cases h3
      · unfold ckE at h3
        split at h3
        · exact ps_comp2 c h1 p h3 fun σ H Q q => l_cell (eE_ccomp2_eq _ _ _ _ _ _) q
        · cases h3
      · cases h2
  · rename_i i j x px y py kt pt
    rw [Bool.and_eq_true, Bool.and_eq_true] at h
    obtain ⟨⟨h1, h2⟩, h3⟩ := h
    obtain ⟨g1, g2, g3⟩ := c.to h1
    obtain ⟨f1, f2, f3⟩ := c.to h2
    split at h3
    · rename_i ht
      rw [Bool.and_eq_true] at h3
      have p := ((snd_all e).e n W X v c.toCxE h3.2).1
      have gt : PG X (.Tuple [.Name x px, .Name y py] kt pt) (gT G (.tp [i, j])) := k_tg c.toCxE (by
        show isTos n [.Name x px, .Name y py] [i, j] = true
        show (isTo n x i && (isTo n y j && true)) = true
        rw [h1, h2]; rfl)
      exact ps_mono (ps_asg p gt (sole_of h3.1) (sw2n c.sc ht) rfl) fun E σ H q => r_asg q
    · split at h3
      · rename_i es vs k2 pt2 _
        simp only [Bool.and_eq_true] at h3
        obtain ⟨⟨⟨h4, h5⟩, h6⟩, h7⟩ := h3
        have hv : ∃ a b, vs = [a, b] := by
          have := of_decide_eq_true h4
          cases vs with
          | nil => cases this
          | cons a r => cases r with
            | nil => cases this
            | cons b r => cases r with
              | nil => exact ⟨a, b, rfl⟩
              | cons _ _ => simp at this
        obtain ⟨a, b, rfl⟩ := hv
        refine ps_mono (ps_run fun pins s σ H I => ?_) fun E σ H q => r_par2 q
        have hl := h5
        unfold swS at hl
        simp only [Bool.and_eq_true] at hl
        exact ps_par c.calm nd g1 f1 (of_decide_eq_true h6) (by rw [c.sc]; exact isLocal_of hl.1.1.1.1.1.1) (by rw [c.sc]; exact isLocal_of hl.1.1.1.1.1.2) (its_pa ((snd_all es).a n W X _ c.toCxE h7)) (sw2 (kind_of c.toCxE I) c.sc h5) rfl
      · cases h3
  · rename_i i j l x px y py z pz kt pt
    simp only [Bool.and_eq_true] at h
    obtain ⟨⟨⟨h1, h2⟩, h0⟩, h3⟩ := h
    obtain ⟨g1, g2, g3⟩ := c.to h1
    obtain ⟨f1, f2, f3⟩ := c.to h2
    obtain ⟨e1, e2, e3⟩ := c.to h0
    split at h3
    · rename_i ht
      rw [Bool.and_eq_true] at h3
      have p := ((snd_all e).e n W X v c.toCxE h3.2).1
      have gt : PG X (.Tuple [.Name x px, .Name y py, .Name z pz] kt pt) (gT G (.tp [i, j, l])) := k_tg c.toCxE (by
        show (isTo n x i && (isTo n y j && (isTo n z l && true))) = true
        rw [h1, h2, h0]; rfl)
      exact ps_mono (ps_asg p gt (sole_of h3.1) (sw3n c.sc ht) rfl) fun E σ H q => r_asg q
    · split at h3
      · rename_i es vs k2 pt2 _
        simp only [Bool.and_eq_true] at h3
        obtain ⟨⟨⟨⟨⟨h4, h5⟩, h6⟩, h7⟩, h8⟩, h9⟩ := h3
        have hv : ∃ a b d, vs = [a, b, d] := by
          have := of_decide_eq_true h4
          cases vs with
          | nil => cases this
          | cons a r => cases r with
            | nil => cases this
            | cons b r => cases r with
              | nil => cases this
              | cons d r => cases r with
                | nil => exact ⟨a, b, d, rfl⟩
                | cons _ _ => simp at this
        obtain ⟨a, b, d, rfl⟩ := hv
        refine ps_mono (ps_run fun pins s σ H I => ?_) fun E σ H q => r_par3 q
        have hl := h5
        unfold swS3 at hl
        simp only [Bool.and_eq_true] at hl
        exact ps_par3 c.calm nd g1 f1 e1 (of_decide_eq_true h6) (of_decide_eq_true h7) (of_decide_eq_true h8) (by rw [c.sc]; exact isLocal_of hl.1.1.1.1.1.1.1.1.1.1) (by rw [c.sc]; exact isLocal_of hl.1.1.1.1.1.1.1.1.1.2) (by rw [c.sc]; exact isLocal_of hl.1.1.1.1.1.1.1.1.2) (its_pa ((snd_all es).a n W X _ c.toCxE h9)) (sw3 (kind_of c.toCxE I) c.sc h5) rfl
      · cases h3
  · cases h
theorem s_sub (c : CxS G C T cl n W k X) {o i e : CE} {xo xi v : Expr} {p pos : Pos} (h : (noSlice xi && noComp v && ckE T o n xo && ckE T i n xi && ckE T e n v) = true) : PS X (.Assign [.Subscript xo xi p] v pos) (tS G W (eS C cl (.sub o i e))) := by
  simp only [Bool.and_eq_true] at h
  obtain ⟨⟨⟨⟨h1, h2⟩, h3⟩, h4⟩, h5⟩ := h
  have po := ((snd_all o).e n W X xo c.toCxE h3).1
  have pi := ((snd_all i).e n W X xi c.toCxE h4).1
  have pv := ((snd_all e).e n W X v c.toCxE h5).1
  have gs : PG X (.Subscript xo xi p) (gSub (tE G W (eE C cl o)) (tE G W (eE C cl i)) (tSetS G)) := pg_sub po pi s_set (fun v => by cases xi <;> first | rfl | cases h1)
  exact ps_mono (ps_asg pv gs (sole_of h2) rfl rfl) fun E σ H q => r_sub q
theorem ps_bad {st : Stmt} : PS X st (tS G W (eS C cl .bad)) := ps_mono ps_never fun E σ H ⟨_, _, _, _, q⟩ => q
mutual
theorem s_st (c : CxS G C T cl n W k X) : ∀ (s : CS) (st : Stmt), ckS T s n st = true → PS X st (tS G W (eS C cl s))
  | .bad, st, h => ps_bad
  | .asg t e, st, h => by
    unfold ckS at h
    split at h
    · exact s_asg c h
    · cases h
  | .sub o i e, st, h => by
    unfold ckS at h
    split at h
    · exact s_sub c h
    · cases h
  | .ex e, st, h => by
    unfold ckS at h
    split at h
    · rw [Bool.and_eq_true] at h
      exact ps_mono (ps_expr ((snd_all e).e n W X _ c.toCxE h.2).1 (noComp_sw h.1)) fun E σ H q => r_ex q
    · cases h
  | .ret e, st, h => by
    unfold ckS at h
    split at h
    · exact ps_mono (ps_ret ((snd_all e).e n W X _ c.toCxE h).1) fun E σ H q => r_ret q
    · cases h
  | .retn, st, h => by
    unfold ckS at h
    split at h
    · exact ps_mono ps_retN fun E σ H q => r_retn q
    · cases h
  | .if_ t a b, st, h => by
    unfold ckS at h
    split at h
    · simp only [Bool.and_eq_true] at h
      exact ps_mono (ps_if ((snd_all t).e n W X _ c.toCxE h.1.1).2 (s_sts c a _ h.1.2) (s_sts c b _ h.2)) fun E σ H q => r_if q
    · cases h
  | .for_ t it b, st, h => by
    unfold ckS at h
    split at h
    · simp only [Bool.and_eq_true] at h
      exact ps_mono (ps_for c.pass c.calm ((snd_all it).i n W X _ _ c.toCxE h.1.2) (k_tg c.toCxE h.1.1.1) (s_sts c b _ h.2) (fold_noset h.1.1.2)) fun E σ H q => r_for q
    · cases h
  | .while_ t b, st, h => by
    unfold ckS at h
    split at h
    · simp only [Bool.and_eq_true] at h
      exact ps_mono (ps_while c.pass ((snd_all t).e n W X _ c.toCxE h.1).2 (s_sts c b _ h.2)) fun E σ H q => r_while q
    · cases h
  | .pass, st, h => by
    unfold ckS at h
    split at h
    · exact ps_mono ps_pass fun E σ H ⟨Z, ρ, μ, A, q⟩ => (show PstS G W E Z (.next ρ μ) from q).next A
    · cases h
  | .brk, st, h => by
    unfold ckS at h
    split at h
    · exact ps_mono ps_break fun E σ H ⟨Z, ρ, μ, A, q⟩ => by
        have q' := (show PstS G W E Z (.brk ρ μ) from q) σ Z (Ext.refl _) A.rel A.se
        rw [A.hp] at q'
        exact q'
    · cases h
  | .cont, st, h => by
    unfold ckS at h
    split at h
    · exact ps_mono ps_continue fun E σ H ⟨Z, ρ, μ, A, q⟩ => by
        have q' := (show PstS G W E Z (.cont ρ μ) from q) σ Z (Ext.refl _) A.rel A.se
        rw [A.hp] at q'
        exact q'
    · cases h
  | .aug _ _ _, st, h => by cases h
  | .augs _ _ _ _, st, h => by cases h
  | .raise _ _, st, h => by cases h
  | .try_ _ _ _ _, st, h => by cases h
  | .nil, st, h => by cases h
  | .cons _ _, st, h => by cases h
theorem s_sts (c : CxS G C T cl n W k X) : ∀ (s : CS) (sts : List Stmt), ckSs T s n sts = true → PSs X sts (tS G W (eS C cl s))
  | .nil, sts, h => by
    unfold ckSs at h
    have e : sts = [] := List.isEmpty_iff.mp h
    subst e
    exact pss_mono pss_nil fun E σ H q => r_nil q
  | .cons s r, sts, h => by
    unfold ckSs at h
    split at h
    · rw [Bool.and_eq_true] at h
      exact pss_mono (pss_cons (s_st c s _ h.1) (s_sts c r _ h.2)) fun E σ H q => r_cons q
    · cases h
  | .bad, sts, h => by cases h
  | .asg _ _, sts, h => by cases h
  | .sub _ _ _, sts, h => by cases h
  | .ex _, sts, h => by cases h
  | .ret _, sts, h => by cases h
  | .retn, sts, h => by cases h
  | .if_ _ _ _, sts, h => by cases h
  | .for_ _ _ _, sts, h => by cases h
  | .while_ _ _, sts, h => by cases h
  | .pass, sts, h => by cases h
  | .brk, sts, h => by cases h
  | .cont, sts, h => by cases h
  | .aug _ _ _, sts, h => by cases h
  | .augs _ _ _ _, sts, h => by cases h
  | .raise _ _, sts, h => by cases h
  | .try_ _ _ _ _, sts, h => by cases h
end
end
end PyE
set_option maxRecDepth 100000
set_option maxHeartbeats 4000000
/-! functions -/
namespace PyE
open PySem PySem.Spec PyProof.Rows L2
section
variable {G : Gi} {C : Cfg} {T : Tb} {cl : Cl} {n : En} {W : WX} {k : Nat} {X : Cx} {σ : L2.St} {H : Hp} {E : Ends} {Z Z' : Wd} {ρ : Ro} {μ μ1 : Mu}
/-- the callee's own cells, frozen -/
def Wd.left (Z : Wd) (n : Nat) : Wd := ⟨Z.th.take n, fun a => Z.S a ∨ a ∈ Z.th.drop n, Z.H⟩
mutual
theorem RV.und {m : Nat} (h : Z.th.length ≤ m) : ∀ (d : D) (v : V), RV G Z d v → D.und m d = true
  | .none, _, _ => rfl
  | .bl _, _, _ => rfl
  | .int _, _, _ => rfl
  | .str _, _, _ => rfl
  | .fn _, _, _ => rfl
  | .dct, _, _ => rfl
  | .scr _, _, _ => rfl
  | .tup ds, v, q => by
    obtain ⟨a, vs, _, _, _, r⟩ := q
    exact RVs.und h ds vs r
  | .lst ds, v, q => by
    obtain ⟨a, vs, _, _, _, _, r⟩ := q
    exact RVs.und h ds vs r
  | .ref i, v, q => by
    obtain ⟨a, e, _⟩ := q
    have := (List.getElem?_eq_some_iff.mp e).1
    exact decide_eq_true (by omega)
  | .exc c d, v, q => by
    obtain ⟨_, a, dd, w, _, _, _, r⟩ := q
    exact RV.und h d w r
theorem RVs.und {m : Nat} (h : Z.th.length ≤ m) : ∀ (ds : List D) (vs : List V), RVs G Z ds vs → D.undL m ds = true
  | [], _, _ => rfl
  | d :: ds, vs, q => by
    obtain ⟨v, r, _, h1, h2⟩ := q
    show (D.und m d && D.undL m ds) = true
    rw [RV.und h d v h1, RVs.und h ds r h2]; rfl
end
mutual
theorem RV.left {m : Nat} : ∀ (d : D) (v : V), D.und m d = true → RV G Z d v → RV G (Z.left m) d v
  | .none, _, _, h => h
  | .bl _, _, _, h => h
  | .int _, _, _, h => h
  | .str _, _, _, h => h
  | .fn _, _, _, h => h
  | .dct, _, _, h => h
  | .scr _, _, _, h => h
  | .tup ds, v, u, q => by
    obtain ⟨a, vs, e, s, z, r⟩ := q
    exact ⟨a, vs, e, s, z, RVs.left ds vs u r⟩
  | .lst ds, v, u, q => by
    obtain ⟨a, vs, e, s, t, z, r⟩ := q
    exact ⟨a, vs, e, .inl s, t, z, RVs.left ds vs u r⟩
  | .ref i, v, u, q => by
    obtain ⟨a, e, z⟩ := q
    have hi : i < m := of_decide_eq_true u
    exact ⟨a, by show (Z.th.take m)[i]? = some a; rw [List.getElem?_take_of_lt hi]; exact e, z⟩
  | .exc c d, v, u, q => by
    obtain ⟨kc, a, dd, w, e, q1, q2, r⟩ := q
    exact ⟨kc, a, dd, w, e, q1, q2, RV.left d w u r⟩
theorem RVs.left {m : Nat} : ∀ (ds : List D) (vs : List V), D.undL m ds = true → RVs G Z ds vs → RVs G (Z.left m) ds vs
  | [], _, _, h => h
  | d :: ds, vs, u, q => by
    have u' : (D.und m d && D.undL m ds) = true := u
    rw [Bool.and_eq_true] at u'
    obtain ⟨v, r, e, h1, h2⟩ := q
    exact ⟨v, r, e, RV.left d v u'.1 h1, RVs.left ds r u'.2 h2⟩
end
mutual
theorem RV.off {m : Nat} {R : Nat → Option D} (hR : ∀ i a d', m ≤ i → Z.th[i]? = some a → R i = some d' → RV G (Z.left m) d' (.ref a)) : ∀ (d d' : D) (v : V), D.off m R d = some d' → RV G Z d v → RV G (Z.left m) d' v
  | .none, d', v, e, h => by cases e; exact h
  | .bl _, d', v, e, h => by cases e; exact h
  | .int _, d', v, e, h => by cases e; exact h
  | .str _, d', v, e, h => by cases e; exact h
  | .fn _, d', v, e, h => by cases e; exact h
  | .dct, d', v, e, h => by cases e; exact h
  | .scr _, d', v, e, h => by cases e; exact h
  | .tup ds, d', v, e, q => by
    obtain ⟨es, e1, e2⟩ := Option.map_eq_some_iff.mp (show (D.offL m R ds).map .tup = some d' from e)
    subst e2
    obtain ⟨a, vs, e, s, z, r⟩ := q
    have q2 := RVs.off hR ds es vs e1 r
    exact ⟨a, vs, e, s, by rw [q2.length, ← r.length]; exact z, q2⟩
  | .lst ds, d', v, e, q => by
    obtain ⟨es, e1, e2⟩ := Option.map_eq_some_iff.mp (show (D.offL m R ds).map .lst = some d' from e)
    subst e2
    obtain ⟨a, vs, e, s, t, z, r⟩ := q
    have q2 := RVs.off hR ds es vs e1 r
    exact ⟨a, vs, e, .inl s, t, by rw [q2.length, ← r.length]; exact z, q2⟩
  | .ref i, d', v, e, q => by
    obtain ⟨a, e1, rfl⟩ := q
    have e' : (if i < m then some (D.ref i) else R i) = some d' := e
    by_cases hi : i < m
    · rw [if_pos hi] at e'
      cases e'
      exact ⟨a, by show (Z.th.take m)[i]? = some a; rw [List.getElem?_take_of_lt hi]; exact e1, rfl⟩
    · rw [if_neg hi] at e'
      exact hR i a d' (by omega) e1 e'
  | .exc c d, d', v, e, q => by
    obtain ⟨es, e1, e2⟩ := Option.map_eq_some_iff.mp (show (D.off m R d).map (.exc c) = some d' from e)
    subst e2
    obtain ⟨kc, a, dd, w, e, q1, q2, r⟩ := q
    exact ⟨kc, a, dd, w, e, q1, q2, RV.off hR d es w e1 r⟩
theorem RVs.off {m : Nat} {R : Nat → Option D} (hR : ∀ i a d', m ≤ i → Z.th[i]? = some a → R i = some d' → RV G (Z.left m) d' (.ref a)) : ∀ (ds es : List D) (vs : List V), D.offL m R ds = some es → RVs G Z ds vs → RVs G (Z.left m) es vs
  | [], es, vs, e, h => by cases e; exact h
  | d :: ds, es, vs, e, q => by
    obtain ⟨x, e1, e⟩ := Option.bind_eq_some_iff.mp (show (D.off m R d).bind (fun a => (D.offL m R ds).map fun b => a :: b) = some es from e)
    obtain ⟨r', e2, e3⟩ := Option.map_eq_some_iff.mp e
    subst e3
    obtain ⟨v, r, e, h1, h2⟩ := q
    exact ⟨v, r, e, RV.off hR d x v e1 h1, RVs.off hR ds r' r e2 h2⟩
end
theorem tab_left (R : Rel G Z μ) {m : Nat} : ∀ (fuel i : Nat) (a : Addr) (d' : D), m ≤ i → Z.th[i]? = some a → tabD m μ fuel i = some d' → RV G (Z.left m) d' (.ref a)
  | 0, i, a, d', _, _, e => by cases e
  | f + 1, i, a, d', hi, ha, e => by
    have e' : (match μ[i]? with
      | some xs => (D.offL m (tabD m μ f) xs).map .lst
      | none => none) = some d' := e
    split at e'
    · rename_i xs hx
      obtain ⟨es, e1, e2⟩ := Option.map_eq_some_iff.mp e'
      subst e2
      obtain ⟨vs, q1, q2, q3⟩ := R.cell i a xs ha hx
      have q4 := RVs.off (fun i a d' => tab_left R f i a d') xs es vs e1 q2
      refine ⟨a, vs, rfl, .inr ?_, q1, by rw [q4.length, ← q2.length]; exact q3, q4⟩
      rw [List.mem_iff_getElem?]
      exact ⟨i - m, by rw [List.getElem?_drop]; rw [show m + (i - m) = i from by omega]; exact ha⟩
    · cases e'
theorem left_ext (R : Rel G Z μ) (x : Ext Z Z') (R' : Rel G Z' μ1) : Ext Z (Z'.left μ.length) where
  pre := by
    obtain ⟨t, e⟩ := x.pre
    show Z.th <+: Z'.th.take μ.length
    rw [← e, ← R.len, List.take_append_of_le_length (Nat.le_refl _), List.take_length]
    exact List.prefix_refl _
  fresh := fun a h => x.fresh a (List.mem_of_mem_take h)
  sub := fun a h => .inl (x.sub a h)
  new := fun a h => h.elim (x.new a) fun h => by
    right
    obtain ⟨t, e⟩ := x.pre
    rw [← e, ← R.len, List.drop_append_of_le_length (Nat.le_refl _), List.drop_length, List.nil_append] at h
    refine (x.fresh a (by rw [← e]; exact List.mem_append_right _ h)).elim (fun q => ?_) id
    have nd := R'.nd
    rw [← e] at nd
    exact absurd rfl ((List.nodup_append.mp nd).2.2 a q a h)
  keep := fun a o h q => x.keep a o h q
  dom := fun a h => x.dom a h
theorem left_rel (R : Rel G Z μ) (x : Ext Z Z') (R' : Rel G Z' μ1) (h : ∀ i, i < μ.length → μ1[i]? = μ[i]? ∨ ∃ xs, μ1[i]? = some xs ∧ D.undL μ.length xs = true) : Rel G (Z'.left μ.length) (μ1.take μ.length) where
  len := by
    show (Z'.th.take μ.length).length = _
    rw [List.length_take, List.length_take, R'.len]
  nd := R'.nd.sublist (List.take_sublist _ _)
  cell := fun i a ds h1 h2 => by
    have hi : i < μ.length := by
      have := (List.getElem?_eq_some_iff.mp h1).1
      have e : (Z'.left μ.length).th = Z'.th.take μ.length := rfl
      rw [e, List.length_take] at this
      omega
    have h1' : Z'.th[i]? = some a := by
      have e : (Z'.th.take μ.length)[i]? = some a := h1
      rw [List.getElem?_take_of_lt hi] at e; exact e
    rw [List.getElem?_take_of_lt hi] at h2
    obtain ⟨vs, q1, q2, q3⟩ := R'.cell i a ds h1' h2
    refine ⟨vs, q1, RVs.left ds vs ?_ q2, q3⟩
    rcases h i hi with e | ⟨xs, e1, e2⟩
    · rw [h2] at e
      have ha : Z.th[i]? = some a := by
        obtain ⟨t, et⟩ := x.pre
        rw [← et, List.getElem?_append_left (by rw [R.len]; exact hi)] at h1'
        exact h1'
      obtain ⟨ws, _, w2, _⟩ := R.cell i a ds ha e.symm
      exact RVs.und (by rw [R.len]; exact Nat.le_refl _) ds ws w2
    · rw [h2] at e1
      cases e1
      exact e2
  sep := fun a h q => by
    rcases h with h | h
    · exact R'.sep a h (List.mem_of_mem_take q)
    · have nd := R'.nd
      rw [← List.take_append_drop μ.length Z'.th] at nd
      exact absurd rfl ((List.nodup_append.mp nd).2.2 a q a h)
  has := fun a h => by
    rcases h with h | h
    · exact R'.has a h
    · obtain ⟨vs, e⟩ := R'.atCell (List.mem_of_mem_drop h)
      show Z'.H a ≠ none
      rw [e]
      simp
open Classical in
/-- a callee's end -/
theorem fin_ok (R : Rel G Z μ) (x : Ext Z Z') (R' : Rel G Z' μ1) {d : D} {v : V} (r : RV G Z' d v) {kk : D → Mu → Res D} (h : fin μ d μ1 kk ≠ .err) : ∃ Z2 d2 μ2, Z2.H = Z'.H ∧ Ext Z Z2 ∧ Rel G Z2 μ2 ∧ RV G Z2 d2 v ∧ fin μ d μ1 kk = kk d2 μ2 := by
  unfold fin at h ⊢
  by_cases h1 : μ1.length = μ.length
  · rw [if_pos h1]
    exact ⟨Z', d, μ1, rfl, x, R', r, rfl⟩
  · rw [if_neg h1] at h ⊢
    by_cases h2 : ∀ i, i < μ.length → μ1[i]? = μ[i]? ∨ ∃ xs, μ1[i]? = some xs ∧ D.undL μ.length xs = true
    · rw [if_pos h2] at h ⊢
      cases e : d.off μ.length (tabD μ.length μ1 FUEL) with
      | none => rw [e] at h; exact absurd rfl h
      | some d2 => exact ⟨Z'.left μ.length, d2, μ1.take μ.length, rfl, left_ext R x R', left_rel R x R' h2, RV.off (fun i a d' => tab_left R' FUEL i a d') d d2 v e r, rfl⟩
    · rw [if_neg h2] at h
      exact absurd rfl h
/-- the body's wish, from the call's -/
theorem leave_ok {Wf : XK} {Q : VK} {o : Out} (R : Rel G Z μ) (h : Pst G (fun c d _ H => Wf c d H) [] (RV G) Z (leave μ o) Q) : PstS G (fun c d _ H => Wf c d H) { nx := fun _ H' => Q .non H', rt := Q } Z o := by
  have ne : ∀ {r : Res D}, Pst G (fun c d _ H => Wf c d H) [] (RV G) Z r Q → r ≠ .err := fun {r} q z => by rw [z] at q; exact q
  cases o with
  | next ρ' μ' =>
    intro σ' Z' x R' s
    have h' : Pst G (fun c d _ H => Wf c d H) [] (RV G) Z (fin μ D.none μ' .ok) Q := h
    obtain ⟨Z2, d2, μ2, e1, e2, e3, e4, e5⟩ := fin_ok (kk := .ok) R x R' (d := .none) (v := .non) rfl (ne h')
    rw [e5] at h'
    have := h' .non Z2 e2 e3 e4
    rw [e1] at this
    exact this
  | ret d μ' =>
    intro v Z' x R' r
    have h' : Pst G (fun c d _ H => Wf c d H) [] (RV G) Z (fin μ d μ' .ok) Q := h
    obtain ⟨Z2, d2, μ2, e1, e2, e3, e4, e5⟩ := fin_ok (kk := .ok) R x R' r (ne h')
    rw [e5] at h'
    have := h' v Z2 e2 e3 e4
    rw [e1] at this
    exact this
  | exc c d ρ' μ' =>
    intro kc dd w σ' Z' x R' s ed r
    have h' : Pst G (fun c d _ H => Wf c d H) [] (RV G) Z (fin μ d μ' (.exc c)) Q := h
    obtain ⟨Z2, d2, μ2, e1, e2, e3, e4, e5⟩ := fin_ok (kk := .exc c) R x R' r (ne h')
    rw [e5] at h'
    have := (show ExP G (fun c d _ H => Wf c d H) [] Z c d2 μ2 from h') kc dd w Z2 e2 e3 (by rw [e1]; exact ed) e4
    rw [e1] at this
    exact this
  | brk ρ' μ' => exact False.elim h
  | cont ρ' μ' => exact False.elim h
  | err => exact False.elim h
/-! ### a cell handed back -/
mutual
theorem RV.cut {Z2 : Wd} {m : Nat} (hth : ∀ i, i < m → Z2.th[i]? = Z.th[i]?) (hS : ∀ a, Z.S a → Z2.S a) (hH : Z2.H = Z.H) : ∀ (d : D) (v : V), D.und m d = true → RV G Z d v → RV G Z2 d v
  | .none, _, _, h => h
  | .bl _, _, _, h => h
  | .int _, _, _, h => h
  | .str _, _, _, h => h
  | .fn _, _, _, h => h
  | .dct, _, _, ⟨a, e, q⟩ => ⟨a, e, by rw [hH]; exact q⟩
  | .scr _, _, _, ⟨a, e, q, z⟩ => ⟨a, e, q.imp (fun ⟨o, q⟩ => ⟨o, by rw [hH]; exact q⟩) id, z⟩
  | .tup ds, v, u, q => by
    obtain ⟨a, vs, e, s, z, r⟩ := q
    exact ⟨a, vs, e, by rw [hH]; exact s, z, RVs.cut hth hS hH ds vs u r⟩
  | .lst ds, v, u, q => by
    obtain ⟨a, vs, e, s, t, z, r⟩ := q
    exact ⟨a, vs, e, hS a s, by rw [hH]; exact t, z, RVs.cut hth hS hH ds vs u r⟩
  | .ref i, v, u, q => by
    obtain ⟨a, e, z⟩ := q
    have hi : i < m := of_decide_eq_true u
    exact ⟨a, by rw [hth i hi]; exact e, z⟩
  | .exc c d, v, u, q => by
    obtain ⟨kc, a, dd, w, e, q1, q2, r⟩ := q
    exact ⟨kc, a, dd, w, e, by rw [hH]; exact q1, by rw [hH]; exact q2, RV.cut hth hS hH d w u r⟩
theorem RVs.cut {Z2 : Wd} {m : Nat} (hth : ∀ i, i < m → Z2.th[i]? = Z.th[i]?) (hS : ∀ a, Z.S a → Z2.S a) (hH : Z2.H = Z.H) : ∀ (ds : List D) (vs : List V), D.undL m ds = true → RVs G Z ds vs → RVs G Z2 ds vs
  | [], _, _, h => h
  | d :: ds, vs, u, q => by
    have u' : (D.und m d && D.undL m ds) = true := u
    rw [Bool.and_eq_true] at u'
    obtain ⟨v, r, e, h1, h2⟩ := q
    exact ⟨v, r, e, RV.cut hth hS hH d v u'.1 h1, RVs.cut hth hS hH ds r u'.2 h2⟩
end
open Classical in
theorem keep_ok (R : Rel G Z μ) (x : Ext Z Z') (R' : Rel G Z' μ1) {i : Nat} {v : V} (r : RV G Z' (.ref i) v) (h : keepC μ i μ1 ≠ .err) : ∃ Z2 d2 μ2, Z2.H = Z'.H ∧ Ext Z Z2 ∧ Rel G Z2 μ2 ∧ RV G Z2 d2 v ∧ keepC μ i μ1 = .ok d2 μ2 := by
  unfold keepC at h ⊢
  cases e : μ1[i]? with
  | none => rw [e] at h; exact absurd rfl h
  | some xs =>
    rw [e] at h
    have h' : (if μ.length ≤ i ∧ D.undL μ.length xs = true ∧ (∀ i, i < μ.length → μ1[i]? = μ[i]? ∨ ∃ ys, μ1[i]? = some ys ∧ D.undL μ.length ys = true) then Res.ok (D.ref μ.length) (μ1.take μ.length ++ [xs]) else .err) ≠ .err := h
    by_cases hc : μ.length ≤ i ∧ D.undL μ.length xs = true ∧ (∀ i, i < μ.length → μ1[i]? = μ[i]? ∨ ∃ ys, μ1[i]? = some ys ∧ D.undL μ.length ys = true)
    · obtain ⟨hi, hu, ha⟩ := hc
      obtain ⟨a, ea, ev⟩ := r
      have hl1 : μ.length ≤ Z'.th.length := by have := (List.getElem?_eq_some_iff.mp ea).1; omega
      let Z2 : Wd := ⟨Z'.th.take μ.length ++ [a], Z'.S, Z'.H⟩
      have hlt : (Z'.th.take μ.length).length = μ.length := by rw [List.length_take]; omega
      have aD : a ∈ Z'.th.drop μ.length := by
        rw [List.mem_iff_getElem?]
        exact ⟨i - μ.length, by rw [List.getElem?_drop, show μ.length + (i - μ.length) = i from by omega]; exact ea⟩
      have nd := R'.nd
      rw [← List.take_append_drop μ.length Z'.th] at nd
      have nd' := List.nodup_append.mp nd
      have aN : a ∉ Z'.th.take μ.length := fun q => nd'.2.2 a q a aD rfl
      have E1 := left_ext R x R'
      have E2 : Ext Z Z2 := by
        refine ⟨?_, fun b q => x.fresh b ?_, x.sub, x.new, x.keep, x.dom⟩
        · obtain ⟨t, et⟩ := x.pre
          have e1 : Z'.th.take μ.length = Z.th := by rw [← et, ← R.len, List.take_append_of_le_length (Nat.le_refl _), List.take_length]
          show Z.th <+: Z'.th.take μ.length ++ [a]
          rw [e1]
          exact List.prefix_append _ _
        · rcases List.mem_append.mp q with q | q
          · exact List.mem_of_mem_take q
          · rw [List.mem_singleton.mp q]; exact List.mem_of_getElem? ea
      have hth : ∀ j, j < μ.length → Z2.th[j]? = Z'.th[j]? := fun j hj => by
        show (Z'.th.take μ.length ++ [a])[j]? = _
        rw [List.getElem?_append_left (by rw [hlt]; exact hj), List.getElem?_take_of_lt hj]
      have hl2 : (μ1.take μ.length).length = μ.length := by rw [List.length_take, ← R'.len]; omega
      refine ⟨Z2, .ref μ.length, μ1.take μ.length ++ [xs], rfl, E2, ⟨?_, ?_, fun j b ds h1 h2 => ?_, fun b hb q => ?_, fun b hb => R'.has b hb⟩, ⟨a, ?_, ev⟩, ?_⟩
      · show (Z'.th.take μ.length ++ [a]).length = _
        rw [List.length_append, List.length_append, hlt, hl2]; rfl
      · exact List.nodup_append.mpr ⟨nd'.1, List.nodup_cons.mpr ⟨by simp, List.nodup_nil⟩, fun b hb d hd e => aN (by rw [List.mem_singleton.mp hd] at e; rw [← e]; exact hb)⟩
      · have h1' : (Z'.th.take μ.length ++ [a])[j]? = some b := h1
        by_cases hj : j < μ.length
        · rw [hth j hj] at h1
          rw [List.getElem?_append_left (by rw [hl2]; exact hj), List.getElem?_take_of_lt hj] at h2
          obtain ⟨vs, q1, q2, q3⟩ := R'.cell j b ds h1 h2
          refine ⟨vs, q1, RVs.cut hth (fun _ q => q) rfl ds vs ?_ q2, q3⟩
          rcases ha j hj with e | ⟨ys, e1, e2⟩
          · rw [h2] at e
            have hb : Z.th[j]? = some b := by
              obtain ⟨t, et⟩ := x.pre
              rw [← et, List.getElem?_append_left (by rw [R.len]; exact hj)] at h1
              exact h1
            obtain ⟨ws, _, w2, _⟩ := R.cell j b ds hb e.symm
            exact RVs.und (by rw [R.len]; exact Nat.le_refl _) ds ws w2
          · rw [h2] at e1
            cases e1
            exact e2
        · have hj2 : j = μ.length := by
            have := (List.getElem?_eq_some_iff.mp h1').1
            rw [List.length_append, hlt, List.length_singleton] at this
            omega
          subst hj2
          rw [List.getElem?_append_right (by rw [hlt]; exact Nat.le_refl _), hlt, Nat.sub_self] at h1'
          rw [List.getElem?_append_right (by rw [hl2]; exact Nat.le_refl _), hl2, Nat.sub_self] at h2
          have eb : a = b := by simpa using h1'
          have ed : xs = ds := by simpa using h2
          rw [← eb, ← ed]
          obtain ⟨vs, q1, q2, q3⟩ := R'.cell i a xs ea e
          exact ⟨vs, q1, RVs.cut hth (fun _ q => q) rfl xs vs hu q2, q3⟩
      · rcases List.mem_append.mp q with q | q
        · exact R'.sep b hb (List.mem_of_mem_take q)
        · rw [List.mem_singleton.mp q] at hb
          exact R'.sep a hb (List.mem_of_getElem? ea)
      · show (Z'.th.take μ.length ++ [a])[μ.length]? = some a
        rw [List.getElem?_append_right (by rw [hlt]; exact Nat.le_refl _), hlt, Nat.sub_self]; rfl
      · show (if μ.length ≤ i ∧ D.undL μ.length xs = true ∧ (∀ i, i < μ.length → μ1[i]? = μ[i]? ∨ ∃ ys, μ1[i]? = some ys ∧ D.undL μ.length ys = true) then Res.ok (D.ref μ.length) (μ1.take μ.length ++ [xs]) else .err) = _
        rw [if_pos ⟨hi, hu, ha⟩]
    · rw [if_neg hc] at h'
      exact absurd rfl h'
theorem leaveK_ok {Wf : XK} {Q : VK} {o : Out} (R : Rel G Z μ) (h : Pst G (fun c d _ H => Wf c d H) [] (RV G) Z (leaveK μ o) Q) : PstS G (fun c d _ H => Wf c d H) { nx := fun _ H' => Q .non H', rt := Q } Z o := by
  cases o with
  | ret d μ' =>
    cases d with
    | ref i =>
      intro v Z' x R' r
      have h' : Pst G (fun c d _ H => Wf c d H) [] (RV G) Z (keepC μ i μ') Q := h
      obtain ⟨Z2, d2, μ2, e1, e2, e3, e4, e5⟩ := keep_ok R x R' r (fun z => by rw [z] at h'; exact h')
      rw [e5] at h'
      have := h' v Z2 e2 e3 e4
      rw [e1] at this
      exact this
    | _ => exact False.elim h
  | exc c d ρ' μ' => exact leave_ok R h
  | next ρ' μ' => exact False.elim h
  | brk ρ' μ' => exact False.elim h
  | cont ρ' μ' => exact False.elim h
  | err => exact False.elim h
end
end PyE
set_option maxRecDepth 100000
set_option maxHeartbeats 4000000
/-! functions, level by level -/
namespace PyE
open PySem PySem.Spec PyProof.Rows L2
/-- a function's text in the program -/
structure FdOk (G : Gi) (T : Tb) (tbl : Fid → Option Def) (f : Fid) : Prop where
  ex : ∃ (df : Def) (oc : Value) (od : Option Addr) (name qual : Str) (params : Arguments) (body : List Stmt) (scope : Scope) (dV kV doc pm cdv ct : Value) (an : Option Addr) (osl : Array (Option Value)) (N ps : List Str),
    tbl f = some df ∧ G.K.lookup (G.fa f) = some ⟨oc, od, .func (PySem.W.fnOf name qual params body scope dV kV doc pm an cdv ct), osl⟩ ∧ PySem.W.codeIn G.K cdv qual = true ∧ FnScope N ps scope ∧
      df.np = ps.length ∧ T.ps f = ps.length ∧ df.ns = N.length ∧ ps.length ≤ N.length ∧ ckSs T df.body ⟨N, scope, fun _ => true⟩ body = true ∧
      ∀ (s : Shared) (us : List Value), G.K.In s.heap → us.length = ps.length → BindsTo s (PySem.W.fnOf name qual params body scope dV kV doc pm an cdv ct) ⟨us, []⟩ (ps.zip us)
section
variable {G : Gi} {C : Cfg} {T : Tb} {tbl : Fid → Option Def}
theorem rvs_start {Z : Wd} {ds : List D} {vs : List V} (r : RVs G Z ds vs) (m : Nat) : SE G Z (vs.map some ++ List.replicate m none) (ds.map some ++ List.replicate m none) := by
  refine ⟨by simp [r.length], fun i d h => ?_⟩
  by_cases hi : i < ds.length
  · rw [List.getElem?_append_left (by simpa using hi), List.getElem?_map] at h
    cases e : ds[i]? with
    | none => rw [e] at h; cases h
    | some d' =>
      rw [e] at h
      cases h
      obtain ⟨v, e1, e2⟩ := r.get e
      refine ⟨v, ?_, e2⟩
      rw [List.getElem?_append_left (by rw [List.length_map, ← r.length]; exact hi), List.getElem?_map, e1]; rfl
  · rw [List.getElem?_append_right (by simpa using hi)] at h
    rw [List.getElem?_replicate] at h
    split at h <;> cases h
theorem level (tb : TbOk G T) (gf : GF G C) (sys : SysK G.K) (fd : ∀ f, G.kf f = true → FdOk G T tbl f) : ∀ k, Wk G C T (run C tbl k) k
  | 0 => ⟨tb, gf, sys, fun f hf => by
      obtain ⟨df, oc, od, name, qual, params, body, scope, dV, kV, doc, pm, cdv, ct, an, osl, N, ps, e1, lk, hcd, S, e2, e3, e4, e5, ck, bd⟩ := (fd f hf).ex
      exact ⟨⟨_, ps, e3.symm, bd, fun A outer s H args us vs Q E _ _ _ _ _ h => by
        obtain ⟨_, Z, μ, ds, _, _, _, h⟩ := h
        exact False.elim h⟩, fun ds μ h => absurd rfl h⟩⟩
  | k + 1 => by
    have IH := level tb gf sys fd k
    refine ⟨tb, gf, sys, fun f hf => ?_⟩
    obtain ⟨df, oc, od, name, qual, params, body, scope, dV, kV, doc, pm, cdv, ct, an, osl, N, ps, e1, lk, hcd, S, e2, e3, e4, e5, ck, bd⟩ := (fd f hf).ex
    refine ⟨⟨_, ps, e3.symm, bd, fun A outer s H args us vs Q E gd hr e0 hb r hsp => ?_⟩, fun ds μ h => ?_⟩
    rotate_left
    · by_cases hd : ds.length = df.np
      · rw [hd, e2, e3]
      · refine absurd ?_ h
        show (match tbl f with | some df => call1 C (run C tbl k) df ds μ | none => .err) = _
        rw [e1]
        show call1 C (run C tbl k) df ds μ = _
        unfold call1
        rw [if_neg hd]
    obtain ⟨hl, Z, μ, ds, eH, R, rv, hp⟩ := hsp
    have hl' : vs.length = ps.length := by rw [hl, e3]
    have KX : G.K.In s.heap := e0.mod.kin.keeps fun b o e => (e0.bs b o e).1
    have lim : s.heap.NoLimit := e0.mod.nolimit.keeps fun b o e => (e0.bs b o e).1
    have hkind : ∀ y ∈ ps.zip us, scope.names.lookup y.1 = some .local ∨ (scope.names.lookup y.1 = some .cell ∧ ((cellsFrom (s.heap.objs.size + 1) scope.names []).lookup y.1).isSome = true) := fun ⟨x, v⟩ hy => by
      rcases S.par x (List.of_mem_zip hy).1 with q | q
      · exact .inl q
      · exact .inr ⟨q, PySem.W.cellsFrom_some _ _ _ (.inl q)⟩
    refine codeAny_call_function hr.depth (KX _ _ lk) rfl S.co S.gen rfl (PySem.W.codeRec_of KX hcd) (hb _ _ _ _ ?_)
    refine wpAny_newFunctionEnv_cells S.kind hkind fun env he s1 x => ?_
    subst he
    refine ⟨lim.keeps x.toInCall.keep, codeAny_func ?_⟩
    let X := cxOf (CX G.P G.w) G.P G.w G.K G.mg G.base N qual scope (G.fa f) cdv A outer s H E
    have cs : CxS G C T (run C tbl k) ⟨N, scope, fun _ => true⟩ (fun c d _ H => E c d H) k X := {
      wk := IH, prog := rfl, w := rfl, K := rfl, mg := rfl, base := rfl, calm := rfl, N := rfl, nd := S.nd, sc := rfl, fn := rfl, room := hr.deeper _, gd := gd
      tk := takes_of (X := X) rfl rfl rfl rfl
      pass := passes_of (X := X) (K := fun e s'' => CX G.P G.w outer H s E e s'') rfl }
    have I : Inv X [] (start N vs) H s1 := inv_start S hr.hd e0 hl' r x
    have hbody := s_sts cs df.body body ck
    have hw : tS G (fun c d _ H => E c d H) (eS C (run C tbl k) df.body) { nx := fun _ H' => Q .non H', rt := Q } (start N vs) H := by
      have hrun : run C tbl (k + 1) f ds μ = call1 C (run C tbl k) df ds μ := by
        show (match tbl f with | some df => call1 C (run C tbl k) df ds μ | none => .err) = _
        rw [e1]
      rw [hrun] at hp
      unfold call1 at hp
      have hld : ds.length = df.np := by rw [rv.length, hl', e2]
      rw [if_pos hld] at hp
      have hend : PstS G (fun c d _ H => E c d H) { nx := fun _ H' => Q .non H', rt := Q } Z (eS C (run C tbl k) df.body (ds.map some ++ List.replicate (df.ns - df.np) none) μ) := by
        by_cases hk : df.kp = true
        · rw [if_pos hk] at hp; exact leaveK_ok R hp
        · rw [if_neg hk] at hp; exact leave_ok R hp
      refine ⟨Z, _, μ, ⟨eH, ?_, R⟩, hend⟩
      have e6 : start N vs = vs.map some ++ List.replicate (df.ns - df.np) none := by
        unfold L2.start
        rw [hl', e4, e2]
      rw [e6]
      exact rvs_start rv _
    refine wpAny_mono (hbody.run [] s1 (start N vs) H _ I hw) (fun fl s' hs => ?_) fun e s' hs => hs
    have fin : ∀ {σ' : L2.St} {H' : Hp} {v : V} {u : Value}, Inv X [] σ' H' s' → RelV v u → Q v H' → L2.CE outer G.P G.w H s Q u s' := fun {σ' H' v u} J rv q => ⟨v, H', J.os, J.bare, J.base, J.hok, rv, q⟩
    cases fl with
    | ret u =>
      obtain ⟨v, σ', H', J, rv, q⟩ := hs
      exact fin J rv q
    | next =>
      obtain ⟨σ', H', J, q⟩ := hs
      exact fin (v := V.non) (u := Value.none) J rfl q
    | brk =>
      obtain ⟨_, _, _, q⟩ := hs
      exact False.elim q
    | cont =>
      obtain ⟨_, _, _, q⟩ := hs
      exact False.elim q
end
end PyE
set_option maxRecDepth 100000
set_option maxHeartbeats 4000000
/-! a law's end -/
namespace PyE
open PySem PySem.Spec PyProof.Rows L2
/-- the law at the heap behind the top: its def's promise over every ground -/
theorem law_g {Pr : Program} {wo : World} {KK : PySem.W.Frag} {gm bm : Str → Option Value} {fL aS : Addr} {st : Shared} {us : List Value} {zs : List Int} {sp : Heap → Sp}
    (inK : KK.In st.heap) (nsG : st.heap.Ns mainGlobals gm) (nsB : st.heap.Ns builtinsNs bm) (bb : ∀ x : Str, x ≠ "__name__" → bm x = bootBuiltins x) (nl : st.heap.NoLimit) (ng : st.gens = #[])
    (atS : st.heap.get? aS = some { cls := .type "list", data := .seq us.toArray }) (iz : IntsAre us zs) (short : zs.length ≤ sizeLine)
    (run : ∀ (gr : Heap), KK.In gr → gr.Ns mainGlobals gm → ∀ (H : Hp) (Q : VK) (Ex : XK), Env0 Pr wo KK gm gr callerA [] st H → sp gr [.ref aS] H Q Ex → codeAny (model Pr wo) callerA (.call (.ref fL) ⟨[.ref aS], []⟩) (CR (CX Pr wo) [] Pr wo H st Q Ex) st)
    (say : ∀ (gr : Heap) (H : Hp), ((∃ o, H aS = some (.frz o (.lst (zs.map .int)))) ∨ (∀ H, SqL KK H aS (zs.map .int))) → sp gr [.ref aS] H (fun v _ => v = .bl true) fun _ _ _ => False) :
    codeAny (model Pr wo) callerA (.call (.ref fL) ⟨[.ref aS], []⟩) (fun r s' => r = .ok (.ret (.bool true)) ∧ OldK st.heap s'.heap ∧ s'.os = st.os ∧ AllBare s'.gens) st := by
  have rvs := vals_ints iz
  have lenU := iz.length
  have main : ∀ H : Hp, Only H → ((∃ o, H aS = some (.frz o (.lst (zs.map .int)))) ∨ (∀ H, SqL KK H aS (zs.map .int))) → HOk Pr wo H st.heap → (∀ b, H b ≠ none → b = aS) → (H aS ≠ none → KK.lookup aS = none) →
      codeAny (model Pr wo) callerA (.call (.ref fL) ⟨[.ref aS], []⟩) (fun r s' => r = .ok (.ret (.bool true)) ∧ OldK st.heap s'.heap ∧ s'.os = st.os ∧ AllBare s'.gens) st := by
    intro H only sq ok oneA noK
    have nothing : ∀ {b : Addr}, b ≠ aS → H b = none := fun {b} hb => by
      cases q : H b with
      | none => rfl
      | some u => exact absurd (oneA b (by rw [q]; simp)) hb
    have hidden : ∀ {b : Addr} {o : Obj}, st.heap.get? b = some o → H b = none → (hidT st.heap H).get? b = some o := fun e m => hidT_get e m
    have dictFree : ∀ {b : Addr} {o : Obj} {es : Array DictEntry} {ep : Nat}, st.heap.get? b = some o → o.data = .dict es ep → H b = none := fun {b o es ep} e d => nothing fun z => by
      rw [z, atS] at e
      cases e
      cases (show Data.seq us.toArray _ = Data.dict es ep from d)
    have nsOf : ∀ {b : Addr} {m : Str → Option Value}, st.heap.Ns b m → (hidT st.heap H).Ns b m := fun {b m} ⟨o, es, ep, e, d, r⟩ => ⟨o, es, ep, hidden e (dictFree e d), d, r⟩
    have kIn : KK.In (hidT st.heap H) := fun b o e => hidden (inK b o e) (by
      by_cases z : b = aS
      · cases q : H b with
        | none => rfl
        | some u =>
          have := noK (by rw [← z, q]; simp)
          rw [← z, e] at this
          cases this
      · exact nothing z)
    have md : Mod KK gm (hidT st.heap H) := ⟨kIn, nsOf nsG, ⟨bm, nsOf nsB, bb⟩, let ⟨mc, h1, h2⟩ := nl; ⟨mc, nsOf h1, h2⟩⟩
    have en : Env0 Pr wo KK gm (hidT st.heap H) callerA [] st H := ⟨rfl, md, fun b o e => of_hidT e, Nat.le_of_eq (hidT_size _ _), trivial, fun b hb => absurd (show b ∈ ([] : List Addr) from hb) (by simp), ok, .of_eq ng⟩
    refine codeAny_mono (run _ kIn (nsOf nsG) H _ _ en (say _ H sq)) fun r s' h => ?_
    cases r with
    | error e =>
      obtain ⟨_, _, _, _, _, _, _, _, _, _, _, _, z⟩ := h
      exact False.elim z
    | ok fl =>
      cases fl with
      | next => exact False.elim h
      | brk => exact False.elim h
      | cont => exact False.elim h
      | ret u =>
        obtain ⟨v, H', os, bare, un, ok', rv', q⟩ := h
        have eq : v = .bl true := q
        subst eq
        obtain rfl : u = Value.bool true := rv'
        refine ⟨rfl, OldK.of_keep fun b o e => ?_, os, bare⟩
        cases q : H b with
        | none => exact un.keep b o e q (by intro z; exact absurd (show b ∈ ([] : List Addr) from z) (by simp)) (by simp)
        | some u =>
          rcases only b with z | ⟨ob, xs, z⟩
          · rw [q] at z; cases z
          · obtain ⟨e1, _⟩ := ok b _ z
            obtain ⟨e2, _⟩ := ok' b _ (un.frzs b ob _ z)
            rw [e] at e1; cases e1
            exact e2
  cases hk : KK.lookup aS with
  | some o =>
    have e := inK aS o hk
    rw [atS] at e
    cases e
    refine main (fun _ => none) (fun _ => .inl rfl) (.inr fun H => .inr ⟨_, us.toArray, _, hk, rfl, rfl, rfl, by rw [List.size_toArray, lenU]; exact short, by simpa using rvs⟩) (fun b u z => ?_) (fun b z => absurd rfl z) fun z => absurd rfl z
    cases (show (none : Option HO) = some u from z)
  | none =>
    refine main (fun b => if b = aS then some (.frz { cls := .type "list", data := .seq us.toArray } (.lst (zs.map V.int))) else none) (fun b => ?_) (.inl ⟨{ cls := .type "list", data := .seq us.toArray }, if_pos rfl⟩) (fun b u z => ?_) (fun b z => ?_) fun _ => hk
    · by_cases hb : b = aS
      · exact .inr ⟨_, _, if_pos hb⟩
      · exact .inl (if_neg hb)
    · by_cases hb : b = aS
      · cases (if_pos hb).symm.trans z
        subst hb
        exact ⟨atS, by rw [List.length_map]; exact short, us, _, rvs, atS⟩
      · cases (if_neg hb).symm.trans z
    · by_cases hb : b = aS
      · exact hb
      · exact absurd (if_neg hb) z
/-- the promise, from what the law's def computes -/
theorem say_of {G : Gi} {m : List D → Mu → Res D} {a : Addr} {ns : List Int} {H : Hp} (hl : ns.length ≤ LIM) (hm : m [.scr ns] [] = .ok (.bl true) []) (sq : (∃ o, H a = some (.frz o (.lst (ns.map .int)))) ∨ (∀ H, SqL G.K H a (ns.map .int))) :
    spOf G 1 m [.ref a] H (fun v _ => v = .bl true) fun _ _ _ => False := by
  refine ⟨rfl, ⟨[], fun _ => False, H⟩, [], [.scr ns], rfl, ⟨rfl, List.nodup_nil, fun n a ds h => by simp at h, fun a h => h.elim, fun a h => h.elim⟩, ⟨.ref a, [], rfl, ⟨a, rfl, sq, hl⟩, rfl⟩, ?_⟩
  rw [hm]
  exact fun v Z' _ _ r => r
/-- the whole: what is told of the head, and what is computed -/
theorem walk_g {l : PySem.W.OpenLaw} {nm kk : Nat} {q : Program} {loose : List Str} {XP : (Str → Option Value) → Heap → Prop} {YP : World → Heap → Prop} {d : DefRec}
    (hn : l.most = some nm) (hn2 : nm ≤ sizeLine) (hdf : d.params.defaults = []) (hr : Room kk callerA)
    (F : ∀ (wo : World) (gm : Str → Option Value) (fa : Addr) (h : Heap), YP wo h → h.Ns mainGlobals gm → gm d.name = some (.ref fa) →
      ∃ (G : Heap → Gi) (KK : PySem.W.Frag) (m : List D → Mu → Res D), (∀ b, (G b).P = l.prog ∧ (G b).w = wo ∧ (G b).K = KK ∧ (G b).mg = gm ∧ (G b).base = b) ∧ KK.In h ∧
        (∀ ns : List Int, ns.length ≤ nm → m [.scr ns] [] = .ok (.bl true) []) ∧ ∀ b, KK.In b → b.Ns mainGlobals gm → ∃ fd ps, ps.length = 1 ∧ FnG (G b) fd ps kk fa (spOf (G b) 1 m)) :
    PySem.W.WalkO q loose XP YP l.row.toRowW d [] (fun f vs => PySem.call f vs) := by
  refine Att.attach_call hn hdf fun w s₀ s₁ mg mb fa o pm cd doc a vs ns G Y ho hd hcd hmg hobj hints hlen hg => ?_
  obtain ⟨Gi', KK, m, hG, KX, hm, hF⟩ := F w mg fa _ Y G.T.g hmg
  refine law_g (sp := fun b => spOf (Gi' b) 1 m) KX G.T.g G.T.b G.T.builtins G.T.nolimit hg hobj hints (Nat.le_trans hlen hn2) (fun b k1 k2 H Q Ex en hs => ?_) fun b H sq => say_of (by rw [LIM_eq]; exact Nat.le_trans hlen hn2) (hm ns hlen) (by rw [(hG b).2.2.1]; exact sq)
  obtain ⟨e1, e2, e3, e4, e5⟩ := hG b
  obtain ⟨fd, ps, hp, hf⟩ := hF b k1 k2
  have := hf.run callerA [] s₁ H ⟨[.ref a], []⟩ [.ref a] [.ref a] Q Ex rfl hr (by rw [e1, e2, e3, e4, e5]; exact en) (hf.bind s₁ [.ref a] (by rw [e3]; exact KX) hp.symm) (.cons rfl .nil) hs
  rw [e1, e2] at this
  exact this
end PyE
set_option maxRecDepth 100000
set_option maxHeartbeats 4000000
/-! the head: what is told of the written part -/
namespace PyE
open PySem PySem.Spec PyProof.Rows L2
/-- the law's names: functions, classes -/
structure Nm where
  fs : List Str
  cs : List Str
  gl : List (Str × GK)
def Nm.f (m : Nm) (i : Fid) : Str := (m.fs[i]?).getD ""
def Nm.c (m : Nm) (i : Fid) : Str := (m.cs[i]?).getD ""
def dvOf : D → Option He.Dv
  | .none => some .non
  | .bl b => some (.bl b)
  | .int i => some (.int i)
  | .str s => some (.str s)
  | _ => none
def dvsOf : List D → Option (List He.Dv)
  | [] => some []
  | d :: ds => (dvOf d).bind fun a => (dvsOf ds).map fun b => a :: b
def conB (K : PySem.W.Frag) (x : Str) : D → Bool
  | .int i => (He.Fa.int x i).ok K
  | .str s => (He.Fa.str x s).ok K
  | .tup ds => (He.Fa.glo x).ok K && (match dvsOf ds with
    | some vs => He.tupB K x vs && decide (ds.length ≤ 1000)
    | none => false)
  | _ => false
def glB (m : Nm) (K : PySem.W.Frag) (x : Str) : GK → Bool
  | .fn f => (He.Fa.glo x).ok K && decide (m.f f = x) && decide (f < m.fs.length)
  | .cls c => (He.Fa.glo x).ok K && decide (m.c c = x) && decide (c < m.cs.length)
  | .con d => conB K x d
  | .blt => (He.Fa.free x).ok K
def sysB (K : PySem.W.Frag) : Bool := match K.lookup sysModules with
  | some o => decide (o.cls = .type "dict")
  | none => false
def xcB (K : PySem.W.Frag) (C : Addr) : Bool := (PySem.W.clsIn K C).isSome && decide (PySem.W.findIn K (.ref C) "__getattribute__" = some (some (.builtin "BaseException.__getattribute__"))) && decide (PySem.W.findIn K (.ref C) "__getattr__" = some none) &&
  decide (PySem.W.subIn K (.ref C) (.type "BaseException") = some true) && PySem.W.hasDictIn K C && decide (PySem.W.findIn K (.ref C) "__class__" = some (some (.builtin "object.__class__"))) && decide (PySem.W.specialIn K (.builtin "object.__class__") "__get__" = some (some (.builtin "getset_descriptor.__get__"))) &&
  decide (PySem.W.takesIn K (.builtin "object.__class__") = some true) && decide (PySem.W.mroIn K C (.type "object") = some true) && decide (PySem.W.findIn K (.ref C) "value" = some none)
theorem xcB_ok {K : PySem.W.Frag} {C : Addr} (h : xcB K C = true) : XcF K C := by
  unfold xcB at h
  simp only [Bool.and_eq_true] at h
  obtain ⟨⟨⟨⟨⟨⟨⟨⟨⟨h1, h2⟩, h3⟩, h4⟩, h5⟩, h6⟩, h7⟩, h8⟩, h9⟩, h10⟩ := h
  exact ⟨h1, of_decide_eq_true h2, of_decide_eq_true h3, of_decide_eq_true h4, h5, of_decide_eq_true h6, of_decide_eq_true h7, of_decide_eq_true h8, of_decide_eq_true h9, of_decide_eq_true h10⟩
/-- of the classes: two by two, with ValueError -/
def clsB (m : Nm) (C : Cfg) (K : PySem.W.Frag) : Bool := (List.range m.cs.length).all fun i => xcB K (He.ga K (m.c i)) && decide (PySem.W.kitOne K (.ref (He.ga K (m.c i))) (.type "ValueError") = some true) &&
  (List.range m.cs.length).all fun j => decide (PySem.W.kitOne K (.ref (He.ga K (m.c i))) (.ref (He.ga K (m.c j))) = some (C.sub i j))
def exB (m : Nm) (C : Cfg) (K : PySem.W.Frag) : Bool := sysB K && m.gl.all (fun p => glB m K p.1 p.2) && clsB m C K
/-! ### the hook -/
abbrev AlE : Type := He.AlD × Bool
def obsK (m : Nm) (C : Cfg) (fa : List He.Fa) (fn : List He.DefD) (K : PySem.W.Frag) : AlE := (He.obsD fa fn K, exB m C K)
def obsE (m : Nm) (C : Cfg) (n : Nat) (fa : List He.Fa) (fn : List He.DefD) (g : Addr → Option Obj) : AlE := obsK m C fa fn (He.frG g (sysModules :: He.asD g n))
def hookE (m : Nm) (C : Cfg) (n : Nat) (fa : List He.Fa) (fn : List He.DefD) : PySem.W.Hook where
  α := AlE
  obs := fun s => obsE m C n fa fn s.heap.get?
  val := fun _ => (He.valD fn, true)
  says := fun _ h => ∃ K : PySem.W.Frag, K.In h ∧ He.SaysD fa fn K ∧ exB m C K = true
  of := fun _ _ e => ⟨_, He.frG_in, congrArg Prod.fst e, congrArg Prod.snd e⟩
  keeps := fun _ _ _ ⟨K, hK, c⟩ k => ⟨K, PySem.W.Frag.In.keeps hK k, c⟩
theorem obsE_eq {m : Nm} {C : Cfg} {n : Nat} {fa : List He.Fa} {fn : List He.DefD} {g : Addr → Option Obj} {s : Shared} (h : ∀ a, g a = s.heap.get? a) : obsE m C n fa fn g = (hookE m C n fa fn).obs s := by
  have e : g = s.heap.get? := funext h
  rw [e] <;> rfl
/-! ### what it tells -/
def gOf (m : Nm) (P : Program) (w : World) (K : PySem.W.Frag) (mg : Str → Option Value) (b : Heap) : Gi := ⟨P, w, K, mg, b, fun f => He.ga K (m.f f), fun c => He.ga K (m.c c), fun c => decide (c < m.cs.length), fun f => decide (f < m.fs.length)⟩
section
variable {m : Nm} {C : Cfg} {P : Program} {w : World} {K : PySem.W.Frag} {mg : Str → Option Value} {b h : Heap}
theorem ex_sys (e : exB m C K = true) : SysK K := by
  unfold exB at e
  simp only [Bool.and_eq_true] at e
  have e1 := e.1.1
  unfold sysB at e1
  split at e1
  · exact ⟨_, by assumption, of_decide_eq_true e1⟩
  · cases e1
theorem ex_gf (e : exB m C K = true) : GF (gOf m P w K mg b) C := by
  unfold exB at e
  simp only [Bool.and_eq_true] at e
  have e1 := e.2
  unfold clsB at e1
  rw [List.all_eq_true] at e1
  have at_ : ∀ c, c < m.cs.length → xcB K (He.ga K (m.c c)) = true ∧ PySem.W.kitOne K (.ref (He.ga K (m.c c))) (.type "ValueError") = some true ∧ ∀ j, j < m.cs.length → PySem.W.kitOne K (.ref (He.ga K (m.c c))) (.ref (He.ga K (m.c j))) = some (C.sub c j) := fun c hc => by
    have := e1 c (List.mem_range.mpr hc)
    simp only [Bool.and_eq_true, List.all_eq_true] at this
    exact ⟨this.1.1, of_decide_eq_true this.1.2, fun j hj => of_decide_eq_true (this.2 j (List.mem_range.mpr hj))⟩
  exact ⟨fun c hc => xcB_ok (at_ c (of_decide_eq_true hc)).1, fun c k hc hk => (at_ c (of_decide_eq_true hc)).2.2 k (of_decide_eq_true hk), fun c hc => (at_ c (of_decide_eq_true hc)).2.1⟩
theorem dvs_rv {G : Gi} {Z : Wd} : ∀ {ds : List D} {vs : List He.Dv}, dvsOf ds = some vs → RVs G Z ds (vs.map (He.Dv.v K))
  | [], vs, e => by cases e; rfl
  | d :: ds, vs, e => by
    obtain ⟨a, e1, e⟩ := Option.bind_eq_some_iff.mp (show (dvOf d).bind (fun a => (dvsOf ds).map fun b => a :: b) = some vs from e)
    obtain ⟨r, e2, e3⟩ := Option.map_eq_some_iff.mp e
    subst e3
    refine ⟨_, _, rfl, ?_, dvs_rv e2⟩
    cases d <;> first | (cases e1; rfl) | cases e1
theorem mem_of_lookup {α : Type} {x : Str} {k : α} : ∀ {l : List (Str × α)}, l.lookup x = some k → (x, k) ∈ l
  | [], h => by cases h
  | (y, q) :: r, h => by
    rw [List.lookup_cons] at h
    split at h
    · rename_i he
      have e : x = y := by simpa using he
      cases h
      rw [e]
      exact List.mem_cons_self
    · exact List.mem_cons_of_mem _ (mem_of_lookup h)
theorem ex_tb {ps : Fid → Nat} {kw : List (Fid × Nat × List Str × List Nat)} (e : exB m C K = true) (X : K.In h) (N : h.Ns mainGlobals mg) (keep : ∀ f, f < m.fs.length → PySem.W.keepIn K (.ref (He.ga K (m.f f))) = true) : TbOk (gOf m P w K mg b) ⟨m.gl, ps, kw⟩ := by
  unfold exB at e
  simp only [Bool.and_eq_true] at e
  have e1 := e.1.2
  rw [List.all_eq_true] at e1
  have at_ : ∀ x k, m.gl.lookup x = some k → glB m K x k = true := fun x k hx => by
    exact e1 (x, k) (mem_of_lookup hx)
  refine ⟨fun x f hx => ?_, fun f hf => keep f (of_decide_eq_true hf), fun x d hx => ?_, fun x c hx => ?_, fun x hx => ?_⟩
  · have q := at_ x _ hx
    simp only [glB, Bool.and_eq_true] at q
    obtain ⟨⟨q1, q2⟩, q3⟩ := q
    exact ⟨(He.glo_ok X N q1).trans (by show _ = some (Value.ref (He.ga K (m.f f))); rw [of_decide_eq_true q2]), q3⟩
  · have q := at_ x _ hx
    have q' : conB K x d = true := q
    unfold conB at q'
    split at q'
    · obtain ⟨t, e⟩ := He.int_ok X N q'
      exact ⟨.int _, _, e, ⟨t, rfl⟩, fun Z => rfl⟩
    · obtain ⟨t, e⟩ := He.str_ok X N q'
      exact ⟨.str _, _, e, ⟨t, rfl⟩, fun Z => rfl⟩
    · rw [Bool.and_eq_true] at q'
      obtain ⟨q1, q2⟩ := q'
      split at q2
      · rename_i vs ev
        rw [Bool.and_eq_true] at q2
        have hz := of_decide_eq_true q2.2
        exact ⟨.ref (He.ga K x), _, He.glo_ok X N q1, rfl, fun Z => ⟨_, _, rfl, He.tupB_ok q2.1 Z.H, by unfold LIM; omega, dvs_rv ev⟩⟩
      · cases q2
    · cases q'
  · have q := at_ x _ hx
    simp only [glB, Bool.and_eq_true] at q
    obtain ⟨⟨q1, q2⟩, q3⟩ := q
    exact ⟨(He.glo_ok X N q1).trans (by show _ = some (Value.ref (He.ga K (m.c c))); rw [of_decide_eq_true q2]), q3⟩
  · exact He.free_ok X N (at_ x _ hx)
/-- a def of the head is a function's text -/
theorem fd_of {T : Tb} {tbl : Fid → Option Def} {f : Fid} {df : Def} {x qual : Str} {params : Arguments} {body : List Stmt} {scope : Scope} {fd : FuncData} {N ps : List Str} {kws : List (Str × V)} (F : FunD K x qual params body scope [] kws (He.ga K (m.f f)) fd) (e1 : tbl f = some df) (S : FnScope N ps scope)
    (e2 : df.np = ps.length) (e3 : T.ps f = ps.length) (e4 : df.ns = N.length) (e5 : ps.length ≤ N.length) (ck : ckSs T df.body ⟨N, scope, fun _ => true⟩ body = true)
    (hb : ∀ (kV doc pm : Value) (an : Option Addr) (cdv ct : Value) (us : List Value), us.length = ps.length → bindArgs (PySem.W.fnOf x qual params body scope .none kV doc pm an cdv ct) ⟨us, []⟩ = pure (ps.zip us)) : FdOk (gOf m P w K mg b) T tbl f := by
  have bd := FunD.bindsA F hb
  obtain ⟨oc, od, dV, kV, doc, pm, an, cdv, ct, osl, rfl, lk, hcd, hD, hK⟩ := F.ex
  exact ⟨df, oc, od, x, qual, params, body, scope, dV, kV, doc, pm, cdv, ct, an, osl, N, ps, e1, lk, hcd, S, e2, e3, e4, e5, ck, fun s us _ hl => bd s us hl⟩
end
end PyE
set_option maxRecDepth 100000
set_option maxHeartbeats 0
namespace PyE
open PySem

def f_is_whole : Fid := 0
def f_common_divisor : Fid := 1
def f_lowest : Fid := 2
def f_is_fraction : Fid := 3
def f_is_amount : Fid := 4
def f_plus : Fid := 5
def f_less : Fid := 6
def f_times : Fid := 7
def f_over : Fid := 8
def f_is_less : Fid := 9
def f_summed : Fid := 10
def f_are_chances : Fid := 11
def f_are_fractions : Fid := 12
def f_greatest : Fid := 13
def f_product : Fid := 14
def f_is_look_by : Fid := 15
def f_check_look : Fid := 16
def f_standings_of : Fid := 17
def f_marks_of : Fid := 18
def f_column_of : Fid := 19
def f_check_alike : Fid := 20
def f_check_two : Fid := 21
def f_is_belief_by : Fid := 22
def f_check_belief : Fid := 23
def f_is_game_by : Fid := 24
def f_check_game : Fid := 25
def f_check_mark : Fid := 26
def f_is_lot_of : Fid := 27
def f_chance_by : Fid := 28
def f_chances_by : Fid := 29
def f_chances_of : Fid := 30
def f_behind_by : Fid := 31
def f_belief_behind : Fid := 32
def f_both_by : Fid := 33
def f_both_looks : Fid := 34
def f_either_by : Fid := 35
def f_either_look : Fid := 36
def f_joined_by : Fid := 37
def f_are_parts : Fid := 38
def f_marks_joined : Fid := 39
def f_check_asked : Fid := 40
def f_weighed : Fid := 41
def f_pays_at : Fid := 42
def f_worth_by : Fid := 43
def f_worth : Fid := 44
def f__law_hash : Fid := 45
def f__law_random : Fid := 46
def f__law_cell : Fid := 47
def f__law_generator : Fid := 48
def f__law_pick : Fid := 49
def f__law_frac : Fid := 50
def f__law_add : Fid := 51
def f__law_sub : Fid := 52
def f__law_mul : Fid := 53
def f__law_below : Fid := 54
def f__law_exact : Fid := 55
def f__law_lists : Fid := 56
def f__law_chances : Fid := 57
def f__law_look : Fid := 58
def f__law_game : Fid := 59
def f__law_total : Fid := 60
def f__law_product : Fid := 61
def f__law_column : Fid := 62
def f__law_pays : Fid := 63
def f__law_greatest : Fid := 64
def f__law_worth : Fid := 65
def f__law_by_marks : Fid := 66
def f_law : Fid := 67
def b_is_whole : CS := (.cons (.ret (.and_ (.op (.isi [.tint]) (.cons (.v 0) .nil)) (.not_ (.op (.isi [.tbool]) (.cons (.v 0) .nil))))) .nil)
def df_is_whole : Def := ⟨1, 1, b_is_whole, false⟩
def b_common_divisor : CS := (.cons (.asg (.tp [0, 1]) (.op .tup (.cons (.op .abs (.cons (.v 0) .nil)) (.cons (.op .abs (.cons (.v 1) .nil)) .nil)))) (.cons (.while_ (.op .gt (.cons (.v 1) (.cons (.con (.int 0)) .nil))) (.cons (.asg (.tp [0, 1]) (.op .tup (.cons (.v 1) (.cons (.op .mod (.cons (.v 0) (.cons (.v 1) .nil))) .nil)))) .nil)) (.cons (.ret (.v 0)) .nil)))
def df_common_divisor : Def := ⟨2, 2, b_common_divisor, false⟩
def b_lowest : CS := (.cons (.if_ (.op .lt (.cons (.v 1) (.cons (.con (.int 0)) .nil))) (.cons (.asg (.tp [0, 1]) (.op .tup (.cons (.op .sub (.cons (.con (.int 0)) (.cons (.v 0) .nil))) (.cons (.op .sub (.cons (.con (.int 0)) (.cons (.v 1) .nil))) .nil)))) .nil) .nil) (.cons (.asg (.nm 2) (.call f_common_divisor [0, 1] (.cons (.v 0) (.cons (.v 1) .nil)))) (.cons (.ret (.op .tup (.cons (.op .fdiv (.cons (.v 0) (.cons (.v 2) .nil))) (.cons (.op .fdiv (.cons (.v 1) (.cons (.v 2) .nil))) .nil)))) .nil)))
def df_lowest : Def := ⟨2, 3, b_lowest, false⟩
def b_is_fraction : CS := (.cons (.if_ (.or_ (.not_ (.op (.isi [.ttuple]) (.cons (.v 0) .nil))) (.or_ (.op .ne (.cons (.op .len (.cons (.v 0) .nil)) (.cons (.con (.int 2)) .nil))) (.or_ (.not_ (.call f_is_whole [0] (.cons (.op .idx (.cons (.v 0) (.cons (.con (.int 0)) .nil))) .nil))) (.not_ (.call f_is_whole [0] (.cons (.op .idx (.cons (.v 0) (.cons (.con (.int 1)) .nil))) .nil)))))) (.cons (.ret (.con (.bl false))) .nil) .nil) (.cons (.ret (.and_ (.op .gt (.cons (.op .idx (.cons (.v 0) (.cons (.con (.int 1)) .nil))) (.cons (.con (.int 0)) .nil))) (.op .eq (.cons (.call f_common_divisor [0, 1] (.cons (.op .idx (.cons (.v 0) (.cons (.con (.int 0)) .nil))) (.cons (.op .idx (.cons (.v 0) (.cons (.con (.int 1)) .nil))) .nil))) (.cons (.con (.int 1)) .nil))))) .nil))
def df_is_fraction : Def := ⟨1, 1, b_is_fraction, false⟩
def b_is_amount : CS := (.cons (.ret (.and_ (.call f_is_fraction [0] (.cons (.v 0) .nil)) (.op .ge (.cons (.op .idx (.cons (.v 0) (.cons (.con (.int 0)) .nil))) (.cons (.con (.int 0)) .nil))))) .nil)
def df_is_amount : Def := ⟨1, 1, b_is_amount, false⟩
def b_plus : CS := (.cons (.ret (.call f_lowest [0, 1] (.cons (.op .add (.cons (.op .mul (.cons (.op .idx (.cons (.v 0) (.cons (.con (.int 0)) .nil))) (.cons (.op .idx (.cons (.v 1) (.cons (.con (.int 1)) .nil))) .nil))) (.cons (.op .mul (.cons (.op .idx (.cons (.v 1) (.cons (.con (.int 0)) .nil))) (.cons (.op .idx (.cons (.v 0) (.cons (.con (.int 1)) .nil))) .nil))) .nil))) (.cons (.op .mul (.cons (.op .idx (.cons (.v 0) (.cons (.con (.int 1)) .nil))) (.cons (.op .idx (.cons (.v 1) (.cons (.con (.int 1)) .nil))) .nil))) .nil)))) .nil)
def df_plus : Def := ⟨2, 2, b_plus, false⟩
def b_less : CS := (.cons (.ret (.call f_lowest [0, 1] (.cons (.op .sub (.cons (.op .mul (.cons (.op .idx (.cons (.v 0) (.cons (.con (.int 0)) .nil))) (.cons (.op .idx (.cons (.v 1) (.cons (.con (.int 1)) .nil))) .nil))) (.cons (.op .mul (.cons (.op .idx (.cons (.v 1) (.cons (.con (.int 0)) .nil))) (.cons (.op .idx (.cons (.v 0) (.cons (.con (.int 1)) .nil))) .nil))) .nil))) (.cons (.op .mul (.cons (.op .idx (.cons (.v 0) (.cons (.con (.int 1)) .nil))) (.cons (.op .idx (.cons (.v 1) (.cons (.con (.int 1)) .nil))) .nil))) .nil)))) .nil)
def df_less : Def := ⟨2, 2, b_less, false⟩
def b_times : CS := (.cons (.ret (.call f_lowest [0, 1] (.cons (.op .mul (.cons (.op .idx (.cons (.v 0) (.cons (.con (.int 0)) .nil))) (.cons (.op .idx (.cons (.v 1) (.cons (.con (.int 0)) .nil))) .nil))) (.cons (.op .mul (.cons (.op .idx (.cons (.v 0) (.cons (.con (.int 1)) .nil))) (.cons (.op .idx (.cons (.v 1) (.cons (.con (.int 1)) .nil))) .nil))) .nil)))) .nil)
def df_times : Def := ⟨2, 2, b_times, false⟩
def b_over : CS := (.cons (.ret (.call f_lowest [0, 1] (.cons (.op .mul (.cons (.op .idx (.cons (.v 0) (.cons (.con (.int 0)) .nil))) (.cons (.op .idx (.cons (.v 1) (.cons (.con (.int 1)) .nil))) .nil))) (.cons (.op .mul (.cons (.op .idx (.cons (.v 0) (.cons (.con (.int 1)) .nil))) (.cons (.op .idx (.cons (.v 1) (.cons (.con (.int 0)) .nil))) .nil))) .nil)))) .nil)
def df_over : Def := ⟨2, 2, b_over, false⟩
def b_is_less : CS := (.cons (.ret (.op .lt (.cons (.op .mul (.cons (.op .idx (.cons (.v 0) (.cons (.con (.int 0)) .nil))) (.cons (.op .idx (.cons (.v 1) (.cons (.con (.int 1)) .nil))) .nil))) (.cons (.op .mul (.cons (.op .idx (.cons (.v 1) (.cons (.con (.int 0)) .nil))) (.cons (.op .idx (.cons (.v 0) (.cons (.con (.int 1)) .nil))) .nil))) .nil)))) .nil)
def df_is_less : Def := ⟨2, 2, b_is_less, false⟩
def b_summed : CS := (.cons (.asg (.nm 1) (.op .tup (.cons (.con (.int 0)) (.cons (.con (.int 1)) .nil)))) (.cons (.for_ (.nm 2) (.iseq (.v 0)) (.cons (.asg (.nm 1) (.call f_plus [0, 1] (.cons (.v 1) (.cons (.v 2) .nil)))) .nil)) (.cons (.ret (.v 1)) .nil)))
def df_summed : Def := ⟨1, 3, b_summed, false⟩
def b_are_chances : CS := (.cons (.if_ (.or_ (.not_ (.op (.isi [.tlist]) (.cons (.v 0) .nil))) (.or_ (.op .ne (.cons (.op .len (.cons (.v 0) .nil)) (.cons (.v 1) .nil))) (.not_ (.op .all (.cons (.comp (.nm 2) (.iseq (.v 0)) .nil (.call f_is_amount [0] (.cons (.v 2) .nil))) .nil))))) (.cons (.ret (.con (.bl false))) .nil) .nil) (.cons (.ret (.op .eq (.cons (.call f_summed [0] (.cons (.v 0) .nil)) (.cons (.op .tup (.cons (.con (.int 1)) (.cons (.con (.int 1)) .nil))) .nil)))) .nil))
def df_are_chances : Def := ⟨2, 3, b_are_chances, false⟩
def b_are_fractions : CS := (.cons (.ret (.and_ (.op (.isi [.tlist]) (.cons (.v 0) .nil)) (.and_ (.op .eq (.cons (.op .len (.cons (.v 0) .nil)) (.cons (.v 1) .nil))) (.op .all (.cons (.comp (.nm 2) (.iseq (.v 0)) .nil (.call f_is_fraction [0] (.cons (.v 2) .nil))) .nil))))) .nil)
def df_are_fractions : Def := ⟨2, 3, b_are_fractions, false⟩
def b_greatest : CS := (.cons (.asg (.nm 1) (.op .idx (.cons (.v 0) (.cons (.con (.int 0)) .nil)))) (.cons (.for_ (.nm 2) (.iseq (.v 0)) (.cons (.asg (.nm 1) (.ite (.call f_is_less [0, 1] (.cons (.v 1) (.cons (.v 2) .nil))) (.v 2) (.v 1))) .nil)) (.cons (.ret (.v 1)) .nil)))
def df_greatest : Def := ⟨1, 3, b_greatest, false⟩
def b_product : CS := (.cons (.ret (.call f_summed [0] (.cons (.comp (.tp [2, 3]) (.izip true (.v 0) (.v 1)) .nil (.call f_times [0, 1] (.cons (.v 2) (.cons (.v 3) .nil)))) .nil))) .nil)
def df_product : Def := ⟨2, 4, b_product, false⟩
def b_is_look_by : CS := (.cons (.if_ (.or_ (.not_ (.op (.isi [.ttuple]) (.cons (.v 0) .nil))) (.or_ (.op .ne (.cons (.op .len (.cons (.v 0) .nil)) (.cons (.con (.int 2)) .nil))) (.or_ (.not_ (.op (.isi [.tstr]) (.cons (.op .idx (.cons (.v 0) (.cons (.con (.int 0)) .nil))) .nil))) (.op .ne (.cons (.op .idx (.cons (.v 0) (.cons (.con (.int 0)) .nil))) (.cons (.con (.str (PySem.Str.ofString "look"))) .nil)))))) (.cons (.ret (.con (.bl false))) .nil) .nil) (.cons (.asg (.nm 1) (.op .idx (.cons (.v 0) (.cons (.con (.int 1)) .nil)))) (.cons (.if_ (.or_ (.not_ (.op (.isi [.tlist]) (.cons (.v 1) .nil))) (.or_ (.not_ (.chain .le .le (.con (.int 1)) (.op .len (.cons (.v 1) .nil)) (.con (.int 6)))) (.not_ (.op (.isi [.tlist]) (.cons (.op .idx (.cons (.v 1) (.cons (.con (.int 0)) .nil))) .nil))))) (.cons (.ret (.con (.bl false))) .nil) .nil) (.cons (.ret (.and_ (.chain .le .le (.con (.int 1)) (.op .len (.cons (.op .idx (.cons (.v 1) (.cons (.con (.int 0)) .nil))) .nil)) (.con (.int 8))) (.op .all (.cons (.comp (.nm 2) (.iseq (.v 1)) .nil (.call f_are_chances [0, 1] (.cons (.v 2) (.cons (.op .len (.cons (.op .idx (.cons (.v 1) (.cons (.con (.int 0)) .nil))) .nil)) .nil)))) .nil)))) .nil))))
def df_is_look_by : Def := ⟨1, 3, b_is_look_by, false⟩
def b_check_look : CS := (.cons (.if_ (.not_ (.call f_is_look_by [0] (.cons (.v 0) .nil))) (.cons .bad .nil) .nil) .nil)
def df_check_look : Def := ⟨1, 1, b_check_look, false⟩
def b_standings_of : CS := (.cons (.ret (.op .len (.cons (.op .idx (.cons (.v 0) (.cons (.con (.int 1)) .nil))) .nil))) .nil)
def df_standings_of : Def := ⟨1, 1, b_standings_of, false⟩
def b_marks_of : CS := (.cons (.ret (.op .len (.cons (.op .idx (.cons (.op .idx (.cons (.v 0) (.cons (.con (.int 1)) .nil))) (.cons (.con (.int 0)) .nil))) .nil))) .nil)
def df_marks_of : Def := ⟨1, 1, b_marks_of, false⟩
def b_column_of : CS := (.cons (.ret (.comp (.nm 2) (.iseq (.op .idx (.cons (.v 0) (.cons (.con (.int 1)) .nil)))) .nil (.op .idx (.cons (.v 2) (.cons (.v 1) .nil))))) .nil)
def df_column_of : Def := ⟨2, 3, b_column_of, false⟩
def b_check_alike : CS := (.cons (.if_ (.op .ne (.cons (.call f_standings_of [0] (.cons (.v 0) .nil)) (.cons (.call f_standings_of [0] (.cons (.v 1) .nil)) .nil))) (.cons .bad .nil) .nil) .nil)
def df_check_alike : Def := ⟨2, 2, b_check_alike, false⟩
def b_check_two : CS := (.cons (.ex (.call f_check_look [0] (.cons (.v 0) .nil))) (.cons (.ex (.call f_check_look [0] (.cons (.v 1) .nil))) (.cons (.ex (.call f_check_alike [0, 1] (.cons (.v 0) (.cons (.v 1) .nil)))) .nil)))
def df_check_two : Def := ⟨2, 2, b_check_two, false⟩
def b_is_belief_by : CS := (.cons (.ret (.call f_are_chances [0, 1] (.cons (.v 1) (.cons (.call f_standings_of [0] (.cons (.v 0) .nil)) .nil)))) .nil)
def df_is_belief_by : Def := ⟨2, 2, b_is_belief_by, false⟩
def b_check_belief : CS := (.cons (.if_ (.not_ (.call f_is_belief_by [0, 1] (.cons (.v 0) (.cons (.v 1) .nil)))) (.cons .bad .nil) .nil) .nil)
def df_check_belief : Def := ⟨2, 2, b_check_belief, false⟩
def b_is_game_by : CS := (.cons (.if_ (.or_ (.not_ (.op (.isi [.ttuple]) (.cons (.v 0) .nil))) (.or_ (.op .ne (.cons (.op .len (.cons (.v 0) .nil)) (.cons (.con (.int 2)) .nil))) (.or_ (.not_ (.op (.isi [.tstr]) (.cons (.op .idx (.cons (.v 0) (.cons (.con (.int 0)) .nil))) .nil))) (.op .ne (.cons (.op .idx (.cons (.v 0) (.cons (.con (.int 0)) .nil))) (.cons (.con (.str (PySem.Str.ofString "game"))) .nil)))))) (.cons (.ret (.con (.bl false))) .nil) .nil) (.cons (.asg (.nm 1) (.op .idx (.cons (.v 0) (.cons (.con (.int 1)) .nil)))) (.cons (.if_ (.or_ (.not_ (.op (.isi [.tlist]) (.cons (.v 1) .nil))) (.or_ (.not_ (.chain .le .le (.con (.int 1)) (.op .len (.cons (.v 1) .nil)) (.con (.int 8)))) (.not_ (.op (.isi [.tlist]) (.cons (.op .idx (.cons (.v 1) (.cons (.con (.int 0)) .nil))) .nil))))) (.cons (.ret (.con (.bl false))) .nil) .nil) (.cons (.ret (.and_ (.chain .le .le (.con (.int 1)) (.op .len (.cons (.op .idx (.cons (.v 1) (.cons (.con (.int 0)) .nil))) .nil)) (.con (.int 6))) (.op .all (.cons (.comp (.nm 2) (.iseq (.v 1)) .nil (.call f_are_fractions [0, 1] (.cons (.v 2) (.cons (.op .len (.cons (.op .idx (.cons (.v 1) (.cons (.con (.int 0)) .nil))) .nil)) .nil)))) .nil)))) .nil))))
def df_is_game_by : Def := ⟨1, 3, b_is_game_by, false⟩
def b_check_game : CS := (.cons (.if_ (.not_ (.call f_is_game_by [0] (.cons (.v 1) .nil))) (.cons .bad .nil) .nil) (.cons (.if_ (.op .ne (.cons (.op .len (.cons (.op .idx (.cons (.op .idx (.cons (.v 1) (.cons (.con (.int 1)) .nil))) (.cons (.con (.int 0)) .nil))) .nil)) (.cons (.call f_standings_of [0] (.cons (.v 0) .nil)) .nil))) (.cons .bad .nil) .nil) .nil))
def df_check_game : Def := ⟨2, 2, b_check_game, false⟩
def b_check_mark : CS := (.cons (.if_ (.or_ (.not_ (.call f_is_whole [0] (.cons (.v 1) .nil))) (.not_ (.chain .le .lt (.con (.int 0)) (.v 1) (.call f_marks_of [0] (.cons (.v 0) .nil))))) (.cons .bad .nil) .nil) .nil)
def df_check_mark : Def := ⟨2, 2, b_check_mark, false⟩
def b_is_lot_of : CS := (.cons (.if_ (.or_ (.not_ (.op (.isi [.tlist]) (.cons (.v 0) .nil))) (.not_ (.op .all (.cons (.comp (.nm 3) (.iseq (.v 0)) .nil (.and_ (.call f_is_whole [0] (.cons (.v 3) .nil)) (.chain .le .lt (.con (.int 0)) (.v 3) (.v 1)))) .nil)))) (.cons (.ret (.con (.bl false))) .nil) .nil) (.cons (.ret (.op .all (.cons (.comp (.nm 2) (.irng2 (.con (.int 1)) (.op .len (.cons (.v 0) .nil))) .nil (.op .lt (.cons (.op .idx (.cons (.v 0) (.cons (.op .sub (.cons (.v 2) (.cons (.con (.int 1)) .nil))) .nil))) (.cons (.op .idx (.cons (.v 0) (.cons (.v 2) .nil))) .nil)))) .nil))) .nil))
def df_is_lot_of : Def := ⟨2, 4, b_is_lot_of, false⟩
def b_chance_by : CS := (.cons (.ret (.call f_product [0, 1] (.cons (.v 1) (.cons (.call f_column_of [0, 1] (.cons (.v 0) (.cons (.v 2) .nil))) .nil)))) .nil)
def df_chance_by : Def := ⟨3, 3, b_chance_by, false⟩
def b_chances_by : CS := (.cons (.ret (.comp (.nm 2) (.irng1 (.call f_marks_of [0] (.cons (.v 0) .nil))) .nil (.call f_chance_by [0, 1, 2] (.cons (.v 0) (.cons (.v 1) (.cons (.v 2) .nil)))))) .nil)
def df_chances_by : Def := ⟨2, 3, b_chances_by, false⟩
def b_chances_of : CS := (.cons (.ex (.call f_check_look [0] (.cons (.v 0) .nil))) (.cons (.ex (.call f_check_belief [0, 1] (.cons (.v 0) (.cons (.v 1) .nil)))) (.cons (.ret (.call f_chances_by [0, 1] (.cons (.v 0) (.cons (.v 1) .nil)))) .nil)))
def df_chances_of : Def := ⟨2, 2, b_chances_of, false⟩
def b_behind_by : CS := (.cons (.asg (.nm 3) (.comp (.tp [5, 6]) (.izip true (.v 1) (.call f_column_of [0, 1] (.cons (.v 0) (.cons (.v 2) .nil)))) .nil (.call f_times [0, 1] (.cons (.v 5) (.cons (.v 6) .nil))))) (.cons (.asg (.nm 4) (.call f_summed [0] (.cons (.v 3) .nil))) (.cons (.ret (.ite (.op .eq (.cons (.v 4) (.cons (.con (.tup [(.int 0), (.int 1)])) .nil))) (.con .none) (.comp (.nm 7) (.iseq (.v 3)) .nil (.call f_over [0, 1] (.cons (.v 7) (.cons (.v 4) .nil)))))) .nil)))
def df_behind_by : Def := ⟨3, 8, b_behind_by, false⟩
def b_belief_behind : CS := (.cons (.ex (.call f_check_look [0] (.cons (.v 0) .nil))) (.cons (.ex (.call f_check_belief [0, 1] (.cons (.v 0) (.cons (.v 1) .nil)))) (.cons (.ex (.call f_check_mark [0, 1] (.cons (.v 0) (.cons (.v 2) .nil)))) (.cons (.ret (.call f_behind_by [0, 1, 2] (.cons (.v 0) (.cons (.v 1) (.cons (.v 2) .nil))))) .nil))))
def df_belief_behind : Def := ⟨3, 3, b_belief_behind, false⟩
def b_both_by : CS := (.cons (.asg (.nm 2) (.cell (.op .lst .nil))) (.cons (.for_ (.tp [3, 4]) (.izip true (.op .idx (.cons (.v 0) (.cons (.con (.int 1)) .nil))) (.op .idx (.cons (.v 1) (.cons (.con (.int 1)) .nil)))) (.cons (.ex (.mop .append (.v 2) (.cons (.comp2 (.nm 5) (.iseq (.v 3)) (.nm 6) (.iseq (.v 4)) .nil (.call f_times [0, 1] (.cons (.v 5) (.cons (.v 6) .nil)))) .nil))) .nil)) (.cons (.ret (.op .tup (.cons (.con (.str (PySem.Str.ofString "look"))) (.cons (.v 2) .nil)))) .nil)))
def df_both_by : Def := ⟨2, 7, b_both_by, false⟩
def b_both_looks : CS := (.cons (.ex (.call f_check_two [0, 1] (.cons (.v 0) (.cons (.v 1) .nil)))) (.cons (.asg (.nm 2) (.op .mul (.cons (.call f_marks_of [0] (.cons (.v 0) .nil)) (.cons (.call f_marks_of [0] (.cons (.v 1) .nil)) .nil)))) (.cons (.if_ (.op .gt (.cons (.v 2) (.cons (.con (.int 8)) .nil))) (.cons .bad .nil) .nil) (.cons (.ret (.call f_both_by [0, 1] (.cons (.v 0) (.cons (.v 1) .nil)))) .nil))))
def df_both_looks : Def := ⟨2, 3, b_both_looks, false⟩
def b_either_by : CS := (.cons (.asg (.tp [3, 4]) (.op .tup (.cons (.call f_less [0, 1] (.cons (.con (.tup [(.int 1), (.int 1)])) (.cons (.v 2) .nil))) (.cons (.cell (.op .lst .nil)) .nil)))) (.cons (.for_ (.tp [5, 6]) (.izip true (.op .idx (.cons (.v 0) (.cons (.con (.int 1)) .nil))) (.op .idx (.cons (.v 1) (.cons (.con (.int 1)) .nil)))) (.cons (.ex (.mop .append (.v 4) (.cons (.op .add (.cons (.comp (.nm 7) (.iseq (.v 5)) .nil (.call f_times [0, 1] (.cons (.v 2) (.cons (.v 7) .nil)))) (.cons (.comp (.nm 8) (.iseq (.v 6)) .nil (.call f_times [0, 1] (.cons (.v 3) (.cons (.v 8) .nil)))) .nil))) .nil))) .nil)) (.cons (.ret (.op .tup (.cons (.con (.str (PySem.Str.ofString "look"))) (.cons (.v 4) .nil)))) .nil)))
def df_either_by : Def := ⟨3, 9, b_either_by, false⟩
def b_either_look : CS := (.cons (.ex (.call f_check_two [0, 1] (.cons (.v 0) (.cons (.v 1) .nil)))) (.cons (.if_ (.or_ (.not_ (.call f_is_amount [0] (.cons (.v 2) .nil))) (.call f_is_less [0, 1] (.cons (.con (.tup [(.int 1), (.int 1)])) (.cons (.v 2) .nil)))) (.cons .bad .nil) .nil) (.cons (.asg (.nm 3) (.op .add (.cons (.call f_marks_of [0] (.cons (.v 0) .nil)) (.cons (.call f_marks_of [0] (.cons (.v 1) .nil)) .nil)))) (.cons (.if_ (.op .gt (.cons (.v 3) (.cons (.con (.int 8)) .nil))) (.cons .bad .nil) .nil) (.cons (.ret (.call f_either_by [0, 1, 2] (.cons (.v 0) (.cons (.v 1) (.cons (.v 2) .nil))))) .nil)))))
def df_either_look : Def := ⟨3, 4, b_either_look, false⟩
def b_joined_by : CS := (.cons (.asg (.nm 2) (.cell (.op .lst .nil))) (.cons (.for_ (.nm 3) (.iseq (.op .idx (.cons (.v 0) (.cons (.con (.int 1)) .nil)))) (.cons (.asg (.nm 4) (.cell (.op .lst .nil))) (.cons (.for_ (.nm 5) (.iseq (.v 1)) (.cons (.asg (.nm 6) (.con (.tup [(.int 0), (.int 1)]))) (.cons (.for_ (.nm 7) (.iseq (.v 5)) (.cons (.asg (.nm 6) (.call f_plus [0, 1] (.cons (.v 6) (.cons (.op .idx (.cons (.v 3) (.cons (.v 7) .nil))) .nil)))) .nil)) (.cons (.ex (.mop .append (.v 4) (.cons (.v 6) .nil))) .nil)))) (.cons (.ex (.mop .append (.v 2) (.cons (.v 4) .nil))) .nil)))) (.cons (.ret (.op .tup (.cons (.con (.str (PySem.Str.ofString "look"))) (.cons (.v 2) .nil)))) .nil)))
def df_joined_by : Def := ⟨2, 8, b_joined_by, false⟩
def b_are_parts : CS := (.cons (.if_ (.or_ (.not_ (.op (.isi [.tlist]) (.cons (.v 0) .nil))) (.not_ (.op .all (.cons (.comp (.nm 2) (.iseq (.v 0)) .nil (.and_ (.call f_is_lot_of [0, 1] (.cons (.v 2) (.cons (.v 1) .nil))) (.op .ne (.cons (.v 2) (.cons (.op .lst .nil) .nil))))) .nil)))) (.cons (.ret (.con (.bl false))) .nil) .nil) (.cons (.ret (.op .eq (.cons (.op .sorted (.cons (.op .sum2 (.cons (.v 0) (.cons (.op .lst .nil) .nil))) .nil)) (.cons (.op .lrange (.cons (.v 1) .nil)) .nil)))) .nil))
def df_are_parts : Def := ⟨2, 3, b_are_parts, false⟩
def b_marks_joined : CS := (.cons (.ex (.call f_check_look [0] (.cons (.v 0) .nil))) (.cons (.if_ (.not_ (.call f_are_parts [0, 1] (.cons (.v 1) (.cons (.call f_marks_of [0] (.cons (.v 0) .nil)) .nil)))) (.cons .bad .nil) .nil) (.cons (.ret (.call f_joined_by [0, 1] (.cons (.v 0) (.cons (.v 1) .nil)))) .nil)))
def df_marks_joined : Def := ⟨2, 2, b_marks_joined, false⟩
def b_check_asked : CS := (.cons (.ex (.call f_check_look [0] (.cons (.v 0) .nil))) (.cons (.ex (.call f_check_belief [0, 1] (.cons (.v 0) (.cons (.v 1) .nil)))) (.cons (.ex (.call f_check_game [0, 1] (.cons (.v 0) (.cons (.v 2) .nil)))) .nil)))
def df_check_asked : Def := ⟨3, 3, b_check_asked, false⟩
def b_weighed : CS := (.cons (.ret (.comp (.tp [3, 4]) (.izip true (.v 1) (.call f_column_of [0, 1] (.cons (.v 0) (.cons (.v 2) .nil)))) .nil (.call f_times [0, 1] (.cons (.v 3) (.cons (.v 4) .nil))))) .nil)
def df_weighed : Def := ⟨3, 5, b_weighed, false⟩
def b_pays_at : CS := (.cons (.asg (.nm 4) (.call f_weighed [0, 1, 2] (.cons (.v 0) (.cons (.v 1) (.cons (.v 3) .nil))))) (.cons (.ret (.comp (.nm 5) (.iseq (.op .idx (.cons (.v 2) (.cons (.con (.int 1)) .nil)))) .nil (.call f_product [0, 1] (.cons (.v 4) (.cons (.v 5) .nil))))) .nil))
def df_pays_at : Def := ⟨4, 6, b_pays_at, false⟩
def b_worth_by : CS := (.cons (.ret (.call f_summed [0] (.cons (.comp (.nm 3) (.irng1 (.call f_marks_of [0] (.cons (.v 0) .nil))) .nil (.call f_greatest [0] (.cons (.call f_pays_at [0, 1, 2, 3] (.cons (.v 0) (.cons (.v 1) (.cons (.v 2) (.cons (.v 3) .nil))))) .nil))) .nil))) .nil)
def df_worth_by : Def := ⟨3, 4, b_worth_by, false⟩
def b_worth : CS := (.cons (.ex (.call f_check_asked [0, 1, 2] (.cons (.v 0) (.cons (.v 1) (.cons (.v 2) .nil))))) (.cons (.ret (.call f_worth_by [0, 1, 2] (.cons (.v 0) (.cons (.v 1) (.cons (.v 2) .nil))))) .nil))
def df_worth : Def := ⟨3, 3, b_worth, false⟩
def b__law_hash : CS := (.cons (.asg (.nm 2) (.op .mod (.cons (.op .int_ (.cons (.op .add (.cons (.op .add (.cons (.op .add (.cons (.op .mul (.cons (.v 0) (.cons (.con (.int 1220147)) .nil))) (.cons (.op .mul (.cons (.op .mul (.cons (.con (.int 16777903)) (.cons (.v 1) .nil))) (.cons (.v 1) .nil))) .nil))) (.cons (.op .mul (.cons (.con (.int 223)) (.cons (.v 1) .nil))) .nil))) (.cons (.con (.int 97)) .nil))) .nil)) (.cons (.con (.int 2147483629)) .nil)))) (.cons (.asg (.nm 2) (.op .mod (.cons (.op .int_ (.cons (.op .add (.cons (.op .add (.cons (.op .mul (.cons (.v 2) (.cons (.v 2) .nil))) (.cons (.op .mul (.cons (.con (.int 69019)) (.cons (.v 1) .nil))) .nil))) (.cons (.con (.int 32416187)) .nil))) .nil)) (.cons (.con (.int 2147483587)) .nil)))) (.cons (.ret (.op .mod (.cons (.op .int_ (.cons (.op .mul (.cons (.v 2) (.cons (.con (.int 48271)) .nil))) .nil)) (.cons (.con (.int 2147483647)) .nil)))) .nil)))
def df__law_hash : Def := ⟨2, 3, b__law_hash, false⟩
def b__law_random : CS := (.cons (.if_ (.op .gt (.cons (.op .idx (.cons (.v 0) (.cons (.con (.int 0)) .nil))) (.cons (.con (.int 0)) .nil))) (.cons (.asg (.nm 2) (.op .mod (.cons (.op .int_ (.cons (.op .idx (.cons (.v 0) (.cons (.con (.int 0)) .nil))) .nil)) (.cons (.v 1) .nil)))) (.cons (.sub (.v 0) (.con (.int 0)) (.op .fdiv (.cons (.op .idx (.cons (.v 0) (.cons (.con (.int 0)) .nil))) (.cons (.v 1) .nil)))) (.cons (.ret (.v 2)) .nil))) .nil) (.cons (.asg (.nm 2) (.con (.int 0))) (.cons (.for_ (.nm 3) (.irng1 (.op .add (.cons (.con (.int 1)) (.cons (.op .fdiv (.cons (.op .bitlen (.cons (.v 1) .nil)) (.cons (.con (.int 30)) .nil))) .nil)))) (.cons (.sub (.v 0) (.con (.int 2)) (.op .add (.cons (.op .idx (.cons (.v 0) (.cons (.con (.int 2)) .nil))) (.cons (.con (.int 1)) .nil)))) (.cons (.asg (.nm 2) (.op .add (.cons (.op .mul (.cons (.v 2) (.cons (.con (.int 2147483587)) .nil))) (.cons (.call f__law_hash [0, 1] (.cons (.op .idx (.cons (.v 0) (.cons (.con (.int 1)) .nil))) (.cons (.op .idx (.cons (.v 0) (.cons (.con (.int 2)) .nil))) .nil))) .nil)))) .nil))) (.cons (.ret (.op .mod (.cons (.op .int_ (.cons (.v 2) .nil)) (.cons (.v 1) .nil)))) .nil))))
def df__law_random : Def := ⟨2, 4, b__law_random, false⟩
def b__law_cell : CS := (.cons (.if_ (.op .lt (.cons (.v 1) (.cons (.op .len (.cons (.v 0) .nil)) .nil))) (.cons (.ret (.op .idx (.cons (.v 0) (.cons (.v 1) .nil)))) .nil) .nil) (.cons (.ret (.op .mod (.cons (.op .sum1 (.cons (.op (.slc false true) (.cons (.v 0) (.cons (.con (.int 1)) .nil))) .nil)) (.cons (.con (.int 1000003)) .nil)))) .nil))
def df__law_cell : Def := ⟨2, 2, b__law_cell, false⟩
def b__law_generator : CS := (.cons (.asg (.nm 2) (.call f__law_cell [0, 1] (.cons (.v 0) (.cons (.v 1) .nil)))) (.cons (.ret (.cell (.op .lst (.cons (.op .mod (.cons (.op .int_ (.cons (.op .max2 (.cons (.op .sub (.cons (.v 2) (.cons (.op .pow (.cons (.con (.int 10)) (.cons (.con (.int 18)) .nil))) .nil))) (.cons (.con (.int 0)) .nil))) .nil)) (.cons (.op .pow (.cons (.op .pow (.cons (.con (.int 10)) (.cons (.con (.int 60)) .nil))) (.cons (.con (.int 10)) .nil))) .nil))) (.cons (.op .mod (.cons (.op .int_ (.cons (.v 2) .nil)) (.cons (.con (.int 2147483647)) .nil))) (.cons (.op .mul (.cons (.con (.int 1000)) (.cons (.v 1) .nil))) .nil)))))) .nil))
def df__law_generator : Def := ⟨2, 3, b__law_generator, true⟩
def b__law_pick : CS := (.cons (.ret (.op .idx (.cons (.v 1) (.cons (.call f__law_random [0, 1] (.cons (.v 0) (.cons (.op .len (.cons (.v 1) .nil)) .nil))) .nil)))) .nil)
def df__law_pick : Def := ⟨2, 2, b__law_pick, false⟩
def b__law_frac : CS := (.cons (.asg (.tp [2, 3]) (.op .tup (.cons (.v 1) (.cons (.op .abs (.cons (.v 0) .nil)) .nil)))) (.cons (.while_ (.op .gt (.cons (.v 3) (.cons (.con (.int 0)) .nil))) (.cons (.asg (.tp [2, 3]) (.op .tup (.cons (.v 3) (.cons (.op .mod (.cons (.op .int_ (.cons (.v 2) .nil)) (.cons (.v 3) .nil))) .nil)))) .nil)) (.cons (.ret (.op .tup (.cons (.op .fdiv (.cons (.v 0) (.cons (.v 2) .nil))) (.cons (.op .fdiv (.cons (.v 1) (.cons (.v 2) .nil))) .nil)))) .nil)))
def df__law_frac : Def := ⟨2, 4, b__law_frac, false⟩
def b__law_add : CS := (.cons (.ret (.call f__law_frac [0, 1] (.cons (.op .add (.cons (.op .mul (.cons (.op .idx (.cons (.v 0) (.cons (.con (.int 0)) .nil))) (.cons (.op .idx (.cons (.v 1) (.cons (.con (.int 1)) .nil))) .nil))) (.cons (.op .mul (.cons (.op .idx (.cons (.v 1) (.cons (.con (.int 0)) .nil))) (.cons (.op .idx (.cons (.v 0) (.cons (.con (.int 1)) .nil))) .nil))) .nil))) (.cons (.op .mul (.cons (.op .idx (.cons (.v 0) (.cons (.con (.int 1)) .nil))) (.cons (.op .idx (.cons (.v 1) (.cons (.con (.int 1)) .nil))) .nil))) .nil)))) .nil)
def df__law_add : Def := ⟨2, 2, b__law_add, false⟩
def b__law_sub : CS := (.cons (.ret (.call f__law_frac [0, 1] (.cons (.op .sub (.cons (.op .mul (.cons (.op .idx (.cons (.v 0) (.cons (.con (.int 0)) .nil))) (.cons (.op .idx (.cons (.v 1) (.cons (.con (.int 1)) .nil))) .nil))) (.cons (.op .mul (.cons (.op .idx (.cons (.v 1) (.cons (.con (.int 0)) .nil))) (.cons (.op .idx (.cons (.v 0) (.cons (.con (.int 1)) .nil))) .nil))) .nil))) (.cons (.op .mul (.cons (.op .idx (.cons (.v 0) (.cons (.con (.int 1)) .nil))) (.cons (.op .idx (.cons (.v 1) (.cons (.con (.int 1)) .nil))) .nil))) .nil)))) .nil)
def df__law_sub : Def := ⟨2, 2, b__law_sub, false⟩
def b__law_mul : CS := (.cons (.ret (.call f__law_frac [0, 1] (.cons (.op .mul (.cons (.op .idx (.cons (.v 0) (.cons (.con (.int 0)) .nil))) (.cons (.op .idx (.cons (.v 1) (.cons (.con (.int 0)) .nil))) .nil))) (.cons (.op .mul (.cons (.op .idx (.cons (.v 0) (.cons (.con (.int 1)) .nil))) (.cons (.op .idx (.cons (.v 1) (.cons (.con (.int 1)) .nil))) .nil))) .nil)))) .nil)
def df__law_mul : Def := ⟨2, 2, b__law_mul, false⟩
def b__law_below : CS := (.cons (.ret (.op .lt (.cons (.op .mul (.cons (.op .idx (.cons (.v 0) (.cons (.con (.int 0)) .nil))) (.cons (.op .idx (.cons (.v 1) (.cons (.con (.int 1)) .nil))) .nil))) (.cons (.op .mul (.cons (.op .idx (.cons (.v 1) (.cons (.con (.int 0)) .nil))) (.cons (.op .idx (.cons (.v 0) (.cons (.con (.int 1)) .nil))) .nil))) .nil)))) .nil)
def df__law_below : Def := ⟨2, 2, b__law_below, false⟩
def b__law_exact : CS := (.cons (.if_ (.op (.isi [.tlist, .ttuple]) (.cons (.v 0) .nil)) (.cons (.if_ (.or_ (.op .ne (.cons (.op (.isi [.tlist]) (.cons (.v 0) .nil)) (.cons (.op (.isi [.tlist]) (.cons (.v 1) .nil)) .nil))) (.op .ne (.cons (.op (.isi [.ttuple]) (.cons (.v 0) .nil)) (.cons (.op (.isi [.ttuple]) (.cons (.v 1) .nil)) .nil)))) (.cons (.ret (.con (.bl false))) .nil) .nil) (.cons (.ret (.and_ (.op .eq (.cons (.op .len (.cons (.v 1) .nil)) (.cons (.op .len (.cons (.v 0) .nil)) .nil))) (.op .eq (.cons (.comp (.nm 2) (.irng1 (.op .len (.cons (.v 0) .nil))) (.cons (.not_ (.call f__law_exact [0, 1] (.cons (.op .idx (.cons (.v 0) (.cons (.v 2) .nil))) (.cons (.op .idx (.cons (.v 1) (.cons (.v 2) .nil))) .nil)))) .nil) (.v 2)) (.cons (.op .lst .nil) .nil))))) .nil)) .nil) (.cons (.if_ (.or_ (.op .isn (.cons (.v 0) .nil)) (.op (.isi [.tbool]) (.cons (.v 0) .nil))) (.cons (.ret (.or_ (.and_ (.op .isn (.cons (.v 0) .nil)) (.op .isn (.cons (.v 1) .nil))) (.or_ (.and_ (.op (.isb true) (.cons (.v 0) .nil)) (.op (.isb true) (.cons (.v 1) .nil))) (.and_ (.op (.isb false) (.cons (.v 0) .nil)) (.op (.isb false) (.cons (.v 1) .nil)))))) .nil) .nil) (.cons (.if_ (.op (.isi [.tstr]) (.cons (.v 0) .nil)) (.cons (.ret (.and_ (.op (.isi [.tstr]) (.cons (.v 1) .nil)) (.op .eq (.cons (.v 1) (.cons (.v 0) .nil))))) .nil) .nil) (.cons (.ret (.and_ (.op (.isi [.tint]) (.cons (.v 1) .nil)) (.and_ (.not_ (.op (.isi [.tbool]) (.cons (.v 1) .nil))) (.op .eq (.cons (.v 1) (.cons (.v 0) .nil)))))) .nil))))
def df__law_exact : Def := ⟨2, 3, b__law_exact, false⟩
def b__law_lists : CS := (.cons (.asg (.nm 1) (.ite (.op (.isi [.tlist]) (.cons (.v 0) .nil)) (.op .lst (.cons (.v 0) .nil)) (.op .lst .nil))) (.cons (.for_ (.nm 2) (.iseq (.ite (.op (.isi [.tlist, .ttuple]) (.cons (.v 0) .nil)) (.v 0) (.op .lst .nil))) (.cons (.asg (.nm 1) (.op .add (.cons (.v 1) (.cons (.call f__law_lists [0] (.cons (.v 2) .nil)) .nil)))) .nil)) (.cons (.ret (.v 1)) .nil)))
def df__law_lists : Def := ⟨1, 3, b__law_lists, false⟩
def b__law_chances : CS := (.cons (.asg (.nm 2) (.comp (.nm 4) (.irng1 (.v 1)) .nil (.call f__law_pick [0, 1] (.cons (.v 0) (.cons (.op .lst (.cons (.con (.int 0)) (.cons (.con (.int 1)) (.cons (.con (.int 1)) (.cons (.con (.int 2)) (.cons (.con (.int 3)) .nil)))))) .nil))))) (.cons (.asg (.nm 3) (.op .sum1 (.cons (.v 2) .nil))) (.cons (.ret (.ite (.op .gt (.cons (.v 3) (.cons (.con (.int 0)) .nil))) (.comp (.nm 5) (.iseq (.v 2)) .nil (.call f__law_frac [0, 1] (.cons (.v 5) (.cons (.v 3) .nil)))) (.op .add (.cons (.op .lst (.cons (.op .tup (.cons (.con (.int 1)) (.cons (.con (.int 1)) .nil))) .nil)) (.cons (.op .mul (.cons (.op .lst (.cons (.op .tup (.cons (.con (.int 0)) (.cons (.con (.int 1)) .nil))) .nil)) (.cons (.op .sub (.cons (.v 1) (.cons (.con (.int 1)) .nil))) .nil))) .nil))))) .nil)))
def df__law_chances : Def := ⟨2, 6, b__law_chances, false⟩
def b__law_look : CS := (.cons (.ret (.op .tup (.cons (.con (.str (PySem.Str.ofString "look"))) (.cons (.comp (.nm 3) (.irng1 (.v 1)) .nil (.call f__law_chances [0, 1] (.cons (.v 0) (.cons (.v 2) .nil)))) .nil)))) .nil)
def df__law_look : Def := ⟨3, 4, b__law_look, false⟩
def b__law_game : CS := (.cons (.ret (.op .tup (.cons (.con (.str (PySem.Str.ofString "game"))) (.cons (.comp (.nm 3) (.irng1 (.v 2)) .nil (.comp (.nm 4) (.irng1 (.v 1)) .nil (.call f__law_frac [0, 1] (.cons (.op .sub (.cons (.call f__law_random [0, 1] (.cons (.v 0) (.cons (.con (.int 9)) .nil))) (.cons (.con (.int 4)) .nil))) (.cons (.op .add (.cons (.con (.int 1)) (.cons (.call f__law_random [0, 1] (.cons (.v 0) (.cons (.con (.int 2)) .nil))) .nil))) .nil))))) .nil)))) .nil)
def df__law_game : Def := ⟨3, 5, b__law_game, false⟩
def b__law_total : CS := (.cons (.asg (.nm 1) (.op .tup (.cons (.con (.int 0)) (.cons (.con (.int 1)) .nil)))) (.cons (.for_ (.nm 2) (.iseq (.v 0)) (.cons (.asg (.nm 1) (.call f__law_add [0, 1] (.cons (.v 1) (.cons (.v 2) .nil)))) .nil)) (.cons (.ret (.v 1)) .nil)))
def df__law_total : Def := ⟨1, 3, b__law_total, false⟩
def b__law_product : CS := (.cons (.ret (.call f__law_total [0] (.cons (.comp (.tp [2, 3]) (.izip false (.v 0) (.v 1)) .nil (.call f__law_mul [0, 1] (.cons (.v 2) (.cons (.v 3) .nil)))) .nil))) .nil)
def df__law_product : Def := ⟨2, 4, b__law_product, false⟩
def b__law_column : CS := (.cons (.ret (.comp (.nm 2) (.iseq (.op .idx (.cons (.v 0) (.cons (.con (.int 1)) .nil)))) .nil (.op .idx (.cons (.v 2) (.cons (.v 1) .nil))))) .nil)
def df__law_column : Def := ⟨2, 3, b__law_column, false⟩
def b__law_pays : CS := (.cons (.asg (.nm 4) (.comp (.tp [6, 7]) (.izip false (.v 1) (.call f__law_column [0, 1] (.cons (.v 0) (.cons (.v 3) .nil)))) .nil (.call f__law_mul [0, 1] (.cons (.v 6) (.cons (.v 7) .nil))))) (.cons (.ret (.comp (.nm 5) (.iseq (.op .idx (.cons (.v 2) (.cons (.con (.int 1)) .nil)))) .nil (.call f__law_product [0, 1] (.cons (.v 4) (.cons (.v 5) .nil))))) .nil))
def df__law_pays : Def := ⟨4, 8, b__law_pays, false⟩
def b__law_greatest : CS := (.cons (.asg (.nm 1) (.op .idx (.cons (.v 0) (.cons (.con (.int 0)) .nil)))) (.cons (.for_ (.nm 2) (.iseq (.v 0)) (.cons (.asg (.nm 1) (.ite (.call f__law_below [0, 1] (.cons (.v 1) (.cons (.v 2) .nil))) (.v 2) (.v 1))) .nil)) (.cons (.ret (.v 1)) .nil)))
def df__law_greatest : Def := ⟨1, 3, b__law_greatest, false⟩
def b__law_worth : CS := (.cons (.ret (.call f__law_total [0] (.cons (.comp (.nm 3) (.irng1 (.op .len (.cons (.op .idx (.cons (.op .idx (.cons (.v 0) (.cons (.con (.int 1)) .nil))) (.cons (.con (.int 0)) .nil))) .nil))) .nil (.call f__law_greatest [0] (.cons (.call f__law_pays [0, 1, 2, 3] (.cons (.v 0) (.cons (.v 1) (.cons (.v 2) (.cons (.v 3) .nil))))) .nil))) .nil))) .nil)
def df__law_worth : Def := ⟨3, 4, b__law_worth, false⟩
def b__law_by_marks : CS := (.cons (.asg (.nm 4) (.op .tup (.cons (.con (.int 0)) (.cons (.con (.int 1)) .nil)))) (.cons (.for_ (.tp [5, 6]) (.ienum (.call f_chances_of [0, 1] (.cons (.v 0) (.cons (.v 1) .nil)))) (.cons (.asg (.nm 7) (.call f_belief_behind [0, 1, 2] (.cons (.v 0) (.cons (.v 1) (.cons (.v 5) .nil))))) (.cons (.if_ (.op .notn (.cons (.v 7) .nil)) (.cons (.asg (.nm 4) (.call f__law_add [0, 1] (.cons (.v 4) (.cons (.call f__law_mul [0, 1] (.cons (.v 6) (.cons (.call f_worth [0, 1, 2] (.cons (.v 3) (.cons (.v 7) (.cons (.v 2) .nil)))) .nil))) .nil)))) .nil) .nil) .nil))) (.cons (.ret (.v 4)) .nil)))
def df__law_by_marks : Def := ⟨4, 8, b__law_by_marks, false⟩
def b_law : CS := (.cons (.for_ (.nm 1) (.irng1 (.con (.int 4))) (.cons (.asg (.nm 2) (.call f__law_generator [0, 1] (.cons (.v 0) (.cons (.v 1) .nil)))) (.cons (.asg (.nm 3) (.op .add (.cons (.con (.int 1)) (.cons (.call f__law_random [0, 1] (.cons (.v 2) (.cons (.con (.int 4)) .nil))) .nil)))) (.cons (.asg (.tp [8, 9]) (.op .tup (.cons (.call f__law_look [0, 1, 2] (.cons (.v 2) (.cons (.v 3) (.cons (.op .add (.cons (.con (.int 1)) (.cons (.call f__law_random [0, 1] (.cons (.v 2) (.cons (.con (.int 2)) .nil))) .nil))) .nil)))) (.cons (.call f__law_look [0, 1, 2] (.cons (.v 2) (.cons (.v 3) (.cons (.op .add (.cons (.con (.int 1)) (.cons (.call f__law_random [0, 1] (.cons (.v 2) (.cons (.con (.int 3)) .nil))) .nil))) .nil)))) .nil)))) (.cons (.asg (.tp [10, 11]) (.op .tup (.cons (.call f__law_game [0, 1, 2] (.cons (.v 2) (.cons (.v 3) (.cons (.op .add (.cons (.con (.int 1)) (.cons (.call f__law_random [0, 1] (.cons (.v 2) (.cons (.con (.int 4)) .nil))) .nil))) .nil)))) (.cons (.call f__law_chances [0, 1] (.cons (.v 2) (.cons (.v 3) .nil))) .nil)))) (.cons (.asg (.nm 4) (.call f__law_frac [0, 1] (.cons (.call f__law_random [0, 1] (.cons (.v 2) (.cons (.con (.int 4)) .nil))) (.cons (.con (.int 3)) .nil)))) (.cons (.asg (.tp [12, 13, 14]) (.op .tup (.cons (.call f_worth [0, 1, 2] (.cons (.v 8) (.cons (.v 11) (.cons (.v 10) .nil)))) (.cons (.call f_worth [0, 1, 2] (.cons (.v 9) (.cons (.v 11) (.cons (.v 10) .nil)))) (.cons (.call f_worth [0, 1, 2] (.cons (.call f_both_looks [0, 1] (.cons (.v 8) (.cons (.v 9) .nil))) (.cons (.v 11) (.cons (.v 10) .nil)))) .nil))))) (.cons (.asg (.nm 5) (.call f__law_add [0, 1] (.cons (.call f__law_mul [0, 1] (.cons (.v 4) (.cons (.v 12) .nil))) (.cons (.call f__law_mul [0, 1] (.cons (.call f__law_sub [0, 1] (.cons (.op .tup (.cons (.con (.int 1)) (.cons (.con (.int 1)) .nil))) (.cons (.v 4) .nil))) (.cons (.v 13) .nil))) .nil)))) (.cons (.if_ (.not_ (.call f__law_exact [0, 1] (.cons (.op .lst (.cons (.v 5) (.cons (.call f__law_worth [0, 1, 2] (.cons (.v 8) (.cons (.v 11) (.cons (.v 10) .nil)))) .nil))) (.cons (.op .lst (.cons (.call f_worth [0, 1, 2] (.cons (.call f_either_look [0, 1, 2] (.cons (.v 8) (.cons (.v 9) (.cons (.v 4) .nil)))) (.cons (.v 11) (.cons (.v 10) .nil)))) (.cons (.v 12) .nil))) .nil)))) (.cons (.ret (.con (.bl false))) .nil) .nil) (.cons (.asg (.nm 6) (.op .tup (.cons (.con (.str (PySem.Str.ofString "look"))) (.cons (.op .mul (.cons (.op .lst (.cons (.op .lst (.cons (.op .tup (.cons (.con (.int 1)) (.cons (.con (.int 1)) .nil))) .nil)) .nil)) (.cons (.v 3) .nil))) .nil)))) (.cons (.if_ (.or_ (.not_ (.call f__law_exact [0, 1] (.cons (.op .lst (.cons (.v 14) (.cons (.v 12) .nil))) (.cons (.op .lst (.cons (.call f__law_by_marks [0, 1, 2, 3] (.cons (.v 8) (.cons (.v 11) (.cons (.v 10) (.cons (.v 9) .nil))))) (.cons (.call f__law_by_marks [0, 1, 2, 3] (.cons (.v 8) (.cons (.v 11) (.cons (.v 10) (.cons (.v 6) .nil))))) .nil))) .nil)))) (.or_ (.call f__law_below [0, 1] (.cons (.v 14) (.cons (.v 12) .nil))) (.call f__law_below [0, 1] (.cons (.v 14) (.cons (.v 13) .nil))))) (.cons (.ret (.con (.bl false))) .nil) .nil) (.cons (.asg (.nm 7) (.ite (.op .gt (.cons (.op .len (.cons (.op .idx (.cons (.op .idx (.cons (.v 9) (.cons (.con (.int 1)) .nil))) (.cons (.con (.int 0)) .nil))) .nil)) (.cons (.con (.int 1)) .nil))) (.op .add (.cons (.op .lst (.cons (.op .lst (.cons (.con (.int 0)) .nil)) .nil)) (.cons (.op .lst (.cons (.comp (.nm 15) (.irng2 (.con (.int 1)) (.op .len (.cons (.op .idx (.cons (.op .idx (.cons (.v 9) (.cons (.con (.int 1)) .nil))) (.cons (.con (.int 0)) .nil))) .nil))) .nil (.v 15)) .nil)) .nil))) (.op .lst (.cons (.op .lst (.cons (.con (.int 0)) .nil)) .nil)))) (.cons (.if_ (.call f__law_below [0, 1] (.cons (.v 13) (.cons (.call f_worth [0, 1, 2] (.cons (.call f_marks_joined [0, 1] (.cons (.v 9) (.cons (.v 7) .nil))) (.cons (.v 11) (.cons (.v 10) .nil)))) .nil))) (.cons (.ret (.con (.bl false))) .nil) .nil) .nil))))))))))))) (.cons (.ret (.con (.bl true))) .nil))
def df_law : Def := ⟨1, 16, b_law, false⟩
def dfL0 : List Def := [df_is_whole, df_common_divisor, df_lowest, df_is_fraction, df_is_amount, df_plus, df_less, df_times, df_over, df_is_less, df_summed, df_are_chances, df_are_fractions, df_greatest, df_product]
def dfL1 : List Def := [df_is_look_by, df_check_look, df_standings_of, df_marks_of, df_column_of, df_check_alike, df_check_two, df_is_belief_by, df_check_belief, df_is_game_by, df_check_game, df_check_mark, df_is_lot_of, df_chance_by, df_chances_by]
def dfL2 : List Def := [df_chances_of, df_behind_by, df_belief_behind, df_both_by, df_both_looks, df_either_by, df_either_look, df_joined_by, df_are_parts, df_marks_joined, df_check_asked, df_weighed, df_pays_at, df_worth_by, df_worth]
def dfL3 : List Def := [df__law_hash, df__law_random, df__law_cell, df__law_generator, df__law_pick, df__law_frac, df__law_add, df__law_sub, df__law_mul, df__law_below, df__law_exact, df__law_lists, df__law_chances, df__law_look, df__law_game]
def dfL4 : List Def := [df__law_total, df__law_product, df__law_column, df__law_pays, df__law_greatest, df__law_worth, df__law_by_marks, df_law]
def dfL : List Def := dfL0 ++ dfL1 ++ dfL2 ++ dfL3 ++ dfL4
def tbl : Fid → Option Def := fun i => dfL[i]?
def subL : List (Nat × Nat) := [(0, 0), (1, 0), (1, 1), (2, 0), (2, 2), (3, 0), (3, 3), (4, 0), (4, 4), (5, 5), (5, 0), (6, 0), (6, 6), (7, 7), (7, 0), (8, 0), (8, 8)]
def C : Cfg := ⟨fun i j => subL.contains (i, j), 16777216⟩
theorem run_is_whole (k : Nat) (ds : List D) (μ : Mu) : run C tbl (k + 1) f_is_whole ds μ = call1 C (run C tbl k) df_is_whole ds μ := rfl
theorem run_common_divisor (k : Nat) (ds : List D) (μ : Mu) : run C tbl (k + 1) f_common_divisor ds μ = call1 C (run C tbl k) df_common_divisor ds μ := rfl
theorem run_lowest (k : Nat) (ds : List D) (μ : Mu) : run C tbl (k + 1) f_lowest ds μ = call1 C (run C tbl k) df_lowest ds μ := rfl
theorem run_is_fraction (k : Nat) (ds : List D) (μ : Mu) : run C tbl (k + 1) f_is_fraction ds μ = call1 C (run C tbl k) df_is_fraction ds μ := rfl
theorem run_is_amount (k : Nat) (ds : List D) (μ : Mu) : run C tbl (k + 1) f_is_amount ds μ = call1 C (run C tbl k) df_is_amount ds μ := rfl
theorem run_plus (k : Nat) (ds : List D) (μ : Mu) : run C tbl (k + 1) f_plus ds μ = call1 C (run C tbl k) df_plus ds μ := rfl
theorem run_less (k : Nat) (ds : List D) (μ : Mu) : run C tbl (k + 1) f_less ds μ = call1 C (run C tbl k) df_less ds μ := rfl
theorem run_times (k : Nat) (ds : List D) (μ : Mu) : run C tbl (k + 1) f_times ds μ = call1 C (run C tbl k) df_times ds μ := rfl
theorem run_over (k : Nat) (ds : List D) (μ : Mu) : run C tbl (k + 1) f_over ds μ = call1 C (run C tbl k) df_over ds μ := rfl
theorem run_is_less (k : Nat) (ds : List D) (μ : Mu) : run C tbl (k + 1) f_is_less ds μ = call1 C (run C tbl k) df_is_less ds μ := rfl
theorem run_summed (k : Nat) (ds : List D) (μ : Mu) : run C tbl (k + 1) f_summed ds μ = call1 C (run C tbl k) df_summed ds μ := rfl
theorem run_are_chances (k : Nat) (ds : List D) (μ : Mu) : run C tbl (k + 1) f_are_chances ds μ = call1 C (run C tbl k) df_are_chances ds μ := rfl
theorem run_are_fractions (k : Nat) (ds : List D) (μ : Mu) : run C tbl (k + 1) f_are_fractions ds μ = call1 C (run C tbl k) df_are_fractions ds μ := rfl
theorem run_greatest (k : Nat) (ds : List D) (μ : Mu) : run C tbl (k + 1) f_greatest ds μ = call1 C (run C tbl k) df_greatest ds μ := rfl
theorem run_product (k : Nat) (ds : List D) (μ : Mu) : run C tbl (k + 1) f_product ds μ = call1 C (run C tbl k) df_product ds μ := rfl
theorem run_is_look_by (k : Nat) (ds : List D) (μ : Mu) : run C tbl (k + 1) f_is_look_by ds μ = call1 C (run C tbl k) df_is_look_by ds μ := rfl
theorem run_check_look (k : Nat) (ds : List D) (μ : Mu) : run C tbl (k + 1) f_check_look ds μ = call1 C (run C tbl k) df_check_look ds μ := rfl
theorem run_standings_of (k : Nat) (ds : List D) (μ : Mu) : run C tbl (k + 1) f_standings_of ds μ = call1 C (run C tbl k) df_standings_of ds μ := rfl
theorem run_marks_of (k : Nat) (ds : List D) (μ : Mu) : run C tbl (k + 1) f_marks_of ds μ = call1 C (run C tbl k) df_marks_of ds μ := rfl
theorem run_column_of (k : Nat) (ds : List D) (μ : Mu) : run C tbl (k + 1) f_column_of ds μ = call1 C (run C tbl k) df_column_of ds μ := rfl
theorem run_check_alike (k : Nat) (ds : List D) (μ : Mu) : run C tbl (k + 1) f_check_alike ds μ = call1 C (run C tbl k) df_check_alike ds μ := rfl
theorem run_check_two (k : Nat) (ds : List D) (μ : Mu) : run C tbl (k + 1) f_check_two ds μ = call1 C (run C tbl k) df_check_two ds μ := rfl
theorem run_is_belief_by (k : Nat) (ds : List D) (μ : Mu) : run C tbl (k + 1) f_is_belief_by ds μ = call1 C (run C tbl k) df_is_belief_by ds μ := rfl
theorem run_check_belief (k : Nat) (ds : List D) (μ : Mu) : run C tbl (k + 1) f_check_belief ds μ = call1 C (run C tbl k) df_check_belief ds μ := rfl
theorem run_is_game_by (k : Nat) (ds : List D) (μ : Mu) : run C tbl (k + 1) f_is_game_by ds μ = call1 C (run C tbl k) df_is_game_by ds μ := rfl
theorem run_check_game (k : Nat) (ds : List D) (μ : Mu) : run C tbl (k + 1) f_check_game ds μ = call1 C (run C tbl k) df_check_game ds μ := rfl
theorem run_check_mark (k : Nat) (ds : List D) (μ : Mu) : run C tbl (k + 1) f_check_mark ds μ = call1 C (run C tbl k) df_check_mark ds μ := rfl
theorem run_is_lot_of (k : Nat) (ds : List D) (μ : Mu) : run C tbl (k + 1) f_is_lot_of ds μ = call1 C (run C tbl k) df_is_lot_of ds μ := rfl
theorem run_chance_by (k : Nat) (ds : List D) (μ : Mu) : run C tbl (k + 1) f_chance_by ds μ = call1 C (run C tbl k) df_chance_by ds μ := rfl
theorem run_chances_by (k : Nat) (ds : List D) (μ : Mu) : run C tbl (k + 1) f_chances_by ds μ = call1 C (run C tbl k) df_chances_by ds μ := rfl
theorem run_chances_of (k : Nat) (ds : List D) (μ : Mu) : run C tbl (k + 1) f_chances_of ds μ = call1 C (run C tbl k) df_chances_of ds μ := rfl
theorem run_behind_by (k : Nat) (ds : List D) (μ : Mu) : run C tbl (k + 1) f_behind_by ds μ = call1 C (run C tbl k) df_behind_by ds μ := rfl
theorem run_belief_behind (k : Nat) (ds : List D) (μ : Mu) : run C tbl (k + 1) f_belief_behind ds μ = call1 C (run C tbl k) df_belief_behind ds μ := rfl
theorem run_both_by (k : Nat) (ds : List D) (μ : Mu) : run C tbl (k + 1) f_both_by ds μ = call1 C (run C tbl k) df_both_by ds μ := rfl
theorem run_both_looks (k : Nat) (ds : List D) (μ : Mu) : run C tbl (k + 1) f_both_looks ds μ = call1 C (run C tbl k) df_both_looks ds μ := rfl
theorem run_either_by (k : Nat) (ds : List D) (μ : Mu) : run C tbl (k + 1) f_either_by ds μ = call1 C (run C tbl k) df_either_by ds μ := rfl
theorem run_either_look (k : Nat) (ds : List D) (μ : Mu) : run C tbl (k + 1) f_either_look ds μ = call1 C (run C tbl k) df_either_look ds μ := rfl
theorem run_joined_by (k : Nat) (ds : List D) (μ : Mu) : run C tbl (k + 1) f_joined_by ds μ = call1 C (run C tbl k) df_joined_by ds μ := rfl
theorem run_are_parts (k : Nat) (ds : List D) (μ : Mu) : run C tbl (k + 1) f_are_parts ds μ = call1 C (run C tbl k) df_are_parts ds μ := rfl
theorem run_marks_joined (k : Nat) (ds : List D) (μ : Mu) : run C tbl (k + 1) f_marks_joined ds μ = call1 C (run C tbl k) df_marks_joined ds μ := rfl
theorem run_check_asked (k : Nat) (ds : List D) (μ : Mu) : run C tbl (k + 1) f_check_asked ds μ = call1 C (run C tbl k) df_check_asked ds μ := rfl
theorem run_weighed (k : Nat) (ds : List D) (μ : Mu) : run C tbl (k + 1) f_weighed ds μ = call1 C (run C tbl k) df_weighed ds μ := rfl
theorem run_pays_at (k : Nat) (ds : List D) (μ : Mu) : run C tbl (k + 1) f_pays_at ds μ = call1 C (run C tbl k) df_pays_at ds μ := rfl
theorem run_worth_by (k : Nat) (ds : List D) (μ : Mu) : run C tbl (k + 1) f_worth_by ds μ = call1 C (run C tbl k) df_worth_by ds μ := rfl
theorem run_worth (k : Nat) (ds : List D) (μ : Mu) : run C tbl (k + 1) f_worth ds μ = call1 C (run C tbl k) df_worth ds μ := rfl
theorem run__law_hash (k : Nat) (ds : List D) (μ : Mu) : run C tbl (k + 1) f__law_hash ds μ = call1 C (run C tbl k) df__law_hash ds μ := rfl
theorem run__law_random (k : Nat) (ds : List D) (μ : Mu) : run C tbl (k + 1) f__law_random ds μ = call1 C (run C tbl k) df__law_random ds μ := rfl
theorem run__law_cell (k : Nat) (ds : List D) (μ : Mu) : run C tbl (k + 1) f__law_cell ds μ = call1 C (run C tbl k) df__law_cell ds μ := rfl
theorem run__law_generator (k : Nat) (ds : List D) (μ : Mu) : run C tbl (k + 1) f__law_generator ds μ = call1 C (run C tbl k) df__law_generator ds μ := rfl
theorem run__law_pick (k : Nat) (ds : List D) (μ : Mu) : run C tbl (k + 1) f__law_pick ds μ = call1 C (run C tbl k) df__law_pick ds μ := rfl
theorem run__law_frac (k : Nat) (ds : List D) (μ : Mu) : run C tbl (k + 1) f__law_frac ds μ = call1 C (run C tbl k) df__law_frac ds μ := rfl
theorem run__law_add (k : Nat) (ds : List D) (μ : Mu) : run C tbl (k + 1) f__law_add ds μ = call1 C (run C tbl k) df__law_add ds μ := rfl
theorem run__law_sub (k : Nat) (ds : List D) (μ : Mu) : run C tbl (k + 1) f__law_sub ds μ = call1 C (run C tbl k) df__law_sub ds μ := rfl
theorem run__law_mul (k : Nat) (ds : List D) (μ : Mu) : run C tbl (k + 1) f__law_mul ds μ = call1 C (run C tbl k) df__law_mul ds μ := rfl
theorem run__law_below (k : Nat) (ds : List D) (μ : Mu) : run C tbl (k + 1) f__law_below ds μ = call1 C (run C tbl k) df__law_below ds μ := rfl
theorem run__law_exact (k : Nat) (ds : List D) (μ : Mu) : run C tbl (k + 1) f__law_exact ds μ = call1 C (run C tbl k) df__law_exact ds μ := rfl
theorem run__law_lists (k : Nat) (ds : List D) (μ : Mu) : run C tbl (k + 1) f__law_lists ds μ = call1 C (run C tbl k) df__law_lists ds μ := rfl
theorem run__law_chances (k : Nat) (ds : List D) (μ : Mu) : run C tbl (k + 1) f__law_chances ds μ = call1 C (run C tbl k) df__law_chances ds μ := rfl
theorem run__law_look (k : Nat) (ds : List D) (μ : Mu) : run C tbl (k + 1) f__law_look ds μ = call1 C (run C tbl k) df__law_look ds μ := rfl
theorem run__law_game (k : Nat) (ds : List D) (μ : Mu) : run C tbl (k + 1) f__law_game ds μ = call1 C (run C tbl k) df__law_game ds μ := rfl
theorem run__law_total (k : Nat) (ds : List D) (μ : Mu) : run C tbl (k + 1) f__law_total ds μ = call1 C (run C tbl k) df__law_total ds μ := rfl
theorem run__law_product (k : Nat) (ds : List D) (μ : Mu) : run C tbl (k + 1) f__law_product ds μ = call1 C (run C tbl k) df__law_product ds μ := rfl
theorem run__law_column (k : Nat) (ds : List D) (μ : Mu) : run C tbl (k + 1) f__law_column ds μ = call1 C (run C tbl k) df__law_column ds μ := rfl
theorem run__law_pays (k : Nat) (ds : List D) (μ : Mu) : run C tbl (k + 1) f__law_pays ds μ = call1 C (run C tbl k) df__law_pays ds μ := rfl
theorem run__law_greatest (k : Nat) (ds : List D) (μ : Mu) : run C tbl (k + 1) f__law_greatest ds μ = call1 C (run C tbl k) df__law_greatest ds μ := rfl
theorem run__law_worth (k : Nat) (ds : List D) (μ : Mu) : run C tbl (k + 1) f__law_worth ds μ = call1 C (run C tbl k) df__law_worth ds μ := rfl
theorem run__law_by_marks (k : Nat) (ds : List D) (μ : Mu) : run C tbl (k + 1) f__law_by_marks ds μ = call1 C (run C tbl k) df__law_by_marks ds μ := rfl
theorem run_law (k : Nat) (ds : List D) (μ : Mu) : run C tbl (k + 1) f_law ds μ = call1 C (run C tbl k) df_law ds μ := rfl
end PyE
set_option maxRecDepth 100000
set_option maxHeartbeats 0
namespace PyE
open PySem

open PySem.Spec PyProof.Rows L2
def top (i : Nat) : Stmt := PySem.Challenge.pw_lookstell_k21_whole_worths_of_looks_toge.main.body.getD i (.Pass ⟨0, 0, 0, 0⟩)
def fsL0 : List PySem.Str := [PySem.Str.ofString "is_whole", PySem.Str.ofString "common_divisor", PySem.Str.ofString "lowest", PySem.Str.ofString "is_fraction", PySem.Str.ofString "is_amount", PySem.Str.ofString "plus", PySem.Str.ofString "less", PySem.Str.ofString "times", PySem.Str.ofString "over", PySem.Str.ofString "is_less", PySem.Str.ofString "summed", PySem.Str.ofString "are_chances", PySem.Str.ofString "are_fractions", PySem.Str.ofString "greatest", PySem.Str.ofString "product"]
def fsL1 : List PySem.Str := [PySem.Str.ofString "is_look_by", PySem.Str.ofString "check_look", PySem.Str.ofString "standings_of", PySem.Str.ofString "marks_of", PySem.Str.ofString "column_of", PySem.Str.ofString "check_alike", PySem.Str.ofString "check_two", PySem.Str.ofString "is_belief_by", PySem.Str.ofString "check_belief", PySem.Str.ofString "is_game_by", PySem.Str.ofString "check_game", PySem.Str.ofString "check_mark", PySem.Str.ofString "is_lot_of", PySem.Str.ofString "chance_by", PySem.Str.ofString "chances_by"]
def fsL2 : List PySem.Str := [PySem.Str.ofString "chances_of", PySem.Str.ofString "behind_by", PySem.Str.ofString "belief_behind", PySem.Str.ofString "both_by", PySem.Str.ofString "both_looks", PySem.Str.ofString "either_by", PySem.Str.ofString "either_look", PySem.Str.ofString "joined_by", PySem.Str.ofString "are_parts", PySem.Str.ofString "marks_joined", PySem.Str.ofString "check_asked", PySem.Str.ofString "weighed", PySem.Str.ofString "pays_at", PySem.Str.ofString "worth_by", PySem.Str.ofString "worth"]
def fsL3 : List PySem.Str := [PySem.Str.ofString "_law_hash", PySem.Str.ofString "_law_random", PySem.Str.ofString "_law_cell", PySem.Str.ofString "_law_generator", PySem.Str.ofString "_law_pick", PySem.Str.ofString "_law_frac", PySem.Str.ofString "_law_add", PySem.Str.ofString "_law_sub", PySem.Str.ofString "_law_mul", PySem.Str.ofString "_law_below", PySem.Str.ofString "_law_exact", PySem.Str.ofString "_law_lists", PySem.Str.ofString "_law_chances", PySem.Str.ofString "_law_look", PySem.Str.ofString "_law_game"]
def fsL4 : List PySem.Str := [PySem.Str.ofString "_law_total", PySem.Str.ofString "_law_product", PySem.Str.ofString "_law_column", PySem.Str.ofString "_law_pays", PySem.Str.ofString "_law_greatest", PySem.Str.ofString "_law_worth", PySem.Str.ofString "_law_by_marks", PySem.Str.ofString "law"]
def fsL : List PySem.Str := fsL0 ++ fsL1 ++ fsL2 ++ fsL3 ++ fsL4
def csL0 : List PySem.Str := [PySem.Str.ofString "LookError", PySem.Str.ofString "InvalidLook", PySem.Str.ofString "InvalidBelief", PySem.Str.ofString "InvalidGame", PySem.Str.ofString "InvalidMark", PySem.Str.ofString "InvalidAmount", PySem.Str.ofString "InvalidList", PySem.Str.ofString "Unlike", PySem.Str.ofString "TooMany"]
def csL : List PySem.Str := csL0
def glL0 : List (PySem.Str × GK) := [(PySem.Str.ofString "is_whole", .fn f_is_whole), (PySem.Str.ofString "common_divisor", .fn f_common_divisor), (PySem.Str.ofString "lowest", .fn f_lowest), (PySem.Str.ofString "is_fraction", .fn f_is_fraction), (PySem.Str.ofString "is_amount", .fn f_is_amount), (PySem.Str.ofString "plus", .fn f_plus), (PySem.Str.ofString "less", .fn f_less), (PySem.Str.ofString "times", .fn f_times), (PySem.Str.ofString "over", .fn f_over), (PySem.Str.ofString "is_less", .fn f_is_less), (PySem.Str.ofString "summed", .fn f_summed), (PySem.Str.ofString "are_chances", .fn f_are_chances), (PySem.Str.ofString "are_fractions", .fn f_are_fractions), (PySem.Str.ofString "greatest", .fn f_greatest), (PySem.Str.ofString "product", .fn f_product)]
def glL1 : List (PySem.Str × GK) := [(PySem.Str.ofString "is_look_by", .fn f_is_look_by), (PySem.Str.ofString "check_look", .fn f_check_look), (PySem.Str.ofString "standings_of", .fn f_standings_of), (PySem.Str.ofString "marks_of", .fn f_marks_of), (PySem.Str.ofString "column_of", .fn f_column_of), (PySem.Str.ofString "check_alike", .fn f_check_alike), (PySem.Str.ofString "check_two", .fn f_check_two), (PySem.Str.ofString "is_belief_by", .fn f_is_belief_by), (PySem.Str.ofString "check_belief", .fn f_check_belief), (PySem.Str.ofString "is_game_by", .fn f_is_game_by), (PySem.Str.ofString "check_game", .fn f_check_game), (PySem.Str.ofString "check_mark", .fn f_check_mark), (PySem.Str.ofString "is_lot_of", .fn f_is_lot_of), (PySem.Str.ofString "chance_by", .fn f_chance_by), (PySem.Str.ofString "chances_by", .fn f_chances_by)]
def glL2 : List (PySem.Str × GK) := [(PySem.Str.ofString "chances_of", .fn f_chances_of), (PySem.Str.ofString "behind_by", .fn f_behind_by), (PySem.Str.ofString "belief_behind", .fn f_belief_behind), (PySem.Str.ofString "both_by", .fn f_both_by), (PySem.Str.ofString "both_looks", .fn f_both_looks), (PySem.Str.ofString "either_by", .fn f_either_by), (PySem.Str.ofString "either_look", .fn f_either_look), (PySem.Str.ofString "joined_by", .fn f_joined_by), (PySem.Str.ofString "are_parts", .fn f_are_parts), (PySem.Str.ofString "marks_joined", .fn f_marks_joined), (PySem.Str.ofString "check_asked", .fn f_check_asked), (PySem.Str.ofString "weighed", .fn f_weighed), (PySem.Str.ofString "pays_at", .fn f_pays_at), (PySem.Str.ofString "worth_by", .fn f_worth_by), (PySem.Str.ofString "worth", .fn f_worth)]
def glL3 : List (PySem.Str × GK) := [(PySem.Str.ofString "_law_hash", .fn f__law_hash), (PySem.Str.ofString "_law_random", .fn f__law_random), (PySem.Str.ofString "_law_cell", .fn f__law_cell), (PySem.Str.ofString "_law_generator", .fn f__law_generator), (PySem.Str.ofString "_law_pick", .fn f__law_pick), (PySem.Str.ofString "_law_frac", .fn f__law_frac), (PySem.Str.ofString "_law_add", .fn f__law_add), (PySem.Str.ofString "_law_sub", .fn f__law_sub), (PySem.Str.ofString "_law_mul", .fn f__law_mul), (PySem.Str.ofString "_law_below", .fn f__law_below), (PySem.Str.ofString "_law_exact", .fn f__law_exact), (PySem.Str.ofString "_law_lists", .fn f__law_lists), (PySem.Str.ofString "_law_chances", .fn f__law_chances), (PySem.Str.ofString "_law_look", .fn f__law_look), (PySem.Str.ofString "_law_game", .fn f__law_game)]
def glL4 : List (PySem.Str × GK) := [(PySem.Str.ofString "_law_total", .fn f__law_total), (PySem.Str.ofString "_law_product", .fn f__law_product), (PySem.Str.ofString "_law_column", .fn f__law_column), (PySem.Str.ofString "_law_pays", .fn f__law_pays), (PySem.Str.ofString "_law_greatest", .fn f__law_greatest), (PySem.Str.ofString "_law_worth", .fn f__law_worth), (PySem.Str.ofString "_law_by_marks", .fn f__law_by_marks), (PySem.Str.ofString "law", .fn f_law), (PySem.Str.ofString "LookError", .cls 0), (PySem.Str.ofString "InvalidLook", .cls 1), (PySem.Str.ofString "InvalidBelief", .cls 2), (PySem.Str.ofString "InvalidGame", .cls 3), (PySem.Str.ofString "InvalidMark", .cls 4), (PySem.Str.ofString "InvalidAmount", .cls 5), (PySem.Str.ofString "InvalidList", .cls 6)]
def glL5 : List (PySem.Str × GK) := [(PySem.Str.ofString "Unlike", .cls 7), (PySem.Str.ofString "TooMany", .cls 8), (PySem.Str.ofString "MOST_STANDINGS", .con (.int 6)), (PySem.Str.ofString "MOST_MARKS", .con (.int 8)), (PySem.Str.ofString "MOST_DEEDS", .con (.int 8)), (PySem.Str.ofString "NONE_looks", .con (.tup [(.int 0), (.int 1)])), (PySem.Str.ofString "NONE_joining", .con (.tup [(.int 0), (.int 1)])), (PySem.Str.ofString "ONE", .con (.tup [(.int 1), (.int 1)])), (PySem.Str.ofString "ValueError", .blt), (PySem.Str.ofString "abs", .blt), (PySem.Str.ofString "all", .blt), (PySem.Str.ofString "bool", .blt), (PySem.Str.ofString "enumerate", .blt), (PySem.Str.ofString "int", .blt), (PySem.Str.ofString "isinstance", .blt)]
def glL6 : List (PySem.Str × GK) := [(PySem.Str.ofString "len", .blt), (PySem.Str.ofString "list", .blt), (PySem.Str.ofString "max", .blt), (PySem.Str.ofString "range", .blt), (PySem.Str.ofString "sorted", .blt), (PySem.Str.ofString "str", .blt), (PySem.Str.ofString "sum", .blt), (PySem.Str.ofString "super", .blt), (PySem.Str.ofString "tuple", .blt), (PySem.Str.ofString "zip", .blt)]
def glL : List (PySem.Str × GK) := glL0 ++ glL1 ++ glL2 ++ glL3 ++ glL4 ++ glL5 ++ glL6
def psL : List Nat := [1, 2, 2, 1, 1, 2, 2, 2, 2, 2, 1, 2, 2, 1, 2, 1, 1, 1, 1, 2, 2, 2, 2, 2, 1, 2, 2, 2, 3, 2, 2, 3, 3, 2, 2, 3, 3, 2, 2, 2, 3, 3, 4, 3, 3, 2, 2, 2, 2, 2, 2, 2, 2, 2, 2, 2, 1, 2, 3, 3, 1, 2, 2, 4, 1, 3, 4, 1]
def nm : Nm := ⟨fsL, csL, glL⟩
def tbT : Tb := ⟨glL, fun f => (psL[f]?).getD 0, []⟩
def nN0 : List PySem.Str := [PySem.Str.ofString "value"]
def pN0 : List PySem.Str := [PySem.Str.ofString "value"]
theorem sc0 : FnScope nN0 pN0 (defScope (top 11)) := ⟨by kernel_rfl, by kernel_rfl, by kernel_rfl, by decide +kernel, by kernel_rfl, by decide +kernel, by decide +kernel⟩
theorem ck0 : ckSs tbT b_is_whole ⟨nN0, defScope (top 11), fun _ => true⟩ (defBody (top 11)) = true := by decide +kernel
def nN1 : List PySem.Str := [PySem.Str.ofString "one", PySem.Str.ofString "other"]
def pN1 : List PySem.Str := [PySem.Str.ofString "one", PySem.Str.ofString "other"]
theorem sc1 : FnScope nN1 pN1 (defScope (top 12)) := ⟨by kernel_rfl, by kernel_rfl, by kernel_rfl, by decide +kernel, by kernel_rfl, by decide +kernel, by decide +kernel⟩
theorem ck1 : ckSs tbT b_common_divisor ⟨nN1, defScope (top 12), fun _ => true⟩ (defBody (top 12)) = true := by decide +kernel
def nN2 : List PySem.Str := [PySem.Str.ofString "top", PySem.Str.ofString "under", PySem.Str.ofString "common"]
def pN2 : List PySem.Str := [PySem.Str.ofString "top", PySem.Str.ofString "under"]
theorem sc2 : FnScope nN2 pN2 (defScope (top 13)) := ⟨by kernel_rfl, by kernel_rfl, by kernel_rfl, by decide +kernel, by kernel_rfl, by decide +kernel, by decide +kernel⟩
theorem ck2 : ckSs tbT b_lowest ⟨nN2, defScope (top 13), fun _ => true⟩ (defBody (top 13)) = true := by decide +kernel
def nN3 : List PySem.Str := [PySem.Str.ofString "value"]
def pN3 : List PySem.Str := [PySem.Str.ofString "value"]
theorem sc3 : FnScope nN3 pN3 (defScope (top 14)) := ⟨by kernel_rfl, by kernel_rfl, by kernel_rfl, by decide +kernel, by kernel_rfl, by decide +kernel, by decide +kernel⟩
theorem ck3 : ckSs tbT b_is_fraction ⟨nN3, defScope (top 14), fun _ => true⟩ (defBody (top 14)) = true := by decide +kernel
def nN4 : List PySem.Str := [PySem.Str.ofString "value"]
def pN4 : List PySem.Str := [PySem.Str.ofString "value"]
theorem sc4 : FnScope nN4 pN4 (defScope (top 15)) := ⟨by kernel_rfl, by kernel_rfl, by kernel_rfl, by decide +kernel, by kernel_rfl, by decide +kernel, by decide +kernel⟩
theorem ck4 : ckSs tbT b_is_amount ⟨nN4, defScope (top 15), fun _ => true⟩ (defBody (top 15)) = true := by decide +kernel
def nN5 : List PySem.Str := [PySem.Str.ofString "one", PySem.Str.ofString "other"]
def pN5 : List PySem.Str := [PySem.Str.ofString "one", PySem.Str.ofString "other"]
theorem sc5 : FnScope nN5 pN5 (defScope (top 16)) := ⟨by kernel_rfl, by kernel_rfl, by kernel_rfl, by decide +kernel, by kernel_rfl, by decide +kernel, by decide +kernel⟩
theorem ck5 : ckSs tbT b_plus ⟨nN5, defScope (top 16), fun _ => true⟩ (defBody (top 16)) = true := by decide +kernel
def nN6 : List PySem.Str := [PySem.Str.ofString "one", PySem.Str.ofString "other"]
def pN6 : List PySem.Str := [PySem.Str.ofString "one", PySem.Str.ofString "other"]
theorem sc6 : FnScope nN6 pN6 (defScope (top 17)) := ⟨by kernel_rfl, by kernel_rfl, by kernel_rfl, by decide +kernel, by kernel_rfl, by decide +kernel, by decide +kernel⟩
theorem ck6 : ckSs tbT b_less ⟨nN6, defScope (top 17), fun _ => true⟩ (defBody (top 17)) = true := by decide +kernel
def nN7 : List PySem.Str := [PySem.Str.ofString "one", PySem.Str.ofString "other"]
def pN7 : List PySem.Str := [PySem.Str.ofString "one", PySem.Str.ofString "other"]
theorem sc7 : FnScope nN7 pN7 (defScope (top 18)) := ⟨by kernel_rfl, by kernel_rfl, by kernel_rfl, by decide +kernel, by kernel_rfl, by decide +kernel, by decide +kernel⟩
theorem ck7 : ckSs tbT b_times ⟨nN7, defScope (top 18), fun _ => true⟩ (defBody (top 18)) = true := by decide +kernel
def nN8 : List PySem.Str := [PySem.Str.ofString "one", PySem.Str.ofString "other"]
def pN8 : List PySem.Str := [PySem.Str.ofString "one", PySem.Str.ofString "other"]
theorem sc8 : FnScope nN8 pN8 (defScope (top 19)) := ⟨by kernel_rfl, by kernel_rfl, by kernel_rfl, by decide +kernel, by kernel_rfl, by decide +kernel, by decide +kernel⟩
theorem ck8 : ckSs tbT b_over ⟨nN8, defScope (top 19), fun _ => true⟩ (defBody (top 19)) = true := by decide +kernel
def nN9 : List PySem.Str := [PySem.Str.ofString "one", PySem.Str.ofString "other"]
def pN9 : List PySem.Str := [PySem.Str.ofString "one", PySem.Str.ofString "other"]
theorem sc9 : FnScope nN9 pN9 (defScope (top 20)) := ⟨by kernel_rfl, by kernel_rfl, by kernel_rfl, by decide +kernel, by kernel_rfl, by decide +kernel, by decide +kernel⟩
theorem ck9 : ckSs tbT b_is_less ⟨nN9, defScope (top 20), fun _ => true⟩ (defBody (top 20)) = true := by decide +kernel
def nN10 : List PySem.Str := [PySem.Str.ofString "some", PySem.Str.ofString "found", PySem.Str.ofString "one"]
def pN10 : List PySem.Str := [PySem.Str.ofString "some"]
theorem sc10 : FnScope nN10 pN10 (defScope (top 21)) := ⟨by kernel_rfl, by kernel_rfl, by kernel_rfl, by decide +kernel, by kernel_rfl, by decide +kernel, by decide +kernel⟩
theorem ck10 : ckSs tbT b_summed ⟨nN10, defScope (top 21), fun _ => true⟩ (defBody (top 21)) = true := by decide +kernel
def nN11 : List PySem.Str := [PySem.Str.ofString "value", PySem.Str.ofString "many", PySem.Str.ofString "one"]
def pN11 : List PySem.Str := [PySem.Str.ofString "value", PySem.Str.ofString "many"]
theorem sc11 : FnScope nN11 pN11 (defScope (top 22)) := ⟨by kernel_rfl, by kernel_rfl, by kernel_rfl, by decide +kernel, by kernel_rfl, by decide +kernel, by decide +kernel⟩
theorem ck11 : ckSs tbT b_are_chances ⟨nN11, defScope (top 22), fun _ => true⟩ (defBody (top 22)) = true := by decide +kernel
def nN12 : List PySem.Str := [PySem.Str.ofString "value", PySem.Str.ofString "many", PySem.Str.ofString "one"]
def pN12 : List PySem.Str := [PySem.Str.ofString "value", PySem.Str.ofString "many"]
theorem sc12 : FnScope nN12 pN12 (defScope (top 23)) := ⟨by kernel_rfl, by kernel_rfl, by kernel_rfl, by decide +kernel, by kernel_rfl, by decide +kernel, by decide +kernel⟩
theorem ck12 : ckSs tbT b_are_fractions ⟨nN12, defScope (top 23), fun _ => true⟩ (defBody (top 23)) = true := by decide +kernel
def nN13 : List PySem.Str := [PySem.Str.ofString "some", PySem.Str.ofString "found", PySem.Str.ofString "one"]
def pN13 : List PySem.Str := [PySem.Str.ofString "some"]
theorem sc13 : FnScope nN13 pN13 (defScope (top 24)) := ⟨by kernel_rfl, by kernel_rfl, by kernel_rfl, by decide +kernel, by kernel_rfl, by decide +kernel, by decide +kernel⟩
theorem ck13 : ckSs tbT b_greatest ⟨nN13, defScope (top 24), fun _ => true⟩ (defBody (top 24)) = true := by decide +kernel
def nN14 : List PySem.Str := [PySem.Str.ofString "weights", PySem.Str.ofString "numbers", PySem.Str.ofString "weight", PySem.Str.ofString "number"]
def pN14 : List PySem.Str := [PySem.Str.ofString "weights", PySem.Str.ofString "numbers"]
theorem sc14 : FnScope nN14 pN14 (defScope (top 25)) := ⟨by kernel_rfl, by kernel_rfl, by kernel_rfl, by decide +kernel, by kernel_rfl, by decide +kernel, by decide +kernel⟩
theorem ck14 : ckSs tbT b_product ⟨nN14, defScope (top 25), fun _ => true⟩ (defBody (top 25)) = true := by decide +kernel
def nN15 : List PySem.Str := [PySem.Str.ofString "value", PySem.Str.ofString "rows", PySem.Str.ofString "row"]
def pN15 : List PySem.Str := [PySem.Str.ofString "value"]
theorem sc15 : FnScope nN15 pN15 (defScope (top 30)) := ⟨by kernel_rfl, by kernel_rfl, by kernel_rfl, by decide +kernel, by kernel_rfl, by decide +kernel, by decide +kernel⟩
theorem ck15 : ckSs tbT b_is_look_by ⟨nN15, defScope (top 30), fun _ => true⟩ (defBody (top 30)) = true := by decide +kernel
def nN16 : List PySem.Str := [PySem.Str.ofString "look"]
def pN16 : List PySem.Str := [PySem.Str.ofString "look"]
theorem sc16 : FnScope nN16 pN16 (defScope (top 31)) := ⟨by kernel_rfl, by kernel_rfl, by kernel_rfl, by decide +kernel, by kernel_rfl, by decide +kernel, by decide +kernel⟩
theorem ck16 : ckSs tbT b_check_look ⟨nN16, defScope (top 31), fun _ => true⟩ (defBody (top 31)) = true := by decide +kernel
def nN17 : List PySem.Str := [PySem.Str.ofString "look"]
def pN17 : List PySem.Str := [PySem.Str.ofString "look"]
theorem sc17 : FnScope nN17 pN17 (defScope (top 32)) := ⟨by kernel_rfl, by kernel_rfl, by kernel_rfl, by decide +kernel, by kernel_rfl, by decide +kernel, by decide +kernel⟩
theorem ck17 : ckSs tbT b_standings_of ⟨nN17, defScope (top 32), fun _ => true⟩ (defBody (top 32)) = true := by decide +kernel
def nN18 : List PySem.Str := [PySem.Str.ofString "look"]
def pN18 : List PySem.Str := [PySem.Str.ofString "look"]
theorem sc18 : FnScope nN18 pN18 (defScope (top 33)) := ⟨by kernel_rfl, by kernel_rfl, by kernel_rfl, by decide +kernel, by kernel_rfl, by decide +kernel, by decide +kernel⟩
theorem ck18 : ckSs tbT b_marks_of ⟨nN18, defScope (top 33), fun _ => true⟩ (defBody (top 33)) = true := by decide +kernel
def nN19 : List PySem.Str := [PySem.Str.ofString "look", PySem.Str.ofString "mark", PySem.Str.ofString "row"]
def pN19 : List PySem.Str := [PySem.Str.ofString "look", PySem.Str.ofString "mark"]
theorem sc19 : FnScope nN19 pN19 (defScope (top 34)) := ⟨by kernel_rfl, by kernel_rfl, by kernel_rfl, by decide +kernel, by kernel_rfl, by decide +kernel, by decide +kernel⟩
theorem ck19 : ckSs tbT b_column_of ⟨nN19, defScope (top 34), fun _ => true⟩ (defBody (top 34)) = true := by decide +kernel
def nN20 : List PySem.Str := [PySem.Str.ofString "one", PySem.Str.ofString "other"]
def pN20 : List PySem.Str := [PySem.Str.ofString "one", PySem.Str.ofString "other"]
theorem sc20 : FnScope nN20 pN20 (defScope (top 35)) := ⟨by kernel_rfl, by kernel_rfl, by kernel_rfl, by decide +kernel, by kernel_rfl, by decide +kernel, by decide +kernel⟩
theorem ck20 : ckSs tbT b_check_alike ⟨nN20, defScope (top 35), fun _ => true⟩ (defBody (top 35)) = true := by decide +kernel
def nN21 : List PySem.Str := [PySem.Str.ofString "one", PySem.Str.ofString "other"]
def pN21 : List PySem.Str := [PySem.Str.ofString "one", PySem.Str.ofString "other"]
theorem sc21 : FnScope nN21 pN21 (defScope (top 36)) := ⟨by kernel_rfl, by kernel_rfl, by kernel_rfl, by decide +kernel, by kernel_rfl, by decide +kernel, by decide +kernel⟩
theorem ck21 : ckSs tbT b_check_two ⟨nN21, defScope (top 36), fun _ => true⟩ (defBody (top 36)) = true := by decide +kernel
def nN22 : List PySem.Str := [PySem.Str.ofString "look", PySem.Str.ofString "value"]
def pN22 : List PySem.Str := [PySem.Str.ofString "look", PySem.Str.ofString "value"]
theorem sc22 : FnScope nN22 pN22 (defScope (top 37)) := ⟨by kernel_rfl, by kernel_rfl, by kernel_rfl, by decide +kernel, by kernel_rfl, by decide +kernel, by decide +kernel⟩
theorem ck22 : ckSs tbT b_is_belief_by ⟨nN22, defScope (top 37), fun _ => true⟩ (defBody (top 37)) = true := by decide +kernel
def nN23 : List PySem.Str := [PySem.Str.ofString "look", PySem.Str.ofString "belief"]
def pN23 : List PySem.Str := [PySem.Str.ofString "look", PySem.Str.ofString "belief"]
theorem sc23 : FnScope nN23 pN23 (defScope (top 38)) := ⟨by kernel_rfl, by kernel_rfl, by kernel_rfl, by decide +kernel, by kernel_rfl, by decide +kernel, by decide +kernel⟩
theorem ck23 : ckSs tbT b_check_belief ⟨nN23, defScope (top 38), fun _ => true⟩ (defBody (top 38)) = true := by decide +kernel
def nN24 : List PySem.Str := [PySem.Str.ofString "value", PySem.Str.ofString "pays", PySem.Str.ofString "row"]
def pN24 : List PySem.Str := [PySem.Str.ofString "value"]
theorem sc24 : FnScope nN24 pN24 (defScope (top 39)) := ⟨by kernel_rfl, by kernel_rfl, by kernel_rfl, by decide +kernel, by kernel_rfl, by decide +kernel, by decide +kernel⟩
theorem ck24 : ckSs tbT b_is_game_by ⟨nN24, defScope (top 39), fun _ => true⟩ (defBody (top 39)) = true := by decide +kernel
def nN25 : List PySem.Str := [PySem.Str.ofString "look", PySem.Str.ofString "game"]
def pN25 : List PySem.Str := [PySem.Str.ofString "look", PySem.Str.ofString "game"]
theorem sc25 : FnScope nN25 pN25 (defScope (top 40)) := ⟨by kernel_rfl, by kernel_rfl, by kernel_rfl, by decide +kernel, by kernel_rfl, by decide +kernel, by decide +kernel⟩
theorem ck25 : ckSs tbT b_check_game ⟨nN25, defScope (top 40), fun _ => true⟩ (defBody (top 40)) = true := by decide +kernel
def nN26 : List PySem.Str := [PySem.Str.ofString "look", PySem.Str.ofString "mark"]
def pN26 : List PySem.Str := [PySem.Str.ofString "look", PySem.Str.ofString "mark"]
theorem sc26 : FnScope nN26 pN26 (defScope (top 41)) := ⟨by kernel_rfl, by kernel_rfl, by kernel_rfl, by decide +kernel, by kernel_rfl, by decide +kernel, by decide +kernel⟩
theorem ck26 : ckSs tbT b_check_mark ⟨nN26, defScope (top 41), fun _ => true⟩ (defBody (top 41)) = true := by decide +kernel
def nN27 : List PySem.Str := [PySem.Str.ofString "value", PySem.Str.ofString "many", PySem.Str.ofString "at", PySem.Str.ofString "one"]
def pN27 : List PySem.Str := [PySem.Str.ofString "value", PySem.Str.ofString "many"]
theorem sc27 : FnScope nN27 pN27 (defScope (top 42)) := ⟨by kernel_rfl, by kernel_rfl, by kernel_rfl, by decide +kernel, by kernel_rfl, by decide +kernel, by decide +kernel⟩
theorem ck27 : ckSs tbT b_is_lot_of ⟨nN27, defScope (top 42), fun _ => true⟩ (defBody (top 42)) = true := by decide +kernel
def nN28 : List PySem.Str := [PySem.Str.ofString "look", PySem.Str.ofString "belief", PySem.Str.ofString "mark"]
def pN28 : List PySem.Str := [PySem.Str.ofString "look", PySem.Str.ofString "belief", PySem.Str.ofString "mark"]
theorem sc28 : FnScope nN28 pN28 (defScope (top 45)) := ⟨by kernel_rfl, by kernel_rfl, by kernel_rfl, by decide +kernel, by kernel_rfl, by decide +kernel, by decide +kernel⟩
theorem ck28 : ckSs tbT b_chance_by ⟨nN28, defScope (top 45), fun _ => true⟩ (defBody (top 45)) = true := by decide +kernel
def nN29 : List PySem.Str := [PySem.Str.ofString "look", PySem.Str.ofString "belief", PySem.Str.ofString "mark"]
def pN29 : List PySem.Str := [PySem.Str.ofString "look", PySem.Str.ofString "belief"]
theorem sc29 : FnScope nN29 pN29 (defScope (top 46)) := ⟨by kernel_rfl, by kernel_rfl, by kernel_rfl, by decide +kernel, by kernel_rfl, by decide +kernel, by decide +kernel⟩
theorem ck29 : ckSs tbT b_chances_by ⟨nN29, defScope (top 46), fun _ => true⟩ (defBody (top 46)) = true := by decide +kernel
def nN30 : List PySem.Str := [PySem.Str.ofString "look", PySem.Str.ofString "belief"]
def pN30 : List PySem.Str := [PySem.Str.ofString "look", PySem.Str.ofString "belief"]
theorem sc30 : FnScope nN30 pN30 (defScope (top 47)) := ⟨by kernel_rfl, by kernel_rfl, by kernel_rfl, by decide +kernel, by kernel_rfl, by decide +kernel, by decide +kernel⟩
theorem ck30 : ckSs tbT b_chances_of ⟨nN30, defScope (top 47), fun _ => true⟩ (defBody (top 47)) = true := by decide +kernel
def nN31 : List PySem.Str := [PySem.Str.ofString "look", PySem.Str.ofString "belief", PySem.Str.ofString "mark", PySem.Str.ofString "parts", PySem.Str.ofString "whole", PySem.Str.ofString "one", PySem.Str.ofString "chance", PySem.Str.ofString "part"]
def pN31 : List PySem.Str := [PySem.Str.ofString "look", PySem.Str.ofString "belief", PySem.Str.ofString "mark"]
theorem sc31 : FnScope nN31 pN31 (defScope (top 48)) := ⟨by kernel_rfl, by kernel_rfl, by kernel_rfl, by decide +kernel, by kernel_rfl, by decide +kernel, by decide +kernel⟩
theorem ck31 : ckSs tbT b_behind_by ⟨nN31, defScope (top 48), fun _ => true⟩ (defBody (top 48)) = true := by decide +kernel
def nN32 : List PySem.Str := [PySem.Str.ofString "look", PySem.Str.ofString "belief", PySem.Str.ofString "mark"]
def pN32 : List PySem.Str := [PySem.Str.ofString "look", PySem.Str.ofString "belief", PySem.Str.ofString "mark"]
theorem sc32 : FnScope nN32 pN32 (defScope (top 49)) := ⟨by kernel_rfl, by kernel_rfl, by kernel_rfl, by decide +kernel, by kernel_rfl, by decide +kernel, by decide +kernel⟩
theorem ck32 : ckSs tbT b_belief_behind ⟨nN32, defScope (top 49), fun _ => true⟩ (defBody (top 49)) = true := by decide +kernel
def nN33 : List PySem.Str := [PySem.Str.ofString "one", PySem.Str.ofString "other", PySem.Str.ofString "rows", PySem.Str.ofString "first", PySem.Str.ofString "second", PySem.Str.ofString "here", PySem.Str.ofString "there"]
def pN33 : List PySem.Str := [PySem.Str.ofString "one", PySem.Str.ofString "other"]
theorem sc33 : FnScope nN33 pN33 (defScope (top 53)) := ⟨by kernel_rfl, by kernel_rfl, by kernel_rfl, by decide +kernel, by kernel_rfl, by decide +kernel, by decide +kernel⟩
theorem ck33 : ckSs tbT b_both_by ⟨nN33, defScope (top 53), fun _ => true⟩ (defBody (top 53)) = true := by decide +kernel
def nN34 : List PySem.Str := [PySem.Str.ofString "one", PySem.Str.ofString "other", PySem.Str.ofString "many"]
def pN34 : List PySem.Str := [PySem.Str.ofString "one", PySem.Str.ofString "other"]
theorem sc34 : FnScope nN34 pN34 (defScope (top 54)) := ⟨by kernel_rfl, by kernel_rfl, by kernel_rfl, by decide +kernel, by kernel_rfl, by decide +kernel, by decide +kernel⟩
theorem ck34 : ckSs tbT b_both_looks ⟨nN34, defScope (top 54), fun _ => true⟩ (defBody (top 54)) = true := by decide +kernel
def nN35 : List PySem.Str := [PySem.Str.ofString "one", PySem.Str.ofString "other", PySem.Str.ofString "share", PySem.Str.ofString "rest", PySem.Str.ofString "rows", PySem.Str.ofString "first", PySem.Str.ofString "second", PySem.Str.ofString "here", PySem.Str.ofString "there"]
def pN35 : List PySem.Str := [PySem.Str.ofString "one", PySem.Str.ofString "other", PySem.Str.ofString "share"]
theorem sc35 : FnScope nN35 pN35 (defScope (top 55)) := ⟨by kernel_rfl, by kernel_rfl, by kernel_rfl, by decide +kernel, by kernel_rfl, by decide +kernel, by decide +kernel⟩
theorem ck35 : ckSs tbT b_either_by ⟨nN35, defScope (top 55), fun _ => true⟩ (defBody (top 55)) = true := by decide +kernel
def nN36 : List PySem.Str := [PySem.Str.ofString "one", PySem.Str.ofString "other", PySem.Str.ofString "share", PySem.Str.ofString "many"]
def pN36 : List PySem.Str := [PySem.Str.ofString "one", PySem.Str.ofString "other", PySem.Str.ofString "share"]
theorem sc36 : FnScope nN36 pN36 (defScope (top 56)) := ⟨by kernel_rfl, by kernel_rfl, by kernel_rfl, by decide +kernel, by kernel_rfl, by decide +kernel, by decide +kernel⟩
theorem ck36 : ckSs tbT b_either_look ⟨nN36, defScope (top 56), fun _ => true⟩ (defBody (top 56)) = true := by decide +kernel
def nN37 : List PySem.Str := [PySem.Str.ofString "look", PySem.Str.ofString "lots", PySem.Str.ofString "rows", PySem.Str.ofString "row", PySem.Str.ofString "found", PySem.Str.ofString "lot", PySem.Str.ofString "whole", PySem.Str.ofString "mark"]
def pN37 : List PySem.Str := [PySem.Str.ofString "look", PySem.Str.ofString "lots"]
theorem sc37 : FnScope nN37 pN37 (defScope (top 57)) := ⟨by kernel_rfl, by kernel_rfl, by kernel_rfl, by decide +kernel, by kernel_rfl, by decide +kernel, by decide +kernel⟩
theorem ck37 : ckSs tbT b_joined_by ⟨nN37, defScope (top 57), fun _ => true⟩ (defBody (top 57)) = true := by decide +kernel
def nN38 : List PySem.Str := [PySem.Str.ofString "value", PySem.Str.ofString "many", PySem.Str.ofString "lot"]
def pN38 : List PySem.Str := [PySem.Str.ofString "value", PySem.Str.ofString "many"]
theorem sc38 : FnScope nN38 pN38 (defScope (top 58)) := ⟨by kernel_rfl, by kernel_rfl, by kernel_rfl, by decide +kernel, by kernel_rfl, by decide +kernel, by decide +kernel⟩
theorem ck38 : ckSs tbT b_are_parts ⟨nN38, defScope (top 58), fun _ => true⟩ (defBody (top 58)) = true := by decide +kernel
def nN39 : List PySem.Str := [PySem.Str.ofString "look", PySem.Str.ofString "lots"]
def pN39 : List PySem.Str := [PySem.Str.ofString "look", PySem.Str.ofString "lots"]
theorem sc39 : FnScope nN39 pN39 (defScope (top 59)) := ⟨by kernel_rfl, by kernel_rfl, by kernel_rfl, by decide +kernel, by kernel_rfl, by decide +kernel, by decide +kernel⟩
theorem ck39 : ckSs tbT b_marks_joined ⟨nN39, defScope (top 59), fun _ => true⟩ (defBody (top 59)) = true := by decide +kernel
def nN40 : List PySem.Str := [PySem.Str.ofString "look", PySem.Str.ofString "belief", PySem.Str.ofString "game"]
def pN40 : List PySem.Str := [PySem.Str.ofString "look", PySem.Str.ofString "belief", PySem.Str.ofString "game"]
theorem sc40 : FnScope nN40 pN40 (defScope (top 61)) := ⟨by kernel_rfl, by kernel_rfl, by kernel_rfl, by decide +kernel, by kernel_rfl, by decide +kernel, by decide +kernel⟩
theorem ck40 : ckSs tbT b_check_asked ⟨nN40, defScope (top 61), fun _ => true⟩ (defBody (top 61)) = true := by decide +kernel
def nN41 : List PySem.Str := [PySem.Str.ofString "look", PySem.Str.ofString "belief", PySem.Str.ofString "mark", PySem.Str.ofString "one", PySem.Str.ofString "chance"]
def pN41 : List PySem.Str := [PySem.Str.ofString "look", PySem.Str.ofString "belief", PySem.Str.ofString "mark"]
theorem sc41 : FnScope nN41 pN41 (defScope (top 62)) := ⟨by kernel_rfl, by kernel_rfl, by kernel_rfl, by decide +kernel, by kernel_rfl, by decide +kernel, by decide +kernel⟩
theorem ck41 : ckSs tbT b_weighed ⟨nN41, defScope (top 62), fun _ => true⟩ (defBody (top 62)) = true := by decide +kernel
def nN42 : List PySem.Str := [PySem.Str.ofString "look", PySem.Str.ofString "belief", PySem.Str.ofString "game", PySem.Str.ofString "mark", PySem.Str.ofString "parts", PySem.Str.ofString "pays"]
def pN42 : List PySem.Str := [PySem.Str.ofString "look", PySem.Str.ofString "belief", PySem.Str.ofString "game", PySem.Str.ofString "mark"]
theorem sc42 : FnScope nN42 pN42 (defScope (top 63)) := ⟨by kernel_rfl, by kernel_rfl, by kernel_rfl, by decide +kernel, by kernel_rfl, by decide +kernel, by decide +kernel⟩
theorem ck42 : ckSs tbT b_pays_at ⟨nN42, defScope (top 63), fun _ => true⟩ (defBody (top 63)) = true := by decide +kernel
def nN43 : List PySem.Str := [PySem.Str.ofString "look", PySem.Str.ofString "belief", PySem.Str.ofString "game", PySem.Str.ofString "mark"]
def pN43 : List PySem.Str := [PySem.Str.ofString "look", PySem.Str.ofString "belief", PySem.Str.ofString "game"]
theorem sc43 : FnScope nN43 pN43 (defScope (top 64)) := ⟨by kernel_rfl, by kernel_rfl, by kernel_rfl, by decide +kernel, by kernel_rfl, by decide +kernel, by decide +kernel⟩
theorem ck43 : ckSs tbT b_worth_by ⟨nN43, defScope (top 64), fun _ => true⟩ (defBody (top 64)) = true := by decide +kernel
def nN44 : List PySem.Str := [PySem.Str.ofString "look", PySem.Str.ofString "belief", PySem.Str.ofString "game"]
def pN44 : List PySem.Str := [PySem.Str.ofString "look", PySem.Str.ofString "belief", PySem.Str.ofString "game"]
theorem sc44 : FnScope nN44 pN44 (defScope (top 65)) := ⟨by kernel_rfl, by kernel_rfl, by kernel_rfl, by decide +kernel, by kernel_rfl, by decide +kernel, by decide +kernel⟩
theorem ck44 : ckSs tbT b_worth ⟨nN44, defScope (top 65), fun _ => true⟩ (defBody (top 65)) = true := by decide +kernel
def nN45 : List PySem.Str := [PySem.Str.ofString "seed", PySem.Str.ofString "index", PySem.Str.ofString "mixed"]
def pN45 : List PySem.Str := [PySem.Str.ofString "seed", PySem.Str.ofString "index"]
theorem sc45 : FnScope nN45 pN45 (defScope (top 67)) := ⟨by kernel_rfl, by kernel_rfl, by kernel_rfl, by decide +kernel, by kernel_rfl, by decide +kernel, by decide +kernel⟩
theorem ck45 : ckSs tbT b__law_hash ⟨nN45, defScope (top 67), fun _ => true⟩ (defBody (top 67)) = true := by decide +kernel
def nN46 : List PySem.Str := [PySem.Str.ofString "generator", PySem.Str.ofString "bound", PySem.Str.ofString "drawn", PySem.Str.ofString "turn"]
def pN46 : List PySem.Str := [PySem.Str.ofString "generator", PySem.Str.ofString "bound"]
theorem sc46 : FnScope nN46 pN46 (defScope (top 68)) := ⟨by kernel_rfl, by kernel_rfl, by kernel_rfl, by decide +kernel, by kernel_rfl, by decide +kernel, by decide +kernel⟩
theorem ck46 : ckSs tbT b__law_random ⟨nN46, defScope (top 68), fun _ => true⟩ (defBody (top 68)) = true := by decide +kernel
def nN47 : List PySem.Str := [PySem.Str.ofString "script", PySem.Str.ofString "index"]
def pN47 : List PySem.Str := [PySem.Str.ofString "script", PySem.Str.ofString "index"]
theorem sc47 : FnScope nN47 pN47 (defScope (top 69)) := ⟨by kernel_rfl, by kernel_rfl, by kernel_rfl, by decide +kernel, by kernel_rfl, by decide +kernel, by decide +kernel⟩
theorem ck47 : ckSs tbT b__law_cell ⟨nN47, defScope (top 69), fun _ => true⟩ (defBody (top 69)) = true := by decide +kernel
def nN48 : List PySem.Str := [PySem.Str.ofString "script", PySem.Str.ofString "index", PySem.Str.ofString "seed"]
def pN48 : List PySem.Str := [PySem.Str.ofString "script", PySem.Str.ofString "index"]
theorem sc48 : FnScope nN48 pN48 (defScope (top 70)) := ⟨by kernel_rfl, by kernel_rfl, by kernel_rfl, by decide +kernel, by kernel_rfl, by decide +kernel, by decide +kernel⟩
theorem ck48 : ckSs tbT b__law_generator ⟨nN48, defScope (top 70), fun _ => true⟩ (defBody (top 70)) = true := by decide +kernel
def nN49 : List PySem.Str := [PySem.Str.ofString "generator", PySem.Str.ofString "things"]
def pN49 : List PySem.Str := [PySem.Str.ofString "generator", PySem.Str.ofString "things"]
theorem sc49 : FnScope nN49 pN49 (defScope (top 71)) := ⟨by kernel_rfl, by kernel_rfl, by kernel_rfl, by decide +kernel, by kernel_rfl, by decide +kernel, by decide +kernel⟩
theorem ck49 : ckSs tbT b__law_pick ⟨nN49, defScope (top 71), fun _ => true⟩ (defBody (top 71)) = true := by decide +kernel
def nN50 : List PySem.Str := [PySem.Str.ofString "top", PySem.Str.ofString "under", PySem.Str.ofString "one", PySem.Str.ofString "other"]
def pN50 : List PySem.Str := [PySem.Str.ofString "top", PySem.Str.ofString "under"]
theorem sc50 : FnScope nN50 pN50 (defScope (top 72)) := ⟨by kernel_rfl, by kernel_rfl, by kernel_rfl, by decide +kernel, by kernel_rfl, by decide +kernel, by decide +kernel⟩
theorem ck50 : ckSs tbT b__law_frac ⟨nN50, defScope (top 72), fun _ => true⟩ (defBody (top 72)) = true := by decide +kernel
def nN51 : List PySem.Str := [PySem.Str.ofString "one", PySem.Str.ofString "other"]
def pN51 : List PySem.Str := [PySem.Str.ofString "one", PySem.Str.ofString "other"]
theorem sc51 : FnScope nN51 pN51 (defScope (top 73)) := ⟨by kernel_rfl, by kernel_rfl, by kernel_rfl, by decide +kernel, by kernel_rfl, by decide +kernel, by decide +kernel⟩
theorem ck51 : ckSs tbT b__law_add ⟨nN51, defScope (top 73), fun _ => true⟩ (defBody (top 73)) = true := by decide +kernel
def nN52 : List PySem.Str := [PySem.Str.ofString "one", PySem.Str.ofString "other"]
def pN52 : List PySem.Str := [PySem.Str.ofString "one", PySem.Str.ofString "other"]
theorem sc52 : FnScope nN52 pN52 (defScope (top 74)) := ⟨by kernel_rfl, by kernel_rfl, by kernel_rfl, by decide +kernel, by kernel_rfl, by decide +kernel, by decide +kernel⟩
theorem ck52 : ckSs tbT b__law_sub ⟨nN52, defScope (top 74), fun _ => true⟩ (defBody (top 74)) = true := by decide +kernel
def nN53 : List PySem.Str := [PySem.Str.ofString "one", PySem.Str.ofString "other"]
def pN53 : List PySem.Str := [PySem.Str.ofString "one", PySem.Str.ofString "other"]
theorem sc53 : FnScope nN53 pN53 (defScope (top 75)) := ⟨by kernel_rfl, by kernel_rfl, by kernel_rfl, by decide +kernel, by kernel_rfl, by decide +kernel, by decide +kernel⟩
theorem ck53 : ckSs tbT b__law_mul ⟨nN53, defScope (top 75), fun _ => true⟩ (defBody (top 75)) = true := by decide +kernel
def nN54 : List PySem.Str := [PySem.Str.ofString "one", PySem.Str.ofString "other"]
def pN54 : List PySem.Str := [PySem.Str.ofString "one", PySem.Str.ofString "other"]
theorem sc54 : FnScope nN54 pN54 (defScope (top 76)) := ⟨by kernel_rfl, by kernel_rfl, by kernel_rfl, by decide +kernel, by kernel_rfl, by decide +kernel, by decide +kernel⟩
theorem ck54 : ckSs tbT b__law_below ⟨nN54, defScope (top 76), fun _ => true⟩ (defBody (top 76)) = true := by decide +kernel
def nN55 : List PySem.Str := [PySem.Str.ofString "due", PySem.Str.ofString "told", PySem.Str.ofString "at"]
def pN55 : List PySem.Str := [PySem.Str.ofString "due", PySem.Str.ofString "told"]
theorem sc55 : FnScope nN55 pN55 (defScope (top 77)) := ⟨by kernel_rfl, by kernel_rfl, by kernel_rfl, by decide +kernel, by kernel_rfl, by decide +kernel, by decide +kernel⟩
theorem ck55 : ckSs tbT b__law_exact ⟨nN55, defScope (top 77), fun _ => true⟩ (defBody (top 77)) = true := by decide +kernel
def nN56 : List PySem.Str := [PySem.Str.ofString "thing", PySem.Str.ofString "found", PySem.Str.ofString "part"]
def pN56 : List PySem.Str := [PySem.Str.ofString "thing"]
theorem sc56 : FnScope nN56 pN56 (defScope (top 78)) := ⟨by kernel_rfl, by kernel_rfl, by kernel_rfl, by decide +kernel, by kernel_rfl, by decide +kernel, by decide +kernel⟩
theorem ck56 : ckSs tbT b__law_lists ⟨nN56, defScope (top 78), fun _ => true⟩ (defBody (top 78)) = true := by decide +kernel
def nN57 : List PySem.Str := [PySem.Str.ofString "generator", PySem.Str.ofString "wide", PySem.Str.ofString "counts", PySem.Str.ofString "whole", PySem.Str.ofString "at", PySem.Str.ofString "count"]
def pN57 : List PySem.Str := [PySem.Str.ofString "generator", PySem.Str.ofString "wide"]
theorem sc57 : FnScope nN57 pN57 (defScope (top 79)) := ⟨by kernel_rfl, by kernel_rfl, by kernel_rfl, by decide +kernel, by kernel_rfl, by decide +kernel, by decide +kernel⟩
theorem ck57 : ckSs tbT b__law_chances ⟨nN57, defScope (top 79), fun _ => true⟩ (defBody (top 79)) = true := by decide +kernel
def nN58 : List PySem.Str := [PySem.Str.ofString "generator", PySem.Str.ofString "many", PySem.Str.ofString "wide", PySem.Str.ofString "standing"]
def pN58 : List PySem.Str := [PySem.Str.ofString "generator", PySem.Str.ofString "many", PySem.Str.ofString "wide"]
theorem sc58 : FnScope nN58 pN58 (defScope (top 80)) := ⟨by kernel_rfl, by kernel_rfl, by kernel_rfl, by decide +kernel, by kernel_rfl, by decide +kernel, by decide +kernel⟩
theorem ck58 : ckSs tbT b__law_look ⟨nN58, defScope (top 80), fun _ => true⟩ (defBody (top 80)) = true := by decide +kernel
def nN59 : List PySem.Str := [PySem.Str.ofString "generator", PySem.Str.ofString "many", PySem.Str.ofString "deeds", PySem.Str.ofString "deed", PySem.Str.ofString "standing"]
def pN59 : List PySem.Str := [PySem.Str.ofString "generator", PySem.Str.ofString "many", PySem.Str.ofString "deeds"]
theorem sc59 : FnScope nN59 pN59 (defScope (top 81)) := ⟨by kernel_rfl, by kernel_rfl, by kernel_rfl, by decide +kernel, by kernel_rfl, by decide +kernel, by decide +kernel⟩
theorem ck59 : ckSs tbT b__law_game ⟨nN59, defScope (top 81), fun _ => true⟩ (defBody (top 81)) = true := by decide +kernel
def nN60 : List PySem.Str := [PySem.Str.ofString "parts", PySem.Str.ofString "found", PySem.Str.ofString "part"]
def pN60 : List PySem.Str := [PySem.Str.ofString "parts"]
theorem sc60 : FnScope nN60 pN60 (defScope (top 82)) := ⟨by kernel_rfl, by kernel_rfl, by kernel_rfl, by decide +kernel, by kernel_rfl, by decide +kernel, by decide +kernel⟩
theorem ck60 : ckSs tbT b__law_total ⟨nN60, defScope (top 82), fun _ => true⟩ (defBody (top 82)) = true := by decide +kernel
def nN61 : List PySem.Str := [PySem.Str.ofString "one", PySem.Str.ofString "other", PySem.Str.ofString "here", PySem.Str.ofString "there"]
def pN61 : List PySem.Str := [PySem.Str.ofString "one", PySem.Str.ofString "other"]
theorem sc61 : FnScope nN61 pN61 (defScope (top 83)) := ⟨by kernel_rfl, by kernel_rfl, by kernel_rfl, by decide +kernel, by kernel_rfl, by decide +kernel, by decide +kernel⟩
theorem ck61 : ckSs tbT b__law_product ⟨nN61, defScope (top 83), fun _ => true⟩ (defBody (top 83)) = true := by decide +kernel
def nN62 : List PySem.Str := [PySem.Str.ofString "look", PySem.Str.ofString "mark", PySem.Str.ofString "row"]
def pN62 : List PySem.Str := [PySem.Str.ofString "look", PySem.Str.ofString "mark"]
theorem sc62 : FnScope nN62 pN62 (defScope (top 84)) := ⟨by kernel_rfl, by kernel_rfl, by kernel_rfl, by decide +kernel, by kernel_rfl, by decide +kernel, by decide +kernel⟩
theorem ck62 : ckSs tbT b__law_column ⟨nN62, defScope (top 84), fun _ => true⟩ (defBody (top 84)) = true := by decide +kernel
def nN63 : List PySem.Str := [PySem.Str.ofString "look", PySem.Str.ofString "belief", PySem.Str.ofString "game", PySem.Str.ofString "mark", PySem.Str.ofString "parts", PySem.Str.ofString "pays", PySem.Str.ofString "one", PySem.Str.ofString "chance"]
def pN63 : List PySem.Str := [PySem.Str.ofString "look", PySem.Str.ofString "belief", PySem.Str.ofString "game", PySem.Str.ofString "mark"]
theorem sc63 : FnScope nN63 pN63 (defScope (top 85)) := ⟨by kernel_rfl, by kernel_rfl, by kernel_rfl, by decide +kernel, by kernel_rfl, by decide +kernel, by decide +kernel⟩
theorem ck63 : ckSs tbT b__law_pays ⟨nN63, defScope (top 85), fun _ => true⟩ (defBody (top 85)) = true := by decide +kernel
def nN64 : List PySem.Str := [PySem.Str.ofString "parts", PySem.Str.ofString "found", PySem.Str.ofString "part"]
def pN64 : List PySem.Str := [PySem.Str.ofString "parts"]
theorem sc64 : FnScope nN64 pN64 (defScope (top 86)) := ⟨by kernel_rfl, by kernel_rfl, by kernel_rfl, by decide +kernel, by kernel_rfl, by decide +kernel, by decide +kernel⟩
theorem ck64 : ckSs tbT b__law_greatest ⟨nN64, defScope (top 86), fun _ => true⟩ (defBody (top 86)) = true := by decide +kernel
def nN65 : List PySem.Str := [PySem.Str.ofString "look", PySem.Str.ofString "belief", PySem.Str.ofString "game", PySem.Str.ofString "mark"]
def pN65 : List PySem.Str := [PySem.Str.ofString "look", PySem.Str.ofString "belief", PySem.Str.ofString "game"]
theorem sc65 : FnScope nN65 pN65 (defScope (top 87)) := ⟨by kernel_rfl, by kernel_rfl, by kernel_rfl, by decide +kernel, by kernel_rfl, by decide +kernel, by decide +kernel⟩
theorem ck65 : ckSs tbT b__law_worth ⟨nN65, defScope (top 87), fun _ => true⟩ (defBody (top 87)) = true := by decide +kernel
def nN66 : List PySem.Str := [PySem.Str.ofString "look", PySem.Str.ofString "belief", PySem.Str.ofString "game", PySem.Str.ofString "late", PySem.Str.ofString "found", PySem.Str.ofString "mark", PySem.Str.ofString "chance", PySem.Str.ofString "behind"]
def pN66 : List PySem.Str := [PySem.Str.ofString "look", PySem.Str.ofString "belief", PySem.Str.ofString "game", PySem.Str.ofString "late"]
theorem sc66 : FnScope nN66 pN66 (defScope (top 88)) := ⟨by kernel_rfl, by kernel_rfl, by kernel_rfl, by decide +kernel, by kernel_rfl, by decide +kernel, by decide +kernel⟩
theorem ck66 : ckSs tbT b__law_by_marks ⟨nN66, defScope (top 88), fun _ => true⟩ (defBody (top 88)) = true := by decide +kernel
def nN67 : List PySem.Str := [PySem.Str.ofString "script", PySem.Str.ofString "index", PySem.Str.ofString "generator", PySem.Str.ofString "many", PySem.Str.ofString "share", PySem.Str.ofString "due", PySem.Str.ofString "nothing", PySem.Str.ofString "lots", PySem.Str.ofString "one", PySem.Str.ofString "other", PySem.Str.ofString "game", PySem.Str.ofString "belief", PySem.Str.ofString "first", PySem.Str.ofString "second", PySem.Str.ofString "both", PySem.Str.ofString "mark"]
def pN67 : List PySem.Str := [PySem.Str.ofString "script"]
theorem sc67 : FnScope nN67 pN67 (defScope (top 89)) := ⟨by kernel_rfl, by kernel_rfl, by kernel_rfl, by decide +kernel, by kernel_rfl, by decide +kernel, by decide +kernel⟩
theorem ck67 : ckSs tbT b_law ⟨nN67, defScope (top 89), fun _ => true⟩ (defBody (top 89)) = true := by decide +kernel
def dfn (x : PySem.Str) (i : Nat) : He.DefD := ⟨(x, none), x, x, defArgs (top i), defBody (top i), defScope (top i), [], []⟩
def fn0 : List He.DefD := [dfn (PySem.Str.ofString "is_whole") 11, dfn (PySem.Str.ofString "common_divisor") 12, dfn (PySem.Str.ofString "lowest") 13, dfn (PySem.Str.ofString "is_fraction") 14, dfn (PySem.Str.ofString "is_amount") 15, dfn (PySem.Str.ofString "plus") 16, dfn (PySem.Str.ofString "less") 17, dfn (PySem.Str.ofString "times") 18, dfn (PySem.Str.ofString "over") 19, dfn (PySem.Str.ofString "is_less") 20, dfn (PySem.Str.ofString "summed") 21, dfn (PySem.Str.ofString "are_chances") 22, dfn (PySem.Str.ofString "are_fractions") 23, dfn (PySem.Str.ofString "greatest") 24, dfn (PySem.Str.ofString "product") 25, dfn (PySem.Str.ofString "is_look_by") 30, dfn (PySem.Str.ofString "check_look") 31, dfn (PySem.Str.ofString "standings_of") 32, dfn (PySem.Str.ofString "marks_of") 33, dfn (PySem.Str.ofString "column_of") 34, dfn (PySem.Str.ofString "check_alike") 35, dfn (PySem.Str.ofString "check_two") 36, dfn (PySem.Str.ofString "is_belief_by") 37, dfn (PySem.Str.ofString "check_belief") 38, dfn (PySem.Str.ofString "is_game_by") 39, dfn (PySem.Str.ofString "check_game") 40, dfn (PySem.Str.ofString "check_mark") 41, dfn (PySem.Str.ofString "is_lot_of") 42, dfn (PySem.Str.ofString "chance_by") 45, dfn (PySem.Str.ofString "chances_by") 46, dfn (PySem.Str.ofString "chances_of") 47, dfn (PySem.Str.ofString "behind_by") 48, dfn (PySem.Str.ofString "belief_behind") 49, dfn (PySem.Str.ofString "both_by") 53, dfn (PySem.Str.ofString "both_looks") 54, dfn (PySem.Str.ofString "either_by") 55, dfn (PySem.Str.ofString "either_look") 56, dfn (PySem.Str.ofString "joined_by") 57, dfn (PySem.Str.ofString "are_parts") 58, dfn (PySem.Str.ofString "marks_joined") 59]
def fn1 : List He.DefD := [dfn (PySem.Str.ofString "check_asked") 61, dfn (PySem.Str.ofString "weighed") 62, dfn (PySem.Str.ofString "pays_at") 63, dfn (PySem.Str.ofString "worth_by") 64, dfn (PySem.Str.ofString "worth") 65, dfn (PySem.Str.ofString "_law_hash") 67, dfn (PySem.Str.ofString "_law_random") 68, dfn (PySem.Str.ofString "_law_cell") 69, dfn (PySem.Str.ofString "_law_generator") 70, dfn (PySem.Str.ofString "_law_pick") 71, dfn (PySem.Str.ofString "_law_frac") 72, dfn (PySem.Str.ofString "_law_add") 73, dfn (PySem.Str.ofString "_law_sub") 74, dfn (PySem.Str.ofString "_law_mul") 75, dfn (PySem.Str.ofString "_law_below") 76, dfn (PySem.Str.ofString "_law_exact") 77, dfn (PySem.Str.ofString "_law_lists") 78, dfn (PySem.Str.ofString "_law_chances") 79, dfn (PySem.Str.ofString "_law_look") 80, dfn (PySem.Str.ofString "_law_game") 81, dfn (PySem.Str.ofString "_law_total") 82, dfn (PySem.Str.ofString "_law_product") 83, dfn (PySem.Str.ofString "_law_column") 84, dfn (PySem.Str.ofString "_law_pays") 85, dfn (PySem.Str.ofString "_law_greatest") 86, dfn (PySem.Str.ofString "_law_worth") 87, dfn (PySem.Str.ofString "_law_by_marks") 88, dfn (PySem.Str.ofString "law") 89]
def fn : List He.DefD := fn0 ++ fn1
def fa : List He.Fa := []
def names0 : List PySem.Str := [PySem.Str.ofString "LookError", PySem.Str.ofString "InvalidLook", PySem.Str.ofString "InvalidBelief", PySem.Str.ofString "InvalidGame", PySem.Str.ofString "InvalidMark", PySem.Str.ofString "InvalidAmount", PySem.Str.ofString "InvalidList", PySem.Str.ofString "Unlike", PySem.Str.ofString "TooMany", PySem.Str.ofString "is_whole", PySem.Str.ofString "common_divisor", PySem.Str.ofString "lowest", PySem.Str.ofString "is_fraction", PySem.Str.ofString "is_amount", PySem.Str.ofString "plus", PySem.Str.ofString "less", PySem.Str.ofString "times", PySem.Str.ofString "over", PySem.Str.ofString "is_less", PySem.Str.ofString "summed"]
def names1 : List PySem.Str := [PySem.Str.ofString "are_chances", PySem.Str.ofString "are_fractions", PySem.Str.ofString "greatest", PySem.Str.ofString "product", PySem.Str.ofString "MOST_STANDINGS", PySem.Str.ofString "MOST_MARKS", PySem.Str.ofString "MOST_DEEDS", PySem.Str.ofString "is_look_by", PySem.Str.ofString "check_look", PySem.Str.ofString "standings_of", PySem.Str.ofString "marks_of", PySem.Str.ofString "column_of", PySem.Str.ofString "check_alike", PySem.Str.ofString "check_two", PySem.Str.ofString "is_belief_by", PySem.Str.ofString "check_belief", PySem.Str.ofString "is_game_by", PySem.Str.ofString "check_game", PySem.Str.ofString "check_mark", PySem.Str.ofString "is_lot_of"]
def names2 : List PySem.Str := [PySem.Str.ofString "NONE_looks", PySem.Str.ofString "chance_by", PySem.Str.ofString "chances_by", PySem.Str.ofString "chances_of", PySem.Str.ofString "behind_by", PySem.Str.ofString "belief_behind", PySem.Str.ofString "NONE_joining", PySem.Str.ofString "ONE", PySem.Str.ofString "both_by", PySem.Str.ofString "both_looks", PySem.Str.ofString "either_by", PySem.Str.ofString "either_look", PySem.Str.ofString "joined_by", PySem.Str.ofString "are_parts", PySem.Str.ofString "marks_joined", PySem.Str.ofString "check_asked", PySem.Str.ofString "weighed", PySem.Str.ofString "pays_at", PySem.Str.ofString "worth_by", PySem.Str.ofString "worth"]
def names3 : List PySem.Str := [PySem.Str.ofString "_law_hash", PySem.Str.ofString "_law_random", PySem.Str.ofString "_law_cell", PySem.Str.ofString "_law_generator", PySem.Str.ofString "_law_pick", PySem.Str.ofString "_law_frac", PySem.Str.ofString "_law_add", PySem.Str.ofString "_law_sub", PySem.Str.ofString "_law_mul", PySem.Str.ofString "_law_below", PySem.Str.ofString "_law_exact", PySem.Str.ofString "_law_lists", PySem.Str.ofString "_law_chances", PySem.Str.ofString "_law_look", PySem.Str.ofString "_law_game", PySem.Str.ofString "_law_total", PySem.Str.ofString "_law_product", PySem.Str.ofString "_law_column", PySem.Str.ofString "_law_pays", PySem.Str.ofString "_law_greatest"]
def names4 : List PySem.Str := [PySem.Str.ofString "_law_worth", PySem.Str.ofString "_law_by_marks"]
def names : List PySem.Str := names0 ++ names1 ++ names2 ++ names3 ++ names4
abbrev R : PySem.W.OpenRow := PySem.W.OpenLaw.row PySem.Challenge.rw_lookstell_k21_whole_worths_of_looks_toge
def dLaw : DefRec := HandSHeadRun.topDef R.prog 89
def qv : Program := PySem.W.view R.prog [89]
abbrev hk : PySem.W.Hook := hookE nm C 5 fa fn
def ob (s : PySem.W.SharedT) : AlE := obsE nm C 5 fa fn (HandSHeadRun.getT s)
theorem ob_eq (s : PySem.W.SharedT) : ob s = hk.obs s.abs := obsE_eq (HandSHeadRun.getT_eq s)
theorem runH (w : World) : HandSHeadRun.RunEq R qv hk ob 8000 names w := by
  intro os
  kernel_rfl
section
variable {P : Program} {w : World} {K : PySem.W.Frag} {mg : PySem.Str → Option Value} {b : Heap}
theorem fdA (c : He.SaysD fa fn K) : ∀ f, f < 68 → PySem.W.keepIn K (.ref (He.ga K (nm.f f))) = true ∧ FdOk (gOf nm P w K mg b) tbT tbl f
  | 0, _ => by
    obtain ⟨fd, Fd⟩ := c.def_ 0 (d := dfn (PySem.Str.ofString "is_whole") 11) (by rfl)
    exact ⟨Fd.kp, fd_of (df := df_is_whole) Fd rfl sc0 rfl rfl rfl (by decide) ck0 fun _ _ _ _ _ _ us hl => match us, hl with | [_], _ => rfl⟩
  | 1, _ => by
    obtain ⟨fd, Fd⟩ := c.def_ 1 (d := dfn (PySem.Str.ofString "common_divisor") 12) (by rfl)
    exact ⟨Fd.kp, fd_of (df := df_common_divisor) Fd rfl sc1 rfl rfl rfl (by decide) ck1 fun _ _ _ _ _ _ us hl => match us, hl with | [_, _], _ => rfl⟩
  | 2, _ => by
    obtain ⟨fd, Fd⟩ := c.def_ 2 (d := dfn (PySem.Str.ofString "lowest") 13) (by rfl)
    exact ⟨Fd.kp, fd_of (df := df_lowest) Fd rfl sc2 rfl rfl rfl (by decide) ck2 fun _ _ _ _ _ _ us hl => match us, hl with | [_, _], _ => rfl⟩
  | 3, _ => by
    obtain ⟨fd, Fd⟩ := c.def_ 3 (d := dfn (PySem.Str.ofString "is_fraction") 14) (by rfl)
    exact ⟨Fd.kp, fd_of (df := df_is_fraction) Fd rfl sc3 rfl rfl rfl (by decide) ck3 fun _ _ _ _ _ _ us hl => match us, hl with | [_], _ => rfl⟩
  | 4, _ => by
    obtain ⟨fd, Fd⟩ := c.def_ 4 (d := dfn (PySem.Str.ofString "is_amount") 15) (by rfl)
    exact ⟨Fd.kp, fd_of (df := df_is_amount) Fd rfl sc4 rfl rfl rfl (by decide) ck4 fun _ _ _ _ _ _ us hl => match us, hl with | [_], _ => rfl⟩
  | 5, _ => by
    obtain ⟨fd, Fd⟩ := c.def_ 5 (d := dfn (PySem.Str.ofString "plus") 16) (by rfl)
    exact ⟨Fd.kp, fd_of (df := df_plus) Fd rfl sc5 rfl rfl rfl (by decide) ck5 fun _ _ _ _ _ _ us hl => match us, hl with | [_, _], _ => rfl⟩
  | 6, _ => by
    obtain ⟨fd, Fd⟩ := c.def_ 6 (d := dfn (PySem.Str.ofString "less") 17) (by rfl)
    exact ⟨Fd.kp, fd_of (df := df_less) Fd rfl sc6 rfl rfl rfl (by decide) ck6 fun _ _ _ _ _ _ us hl => match us, hl with | [_, _], _ => rfl⟩
  | 7, _ => by
    obtain ⟨fd, Fd⟩ := c.def_ 7 (d := dfn (PySem.Str.ofString "times") 18) (by rfl)
    exact ⟨Fd.kp, fd_of (df := df_times) Fd rfl sc7 rfl rfl rfl (by decide) ck7 fun _ _ _ _ _ _ us hl => match us, hl with | [_, _], _ => rfl⟩
  | 8, _ => by
    obtain ⟨fd, Fd⟩ := c.def_ 8 (d := dfn (PySem.Str.ofString "over") 19) (by rfl)
    exact ⟨Fd.kp, fd_of (df := df_over) Fd rfl sc8 rfl rfl rfl (by decide) ck8 fun _ _ _ _ _ _ us hl => match us, hl with | [_, _], _ => rfl⟩
  | 9, _ => by
    obtain ⟨fd, Fd⟩ := c.def_ 9 (d := dfn (PySem.Str.ofString "is_less") 20) (by rfl)
    exact ⟨Fd.kp, fd_of (df := df_is_less) Fd rfl sc9 rfl rfl rfl (by decide) ck9 fun _ _ _ _ _ _ us hl => match us, hl with | [_, _], _ => rfl⟩
  | 10, _ => by
    obtain ⟨fd, Fd⟩ := c.def_ 10 (d := dfn (PySem.Str.ofString "summed") 21) (by rfl)
    exact ⟨Fd.kp, fd_of (df := df_summed) Fd rfl sc10 rfl rfl rfl (by decide) ck10 fun _ _ _ _ _ _ us hl => match us, hl with | [_], _ => rfl⟩
  | 11, _ => by
    obtain ⟨fd, Fd⟩ := c.def_ 11 (d := dfn (PySem.Str.ofString "are_chances") 22) (by rfl)
    exact ⟨Fd.kp, fd_of (df := df_are_chances) Fd rfl sc11 rfl rfl rfl (by decide) ck11 fun _ _ _ _ _ _ us hl => match us, hl with | [_, _], _ => rfl⟩
  | 12, _ => by
    obtain ⟨fd, Fd⟩ := c.def_ 12 (d := dfn (PySem.Str.ofString "are_fractions") 23) (by rfl)
    exact ⟨Fd.kp, fd_of (df := df_are_fractions) Fd rfl sc12 rfl rfl rfl (by decide) ck12 fun _ _ _ _ _ _ us hl => match us, hl with | [_, _], _ => rfl⟩
  | 13, _ => by
    obtain ⟨fd, Fd⟩ := c.def_ 13 (d := dfn (PySem.Str.ofString "greatest") 24) (by rfl)
    exact ⟨Fd.kp, fd_of (df := df_greatest) Fd rfl sc13 rfl rfl rfl (by decide) ck13 fun _ _ _ _ _ _ us hl => match us, hl with | [_], _ => rfl⟩
  | 14, _ => by
    obtain ⟨fd, Fd⟩ := c.def_ 14 (d := dfn (PySem.Str.ofString "product") 25) (by rfl)
    exact ⟨Fd.kp, fd_of (df := df_product) Fd rfl sc14 rfl rfl rfl (by decide) ck14 fun _ _ _ _ _ _ us hl => match us, hl with | [_, _], _ => rfl⟩
  | 15, _ => by
    obtain ⟨fd, Fd⟩ := c.def_ 15 (d := dfn (PySem.Str.ofString "is_look_by") 30) (by rfl)
    exact ⟨Fd.kp, fd_of (df := df_is_look_by) Fd rfl sc15 rfl rfl rfl (by decide) ck15 fun _ _ _ _ _ _ us hl => match us, hl with | [_], _ => rfl⟩
  | 16, _ => by
    obtain ⟨fd, Fd⟩ := c.def_ 16 (d := dfn (PySem.Str.ofString "check_look") 31) (by rfl)
    exact ⟨Fd.kp, fd_of (df := df_check_look) Fd rfl sc16 rfl rfl rfl (by decide) ck16 fun _ _ _ _ _ _ us hl => match us, hl with | [_], _ => rfl⟩
  | 17, _ => by
    obtain ⟨fd, Fd⟩ := c.def_ 17 (d := dfn (PySem.Str.ofString "standings_of") 32) (by rfl)
    exact ⟨Fd.kp, fd_of (df := df_standings_of) Fd rfl sc17 rfl rfl rfl (by decide) ck17 fun _ _ _ _ _ _ us hl => match us, hl with | [_], _ => rfl⟩
  | 18, _ => by
    obtain ⟨fd, Fd⟩ := c.def_ 18 (d := dfn (PySem.Str.ofString "marks_of") 33) (by rfl)
    exact ⟨Fd.kp, fd_of (df := df_marks_of) Fd rfl sc18 rfl rfl rfl (by decide) ck18 fun _ _ _ _ _ _ us hl => match us, hl with | [_], _ => rfl⟩
  | 19, _ => by
    obtain ⟨fd, Fd⟩ := c.def_ 19 (d := dfn (PySem.Str.ofString "column_of") 34) (by rfl)
    exact ⟨Fd.kp, fd_of (df := df_column_of) Fd rfl sc19 rfl rfl rfl (by decide) ck19 fun _ _ _ _ _ _ us hl => match us, hl with | [_, _], _ => rfl⟩
  | 20, _ => by
    obtain ⟨fd, Fd⟩ := c.def_ 20 (d := dfn (PySem.Str.ofString "check_alike") 35) (by rfl)
    exact ⟨Fd.kp, fd_of (df := df_check_alike) Fd rfl sc20 rfl rfl rfl (by decide) ck20 fun _ _ _ _ _ _ us hl => match us, hl with | [_, _], _ => rfl⟩
  | 21, _ => by
    obtain ⟨fd, Fd⟩ := c.def_ 21 (d := dfn (PySem.Str.ofString "check_two") 36) (by rfl)
    exact ⟨Fd.kp, fd_of (df := df_check_two) Fd rfl sc21 rfl rfl rfl (by decide) ck21 fun _ _ _ _ _ _ us hl => match us, hl with | [_, _], _ => rfl⟩
  | 22, _ => by
    obtain ⟨fd, Fd⟩ := c.def_ 22 (d := dfn (PySem.Str.ofString "is_belief_by") 37) (by rfl)
    exact ⟨Fd.kp, fd_of (df := df_is_belief_by) Fd rfl sc22 rfl rfl rfl (by decide) ck22 fun _ _ _ _ _ _ us hl => match us, hl with | [_, _], _ => rfl⟩
  | 23, _ => by
    obtain ⟨fd, Fd⟩ := c.def_ 23 (d := dfn (PySem.Str.ofString "check_belief") 38) (by rfl)
    exact ⟨Fd.kp, fd_of (df := df_check_belief) Fd rfl sc23 rfl rfl rfl (by decide) ck23 fun _ _ _ _ _ _ us hl => match us, hl with | [_, _], _ => rfl⟩
  | 24, _ => by
    obtain ⟨fd, Fd⟩ := c.def_ 24 (d := dfn (PySem.Str.ofString "is_game_by") 39) (by rfl)
    exact ⟨Fd.kp, fd_of (df := df_is_game_by) Fd rfl sc24 rfl rfl rfl (by decide) ck24 fun _ _ _ _ _ _ us hl => match us, hl with | [_], _ => rfl⟩
  | 25, _ => by
    obtain ⟨fd, Fd⟩ := c.def_ 25 (d := dfn (PySem.Str.ofString "check_game") 40) (by rfl)
    exact ⟨Fd.kp, fd_of (df := df_check_game) Fd rfl sc25 rfl rfl rfl (by decide) ck25 fun _ _ _ _ _ _ us hl => match us, hl with | [_, _], _ => rfl⟩
  | 26, _ => by
    obtain ⟨fd, Fd⟩ := c.def_ 26 (d := dfn (PySem.Str.ofString "check_mark") 41) (by rfl)
    exact ⟨Fd.kp, fd_of (df := df_check_mark) Fd rfl sc26 rfl rfl rfl (by decide) ck26 fun _ _ _ _ _ _ us hl => match us, hl with | [_, _], _ => rfl⟩
  | 27, _ => by
    obtain ⟨fd, Fd⟩ := c.def_ 27 (d := dfn (PySem.Str.ofString "is_lot_of") 42) (by rfl)
    exact ⟨Fd.kp, fd_of (df := df_is_lot_of) Fd rfl sc27 rfl rfl rfl (by decide) ck27 fun _ _ _ _ _ _ us hl => match us, hl with | [_, _], _ => rfl⟩
  | 28, _ => by
    obtain ⟨fd, Fd⟩ := c.def_ 28 (d := dfn (PySem.Str.ofString "chance_by") 45) (by rfl)
    exact ⟨Fd.kp, fd_of (df := df_chance_by) Fd rfl sc28 rfl rfl rfl (by decide) ck28 fun _ _ _ _ _ _ us hl => match us, hl with | [_, _, _], _ => rfl⟩
  | 29, _ => by
    obtain ⟨fd, Fd⟩ := c.def_ 29 (d := dfn (PySem.Str.ofString "chances_by") 46) (by rfl)
    exact ⟨Fd.kp, fd_of (df := df_chances_by) Fd rfl sc29 rfl rfl rfl (by decide) ck29 fun _ _ _ _ _ _ us hl => match us, hl with | [_, _], _ => rfl⟩
  | 30, _ => by
    obtain ⟨fd, Fd⟩ := c.def_ 30 (d := dfn (PySem.Str.ofString "chances_of") 47) (by rfl)
    exact ⟨Fd.kp, fd_of (df := df_chances_of) Fd rfl sc30 rfl rfl rfl (by decide) ck30 fun _ _ _ _ _ _ us hl => match us, hl with | [_, _], _ => rfl⟩
  | 31, _ => by
    obtain ⟨fd, Fd⟩ := c.def_ 31 (d := dfn (PySem.Str.ofString "behind_by") 48) (by rfl)
    exact ⟨Fd.kp, fd_of (df := df_behind_by) Fd rfl sc31 rfl rfl rfl (by decide) ck31 fun _ _ _ _ _ _ us hl => match us, hl with | [_, _, _], _ => rfl⟩
  | 32, _ => by
    obtain ⟨fd, Fd⟩ := c.def_ 32 (d := dfn (PySem.Str.ofString "belief_behind") 49) (by rfl)
    exact ⟨Fd.kp, fd_of (df := df_belief_behind) Fd rfl sc32 rfl rfl rfl (by decide) ck32 fun _ _ _ _ _ _ us hl => match us, hl with | [_, _, _], _ => rfl⟩
  | 33, _ => by
    obtain ⟨fd, Fd⟩ := c.def_ 33 (d := dfn (PySem.Str.ofString "both_by") 53) (by rfl)
    exact ⟨Fd.kp, fd_of (df := df_both_by) Fd rfl sc33 rfl rfl rfl (by decide) ck33 fun _ _ _ _ _ _ us hl => match us, hl with | [_, _], _ => rfl⟩
  | 34, _ => by
    obtain ⟨fd, Fd⟩ := c.def_ 34 (d := dfn (PySem.Str.ofString "both_looks") 54) (by rfl)
    exact ⟨Fd.kp, fd_of (df := df_both_looks) Fd rfl sc34 rfl rfl rfl (by decide) ck34 fun _ _ _ _ _ _ us hl => match us, hl with | [_, _], _ => rfl⟩
  | 35, _ => by
    obtain ⟨fd, Fd⟩ := c.def_ 35 (d := dfn (PySem.Str.ofString "either_by") 55) (by rfl)
    exact ⟨Fd.kp, fd_of (df := df_either_by) Fd rfl sc35 rfl rfl rfl (by decide) ck35 fun _ _ _ _ _ _ us hl => match us, hl with | [_, _, _], _ => rfl⟩
  | 36, _ => by
    obtain ⟨fd, Fd⟩ := c.def_ 36 (d := dfn (PySem.Str.ofString "either_look") 56) (by rfl)
    exact ⟨Fd.kp, fd_of (df := df_either_look) Fd rfl sc36 rfl rfl rfl (by decide) ck36 fun _ _ _ _ _ _ us hl => match us, hl with | [_, _, _], _ => rfl⟩
  | 37, _ => by
    obtain ⟨fd, Fd⟩ := c.def_ 37 (d := dfn (PySem.Str.ofString "joined_by") 57) (by rfl)
    exact ⟨Fd.kp, fd_of (df := df_joined_by) Fd rfl sc37 rfl rfl rfl (by decide) ck37 fun _ _ _ _ _ _ us hl => match us, hl with | [_, _], _ => rfl⟩
  | 38, _ => by
    obtain ⟨fd, Fd⟩ := c.def_ 38 (d := dfn (PySem.Str.ofString "are_parts") 58) (by rfl)
    exact ⟨Fd.kp, fd_of (df := df_are_parts) Fd rfl sc38 rfl rfl rfl (by decide) ck38 fun _ _ _ _ _ _ us hl => match us, hl with | [_, _], _ => rfl⟩
  | 39, _ => by
    obtain ⟨fd, Fd⟩ := c.def_ 39 (d := dfn (PySem.Str.ofString "marks_joined") 59) (by rfl)
    exact ⟨Fd.kp, fd_of (df := df_marks_joined) Fd rfl sc39 rfl rfl rfl (by decide) ck39 fun _ _ _ _ _ _ us hl => match us, hl with | [_, _], _ => rfl⟩
  | 40, _ => by
    obtain ⟨fd, Fd⟩ := c.def_ 40 (d := dfn (PySem.Str.ofString "check_asked") 61) (by rfl)
    exact ⟨Fd.kp, fd_of (df := df_check_asked) Fd rfl sc40 rfl rfl rfl (by decide) ck40 fun _ _ _ _ _ _ us hl => match us, hl with | [_, _, _], _ => rfl⟩
  | 41, _ => by
    obtain ⟨fd, Fd⟩ := c.def_ 41 (d := dfn (PySem.Str.ofString "weighed") 62) (by rfl)
    exact ⟨Fd.kp, fd_of (df := df_weighed) Fd rfl sc41 rfl rfl rfl (by decide) ck41 fun _ _ _ _ _ _ us hl => match us, hl with | [_, _, _], _ => rfl⟩
  | 42, _ => by
    obtain ⟨fd, Fd⟩ := c.def_ 42 (d := dfn (PySem.Str.ofString "pays_at") 63) (by rfl)
    exact ⟨Fd.kp, fd_of (df := df_pays_at) Fd rfl sc42 rfl rfl rfl (by decide) ck42 fun _ _ _ _ _ _ us hl => match us, hl with | [_, _, _, _], _ => rfl⟩
  | 43, _ => by
    obtain ⟨fd, Fd⟩ := c.def_ 43 (d := dfn (PySem.Str.ofString "worth_by") 64) (by rfl)
    exact ⟨Fd.kp, fd_of (df := df_worth_by) Fd rfl sc43 rfl rfl rfl (by decide) ck43 fun _ _ _ _ _ _ us hl => match us, hl with | [_, _, _], _ => rfl⟩
  | 44, _ => by
    obtain ⟨fd, Fd⟩ := c.def_ 44 (d := dfn (PySem.Str.ofString "worth") 65) (by rfl)
    exact ⟨Fd.kp, fd_of (df := df_worth) Fd rfl sc44 rfl rfl rfl (by decide) ck44 fun _ _ _ _ _ _ us hl => match us, hl with | [_, _, _], _ => rfl⟩
  | 45, _ => by
    obtain ⟨fd, Fd⟩ := c.def_ 45 (d := dfn (PySem.Str.ofString "_law_hash") 67) (by rfl)
    exact ⟨Fd.kp, fd_of (df := df__law_hash) Fd rfl sc45 rfl rfl rfl (by decide) ck45 fun _ _ _ _ _ _ us hl => match us, hl with | [_, _], _ => rfl⟩
  | 46, _ => by
    obtain ⟨fd, Fd⟩ := c.def_ 46 (d := dfn (PySem.Str.ofString "_law_random") 68) (by rfl)
    exact ⟨Fd.kp, fd_of (df := df__law_random) Fd rfl sc46 rfl rfl rfl (by decide) ck46 fun _ _ _ _ _ _ us hl => match us, hl with | [_, _], _ => rfl⟩
  | 47, _ => by
    obtain ⟨fd, Fd⟩ := c.def_ 47 (d := dfn (PySem.Str.ofString "_law_cell") 69) (by rfl)
    exact ⟨Fd.kp, fd_of (df := df__law_cell) Fd rfl sc47 rfl rfl rfl (by decide) ck47 fun _ _ _ _ _ _ us hl => match us, hl with | [_, _], _ => rfl⟩
  | 48, _ => by
    obtain ⟨fd, Fd⟩ := c.def_ 48 (d := dfn (PySem.Str.ofString "_law_generator") 70) (by rfl)
    exact ⟨Fd.kp, fd_of (df := df__law_generator) Fd rfl sc48 rfl rfl rfl (by decide) ck48 fun _ _ _ _ _ _ us hl => match us, hl with | [_, _], _ => rfl⟩
  | 49, _ => by
    obtain ⟨fd, Fd⟩ := c.def_ 49 (d := dfn (PySem.Str.ofString "_law_pick") 71) (by rfl)
    exact ⟨Fd.kp, fd_of (df := df__law_pick) Fd rfl sc49 rfl rfl rfl (by decide) ck49 fun _ _ _ _ _ _ us hl => match us, hl with | [_, _], _ => rfl⟩
  | 50, _ => by
    obtain ⟨fd, Fd⟩ := c.def_ 50 (d := dfn (PySem.Str.ofString "_law_frac") 72) (by rfl)
    exact ⟨Fd.kp, fd_of (df := df__law_frac) Fd rfl sc50 rfl rfl rfl (by decide) ck50 fun _ _ _ _ _ _ us hl => match us, hl with | [_, _], _ => rfl⟩
  | 51, _ => by
    obtain ⟨fd, Fd⟩ := c.def_ 51 (d := dfn (PySem.Str.ofString "_law_add") 73) (by rfl)
    exact ⟨Fd.kp, fd_of (df := df__law_add) Fd rfl sc51 rfl rfl rfl (by decide) ck51 fun _ _ _ _ _ _ us hl => match us, hl with | [_, _], _ => rfl⟩
  | 52, _ => by
    obtain ⟨fd, Fd⟩ := c.def_ 52 (d := dfn (PySem.Str.ofString "_law_sub") 74) (by rfl)
    exact ⟨Fd.kp, fd_of (df := df__law_sub) Fd rfl sc52 rfl rfl rfl (by decide) ck52 fun _ _ _ _ _ _ us hl => match us, hl with | [_, _], _ => rfl⟩
  | 53, _ => by
    obtain ⟨fd, Fd⟩ := c.def_ 53 (d := dfn (PySem.Str.ofString "_law_mul") 75) (by rfl)
    exact ⟨Fd.kp, fd_of (df := df__law_mul) Fd rfl sc53 rfl rfl rfl (by decide) ck53 fun _ _ _ _ _ _ us hl => match us, hl with | [_, _], _ => rfl⟩
  | 54, _ => by
    obtain ⟨fd, Fd⟩ := c.def_ 54 (d := dfn (PySem.Str.ofString "_law_below") 76) (by rfl)
    exact ⟨Fd.kp, fd_of (df := df__law_below) Fd rfl sc54 rfl rfl rfl (by decide) ck54 fun _ _ _ _ _ _ us hl => match us, hl with | [_, _], _ => rfl⟩
  | 55, _ => by
    obtain ⟨fd, Fd⟩ := c.def_ 55 (d := dfn (PySem.Str.ofString "_law_exact") 77) (by rfl)
    exact ⟨Fd.kp, fd_of (df := df__law_exact) Fd rfl sc55 rfl rfl rfl (by decide) ck55 fun _ _ _ _ _ _ us hl => match us, hl with | [_, _], _ => rfl⟩
  | 56, _ => by
    obtain ⟨fd, Fd⟩ := c.def_ 56 (d := dfn (PySem.Str.ofString "_law_lists") 78) (by rfl)
    exact ⟨Fd.kp, fd_of (df := df__law_lists) Fd rfl sc56 rfl rfl rfl (by decide) ck56 fun _ _ _ _ _ _ us hl => match us, hl with | [_], _ => rfl⟩
  | 57, _ => by
    obtain ⟨fd, Fd⟩ := c.def_ 57 (d := dfn (PySem.Str.ofString "_law_chances") 79) (by rfl)
    exact ⟨Fd.kp, fd_of (df := df__law_chances) Fd rfl sc57 rfl rfl rfl (by decide) ck57 fun _ _ _ _ _ _ us hl => match us, hl with | [_, _], _ => rfl⟩
  | 58, _ => by
    obtain ⟨fd, Fd⟩ := c.def_ 58 (d := dfn (PySem.Str.ofString "_law_look") 80) (by rfl)
    exact ⟨Fd.kp, fd_of (df := df__law_look) Fd rfl sc58 rfl rfl rfl (by decide) ck58 fun _ _ _ _ _ _ us hl => match us, hl with | [_, _, _], _ => rfl⟩
  | 59, _ => by
    obtain ⟨fd, Fd⟩ := c.def_ 59 (d := dfn (PySem.Str.ofString "_law_game") 81) (by rfl)
    exact ⟨Fd.kp, fd_of (df := df__law_game) Fd rfl sc59 rfl rfl rfl (by decide) ck59 fun _ _ _ _ _ _ us hl => match us, hl with | [_, _, _], _ => rfl⟩
  | 60, _ => by
    obtain ⟨fd, Fd⟩ := c.def_ 60 (d := dfn (PySem.Str.ofString "_law_total") 82) (by rfl)
    exact ⟨Fd.kp, fd_of (df := df__law_total) Fd rfl sc60 rfl rfl rfl (by decide) ck60 fun _ _ _ _ _ _ us hl => match us, hl with | [_], _ => rfl⟩
  | 61, _ => by
    obtain ⟨fd, Fd⟩ := c.def_ 61 (d := dfn (PySem.Str.ofString "_law_product") 83) (by rfl)
    exact ⟨Fd.kp, fd_of (df := df__law_product) Fd rfl sc61 rfl rfl rfl (by decide) ck61 fun _ _ _ _ _ _ us hl => match us, hl with | [_, _], _ => rfl⟩
  | 62, _ => by
    obtain ⟨fd, Fd⟩ := c.def_ 62 (d := dfn (PySem.Str.ofString "_law_column") 84) (by rfl)
    exact ⟨Fd.kp, fd_of (df := df__law_column) Fd rfl sc62 rfl rfl rfl (by decide) ck62 fun _ _ _ _ _ _ us hl => match us, hl with | [_, _], _ => rfl⟩
  | 63, _ => by
    obtain ⟨fd, Fd⟩ := c.def_ 63 (d := dfn (PySem.Str.ofString "_law_pays") 85) (by rfl)
    exact ⟨Fd.kp, fd_of (df := df__law_pays) Fd rfl sc63 rfl rfl rfl (by decide) ck63 fun _ _ _ _ _ _ us hl => match us, hl with | [_, _, _, _], _ => rfl⟩
  | 64, _ => by
    obtain ⟨fd, Fd⟩ := c.def_ 64 (d := dfn (PySem.Str.ofString "_law_greatest") 86) (by rfl)
    exact ⟨Fd.kp, fd_of (df := df__law_greatest) Fd rfl sc64 rfl rfl rfl (by decide) ck64 fun _ _ _ _ _ _ us hl => match us, hl with | [_], _ => rfl⟩
  | 65, _ => by
    obtain ⟨fd, Fd⟩ := c.def_ 65 (d := dfn (PySem.Str.ofString "_law_worth") 87) (by rfl)
    exact ⟨Fd.kp, fd_of (df := df__law_worth) Fd rfl sc65 rfl rfl rfl (by decide) ck65 fun _ _ _ _ _ _ us hl => match us, hl with | [_, _, _], _ => rfl⟩
  | 66, _ => by
    obtain ⟨fd, Fd⟩ := c.def_ 66 (d := dfn (PySem.Str.ofString "_law_by_marks") 88) (by rfl)
    exact ⟨Fd.kp, fd_of (df := df__law_by_marks) Fd rfl sc66 rfl rfl rfl (by decide) ck66 fun _ _ _ _ _ _ us hl => match us, hl with | [_, _, _, _], _ => rfl⟩
  | 67, _ => by
    obtain ⟨fd, Fd⟩ := c.def_ 67 (d := dfn (PySem.Str.ofString "law") 89) (by rfl)
    exact ⟨Fd.kp, fd_of (df := df_law) Fd rfl sc67 rfl rfl rfl (by decide) ck67 fun _ _ _ _ _ _ us hl => match us, hl with | [_], _ => rfl⟩
  | k + 68, h => absurd h (Nat.not_lt_of_le (Nat.le_add_left ..))
end
theorem g_e : PySem.W.opening R.prog = PySem.W.plainProg R.prog.main.scope.names := by kernel_rfl
theorem g_f : ∀ s, fenceModules? R.prog s = some s := fun s => by kernel_rfl
theorem g_def : PySem.W.defOf qv R.name = some (dLaw, []) := by kernel_rfl
theorem g_p : R.prog.theDef R.name = some (dLaw.params, dLaw.body, dLaw.scope) := by kernel_rfl
theorem g_kw : PySem.W.kwWritten? dLaw.params.kwonlyargs dLaw.params.kw_defaults = some [] := by kernel_rfl
theorem g_wr : (!R.writes || R.records.isEmpty) = true := by rfl
theorem g_k1 : R.wellSaid = true := by decide +kernel
theorem g_ok : (PySem.W.chainsOk qv && PySem.W.opensWell R.prog && (PySem.W.frees R.toRowW && R.within.isEmpty)) = true := by decide +kernel
theorem g_b : R.prog.bare := ⟨rfl, rfl, rfl, rfl, rfl, by decide +kernel⟩
theorem g_hw : R.toRowW.promised := by w_witness2
theorem g_most : (PySem.Challenge.rw_lookstell_k21_whole_worths_of_looks_toge).most = some 63 := by kernel_rfl
theorem g_dfl : dLaw.params.defaults = [] := by kernel_rfl
theorem g_name : dLaw.name = ("law" : PySem.Str) := by kernel_rfl
theorem g_lk : nm.gl.lookup ("law" : PySem.Str) = some (.fn f_law) := by kernel_rfl
theorem g_len : nm.fs.length = 68 := by decide +kernel
theorem g_call (LV : Nat) (hr : Room LV callerA) (say : ∀ ns : List Int, ns.length ≤ 63 → run C tbl LV f_law [.scr ns] [] = .ok (.bl true) []) : PySem.W.WalkO qv names (PySem.W.XL qv []) hk.says R.toRowW dLaw [] fun f vs => PySem.call f vs := by
  refine walk_g (l := PySem.Challenge.rw_lookstell_k21_whole_worths_of_looks_toge) (nm := 63) (kk := LV) g_most (by decide) g_dfl hr ?F
  intro wo gm fa' h Y N hmg0
  obtain ⟨K, KX, c, e⟩ := Y
  rw [g_name] at hmg0
  have keep : ∀ f, f < nm.fs.length → PySem.W.keepIn K (.ref (He.ga K (nm.f f))) = true := fun f hf => (fdA (P := R.prog) (w := wo) (mg := gm) (b := h) c f (by rw [← g_len]; exact hf)).1
  have T0 : TbOk (gOf nm R.prog wo K gm h) tbT := ex_tb e KX N keep
  have hl : He.ga K (nm.f f_law) = fa' := by
    have q := (T0.fn ("law" : PySem.Str) f_law g_lk).1
    have q2 := hmg0.symm.trans q
    cases q2
    rfl
  have W : ∀ b : Heap, Wk (gOf nm R.prog wo K gm b) C tbT (run C tbl LV) LV := fun b =>
    level (ex_tb (b := b) e KX N keep) (ex_gf e) (ex_sys e) (fun f hf => (fdA c f (by rw [← g_len]; exact of_decide_eq_true hf)).2) LV
  refine ⟨fun b => gOf nm R.prog wo K gm b, K, run C tbl LV f_law, fun b => ⟨rfl, rfl, rfl, rfl, rfl⟩, KX, say, fun b hb hn => ?_⟩
  obtain ⟨fd, ps, e1, e2⟩ := ((W b).fn f_law (decide_eq_true (p := f_law < nm.fs.length) (by rw [g_len]; decide))).ex
  rw [show (gOf nm R.prog wo K gm b).fa f_law = fa' from hl] at e2
  exact ⟨fd, ps, e1, e2⟩
theorem the_end (LV : Nat) (hr : Room LV callerA) (say : ∀ ns : List Int, ns.length ≤ 63 → run C tbl LV f_law [.scr ns] [] = .ok (.bl true) []) : R.Holds :=
  HandSHeadRun.head_any (r := R) (q := qv) (H := hk) (ob := ob) (M := 8000) (loose := names) (d := dLaw) (kwd := []) ob_eq g_e g_f runH g_def g_p g_kw g_wr g_k1 g_ok g_b g_hw (g_call LV hr say)
end PyE
set_option maxRecDepth 100000
/-! mathematics: fractions as values -/
namespace PyE
open PySem
def fr (q : Rat) : D := .tup [.int q.num, .int (q.den : Int)]
/-- numbers below 2^n -/
def Bd (n : Nat) (q : Rat) : Prop := q.num.natAbs < 2 ^ n ∧ q.den < 2 ^ n
theorem mulOk_of {i j : Int} {n : Nat} (h1 : i.natAbs < 2 ^ n) (h2 : j.natAbs < 2 ^ n) (hn : n < 40000000) : mulOk i j = true := by
  have h : ∀ k : Nat, k < 2 ^ n → k.log2 < n + 1 := fun k hk => by
    by_cases z : k = 0
    · subst z; rw [show Nat.log2 0 = 0 from by decide]; omega
    · have := (Nat.log2_lt z).mpr hk
      omega
  have a := h _ h1
  have b := h _ h2
  unfold mulOk
  exact decide_eq_true (by omega)
theorem divOk_of {j : Int} (h1 : j.natAbs < 2 ^ 9000) (h2 : j ≠ 0) : divOk j = true := by
  have z : j.natAbs ≠ 0 := by omega
  have := (Nat.log2_lt z).mpr h1
  unfold divOk
  rw [decide_eq_true h2, decide_eq_true this]
  rfl
theorem nat_fmod (a b : Nat) : (a : Int).fmod (b : Int) = ((a % b : Nat) : Int) := by
  rw [Int.fmod_eq_emod_of_nonneg _ (by omega)]; rfl
theorem gcd_step (a b : Nat) (h : 0 < b) : b.gcd (a % b) = a.gcd b := by
  rw [Nat.gcd_comm b, ← Nat.gcd_rec, Nat.gcd_comm]
theorem mod_half (b r : Nat) (h : 0 < r) (hb : r < b) : 2 * (b % r) < b := by
  have h1 := Nat.mod_lt b h
  have h2 := Nat.div_add_mod b r
  have h3 : 1 ≤ b / r := (Nat.one_le_div_iff h).mpr (Nat.le_of_lt hb)
  have h4 : r * 1 ≤ r * (b / r) := Nat.mul_le_mul_left r h3
  omega
theorem natAbs_fdiv_gcd (top : Int) (g : Nat) (h : (g : Int) ∣ top) : top.fdiv g = top / g := by
  rw [Int.fdiv_eq_ediv_of_nonneg _ (by omega)]
/-- a fraction in lowest terms -/
theorem fr_lowest (top : Int) (under : Nat) (h : under ≠ 0) : fr (mkRat top under) = .tup [.int (top.fdiv ((Nat.gcd top.natAbs under : Nat) : Int)), .int ((under : Int).fdiv ((Nat.gcd top.natAbs under : Nat) : Int))] := by
  unfold fr
  rw [Rat.num_mkRat, Rat.den_mkRat, if_neg h, if_neg h]
  rw [Int.fdiv_eq_ediv_of_nonneg _ (by omega), Int.fdiv_eq_ediv_of_nonneg _ (by omega), Nat.gcd_comm]
  rfl
theorem fr_add (a b : Rat) : mkRat (a.num * b.den + b.num * a.den) (a.den * b.den) = a + b := (Rat.add_def' a b).symm
theorem fr_sub (a b : Rat) : mkRat (a.num * b.den - b.num * a.den) (a.den * b.den) = a - b := (Rat.sub_def' a b).symm
theorem fr_mul (a b : Rat) : mkRat (a.num * b.num) (a.den * b.den) = a * b := (Rat.mul_def' a b).symm
theorem Bd.mono {m n : Nat} {q : Rat} (h : Bd m q) (hn : m ≤ n) : Bd n q := by
  have := Nat.pow_le_pow_right (n := 2) (by decide) hn
  exact ⟨Nat.lt_of_lt_of_le h.1 this, Nat.lt_of_lt_of_le h.2 this⟩
theorem mkRat_bd {n : Nat} {top : Int} {under : Nat} (h1 : top.natAbs < 2 ^ n) (h2 : under < 2 ^ n) (h : under ≠ 0) : Bd n (mkRat top under) := by
  refine ⟨?_, ?_⟩
  · rw [Rat.num_mkRat, if_neg h]
    refine Nat.lt_of_le_of_lt ?_ h1
    rw [Int.natAbs_ediv_of_dvd (Int.ofNat_dvd_left.mpr (Nat.gcd_dvd_right ..))]
    exact Nat.div_le_self ..
  · rw [Rat.den_mkRat, if_neg h]
    exact Nat.lt_of_le_of_lt (Nat.div_le_self ..) h2
theorem mul_lt_pow {a b m n : Nat} (h1 : a < 2 ^ m) (h2 : b < 2 ^ n) : a * b < 2 ^ (m + n) := by
  rw [Nat.pow_add]
  exact Nat.mul_lt_mul'' h1 h2
theorem num_add_lt {a b : Rat} {m n : Nat} (ha : Bd m a) (hb : Bd n b) : (a.num * b.den + b.num * a.den).natAbs < 2 ^ (m + n + 1) := by
  have h1 := mul_lt_pow ha.1 hb.2
  have h2 := mul_lt_pow hb.1 ha.2
  rw [Nat.add_comm n m] at h2
  have e1 : (a.num * b.den).natAbs = a.num.natAbs * b.den := by rw [Int.natAbs_mul]; rfl
  have e2 : (b.num * a.den).natAbs = b.num.natAbs * a.den := by rw [Int.natAbs_mul]; rfl
  have := Int.natAbs_add_le (a.num * b.den) (b.num * a.den)
  rw [e1, e2] at this
  rw [Nat.pow_succ]
  omega
theorem num_sub_lt {a b : Rat} {m n : Nat} (ha : Bd m a) (hb : Bd n b) : (a.num * b.den - b.num * a.den).natAbs < 2 ^ (m + n + 1) := by
  have h1 := mul_lt_pow ha.1 hb.2
  have h2 := mul_lt_pow hb.1 ha.2
  rw [Nat.add_comm n m] at h2
  have e1 : (a.num * b.den).natAbs = a.num.natAbs * b.den := by rw [Int.natAbs_mul]; rfl
  have e2 : (b.num * a.den).natAbs = b.num.natAbs * a.den := by rw [Int.natAbs_mul]; rfl
  have := Int.natAbs_sub_le (a.num * b.den) (b.num * a.den)
  rw [e1, e2] at this
  rw [Nat.pow_succ]
  omega
theorem num_mul_lt {a b : Rat} {m n : Nat} (ha : Bd m a) (hb : Bd n b) : (a.num * b.num).natAbs < 2 ^ (m + n) := by
  rw [Int.natAbs_mul]
  exact mul_lt_pow ha.1 hb.1
theorem den_mul_lt {a b : Rat} {m n : Nat} (ha : Bd m a) (hb : Bd n b) : a.den * b.den < 2 ^ (m + n) := mul_lt_pow ha.2 hb.2
theorem den_mul_ne (a b : Rat) : a.den * b.den ≠ 0 := Nat.mul_ne_zero a.den_nz b.den_nz
theorem Bd.add {a b : Rat} {m n : Nat} (ha : Bd m a) (hb : Bd n b) : Bd (m + n + 1) (a + b) := by
  rw [← fr_add]
  exact mkRat_bd (num_add_lt ha hb) (Nat.lt_trans (den_mul_lt ha hb) (Nat.pow_lt_pow_right (by decide) (by omega))) (den_mul_ne a b)
theorem Bd.sub {a b : Rat} {m n : Nat} (ha : Bd m a) (hb : Bd n b) : Bd (m + n + 1) (a - b) := by
  rw [← fr_sub]
  exact mkRat_bd (num_sub_lt ha hb) (Nat.lt_trans (den_mul_lt ha hb) (Nat.pow_lt_pow_right (by decide) (by omega))) (den_mul_ne a b)
theorem Bd.mul {a b : Rat} {m n : Nat} (ha : Bd m a) (hb : Bd n b) : Bd (m + n) (a * b) := by
  rw [← fr_mul]
  exact mkRat_bd (num_mul_lt ha hb) (den_mul_lt ha hb) (den_mul_ne a b)
theorem Bd.zero : Bd 1 0 := ⟨by decide, by decide⟩
theorem Bd.one : Bd 1 1 := ⟨by decide, by decide⟩
theorem Bd.sum {n : Nat} : ∀ {l : List Rat}, (∀ q ∈ l, Bd n q) → Bd ((n + 1) * l.length + 1) l.sum
  | [], _ => Bd.zero
  | q :: l, h => by
    have h1 := h q (List.mem_cons_self ..)
    have h2 := Bd.sum fun x hx => h x (List.mem_cons_of_mem _ hx)
    rw [List.sum_cons]
    refine (h1.add h2).mono ?_
    rw [List.length_cons, Nat.mul_succ]
    omega
end PyE
set_option maxRecDepth 100000
/-! operators on known values -/
namespace PyE
open PySem
section
variable {C : Cfg} {cl : Cl} {μ : Mu} {ρ : Ro}
/-! equality -/
mutual
def okd : Nat → D → Bool
  | _, .none => true
  | _, .bl _ => true
  | _, .int _ => true
  | _, .str s => PyData.canLay0 (.str s)
  | n, .tup xs => (match n with | 0 => false | m + 1 => okdL m xs)
  | n, .lst xs => (match n with | 0 => false | m + 1 => okdL m xs)
  | _, .ref _ => false
  | _, .fn _ => false
  | _, .dct => false
  | _, .exc _ _ => false
  | _, .scr _ => false
def okdL : Nat → List D → Bool
  | _, [] => true
  | n, x :: xs => okd n x && okdL n xs
end
mutual
def D.pd : D → PyData
  | .none => .none
  | .bl b => .bool b
  | .int i => .int i
  | .str s => .str s
  | .tup xs => .tuple (D.pdL xs)
  | .lst xs => .list (D.pdL xs)
  | .ref _ => .none
  | .fn _ => .none
  | .dct => .dict []
  | .exc _ _ => .none
  | .scr xs => .list (xs.map .int)
def D.pdL : List D → List PyData
  | [] => []
  | x :: xs => D.pd x :: D.pdL xs
end
def eqd (x y : D) : Bool := PyData.eqv x.pd y.pd
def eqdL (x y : List D) : Bool := PyData.eqvAll (D.pdL x) (D.pdL y)
@[simp] theorem eqd_int (i j : Int) : eqd (.int i) (.int j) = decide (i = j) := by simp [eqd, D.pd, PyData.eqv]; rfl
@[simp] theorem eqd_str (i j : Str) : eqd (.str i) (.str j) = (i == j) := by simp [eqd, D.pd, PyData.eqv]
@[simp] theorem eqd_bl (i j : Bool) : eqd (.bl i) (.bl j) = (i == j) := by simp [eqd, D.pd, PyData.eqv]
@[simp] theorem eqd_tup (x y : List D) : eqd (.tup x) (.tup y) = eqdL x y := by simp [eqd, eqdL, D.pd, PyData.eqv]
@[simp] theorem eqd_lst (x y : List D) : eqd (.lst x) (.lst y) = eqdL x y := by simp [eqd, eqdL, D.pd, PyData.eqv]
@[simp] theorem eqdL_nil : eqdL [] [] = true := (rfl)
@[simp] theorem eqdL_cons (a b : D) (x y : List D) : eqdL (a :: x) (b :: y) = (eqd a b && eqdL x y) := by simp [eqd, eqdL, D.pdL, PyData.eqvAll]
@[simp] theorem eqdL_nc (b : D) (y : List D) : eqdL [] (b :: y) = false := (rfl)
@[simp] theorem eqdL_cn (b : D) (y : List D) : eqdL (b :: y) [] = false := (rfl)
mutual
theorem okd_py (R : Nat → Option PyData) : ∀ (n : Nat) (d : D), okd n d = true → d.py R = some d.pd ∧ d.pd.canLay0 = true ∧ d.pd.depth ≤ n
  | n, .none, _ => ⟨rfl, rfl, Nat.zero_le _⟩
  | n, .bl _, _ => ⟨rfl, rfl, Nat.zero_le _⟩
  | n, .int _, _ => ⟨rfl, rfl, Nat.zero_le _⟩
  | n, .str s, h => ⟨rfl, h, Nat.zero_le _⟩
  | 0, .tup xs, h => by cases h
  | n + 1, .tup xs, h => by
    obtain ⟨h1, h2, h3⟩ := okdL_py R n xs h
    exact ⟨by simp [D.py, D.pd, h1], h2, by simp [D.pd, PyData.depth]; omega⟩
  | 0, .lst xs, h => by cases h
  | n + 1, .lst xs, h => by
    obtain ⟨h1, h2, h3⟩ := okdL_py R n xs h
    exact ⟨by simp [D.py, D.pd, h1], h2, by simp [D.pd, PyData.depth]; omega⟩
  | _, .ref _, h => by cases h
  | _, .fn _, h => by cases h
  | _, .dct, h => by cases h
  | _, .exc _ _, h => by cases h
  | _, .scr _, h => by cases h
theorem okdL_py (R : Nat → Option PyData) : ∀ (n : Nat) (xs : List D), okdL n xs = true → D.pyL R xs = some (D.pdL xs) ∧ PyData.canLayAll0 (D.pdL xs) = true ∧ PyData.depthAll (D.pdL xs) ≤ n
  | n, [], _ => ⟨rfl, rfl, Nat.zero_le _⟩
  | n, x :: xs, h => by
    have h' : (okd n x && okdL n xs) = true := by cases n <;> exact h
    rw [Bool.and_eq_true] at h'
    obtain ⟨a1, a2, a3⟩ := okd_py R n x h'.1
    obtain ⟨b1, b2, b3⟩ := okdL_py R n xs h'.2
    refine ⟨by simp [D.pyL, D.pdL, a1, b1], by simp [D.pdL, PyData.canLayAll0, a2, b2], by simp [D.pdL, PyData.depthAll]; omega⟩
end
theorem eqD_of {x y : D} (h1 : okd 60 x = true) (h2 : okd 60 y = true) : eqD μ x y = some (eqd x y) := by
  obtain ⟨a1, a2, a3⟩ := okd_py (tab μ FUEL) 60 x h1
  obtain ⟨b1, b2, b3⟩ := okd_py (tab μ FUEL) 60 y h2
  have s1 : SeqAt.shaped x.pd = true := by unfold SeqAt.shaped; rw [a2, decide_eq_true (by omega)]; rfl
  have s2 : SeqAt.shaped y.pd = true := by unfold SeqAt.shaped; rw [b2, decide_eq_true (by omega)]; rfl
  unfold eqD view
  rw [a1, b1]
  simp [s1, s2, eqd]
theorem opR_eq {x y : D} (h1 : okd 60 x = true) (h2 : okd 60 y = true) : opR C .eq [x, y] μ = .ok (.bl (eqd x y)) μ := by
  show lift (((eqD μ x y).map fun b => PR.v (.bl b)).map prD) μ = _
  rw [eqD_of h1 h2]; rfl
theorem opR_ne {x y : D} (h1 : okd 60 x = true) (h2 : okd 60 y = true) : opR C .ne [x, y] μ = .ok (.bl (!eqd x y)) μ := by
  show lift (((eqD μ x y).map fun b => PR.v (.bl !b)).map prD) μ = _
  rw [eqD_of h1 h2]; rfl
@[simp] theorem okd_int (n : Nat) (i : Int) : okd n (.int i) = true := by cases n <;> rfl
@[simp] theorem okd_bl (n : Nat) (i : Bool) : okd n (.bl i) = true := by cases n <;> rfl
@[simp] theorem okd_none (n : Nat) : okd n .none = true := by cases n <;> rfl
@[simp] theorem okd_fr (n : Nat) (q : Rat) : okd (n + 1) (fr q) = true := by cases n <;> rfl
@[simp] theorem okd_fr60 (q : Rat) : okd 60 (fr q) = true := (rfl)
@[simp] theorem okd_lst (n : Nat) (l : List D) : okd (n + 1) (.lst l) = okdL n l := by cases n <;> rfl
@[simp] theorem okd_tup (n : Nat) (l : List D) : okd (n + 1) (.tup l) = okdL n l := by cases n <;> rfl
@[simp] theorem okdL_nil (n : Nat) : okdL n [] = true := by cases n <;> rfl
@[simp] theorem okdL_cons (n : Nat) (x : D) (l : List D) : okdL n (x :: l) = (okd n x && okdL n l) := by cases n <;> rfl
theorem okdL_map {α : Type} {f : α → D} {n : Nat} : ∀ {l : List α}, (∀ x ∈ l, okd n (f x) = true) → okdL n (l.map f) = true
  | [], _ => by simp
  | x :: l, h => by
    rw [List.map_cons, okdL_cons, h x (List.mem_cons_self ..), okdL_map fun y hy => h y (List.mem_cons_of_mem _ hy)]; rfl
@[simp] theorem opR_eq_int (i j : Int) : opR C .eq [.int i, .int j] μ = .ok (.bl (decide (i = j))) μ := by rw [opR_eq (by simp) (by simp), eqd_int]
@[simp] theorem opR_ne_int (i j : Int) : opR C .ne [.int i, .int j] μ = .ok (.bl (!decide (i = j))) μ := by rw [opR_ne (by simp) (by simp), eqd_int]
@[simp] theorem eqd_fr (a b : Rat) : eqd (fr a) (fr b) = decide (a = b) := by
  unfold fr
  rw [eqd_tup, eqdL_cons, eqdL_cons, eqdL_nil, eqd_int, eqd_int, Bool.and_true]
  by_cases h : a = b
  · subst h; simp
  · have : ¬ (a.num = b.num ∧ (a.den : Int) = (b.den : Int)) := fun z => h (Rat.ext z.1 (by omega))
    rw [decide_eq_false h]
    by_cases h1 : a.num = b.num
    · have h2 : ¬ ((a.den : Int) = (b.den : Int)) := fun z => this ⟨h1, z⟩
      rw [decide_eq_false h2, Bool.and_false]
    · rw [decide_eq_false h1, Bool.false_and]
theorem fr_zero : fr 0 = .tup [.int 0, .int 1] := rfl
theorem fr_one : fr 1 = .tup [.int 1, .int 1] := rfl
@[simp] theorem opR_eq_fr (a b : Rat) : opR C .eq [fr a, fr b] μ = .ok (.bl (decide (a = b))) μ := by rw [opR_eq (by simp) (by simp), eqd_fr]
@[simp] theorem opR_ne_fr (a b : Rat) : opR C .ne [fr a, fr b] μ = .ok (.bl (!decide (a = b))) μ := by rw [opR_ne (by simp) (by simp), eqd_fr]
@[simp] theorem opR_eq_fr0 (a : Rat) : opR C .eq [fr a, .tup [.int 0, .int 1]] μ = .ok (.bl (decide (a = 0))) μ := opR_eq_fr a 0
@[simp] theorem opR_eq_fr1 (a : Rat) : opR C .eq [fr a, .tup [.int 1, .int 1]] μ = .ok (.bl (decide (a = 1))) μ := opR_eq_fr a 1
/-! lists of known values -/
theorem eqdL_map {α : Type} {f : α → D} (hf : ∀ x y, eqd (f x) (f y) = true ↔ x = y) : ∀ (l m : List α), eqdL (l.map f) (m.map f) = true ↔ l = m
  | [], [] => by simp
  | [], b :: m => by simp
  | a :: l, [] => by simp
  | a :: l, b :: m => by
    rw [List.map_cons, List.map_cons, eqdL_cons, Bool.and_eq_true, hf, eqdL_map hf l m, List.cons.injEq]
/-! items -/
theorem opR_idx_of {d x : D} {xs : List D} {i : Nat} (h : items μ d = some xs) (hx : xs[i]? = some x) : opR C .idx [d, .int (i : Int)] μ = .ok x μ := by
  have hl : i < xs.length := (List.getElem?_eq_some_iff.mp hx).1
  show lift ((((items μ d).bind fun xs => (place (i : Int) xs.length).bind fun k => (xs[k]?).map PR.v)).map prD) μ = _
  have hp : place (i : Int) xs.length = some i := by
    unfold place
    rw [if_pos (by omega), if_pos (by omega)]
    simp
  rw [h]
  simp [hp, hx, prD]
theorem opR_idx_lst {x : D} {xs : List D} {i : Nat} (hx : xs[i]? = some x) : opR C .idx [.lst xs, .int (i : Int)] μ = .ok x μ := opR_idx_of rfl hx
@[simp] theorem opR_idx_tup0 (x : D) (xs : List D) : opR C .idx [.tup (x :: xs), .int 0] μ = .ok x μ := opR_idx_of (i := 0) rfl rfl
@[simp] theorem opR_idx_tup1 (x y : D) (xs : List D) : opR C .idx [.tup (x :: y :: xs), .int 1] μ = .ok y μ := opR_idx_of (i := 1) rfl rfl
@[simp] theorem opR_idx_tup2 (x y z : D) (xs : List D) : opR C .idx [.tup (x :: y :: z :: xs), .int 2] μ = .ok z μ := opR_idx_of (i := 2) rfl rfl
@[simp] theorem opR_idx_lst0 (x : D) (xs : List D) : opR C .idx [.lst (x :: xs), .int 0] μ = .ok x μ := opR_idx_of (i := 0) rfl rfl
@[simp] theorem opR_idx_fr0 (q : Rat) : opR C .idx [fr q, .int 0] μ = .ok (.int q.num) μ := opR_idx_tup0 _ _
@[simp] theorem opR_idx_fr1 (q : Rat) : opR C .idx [fr q, .int 1] μ = .ok (.int (q.den : Int)) μ := opR_idx_tup1 _ _ _
@[simp] theorem opR_len_lst (xs : List D) : opR C .len [.lst xs] μ = .ok (.int (xs.length : Int)) μ := (rfl)
@[simp] theorem opR_len_tup (xs : List D) : opR C .len [.tup xs] μ = .ok (.int (xs.length : Int)) μ := (rfl)
@[simp] theorem opR_len_scr (xs : List Int) : opR C .len [.scr xs] μ = .ok (.int (xs.length : Int)) μ := by
  show Res.ok (D.int (((xs.map D.int).length : Nat) : Int)) μ = _
  rw [List.length_map]
@[simp] theorem opR_len_fr (q : Rat) : opR C .len [fr q] μ = .ok (.int 2) μ := (rfl)
theorem opR_len_ref {n : Nat} {xs : List D} (h : μ[n]? = some xs) : opR C .len [.ref n] μ = .ok (.int (xs.length : Int)) μ := by
  show lift ((((items μ (.ref n)).map fun xs => PR.v (.int xs.length))).map prD) μ = _
  rw [show items μ (.ref n) = some xs from h]; rfl
theorem asBools_map {α : Type} (p : α → Bool) : ∀ l : List α, asBools (l.map fun x => .bl (p x)) = some (l.map p)
  | [] => rfl
  | x :: l => by simp [asBools, asBools_map p l]
theorem asInts_map {α : Type} (p : α → Int) : ∀ l : List α, asInts (l.map fun x => .int (p x)) = some (l.map p)
  | [] => rfl
  | x :: l => by simp [asInts, asInts_map p l]
@[simp] theorem opR_all_map {α : Type} (p : α → Bool) (l : List α) : opR C .all [.lst (l.map fun x => .bl (p x))] μ = .ok (.bl (l.all p)) μ := by
  show lift ((((some (l.map fun x => D.bl (p x))).bind fun xs => (asBools xs).map fun l => PR.v (.bl (l.all id)))).map prD) μ = _
  simp [asBools_map, prD]
@[simp] theorem opR_any_map {α : Type} (p : α → Bool) (l : List α) : opR C .any [.lst (l.map fun x => .bl (p x))] μ = .ok (.bl (l.any p)) μ := by
  show lift ((((some (l.map fun x => D.bl (p x))).bind fun xs => (asBools xs).map fun l => PR.v (.bl (l.any id)))).map prD) μ = _
  simp [asBools_map, prD]
@[simp] theorem opR_sum_map {α : Type} (p : α → Int) (l : List α) : opR C .sum1 [.lst (l.map fun x => .int (p x))] μ = .ok (.int (l.map p).sum) μ := by
  show lift ((((some (l.map fun x => D.int (p x))).bind fun xs => (asInts xs).map fun l => PR.v (.int l.sum))).map prD) μ = _
  simp [asInts_map, prD]
@[simp] theorem opR_isn (x : D) : opR C .isn [x] μ = .ok (.bl (isNone x)) μ := (rfl)
@[simp] theorem opR_notn (x : D) : opR C .notn [x] μ = .ok (.bl !(isNone x)) μ := (rfl)
@[simp] theorem opR_isb (b : Bool) (x : D) : opR C (.isb b) [x] μ = .ok (.bl (isBl b x)) μ := (rfl)
@[simp] theorem isNone_none : isNone .none = true := (rfl)
@[simp] theorem opR_isi (ts : List Ty) (x : D) : opR C (.isi ts) [x] μ = lift ((isiS C.sub x ts).map .bl) μ := by
  show lift (((isiS C.sub x ts).map fun b => PR.v (.bl b)).map prD) μ = _
  cases isiS C.sub x ts <;> rfl
@[simp] theorem isiS_nil (sub : Fid → Fid → Bool) (x : D) : isiS sub x [] = some false := (rfl)
@[simp] theorem isiS_cons (sub : Fid → Fid → Bool) (x : D) (t : Ty) (ts : List Ty) : isiS sub x (t :: ts) = (tyIs sub x t).bind fun b => (isiS sub x ts).map fun r => b || r := (rfl)
@[simp] theorem tyIs_int_tint (sub : Fid → Fid → Bool) (i : Int) : tyIs sub (.int i) .tint = some true := (rfl)
@[simp] theorem tyIs_int_tbool (sub : Fid → Fid → Bool) (i : Int) : tyIs sub (.int i) .tbool = some false := (rfl)
@[simp] theorem tyIs_int_tstr (sub : Fid → Fid → Bool) (i : Int) : tyIs sub (.int i) .tstr = some false := (rfl)
@[simp] theorem tyIs_int_tlist (sub : Fid → Fid → Bool) (i : Int) : tyIs sub (.int i) .tlist = some false := (rfl)
@[simp] theorem tyIs_int_ttuple (sub : Fid → Fid → Bool) (i : Int) : tyIs sub (.int i) .ttuple = some false := (rfl)
@[simp] theorem tyIs_int_tdict (sub : Fid → Fid → Bool) (i : Int) : tyIs sub (.int i) .tdict = some false := (rfl)
@[simp] theorem isNone_int (i : Int) : isNone (.int i) = false := (rfl)
@[simp] theorem isBl_int (b : Bool) (i : Int) : isBl b (.int i) = false := (rfl)
@[simp] theorem tyIs_bl_tint (sub : Fid → Fid → Bool) (b : Bool) : tyIs sub (.bl b) .tint = some true := (rfl)
@[simp] theorem tyIs_bl_tbool (sub : Fid → Fid → Bool) (b : Bool) : tyIs sub (.bl b) .tbool = some true := (rfl)
@[simp] theorem tyIs_bl_tstr (sub : Fid → Fid → Bool) (b : Bool) : tyIs sub (.bl b) .tstr = some false := (rfl)
@[simp] theorem tyIs_bl_tlist (sub : Fid → Fid → Bool) (b : Bool) : tyIs sub (.bl b) .tlist = some false := (rfl)
@[simp] theorem tyIs_bl_ttuple (sub : Fid → Fid → Bool) (b : Bool) : tyIs sub (.bl b) .ttuple = some false := (rfl)
@[simp] theorem tyIs_bl_tdict (sub : Fid → Fid → Bool) (b : Bool) : tyIs sub (.bl b) .tdict = some false := (rfl)
@[simp] theorem isNone_bl (b : Bool) : isNone (.bl b) = false := (rfl)
@[simp] theorem tyIs_str_tint (sub : Fid → Fid → Bool) (s : Str) : tyIs sub (.str s) .tint = some false := (rfl)
@[simp] theorem tyIs_str_tbool (sub : Fid → Fid → Bool) (s : Str) : tyIs sub (.str s) .tbool = some false := (rfl)
@[simp] theorem tyIs_str_tstr (sub : Fid → Fid → Bool) (s : Str) : tyIs sub (.str s) .tstr = some true := (rfl)
@[simp] theorem tyIs_str_tlist (sub : Fid → Fid → Bool) (s : Str) : tyIs sub (.str s) .tlist = some false := (rfl)
@[simp] theorem tyIs_str_ttuple (sub : Fid → Fid → Bool) (s : Str) : tyIs sub (.str s) .ttuple = some false := (rfl)
@[simp] theorem tyIs_str_tdict (sub : Fid → Fid → Bool) (s : Str) : tyIs sub (.str s) .tdict = some false := (rfl)
@[simp] theorem isNone_str (s : Str) : isNone (.str s) = false := (rfl)
@[simp] theorem isBl_str (b : Bool) (s : Str) : isBl b (.str s) = false := (rfl)
@[simp] theorem tyIs_tup_tint (sub : Fid → Fid → Bool) (xs : List D) : tyIs sub (.tup xs) .tint = some false := (rfl)
@[simp] theorem tyIs_tup_tbool (sub : Fid → Fid → Bool) (xs : List D) : tyIs sub (.tup xs) .tbool = some false := (rfl)
@[simp] theorem tyIs_tup_tstr (sub : Fid → Fid → Bool) (xs : List D) : tyIs sub (.tup xs) .tstr = some false := (rfl)
@[simp] theorem tyIs_tup_tlist (sub : Fid → Fid → Bool) (xs : List D) : tyIs sub (.tup xs) .tlist = some false := (rfl)
@[simp] theorem tyIs_tup_ttuple (sub : Fid → Fid → Bool) (xs : List D) : tyIs sub (.tup xs) .ttuple = some true := (rfl)
@[simp] theorem tyIs_tup_tdict (sub : Fid → Fid → Bool) (xs : List D) : tyIs sub (.tup xs) .tdict = some false := (rfl)
@[simp] theorem isNone_tup (xs : List D) : isNone (.tup xs) = false := (rfl)
@[simp] theorem isBl_tup (b : Bool) (xs : List D) : isBl b (.tup xs) = false := (rfl)
@[simp] theorem tyIs_lst_tint (sub : Fid → Fid → Bool) (xs : List D) : tyIs sub (.lst xs) .tint = some false := (rfl)
@[simp] theorem tyIs_lst_tbool (sub : Fid → Fid → Bool) (xs : List D) : tyIs sub (.lst xs) .tbool = some false := (rfl)
@[simp] theorem tyIs_lst_tstr (sub : Fid → Fid → Bool) (xs : List D) : tyIs sub (.lst xs) .tstr = some false := (rfl)
@[simp] theorem tyIs_lst_tlist (sub : Fid → Fid → Bool) (xs : List D) : tyIs sub (.lst xs) .tlist = some true := (rfl)
@[simp] theorem tyIs_lst_ttuple (sub : Fid → Fid → Bool) (xs : List D) : tyIs sub (.lst xs) .ttuple = some false := (rfl)
@[simp] theorem tyIs_lst_tdict (sub : Fid → Fid → Bool) (xs : List D) : tyIs sub (.lst xs) .tdict = some false := (rfl)
@[simp] theorem isNone_lst (xs : List D) : isNone (.lst xs) = false := (rfl)
@[simp] theorem isBl_lst (b : Bool) (xs : List D) : isBl b (.lst xs) = false := (rfl)
@[simp] theorem tyIs_ref_tint (sub : Fid → Fid → Bool) (n : Nat) : tyIs sub (.ref n) .tint = some false := (rfl)
@[simp] theorem tyIs_ref_tbool (sub : Fid → Fid → Bool) (n : Nat) : tyIs sub (.ref n) .tbool = some false := (rfl)
@[simp] theorem tyIs_ref_tstr (sub : Fid → Fid → Bool) (n : Nat) : tyIs sub (.ref n) .tstr = some false := (rfl)
@[simp] theorem tyIs_ref_tlist (sub : Fid → Fid → Bool) (n : Nat) : tyIs sub (.ref n) .tlist = some true := (rfl)
@[simp] theorem tyIs_ref_ttuple (sub : Fid → Fid → Bool) (n : Nat) : tyIs sub (.ref n) .ttuple = some false := (rfl)
@[simp] theorem tyIs_ref_tdict (sub : Fid → Fid → Bool) (n : Nat) : tyIs sub (.ref n) .tdict = some false := (rfl)
@[simp] theorem isNone_ref (n : Nat) : isNone (.ref n) = false := (rfl)
@[simp] theorem isBl_ref (b : Bool) (n : Nat) : isBl b (.ref n) = false := (rfl)
@[simp] theorem tyIs_scr_tint (sub : Fid → Fid → Bool) (l : List Int) : tyIs sub (.scr l) .tint = some false := (rfl)
@[simp] theorem tyIs_scr_tbool (sub : Fid → Fid → Bool) (l : List Int) : tyIs sub (.scr l) .tbool = some false := (rfl)
@[simp] theorem tyIs_scr_tstr (sub : Fid → Fid → Bool) (l : List Int) : tyIs sub (.scr l) .tstr = some false := (rfl)
@[simp] theorem tyIs_scr_tlist (sub : Fid → Fid → Bool) (l : List Int) : tyIs sub (.scr l) .tlist = some true := (rfl)
@[simp] theorem tyIs_scr_ttuple (sub : Fid → Fid → Bool) (l : List Int) : tyIs sub (.scr l) .ttuple = some false := (rfl)
@[simp] theorem tyIs_scr_tdict (sub : Fid → Fid → Bool) (l : List Int) : tyIs sub (.scr l) .tdict = some false := (rfl)
@[simp] theorem isNone_scr (l : List Int) : isNone (.scr l) = false := (rfl)
@[simp] theorem isBl_scr (b : Bool) (l : List Int) : isBl b (.scr l) = false := (rfl)
@[simp] theorem tyIs_dct_tint (sub : Fid → Fid → Bool)  : tyIs sub (.dct) .tint = some false := (rfl)
@[simp] theorem tyIs_dct_tbool (sub : Fid → Fid → Bool)  : tyIs sub (.dct) .tbool = some false := (rfl)
@[simp] theorem tyIs_dct_tstr (sub : Fid → Fid → Bool)  : tyIs sub (.dct) .tstr = some false := (rfl)
@[simp] theorem tyIs_dct_tlist (sub : Fid → Fid → Bool)  : tyIs sub (.dct) .tlist = some false := (rfl)
@[simp] theorem tyIs_dct_ttuple (sub : Fid → Fid → Bool)  : tyIs sub (.dct) .ttuple = some false := (rfl)
@[simp] theorem tyIs_dct_tdict (sub : Fid → Fid → Bool)  : tyIs sub (.dct) .tdict = some true := (rfl)
@[simp] theorem isNone_dct  : isNone (.dct) = false := (rfl)
@[simp] theorem isBl_dct (b : Bool)  : isBl b (.dct) = false := (rfl)
@[simp] theorem tyIs_none_tint (sub : Fid → Fid → Bool)  : tyIs sub (.none) .tint = some false := (rfl)
@[simp] theorem tyIs_none_tbool (sub : Fid → Fid → Bool)  : tyIs sub (.none) .tbool = some false := (rfl)
@[simp] theorem tyIs_none_tstr (sub : Fid → Fid → Bool)  : tyIs sub (.none) .tstr = some false := (rfl)
@[simp] theorem tyIs_none_tlist (sub : Fid → Fid → Bool)  : tyIs sub (.none) .tlist = some false := (rfl)
@[simp] theorem tyIs_none_ttuple (sub : Fid → Fid → Bool)  : tyIs sub (.none) .ttuple = some false := (rfl)
@[simp] theorem tyIs_none_tdict (sub : Fid → Fid → Bool)  : tyIs sub (.none) .tdict = some false := (rfl)
@[simp] theorem isBl_none (b : Bool)  : isBl b (.none) = false := (rfl)
@[simp] theorem tyIs_fr_tint (sub : Fid → Fid → Bool) (q : Rat) : tyIs sub (fr q) .tint = some false := (rfl)
@[simp] theorem tyIs_fr_tbool (sub : Fid → Fid → Bool) (q : Rat) : tyIs sub (fr q) .tbool = some false := (rfl)
@[simp] theorem tyIs_fr_tstr (sub : Fid → Fid → Bool) (q : Rat) : tyIs sub (fr q) .tstr = some false := (rfl)
@[simp] theorem tyIs_fr_tlist (sub : Fid → Fid → Bool) (q : Rat) : tyIs sub (fr q) .tlist = some false := (rfl)
@[simp] theorem tyIs_fr_ttuple (sub : Fid → Fid → Bool) (q : Rat) : tyIs sub (fr q) .ttuple = some true := (rfl)
@[simp] theorem tyIs_fr_tdict (sub : Fid → Fid → Bool) (q : Rat) : tyIs sub (fr q) .tdict = some false := (rfl)
@[simp] theorem isNone_fr (q : Rat) : isNone (fr q) = false := (rfl)
@[simp] theorem isBl_fr (b : Bool) (q : Rat) : isBl b (fr q) = false := (rfl)
@[simp] theorem isBl_bl (b c : Bool) : isBl b (.bl c) = (b == c) := (rfl)
/-! lists made, walked -/
@[simp] theorem okAt_nil (xs : List D) : (⟨xs, []⟩ : Src).okAt = fun _ => true := (rfl)
@[simp] theorem srcS_lst (xs : List D) : srcS μ (.lst xs) = some ⟨xs, []⟩ := (rfl)
@[simp] theorem srcS_tup (xs : List D) : srcS μ (.tup xs) = some ⟨xs, []⟩ := (rfl)
@[simp] theorem srcE_lst (xs : List D) : srcE μ (.lst xs) = some ⟨enumD xs, []⟩ := (rfl)
theorem srcZ_lst (b : Bool) (xs ys : List D) (h : xs.length = ys.length) : srcZ b μ (.lst xs) (.lst ys) = some ⟨zipD xs ys, []⟩ := by
  show (if b = true ∧ xs.length ≠ ys.length then none else _) = _
  rw [if_neg (fun z => z.2 h)]; rfl
@[simp] theorem srcZ_false (xs ys : List D) : srcZ false μ (.lst xs) (.lst ys) = some ⟨zipD xs ys, []⟩ := (rfl)
theorem srcR1_nat (n : Nat) (h : n ≤ 1000000) : srcR1 (.int (n : Int)) = some ⟨rangeD 0 n, []⟩ := by
  show (if (n : Int) ≤ LIM ∧ -(2 ^ 62) ≤ (n : Int) then some (⟨rangeD 0 (n : Int).toNat, []⟩ : Src) else none) = _
  rw [if_pos ⟨by unfold LIM; omega, by omega⟩]
  simp
theorem rangeD0 (n : Nat) : rangeD 0 n = (List.range n).map fun k : Nat => D.int (k : Int) := by
  unfold rangeD
  simp
theorem zipD_map {α β : Type} (f : α → D) (g : β → D) : ∀ (l : List α) (m : List β), zipD (l.map f) (m.map g) = (l.zip m).map fun p => D.tup [f p.1, g p.2]
  | [], _ => by simp [zipD]
  | _ :: _, [] => by simp [zipD]
  | a :: l, b :: m => by
    have := zipD_map f g l m
    simp only [zipD] at this ⊢
    simp [this]
/-- a comprehension without a test, its body's values known -/
theorem cm_map {α : Type} {t : Tg} {e : CE} {ok : Mu → Bool} {f g : α → D} (hok : ok μ = true) : ∀ {l : List α}, (∀ x ∈ l, ((lift (setT μ t (f x) (wipe ρ t.slots)) μ).bind fun ρ1 μ2 => eE C cl e ρ1 μ2) = .ok (g x) μ) → cm C cl t .nil e ρ ok (l.map f) μ = .ok (l.map g) μ
  | [], _ => by rw [List.map_nil, cm_nil, if_pos hok]; rfl
  | x :: l, h => by
    have h1 := h x (List.mem_cons_self ..)
    have h2 := cm_map (t := t) (e := e) hok (l := l) fun y hy => h y (List.mem_cons_of_mem _ hy)
    rw [List.map_cons, cm_cons, if_pos hok]
    cases q : setT μ t (f x) (wipe ρ t.slots) with
    | none => rw [q] at h1; cases h1
    | some ρ1 =>
      rw [q] at h1
      have h1' : eE C cl e ρ1 μ = .ok (g x) μ := h1
      simp [h1', h2]
/-- with a test -/
theorem cm_filter {α : Type} {t : Tg} {c e : CE} {ok : Mu → Bool} {f g : α → D} {p : α → Bool} (hok : ok μ = true) : ∀ {l : List α}, (∀ x ∈ l, ∃ ρ1, setT μ t (f x) (wipe ρ t.slots) = some ρ1 ∧ eC C cl c ρ1 μ = .ok (p x) μ ∧ (p x = true → eE C cl e ρ1 μ = .ok (g x) μ)) →
    cm C cl t c e ρ ok (l.map f) μ = .ok ((l.filter p).map g) μ
  | [], _ => by rw [List.map_nil, cm_nil, if_pos hok]; rfl
  | x :: l, h => by
    obtain ⟨ρ1, q1, q2, q3⟩ := h x (List.mem_cons_self ..)
    have h2 := cm_filter (t := t) (e := e) (c := c) (g := g) (p := p) hok (l := l) fun y hy => h y (List.mem_cons_of_mem _ hy)
    rw [List.map_cons, cm_cons, if_pos hok]
    rw [q1]
    cases hp : p x with
    | true => simp [q2, hp, q3 hp, h2, List.filter_cons]
    | false => simp [q2, hp, h2, List.filter_cons]
@[simp] theorem asB_bl (b : Bool) : asB (.bl b) = some b := (rfl)
@[simp] theorem asRef_ref (n : Nat) : asRef (.ref n) = some n := (rfl)
theorem mul_nd {a b : Rat} (ha : Bd 4000 a) (hb : Bd 4000 b) : opR C .mul [.int a.num, .int (b.den : Int)] μ = .ok (.int (a.num * (b.den : Int))) μ := opR_mul (mulOk_of (j := (b.den : Int)) ha.1 hb.2 (by decide))
theorem mul_dn {a b : Rat} (ha : Bd 4000 a) (hb : Bd 4000 b) : opR C .mul [.int (b.den : Int), .int a.num] μ = .ok (.int ((b.den : Int) * a.num)) μ := opR_mul (mulOk_of (i := (b.den : Int)) hb.2 ha.1 (by decide))
theorem mul_nn {a b : Rat} (ha : Bd 4000 a) (hb : Bd 4000 b) : opR C .mul [.int a.num, .int b.num] μ = .ok (.int (a.num * b.num)) μ := opR_mul (mulOk_of ha.1 hb.1 (by decide))
theorem mul_dd {a b : Rat} (ha : Bd 4000 a) (hb : Bd 4000 b) : opR C .mul [.int (a.den : Int), .int (b.den : Int)] μ = .ok (.int ((a.den : Int) * (b.den : Int))) μ := opR_mul (mulOk_of (i := (a.den : Int)) (j := (b.den : Int)) ha.2 hb.2 (by decide))
end
end PyE
set_option maxRecDepth 100000
/-! rows, looks, games as values -/
namespace PyE
open PySem
def row (l : List Rat) : D := .lst (l.map fr)
def rows (l : List (List Rat)) : D := .lst (l.map row)
def intsD (l : List Int) : D := .lst (l.map .int)
def lookD (l : List (List Rat)) : D := .tup [.str (PySem.Str.ofString "look"), rows l]
def gameD (l : List (List Rat)) : D := .tup [.str (PySem.Str.ofString "game"), rows l]
section
variable {C : Cfg} {cl : Cl} {μ : Mu} {ρ : Ro}
@[simp] theorem tyIs_row_tint (sub : Fid → Fid → Bool) (l : List Rat) : tyIs sub (row l) .tint = some false := (rfl)
@[simp] theorem tyIs_row_tbool (sub : Fid → Fid → Bool) (l : List Rat) : tyIs sub (row l) .tbool = some false := (rfl)
@[simp] theorem tyIs_row_tstr (sub : Fid → Fid → Bool) (l : List Rat) : tyIs sub (row l) .tstr = some false := (rfl)
@[simp] theorem tyIs_row_tlist (sub : Fid → Fid → Bool) (l : List Rat) : tyIs sub (row l) .tlist = some true := (rfl)
@[simp] theorem tyIs_row_ttuple (sub : Fid → Fid → Bool) (l : List Rat) : tyIs sub (row l) .ttuple = some false := (rfl)
@[simp] theorem tyIs_row_tdict (sub : Fid → Fid → Bool) (l : List Rat) : tyIs sub (row l) .tdict = some false := (rfl)
@[simp] theorem isNone_row (l : List Rat) : isNone (row l) = false := (rfl)
@[simp] theorem isBl_row (b : Bool) (l : List Rat) : isBl b (row l) = false := (rfl)
@[simp] theorem tyIs_rows_tint (sub : Fid → Fid → Bool) (l : List (List Rat)) : tyIs sub (rows l) .tint = some false := (rfl)
@[simp] theorem tyIs_rows_tbool (sub : Fid → Fid → Bool) (l : List (List Rat)) : tyIs sub (rows l) .tbool = some false := (rfl)
@[simp] theorem tyIs_rows_tstr (sub : Fid → Fid → Bool) (l : List (List Rat)) : tyIs sub (rows l) .tstr = some false := (rfl)
@[simp] theorem tyIs_rows_tlist (sub : Fid → Fid → Bool) (l : List (List Rat)) : tyIs sub (rows l) .tlist = some true := (rfl)
@[simp] theorem tyIs_rows_ttuple (sub : Fid → Fid → Bool) (l : List (List Rat)) : tyIs sub (rows l) .ttuple = some false := (rfl)
@[simp] theorem tyIs_rows_tdict (sub : Fid → Fid → Bool) (l : List (List Rat)) : tyIs sub (rows l) .tdict = some false := (rfl)
@[simp] theorem isNone_rows (l : List (List Rat)) : isNone (rows l) = false := (rfl)
@[simp] theorem isBl_rows (b : Bool) (l : List (List Rat)) : isBl b (rows l) = false := (rfl)
@[simp] theorem tyIs_intsD_tint (sub : Fid → Fid → Bool) (l : List Int) : tyIs sub (intsD l) .tint = some false := (rfl)
@[simp] theorem tyIs_intsD_tbool (sub : Fid → Fid → Bool) (l : List Int) : tyIs sub (intsD l) .tbool = some false := (rfl)
@[simp] theorem tyIs_intsD_tstr (sub : Fid → Fid → Bool) (l : List Int) : tyIs sub (intsD l) .tstr = some false := (rfl)
@[simp] theorem tyIs_intsD_tlist (sub : Fid → Fid → Bool) (l : List Int) : tyIs sub (intsD l) .tlist = some true := (rfl)
@[simp] theorem tyIs_intsD_ttuple (sub : Fid → Fid → Bool) (l : List Int) : tyIs sub (intsD l) .ttuple = some false := (rfl)
@[simp] theorem tyIs_intsD_tdict (sub : Fid → Fid → Bool) (l : List Int) : tyIs sub (intsD l) .tdict = some false := (rfl)
@[simp] theorem isNone_intsD (l : List Int) : isNone (intsD l) = false := (rfl)
@[simp] theorem isBl_intsD (b : Bool) (l : List Int) : isBl b (intsD l) = false := (rfl)
@[simp] theorem tyIs_lookD_tint (sub : Fid → Fid → Bool) (l : List (List Rat)) : tyIs sub (lookD l) .tint = some false := (rfl)
@[simp] theorem tyIs_lookD_tbool (sub : Fid → Fid → Bool) (l : List (List Rat)) : tyIs sub (lookD l) .tbool = some false := (rfl)
@[simp] theorem tyIs_lookD_tstr (sub : Fid → Fid → Bool) (l : List (List Rat)) : tyIs sub (lookD l) .tstr = some false := (rfl)
@[simp] theorem tyIs_lookD_tlist (sub : Fid → Fid → Bool) (l : List (List Rat)) : tyIs sub (lookD l) .tlist = some false := (rfl)
@[simp] theorem tyIs_lookD_ttuple (sub : Fid → Fid → Bool) (l : List (List Rat)) : tyIs sub (lookD l) .ttuple = some true := (rfl)
@[simp] theorem tyIs_lookD_tdict (sub : Fid → Fid → Bool) (l : List (List Rat)) : tyIs sub (lookD l) .tdict = some false := (rfl)
@[simp] theorem isNone_lookD (l : List (List Rat)) : isNone (lookD l) = false := (rfl)
@[simp] theorem isBl_lookD (b : Bool) (l : List (List Rat)) : isBl b (lookD l) = false := (rfl)
@[simp] theorem tyIs_gameD_tint (sub : Fid → Fid → Bool) (l : List (List Rat)) : tyIs sub (gameD l) .tint = some false := (rfl)
@[simp] theorem tyIs_gameD_tbool (sub : Fid → Fid → Bool) (l : List (List Rat)) : tyIs sub (gameD l) .tbool = some false := (rfl)
@[simp] theorem tyIs_gameD_tstr (sub : Fid → Fid → Bool) (l : List (List Rat)) : tyIs sub (gameD l) .tstr = some false := (rfl)
@[simp] theorem tyIs_gameD_tlist (sub : Fid → Fid → Bool) (l : List (List Rat)) : tyIs sub (gameD l) .tlist = some false := (rfl)
@[simp] theorem tyIs_gameD_ttuple (sub : Fid → Fid → Bool) (l : List (List Rat)) : tyIs sub (gameD l) .ttuple = some true := (rfl)
@[simp] theorem tyIs_gameD_tdict (sub : Fid → Fid → Bool) (l : List (List Rat)) : tyIs sub (gameD l) .tdict = some false := (rfl)
@[simp] theorem isNone_gameD (l : List (List Rat)) : isNone (gameD l) = false := (rfl)
@[simp] theorem isBl_gameD (b : Bool) (l : List (List Rat)) : isBl b (gameD l) = false := (rfl)
@[simp] theorem len_row (l : List Rat) : opR C .len [row l] μ = .ok (.int (l.length : Int)) μ := by rw [row, opR_len_lst, List.length_map]
@[simp] theorem srcS_row (l : List Rat) : srcS μ (row l) = some ⟨l.map fr, []⟩ := (rfl)
@[simp] theorem truth_row (l : List Rat) : truth μ (row l) = some (!l.isEmpty) := by rw [row, truth_lst, List.isEmpty_map]
theorem idx_row (l : List Rat) {i : Nat} {x : _} (h : l[i]? = some x) : opR C .idx [row l, .int (i : Int)] μ = .ok (fr x) μ := opR_idx_lst (by rw [List.getElem?_map, h]; rfl)
theorem idx0_row {x : _} {l : _} : opR C .idx [row (x :: l), .int 0] μ = .ok (fr x) μ := idx_row (x :: l) (i := 0) rfl
@[simp] theorem len_rows (l : List (List Rat)) : opR C .len [rows l] μ = .ok (.int (l.length : Int)) μ := by rw [rows, opR_len_lst, List.length_map]
@[simp] theorem srcS_rows (l : List (List Rat)) : srcS μ (rows l) = some ⟨l.map row, []⟩ := (rfl)
@[simp] theorem truth_rows (l : List (List Rat)) : truth μ (rows l) = some (!l.isEmpty) := by rw [rows, truth_lst, List.isEmpty_map]
theorem idx_rows (l : List (List Rat)) {i : Nat} {x : _} (h : l[i]? = some x) : opR C .idx [rows l, .int (i : Int)] μ = .ok (row x) μ := opR_idx_lst (by rw [List.getElem?_map, h]; rfl)
theorem idx0_rows {x : _} {l : _} : opR C .idx [rows (x :: l), .int 0] μ = .ok (row x) μ := idx_rows (x :: l) (i := 0) rfl
@[simp] theorem len_intsD (l : List Int) : opR C .len [intsD l] μ = .ok (.int (l.length : Int)) μ := by rw [intsD, opR_len_lst, List.length_map]
@[simp] theorem srcS_intsD (l : List Int) : srcS μ (intsD l) = some ⟨l.map .int, []⟩ := (rfl)
@[simp] theorem truth_intsD (l : List Int) : truth μ (intsD l) = some (!l.isEmpty) := by rw [intsD, truth_lst, List.isEmpty_map]
theorem idx_intsD (l : List Int) {i : Nat} {x : _} (h : l[i]? = some x) : opR C .idx [intsD l, .int (i : Int)] μ = .ok (.int x) μ := opR_idx_lst (by rw [List.getElem?_map, h]; rfl)
theorem idx0_intsD {x : _} {l : _} : opR C .idx [intsD (x :: l), .int 0] μ = .ok (.int x) μ := idx_intsD (x :: l) (i := 0) rfl
theorem okd_row (n : Nat) (l : List Rat) : okd (n + 2) (row l) = true := by rw [row, okd_lst]; exact okdL_map fun q _ => okd_fr n q
theorem okd_rows (n : Nat) (l : List (List Rat)) : okd (n + 3) (rows l) = true := by rw [rows, okd_lst]; exact okdL_map fun q _ => okd_row n q
theorem okd_intsD (n : Nat) (l : List Int) : okd (n + 2) (intsD l) = true := by rw [intsD, okd_lst]; exact okdL_map fun q _ => okd_int _ q
theorem eqd_row (l m : List Rat) : eqd (row l) (row m) = true ↔ l = m := by rw [row, row, eqd_lst]; exact eqdL_map (fun x y => by rw [eqd_fr, decide_eq_true_iff]) l m
theorem eqd_rows (l m : List (List Rat)) : eqd (rows l) (rows m) = true ↔ l = m := by rw [rows, rows, eqd_lst]; exact eqdL_map eqd_row l m
theorem eqd_intsD (l m : List Int) : eqd (intsD l) (intsD m) = true ↔ l = m := by rw [intsD, intsD, eqd_lst]; exact eqdL_map (fun x y => by rw [eqd_int, decide_eq_true_iff]) l m
@[simp] theorem len_lookD (l : List (List Rat)) : opR C .len [lookD l] μ = .ok (.int 2) μ := (rfl)
@[simp] theorem idx0_lookD (l : List (List Rat)) : opR C .idx [lookD l, .int 0] μ = .ok (.str (PySem.Str.ofString "look")) μ := opR_idx_tup0 _ _
@[simp] theorem idx1_lookD (l : List (List Rat)) : opR C .idx [lookD l, .int 1] μ = .ok (rows l) μ := opR_idx_tup1 _ _ _
@[simp] theorem ne_look : opR C .ne [.str (PySem.Str.ofString "look"), .str (PySem.Str.ofString "look")] μ = .ok (.bl false) μ := by rw [opR_ne (by decide +kernel) (by decide +kernel)]; rfl
@[simp] theorem len_gameD (l : List (List Rat)) : opR C .len [gameD l] μ = .ok (.int 2) μ := (rfl)
@[simp] theorem idx0_gameD (l : List (List Rat)) : opR C .idx [gameD l, .int 0] μ = .ok (.str (PySem.Str.ofString "game")) μ := opR_idx_tup0 _ _
@[simp] theorem idx1_gameD (l : List (List Rat)) : opR C .idx [gameD l, .int 1] μ = .ok (rows l) μ := opR_idx_tup1 _ _ _
@[simp] theorem ne_game : opR C .ne [.str (PySem.Str.ofString "game"), .str (PySem.Str.ofString "game")] μ = .ok (.bl false) μ := by rw [opR_ne (by decide +kernel) (by decide +kernel)]; rfl
theorem sumLists_lst {μ : Mu} {α : Type} (f : α → List D) : ∀ ls : List α, sumLists μ (ls.map fun x => .lst (f x)) = some (ls.map f).flatten
  | [] => rfl
  | l :: ls => by
    show ((litems μ (.lst (f l))).bind fun xs => (sumLists μ (ls.map fun x => .lst (f x))).map fun ys => xs ++ ys) = _
    rw [sumLists_lst f ls]; rfl
theorem sum2_lst {α : Type} (f : α → List D) (ls : List α) (h0 : ls ≠ []) (h : (ls.map f).flatten.length ≤ 1000000) (μ : Mu) : opR C .sum2 [.lst (ls.map fun x => .lst (f x)), .lst []] μ = .ok (.lst (ls.map f).flatten) μ := by
  have e : sum2S μ (.lst (ls.map fun x => .lst (f x))) (.lst []) = some (.new (ls.map f).flatten) := by
    show (if (ls.map fun x => D.lst (f x)).isEmpty = true then some (PR.v (.lst [])) else (sumLists μ (ls.map fun x => D.lst (f x))).bind newL) = _
    have hne : ¬ (ls.map fun x => D.lst (f x)).isEmpty = true := by
      cases ls with
      | nil => exact absurd rfl h0
      | cons _ _ => simp
    rw [if_neg hne, sumLists_lst]
    show newL _ = _
    unfold newL
    rw [if_pos (by unfold LIM; omega)]
  show lift ((sum2S μ (.lst (ls.map fun x => .lst (f x))) (.lst [])).map prD) μ = _
  rw [e]; rfl
end
end PyE
set_option maxRecDepth 100000
namespace PyE
open PySem
def tGcd : CE := .op .gt (.cons (.v 1) (.cons (.con (.int 0)) .nil))
def bGcd : CS := .cons (.asg (.tp [0, 1]) (.op .tup (.cons (.v 1) (.cons (.op .mod (.cons (.v 0) (.cons (.v 1) .nil))) .nil)))) .nil
theorem wgcd1 (cl : Cl) (f : Nat) (a b : Int) (μ : Mu) (h : 0 < b) : wh C cl tGcd bGcd (f + 1) [some (.int a), some (.int b)] μ = wh C cl tGcd bGcd f [some (.int b), some (.int (a.fmod b))] μ := by
  rw [wh_succ]
  simp [tGcd, bGcd, h]
  rw [opR_mod (by omega)]
  simp
theorem wgcd0 (cl : Cl) (f : Nat) (a : Int) (μ : Mu) : wh C cl tGcd bGcd (f + 1) [some (.int a), some (.int 0)] μ = .next [some (.int a), some (.int 0)] μ := by
  rw [wh_succ]
  simp [tGcd, bGcd]
theorem while_gcd (cl : Cl) : ∀ (n a b fuel : Nat) (μ : Mu), b < 2 ^ n → 2 * n + 1 < fuel →
    wh C cl tGcd bGcd fuel [some (.int (a : Int)), some (.int (b : Int))] μ = .next [some (.int ((a.gcd b : Nat) : Int)), some (.int 0)] μ := by
  intro n
  induction n with
  | zero =>
    intro a b fuel μ hb hf
    obtain ⟨f, rfl⟩ : ∃ f, fuel = f + 1 := ⟨fuel - 1, by omega⟩
    have : b = 0 := by omega
    subst this
    rw [show ((0 : Nat) : Int) = 0 from rfl, wgcd0, Nat.gcd_zero_right]
  | succ n ih =>
    intro a b fuel μ hb hf
    obtain ⟨f, rfl⟩ : ∃ f, fuel = f + 2 := ⟨fuel - 2, by omega⟩
    by_cases h0 : b = 0
    · subst h0
      rw [show ((0 : Nat) : Int) = 0 from rfl, wgcd0, Nat.gcd_zero_right]
    rw [wgcd1 _ _ _ _ _ (by omega), nat_fmod]
    by_cases h1 : a % b = 0
    · rw [h1, show ((0 : Nat) : Int) = 0 from rfl, wgcd0, ← gcd_step a b (by omega), h1, Nat.gcd_zero_right]
    rw [wgcd1 _ _ _ _ _ (by omega), nat_fmod, ih _ _ _ _ (by have := mod_half b (a % b) (by omega) (Nat.mod_lt _ (by omega)); rw [Nat.pow_succ] at hb; omega) (by omega)]
    rw [gcd_step b (a % b) (by omega), gcd_step a b (by omega)]
theorem common_divisor_ok (k : Nat) (μ : Mu) (a b : Int) (h : b.natAbs < 2 ^ 8000000) : run C tbl (k + 1) f_common_divisor [.int a, .int b] μ = .ok (.int ((a.natAbs.gcd b.natAbs : Nat) : Int)) μ := by
  rw [run_common_divisor]
  have e := while_gcd (run C tbl k) 8000000 a.natAbs b.natAbs C.W μ h (by decide)
  unfold tGcd bGcd at e
  simp [call1, df_common_divisor, b_common_divisor, e]
theorem gcd_bd {a : Int} {b : Nat} (h : b < 2 ^ 8999) (h0 : b ≠ 0) : divOk ((Nat.gcd a.natAbs b : Nat) : Int) = true := by
  have hg : Nat.gcd a.natAbs b ≠ 0 := fun z => h0 (Nat.gcd_eq_zero_iff.mp z).2
  have hl : Nat.gcd a.natAbs b ≤ b := Nat.le_of_dvd (by omega) (Nat.gcd_dvd_right ..)
  refine divOk_of ?_ (by omega)
  have := Nat.pow_lt_pow_right (a := 2) (m := 8999) (n := 9000) (by decide) (by decide)
  show Nat.gcd a.natAbs b < _
  omega
theorem pow_le {n m : Nat} (h : n ≤ m) {a : Nat} (ha : a < 2 ^ n) : a < 2 ^ m := Nat.lt_of_lt_of_le ha (Nat.pow_le_pow_right (by decide) h)
theorem lowest_ok (k : Nat) (μ : Mu) (a : Int) (b : Nat) (h : b < 2 ^ 8999) (h0 : b ≠ 0) : run C tbl (k + 2) f_lowest [.int a, .int (b : Int)] μ = .ok (fr (mkRat a b)) μ := by
  rw [run_lowest]
  have hn : ¬ ((b : Int) < 0) := by omega
  have e := common_divisor_ok k μ a b (pow_le (by decide) h)
  have d := gcd_bd (a := a) h h0
  simp [call1, df_lowest, b_lowest, hn, e]
  rw [opR_fdiv d]
  simp
  rw [opR_fdiv d]
  simp [fr_lowest _ _ h0]
theorem plus_ok (k : Nat) (μ : Mu) {a b : Rat} (ha : Bd 4000 a) (hb : Bd 4000 b) : run C tbl (k + 3) f_plus [fr a, fr b] μ = .ok (fr (a + b)) μ := by
  have e := lowest_ok k μ (a.num * b.den + b.num * a.den) (a.den * b.den) (pow_le (by decide) (den_mul_lt ha hb)) (den_mul_ne a b)
  rw [Int.natCast_mul, fr_add] at e
  rw [run_plus]
  simp [call1, df_plus, b_plus, mul_nd ha hb, mul_nd hb ha, mul_dd ha hb, e]

theorem times_ok (k : Nat) (μ : Mu) {a b : Rat} (ha : Bd 4000 a) (hb : Bd 4000 b) : run C tbl (k + 3) f_times [fr a, fr b] μ = .ok (fr (a * b)) μ := by
  have e := lowest_ok k μ (a.num * b.num) (a.den * b.den) (pow_le (by decide) (den_mul_lt ha hb)) (den_mul_ne a b)
  rw [Int.natCast_mul, fr_mul] at e
  rw [run_times]
  simp [call1, df_times, b_times, mul_nn ha hb, mul_dd ha hb, e]
theorem is_less_ok (k : Nat) (μ : Mu) {a b : Rat} (ha : Bd 4000 a) (hb : Bd 4000 b) : run C tbl (k + 1) f_is_less [fr a, fr b] μ = .ok (.bl (decide (a < b))) μ := by
  rw [run_is_less]
  simp [call1, df_is_less, b_is_less, mul_nd ha hb, mul_nd hb ha, Rat.lt_iff]
theorem is_whole_int (k : Nat) (μ : Mu) (i : Int) : run C tbl (k + 1) f_is_whole [.int i] μ = .ok (.bl true) μ := by
  rw [run_is_whole]
  simp [call1, df_is_whole, b_is_whole]
theorem is_fraction_ok (k : Nat) (μ : Mu) {q : Rat} (h : Bd 4000 q) : run C tbl (k + 2) f_is_fraction [fr q] μ = .ok (.bl true) μ := by
  rw [run_is_fraction]
  have e := common_divisor_ok k μ q.num q.den (pow_le (by decide) h.2)
  have r : q.num.natAbs.gcd q.den = 1 := q.reduced
  have p : (0 : Int) < (q.den : Int) := by have := q.den_pos; omega
  rw [show ((q.den : Int).natAbs) = q.den from rfl, r] at e
  replace e : run C tbl (k + 1) f_common_divisor [.int q.num, .int (q.den : Int)] μ = .ok (.int 1) μ := e
  simp [call1, df_is_fraction, b_is_fraction, is_whole_int, e, q.den_pos]
theorem is_amount_ok (k : Nat) (μ : Mu) {q : Rat} (h : Bd 4000 q) : run C tbl (k + 3) f_is_amount [fr q] μ = .ok (.bl (decide (0 ≤ q))) μ := by
  rw [run_is_amount]
  simp [call1, df_is_amount, b_is_amount, is_fraction_ok _ _ h]
end PyE
set_option maxRecDepth 100000
namespace PyE
open PySem
theorem summed_loop (k : Nat) (μ : Mu) (L : D) {n : Nat} : ∀ (l : List Rat) (acc : Rat) (m : Nat) (o : Option D), (∀ q ∈ l, Bd n q) → Bd m acc → m + (n + 1) * l.length ≤ 4000 → n ≤ 4000 →
    ∃ o', fo C (run C tbl (k + 3)) (.nm 2) (.cons (.asg (.nm 1) (.call f_plus [0, 1] (.cons (.v 1) (.cons (.v 2) .nil)))) .nil) (fun _ => true) (l.map fr) [some L, some (fr acc), o] μ = .next [some L, some (fr (acc + l.sum)), o'] μ
  | [], acc, m, o, _, _, _, _ => ⟨o, by rw [List.map_nil, fo_nil, if_pos rfl, List.sum_nil, Rat.add_zero]⟩
  | q :: l, acc, m, o, h, ha, hz, hn => by
    have hq := h q (List.mem_cons_self ..)
    rw [List.length_cons, Nat.mul_succ] at hz
    have e := plus_ok k μ (ha.mono (n := 4000) (by omega)) (hq.mono (n := 4000) hn)
    obtain ⟨o', ih⟩ := summed_loop k μ L l (acc + q) (m + n + 1) (some (fr q)) (fun x hx => h x (List.mem_cons_of_mem _ hx)) (ha.add hq) (by omega) hn
    refine ⟨o', ?_⟩
    rw [List.map_cons, fo_cons, if_pos rfl]
    simp  at ih ⊢
    simp [e, ih, Rat.add_assoc]
theorem summed_ok (k : Nat) (μ : Mu) {l : List Rat} {n : Nat} (h : ∀ q ∈ l, Bd n q) (hz : (n + 1) * (l.length + 1) ≤ 4000) : run C tbl (k + 4) f_summed [row l] μ = .ok (fr l.sum) μ := by
  rw [run_summed]
  rw [Nat.mul_succ] at hz
  obtain ⟨o', e⟩ := summed_loop k μ (row l) l 0 1 none h Bd.zero (by omega) (by omega)
  simp [call1, df_summed, b_summed, row] at e ⊢
  rw [fr_zero, Rat.zero_add] at e
  simp [e]
theorem length_zip_eq {α β : Type} {l : List α} {m : List β} (h : l.length = m.length) : (l.zip m).length = l.length := by rw [List.length_zip]; omega
def mulL (l m : List Rat) : List Rat := List.zipWith (· * ·) l m
theorem mulL_zip (l m : List Rat) : mulL l m = (l.zip m).map fun p => p.1 * p.2 := by unfold mulL; rw [List.zip, List.map_zipWith]
def dot (l m : List Rat) : Rat := (mulL l m).sum
theorem Bd_mulL {n n' : Nat} {l m : List Rat} (hl : ∀ q ∈ l, Bd n q) (hm : ∀ q ∈ m, Bd n' q) : ∀ q ∈ mulL l m, Bd (n + n') q := by
  intro q hq
  rw [mulL_zip] at hq
  obtain ⟨p, hp, rfl⟩ := List.mem_map.mp hq
  exact (hl _ (List.of_mem_zip hp).1).mul (hm _ (List.of_mem_zip hp).2)
theorem length_mulL {l m : List Rat} (h : l.length = m.length) : (mulL l m).length = l.length := by unfold mulL; rw [List.length_zipWith]; omega
theorem product_ok (k : Nat) (μ : Mu) {l m : List Rat} {n n' : Nat} (h : l.length = m.length) (hl : ∀ q ∈ l, Bd n q) (hm : ∀ q ∈ m, Bd n' q) (hz : (n + n' + 1) * (l.length + 1) ≤ 4000) :
    run C tbl (k + 5) f_product [row l, row m] μ = .ok (fr (dot l m)) μ := by
  have e := summed_ok k μ (Bd_mulL hl hm) (by rw [length_mulL h]; exact hz)
  rw [row, mulL_zip, List.map_map] at e
  replace e : run C tbl (k + 4) f_summed [.lst ((l.zip m).map fun p => fr (p.1 * p.2))] μ = .ok (fr (dot l m)) μ := by rw [dot, mulL_zip]; exact e
  have hnn : n + n' + 1 ≤ 4000 := Nat.le_trans (Nat.le_mul_of_pos_right _ (by omega : 0 < l.length + 1)) hz
  rw [run_product]
  have c : ∀ ρ : Ro, ρ.length = 4 → cm C (run C tbl (k + 4)) (.tp [2, 3]) .nil (.call f_times [0, 1] (.cons (.v 2) (.cons (.v 3) .nil))) ρ (fun _ => true) ((l.zip m).map fun p => .tup [fr p.1, fr p.2]) μ = .ok ((l.zip m).map fun p => fr (p.1 * p.2)) μ := fun ρ hρ => by
    refine cm_map rfl fun p hp => ?_
    match ρ, hρ with
    | [a, b, c, d], _ =>
      have ht := times_ok (k + 1) μ ((hl _ (List.of_mem_zip hp).1).mono (n := 4000) (by omega)) ((hm _ (List.of_mem_zip hp).2).mono (n := 4000) (by omega))
      simp [wipe, Tg.slots, ht]
  simp [call1, df_product, b_product, row, srcZ_lst _ _ _ (show (l.map fr).length = (m.map fr).length by simpa using h), zipD_map, c, e]
end PyE
set_option maxRecDepth 100000
namespace PyE
open PySem
theorem bnd {n m c d : Nat} (h : n ≤ c) (h' : m ≤ d) (hz : (c + 1) * (d + 1) ≤ 4000 := by decide) : (n + 1) * (m + 1) ≤ 4000 := Nat.le_trans (Nat.mul_le_mul (by omega) (by omega)) hz
theorem bnd0 {n m : Nat} (hz : (n + 1) * (m + 1) ≤ 4000) : n + 1 ≤ 4000 := Nat.le_trans (Nat.le_mul_of_pos_right _ (by omega)) hz
theorem are_chances_ok (k : Nat) (μ : Mu) {l : List Rat} {n : Nat} {many : Int} (h : ∀ q ∈ l, Bd n q) (hz : (n + 1) * (l.length + 1) ≤ 4000) (hm : (l.length : Int) = many) (h0 : ∀ q ∈ l, 0 ≤ q) (h1 : l.sum = 1) :
    run C tbl (k + 5) f_are_chances [row l, .int many] μ = .ok (.bl true) μ := by
  have hnn := bnd0 hz
  have e := summed_ok k μ h hz
  rw [h1] at e
  have c : cm C (run C tbl (k + 4)) (.nm 2) .nil (.call f_is_amount [0] (.cons (.v 2) .nil)) [some (row l), some (.int many), none] (fun _ => true) (l.map fr) μ = .ok (l.map fun q => .bl (decide (0 ≤ q))) μ := by
    refine cm_map rfl fun q hq => ?_
    have ht := is_amount_ok (k + 1) μ ((h q hq).mono (n := 4000) (by omega))
    simp [wipe, Tg.slots, ht]
  have hall : (l.all fun q => decide (0 ≤ q)) = true := List.all_eq_true.mpr fun q hq => decide_eq_true (h0 q hq)
  subst hm
  rw [run_are_chances]
  simp [call1, df_are_chances, b_are_chances, c, hall, e]
theorem are_fractions_ok (k : Nat) (μ : Mu) {l : List Rat} {many : Int} (h : ∀ q ∈ l, Bd 4000 q) (hm : (l.length : Int) = many) :
    run C tbl (k + 3) f_are_fractions [row l, .int many] μ = .ok (.bl true) μ := by
  have c : cm C (run C tbl (k + 2)) (.nm 2) .nil (.call f_is_fraction [0] (.cons (.v 2) .nil)) [some (row l), some (.int many), none] (fun _ => true) (l.map fr) μ = .ok (l.map fun q => .bl ((fun _ => true) q)) μ := by
    refine cm_map rfl fun q hq => ?_
    have ht := is_fraction_ok k μ (h q hq)
    simp [wipe, Tg.slots, ht]
  subst hm
  rw [run_are_fractions]
  simp only [call1, df_are_fractions, b_are_fractions]
  simp [c]
/-- the greatest, from the left -/
def gmax (l : List Rat) : Rat := l.foldl (fun a b => if a < b then b else a) (l.headD 0)
theorem greatest_loop (k : Nat) (μ : Mu) (L : D) : ∀ (l : List Rat) (acc : Rat) (o : Option D), (∀ q ∈ l, Bd 4000 q) → Bd 4000 acc →
    ∃ o', fo C (run C tbl (k + 1)) (.nm 2) (.cons (.asg (.nm 1) (.ite (.call f_is_less [0, 1] (.cons (.v 1) (.cons (.v 2) .nil))) (.v 2) (.v 1))) .nil) (fun _ => true) (l.map fr) [some L, some (fr acc), o] μ = .next [some L, some (fr (l.foldl (fun a b => if a < b then b else a) acc)), o'] μ
  | [], acc, o, _, _ => ⟨o, by rw [List.map_nil, fo_nil, if_pos rfl]; rfl⟩
  | q :: l, acc, o, h, ha => by
    have hq := h q (List.mem_cons_self ..)
    have e := is_less_ok k μ ha hq
    obtain ⟨o', ih⟩ := greatest_loop k μ L l (if acc < q then q else acc) (some (fr q)) (fun x hx => h x (List.mem_cons_of_mem _ hx)) (by split <;> assumption)
    refine ⟨o', ?_⟩
    rw [List.map_cons, fo_cons, if_pos rfl]
    by_cases hlt : acc < q
    · simp [e, hlt] at ih ⊢
      exact ih
    · simp [e, hlt] at ih ⊢
      exact ih
theorem greatest_ok (k : Nat) (μ : Mu) {l : List Rat} (h : ∀ q ∈ l, Bd 4000 q) (h0 : l ≠ []) : run C tbl (k + 2) f_greatest [row l] μ = .ok (fr (gmax l)) μ := by
  rw [run_greatest]
  cases l with
  | nil => exact absurd rfl h0
  | cons q l =>
    obtain ⟨o', e⟩ := greatest_loop k μ (row (q :: l)) (q :: l) q none h (h q (List.mem_cons_self ..))
    rw [List.map_cons] at e
    simp only [call1, df_greatest, b_greatest]
    simp [idx0_row]
    simp at e
    simp [e, gmax]
/-! looks, games -/
structure LookOk (n w : Nat) (l : List (List Rat)) : Prop where
  len : 1 ≤ l.length ∧ l.length ≤ 6
  wid : 1 ≤ w ∧ w ≤ 8
  row : ∀ r ∈ l, r.length = w ∧ (∀ q ∈ r, Bd n q ∧ 0 ≤ q) ∧ r.sum = 1
theorem is_look_by_ok (k : Nat) (μ : Mu) {l : List (List Rat)} {n w : Nat} (h : LookOk n w l) (hn : n ≤ 400) : run C tbl (k + 6) f_is_look_by [lookD l] μ = .ok (.bl true) μ := by
  rw [run_is_look_by]
  cases hl : l with
  | nil => have := h.len; simp [hl] at this
  | cons r0 l' =>
    rw [← hl]
    have i0 : ∀ {μ : Mu}, opR C .idx [rows l, .int 0] μ = .ok (row r0) μ := fun {μ} => by rw [hl]; exact idx0_rows
    have hl0 := (h.row r0 (by rw [hl]; exact List.mem_cons_self ..)).1
    have a1 := h.len
    have a2 := h.wid
    rw [← hl0] at a2
    have c : cm C (run C tbl (k + 5)) (.nm 2) .nil (.call f_are_chances [0, 1] (.cons (.v 2) (.cons (.op .len (.cons (.op .idx (.cons (.v 1) (.cons (.con (.int 0)) .nil))) .nil)) .nil))) [some (lookD l), some (rows l), none] (fun _ => true) (l.map row) μ
      = .ok (l.map fun q => .bl ((fun _ => true) q)) μ := by
      refine cm_map rfl fun r hr => ?_
      obtain ⟨h1, h2, h3⟩ := h.row r hr
      have ht := are_chances_ok k μ (n := n) (many := (r0.length : Int)) (fun q hq => (h2 q hq).1) (by rw [h1]; exact bnd (c := 400) (d := 8) hn (by have := h.wid; omega)) (by rw [h1, hl0]) (fun q hq => (h2 q hq).2) h3
      simp [wipe, Tg.slots, i0, ht]
    simp [call1, df_is_look_by, b_is_look_by, i0, c, show (1 : Int) ≤ (l.length : Int) by omega, show (l.length : Int) ≤ 6 by omega, show (1 : Int) ≤ (r0.length : Int) by omega, show (r0.length : Int) ≤ 8 by omega]
end PyE
set_option maxRecDepth 100000
namespace PyE
open PySem
theorem check_look_ok (k : Nat) (μ : Mu) {l : List (List Rat)} {n w : Nat} (h : LookOk n w l) (hn : n ≤ 400) : run C tbl (k + 7) f_check_look [lookD l] μ = .ok .none μ := by
  rw [run_check_look]
  simp [call1, df_check_look, b_check_look, is_look_by_ok k μ h hn]
theorem standings_of_ok (k : Nat) (μ : Mu) (l : List (List Rat)) : run C tbl (k + 1) f_standings_of [lookD l] μ = .ok (.int (l.length : Int)) μ := by
  rw [run_standings_of]
  simp [call1, df_standings_of, b_standings_of]
theorem LookOk.head {n w : Nat} {l : List (List Rat)} (h : LookOk n w l) : ∃ r0 l', l = r0 :: l' ∧ r0.length = w := by
  cases l with
  | nil => have := h.len; simp at this
  | cons r0 l' => exact ⟨r0, l', rfl, (h.row r0 (List.mem_cons_self ..)).1⟩
theorem marks_of_ok (k : Nat) (μ : Mu) {l : List (List Rat)} {n w : Nat} (h : LookOk n w l) : run C tbl (k + 1) f_marks_of [lookD l] μ = .ok (.int (w : Int)) μ := by
  obtain ⟨r0, l', rfl, hw⟩ := h.head
  rw [run_marks_of]
  simp [call1, df_marks_of, b_marks_of, idx0_rows, hw]
/-- a column -/
def col (l : List (List Rat)) (m : Nat) : List Rat := l.map fun r => r.getD m 0
theorem column_of_ok (k : Nat) (μ : Mu) {l : List (List Rat)} {m : Nat} (hm : ∀ r ∈ l, m < r.length) : run C tbl (k + 1) f_column_of [lookD l, .int (m : Int)] μ = .ok (row (col l m)) μ := by
  have c : cm C (run C tbl k) (.nm 2) .nil (.op .idx (.cons (.v 2) (.cons (.v 1) .nil))) [some (lookD l), some (.int (m : Int)), none] (fun _ => true) (l.map row) μ = .ok (l.map fun r => fr (r.getD m 0)) μ := by
    refine cm_map rfl fun r hr => ?_
    have e : opR C .idx [row r, .int (m : Int)] μ = .ok (fr (r.getD m 0)) μ := idx_row r (by rw [List.getD_eq_getElem?_getD, List.getElem?_eq_getElem (hm r hr)]; rfl)
    simp [wipe, Tg.slots, e]
  rw [run_column_of]
  simp [call1, df_column_of, b_column_of, c, row, col]
structure BelOk (n s : Nat) (b : List Rat) : Prop where
  len : b.length = s
  bd : ∀ q ∈ b, Bd n q
  nn : ∀ q ∈ b, 0 ≤ q
  sum : b.sum = 1
theorem is_belief_by_ok (k : Nat) (μ : Mu) {l : List (List Rat)} {b : List Rat} {n s : Nat} (h : BelOk n s b) (hn : n ≤ 400) (hs : s ≤ 6) (hl : l.length = s) : run C tbl (k + 6) f_is_belief_by [lookD l, row b] μ = .ok (.bl true) μ := by
  have e := are_chances_ok k μ (many := (l.length : Int)) h.bd (by rw [h.len]; exact bnd (c := 400) (d := 8) hn (by omega)) (by rw [h.len, hl]) h.nn h.sum
  rw [run_is_belief_by]
  simp [call1, df_is_belief_by, b_is_belief_by, standings_of_ok, e]
theorem check_belief_ok (k : Nat) (μ : Mu) {l : List (List Rat)} {b : List Rat} {n s : Nat} (h : BelOk n s b) (hn : n ≤ 400) (hs : s ≤ 6) (hl : l.length = s) : run C tbl (k + 7) f_check_belief [lookD l, row b] μ = .ok .none μ := by
  rw [run_check_belief]
  simp [call1, df_check_belief, b_check_belief, is_belief_by_ok k μ h hn hs hl]
structure GameOk (n w : Nat) (l : List (List Rat)) : Prop where
  len : 1 ≤ l.length ∧ l.length ≤ 8
  wid : 1 ≤ w ∧ w ≤ 6
  row : ∀ r ∈ l, r.length = w ∧ ∀ q ∈ r, Bd n q
theorem GameOk.head {n w : Nat} {l : List (List Rat)} (h : GameOk n w l) : ∃ r0 l', l = r0 :: l' ∧ r0.length = w := by
  cases l with
  | nil => have := h.len; simp at this
  | cons r0 l' => exact ⟨r0, l', rfl, (h.row r0 (List.mem_cons_self ..)).1⟩
theorem is_game_by_ok (k : Nat) (μ : Mu) {l : List (List Rat)} {n w : Nat} (h : GameOk n w l) (hn : n ≤ 4000) : run C tbl (k + 4) f_is_game_by [gameD l] μ = .ok (.bl true) μ := by
  rw [run_is_game_by]
  obtain ⟨r0, l', hl, hw⟩ := h.head
  have i0 : ∀ {μ : Mu}, opR C .idx [rows l, .int 0] μ = .ok (row r0) μ := fun {μ} => by rw [hl]; exact idx0_rows
  have a1 := h.len
  have a2 := h.wid
  rw [← hw] at a2
  have c : cm C (run C tbl (k + 3)) (.nm 2) .nil (.call f_are_fractions [0, 1] (.cons (.v 2) (.cons (.op .len (.cons (.op .idx (.cons (.v 1) (.cons (.con (.int 0)) .nil))) .nil)) .nil))) [some (gameD l), some (rows l), none] (fun _ => true) (l.map row) μ
      = .ok (l.map fun q => .bl ((fun _ => true) q)) μ := by
    refine cm_map rfl fun r hr => ?_
    obtain ⟨h1, h2⟩ := h.row r hr
    have ht := are_fractions_ok k μ (many := (r0.length : Int)) (fun q hq => (h2 q hq).mono hn) (by rw [h1, hw])
    simp [wipe, Tg.slots, i0, ht]
  simp [call1, df_is_game_by, b_is_game_by, i0, c, show (1 : Int) ≤ (l.length : Int) by omega, show (l.length : Int) ≤ 8 by omega, show (1 : Int) ≤ (r0.length : Int) by omega, show (r0.length : Int) ≤ 6 by omega]
theorem check_game_ok (k : Nat) (μ : Mu) {l g : List (List Rat)} {n w : Nat} (h : GameOk n w g) (hn : n ≤ 4000) (hl : l.length = w) : run C tbl (k + 5) f_check_game [lookD l, gameD g] μ = .ok .none μ := by
  rw [run_check_game]
  obtain ⟨r0, l', hg, hw⟩ := h.head
  have i0 : ∀ {μ : Mu}, opR C .idx [rows g, .int 0] μ = .ok (row r0) μ := fun {μ} => by rw [hg]; exact idx0_rows
  simp [call1, df_check_game, b_check_game, is_game_by_ok k μ h hn, i0, standings_of_ok, hw, hl]
theorem check_asked_ok (k : Nat) (μ : Mu) {l g : List (List Rat)} {b : List Rat} {n n1 n2 w s : Nat} (h : LookOk n w l) (hb : BelOk n1 s b) (hg : GameOk n2 s g) (hl : l.length = s) (hn : n ≤ 400) (hn1 : n1 ≤ 400) (hn2 : n2 ≤ 4000) :
    run C tbl (k + 8) f_check_asked [lookD l, row b, gameD g] μ = .ok .none μ := by
  rw [run_check_asked]
  simp [call1, df_check_asked, b_check_asked, check_look_ok k μ h hn, check_belief_ok k μ hb hn1 (by rw [← hl]; exact h.len.2) hl, check_game_ok (k + 2) μ hg hn2 hl]
theorem Bd_col {l : List (List Rat)} {n m : Nat} (h : ∀ r ∈ l, ∀ q ∈ r, Bd n q) (hn : 1 ≤ n) : ∀ q ∈ col l m, Bd n q := by
  intro q hq
  obtain ⟨r, hr, rfl⟩ := List.mem_map.mp hq
  show Bd n (r.getD m 0)
  rw [List.getD_eq_getElem?_getD]
  cases e : r[m]? with
  | none => exact Bd.zero.mono hn
  | some x => exact h r hr x (List.mem_of_getElem? e)
theorem length_col (l : List (List Rat)) (m : Nat) : (col l m).length = l.length := by unfold col; rw [List.length_map]
theorem weighed_ok (k : Nat) (μ : Mu) {l : List (List Rat)} {b : List Rat} {m : Nat} (hm : ∀ r ∈ l, m < r.length) (hl : ∀ r ∈ l, ∀ q ∈ r, Bd 4000 q) (hb : ∀ q ∈ b, Bd 4000 q) (hlen : b.length = l.length) :
    run C tbl (k + 4) f_weighed [lookD l, row b, .int (m : Int)] μ = .ok (row (mulL b (col l m))) μ := by
  have c : cm C (run C tbl (k + 3)) (.tp [3, 4]) .nil (.call f_times [0, 1] (.cons (.v 3) (.cons (.v 4) .nil))) [some (lookD l), some (row b), some (.int (m : Int)), none, none] (fun _ => true) ((b.zip (col l m)).map fun p => .tup [fr p.1, fr p.2]) μ = .ok ((b.zip (col l m)).map fun p => fr (p.1 * p.2)) μ := by
    refine cm_map rfl fun p hp => ?_
    have ht := times_ok k μ (hb _ (List.of_mem_zip hp).1) (Bd_col hl (by decide) _ (List.of_mem_zip hp).2)
    simp [wipe, Tg.slots, ht]
  rw [run_weighed]
  simp only [call1, df_weighed, b_weighed]
  have z : srcZ true μ (row b) (row (col l m)) = some ⟨(b.zip (col l m)).map fun p => .tup [fr p.1, fr p.2], []⟩ := by
    unfold row
    rw [srcZ_lst _ _ _ (by rw [List.length_map, List.length_map, length_col, hlen]), zipD_map]
  simp [column_of_ok (k + 2) μ hm, z, c]
  rw [row, mulL_zip, List.map_map]; rfl
def paysL (l : List (List Rat)) (b : List Rat) (g : List (List Rat)) (m : Nat) : List Rat := g.map fun p => dot (mulL b (col l m)) p
theorem pays_at_ok (k : Nat) (μ : Mu) {l g : List (List Rat)} {b : List Rat} {m n n1 n2 w s : Nat} (h : LookOk n w l) (hb : BelOk n1 s b) (hg : GameOk n2 s g) (hl : l.length = s) (hn : n + n1 + n2 ≤ 70) (hn0 : 1 ≤ n) (hm : m < w) :
    run C tbl (k + 6) f_pays_at [lookD l, row b, gameD g, .int (m : Int)] μ = .ok (row (paysL l b g m)) μ := by
  have hs := h.len.2
  have e := weighed_ok (k + 1) μ (l := l) (b := b) (m := m) (fun r hr => by rw [(h.row r hr).1]; exact hm) (fun r hr q hq => ((h.row r hr).2.1 q hq).1.mono (by omega)) (fun q hq => (hb.bd q hq).mono (by omega)) (by rw [hb.len, hl])
  have lm : (mulL b (col l m)).length = s := by rw [length_mulL (by rw [length_col, hb.len, hl]), hb.len]
  have c : cm C (run C tbl (k + 5)) (.nm 5) .nil (.call f_product [0, 1] (.cons (.v 4) (.cons (.v 5) .nil))) [some (lookD l), some (row b), some (gameD g), some (.int (m : Int)), some (row (mulL b (col l m))), none] (fun _ => true) (g.map row) μ = .ok (g.map fun p => fr (dot (mulL b (col l m)) p)) μ := by
    refine cm_map rfl fun p hp => ?_
    have ht := product_ok k μ (l := mulL b (col l m)) (m := p) (n := n1 + n) (n' := n2) (by rw [lm, (hg.row p hp).1]) (Bd_mulL hb.bd (Bd_col (fun r hr q hq => ((h.row r hr).2.1 q hq).1) hn0)) (hg.row p hp).2 (by rw [lm]; exact bnd (c := 70) (d := 8) (by omega) (by omega))
    simp [wipe, Tg.slots, ht]
  rw [run_pays_at]
  simp [call1, df_pays_at, b_pays_at, e, c]
  rw [paysL, row, List.map_map]; rfl
def worthL (l : List (List Rat)) (b : List Rat) (g : List (List Rat)) (w : Nat) : Rat := ((List.range w).map fun m => gmax (paysL l b g m)).sum
theorem gmax_mem {l : List Rat} (h : l ≠ []) : gmax l ∈ l := by
  have aux : ∀ (l : List Rat) (a : Rat), l.foldl (fun a b => if a < b then b else a) a = a ∨ l.foldl (fun a b => if a < b then b else a) a ∈ l := by
    intro l
    induction l with
    | nil => intro a; exact .inl rfl
    | cons b l ih =>
      intro a
      rw [List.foldl_cons]
      by_cases hlt : a < b
      · rw [if_pos hlt]
        rcases ih b with q | q
        · exact .inr (by rw [q]; exact List.mem_cons_self ..)
        · exact .inr (List.mem_cons_of_mem _ q)
      · rw [if_neg hlt]
        rcases ih a with q | q
        · exact .inl q
        · exact .inr (List.mem_cons_of_mem _ q)
  cases l with
  | nil => exact absurd rfl h
  | cons b l =>
    unfold gmax
    rcases aux (b :: l) b with q | q
    · rw [show (b :: l).headD 0 = b from rfl, q]; exact List.mem_cons_self ..
    · exact q
theorem le_gmax {l : List Rat} {q : Rat} (h : q ∈ l) : q ≤ gmax l := by
  have aux : ∀ (l : List Rat) (a : Rat), a ≤ l.foldl (fun a b => if a < b then b else a) a ∧ ∀ q ∈ l, q ≤ l.foldl (fun a b => if a < b then b else a) a := by
    intro l
    induction l with
    | nil => intro a; exact ⟨Rat.le_refl, fun q h => by simp at h⟩
    | cons b l ih =>
      intro a
      rw [List.foldl_cons]
      by_cases hlt : a < b
      · rw [if_pos hlt]
        obtain ⟨h1, h2⟩ := ih b
        refine ⟨Rat.le_trans (Rat.le_of_lt hlt) h1, fun q hq => ?_⟩
        rcases List.mem_cons.mp hq with rfl | hq
        · exact h1
        · exact h2 q hq
      · rw [if_neg hlt]
        obtain ⟨h1, h2⟩ := ih a
        refine ⟨h1, fun q hq => ?_⟩
        rcases List.mem_cons.mp hq with rfl | hq
        · exact Rat.le_trans (Rat.not_lt.mp hlt) h1
        · exact h2 q hq
  exact (aux l _).2 q h
theorem Bd_dot {l m : List Rat} {n n' s : Nat} (hl : ∀ q ∈ l, Bd n q) (hm : ∀ q ∈ m, Bd n' q) (h1 : l.length = s) (h2 : m.length = s) : Bd ((n + n' + 1) * s + 1) (dot l m) := by
  have := Bd.sum (Bd_mulL hl hm)
  rw [length_mulL (by rw [h1, h2]), h1] at this
  exact this
theorem Bd_pays {l g : List (List Rat)} {b : List Rat} {m n n1 n2 w s : Nat} (h : LookOk n w l) (hb : BelOk n1 s b) (hg : GameOk n2 s g) (hl : l.length = s) (hn : n + n1 + n2 ≤ 70) (hn0 : 1 ≤ n) : ∀ q ∈ paysL l b g m, Bd 427 q := by
  intro q hq
  obtain ⟨p, hp, rfl⟩ := List.mem_map.mp hq
  have lm : (mulL b (col l m)).length = s := by rw [length_mulL (by rw [length_col, hb.len, hl]), hb.len]
  have hs := h.len.2
  refine (Bd_dot (n := n1 + n) (n' := n2) (Bd_mulL hb.bd (Bd_col (fun r hr q hq => ((h.row r hr).2.1 q hq).1) hn0)) (hg.row p hp).2 lm (hg.row p hp).1).mono ?_
  have := Nat.mul_le_mul (show n1 + n + n2 + 1 ≤ 71 by omega) (show s ≤ 6 by omega)
  omega
theorem pays_ne {l g : List (List Rat)} {b : List Rat} {m n2 s : Nat} (hg : GameOk n2 s g) : paysL l b g m ≠ [] := by
  obtain ⟨r0, l', rfl, _⟩ := hg.head
  simp [paysL]
theorem worth_by_ok (k : Nat) (μ : Mu) {l g : List (List Rat)} {b : List Rat} {n n1 n2 w s : Nat} (h : LookOk n w l) (hb : BelOk n1 s b) (hg : GameOk n2 s g) (hl : l.length = s) (hn : n + n1 + n2 ≤ 70) (hn0 : 1 ≤ n) :
    run C tbl (k + 7) f_worth_by [lookD l, row b, gameD g] μ = .ok (fr (worthL l b g w)) μ := by
  have c : cm C (run C tbl (k + 6)) (.nm 3) .nil (.call f_greatest [0] (.cons (.call f_pays_at [0, 1, 2, 3] (.cons (.v 0) (.cons (.v 1) (.cons (.v 2) (.cons (.v 3) .nil))))) .nil)) [some (lookD l), some (row b), some (gameD g), none] (fun _ => true) ((List.range w).map fun m : Nat => .int (m : Int)) μ
      = .ok ((List.range w).map fun m => fr (gmax (paysL l b g m))) μ := by
    refine cm_map rfl fun m hm => ?_
    have e1 := pays_at_ok k μ h hb hg hl hn hn0 (List.mem_range.mp hm)
    have e2 := greatest_ok (k + 4) μ (fun q hq => (Bd_pays (m := m) h hb hg hl hn hn0 q hq).mono (by decide)) (pays_ne hg)
    simp [wipe, Tg.slots, e1, e2]
  have e := summed_ok (k + 2) μ (l := (List.range w).map fun m => gmax (paysL l b g m)) (n := 427) (fun q hq => by
    obtain ⟨m, _, rfl⟩ := List.mem_map.mp hq
    exact Bd_pays (m := m) h hb hg hl hn hn0 _ (gmax_mem (pays_ne hg))) (by rw [List.length_map, List.length_range]; exact bnd (c := 427) (d := 8) (by omega) h.wid.2)
  rw [row, List.map_map] at e
  replace e : run C tbl (k + 6) f_summed [.lst ((List.range w).map fun m => fr (gmax (paysL l b g m)))] μ = .ok (fr (worthL l b g w)) μ := e
  rw [run_worth_by]
  simp [call1, df_worth_by, b_worth_by, marks_of_ok (k + 5) μ h, srcR1_nat w (by have := h.wid; omega), rangeD0, c, e]
theorem worth_ok (k : Nat) (μ : Mu) {l g : List (List Rat)} {b : List Rat} {n n1 n2 w s : Nat} (h : LookOk n w l) (hb : BelOk n1 s b) (hg : GameOk n2 s g) (hl : l.length = s) (hn : n + n1 + n2 ≤ 70) (hn0 : 1 ≤ n) :
    run C tbl (k + 9) f_worth [lookD l, row b, gameD g] μ = .ok (fr (worthL l b g w)) μ := by
  rw [run_worth]
  simp [call1, df_worth, b_worth, check_asked_ok k μ h hb hg hl (by omega) (by omega) (by omega), worth_by_ok (k + 1) μ h hb hg hl hn hn0]
end PyE
set_option maxRecDepth 100000
namespace PyE
open PySem
/-! the law's own numbers -/
theorem mulI {C : Cfg} (i j : Int) (h1 : i.natAbs ≤ 1000000000000000000000000000000) (h2 : j.natAbs ≤ 1000000000000000000000000000000) : ∀ μ, opR C .mul [.int i, .int j] μ = .ok (.int (i * j)) μ := fun μ =>
  opR_mul (mulOk_of (n := 200) (Nat.lt_of_le_of_lt h1 (by decide)) (Nat.lt_of_le_of_lt h2 (by decide)) (by decide))
theorem modI {C : Cfg} (i j : Int) (h : j ≠ 0) : ∀ μ, opR C .mod [.int i, .int j] μ = .ok (.int (i.fmod j)) μ := fun μ => opR_mod h
theorem hash_ok (k : Nat) (μ : Mu) (b c : Int) (hb : 0 ≤ b ∧ b < 2147483647) (hc : 0 ≤ c ∧ c ≤ 1000000000) : ∃ r : Int, (0 ≤ r ∧ r < 2147483647) ∧ run C tbl (k + 1) f__law_hash [.int b, .int c] μ = .ok (.int r) μ := by
  have m1 := mulI (C := C) b 1220147 (by omega) (by omega)
  have m2 := mulI (C := C) 16777903 c (by omega) (by omega)
  have m3 := mulI (C := C) (16777903 * c) c (by omega) (by omega)
  have m4 := mulI (C := C) 223 c (by omega) (by omega)
  have m5 := mulI (C := C) 69019 c (by omega) (by omega)
  obtain ⟨x, hx⟩ : ∃ x, x = b * 1220147 + 16777903 * c * c + 223 * c + 97 := ⟨_, rfl⟩
  have a1 := Int.fmod_nonneg_of_pos x (b := 2147483629) (by decide)
  have a2 := Int.fmod_lt_of_pos x (b := 2147483629) (by decide)
  have d1 := modI (C := C) x 2147483629 (by decide)
  obtain ⟨y, hy⟩ : ∃ y, y = x.fmod 2147483629 := ⟨_, rfl⟩
  have m6 := mulI (C := C) y y (by omega) (by omega)
  obtain ⟨z, hz⟩ : ∃ z, z = y * y + 69019 * c + 32416187 := ⟨_, rfl⟩
  have b1 := Int.fmod_nonneg_of_pos z (b := 2147483587) (by decide)
  have b2 := Int.fmod_lt_of_pos z (b := 2147483587) (by decide)
  have d2 := modI (C := C) z 2147483587 (by decide)
  obtain ⟨u, hu⟩ : ∃ u, u = z.fmod 2147483587 := ⟨_, rfl⟩
  have m7 := mulI (C := C) u 48271 (by omega) (by omega)
  have d3 := modI (C := C) (u * 48271) 2147483647 (by decide)
  refine ⟨(u * 48271).fmod 2147483647, ⟨Int.fmod_nonneg_of_pos _ (by decide), Int.fmod_lt_of_pos _ (by decide)⟩, ?_⟩
  rw [run__law_hash]
  simp [call1, df__law_hash, b__law_hash, m1, m2, m3, m4, m5, ← hx, d1, ← hy, m6, ← hz, d2, ← hu, m7, d3]
/-- a generator's state: cell n -/
def Gn (n N : Nat) (μ : Mu) : Prop := ∃ a b c : Int, μ[n]? = some [.int a, .int b, .int c] ∧ 0 ≤ a ∧ (0 ≤ b ∧ b < 2147483647) ∧ 0 ≤ c ∧ c ≤ N
theorem Gn.mono {n N M : Nat} {μ : Mu} (h : Gn n N μ) (hN : N ≤ M) : Gn n M μ := by
  obtain ⟨a, b, c, h1, h2, h3, h4, h5⟩ := h
  exact ⟨a, b, c, h1, h2, h3, h4, by omega⟩
/-- only cell n is changed -/
def Up (n : Nat) (μ μ' : Mu) : Prop := ∃ xs, μ' = μ.set n xs
theorem Up.refl' {n : Nat} {μ : Mu} {xs : List D} (h : μ[n]? = some xs) : Up n μ μ := by
  refine ⟨xs, (List.ext_getElem? fun i => ?_)⟩
  by_cases e : n = i
  · subst e
    rw [List.getElem?_set_self (List.getElem?_eq_some_iff.mp h).1, h]
  · rw [List.getElem?_set_ne e]
theorem Up.trans {n : Nat} {μ μ1 μ2 : Mu} (h : Up n μ μ1) (h' : Up n μ1 μ2) : Up n μ μ2 := by
  obtain ⟨xs, rfl⟩ := h
  obtain ⟨ys, rfl⟩ := h'
  exact ⟨ys, by rw [List.set_set]⟩
theorem Up.length {n : Nat} {μ μ' : Mu} (h : Up n μ μ') : μ'.length = μ.length := by
  obtain ⟨xs, rfl⟩ := h
  rw [List.length_set]
theorem Gn.up {n N : Nat} {μ : Mu} (h : Gn n N μ) : Up n μ μ := by
  obtain ⟨a, b, c, h1, _⟩ := h
  exact Up.refl' h1
theorem fin_up {n : Nat} {μ μ' : Mu} (h : Up n μ μ') (d : D) (k : D → Mu → Res D) : fin μ d μ' k = k d μ' := if_pos h.length
theorem leave_up {n : Nat} {μ μ' : Mu} (h : Up n μ μ') (d : D) : leave μ (.ret d μ') = .ok d μ' := fin_up h d _
theorem subS_ok {n i : Nat} {μ : Mu} {xs : List D} {d : D} (h : μ[n]? = some xs) (hi : i < xs.length) : subS μ (.ref n) (.int (i : Int)) d = some (μ.set n (xs.set i d)) := by
  show ((μ[n]?).bind fun xs => (place (i : Int) xs.length).map fun k => μ.set n (xs.set k d)) = _
  rw [h]
  have : place (i : Int) xs.length = some i := by
    unfold place
    rw [if_pos (by omega), if_pos (by omega)]
    simp
  simp [this]
theorem ibits_small {b : Int} (h0 : 0 < b) (h : b < 1000) : (ibits b : Int).fdiv 30 = 0 := by
  have h1 : b.natAbs.log2 < 10 := (Nat.log2_lt (by omega)).mpr (by omega)
  unfold ibits
  rw [if_neg (by omega), Int.fdiv_eq_ediv_of_nonneg _ (by decide)]
  omega
theorem random_ok (k : Nat) {μ : Mu} {n N : Nat} (b : Int) (hb0 : 0 < b) (hb : b < 1000) (hN : N < 1000000000) (G : Gn n N μ) :
    ∃ (r : Int) (μ' : Mu), (0 ≤ r ∧ r < b) ∧ Up n μ μ' ∧ Gn n (N + 1) μ' ∧ run C tbl (k + 2) f__law_random [.ref n, .int b] μ = .ok (.int r) μ' := by
  obtain ⟨g0, g1, g2, h, a0, a1, a2, a3⟩ := G
  have hl : n < μ.length := (List.getElem?_eq_some_iff.mp h).1
  have i0 : opR C .idx [.ref n, .int 0] μ = .ok (.int g0) μ := opR_idx_of (i := 0) h rfl
  have i1 : opR C .idx [.ref n, .int 1] μ = .ok (.int g1) μ := opR_idx_of (i := 1) h rfl
  have i2 : opR C .idx [.ref n, .int 2] μ = .ok (.int g2) μ := opR_idx_of (i := 2) h rfl
  rw [run__law_random]
  by_cases hg : 0 < g0
  · have d := modI (C := C) g0 b (by omega)
    have f : opR C .fdiv [.int g0, .int b] μ = .ok (.int (g0.fdiv b)) μ := opR_fdiv (divOk_of (Nat.lt_trans (show b.natAbs < 2 ^ 10 by omega) (Nat.pow_lt_pow_right (by decide) (by decide))) (by omega))
    have s0 : subS μ (.ref n) (.int 0) (.int (g0.fdiv b)) = some (μ.set n [.int (g0.fdiv b), .int g1, .int g2]) := subS_ok (i := 0) h (by simp)
    have up : Up n μ (μ.set n [.int (g0.fdiv b), .int g1, .int g2]) := ⟨_, rfl⟩
    refine ⟨g0.fmod b, _, ⟨Int.fmod_nonneg_of_pos _ hb0, Int.fmod_lt_of_pos _ hb0⟩, up, ⟨g0.fdiv b, g1, g2, List.getElem?_set_self hl, ?_, a1, a2, by omega⟩, ?_⟩
    · rw [Int.fdiv_eq_ediv_of_nonneg _ (by omega)]
      exact Int.ediv_nonneg a0 (by omega)
    · simp [call1, df__law_random, b__law_random, i0, hg, d, f, s0, leave_up up]
  · obtain ⟨r, hr, hh⟩ := hash_ok k (μ.set n [.int g0, .int g1, .int (g2 + 1)]) g1 (g2 + 1) a1 ⟨by omega, by omega⟩
    have s2 : subS μ (.ref n) (.int 2) (.int (g2 + 1)) = some (μ.set n [.int g0, .int g1, .int (g2 + 1)]) := subS_ok (i := 2) h (by simp)
    have up : Up n μ (μ.set n [.int g0, .int g1, .int (g2 + 1)]) := ⟨_, rfl⟩
    have hs : (μ.set n [.int g0, .int g1, .int (g2 + 1)])[n]? = some [.int g0, .int g1, .int (g2 + 1)] := List.getElem?_set_self hl
    have j1 : opR C .idx [.ref n, .int 1] (μ.set n [.int g0, .int g1, .int (g2 + 1)]) = .ok (.int g1) (μ.set n [.int g0, .int g1, .int (g2 + 1)]) := opR_idx_of (i := 1) hs rfl
    have j2 : opR C .idx [.ref n, .int 2] (μ.set n [.int g0, .int g1, .int (g2 + 1)]) = .ok (.int (g2 + 1)) (μ.set n [.int g0, .int g1, .int (g2 + 1)]) := opR_idx_of (i := 2) hs rfl
    have fd : ∀ μ, opR C .fdiv [.int (ibits b : Nat), .int 30] μ = .ok (.int ((ibits b : Int).fdiv 30)) μ := fun μ => opR_fdiv (divOk_of (Nat.lt_trans (show (30 : Int).natAbs < 2 ^ 10 by decide) (Nat.pow_lt_pow_right (by decide) (by decide))) (by omega))
    have bl : ∀ μ, opR C .bitlen [.int b] μ = .ok (.int (ibits b : Nat)) μ := fun μ => rfl
    have m0 := mulI (C := C) 0 2147483587 (by decide) (by decide)
    have d := modI (C := C) r b (by omega)
    have sr : srcR1 (.int 1) = some ⟨[.int 0], []⟩ := by rw [show (1 : Int) = ((1 : Nat) : Int) from rfl, srcR1_nat 1 (by decide), rangeD0]; rfl
    refine ⟨r.fmod b, _, ⟨Int.fmod_nonneg_of_pos _ hb0, Int.fmod_lt_of_pos _ hb0⟩, up, ⟨g0, g1, g2 + 1, hs, a0, a1, by omega, by omega⟩, ?_⟩
    simp [call1, df__law_random, b__law_random, i0, hg, bl, fd, ibits_small hb0 hb, sr, fo_cons, fo_nil, i2, s2, j1, j2, hh, m0, d, leave_up up]
end PyE
set_option maxRecDepth 100000
namespace PyE
open PySem
theorem slc_scr {C : Cfg} (ns : List Int) (μ : Mu) : opR C (.slc false true) [.scr ns, .int 1] μ = .ok (.lst ((ns.take 1).map .int)) μ := by
  have e : cut (ns.map D.int) 0 (clamp 1 (ns.map D.int).length) = (ns.take 1).map .int := by
    cases ns with
    | nil => rfl
    | cons a r =>
      have : clamp 1 ((a :: r).map D.int).length = 1 := by
        unfold clamp
        rw [if_pos (by decide), List.length_map, List.length_cons]
        show min 1 (r.length + 1) = 1
        omega
      rw [this]; rfl
  show Res.ok (D.lst (cut (ns.map D.int) 0 (clamp 1 (ns.map D.int).length))) μ = _
  rw [e]
theorem sum_ints {C : Cfg} (l : List Int) (μ : Mu) : opR C .sum1 [.lst (l.map .int)] μ = .ok (.int l.sum) μ := by
  have := opR_sum_map (C := C) (μ := μ) (fun x : Int => x) l
  rw [List.map_id'] at this
  exact this
theorem cell_ok (k : Nat) (μ : Mu) (ns : List Int) (i : Nat) : ∃ r : Int, run C tbl (k + 1) f__law_cell [.scr ns, .int (i : Int)] μ = .ok (.int r) μ := by
  rw [run__law_cell]
  by_cases h : i < ns.length
  · have e : opR C .idx [.scr ns, .int (i : Int)] μ = .ok (.int ns[i]) μ := opR_idx_of (xs := ns.map D.int) rfl (by rw [List.getElem?_map, List.getElem?_eq_getElem h]; rfl)
    have h' : (i : Int) < (ns.length : Int) := by omega
    exact ⟨ns[i], by simp [call1, df__law_cell, b__law_cell, h, e]⟩
  · have d := modI (C := C) (ns.take 1).sum 1000003 (by decide)
    refine ⟨(ns.take 1).sum.fmod 1000003, ?_⟩
    simp only [call1, df__law_cell, b__law_cell]
    have sm := fun μ => sum_ints (C := C) (ns.take 1) μ
    rw [List.map_take] at sm
    simp [h, slc_scr, sm, d]
theorem pow_c {C : Cfg} {i j : Int} (h : 0 ≤ j ∧ ibits i * j.toNat ≤ 100000000) (μ : Mu) : opR C .pow [.int i, .int j] μ = .ok (.int (i ^ j.toNat)) μ := by
  show lift ((powS i j).map prD) μ = _
  unfold powS
  rw [if_pos h]; rfl
theorem max2_c {C : Cfg} (i j : Int) (μ : Mu) : opR C .max2 [.int i, .int j] μ = .ok (.int (if j > i then j else i)) μ := rfl
open Classical in
theorem keepC_new {μ : Mu} {xs : List D} (h : D.undL μ.length xs = true) : keepC μ μ.length (μ ++ [xs]) = .ok (.ref μ.length) (μ ++ [xs]) := by
  unfold keepC
  rw [List.getElem?_append_right (Nat.le_refl _), Nat.sub_self]
  show (if _ then _ else _ : Res D) = _
  refine (if_pos ⟨Nat.le_refl _, h, fun i hi => .inl (List.getElem?_append_left hi)⟩).trans ?_
  rw [List.take_left' rfl]
theorem generator_ok (k : Nat) (μ : Mu) (ns : List Int) (i : Nat) (hi : i ≤ 9) : ∃ xs, Gn μ.length 10000 (μ ++ [xs]) ∧ run C tbl (k + 2) f__law_generator [.scr ns, .int (i : Int)] μ = .ok (.ref μ.length) (μ ++ [xs]) := by
  obtain ⟨r, e⟩ := cell_ok k μ ns i
  obtain ⟨a, ha, p1⟩ : ∃ a : Int, 0 < a ∧ ∀ μ, opR C .pow [.int 10, .int 18] μ = .ok (.int a) μ := ⟨_, by decide, pow_c (C := C) (i := 10) (j := 18) (by decide)⟩
  obtain ⟨b, q, hq0, p2, p3⟩ : ∃ b q : Int, 0 < q ∧ (∀ μ, opR C .pow [.int 10, .int 60] μ = .ok (.int b) μ) ∧ ∀ μ, opR C .pow [.int b, .int 10] μ = .ok (.int q) μ := ⟨_, _, by decide, pow_c (C := C) (i := 10) (j := 60) (by decide), pow_c (C := C) (i := 10 ^ (60 : Int).toNat) (j := 10) (by decide)⟩
  obtain ⟨x, hx⟩ : ∃ x : Int, x = (if (0 : Int) > r - a then 0 else r - a) := ⟨_, rfl⟩
  have hm : ∀ μ, opR C .max2 [.int (r - a), .int 0] μ = .ok (.int x) μ := fun μ => by rw [max2_c, hx]
  have d1 := modI (C := C) x q (by omega)
  have d2 := modI (C := C) r 2147483647 (by decide)
  have m1 := mulI (C := C) 1000 (i : Int) (by decide) (by omega)
  refine ⟨[.int (x.fmod q), .int (r.fmod 2147483647), .int (1000 * (i : Int))], ⟨_, _, _, by rw [List.getElem?_append_right (Nat.le_refl _), Nat.sub_self]; rfl, Int.fmod_nonneg_of_pos _ hq0, ⟨Int.fmod_nonneg_of_pos _ (by decide), Int.fmod_lt_of_pos _ (by decide)⟩, by omega, by omega⟩, ?_⟩
  rw [run__law_generator]
  have lst : ∀ (vs : List D) (μ : Mu), (lift ((opS C μ .lst vs).bind prN) μ) = .ok vs μ := fun vs μ => rfl
  have kn := keepC_new (μ := μ) (xs := [.int (x.fmod q), .int (r.fmod 2147483647), .int (1000 * (i : Int))]) rfl
  have lk : ∀ (k : Nat) (μ1 : Mu), leaveK μ (.ret (.ref k) μ1) = keepC μ k μ1 := fun _ _ => rfl
  simp [call1, df__law_generator, b__law_generator, e, p1, p2, p3, hm, d1, d2, m1, lst, lk, kn]
theorem pick_ok (k : Nat) {μ : Mu} {n N : Nat} (xs : List D) (h0 : xs ≠ []) (h1 : xs.length < 1000) (hN : N < 1000000000) (G : Gn n N μ) :
    ∃ (d : D) (μ' : Mu), d ∈ xs ∧ Up n μ μ' ∧ Gn n (N + 1) μ' ∧ run C tbl (k + 3) f__law_pick [.ref n, .lst xs] μ = .ok d μ' := by
  have hl : 0 < xs.length := List.length_pos_iff.mpr h0
  obtain ⟨r, μ', hr, up, G', e⟩ := random_ok k (xs.length : Int) (by omega) (by omega) hN G
  obtain ⟨m, rfl⟩ : ∃ m : Nat, r = (m : Int) := ⟨r.toNat, by omega⟩
  have hm : m < xs.length := by omega
  refine ⟨xs[m], μ', List.getElem_mem hm, up, G', ?_⟩
  have i := opR_idx_lst (C := C) (μ := μ') (List.getElem?_eq_getElem hm)
  rw [run__law_pick]
  simp [call1, df__law_pick, b__law_pick, e, i, leave_up up]
/-! fractions again -/
def tGcd2 : CE := .op .gt (.cons (.v 3) (.cons (.con (.int 0)) .nil))
def bGcd2 : CS := .cons (.asg (.tp [2, 3]) (.op .tup (.cons (.v 3) (.cons (.op .mod (.cons (.op .int_ (.cons (.v 2) .nil)) (.cons (.v 3) .nil))) .nil)))) .nil
theorem wgcd21 (cl : Cl) (f : Nat) (x y : Option D) (a b : Int) (μ : Mu) (h : 0 < b) : wh C cl tGcd2 bGcd2 (f + 1) [x, y, some (.int a), some (.int b)] μ = wh C cl tGcd2 bGcd2 f [x, y, some (.int b), some (.int (a.fmod b))] μ := by
  rw [wh_succ]
  simp [tGcd2, bGcd2, h]
  rw [opR_mod (by omega)]
  simp
theorem wgcd20 (cl : Cl) (f : Nat) (x y : Option D) (a : Int) (μ : Mu) : wh C cl tGcd2 bGcd2 (f + 1) [x, y, some (.int a), some (.int 0)] μ = .next [x, y, some (.int a), some (.int 0)] μ := by
  rw [wh_succ]
  simp [tGcd2, bGcd2]
theorem while_gcd2 (cl : Cl) (x y : Option D) : ∀ (n a b fuel : Nat) (μ : Mu), b < 2 ^ n → 2 * n + 1 < fuel →
    wh C cl tGcd2 bGcd2 fuel [x, y, some (.int (a : Int)), some (.int (b : Int))] μ = .next [x, y, some (.int ((a.gcd b : Nat) : Int)), some (.int 0)] μ := by
  intro n
  induction n with
  | zero =>
    intro a b fuel μ hb hf
    obtain ⟨f, rfl⟩ : ∃ f, fuel = f + 1 := ⟨fuel - 1, by omega⟩
    have : b = 0 := by omega
    subst this
    rw [show ((0 : Nat) : Int) = 0 from rfl, wgcd20, Nat.gcd_zero_right]
  | succ n ih =>
    intro a b fuel μ hb hf
    obtain ⟨f, rfl⟩ : ∃ f, fuel = f + 2 := ⟨fuel - 2, by omega⟩
    by_cases h0 : b = 0
    · subst h0
      rw [show ((0 : Nat) : Int) = 0 from rfl, wgcd20, Nat.gcd_zero_right]
    rw [wgcd21 _ _ _ _ _ _ _ (by omega), nat_fmod]
    by_cases h1 : a % b = 0
    · rw [h1, show ((0 : Nat) : Int) = 0 from rfl, wgcd20, ← gcd_step a b (by omega), h1, Nat.gcd_zero_right]
    rw [wgcd21 _ _ _ _ _ _ _ (by omega), nat_fmod, ih _ _ _ _ (by have := mod_half b (a % b) (by omega) (Nat.mod_lt _ (by omega)); rw [Nat.pow_succ] at hb; omega) (by omega)]
    rw [gcd_step b (a % b) (by omega), gcd_step a b (by omega)]
theorem frac_ok (k : Nat) (μ : Mu) (a : Int) (b : Nat) (ha : a.natAbs < 2 ^ 8000000) (h : b < 2 ^ 8999) (h0 : b ≠ 0) : run C tbl (k + 1) f__law_frac [.int a, .int (b : Int)] μ = .ok (fr (mkRat a b)) μ := by
  have e := while_gcd2 (run C tbl k) (some (.int a)) (some (.int (b : Int))) 8000000 b a.natAbs C.W μ ha (by decide)
  rw [Nat.gcd_comm] at e
  unfold tGcd2 bGcd2 at e
  have d := gcd_bd (a := a) h h0
  rw [run__law_frac]
  simp [call1, df__law_frac, b__law_frac, e]
  rw [opR_fdiv d]
  simp
  rw [opR_fdiv d]
  simp [fr_lowest _ _ h0]
theorem law_add_ok (k : Nat) (μ : Mu) {a b : Rat} (ha : Bd 4000 a) (hb : Bd 4000 b) : run C tbl (k + 2) f__law_add [fr a, fr b] μ = .ok (fr (a + b)) μ := by
  have e := frac_ok k μ (a.num * b.den + b.num * a.den) (a.den * b.den) (pow_le (by decide) (num_add_lt ha hb)) (pow_le (by decide) (den_mul_lt ha hb)) (den_mul_ne a b)
  rw [Int.natCast_mul, fr_add] at e
  rw [run__law_add]
  simp [call1, df__law_add, b__law_add, mul_nd ha hb, mul_nd hb ha, mul_dd ha hb, e]
theorem law_sub_ok (k : Nat) (μ : Mu) {a b : Rat} (ha : Bd 4000 a) (hb : Bd 4000 b) : run C tbl (k + 2) f__law_sub [fr a, fr b] μ = .ok (fr (a - b)) μ := by
  have e := frac_ok k μ (a.num * b.den - b.num * a.den) (a.den * b.den) (pow_le (by decide) (num_sub_lt ha hb)) (pow_le (by decide) (den_mul_lt ha hb)) (den_mul_ne a b)
  rw [Int.natCast_mul, fr_sub] at e
  rw [run__law_sub]
  simp [call1, df__law_sub, b__law_sub, mul_nd ha hb, mul_nd hb ha, mul_dd ha hb, e]
theorem law_mul_ok (k : Nat) (μ : Mu) {a b : Rat} (ha : Bd 4000 a) (hb : Bd 4000 b) : run C tbl (k + 2) f__law_mul [fr a, fr b] μ = .ok (fr (a * b)) μ := by
  have e := frac_ok k μ (a.num * b.num) (a.den * b.den) (pow_le (by decide) (num_mul_lt ha hb)) (pow_le (by decide) (den_mul_lt ha hb)) (den_mul_ne a b)
  rw [Int.natCast_mul, fr_mul] at e
  rw [run__law_mul]
  simp [call1, df__law_mul, b__law_mul, mul_nn ha hb, mul_dd ha hb, e]
theorem law_below_ok (k : Nat) (μ : Mu) {a b : Rat} (ha : Bd 4000 a) (hb : Bd 4000 b) : run C tbl (k + 1) f__law_below [fr a, fr b] μ = .ok (.bl (decide (a < b))) μ := by
  rw [run__law_below]
  simp [call1, df__law_below, b__law_below, mul_nd ha hb, mul_nd hb ha, Rat.lt_iff]
end PyE
set_option maxRecDepth 100000
namespace PyE
open PySem
/-! one value and itself -/
mutual
def okx : Nat → D → Bool
  | _, .none => true
  | _, .bl _ => true
  | _, .int _ => true
  | _, .str s => PyData.canLay0 (.str s)
  | n, .tup xs => (match n with | 0 => false | m + 1 => decide (xs.length ≤ 1000) && okxL m xs)
  | n, .lst xs => (match n with | 0 => false | m + 1 => decide (xs.length ≤ 1000) && okxL m xs)
  | _, .ref _ => false
  | _, .fn _ => false
  | _, .dct => false
  | _, .exc _ _ => false
  | _, .scr _ => false
def okxL : Nat → List D → Bool
  | _, [] => true
  | n, x :: xs => okx n x && okxL n xs
end
theorem okxL_mem {n : Nat} : ∀ {xs : List D}, okxL n xs = true → ∀ x ∈ xs, okx n x = true
  | [], _, x, h => by simp at h
  | y :: ys, h, x, hx => by
    have h' : (okx n y && okxL n ys) = true := by cases n <;> exact h
    rw [Bool.and_eq_true] at h'
    rcases List.mem_cons.mp hx with rfl | hx
    · exact h'.1
    · exact okxL_mem h'.2 x hx
theorem okxL_of {n : Nat} : ∀ {xs : List D}, (∀ x ∈ xs, okx n x = true) → okxL n xs = true
  | [], _ => by cases n <;> rfl
  | y :: ys, h => by
    have : okxL n (y :: ys) = (okx n y && okxL n ys) := by cases n <;> rfl
    rw [this, h y (List.mem_cons_self ..), okxL_of fun x hx => h x (List.mem_cons_of_mem _ hx)]; rfl
@[simp] theorem okx_int (n : Nat) (i : Int) : okx n (.int i) = true := by cases n <;> rfl
@[simp] theorem okx_bl (n : Nat) (i : Bool) : okx n (.bl i) = true := by cases n <;> rfl
@[simp] theorem okx_none (n : Nat) : okx n .none = true := by cases n <;> rfl
@[simp] theorem okx_lst (n : Nat) (l : List D) : okx (n + 1) (.lst l) = (decide (l.length ≤ 1000) && okxL n l) := by cases n <;> rfl
@[simp] theorem okx_tup (n : Nat) (l : List D) : okx (n + 1) (.tup l) = (decide (l.length ≤ 1000) && okxL n l) := by cases n <;> rfl
@[simp] theorem okxL_nil (n : Nat) : okxL n [] = true := by cases n <;> rfl
@[simp] theorem okxL_cons (n : Nat) (x : D) (l : List D) : okxL n (x :: l) = (okx n x && okxL n l) := by cases n <;> rfl
@[simp] theorem okx_fr (n : Nat) (q : Rat) : okx (n + 1) (fr q) = true := by rw [fr, okx_tup]; simp
@[simp] theorem okx_row (n : Nat) (l : List Rat) (h : l.length ≤ 1000) : okx (n + 2) (row l) = true := by
  rw [row, okx_lst, List.length_map, decide_eq_true h, okxL_of]
  · rfl
  · intro x hx
    obtain ⟨q, _, rfl⟩ := List.mem_map.mp hx
    exact okx_fr n q
theorem opR_eq_str {C : Cfg} {s : Str} (h : PyData.canLay0 (.str s) = true) (μ : Mu) : opR C .eq [.str s, .str s] μ = .ok (.bl true) μ := by
  have o : okd 60 (.str s) = true := h
  rw [opR_eq o o, eqd_str]
  simp
@[simp] theorem opR_ne_bl {C : Cfg} (a b : Bool) (μ : Mu) : opR C .ne [.bl a, .bl b] μ = .ok (.bl !(a == b)) μ := by rw [opR_ne (by simp) (by simp), eqd_bl]
@[simp] theorem opR_eq_nil {C : Cfg} (μ : Mu) : opR C .eq [.lst [], .lst []] μ = .ok (.bl true) μ := by rw [opR_eq (by simp) (by simp)]; rfl
theorem exact_ok : ∀ (n : Nat) (k : Nat) (μ : Mu) (x : D), okx n x = true → run C tbl (k + n + 1) f__law_exact [x, x] μ = .ok (.bl true) μ := by
  have seq : ∀ (n k : Nat) (μ : Mu) (xs : List D) (x : D), items μ x = some xs → xs.length ≤ 1000 → (∀ d ∈ xs, run C tbl (k + n + 1) f__law_exact [d, d] μ = .ok (.bl true) μ) →
      cm C (run C tbl (k + n + 1)) (.nm 2) (.cons (.not_ (.call f__law_exact [0, 1] (.cons (.op .idx (.cons (.v 0) (.cons (.v 2) .nil))) (.cons (.op .idx (.cons (.v 1) (.cons (.v 2) .nil))) .nil)))) .nil) (.v 2) [some x, some x, none] (fun _ => true) ((List.range xs.length).map fun k : Nat => D.int (k : Int)) μ = .ok [] μ := by
    intro n k μ xs x hi hl h
    have := cm_filter (C := C) (cl := run C tbl (k + n + 1)) (ρ := [some x, some x, none]) (μ := μ) (t := .nm 2) (c := .cons (.not_ (.call f__law_exact [0, 1] (.cons (.op .idx (.cons (.v 0) (.cons (.v 2) .nil))) (.cons (.op .idx (.cons (.v 1) (.cons (.v 2) .nil))) .nil)))) .nil) (e := .v 2)
      (ok := fun _ => true) (f := fun k : Nat => D.int (k : Int)) (g := fun k : Nat => D.int (k : Int)) (p := fun _ => false) rfl (l := List.range xs.length) (fun m hm => by
        have hm' := List.mem_range.mp hm
        have i := opR_idx_of (C := C) hi (List.getElem?_eq_getElem hm')
        refine ⟨[some x, some x, some (.int (m : Int))], rfl, ?_, fun z => by cases z⟩
        simp [i, h _ (List.getElem_mem hm')])
    rw [this]
    simp
  intro n
  induction n with
  | zero =>
    intro k μ x h
    rw [Nat.add_zero, run__law_exact]
    cases x with
    | tup xs => cases h
    | lst xs => cases h
    | str s => simp [call1, df__law_exact, b__law_exact, opR_eq_str (show PyData.canLay0 (.str s) = true from h)]
    | int i => simp [call1, df__law_exact, b__law_exact]
    | bl b => cases b <;> simp [call1, df__law_exact, b__law_exact]
    | none => simp [call1, df__law_exact, b__law_exact]
    | _ => cases h
  | succ n ih =>
    intro k μ x h
    rw [show k + (n + 1) + 1 = (k + n + 1) + 1 by omega, run__law_exact]
    cases x with
    | tup xs =>
      rw [okx_tup, Bool.and_eq_true, decide_eq_true_iff] at h
      have s := seq n k μ xs (.tup xs) rfl h.1 fun d hd => ih k μ d (okxL_mem h.2 d hd)
      simp [call1, df__law_exact, b__law_exact, srcR1_nat xs.length (by omega), rangeD0, s]
    | lst xs =>
      rw [okx_lst, Bool.and_eq_true, decide_eq_true_iff] at h
      have s := seq n k μ xs (.lst xs) rfl h.1 fun d hd => ih k μ d (okxL_mem h.2 d hd)
      simp [call1, df__law_exact, b__law_exact, srcR1_nat xs.length (by omega), rangeD0, s]
    | str s => simp [call1, df__law_exact, b__law_exact, opR_eq_str (show PyData.canLay0 (.str s) = true from h)]
    | int i => simp [call1, df__law_exact, b__law_exact]
    | bl b => cases b <;> simp [call1, df__law_exact, b__law_exact]
    | none => simp [call1, df__law_exact, b__law_exact]
    | _ => cases h
end PyE
set_option maxRecDepth 100000
namespace PyE
open PySem
/-- a comprehension that draws -/
theorem cm_gen {α : Type} {n dN B : Nat} {f : α → D} {P : D → Prop} {t : Tg} {e : CE} {cl : Cl} {ρ : Ro} {l0 : List α} (step : ∀ (N : Nat) (μ : Mu), Gn n N μ → N < B → ∀ x ∈ l0, ∃ (d : D) (μ' : Mu), P d ∧ Up n μ μ' ∧ Gn n (N + dN) μ' ∧
      ((lift (setT μ t (f x) (wipe ρ t.slots)) μ).bind fun ρ1 μ2 => eE C cl e ρ1 μ2) = .ok d μ') :
    ∀ (l : List α), (∀ x ∈ l, x ∈ l0) → ∀ (N : Nat) (μ : Mu), Gn n N μ → N + dN * l.length < B → ∃ (ds : List D) (μ' : Mu), ds.length = l.length ∧ (∀ d ∈ ds, P d) ∧ Up n μ μ' ∧ Gn n (N + dN * l.length) μ' ∧ cm C cl t .nil e ρ (fun _ => true) (l.map f) μ = .ok ds μ'
  | [], _, N, μ, G, _ => ⟨[], μ, rfl, fun _ h => by simp at h, G.up, G, by rw [List.map_nil, cm_nil, if_pos rfl]⟩
  | x :: l, hs, N, μ, G, hB => by
    rw [List.length_cons, Nat.mul_succ] at hB
    obtain ⟨d, μ1, p, u1, G1, e1⟩ := step N μ G (by omega) x (hs x (List.mem_cons_self ..))
    obtain ⟨ds, μ2, hl, hp, u2, G2, e2⟩ := cm_gen step l (fun y hy => hs y (List.mem_cons_of_mem _ hy)) (N + dN) μ1 G1 (by omega)
    refine ⟨d :: ds, μ2, by simp [hl], fun y hy => ?_, u1.trans u2, G2.mono (by rw [List.length_cons, Nat.mul_succ]; omega), ?_⟩
    · rcases List.mem_cons.mp hy with rfl | hy
      · exact p
      · exact hp y hy
    rw [List.map_cons, cm_cons, if_pos rfl]
    cases q : setT μ t (f x) (wipe ρ t.slots) with
    | none => rw [q] at e1; cases e1
    | some ρ1 =>
      rw [q] at e1
      have h1' : eE C cl e ρ1 μ = .ok d μ1 := e1
      simp [h1', e2]
theorem exists_map {α β : Type} {f : α → β} {P : α → Prop} : ∀ {ds : List β}, (∀ d ∈ ds, ∃ a, d = f a ∧ P a) → ∃ as : List α, ds = as.map f ∧ ∀ a ∈ as, P a
  | [], _ => ⟨[], rfl, fun _ h => by simp at h⟩
  | d :: ds, h => by
    obtain ⟨a, rfl, p⟩ := h d (List.mem_cons_self ..)
    obtain ⟨as, rfl, ps⟩ := exists_map fun x hx => h x (List.mem_cons_of_mem _ hx)
    refine ⟨a :: as, rfl, fun y hy => ?_⟩
    rcases List.mem_cons.mp hy with rfl | hy
    · exact p
    · exact ps y hy
theorem sum_nat (cs : List Nat) : (cs.map fun c : Nat => (c : Int)).sum = ((cs.sum : Nat) : Int) := by
  induction cs with
  | nil => rfl
  | cons c cs ih => simp [ih]
theorem mkRat_add' (a b : Int) (n : Nat) (h : n ≠ 0) : mkRat a n + mkRat b n = mkRat (a + b) n := by
  rw [Rat.mkRat_add_mkRat _ _ h h, ← Int.add_mul, Rat.mkRat_mul_right h]
theorem sum_mkRat {n : Nat} (h : n ≠ 0) : ∀ cs : List Nat, (cs.map fun c : Nat => mkRat (c : Int) n).sum = mkRat ((cs.sum : Nat) : Int) n
  | [] => by simp
  | c :: cs => by
    rw [List.map_cons, List.sum_cons, sum_mkRat h cs, mkRat_add' _ _ _ h, List.sum_cons]; rfl
theorem mkRat_self' {n : Nat} (h : n ≠ 0) : mkRat (n : Int) n = 1 := by
  have : mkRat (1 * (n : Int)) (1 * n) = mkRat 1 1 := Rat.mkRat_mul_right h
  rw [Int.one_mul, Nat.one_mul] at this
  rw [this]; rfl
theorem sum_le3 : ∀ {cs : List Nat}, (∀ c ∈ cs, c ≤ 3) → cs.sum ≤ 3 * cs.length
  | [], _ => Nat.le_refl _
  | c :: cs, h => by
    have h1 := h c (List.mem_cons_self ..)
    have h2 := sum_le3 fun x hx => h x (List.mem_cons_of_mem _ hx)
    rw [List.sum_cons, List.length_cons]
    omega
theorem mkRat_nn {a : Int} {n : Nat} (ha : 0 ≤ a) : 0 ≤ mkRat a n := by
  rw [← Rat.divInt_ofNat]
  exact Rat.divInt_nonneg ha (by omega)
theorem sum_rep0 : ∀ n : Nat, (List.replicate n (0 : Rat)).sum = 0
  | 0 => rfl
  | n + 1 => by rw [List.replicate_succ, List.sum_cons, sum_rep0 n, Rat.zero_add]
theorem flat_rep {α : Type} (x : α) : ∀ n : Nat, (List.replicate n [x]).flatten = List.replicate n x
  | 0 => rfl
  | n + 1 => by rw [List.replicate_succ, List.flatten_cons, flat_rep x n]; rfl
theorem mul_lst {C : Cfg} (x : D) (j : Nat) (h : j ≤ 1000000) (μ : Mu) : opR C .mul [.lst [x], .int (j : Int)] μ = .ok (.lst (List.replicate j x)) μ := by
  show lift ((if rng62 (j : Int) = true ∧ [x].length * (j : Int).toNat ≤ LIM then some (PR.new (List.replicate (j : Int).toNat [x]).flatten) else none).map prD) μ = _
  rw [if_pos ⟨by unfold rng62; rw [decide_eq_true (by omega), decide_eq_true (by omega)]; rfl, by unfold LIM; simp; omega⟩]
  simp [prD, flat_rep]
theorem add_lst {C : Cfg} (xs ys : List D) (h : xs.length + ys.length ≤ 1000000) (μ : Mu) : opR C .add [.lst xs, .lst ys] μ = .ok (.lst (xs ++ ys)) μ := by
  show lift ((newL (xs ++ ys)).map prD) μ = _
  unfold newL
  rw [if_pos (by rw [List.length_append]; unfold LIM; omega)]; rfl
theorem chances_ok (k : Nat) {μ : Mu} {n N w : Nat} (hw : 1 ≤ w ∧ w ≤ 8) (hN : N + w < 1000000000) (G : Gn n N μ) :
    ∃ (l : List Rat) (μ' : Mu), BelOk 5 w l ∧ Up n μ μ' ∧ Gn n (N + w) μ' ∧ run C tbl (k + 4) f__law_chances [.ref n, .int (w : Int)] μ = .ok (row l) μ' := by
  obtain ⟨ds, μ', hl, hp, u, G', e⟩ := cm_gen (n := n) (dN := 1) (B := 1000000000) (f := fun m : Nat => D.int (m : Int)) (P := fun d => ∃ c : Nat, d = .int (c : Int) ∧ c ≤ 3) (t := .nm 4) (cl := run C tbl (k + 3))
    (e := .call f__law_pick [0, 1] (.cons (.v 0) (.cons (.op .lst (.cons (.con (.int 0)) (.cons (.con (.int 1)) (.cons (.con (.int 1)) (.cons (.con (.int 2)) (.cons (.con (.int 3)) .nil)))))) .nil)))
    (ρ := [some (.ref n), some (.int (w : Int)), none, none, none, none]) (l0 := List.range w) (fun N μ G hN x hx => by
      obtain ⟨d, μ', hd, u, G', e⟩ := pick_ok k [.int 0, .int 1, .int 1, .int 2, .int 3] (by simp) (by simp) hN G
      refine ⟨d, μ', ?_, u, G', by simp [wipe, Tg.slots, e]⟩
      simp at hd
      rcases hd with rfl | rfl | rfl | rfl
      · exact ⟨0, rfl, by decide⟩
      · exact ⟨1, rfl, by decide⟩
      · exact ⟨2, rfl, by decide⟩
      · exact ⟨3, rfl, by decide⟩) (List.range w) (fun _ h => h) N μ G (by rw [List.length_range]; omega)
  rw [List.length_range] at hl G'
  rw [Nat.one_mul] at G'
  obtain ⟨cs, rfl, hc⟩ := exists_map hp
  rw [List.length_map] at hl
  have hs := sum_le3 hc
  have hsum : ∀ μ, opR C .sum1 [.lst (cs.map fun c : Nat => .int (c : Int))] μ = .ok (.int ((cs.sum : Nat) : Int)) μ := fun μ => by rw [opR_sum_map, sum_nat]
  by_cases h0 : 0 < cs.sum
  · have hne : cs.sum ≠ 0 := by omega
    refine ⟨cs.map fun c : Nat => mkRat (c : Int) cs.sum, μ', ⟨by rw [List.length_map, hl], fun q hq => ?_, fun q hq => ?_, by rw [sum_mkRat hne, mkRat_self' hne]⟩, u, G', ?_⟩
    · obtain ⟨c, hcm, rfl⟩ := List.mem_map.mp hq
      have := hc c hcm
      exact mkRat_bd (by show c < 2 ^ 5; omega) (by omega) hne
    · obtain ⟨c, hcm, rfl⟩ := List.mem_map.mp hq
      exact mkRat_nn (by omega)
    · have c2 : cm C (run C tbl (k + 3)) (.nm 5) .nil (.call f__law_frac [0, 1] (.cons (.v 5) (.cons (.v 3) .nil))) [some (.ref n), some (.int (w : Int)), some (.lst (cs.map fun c : Nat => .int (c : Int))), some (.int ((cs.sum : Nat) : Int)), none, none] (fun _ => true) (cs.map fun c : Nat => .int (c : Int)) μ' = .ok (cs.map fun c : Nat => fr (mkRat (c : Int) cs.sum)) μ' := by
        refine cm_map rfl fun c hcm => ?_
        have h3 := hc c hcm
        have ht := frac_ok (k + 2) μ' (c : Int) cs.sum (pow_le (n := 5) (by decide) (by show c < 2 ^ 5; omega)) (pow_le (n := 5) (by decide) (by omega)) hne
        simp [wipe, Tg.slots, ht]
      rw [run__law_chances]
      simp only [call1, df__law_chances, b__law_chances]
      simp [srcR1_nat w (by omega), rangeD0, e, hsum, h0, c2, leave_up u]
      rw [row, List.map_map]; rfl
  · have hz : cs.sum = 0 := by omega
    obtain ⟨w', hw'⟩ : ∃ w', w = w' + 1 := ⟨w - 1, by omega⟩
    have hwi : (w : Int) - 1 = (w' : Int) := by omega
    refine ⟨1 :: List.replicate w' 0, μ', ⟨by simp [hw'], fun q hq => ?_, fun q hq => ?_, by rw [List.sum_cons, sum_rep0, Rat.add_zero]⟩, u, G', ?_⟩
    · rcases List.mem_cons.mp hq with rfl | hq
      · exact Bd.one.mono (by decide)
      · rw [List.eq_of_mem_replicate hq]; exact Bd.zero.mono (by decide)
    · rcases List.mem_cons.mp hq with rfl | hq
      · decide
      · rw [List.eq_of_mem_replicate hq]; decide
    · rw [run__law_chances]
      have m := mul_lst (C := C) (.tup [.int 0, .int 1]) w' (by omega)
      have a := fun μ => add_lst (C := C) [.tup [.int 1, .int 1]] (List.replicate w' (.tup [.int 0, .int 1])) (by simp; omega) μ
      simp only [call1, df__law_chances, b__law_chances]
      simp [srcR1_nat w (by omega), rangeD0, e, hsum, hz, hwi, m, a, leave_up u]
      rw [row, List.map_cons, List.map_replicate, fr_one, fr_zero]
end PyE
set_option maxRecDepth 100000
namespace PyE
open PySem
theorem look_ok (k : Nat) {μ : Mu} {n N s w : Nat} (hs : 1 ≤ s ∧ s ≤ 6) (hw : 1 ≤ w ∧ w ≤ 8) (hN : N + 1000 < 1000000000) (G : Gn n N μ) :
    ∃ (l : List (List Rat)) (μ' : Mu), LookOk 5 w l ∧ l.length = s ∧ Up n μ μ' ∧ Gn n (N + 48) μ' ∧ run C tbl (k + 5) f__law_look [.ref n, .int (s : Int), .int (w : Int)] μ = .ok (lookD l) μ' := by
  obtain ⟨ds, μ', hl, hp, u, G', e⟩ := cm_gen (n := n) (dN := w) (B := 999999990) (f := fun m : Nat => D.int (m : Int)) (P := fun d => ∃ l : List Rat, d = row l ∧ BelOk 5 w l) (t := .nm 3) (cl := run C tbl (k + 4))
    (e := .call f__law_chances [0, 1] (.cons (.v 0) (.cons (.v 2) .nil)))
    (ρ := [some (.ref n), some (.int (s : Int)), some (.int (w : Int)), none]) (l0 := List.range s) (fun N μ G hN x hx => by
      obtain ⟨l, μ', hl, u, G', e⟩ := chances_ok k hw (by omega) G
      exact ⟨row l, μ', ⟨l, rfl, hl⟩, u, G', by simp [wipe, Tg.slots, e]⟩) (List.range s) (fun _ h => h) N μ G (by
        rw [List.length_range]
        have := Nat.mul_le_mul hw.2 hs.2
        omega)
  rw [List.length_range] at hl G'
  obtain ⟨ls, rfl, hc⟩ := exists_map hp
  rw [List.length_map] at hl
  refine ⟨ls, μ', ⟨by omega, hw, fun r hr => ⟨(hc r hr).len, fun q hq => ⟨(hc r hr).bd q hq, (hc r hr).nn q hq⟩, (hc r hr).sum⟩⟩, hl, u, G'.mono (by have := Nat.mul_le_mul hw.2 hs.2; omega), ?_⟩
  rw [run__law_look]
  simp [call1, df__law_look, b__law_look, srcR1_nat s (by omega), rangeD0, e, leave_up u]
  rfl
theorem subI {C : Cfg} (i j : Int) : ∀ μ, opR C .sub [.int i, .int j] μ = .ok (.int (i - j)) μ := fun μ => rfl
theorem game_ok (k : Nat) {μ : Mu} {n N s d : Nat} (hs : 1 ≤ s ∧ s ≤ 6) (hd : 1 ≤ d ∧ d ≤ 8) (hN : N + 1000 < 1000000000) (G : Gn n N μ) :
    ∃ (l : List (List Rat)) (μ' : Mu), GameOk 3 s l ∧ l.length = d ∧ Up n μ μ' ∧ Gn n (N + 96) μ' ∧ run C tbl (k + 3) f__law_game [.ref n, .int (s : Int), .int (d : Int)] μ = .ok (gameD l) μ' := by
  obtain ⟨ds, μ', hl, hp, u, G', e⟩ := cm_gen (n := n) (dN := 2 * s) (B := 999999900) (f := fun m : Nat => D.int (m : Int)) (P := fun d => ∃ l : List Rat, d = row l ∧ l.length = s ∧ ∀ q ∈ l, Bd 3 q) (t := .nm 3) (cl := run C tbl (k + 2))
    (e := .comp (.nm 4) (.irng1 (.v 1)) .nil (.call f__law_frac [0, 1] (.cons (.op .sub (.cons (.call f__law_random [0, 1] (.cons (.v 0) (.cons (.con (.int 9)) .nil))) (.cons (.con (.int 4)) .nil))) (.cons (.op .add (.cons (.con (.int 1)) (.cons (.call f__law_random [0, 1] (.cons (.v 0) (.cons (.con (.int 2)) .nil))) .nil))) .nil))))
    (ρ := [some (.ref n), some (.int (s : Int)), some (.int (d : Int)), none, none]) (l0 := List.range d) (fun N μ G hN x hx => by
      obtain ⟨ds, μ', hl, hp, u, G', e⟩ := cm_gen (n := n) (dN := 2) (B := 999999999) (f := fun m : Nat => D.int (m : Int)) (P := fun d => ∃ q : Rat, d = fr q ∧ Bd 3 q) (t := .nm 4) (cl := run C tbl (k + 2))
        (e := (.call f__law_frac [0, 1] (.cons (.op .sub (.cons (.call f__law_random [0, 1] (.cons (.v 0) (.cons (.con (.int 9)) .nil))) (.cons (.con (.int 4)) .nil))) (.cons (.op .add (.cons (.con (.int 1)) (.cons (.call f__law_random [0, 1] (.cons (.v 0) (.cons (.con (.int 2)) .nil))) .nil))) .nil))))
        (ρ := [some (.ref n), some (.int (s : Int)), some (.int (d : Int)), some (.int (x : Int)), none]) (l0 := List.range s) (fun N μ G hN y hy => by
          obtain ⟨r, μ1, hr, u1, G1, e1⟩ := random_ok k 9 (by decide) (by decide) (by omega) G
          obtain ⟨r2, μ2, hr2, u2, G2, e2⟩ := random_ok k 2 (by decide) (by decide) (by omega) G1
          obtain ⟨c, rfl⟩ : ∃ c : Nat, r2 = (c : Int) := ⟨r2.toNat, by omega⟩
          have hc : (1 : Int) + (c : Int) = ((1 + c : Nat) : Int) := by omega
          have ef := frac_ok (k + 1) μ2 (r - 4) (1 + c) (pow_le (n := 5) (by decide) (by omega)) (pow_le (n := 5) (by decide) (by omega)) (by omega)
          rw [← hc] at ef
          exact ⟨_, μ2, ⟨mkRat (r - 4) (1 + c), rfl, mkRat_bd (by omega) (by omega) (by omega)⟩, u1.trans u2, G2.mono (by omega), by simp [wipe, Tg.slots, e1, e2, ef]⟩) (List.range s) (fun _ h => h) N μ G (by
            rw [List.length_range]
            omega)
      rw [List.length_range] at hl G'
      obtain ⟨qs, rfl, hq⟩ := exists_map hp
      rw [List.length_map] at hl
      refine ⟨row qs, μ', ⟨qs, rfl, hl, hq⟩, u, G'.mono (by omega), ?_⟩
      simp [wipe, Tg.slots, srcR1_nat s (by omega), rangeD0, e]
      rfl) (List.range d) (fun _ h => h) N μ G (by
        rw [List.length_range]
        have := Nat.mul_le_mul hs.2 hd.2
        rw [Nat.mul_assoc]
        omega)
  rw [List.length_range] at hl G'
  obtain ⟨ls, rfl, hc⟩ := exists_map hp
  rw [List.length_map] at hl
  refine ⟨ls, μ', ⟨by omega, hs, fun r hr => hc r hr⟩, hl, u, G'.mono (by have := Nat.mul_le_mul hs.2 hd.2; rw [Nat.mul_assoc]; omega), ?_⟩
  rw [run__law_game]
  simp [call1, df__law_game, b__law_game, srcR1_nat d (by omega), rangeD0, e, leave_up u]
  rfl
end PyE
set_option maxRecDepth 100000
namespace PyE
open PySem
theorem total_loop (k : Nat) (μ : Mu) (L : D) {n : Nat} : ∀ (l : List Rat) (acc : Rat) (m : Nat) (o : Option D), (∀ q ∈ l, Bd n q) → Bd m acc → m + (n + 1) * l.length ≤ 4000 → n ≤ 4000 →
    ∃ o', fo C (run C tbl (k + 2)) (.nm 2) (.cons (.asg (.nm 1) (.call f__law_add [0, 1] (.cons (.v 1) (.cons (.v 2) .nil)))) .nil) (fun _ => true) (l.map fr) [some L, some (fr acc), o] μ = .next [some L, some (fr (acc + l.sum)), o'] μ
  | [], acc, m, o, _, _, _, _ => ⟨o, by rw [List.map_nil, fo_nil, if_pos rfl, List.sum_nil, Rat.add_zero]⟩
  | q :: l, acc, m, o, h, ha, hz, hn => by
    have hq := h q (List.mem_cons_self ..)
    rw [List.length_cons, Nat.mul_succ] at hz
    have e := law_add_ok k μ (ha.mono (n := 4000) (by omega)) (hq.mono (n := 4000) hn)
    obtain ⟨o', ih⟩ := total_loop k μ L l (acc + q) (m + n + 1) (some (fr q)) (fun x hx => h x (List.mem_cons_of_mem _ hx)) (ha.add hq) (by omega) hn
    refine ⟨o', ?_⟩
    rw [List.map_cons, fo_cons, if_pos rfl]
    simp [e, ih, Rat.add_assoc]
theorem total_ok (k : Nat) (μ : Mu) {l : List Rat} {n : Nat} (h : ∀ q ∈ l, Bd n q) (hz : (n + 1) * (l.length + 1) ≤ 4000) : run C tbl (k + 3) f__law_total [row l] μ = .ok (fr l.sum) μ := by
  rw [run__law_total]
  rw [Nat.mul_succ] at hz
  obtain ⟨o', e⟩ := total_loop k μ (row l) l 0 1 none h Bd.zero (by omega) (by omega)
  rw [fr_zero, Rat.zero_add] at e
  simp [call1, df__law_total, b__law_total, e]
theorem law_product_ok (k : Nat) (μ : Mu) {l m : List Rat} {n n' : Nat} (h : l.length = m.length) (hl : ∀ q ∈ l, Bd n q) (hm : ∀ q ∈ m, Bd n' q) (hz : (n + n' + 1) * (l.length + 1) ≤ 4000) :
    run C tbl (k + 4) f__law_product [row l, row m] μ = .ok (fr (dot l m)) μ := by
  have hnn := bnd0 hz
  have e := total_ok k μ (Bd_mulL hl hm) (by rw [length_mulL h]; exact hz)
  rw [row, mulL_zip, List.map_map] at e
  replace e : run C tbl (k + 3) f__law_total [.lst ((l.zip m).map fun p => fr (p.1 * p.2))] μ = .ok (fr (dot l m)) μ := by rw [dot, mulL_zip]; exact e
  have z : srcZ false μ (row l) (row m) = some ⟨(l.zip m).map fun p => .tup [fr p.1, fr p.2], []⟩ := by
    unfold row
    rw [srcZ_false, zipD_map]
  have c : cm C (run C tbl (k + 3)) (.tp [2, 3]) .nil (.call f__law_mul [0, 1] (.cons (.v 2) (.cons (.v 3) .nil))) [some (row l), some (row m), none, none] (fun _ => true) ((l.zip m).map fun p => .tup [fr p.1, fr p.2]) μ = .ok ((l.zip m).map fun p => fr (p.1 * p.2)) μ := by
    refine cm_map rfl fun p hp => ?_
    have ht := law_mul_ok (k + 1) μ ((hl _ (List.of_mem_zip hp).1).mono (n := 4000) (by omega)) ((hm _ (List.of_mem_zip hp).2).mono (n := 4000) (by omega))
    simp [wipe, Tg.slots, ht]
  rw [run__law_product]
  simp [call1, df__law_product, b__law_product, z, c, e]
theorem law_column_ok (k : Nat) (μ : Mu) {l : List (List Rat)} {m : Nat} (hm : ∀ r ∈ l, m < r.length) : run C tbl (k + 1) f__law_column [lookD l, .int (m : Int)] μ = .ok (row (col l m)) μ := by
  have c : cm C (run C tbl k) (.nm 2) .nil (.op .idx (.cons (.v 2) (.cons (.v 1) .nil))) [some (lookD l), some (.int (m : Int)), none] (fun _ => true) (l.map row) μ = .ok (l.map fun r => fr (r.getD m 0)) μ := by
    refine cm_map rfl fun r hr => ?_
    have e : opR C .idx [row r, .int (m : Int)] μ = .ok (fr (r.getD m 0)) μ := idx_row r (by rw [List.getD_eq_getElem?_getD, List.getElem?_eq_getElem (hm r hr)]; rfl)
    simp [wipe, Tg.slots, e]
  rw [run__law_column]
  simp [call1, df__law_column, b__law_column, c, row, col]
theorem law_pays_ok (k : Nat) (μ : Mu) {l g : List (List Rat)} {b : List Rat} {m n n1 n2 w s : Nat} (h : LookOk n w l) (hb : BelOk n1 s b) (hg : GameOk n2 s g) (hl : l.length = s) (hn : n + n1 + n2 ≤ 70) (hn0 : 1 ≤ n) (hm : m < w) :
    run C tbl (k + 5) f__law_pays [lookD l, row b, gameD g, .int (m : Int)] μ = .ok (row (paysL l b g m)) μ := by
  have hs := h.len.2
  have lm : (mulL b (col l m)).length = s := by rw [length_mulL (by rw [length_col, hb.len, hl]), hb.len]
  have c1 : cm C (run C tbl (k + 4)) (.tp [6, 7]) .nil (.call f__law_mul [0, 1] (.cons (.v 6) (.cons (.v 7) .nil))) [some (lookD l), some (row b), some (gameD g), some (.int (m : Int)), none, none, none, none] (fun _ => true) ((b.zip (col l m)).map fun p => .tup [fr p.1, fr p.2]) μ = .ok ((b.zip (col l m)).map fun p => fr (p.1 * p.2)) μ := by
    refine cm_map rfl fun p hp => ?_
    have ht := law_mul_ok (k + 2) μ ((hb.bd _ (List.of_mem_zip hp).1).mono (by omega)) ((Bd_col (fun r hr q hq => ((h.row r hr).2.1 q hq).1) hn0 _ (List.of_mem_zip hp).2).mono (by omega))
    simp [wipe, Tg.slots, ht]
  have z : srcZ false μ (row b) (row (col l m)) = some ⟨(b.zip (col l m)).map fun p => .tup [fr p.1, fr p.2], []⟩ := by
    unfold row
    rw [srcZ_false, zipD_map]
  have r1 : D.lst ((b.zip (col l m)).map fun p => fr (p.1 * p.2)) = row (mulL b (col l m)) := by rw [row, mulL_zip, List.map_map]; rfl
  have c : cm C (run C tbl (k + 4)) (.nm 5) .nil (.call f__law_product [0, 1] (.cons (.v 4) (.cons (.v 5) .nil))) [some (lookD l), some (row b), some (gameD g), some (.int (m : Int)), some (row (mulL b (col l m))), none, none, none] (fun _ => true) (g.map row) μ = .ok (g.map fun p => fr (dot (mulL b (col l m)) p)) μ := by
    refine cm_map rfl fun p hp => ?_
    have ht := law_product_ok k μ (l := mulL b (col l m)) (m := p) (n := n1 + n) (n' := n2) (by rw [lm, (hg.row p hp).1]) (Bd_mulL hb.bd (Bd_col (fun r hr q hq => ((h.row r hr).2.1 q hq).1) hn0)) (hg.row p hp).2 (by rw [lm]; exact bnd (c := 70) (d := 8) (by omega) (by omega))
    simp [wipe, Tg.slots, ht]
  rw [run__law_pays]
  simp [call1, df__law_pays, b__law_pays, law_column_ok (k + 3) μ (fun r hr => by rw [(h.row r hr).1]; exact hm), z, c1, r1, c]
  rw [paysL, row, List.map_map]; rfl
theorem law_greatest_loop (k : Nat) (μ : Mu) (L : D) : ∀ (l : List Rat) (acc : Rat) (o : Option D), (∀ q ∈ l, Bd 4000 q) → Bd 4000 acc →
    ∃ o', fo C (run C tbl (k + 1)) (.nm 2) (.cons (.asg (.nm 1) (.ite (.call f__law_below [0, 1] (.cons (.v 1) (.cons (.v 2) .nil))) (.v 2) (.v 1))) .nil) (fun _ => true) (l.map fr) [some L, some (fr acc), o] μ = .next [some L, some (fr (l.foldl (fun a b => if a < b then b else a) acc)), o'] μ
  | [], acc, o, _, _ => ⟨o, by rw [List.map_nil, fo_nil, if_pos rfl]; rfl⟩
  | q :: l, acc, o, h, ha => by
    have hq := h q (List.mem_cons_self ..)
    have e := law_below_ok k μ ha hq
    obtain ⟨o', ih⟩ := law_greatest_loop k μ L l (if acc < q then q else acc) (some (fr q)) (fun x hx => h x (List.mem_cons_of_mem _ hx)) (by split <;> assumption)
    refine ⟨o', ?_⟩
    rw [List.map_cons, fo_cons, if_pos rfl]
    by_cases hlt : acc < q
    · simp [e, hlt] at ih ⊢
      exact ih
    · simp [e, hlt] at ih ⊢
      exact ih
theorem law_greatest_ok (k : Nat) (μ : Mu) {l : List Rat} (h : ∀ q ∈ l, Bd 4000 q) (h0 : l ≠ []) : run C tbl (k + 2) f__law_greatest [row l] μ = .ok (fr (gmax l)) μ := by
  rw [run__law_greatest]
  cases l with
  | nil => exact absurd rfl h0
  | cons q l =>
    obtain ⟨o', e⟩ := law_greatest_loop k μ (row (q :: l)) (q :: l) q none h (h q (List.mem_cons_self ..))
    rw [List.map_cons] at e
    simp only [call1, df__law_greatest, b__law_greatest]
    simp [idx0_row]
    simp at e
    simp [e, gmax]
theorem law_worth_ok (k : Nat) (μ : Mu) {l g : List (List Rat)} {b : List Rat} {n n1 n2 w s : Nat} (h : LookOk n w l) (hb : BelOk n1 s b) (hg : GameOk n2 s g) (hl : l.length = s) (hn : n + n1 + n2 ≤ 70) (hn0 : 1 ≤ n) :
    run C tbl (k + 6) f__law_worth [lookD l, row b, gameD g] μ = .ok (fr (worthL l b g w)) μ := by
  have c : cm C (run C tbl (k + 5)) (.nm 3) .nil (.call f__law_greatest [0] (.cons (.call f__law_pays [0, 1, 2, 3] (.cons (.v 0) (.cons (.v 1) (.cons (.v 2) (.cons (.v 3) .nil))))) .nil)) [some (lookD l), some (row b), some (gameD g), none] (fun _ => true) ((List.range w).map fun m : Nat => .int (m : Int)) μ
      = .ok ((List.range w).map fun m => fr (gmax (paysL l b g m))) μ := by
    refine cm_map rfl fun m hm => ?_
    have e1 := law_pays_ok k μ h hb hg hl hn hn0 (List.mem_range.mp hm)
    have e2 := law_greatest_ok (k + 3) μ (fun q hq => (Bd_pays (m := m) h hb hg hl hn hn0 q hq).mono (by decide)) (pays_ne hg)
    simp [wipe, Tg.slots, e1, e2]
  have e := total_ok (k + 2) μ (l := (List.range w).map fun m => gmax (paysL l b g m)) (n := 427) (fun q hq => by
    obtain ⟨m, _, rfl⟩ := List.mem_map.mp hq
    exact Bd_pays (m := m) h hb hg hl hn hn0 _ (gmax_mem (pays_ne hg))) (by rw [List.length_map, List.length_range]; exact bnd (c := 427) (d := 8) (by omega) h.wid.2)
  rw [row, List.map_map] at e
  replace e : run C tbl (k + 5) f__law_total [.lst ((List.range w).map fun m => fr (gmax (paysL l b g m)))] μ = .ok (fr (worthL l b g w)) μ := e
  obtain ⟨r0, l', hl0, hw⟩ := h.head
  have i0 : ∀ {μ : Mu}, opR C .idx [rows l, .int 0] μ = .ok (row r0) μ := fun {μ} => by rw [hl0]; exact idx0_rows
  rw [run__law_worth]
  simp [call1, df__law_worth, b__law_worth, i0, hw, srcR1_nat w (by have := h.wid; omega), rangeD0, c, e]
end PyE
set_option maxRecDepth 100000
namespace PyE
open PySem
theorem sum_le {α : Type} {f g : α → Rat} : ∀ {l : List α}, (∀ x ∈ l, f x ≤ g x) → (l.map f).sum ≤ (l.map g).sum
  | [], _ => Rat.le_refl
  | x :: l, h => by
    have h1 := h x (List.mem_cons_self ..)
    have h2 := sum_le fun y hy => h y (List.mem_cons_of_mem _ hy)
    rw [List.map_cons, List.map_cons, List.sum_cons, List.sum_cons]
    exact Rat.le_trans (Rat.add_le_add_right.mpr h1) (Rat.add_le_add_left.mpr h2)
theorem gmax_eq {l : List Rat} {q : Rat} (h1 : q ∈ l) (h2 : ∀ x ∈ l, x ≤ q) : gmax l = q := Rat.le_antisymm (h2 _ (gmax_mem (List.ne_nil_of_mem h1))) (le_gmax h1)
end PyE
set_option maxRecDepth 100000
namespace PyE
open PySem
def S (n : Nat) (f : Nat → Rat) : Rat := ((List.range n).map f).sum
theorem S_zero (f : Nat → Rat) : S 0 f = 0 := rfl
theorem S_succ (n : Nat) (f : Nat → Rat) : S (n + 1) f = S n f + f n := by
  unfold S
  rw [List.range_succ, List.map_append, List.sum_append, List.map_singleton, List.sum_singleton]
theorem S_congr {n : Nat} {f g : Nat → Rat} (h : ∀ i, i < n → f i = g i) : S n f = S n g := by
  unfold S
  rw [List.map_congr_left fun i hi => h i (List.mem_range.mp hi)]
theorem S_le {n : Nat} {f g : Nat → Rat} (h : ∀ i, i < n → f i ≤ g i) : S n f ≤ S n g := sum_le fun i hi => h i (List.mem_range.mp hi)
theorem S_add (f g : Nat → Rat) : ∀ n, S n (fun i => f i + g i) = S n f + S n g
  | 0 => by rw [S_zero, S_zero, S_zero, Rat.add_zero]
  | n + 1 => by rw [S_succ, S_succ, S_succ, S_add f g n]; grind
theorem S_mul (c : Rat) (f : Nat → Rat) : ∀ n, S n (fun i => c * f i) = c * S n f
  | 0 => by rw [S_zero, S_zero, Rat.mul_zero]
  | n + 1 => by rw [S_succ, S_succ, S_mul c f n, Rat.mul_add]
theorem S_zero' : ∀ n, S n (fun _ => 0) = 0
  | 0 => rfl
  | n + 1 => by rw [S_succ, S_zero' n, Rat.add_zero]
theorem S_swap (f : Nat → Nat → Rat) (m : Nat) : ∀ n, S n (fun i => S m (fun j => f i j)) = S m (fun j => S n (fun i => f i j))
  | 0 => by
    rw [S_zero]
    rw [show (fun j => S 0 fun i => f i j) = fun _ => (0 : Rat) from rfl, S_zero']
  | n + 1 => by
    rw [S_succ, S_swap f m n, ← S_add]
    exact S_congr fun j _ => (S_succ n fun i => f i j).symm
theorem S_delta (n i : Nat) (f : Nat → Rat) (h : i < n) : S n (fun j => if j = i then f j else 0) = f i := by
  induction n with
  | zero => omega
  | succ n ih =>
    rw [S_succ]
    by_cases e : n = i
    · subst e
      rw [if_pos rfl, S_congr (g := fun _ => 0) fun j hj => if_neg (by omega), S_zero', Rat.zero_add]
    · rw [ih (by omega), if_neg e, Rat.add_zero]
theorem sum_S (l : List Rat) : l.sum = S l.length fun i => l.getD i 0 := by
  unfold S
  congr 1
  refine List.ext_getElem (by simp) fun i h1 h2 => ?_
  simp [List.getElem?_eq_getElem h1]
theorem getD_map' {α β : Type} (f : α → β) (l : List α) (i : Nat) (a : α) (b : β) (h : i < l.length) : (l.map f).getD i b = f (l.getD i a) := by
  rw [List.getD_eq_getElem?_getD, List.getD_eq_getElem?_getD, List.getElem?_map, List.getElem?_eq_getElem h]; rfl
theorem dot_S {u v : List Rat} {n : Nat} (hu : u.length = n) (hv : v.length = n) : dot u v = S n fun i => u.getD i 0 * v.getD i 0 := by
  unfold dot mulL
  rw [sum_S, List.length_zipWith, hu, hv, Nat.min_self]
  refine S_congr fun i hi => ?_
  rw [List.getD_eq_getElem?_getD, List.getD_eq_getElem?_getD, List.getD_eq_getElem?_getD, List.getElem?_zipWith, List.getElem?_eq_getElem (by omega), List.getElem?_eq_getElem (by omega)]
  rfl
theorem mulL_at {u v : List Rat} {i : Nat} (hu : i < u.length) (hv : i < v.length) : (mulL u v).getD i 0 = u.getD i 0 * v.getD i 0 := by
  unfold mulL
  rw [List.getD_eq_getElem?_getD, List.getD_eq_getElem?_getD, List.getD_eq_getElem?_getD, List.getElem?_zipWith, List.getElem?_eq_getElem hu, List.getElem?_eq_getElem hv]
  rfl
def at2 (l : List (List Rat)) (i m : Nat) : Rat := (l.getD i []).getD m 0
theorem col_at {l : List (List Rat)} {i m : Nat} (h : i < l.length) : (col l m).getD i 0 = at2 l i m := by
  unfold col at2
  rw [getD_map' _ _ _ [] _ h]
theorem pay_S {l : List (List Rat)} {b p : List Rat} {m s : Nat} (hl : l.length = s) (hb : b.length = s) (hp : p.length = s) : dot (mulL b (col l m)) p = S s fun i => b.getD i 0 * at2 l i m * p.getD i 0 := by
  rw [dot_S (n := s) (by rw [length_mulL (by rw [hb, length_col, hl]), hb]) hp]
  refine S_congr fun i hi => ?_
  rw [mulL_at (by omega) (by rw [length_col]; omega), col_at (by omega)]
theorem worthL_S (l : List (List Rat)) (b : List Rat) (g : List (List Rat)) (w : Nat) : worthL l b g w = S w fun m => gmax (paysL l b g m) := rfl
theorem LookOk.at_sum {n w s : Nat} {l : List (List Rat)} (h : LookOk n w l) (hl : l.length = s) {i : Nat} (hi : i < s) : S w (at2 l i) = 1 := by
  have hm : l.getD i [] ∈ l := by
    rw [List.getD_eq_getElem?_getD, List.getElem?_eq_getElem (by omega)]
    exact List.getElem_mem _
  obtain ⟨h1, _, h3⟩ := h.row _ hm
  rw [sum_S, h1] at h3
  exact h3
theorem LookOk.at_nn {n w s : Nat} {l : List (List Rat)} (h : LookOk n w l) (hl : l.length = s) {i m : Nat} (hi : i < s) : 0 ≤ at2 l i m := by
  have hm : l.getD i [] ∈ l := by
    rw [List.getD_eq_getElem?_getD, List.getElem?_eq_getElem (by omega)]
    exact List.getElem_mem _
  obtain ⟨h1, h2, h3⟩ := h.row _ hm
  unfold at2
  rw [List.getD_eq_getElem?_getD]
  cases e : (l.getD i [])[m]? with
  | none => exact Rat.le_refl
  | some x => exact (h2 x (List.mem_of_getElem? e)).2
theorem pays_best {l g : List (List Rat)} {b : List Rat} {n2 s : Nat} (m : Nat) (hg : GameOk n2 s g) : ∃ p, p ∈ g ∧ gmax (paysL l b g m) = dot (mulL b (col l m)) p := by
  obtain ⟨p, hp, e⟩ := List.mem_map.mp (gmax_mem (pays_ne (l := l) (b := b) (m := m) hg))
  exact ⟨p, hp, e.symm⟩
/-- told nothing -/
theorem nothing_le {l l0 g : List (List Rat)} {b : List Rat} {n w n2 s : Nat} (h : LookOk n w l) (hl : l.length = s) (hb : b.length = s) (hg : GameOk n2 s g) (h0 : l0 = List.replicate s [1]) : worthL l0 b g 1 ≤ worthL l b g w := by
  have hl0 : l0.length = s := by rw [h0, List.length_replicate]
  rw [worthL_S, worthL_S, S_succ, S_zero, Rat.zero_add]
  obtain ⟨p, hp, e⟩ := pays_best (l := l0) (b := b) 0 hg
  rw [e, pay_S hl0 hb (hg.row p hp).1]
  have e2 : (S s fun i => b.getD i 0 * at2 l0 i 0 * p.getD i 0) = S w fun m => dot (mulL b (col l m)) p := by
    rw [S_congr (n := w) (g := fun m => S s fun i => b.getD i 0 * at2 l i m * p.getD i 0) fun m _ => pay_S hl hb (hg.row p hp).1, ← S_swap]
    refine S_congr fun i hi => ?_
    have a1 : at2 l0 i 0 = 1 := by
      unfold at2
      rw [h0, List.getD_eq_getElem?_getD, List.getD_eq_getElem?_getD, List.getElem?_replicate, if_pos hi]; rfl
    rw [S_congr (g := fun m => b.getD i 0 * p.getD i 0 * at2 l i m) fun m _ => by grind, S_mul, h.at_sum hl hi, a1]
    grind
  rw [e2]
  exact S_le fun m _ => le_gmax (List.mem_map.mpr ⟨p, hp, rfl⟩)
/-- all told -/
theorem le_all {l T g : List (List Rat)} {b : List Rat} {n w n2 s : Nat} (h : LookOk n w l) (hl : l.length = s) (hb : b.length = s) (hg : GameOk n2 s g) (hT : T = (List.range s).map fun i => (List.range s).map fun j => if j = i then (1 : Rat) else 0) : worthL l b g w ≤ worthL T b g s := by
  have hTl : T.length = s := by rw [hT, List.length_map, List.length_range]
  have Tat : ∀ i j, i < s → j < s → at2 T i j = if j = i then 1 else 0 := fun i j hi hj => by
    unfold at2
    rw [hT, getD_map' _ _ _ 0 _ (by rw [List.length_range]; exact hi), getD_map' _ _ _ 0 _ (by rw [List.length_range]; exact hj)]
    rw [List.getD_eq_getElem?_getD, List.getD_eq_getElem?_getD, List.getElem?_range hi, List.getElem?_range hj]; rfl
  have Tp : ∀ i, i < s → ∀ p ∈ g, dot (mulL b (col T i)) p = b.getD i 0 * p.getD i 0 := fun i hi p hp => by
    rw [pay_S hTl hb (hg.row p hp).1, S_congr (g := fun j => if j = i then b.getD j 0 * p.getD j 0 else 0) fun j hj => ?_, S_delta s i _ hi]
    rw [Tat j i hj hi]
    by_cases e : j = i
    · rw [if_pos e.symm, if_pos e]; grind
    · rw [if_neg (fun z => e z.symm), if_neg e]; grind
  have M : ∀ m, m < w → gmax (paysL l b g m) ≤ S s fun i => at2 l i m * gmax (paysL T b g i) := fun m _ => by
    obtain ⟨p, hp, e⟩ := pays_best (l := l) (b := b) m hg
    rw [e, pay_S hl hb (hg.row p hp).1]
    refine S_le fun i hi => ?_
    have := le_gmax (l := paysL T b g i) (List.mem_map.mpr ⟨p, hp, rfl⟩)
    rw [Tp i hi p hp] at this
    have := Rat.mul_le_mul_of_nonneg_left this (h.at_nn hl (m := m) hi)
    grind
  rw [worthL_S, worthL_S]
  refine Rat.le_trans (S_le M) ?_
  rw [← S_swap (fun i m => at2 l i m * gmax (paysL T b g i))]
  rw [S_congr (n := s) (g := fun i => gmax (paysL T b g i)) fun i hi => ?_]
  · exact Rat.le_refl
  rw [S_congr (g := fun m => gmax (paysL T b g i) * at2 l i m) fun m _ => by grind, S_mul, h.at_sum hl hi, Rat.mul_one]
/-- mixed beliefs -/
theorem mixed_le {l g : List (List Rat)} {b o x : List Rat} {w n2 s : Nat} {t u : Rat} (hl : l.length = s) (hb : b.length = s) (ho : o.length = s) (hx : x.length = s) (hg : GameOk n2 s g) (ht : 0 ≤ t) (hu : 0 ≤ u)
    (e : ∀ i, i < s → x.getD i 0 = t * b.getD i 0 + u * o.getD i 0) : worthL l x g w ≤ t * worthL l b g w + u * worthL l o g w := by
  rw [worthL_S, worthL_S, worthL_S, ← S_mul, ← S_mul, ← S_add]
  refine S_le fun m _ => ?_
  obtain ⟨p, hp, e1⟩ := pays_best (l := l) (b := x) m hg
  rw [e1]
  have e2 : dot (mulL x (col l m)) p = t * dot (mulL b (col l m)) p + u * dot (mulL o (col l m)) p := by
    rw [pay_S hl hx (hg.row p hp).1, pay_S hl hb (hg.row p hp).1, pay_S hl ho (hg.row p hp).1, ← S_mul, ← S_mul, ← S_add]
    refine S_congr fun i hi => ?_
    rw [e i hi]
    grind
  rw [e2]
  have h1 := Rat.mul_le_mul_of_nonneg_left (le_gmax (l := paysL l b g m) (List.mem_map.mpr ⟨p, hp, rfl⟩)) ht
  have h2 := Rat.mul_le_mul_of_nonneg_left (le_gmax (l := paysL l o g m) (List.mem_map.mpr ⟨p, hp, rfl⟩)) hu
  exact Rat.le_trans (Rat.add_le_add_right.mpr h1) (Rat.add_le_add_left.mpr h2)
theorem gmax_map {l : List Rat} (h : l ≠ []) (f : Rat → Rat) (mono : ∀ x y, x ≤ y → f x ≤ f y) : gmax (l.map f) = f (gmax l) :=
  gmax_eq (List.mem_map.mpr ⟨_, gmax_mem h, rfl⟩) fun x hx => by
    obtain ⟨y, hy, rfl⟩ := List.mem_map.mp hx
    exact mono _ _ (le_gmax hy)
theorem raised_eq {l g : List (List Rat)} {b : List Rat} {n w n2 s : Nat} (a : Rat) (h : LookOk n w l) (hl : l.length = s) (hb : b.length = s) (hs : b.sum = 1) (hg : GameOk n2 s g) : worthL l b (g.map fun p => p.map fun x => x + a) w = worthL l b g w + a := by
  rw [worthL_S, worthL_S]
  have e : ∀ m, m < w → gmax (paysL l b (g.map fun p => p.map fun x => x + a) m) = gmax (paysL l b g m) + a * S s fun i => b.getD i 0 * at2 l i m := fun m _ => by
    have e1 : paysL l b (g.map fun p => p.map fun x => x + a) m = (paysL l b g m).map fun x => x + a * S s fun i => b.getD i 0 * at2 l i m := by
      unfold paysL
      rw [List.map_map, List.map_map]
      refine List.map_congr_left fun p hp => ?_
      have lp := (hg.row p hp).1
      show dot (mulL b (col l m)) (p.map fun x => x + a) = dot (mulL b (col l m)) p + a * S s fun i => b.getD i 0 * at2 l i m
      rw [pay_S hl hb (by rw [List.length_map, lp]), pay_S hl hb lp, ← S_mul, ← S_add]
      refine S_congr fun i hi => ?_
      rw [getD_map' _ _ _ 0 _ (by omega)]
      grind
    rw [e1, gmax_map (pays_ne hg) _ fun x y hxy => Rat.add_le_add_right.mpr hxy]
  rw [S_congr e, S_add, S_mul, ← S_swap]
  rw [S_congr (n := s) (g := fun i => b.getD i 0) fun i hi => by rw [S_mul, h.at_sum hl hi, Rat.mul_one]]
  rw [← hb, ← sum_S, hs, Rat.mul_one]
theorem scaled_eq {l g : List (List Rat)} {b : List Rat} {w n2 s : Nat} (f : Rat) (hf : 0 ≤ f) (hl : l.length = s) (hb : b.length = s) (hg : GameOk n2 s g) : worthL l b (g.map fun p => p.map fun x => x * f) w = worthL l b g w * f := by
  rw [worthL_S, worthL_S, Rat.mul_comm _ f, ← S_mul]
  refine S_congr fun m _ => ?_
  have e1 : paysL l b (g.map fun p => p.map fun x => x * f) m = (paysL l b g m).map fun x => f * x := by
    unfold paysL
    rw [List.map_map, List.map_map]
    refine List.map_congr_left fun p hp => ?_
    have lp := (hg.row p hp).1
    show dot (mulL b (col l m)) (p.map fun x => x * f) = f * dot (mulL b (col l m)) p
    rw [pay_S hl hb (by rw [List.length_map, lp]), pay_S hl hb lp, ← S_mul]
    refine S_congr fun i hi => ?_
    rw [getD_map' _ _ _ 0 _ (by omega)]
    grind
  rw [e1, gmax_map (pays_ne hg) _ fun x y hxy => Rat.mul_le_mul_of_nonneg_left hxy hf]
theorem doubled_eq {l g : List (List Rat)} {b : List Rat} {w n2 s : Nat} {r0 : List Rat} {l' : List (List Rat)} (hg : GameOk n2 s g) (e : g = r0 :: l') : worthL l b (g ++ [r0]) w = worthL l b g w := by
  rw [worthL_S, worthL_S]
  refine S_congr fun m _ => ?_
  have e1 : paysL l b (g ++ [r0]) m = paysL l b g m ++ [dot (mulL b (col l m)) r0] := by
    unfold paysL
    rw [List.map_append]; rfl
  rw [e1]
  refine gmax_eq (List.mem_append_left _ (gmax_mem (pays_ne hg))) fun x hx => ?_
  rcases List.mem_append.mp hx with hx | hx
  · exact le_gmax hx
  · rw [List.mem_singleton.mp hx]
    exact le_gmax (List.mem_map.mpr ⟨r0, by rw [e]; exact List.mem_cons_self .., rfl⟩)
end PyE
set_option maxRecDepth 100000
namespace PyE
open PySem
/-! ### cells that a def makes for itself -/
theorem off_row (n : Nat) (R : Nat → Option D) : ∀ l : List Rat, D.offL n R (l.map fr) = some (l.map fr)
  | [] => rfl
  | q :: l => by
    show ((D.off n R (fr q)).bind fun a => (D.offL n R (l.map fr)).map fun b => a :: b) = _
    rw [off_row n R l]; rfl
theorem off_row' (n : Nat) (R : Nat → Option D) (l : List Rat) : D.off n R (row l) = some (row l) := by
  show (D.offL n R (l.map fr)).map D.lst = _
  rw [off_row]; rfl
theorem off_rows (n : Nat) (R : Nat → Option D) : ∀ l : List (List Rat), D.offL n R (l.map row) = some (l.map row)
  | [] => rfl
  | r :: l => by
    show ((D.off n R (row r)).bind fun a => (D.offL n R (l.map row)).map fun b => a :: b) = _
    rw [off_rows n R l, off_row']; rfl
theorem get_app (μ : Mu) (xs : List D) : (μ ++ [xs])[μ.length]? = some xs := by
  rw [List.getElem?_append_right (Nat.le_refl _), Nat.sub_self]; rfl
theorem set_app (μ : Mu) (xs ys : List D) : (μ ++ [xs]).set μ.length ys = μ ++ [ys] := by
  rw [List.set_append_right _ _ (Nat.le_refl _), Nat.sub_self]; rfl
theorem append_app {μ : Mu} {xs : List D} {d : D} (h : xs.length < 1000000) : mopS (μ ++ [xs]) .append (.ref μ.length) [d] = some (.none, μ ++ [xs ++ [d]]) := by
  show (((μ ++ [xs])[μ.length]?).bind fun xs' => if xs'.length < LIM then some (D.none, (μ ++ [xs]).set μ.length (xs' ++ [d])) else none) = _
  rw [get_app]
  show (if xs.length < LIM then _ else _) = _
  rw [if_pos (by unfold LIM; omega), set_app]
theorem len_app (μ : Mu) (xs : List D) : (μ ++ [xs]).length = μ.length + 1 := by rw [List.length_append]; rfl
/-- the look that was built in one's own cell is handed on -/
theorem fin_look (μ : Mu) (l : List (List Rat)) : leave μ (.ret (.tup [.str (PySem.Str.ofString "look"), .ref μ.length]) (μ ++ [l.map row])) = .ok (lookD l) μ := by
  show fin μ _ (μ ++ [l.map row]) .ok = _
  unfold fin
  rw [if_neg (by rw [len_app]; omega)]
  have hc : ∀ i, i < μ.length → (μ ++ [l.map row])[i]? = μ[i]? ∨ ∃ xs, (μ ++ [l.map row])[i]? = some xs ∧ D.undL μ.length xs = true := fun i hi => .inl (List.getElem?_append_left hi)
  split
  · have ho : D.off μ.length (tabD μ.length (μ ++ [l.map row]) FUEL) (.tup [.str (PySem.Str.ofString "look"), .ref μ.length]) = some (lookD l) := by
      have h1 : D.off μ.length (tabD μ.length (μ ++ [l.map row]) FUEL) (.ref μ.length) = some (rows l) := by
        show (if μ.length < μ.length then some (D.ref μ.length) else tabD μ.length (μ ++ [l.map row]) 8 μ.length) = _
        rw [if_neg (Nat.lt_irrefl _)]
        show (match (μ ++ [l.map row])[μ.length]? with
          | some xs => (D.offL μ.length (tabD μ.length (μ ++ [l.map row]) 7) xs).map D.lst
          | none => none) = _
        rw [get_app]
        show (D.offL μ.length _ (l.map row)).map D.lst = _
        rw [off_rows]; rfl
      show ((((D.off μ.length _ (.ref μ.length)).bind fun a => some [a]).map fun b => D.str (PySem.Str.ofString "look") :: b)).map D.tup = _
      rw [h1]; rfl
    rw [ho]
    show Res.ok (lookD l) ((μ ++ [l.map row]).take μ.length) = _
    rw [List.take_left']
    rfl
  · rename_i h
    exact absurd hc h
end PyE
set_option maxRecDepth 100000
namespace PyE
open PySem
theorem less_ok (k : Nat) (μ : Mu) {a b : Rat} (ha : Bd 4000 a) (hb : Bd 4000 b) : run C tbl (k + 3) f_less [fr a, fr b] μ = .ok (fr (a - b)) μ := by
  have e := lowest_ok k μ (a.num * b.den - b.num * a.den) (a.den * b.den) (pow_le (by decide) (den_mul_lt ha hb)) (den_mul_ne a b)
  rw [Int.natCast_mul, fr_sub] at e
  rw [run_less]
  simp [call1, df_less, b_less, mul_nd ha hb, mul_nd hb ha, mul_dd ha hb, e]
theorem div_mkRat {a b : Rat} (hb : 0 < b) : mkRat (a.num * b.den) (a.den * b.num.natAbs) = a / b := by
  have hn : 0 < b.num := by
    have h1 : b.num ≠ 0 := fun z => by
      have : b = 0 := Rat.num_eq_zero.mp z
      rw [this] at hb
      exact absurd hb (by decide)
    have h2 : 0 ≤ b.num := Rat.num_nonneg.mpr (Rat.le_of_lt hb)
    omega
  rw [Rat.div_def, Rat.inv_def]
  have e : (b.num.natAbs : Int) = b.num := by omega
  rw [← e, Rat.divInt_ofNat]
  conv => rhs; rw [← Rat.mkRat_self a]
  rw [Rat.mkRat_mul_mkRat]
  rfl
theorem over_ok (k : Nat) (μ : Mu) {a b : Rat} (ha : Bd 4000 a) (hb : Bd 4000 b) (h : 0 < b) : run C tbl (k + 3) f_over [fr a, fr b] μ = .ok (fr (a / b)) μ := by
  have hn : 0 < b.num := by
    have h1 : b.num ≠ 0 := fun z => by
      have : b = 0 := Rat.num_eq_zero.mp z
      rw [this] at h
      exact absurd h (by decide)
    have h2 : 0 ≤ b.num := Rat.num_nonneg.mpr (Rat.le_of_lt h)
    omega
  have e := lowest_ok k μ (a.num * b.den) (a.den * b.num.natAbs) (pow_le (n := 4000 + 4000) (by decide) (mul_lt_pow ha.2 hb.1)) (Nat.mul_ne_zero a.den_nz (by omega))
  rw [div_mkRat h] at e
  have en : ((a.den * b.num.natAbs : Nat) : Int) = (a.den : Int) * b.num := by
    rw [Int.natCast_mul]
    congr 1
    omega
  rw [en] at e
  rw [run_over]
  have m := mul_dn (C := C) (μ := μ) hb ha
  simp [call1, df_over, b_over, mul_nd ha hb, mul_dn hb ha, e]
theorem Bd.div {a b : Rat} {m n : Nat} (ha : Bd m a) (hb : Bd n b) (h : 0 < b) : Bd (m + n) (a / b) := by
  have hn : b.num ≠ 0 := fun z => by
    have : b = 0 := Rat.num_eq_zero.mp z
    rw [this] at h
    exact absurd h (by decide)
  rw [← div_mkRat h]
  refine mkRat_bd ?_ (mul_lt_pow ha.2 hb.1) (Nat.mul_ne_zero a.den_nz (by omega))
  rw [Int.natAbs_mul]
  exact mul_lt_pow ha.1 hb.2
theorem check_alike_ok (k : Nat) (μ : Mu) {l m : List (List Rat)} (h : l.length = m.length) : run C tbl (k + 2) f_check_alike [lookD l, lookD m] μ = .ok .none μ := by
  rw [run_check_alike]
  simp [call1, df_check_alike, b_check_alike, standings_of_ok, h]
theorem check_two_ok (k : Nat) (μ : Mu) {l m : List (List Rat)} {n n' w w' : Nat} (hl : LookOk n w l) (hm : LookOk n' w' m) (hn : n ≤ 400) (hn' : n' ≤ 400) (h : l.length = m.length) : run C tbl (k + 8) f_check_two [lookD l, lookD m] μ = .ok .none μ := by
  rw [run_check_two]
  simp [call1, df_check_two, b_check_two, check_look_ok k μ hl hn, check_look_ok k μ hm hn', check_alike_ok (k + 5) μ h]
theorem check_mark_ok (k : Nat) (μ : Mu) {l : List (List Rat)} {n w : Nat} (hl : LookOk n w l) {m : Nat} (hm : m < w) : run C tbl (k + 2) f_check_mark [lookD l, .int (m : Int)] μ = .ok .none μ := by
  have h1 : (0 : Int) ≤ (m : Int) := by omega
  have h2 : (m : Int) < (w : Int) := by omega
  rw [run_check_mark]
  simp [call1, df_check_mark, b_check_mark, is_whole_int, marks_of_ok k μ hl, hm]
theorem Bd_look {l : List (List Rat)} {n w : Nat} (h : LookOk n w l) : ∀ r ∈ l, ∀ q ∈ r, Bd n q := fun r hr q hq => ((h.row r hr).2.1 q hq).1
theorem wide_look {l : List (List Rat)} {n w m : Nat} (h : LookOk n w l) (hm : m < w) : ∀ r ∈ l, m < r.length := fun r hr => by rw [(h.row r hr).1]; exact hm
theorem chance_by_ok (k : Nat) (μ : Mu) {l : List (List Rat)} {b : List Rat} {m n n1 w s : Nat} (h : LookOk n w l) (hb : BelOk n1 s b) (hl : l.length = s) (hn : n + n1 ≤ 400) (hn0 : 1 ≤ n) (hm : m < w) :
    run C tbl (k + 6) f_chance_by [lookD l, row b, .int (m : Int)] μ = .ok (fr (dot b (col l m))) μ := by
  have hs := h.len.2
  have e := product_ok k μ (l := b) (m := col l m) (n := n1) (n' := n) (by rw [length_col, hb.len, hl]) hb.bd (Bd_col (Bd_look h) hn0) (by rw [hb.len]; exact bnd (c := 400) (d := 6) (by omega) (by omega))
  rw [run_chance_by]
  simp [call1, df_chance_by, b_chance_by, column_of_ok (k + 4) μ (wide_look h hm), e]
def chancesL (l : List (List Rat)) (b : List Rat) (w : Nat) : List Rat := (List.range w).map fun m => dot b (col l m)
theorem chances_by_ok (k : Nat) (μ : Mu) {l : List (List Rat)} {b : List Rat} {n n1 w s : Nat} (h : LookOk n w l) (hb : BelOk n1 s b) (hl : l.length = s) (hn : n + n1 ≤ 400) (hn0 : 1 ≤ n) :
    run C tbl (k + 7) f_chances_by [lookD l, row b] μ = .ok (row (chancesL l b w)) μ := by
  have c : cm C (run C tbl (k + 6)) (.nm 2) .nil (.call f_chance_by [0, 1, 2] (.cons (.v 0) (.cons (.v 1) (.cons (.v 2) .nil)))) [some (lookD l), some (row b), none] (fun _ => true) ((List.range w).map fun m : Nat => .int (m : Int)) μ = .ok ((List.range w).map fun m => fr (dot b (col l m))) μ := by
    refine cm_map rfl fun m hm => ?_
    have e := chance_by_ok k μ h hb hl hn hn0 (List.mem_range.mp hm)
    simp [wipe, Tg.slots, e]
  rw [run_chances_by]
  simp [call1, df_chances_by, b_chances_by, marks_of_ok (k + 5) μ h, srcR1_nat w (by have := h.wid; omega), rangeD0, c]
  rw [chancesL, row, List.map_map]; rfl
theorem chances_of_ok (k : Nat) (μ : Mu) {l : List (List Rat)} {b : List Rat} {n n1 w s : Nat} (h : LookOk n w l) (hb : BelOk n1 s b) (hl : l.length = s) (hn : n + n1 ≤ 400) (hn0 : 1 ≤ n) :
    run C tbl (k + 8) f_chances_of [lookD l, row b] μ = .ok (row (chancesL l b w)) μ := by
  rw [run_chances_of]
  simp [call1, df_chances_of, b_chances_of, check_look_ok k μ h (by omega), check_belief_ok k μ hb (by omega) (by rw [← hl]; exact h.len.2) hl, chances_by_ok k μ h hb hl hn hn0]
/-- the belief behind a mark -/
def behindL (l : List (List Rat)) (b : List Rat) (m : Nat) : List Rat := (mulL b (col l m)).map fun q => q / dot b (col l m)
def behindD (l : List (List Rat)) (b : List Rat) (m : Nat) : D := if dot b (col l m) = 0 then .none else row (behindL l b m)
theorem sum_nn : ∀ {l : List Rat}, (∀ q ∈ l, 0 ≤ q) → 0 ≤ l.sum
  | [], _ => Rat.le_refl
  | q :: l, h => by
    rw [List.sum_cons]
    exact Rat.add_nonneg (h q (List.mem_cons_self ..)) (sum_nn fun x hx => h x (List.mem_cons_of_mem _ hx))
theorem col_nn {l : List (List Rat)} {n w m : Nat} (h : LookOk n w l) : ∀ q ∈ col l m, 0 ≤ q := by
  intro q hq
  obtain ⟨r, hr, rfl⟩ := List.mem_map.mp hq
  show 0 ≤ r.getD m 0
  rw [List.getD_eq_getElem?_getD]
  cases e : r[m]? with
  | none => exact Rat.le_refl
  | some x => exact ((h.row r hr).2.1 x (List.mem_of_getElem? e)).2
theorem mulL_nn {u v : List Rat} (hu : ∀ q ∈ u, 0 ≤ q) (hv : ∀ q ∈ v, 0 ≤ q) : ∀ q ∈ mulL u v, 0 ≤ q := by
  intro q hq
  rw [mulL_zip] at hq
  obtain ⟨p, hp, rfl⟩ := List.mem_map.mp hq
  exact Rat.mul_nonneg (hu _ (List.of_mem_zip hp).1) (hv _ (List.of_mem_zip hp).2)
theorem dot_nn {l : List (List Rat)} {b : List Rat} {n n1 w s m : Nat} (h : LookOk n w l) (hb : BelOk n1 s b) : 0 ≤ dot b (col l m) := sum_nn (mulL_nn hb.nn (col_nn h))
theorem behind_by_ok (k : Nat) (μ : Mu) {l : List (List Rat)} {b : List Rat} {m n n1 w s : Nat} (h : LookOk n w l) (hb : BelOk n1 s b) (hl : l.length = s) (hn : n + n1 ≤ 400) (hn0 : 1 ≤ n) (hm : m < w) :
    run C tbl (k + 5) f_behind_by [lookD l, row b, .int (m : Int)] μ = .ok (behindD l b m) μ := by
  have hs := h.len.2
  have c : cm C (run C tbl (k + 4)) (.tp [5, 6]) .nil (.call f_times [0, 1] (.cons (.v 5) (.cons (.v 6) .nil))) [some (lookD l), some (row b), some (.int (m : Int)), none, none, none, none, none] (fun _ => true) ((b.zip (col l m)).map fun p => .tup [fr p.1, fr p.2]) μ = .ok ((b.zip (col l m)).map fun p => fr (p.1 * p.2)) μ := by
    refine cm_map rfl fun p hp => ?_
    have ht := times_ok (k + 1) μ ((hb.bd _ (List.of_mem_zip hp).1).mono (n := 4000) (by omega)) ((Bd_col (Bd_look h) hn0 _ (List.of_mem_zip hp).2).mono (n := 4000) (by omega))
    simp [wipe, Tg.slots, ht]
  have z : srcZ true μ (row b) (row (col l m)) = some ⟨(b.zip (col l m)).map fun p => .tup [fr p.1, fr p.2], []⟩ := by
    unfold row
    rw [srcZ_lst _ _ _ (by rw [List.length_map, List.length_map, length_col, hb.len, hl]), zipD_map]
  have r1 : D.lst ((b.zip (col l m)).map fun p => fr (p.1 * p.2)) = row (mulL b (col l m)) := by rw [row, mulL_zip, List.map_map]; rfl
  have lm : (mulL b (col l m)).length = s := by rw [length_mulL (by rw [length_col, hb.len, hl]), hb.len]
  have bm := Bd_mulL hb.bd (Bd_col (m := m) (Bd_look h) hn0)
  have e := summed_ok k μ bm (by rw [lm]; exact bnd (c := 400) (d := 6) (by omega) (by omega))
  have bw : Bd 4000 (dot b (col l m)) := by
    have := Bd.sum bm
    rw [lm] at this
    refine this.mono ?_
    have := Nat.mul_le_mul (show n1 + n + 1 ≤ 401 by omega) (show s ≤ 6 by omega)
    omega
  rw [run_behind_by]
  by_cases h0 : dot b (col l m) = 0
  · have h0' : (mulL b (col l m)).sum = 0 := h0
    simp [call1, df_behind_by, b_behind_by, column_of_ok (k + 3) μ (wide_look h hm), z, c, r1, e, h0', behindD, h0]
  · have h0' : ¬ (mulL b (col l m)).sum = 0 := h0
    have hp : 0 < dot b (col l m) := Rat.lt_of_le_of_ne (dot_nn h hb) (Ne.symm h0)
    have c2 : cm C (run C tbl (k + 4)) (.nm 7) .nil (.call f_over [0, 1] (.cons (.v 7) (.cons (.v 4) .nil))) [some (lookD l), some (row b), some (.int (m : Int)), some (row (mulL b (col l m))), some (fr (mulL b (col l m)).sum), none, none, none] (fun _ => true) ((mulL b (col l m)).map fr) μ = .ok ((mulL b (col l m)).map fun q => fr (q / dot b (col l m))) μ := by
      refine cm_map rfl fun q hq => ?_
      have ht := over_ok (k + 1) μ ((bm q hq).mono (n := 4000) (by omega)) bw hp
      have e2 : fr (mulL b (col l m)).sum = fr (dot b (col l m)) := rfl
      simp [wipe, Tg.slots, e2, ht]
    simp [call1, df_behind_by, b_behind_by, column_of_ok (k + 3) μ (wide_look h hm), z, c, r1, e, h0', c2, behindD, h0]
    rw [behindL, row, List.map_map]; rfl
theorem belief_behind_ok (k : Nat) (μ : Mu) {l : List (List Rat)} {b : List Rat} {m n n1 w s : Nat} (h : LookOk n w l) (hb : BelOk n1 s b) (hl : l.length = s) (hn : n + n1 ≤ 400) (hn0 : 1 ≤ n) (hm : m < w) :
    run C tbl (k + 8) f_belief_behind [lookD l, row b, .int (m : Int)] μ = .ok (behindD l b m) μ := by
  rw [run_belief_behind]
  simp [call1, df_belief_behind, b_belief_behind, check_look_ok k μ h (by omega), check_belief_ok k μ hb (by omega) (by rw [← hl]; exact h.len.2) hl, check_mark_ok (k + 5) μ h hm, behind_by_ok (k + 2) μ h hb hl hn hn0 hm]
end PyE
set_option maxRecDepth 100000
namespace PyE
open PySem
theorem cm2_pure {C : Cfg} {cl : Cl} {μ : Mu} {ρ : Ro} {α β : Type} {t t1 : Tg} {it1 e : CE} {ok : Mu → Bool} {f : α → D} {m : α → List β} {f1 : β → D} {g : α → β → D} (hok : ok μ = true) : ∀ {l : List α}, (∀ x ∈ l, ∃ ρ1, setT μ t (f x) (wipe (wipe ρ t1.slots) t.slots) = some ρ1 ∧
    eI C cl it1 ρ1 μ = .ok ⟨(m x).map f1, []⟩ μ ∧ cm C cl t1 .nil e ρ1 (fun _ => true) ((m x).map f1) μ = .ok ((m x).map (g x)) μ) → cm2 C cl t t1 it1 .nil e ρ ok (l.map f) μ = .ok (l.flatMap fun x => (m x).map (g x)) μ
  | [], _ => by
    show (if ok μ = true then Res.ok [] μ else .err) = _
    rw [if_pos hok]; rfl
  | x :: l, h => by
    obtain ⟨ρ1, q1, q2, q3⟩ := h x (List.mem_cons_self ..)
    have ih := cm2_pure (t := t) (t1 := t1) (it1 := it1) (e := e) (ρ := ρ) (g := g) hok (l := l) fun y hy => h y (List.mem_cons_of_mem _ hy)
    show (if ok μ = true then (((lift (setT μ t (f x) (wipe (wipe ρ t1.slots) t.slots)) μ).bind fun ρ1 μ2 => (eI C cl it1 ρ1 μ2).nox.bind fun s1 μ3 => cm C cl t1 .nil e ρ1 s1.okAt s1.xs μ3).bind fun o μ1 => (cm2 C cl t t1 it1 .nil e ρ ok (l.map f) μ1).bind fun r μ2 => .ok (o ++ r) μ2) else .err) = _
    rw [if_pos hok, q1, lift_some, bind_ok, q2, nox_ok, bind_ok, okAt_nil, q3, bind_ok, ih, bind_ok]; rfl
def bothR (r q : List Rat) : List Rat := r.flatMap fun x => q.map fun y => x * y
def bothL (l m : List (List Rat)) : List (List Rat) := (l.zip m).map fun p => bothR p.1 p.2
theorem length_bothR (r q : List Rat) : (bothR r q).length = r.length * q.length := by
  unfold bothR
  induction r with
  | nil => simp
  | cons x r ih => rw [List.flatMap_cons, List.length_append, ih, List.length_map, List.length_cons, Nat.succ_mul, Nat.add_comm]
theorem zip_rows (μ : Mu) {l m : List (List Rat)} (h : l.length = m.length) : srcZ true μ (rows l) (rows m) = some ⟨(l.zip m).map fun p => .tup [row p.1, row p.2], []⟩ := by
  unfold rows
  rw [srcZ_lst _ _ _ (by rw [List.length_map, List.length_map, h]), zipD_map]
theorem both_loop (k : Nat) (μ : Mu) (L M : D) : ∀ (ps : List (List Rat × List Rat)) (acc : List (List Rat)) (o3 o4 : Option D), (∀ p ∈ ps, (∀ q ∈ p.1, Bd 4000 q) ∧ (∀ q ∈ p.2, Bd 4000 q) ∧ p.1.length * p.2.length ≤ 1000) → acc.length + ps.length ≤ 1000 → ∃ o3' o4',
    fo C (run C tbl (k + 3)) (.tp [3, 4]) (.cons (.ex (.mop .append (.v 2) (.cons (.comp2 (.nm 5) (.iseq (.v 3)) (.nm 6) (.iseq (.v 4)) .nil (.call f_times [0, 1] (.cons (.v 5) (.cons (.v 6) .nil)))) .nil))) .nil) (fun _ => true) (ps.map fun p => .tup [row p.1, row p.2]) [some L, some M, some (.ref μ.length), o3, o4, none, none] (μ ++ [acc.map row])
      = .next [some L, some M, some (.ref μ.length), o3', o4', none, none] (μ ++ [(acc ++ ps.map fun p => bothR p.1 p.2).map row])
  | [], acc, o3, o4, _, _ => ⟨o3, o4, by rw [List.map_nil, List.map_nil, List.append_nil, fo_nil, if_pos rfl]⟩
  | p :: ps, acc, o3, o4, h, hz => by
    obtain ⟨h1, h2, h3⟩ := h p (List.mem_cons_self ..)
    rw [List.length_cons] at hz
    obtain ⟨o3', o4', ih⟩ := both_loop k μ L M ps (acc ++ [bothR p.1 p.2]) (some (row p.1)) (some (row p.2)) (fun q hq => h q (List.mem_cons_of_mem _ hq)) (by rw [List.length_append]; show acc.length + 1 + _ ≤ _; omega)
    have c : cm2 C (run C tbl (k + 3)) (.nm 5) (.nm 6) (.iseq (.v 4)) .nil (.call f_times [0, 1] (.cons (.v 5) (.cons (.v 6) .nil))) [some L, some M, some (.ref μ.length), some (row p.1), some (row p.2), none, none] (fun _ => true) (p.1.map fr) (μ ++ [acc.map row])
        = .ok (p.1.flatMap fun x => p.2.map fun y => fr (x * y)) (μ ++ [acc.map row]) := by
      refine cm2_pure (m := fun _ => p.2) (f1 := fr) (g := fun x y => fr (x * y)) rfl fun x hx => ⟨[some L, some M, some (.ref μ.length), some (row p.1), some (row p.2), some (fr x), none], rfl, by simp, ?_⟩
      refine cm_map rfl fun y hy => ?_
      have ht := times_ok k (μ ++ [acc.map row]) (h1 x hx) (h2 y hy)
      simp [wipe, Tg.slots, ht]
    have e1 : D.lst (p.1.flatMap fun x => p.2.map fun y => fr (x * y)) = row (bothR p.1 p.2) := by
      rw [row, bothR, List.map_flatMap]
      congr 2
      funext x
      rw [List.map_map]; rfl
    have ck : chk (p.1.flatMap fun x => p.2.map fun y => fr (x * y)) (μ ++ [acc.map row]) = .ok (p.1.flatMap fun x => p.2.map fun y => fr (x * y)) (μ ++ [acc.map row]) := by
      unfold chk
      rw [if_pos]
      have : (p.1.flatMap fun x => p.2.map fun y => fr (x * y)).length = (bothR p.1 p.2).length := by
        have := congrArg (fun d => match d with | .lst l => l.length | _ => 0) e1
        simpa [row] using this
      rw [this, length_bothR]
      unfold LIM
      omega
    have ap := append_app (μ := μ) (xs := acc.map row) (d := row (bothR p.1 p.2)) (by rw [List.length_map]; omega)
    have er : acc.map row ++ [row (bothR p.1 p.2)] = (acc ++ [bothR p.1 p.2]).map row := by rw [List.map_append]; rfl
    rw [er] at ap
    refine ⟨o3', o4', ?_⟩
    have ee : acc ++ (p :: ps).map (fun p => bothR p.1 p.2) = acc ++ [bothR p.1 p.2] ++ ps.map fun p => bothR p.1 p.2 := by simp
    rw [ee, ← ih, List.map_cons, fo_cons, if_pos rfl]
    have l2 : ∀ x : Option (D × Mu), lift2 x = match x with | some (r, μ) => .ok r μ | none => .err := fun _ => rfl
    simp [c, ck, e1, ap, l2]
theorem both_by_ok (k : Nat) (μ : Mu) {l m : List (List Rat)} {n n' w w' : Nat} (hl : LookOk n w l) (hm : LookOk n' w' m) (hn : n ≤ 400) (hn' : n' ≤ 400) (h : l.length = m.length) : run C tbl (k + 4) f_both_by [lookD l, lookD m] μ = .ok (lookD (bothL l m)) μ := by
  have a1 := hl.len
  have a2 := hl.wid
  have a3 := hm.wid
  obtain ⟨o3, o4, e⟩ := both_loop k μ (lookD l) (lookD m) (l.zip m) [] none none (fun p hp => ⟨fun q hq => (Bd_look hl _ (List.of_mem_zip hp).1 q hq).mono (by omega), fun q hq => (Bd_look hm _ (List.of_mem_zip hp).2 q hq).mono (by omega), by
    rw [(hl.row _ (List.of_mem_zip hp).1).1, (hm.row _ (List.of_mem_zip hp).2).1]
    exact Nat.le_trans (Nat.mul_le_mul a2.2 a3.2) (by decide)⟩) (by rw [List.length_zip]; show 0 + _ ≤ _; omega)
  rw [List.nil_append] at e
  have e' : fo C (run C tbl (k + 3)) (.tp [3, 4]) (.cons (.ex (.mop .append (.v 2) (.cons (.comp2 (.nm 5) (.iseq (.v 3)) (.nm 6) (.iseq (.v 4)) .nil (.call f_times [0, 1] (.cons (.v 5) (.cons (.v 6) .nil)))) .nil))) .nil) (fun _ => true) ((l.zip m).map fun p => .tup [row p.1, row p.2]) [some (lookD l), some (lookD m), some (.ref μ.length), none, none, none, none] (μ ++ [[]])
      = .next [some (lookD l), some (lookD m), some (.ref μ.length), o3, o4, none, none] (μ ++ [(bothL l m).map row]) := e
  have f := fin_look μ (bothL l m)
  have lst : ∀ (μ : Mu), (lift ((opS C μ .lst []).bind prN) μ) = .ok [] μ := fun μ => rfl
  rw [run_both_by]
  simp [call1, df_both_by, b_both_by, lst, zip_rows _ h, e', f]
def eitherR (t u : Rat) (r q : List Rat) : List Rat := (r.map fun x => t * x) ++ q.map fun y => u * y
def eitherL (t : Rat) (l m : List (List Rat)) : List (List Rat) := (l.zip m).map fun p => eitherR t (1 - t) p.1 p.2
theorem either_loop (k : Nat) (μ : Mu) (L M : D) {t u : Rat} (ht : Bd 4000 t) (hu : Bd 4000 u) : ∀ (ps : List (List Rat × List Rat)) (acc : List (List Rat)) (o3 o4 : Option D), (∀ p ∈ ps, (∀ q ∈ p.1, Bd 4000 q) ∧ (∀ q ∈ p.2, Bd 4000 q) ∧ p.1.length + p.2.length ≤ 1000) → acc.length + ps.length ≤ 1000 → ∃ o3' o4',
    fo C (run C tbl (k + 3)) (.tp [5, 6]) (.cons (.ex (.mop .append (.v 4) (.cons (.op .add (.cons (.comp (.nm 7) (.iseq (.v 5)) .nil (.call f_times [0, 1] (.cons (.v 2) (.cons (.v 7) .nil)))) (.cons (.comp (.nm 8) (.iseq (.v 6)) .nil (.call f_times [0, 1] (.cons (.v 3) (.cons (.v 8) .nil)))) .nil))) .nil))) .nil) (fun _ => true) (ps.map fun p => .tup [row p.1, row p.2]) [some L, some M, some (fr t), some (fr u), some (.ref μ.length), o3, o4, none, none] (μ ++ [acc.map row])
      = .next [some L, some M, some (fr t), some (fr u), some (.ref μ.length), o3', o4', none, none] (μ ++ [(acc ++ ps.map fun p => eitherR t u p.1 p.2).map row])
  | [], acc, o3, o4, _, _ => ⟨o3, o4, by rw [List.map_nil, List.map_nil, List.append_nil, fo_nil, if_pos rfl]⟩
  | p :: ps, acc, o3, o4, h, hz => by
    obtain ⟨h1, h2, h3⟩ := h p (List.mem_cons_self ..)
    rw [List.length_cons] at hz
    obtain ⟨o3', o4', ih⟩ := either_loop k μ L M ht hu ps (acc ++ [eitherR t u p.1 p.2]) (some (row p.1)) (some (row p.2)) (fun q hq => h q (List.mem_cons_of_mem _ hq)) (by rw [List.length_append]; show acc.length + 1 + _ ≤ _; omega)
    have c1 : cm C (run C tbl (k + 3)) (.nm 7) .nil (.call f_times [0, 1] (.cons (.v 2) (.cons (.v 7) .nil))) [some L, some M, some (fr t), some (fr u), some (.ref μ.length), some (row p.1), some (row p.2), none, none] (fun _ => true) (p.1.map fr) (μ ++ [acc.map row]) = .ok (p.1.map fun x => fr (t * x)) (μ ++ [acc.map row]) := by
      refine cm_map rfl fun x hx => ?_
      have ht := times_ok k (μ ++ [acc.map row]) ht (h1 x hx)
      simp [wipe, Tg.slots, ht]
    have c2 : cm C (run C tbl (k + 3)) (.nm 8) .nil (.call f_times [0, 1] (.cons (.v 3) (.cons (.v 8) .nil))) [some L, some M, some (fr t), some (fr u), some (.ref μ.length), some (row p.1), some (row p.2), none, none] (fun _ => true) (p.2.map fr) (μ ++ [acc.map row]) = .ok (p.2.map fun x => fr (u * x)) (μ ++ [acc.map row]) := by
      refine cm_map rfl fun x hx => ?_
      have ht := times_ok k (μ ++ [acc.map row]) hu (h2 x hx)
      simp [wipe, Tg.slots, ht]
    have ad : opR C .add [.lst (p.1.map fun x => fr (t * x)), .lst (p.2.map fun x => fr (u * x))] (μ ++ [acc.map row]) = .ok (row (eitherR t u p.1 p.2)) (μ ++ [acc.map row]) := by
      rw [add_lst _ _ (by rw [List.length_map, List.length_map]; omega), row, eitherR, List.map_append, List.map_map, List.map_map]; rfl
    have ap := append_app (μ := μ) (xs := acc.map row) (d := row (eitherR t u p.1 p.2)) (by rw [List.length_map]; omega)
    have er : acc.map row ++ [row (eitherR t u p.1 p.2)] = (acc ++ [eitherR t u p.1 p.2]).map row := by rw [List.map_append]; rfl
    rw [er] at ap
    refine ⟨o3', o4', ?_⟩
    have ee : acc ++ (p :: ps).map (fun p => eitherR t u p.1 p.2) = acc ++ [eitherR t u p.1 p.2] ++ ps.map fun p => eitherR t u p.1 p.2 := by simp
    rw [ee, ← ih, List.map_cons, fo_cons, if_pos rfl]
    have l2 : ∀ x : Option (D × Mu), lift2 x = match x with | some (r, μ) => .ok r μ | none => .err := fun _ => rfl
    simp [c1, c2, ad, ap, l2]
theorem either_by_ok (k : Nat) (μ : Mu) {l m : List (List Rat)} {t : Rat} {n n' w w' : Nat} (hl : LookOk n w l) (hm : LookOk n' w' m) (hn : n ≤ 400) (hn' : n' ≤ 400) (ht : Bd 400 t) (h : l.length = m.length) : run C tbl (k + 4) f_either_by [lookD l, lookD m, fr t] μ = .ok (lookD (eitherL t l m)) μ := by
  have a1 := hl.len
  have a2 := hl.wid
  have a3 := hm.wid
  obtain ⟨o3, o4, e⟩ := either_loop k μ (lookD l) (lookD m) (ht.mono (n := 4000) (by decide)) ((Bd.one.sub ht).mono (n := 4000) (by decide)) (l.zip m) [] none none (fun p hp => ⟨fun q hq => (Bd_look hl _ (List.of_mem_zip hp).1 q hq).mono (by omega), fun q hq => (Bd_look hm _ (List.of_mem_zip hp).2 q hq).mono (by omega), by
    rw [(hl.row _ (List.of_mem_zip hp).1).1, (hm.row _ (List.of_mem_zip hp).2).1]; omega⟩) (by rw [List.length_zip]; show 0 + _ ≤ _; omega)
  rw [List.nil_append] at e
  have e' : fo C (run C tbl (k + 3)) (.tp [5, 6]) (.cons (.ex (.mop .append (.v 4) (.cons (.op .add (.cons (.comp (.nm 7) (.iseq (.v 5)) .nil (.call f_times [0, 1] (.cons (.v 2) (.cons (.v 7) .nil)))) (.cons (.comp (.nm 8) (.iseq (.v 6)) .nil (.call f_times [0, 1] (.cons (.v 3) (.cons (.v 8) .nil)))) .nil))) .nil))) .nil) (fun _ => true) ((l.zip m).map fun p => .tup [row p.1, row p.2]) [some (lookD l), some (lookD m), some (fr t), some (fr (1 - t)), some (.ref μ.length), none, none, none, none] (μ ++ [[]])
      = .next [some (lookD l), some (lookD m), some (fr t), some (fr (1 - t)), some (.ref μ.length), o3, o4, none, none] (μ ++ [(eitherL t l m).map row]) := e
  have f := fin_look μ (eitherL t l m)
  have lst : ∀ (μ : Mu), (lift ((opS C μ .lst []).bind prN) μ) = .ok [] μ := fun μ => rfl
  have le : run C tbl (k + 3) f_less [.tup [.int 1, .int 1], fr t] μ = .ok (fr (1 - t)) μ := less_ok k μ (a := 1) (b := t) (Bd.one.mono (by decide)) (ht.mono (by decide))
  rw [run_either_by]
  simp [call1, df_either_by, b_either_by, lst, le, zip_rows _ h, e', f]
end PyE
set_option maxRecDepth 100000
namespace PyE
open PySem
def natl (l : List Nat) : D := .lst (l.map fun x : Nat => .int (x : Int))
def lotsD (l : List (List Nat)) : D := .lst (l.map natl)
def lotSum (r : List Rat) (lot : List Nat) : Rat := (lot.map fun m => r.getD m 0).sum
def joinedL (l : List (List Rat)) (lots : List (List Nat)) : List (List Rat) := l.map fun r => lots.map (lotSum r)
theorem srcS_natl (μ : Mu) (l : List Nat) : srcS μ (natl l) = some ⟨l.map fun x : Nat => .int (x : Int), []⟩ := rfl
theorem srcS_lots (μ : Mu) (l : List (List Nat)) : srcS μ (lotsD l) = some ⟨l.map natl, []⟩ := rfl
theorem idx_getD {μ : Mu} {C : Cfg} {r : List Rat} {m : Nat} (h : m < r.length) : opR C .idx [row r, .int (m : Int)] μ = .ok (fr (r.getD m 0)) μ := idx_row r (by rw [List.getD_eq_getElem?_getD, List.getElem?_eq_getElem h]; rfl)
theorem mark_loop (k : Nat) (μ : Mu) (L M : D) (a2 a4 a5 : Option D) {r : List Rat} {n : Nat} (hr : ∀ q ∈ r, Bd n q) (hn : 1 ≤ n) : ∀ (ms : List Nat) (acc : Rat) (b : Nat) (o : Option D), (∀ m ∈ ms, m < r.length) → Bd b acc → b + (n + 1) * ms.length ≤ 4000 → n ≤ 4000 → ∃ o',
    fo C (run C tbl (k + 3)) (.nm 7) (.cons (.asg (.nm 6) (.call f_plus [0, 1] (.cons (.v 6) (.cons (.op .idx (.cons (.v 3) (.cons (.v 7) .nil))) .nil)))) .nil) (fun _ => true) (ms.map fun x : Nat => .int (x : Int)) [some L, some M, a2, some (row r), a4, a5, some (fr acc), o] μ
      = .next [some L, some M, a2, some (row r), a4, a5, some (fr (acc + lotSum r ms)), o'] μ
  | [], acc, b, o, _, _, _, _ => ⟨o, by rw [List.map_nil, fo_nil, if_pos rfl]; rw [show lotSum r [] = 0 from rfl, Rat.add_zero]⟩
  | m :: ms, acc, b, o, h, ha, hz, hn4 => by
    have hm := h m (List.mem_cons_self ..)
    rw [List.length_cons, Nat.mul_succ] at hz
    have bq : Bd n (r.getD m 0) := by
      rw [List.getD_eq_getElem?_getD, List.getElem?_eq_getElem hm]
      exact hr _ (List.getElem_mem hm)
    obtain ⟨o', ih⟩ := mark_loop k μ L M a2 a4 a5 hr hn ms (acc + r.getD m 0) (b + n + 1) (some (.int (m : Int))) (fun x hx => h x (List.mem_cons_of_mem _ hx)) (ha.add bq) (by omega) hn4
    have e := plus_ok k μ (ha.mono (n := 4000) (by omega)) (bq.mono (n := 4000) hn4)
    have i := idx_getD (μ := μ) (C := C) hm
    refine ⟨o', ?_⟩
    have ee : acc + lotSum r (m :: ms) = acc + r.getD m 0 + lotSum r ms := by
      unfold lotSum
      rw [List.map_cons, List.sum_cons, Rat.add_assoc]
    rw [ee, ← ih, List.map_cons, fo_cons, if_pos rfl]
    simp only [List.getD_eq_getElem?_getD] at e i
    simp [i, e]
theorem Bd_lot {r : List Rat} {n : Nat} (hr : ∀ q ∈ r, Bd n q) (hn : 1 ≤ n) (lot : List Nat) : Bd ((n + 1) * lot.length + 1) (lotSum r lot) := by
  have := Bd.sum (n := n) (l := lot.map fun m => r.getD m 0) (fun q hq => by
    obtain ⟨m, _, rfl⟩ := List.mem_map.mp hq
    show Bd n (r.getD m 0)
    rw [List.getD_eq_getElem?_getD]
    cases e : r[m]? with
    | none => exact Bd.zero.mono hn
    | some x => exact hr x (List.mem_of_getElem? e))
  rw [List.length_map] at this
  exact this
theorem lot_loop (k : Nat) (μ : Mu) (L M : D) (a2 : Option D) {r : List Rat} {n : Nat} (hr : ∀ q ∈ r, Bd n q) (hn : 1 ≤ n) (hn4 : n ≤ 400) : ∀ (ls : List (List Nat)) (acc : List Rat) (o5 o6 o7 : Option D), (∀ lot ∈ ls, lot.length ≤ 8 ∧ ∀ m ∈ lot, m < r.length) → acc.length + ls.length ≤ 1000 → ∃ o5' o6' o7',
    fo C (run C tbl (k + 3)) (.nm 5) (.cons (.asg (.nm 6) (.con (.tup [(.int 0), (.int 1)]))) (.cons (.for_ (.nm 7) (.iseq (.v 5)) (.cons (.asg (.nm 6) (.call f_plus [0, 1] (.cons (.v 6) (.cons (.op .idx (.cons (.v 3) (.cons (.v 7) .nil))) .nil)))) .nil)) (.cons (.ex (.mop .append (.v 4) (.cons (.v 6) .nil))) .nil))) (fun _ => true) (ls.map natl) [some L, some M, a2, some (row r), some (.ref μ.length), o5, o6, o7] (μ ++ [acc.map fr])
      = .next [some L, some M, a2, some (row r), some (.ref μ.length), o5', o6', o7'] (μ ++ [(acc ++ ls.map (lotSum r)).map fr])
  | [], acc, o5, o6, o7, _, _ => ⟨o5, o6, o7, by rw [List.map_nil, List.map_nil, List.append_nil, fo_nil, if_pos rfl]⟩
  | lot :: ls, acc, o5, o6, o7, h, hz => by
    obtain ⟨h1, h2⟩ := h lot (List.mem_cons_self ..)
    rw [List.length_cons] at hz
    obtain ⟨o', e⟩ := mark_loop k (μ ++ [acc.map fr]) L M a2 (some (.ref μ.length)) (some (natl lot)) hr hn lot 0 1 o7 h2 Bd.zero (by have := Nat.mul_le_mul (show n + 1 ≤ 401 by omega) h1; omega) (by omega)
    rw [Rat.zero_add, fr_zero] at e
    obtain ⟨o5', o6', o7', ih⟩ := lot_loop k μ L M a2 hr hn hn4 ls (acc ++ [lotSum r lot]) (some (natl lot)) (some (fr (lotSum r lot))) o' (fun x hx => h x (List.mem_cons_of_mem _ hx)) (by rw [List.length_append]; show acc.length + 1 + _ ≤ _; omega)
    have ap := append_app (μ := μ) (xs := acc.map fr) (d := fr (lotSum r lot)) (by rw [List.length_map]; omega)
    have er : acc.map fr ++ [fr (lotSum r lot)] = (acc ++ [lotSum r lot]).map fr := by rw [List.map_append]; rfl
    rw [er] at ap
    refine ⟨o5', o6', o7', ?_⟩
    have ee : acc ++ (lot :: ls).map (lotSum r) = acc ++ [lotSum r lot] ++ ls.map (lotSum r) := by simp
    rw [ee, ← ih, List.map_cons, fo_cons, if_pos rfl]
    have l2 : ∀ x : Option (D × Mu), lift2 x = match x with | some (r, μ) => .ok r μ | none => .err := fun _ => rfl
    simp [srcS_natl, e, ap, l2]
/-- the cells of joined_by: the list of rows, the rows -/
def refsD (n j : Nat) : List D := (List.range j).map fun i => .ref (n + 1 + i)
def jst (μ : Mu) (dn : List (List Rat)) : Mu := μ ++ (refsD μ.length dn.length :: dn.map fun r => r.map fr)
theorem jst_len (μ : Mu) (dn : List (List Rat)) : (jst μ dn).length = μ.length + 1 + dn.length := by
  unfold jst
  rw [List.length_append, List.length_cons, List.length_map]
  omega
theorem jst_step (μ : Mu) (dn : List (List Rat)) (r : List Rat) (h : dn.length ≤ 1000) : mopS (jst μ dn ++ [r.map fr]) .append (.ref μ.length) [.ref (jst μ dn).length] = some (.none, jst μ (dn ++ [r])) := by
  have g : (jst μ dn ++ [r.map fr])[μ.length]? = some (refsD μ.length dn.length) := by
    unfold jst
    rw [List.append_assoc, List.getElem?_append_right (Nat.le_refl _), Nat.sub_self]; rfl
  show (((jst μ dn ++ [r.map fr])[μ.length]?).bind fun xs => if xs.length < LIM then some (D.none, (jst μ dn ++ [r.map fr]).set μ.length (xs ++ [.ref (jst μ dn).length])) else none) = _
  rw [g]
  show (if (refsD μ.length dn.length).length < LIM then _ else _) = _
  rw [if_pos (by unfold refsD LIM; rw [List.length_map, List.length_range]; omega)]
  congr 2
  rw [jst_len]
  unfold jst
  rw [List.append_assoc, List.set_append_right _ _ (Nat.le_refl _), Nat.sub_self, List.length_append]
  show μ ++ _ = μ ++ _
  congr 1
  show (refsD μ.length dn.length ++ [D.ref (μ.length + 1 + dn.length)]) :: (dn.map (fun r => r.map fr) ++ [r.map fr]) = refsD μ.length (dn.length + 1) :: _
  rw [List.map_append]
  congr 1
  unfold refsD
  rw [List.range_succ, List.map_append]; rfl
theorem join_loop (k : Nat) (μ : Mu) (L : D) (lots : List (List Nat)) {n w : Nat} (hn : 1 ≤ n) (hn4 : n ≤ 400) (hlots : lots.length ≤ 1000 ∧ ∀ lot ∈ lots, lot.length ≤ 8 ∧ ∀ m ∈ lot, m < w) : ∀ (rs dn : List (List Rat)) (o3 o4 o5 o6 o7 : Option D), (∀ r ∈ rs, r.length = w ∧ ∀ q ∈ r, Bd n q) → dn.length + rs.length ≤ 1000 → ∃ o3' o4' o5' o6' o7',
    fo C (run C tbl (k + 3)) (.nm 3) (.cons (.asg (.nm 4) (.cell (.op .lst .nil))) (.cons (.for_ (.nm 5) (.iseq (.v 1)) (.cons (.asg (.nm 6) (.con (.tup [(.int 0), (.int 1)]))) (.cons (.for_ (.nm 7) (.iseq (.v 5)) (.cons (.asg (.nm 6) (.call f_plus [0, 1] (.cons (.v 6) (.cons (.op .idx (.cons (.v 3) (.cons (.v 7) .nil))) .nil)))) .nil)) (.cons (.ex (.mop .append (.v 4) (.cons (.v 6) .nil))) .nil)))) (.cons (.ex (.mop .append (.v 2) (.cons (.v 4) .nil))) .nil))) (fun _ => true) (rs.map row) [some L, some (lotsD lots), some (.ref μ.length), o3, o4, o5, o6, o7] (jst μ dn)
      = .next [some L, some (lotsD lots), some (.ref μ.length), o3', o4', o5', o6', o7'] (jst μ (dn ++ joinedL rs lots))
  | [], dn, o3, o4, o5, o6, o7, _, _ => ⟨o3, o4, o5, o6, o7, by rw [List.map_nil, fo_nil, if_pos rfl]; simp [joinedL]⟩
  | r :: rs, dn, o3, o4, o5, o6, o7, h, hz => by
    obtain ⟨h1, h2⟩ := h r (List.mem_cons_self ..)
    rw [List.length_cons] at hz
    obtain ⟨o5a, o6a, o7a, e⟩ := lot_loop k (jst μ dn) L (lotsD lots) (some (.ref μ.length)) h2 hn hn4 lots [] o5 o6 o7 (fun lot hl => ⟨(hlots.2 lot hl).1, fun m hm => by rw [h1]; exact (hlots.2 lot hl).2 m hm⟩) (by have := hlots.1; show 0 + _ ≤ _; omega)
    rw [List.nil_append] at e
    obtain ⟨o3', o4', o5', o6', o7', ih⟩ := join_loop k μ L lots hn hn4 hlots rs (dn ++ [lots.map (lotSum r)]) (some (row r)) (some (.ref (jst μ dn).length)) o5a o6a o7a (fun x hx => h x (List.mem_cons_of_mem _ hx)) (by rw [List.length_append]; show dn.length + 1 + _ ≤ _; omega)
    have st := jst_step μ dn (lots.map (lotSum r)) (by omega)
    refine ⟨o3', o4', o5', o6', o7', ?_⟩
    have ee : dn ++ joinedL (r :: rs) lots = dn ++ [lots.map (lotSum r)] ++ joinedL rs lots := by simp [joinedL]
    rw [ee, ← ih, List.map_cons, fo_cons, if_pos rfl]
    clear ih ee
    generalize lots.map (lotSum r) = R at e st ⊢
    have l2 : ∀ x : Option (D × Mu), lift2 x = match x with | some (r, μ) => .ok r μ | none => .err := fun _ => rfl
    have lst : ∀ (μ : Mu), (lift ((opS C μ .lst []).bind prN) μ) = .ok [] μ := fun μ => rfl
    rw [show (([] : List Rat).map fr) = [] from rfl] at e
    simp [lst, srcS_lots, e, st, l2]
theorem tab_refs (n f : Nat) (μ : Mu) (dn : List (List Rat)) (hm : ∀ i, i < dn.length → μ[n + 1 + i]? = (dn.map fun r => r.map fr)[i]?) : ∀ j, j ≤ dn.length → D.offL n (tabD n μ (f + 1)) (refsD n j) = some ((dn.take j).map row)
  | 0, _ => by simp [refsD, D.offL]
  | j + 1, h => by
    have ih := tab_refs n f μ dn hm j (by omega)
    have app : ∀ xs ys : List D, ∀ as bs, D.offL n (tabD n μ (f + 1)) xs = some as → D.offL n (tabD n μ (f + 1)) ys = some bs → D.offL n (tabD n μ (f + 1)) (xs ++ ys) = some (as ++ bs) := by
      intro xs
      induction xs with
      | nil => intro ys as bs h1 h2; cases h1; exact h2
      | cons x xs ih =>
        intro ys as bs h1 h2
        obtain ⟨a, q1, q2⟩ := Option.bind_eq_some_iff.mp (show ((D.off n (tabD n μ (f + 1)) x).bind fun a => (D.offL n (tabD n μ (f + 1)) xs).map fun b => a :: b) = some as from h1)
        obtain ⟨b, q3, rfl⟩ := Option.map_eq_some_iff.mp q2
        show ((D.off n (tabD n μ (f + 1)) x).bind fun a => (D.offL n (tabD n μ (f + 1)) (xs ++ ys)).map fun b => a :: b) = _
        rw [q1, ih ys b bs q3 h2]; rfl
    have h1 : D.off n (tabD n μ (f + 1)) (.ref (n + 1 + j)) = some (row (dn[j]'(by omega))) := by
      show (if n + 1 + j < n then some (D.ref (n + 1 + j)) else tabD n μ (f + 1) (n + 1 + j)) = _
      rw [if_neg (by omega)]
      show (match μ[n + 1 + j]? with
        | some xs => (D.offL n (tabD n μ f) xs).map D.lst
        | none => none) = _
      rw [hm j (by omega), List.getElem?_map, List.getElem?_eq_getElem (by omega)]
      show (D.offL n _ ((dn[j]'(by omega)).map fr)).map D.lst = _
      rw [off_row]; rfl
    have e1 : refsD n (j + 1) = refsD n j ++ [.ref (n + 1 + j)] := by
      unfold refsD
      rw [List.range_succ, List.map_append]; rfl
    rw [e1, app _ _ _ [row (dn[j]'(by omega))] ih (by
      show ((D.off n (tabD n μ (f + 1)) (.ref (n + 1 + j))).bind fun a => some [a]) = _
      rw [h1]; rfl)]
    rw [List.take_succ_eq_append_getElem (by omega), List.map_append]; rfl
theorem fin_joined (μ : Mu) (dn : List (List Rat)) : leave μ (.ret (.tup [.str (PySem.Str.ofString "look"), .ref μ.length]) (jst μ dn)) = .ok (lookD dn) μ := by
  show fin μ _ (jst μ dn) .ok = _
  unfold fin
  rw [if_neg (by rw [jst_len]; omega)]
  have hc : ∀ i, i < μ.length → (jst μ dn)[i]? = μ[i]? ∨ ∃ xs, (jst μ dn)[i]? = some xs ∧ D.undL μ.length xs = true := fun i hi => .inl (List.getElem?_append_left hi)
  split
  · have g : (jst μ dn)[μ.length]? = some (refsD μ.length dn.length) := by
      unfold jst
      rw [List.getElem?_append_right (Nat.le_refl _), Nat.sub_self]; rfl
    have hm : ∀ i, i < dn.length → (jst μ dn)[μ.length + 1 + i]? = (dn.map fun r => r.map fr)[i]? := fun i hi => by
      unfold jst
      rw [List.getElem?_append_right (by omega), show μ.length + 1 + i - μ.length = i + 1 by omega, List.getElem?_cons_succ]
    have h1 : D.off μ.length (tabD μ.length (jst μ dn) FUEL) (.ref μ.length) = some (rows dn) := by
      show (if μ.length < μ.length then some (D.ref μ.length) else tabD μ.length (jst μ dn) 8 μ.length) = _
      rw [if_neg (Nat.lt_irrefl _)]
      show (match (jst μ dn)[μ.length]? with
        | some xs => (D.offL μ.length (tabD μ.length (jst μ dn) 7) xs).map D.lst
        | none => none) = _
      rw [g]
      show (D.offL μ.length (tabD μ.length (jst μ dn) (6 + 1)) (refsD μ.length dn.length)).map D.lst = _
      rw [tab_refs μ.length 6 (jst μ dn) dn hm dn.length (Nat.le_refl _), List.take_length]; rfl
    have ho : D.off μ.length (tabD μ.length (jst μ dn) FUEL) (.tup [.str (PySem.Str.ofString "look"), .ref μ.length]) = some (lookD dn) := by
      show ((((D.off μ.length _ (.ref μ.length)).bind fun a => some [a]).map fun b => D.str (PySem.Str.ofString "look") :: b)).map D.tup = _
      rw [h1]; rfl
    rw [ho]
    show Res.ok (lookD dn) ((jst μ dn).take μ.length) = _
    unfold jst
    rw [List.take_left']
    rfl
  · rename_i h
    exact absurd hc h
theorem joined_by_ok (k : Nat) (μ : Mu) {l : List (List Rat)} {n w : Nat} (hl : LookOk n w l) (hn0 : 1 ≤ n) (hn : n ≤ 400) (lots : List (List Nat)) (hlots : lots.length ≤ 1000 ∧ ∀ lot ∈ lots, lot.length ≤ 8 ∧ ∀ m ∈ lot, m < w) : run C tbl (k + 4) f_joined_by [lookD l, lotsD lots] μ = .ok (lookD (joinedL l lots)) μ := by
  have a1 := hl.len
  obtain ⟨o3, o4, o5, o6, o7, e⟩ := join_loop k μ (lookD l) lots hn0 hn hlots l [] none none none none none (fun r hr => ⟨(hl.row r hr).1, Bd_look hl r hr⟩) (by show 0 + _ ≤ _; omega)
  rw [List.nil_append] at e
  have j0 : jst μ [] = μ ++ [[]] := rfl
  rw [j0] at e
  have f := fin_joined μ (joinedL l lots)
  have lst : ∀ (μ : Mu), (lift ((opS C μ .lst []).bind prN) μ) = .ok [] μ := fun μ => rfl
  rw [run_joined_by]
  simp [call1, df_joined_by, b_joined_by, lst, e, f]
end PyE
set_option maxRecDepth 100000
namespace PyE
open PySem
@[simp] theorem tyIs_natl_tlist (sub : Fid → Fid → Bool) (l : List Nat) : tyIs sub (natl l) .tlist = some true := (rfl)
@[simp] theorem tyIs_lots_tlist (sub : Fid → Fid → Bool) (l : List (List Nat)) : tyIs sub (lotsD l) .tlist = some true := (rfl)
theorem len_natl {C : Cfg} (μ : Mu) (l : List Nat) : opR C .len [natl l] μ = .ok (.int (l.length : Int)) μ := by rw [natl, opR_len_lst, List.length_map]
theorem idx_natl {C : Cfg} {μ : Mu} {l : List Nat} {i : Nat} (h : i < l.length) : opR C .idx [natl l, .int (i : Int)] μ = .ok (.int ((l[i] : Nat) : Int)) μ := opR_idx_lst (by rw [List.getElem?_map, List.getElem?_eq_getElem h]; rfl)
def LotOk (many : Nat) (l : List Nat) : Prop := (∀ x ∈ l, x < many) ∧ l.Pairwise (· < ·)
theorem is_lot_of_ok (k : Nat) (μ : Mu) {l : List Nat} {many : Nat} (h : LotOk many l) (hl : l.length ≤ 1000) : run C tbl (k + 2) f_is_lot_of [natl l, .int (many : Int)] μ = .ok (.bl true) μ := by
  have c1 : cm C (run C tbl (k + 1)) (.nm 3) .nil (.and_ (.call f_is_whole [0] (.cons (.v 3) .nil)) (.chain .le .lt (.con (.int 0)) (.v 3) (.v 1))) [some (natl l), some (.int (many : Int)), none, none] (fun _ => true) (l.map fun x : Nat => .int (x : Int)) μ = .ok (l.map fun x : Nat => .bl ((fun _ => true) x)) μ := by
    refine cm_map rfl fun x hx => ?_
    have h1 : (0 : Int) ≤ (x : Int) := by omega
    have h2 := h.1 x hx
    simp [wipe, Tg.slots, is_whole_int, h1, h2]
  have sr : srcR2 (.int 1) (.int (l.length : Int)) = some ⟨(List.range (l.length - 1)).map fun k : Nat => .int (1 + (k : Int)), []⟩ := by
    show (if (l.length : Int) - 1 ≤ LIM ∧ rng62 1 = true ∧ rng62 (l.length : Int) = true then some (⟨rangeD 1 ((l.length : Int) - 1).toNat, []⟩ : Src) else none) = _
    rw [if_pos ⟨by unfold LIM; omega, by decide, by unfold rng62; rw [decide_eq_true (by omega), decide_eq_true (by omega)]; rfl⟩]
    rw [show ((l.length : Int) - 1).toNat = l.length - 1 by omega]
    rfl
  have c2 : cm C (run C tbl (k + 1)) (.nm 2) .nil (.op .lt (.cons (.op .idx (.cons (.v 0) (.cons (.op .sub (.cons (.v 2) (.cons (.con (.int 1)) .nil))) .nil))) (.cons (.op .idx (.cons (.v 0) (.cons (.v 2) .nil))) .nil))) [some (natl l), some (.int (many : Int)), none, none] (fun _ => true) ((List.range (l.length - 1)).map fun k : Nat => .int (1 + (k : Int))) μ = .ok ((List.range (l.length - 1)).map fun x : Nat => .bl ((fun _ => true) x)) μ := by
    refine cm_map rfl fun x hx => ?_
    have hx := List.mem_range.mp hx
    have e1 : opR C .idx [natl l, .int (1 + (x : Int) - 1)] μ = .ok (.int ((l[x]'(by omega) : Nat) : Int)) μ := by rw [show (1 + (x : Int) - 1) = (x : Int) by omega]; exact idx_natl (by omega)
    have e2 : opR C .idx [natl l, .int (1 + (x : Int))] μ = .ok (.int ((l[x + 1]'(by omega) : Nat) : Int)) μ := by rw [show (1 + (x : Int)) = ((x + 1 : Nat) : Int) by omega]; exact idx_natl (by omega)
    have h3 : l[x]'(by omega) < l[x + 1]'(by omega) := (List.pairwise_iff_getElem.mp h.2) x (x + 1) (by omega) (by omega) (by omega)
    simp only [wipe, Tg.slots, setT_nm, lift_some, bind_ok, eE_op, eA_cons, eA_nil, eE_v, eE_con, List.set, getV_zero, getV_succ, opR_sub, e1, e2]
    simp [h3]
  rw [run_is_lot_of]
  rw [show natl l = .lst (l.map fun x : Nat => .int (x : Int)) from rfl] at c1 c2 ⊢
  simp only [call1, df_is_lot_of, b_is_lot_of]
  simp [c1, sr, c2]
theorem isort_sorted : ∀ {l : List Int}, l.Pairwise (· ≤ ·) → isort l = l
  | [], _ => rfl
  | i :: l, h => by
    have h' := List.pairwise_cons.mp h
    rw [isort, isort_sorted h'.2]
    cases l with
    | nil => rfl
    | cons j l => rw [insI, if_pos (h'.1 j (List.mem_cons_self ..))]
theorem sorted_lst {C : Cfg} (l : List Int) (h : l.length < 64) (μ : Mu) : opR C .sorted [.lst (l.map .int)] μ = .ok (.lst ((isort l).map .int)) μ := by
  show lift ((((some (l.map D.int)).bind fun xs => (asInts xs).bind fun l => if l.length < 64 then some (PR.new ((isort l).map .int)) else none)).map prD) μ = _
  have : asInts (l.map D.int) = some l := by
    have := asInts_map (fun x : Int => x) l
    rw [List.map_id'] at this
    exact this
  simp [this, h, prD]
theorem lrange_nat {C : Cfg} (n : Nat) (h : n ≤ 1000000) (μ : Mu) : opR C .lrange [.int (n : Int)] μ = .ok (natl (List.range n)) μ := by
  show lift ((if (n : Int) ≤ LIM ∧ -(2 ^ 62) ≤ (n : Int) then some (PR.new ((List.range (n : Int).toNat).map fun k : Nat => .int (k : Int))) else none).map prD) μ = _
  rw [if_pos ⟨by unfold LIM; omega, by omega⟩]
  rfl
theorem okd_natl (l : List Nat) : okd 60 (natl l) = true := by
  rw [natl, okd_lst]
  exact okdL_map fun x _ => okd_int _ _
theorem eqd_natl (l m : List Nat) : eqd (natl l) (natl m) = true ↔ l = m := by
  rw [natl, natl, eqd_lst]
  exact eqdL_map (fun x y => by rw [eqd_int, decide_eq_true_iff]; omega) l m
theorem ne_nil_natl {C : Cfg} {l : List Nat} (h : l ≠ []) (μ : Mu) : opR C .ne [natl l, .lst []] μ = .ok (.bl true) μ := by
  rw [opR_ne (okd_natl l) (by simp)]
  cases l with
  | nil => exact absurd rfl h
  | cons x l => rfl
structure PartsOk (many : Nat) (ls : List (List Nat)) : Prop where
  lot : ∀ l ∈ ls, LotOk many l ∧ l ≠ [] ∧ l.length ≤ 1000
  ne : ls ≠ []
  len : ls.flatten.length < 64
  all : isort (ls.flatten.map fun x : Nat => (x : Int)) = (List.range many).map fun x : Nat => (x : Int)
theorem are_parts_ok (k : Nat) (μ : Mu) {ls : List (List Nat)} {many : Nat} (h : PartsOk many ls) (hm : many ≤ 1000) : run C tbl (k + 3) f_are_parts [lotsD ls, .int (many : Int)] μ = .ok (.bl true) μ := by
  have c1 : cm C (run C tbl (k + 2)) (.nm 2) .nil (.and_ (.call f_is_lot_of [0, 1] (.cons (.v 2) (.cons (.v 1) .nil))) (.op .ne (.cons (.v 2) (.cons (.op .lst .nil) .nil)))) [some (lotsD ls), some (.int (many : Int)), none] (fun _ => true) (ls.map natl) μ = .ok (ls.map fun x => .bl ((fun _ => true) x)) μ := by
    refine cm_map rfl fun l hl => ?_
    obtain ⟨h1, h2, h3⟩ := h.lot l hl
    simp [wipe, Tg.slots, is_lot_of_ok k μ h1 h3, ne_nil_natl h2]
  have fl : (ls.map fun l => l.map fun x : Nat => D.int (x : Int)).flatten = (ls.flatten.map fun x : Nat => (x : Int)).map .int := by
    rw [List.map_map, List.map_flatten]; rfl
  have s2 := sum2_lst (C := C) (fun l : List Nat => l.map fun x : Nat => D.int (x : Int)) ls h.ne (by rw [fl, List.length_map, List.length_map]; have := h.len; omega) μ
  rw [fl] at s2
  have so := sorted_lst (C := C) (ls.flatten.map fun x : Nat => (x : Int)) (by rw [List.length_map]; exact h.len) μ
  rw [h.all] at so
  have s2' : opR C .sum2 [lotsD ls, .lst []] μ = .ok (.lst ((ls.flatten.map fun x : Nat => (x : Int)).map .int)) μ := s2
  have so' : opR C .sorted [.lst ((ls.flatten.map fun x : Nat => (x : Int)).map .int)] μ = .ok (natl (List.range many)) μ := so.trans (by rw [natl, List.map_map]; rfl)
  have eq : opR C .eq [natl (List.range many), natl (List.range many)] μ = .ok (.bl true) μ := by
    rw [opR_eq (okd_natl _) (okd_natl _), (eqd_natl _ _).mpr rfl]
  generalize (ls.flatten.map fun x : Nat => (x : Int)).map D.int = F at s2' so'
  rw [run_are_parts]
  simp only [call1, df_are_parts, b_are_parts]
  simp [srcS_lots, c1, s2', so', lrange_nat many (by omega), eq]
theorem marks_joined_ok (k : Nat) (μ : Mu) {l : List (List Rat)} {n w : Nat} (hl : LookOk n w l) (hn0 : 1 ≤ n) (hn : n ≤ 400) {lots : List (List Nat)} (h : PartsOk w lots) (hlots : lots.length ≤ 1000 ∧ ∀ lot ∈ lots, lot.length ≤ 8 ∧ ∀ m ∈ lot, m < w) : run C tbl (k + 8) f_marks_joined [lookD l, lotsD lots] μ = .ok (lookD (joinedL l lots)) μ := by
  rw [run_marks_joined]
  simp [call1, df_marks_joined, b_marks_joined, check_look_ok k μ hl hn, marks_of_ok (k + 6) μ hl, are_parts_ok (k + 4) μ h (by have := hl.wid; omega), joined_by_ok (k + 3) μ hl hn0 hn lots hlots]
theorem both_looks_ok (k : Nat) (μ : Mu) {l m : List (List Rat)} {n n' w w' : Nat} (hl : LookOk n w l) (hm : LookOk n' w' m) (hn : n ≤ 400) (hn' : n' ≤ 400) (h : l.length = m.length) (hw : w * w' ≤ 8) : run C tbl (k + 9) f_both_looks [lookD l, lookD m] μ = .ok (lookD (bothL l m)) μ := by
  have mu := mulI (C := C) (w : Int) (w' : Int) (by have := hl.wid; omega) (by have := hm.wid; omega) μ
  have hw2 : ¬ ((8 : Int) < (w : Int) * (w' : Int)) := by
    have : ((w * w' : Nat) : Int) ≤ 8 := by omega
    rw [Int.natCast_mul] at this
    omega
  rw [run_both_looks]
  simp [call1, df_both_looks, b_both_looks, check_two_ok k μ hl hm hn hn' h, marks_of_ok (k + 7) μ hl, marks_of_ok (k + 7) μ hm, mu, hw2, both_by_ok (k + 4) μ hl hm hn hn' h]
theorem either_look_ok (k : Nat) (μ : Mu) {l m : List (List Rat)} {t : Rat} {n n' w w' : Nat} (hl : LookOk n w l) (hm : LookOk n' w' m) (hn : n ≤ 400) (hn' : n' ≤ 400) (h : l.length = m.length) (ht : Bd 400 t) (t0 : 0 ≤ t) (t1 : t ≤ 1) (hw : w + w' ≤ 8) : run C tbl (k + 9) f_either_look [lookD l, lookD m, fr t] μ = .ok (lookD (eitherL t l m)) μ := by
  have le : run C tbl (k + 8) f_is_less [.tup [.int 1, .int 1], fr t] μ = .ok (.bl (decide (1 < t))) μ := is_less_ok (k + 7) μ (a := 1) (b := t) (Bd.one.mono (by decide)) (ht.mono (by decide))
  rw [decide_eq_false (Rat.not_lt.mpr t1)] at le
  have hw2 : ¬ ((8 : Int) < (w : Int) + (w' : Int)) := by omega
  rw [run_either_look]
  simp [call1, df_either_look, b_either_look, check_two_ok k μ hl hm hn hn' h, is_amount_ok (k + 5) μ (ht.mono (n := 4000) (by decide)), t0, le, marks_of_ok (k + 7) μ hl, marks_of_ok (k + 7) μ hm, hw2, either_by_ok (k + 4) μ hl hm hn hn' ht h]
end PyE
set_option maxRecDepth 100000
namespace PyE
open PySem
theorem S_append (f : Nat → Rat) (m : Nat) : ∀ n, S (m + n) f = S m f + S n fun j => f (m + j)
  | 0 => by rw [S_zero, Nat.add_zero, Rat.add_zero]
  | n + 1 => by rw [← Nat.add_assoc, S_succ, S_append f m n, S_succ, Rat.add_assoc]
theorem S_prod (f : Nat → Rat) (n : Nat) : ∀ m, S (m * n) f = S m fun a => S n fun c => f (a * n + c)
  | 0 => by rw [Nat.zero_mul, S_zero, S_zero]
  | m + 1 => by rw [Nat.succ_mul, S_append, S_prod f n m, S_succ]
theorem S_nn {n : Nat} {f : Nat → Rat} (h : ∀ i, i < n → 0 ≤ f i) : 0 ≤ S n f := by
  have := S_le (n := n) (f := fun _ => 0) (g := f) h
  rw [S_zero'] at this
  exact this
theorem getD_append_l {α : Type} {l m : List α} {i : Nat} {d : α} (h : i < l.length) : (l ++ m).getD i d = l.getD i d := by
  rw [List.getD_eq_getElem?_getD, List.getD_eq_getElem?_getD, List.getElem?_append_left h]
theorem getD_append_r {α : Type} {l m : List α} {i : Nat} {d : α} : (l ++ m).getD (l.length + i) d = m.getD i d := by
  rw [List.getD_eq_getElem?_getD, List.getD_eq_getElem?_getD, List.getElem?_append_right (by omega), Nat.add_sub_cancel_left]
theorem bothR_at (q : List Rat) : ∀ (r : List Rat) (a c : Nat), a < r.length → c < q.length → (bothR r q).getD (a * q.length + c) 0 = r.getD a 0 * q.getD c 0
  | x :: r, 0, c, _, hc => by
    unfold bothR
    rw [List.flatMap_cons, Nat.zero_mul, Nat.zero_add, getD_append_l (by rw [List.length_map]; exact hc), getD_map' _ _ _ 0 _ hc]; rfl
  | x :: r, a + 1, c, ha, hc => by
    have ih := bothR_at q r a c (by simpa using ha) hc
    unfold bothR at ih ⊢
    rw [List.flatMap_cons, show (a + 1) * q.length + c = (q.map fun y => x * y).length + (a * q.length + c) by rw [List.length_map, Nat.succ_mul]; omega, getD_append_r, ih]; rfl
theorem getD_zip {α β : Type} {l : List α} {m : List β} {i : Nat} (a : α) (b : β) (h1 : i < l.length) (h2 : i < m.length) : (l.zip m).getD i (a, b) = (l.getD i a, m.getD i b) := by
  rw [List.getD_eq_getElem?_getD, List.getD_eq_getElem?_getD, List.getD_eq_getElem?_getD, List.getElem?_eq_getElem (by rw [List.length_zip]; omega), List.getElem?_eq_getElem h1, List.getElem?_eq_getElem h2, List.getElem_zip]; rfl
theorem LookOk.rowlen {n w s : Nat} {l : List (List Rat)} (h : LookOk n w l) (hl : l.length = s) {i : Nat} (hi : i < s) : (l.getD i []).length = w := by
  have hm : l.getD i [] ∈ l := by
    rw [List.getD_eq_getElem?_getD, List.getElem?_eq_getElem (by omega)]
    exact List.getElem_mem _
  exact (h.row _ hm).1
theorem bothL_at {l m : List (List Rat)} {n n' w w' s i a c : Nat} (hl : LookOk n w l) (hm : LookOk n' w' m) (h1 : l.length = s) (h2 : m.length = s) (hi : i < s) (ha : a < w) (hc : c < w') : at2 (bothL l m) i (a * w' + c) = at2 l i a * at2 m i c := by
  unfold at2 bothL
  rw [getD_map' _ _ _ ([], []) _ (by rw [List.length_zip]; omega), getD_zip _ _ (by omega) (by omega)]
  have r1 := hl.rowlen h1 hi
  have r2 := hm.rowlen h2 hi
  have := bothR_at (m.getD i []) (l.getD i []) a c (by omega) (by omega)
  rw [r2] at this
  exact this
theorem eitherL_at1 {l m : List (List Rat)} {n n' w w' s i a : Nat} {t : Rat} (hl : LookOk n w l) (hm : LookOk n' w' m) (h1 : l.length = s) (h2 : m.length = s) (hi : i < s) (ha : a < w) : at2 (eitherL t l m) i a = t * at2 l i a := by
  unfold at2 eitherL
  rw [getD_map' _ _ _ ([], []) _ (by rw [List.length_zip]; omega), getD_zip _ _ (by omega) (by omega)]
  have r1 := hl.rowlen h1 hi
  unfold eitherR
  rw [getD_append_l (by rw [List.length_map, r1]; exact ha), getD_map' _ _ _ 0 _ (by rw [r1]; exact ha)]
theorem eitherL_at2 {l m : List (List Rat)} {n n' w w' s i a : Nat} {t : Rat} (hl : LookOk n w l) (hm : LookOk n' w' m) (h1 : l.length = s) (h2 : m.length = s) (hi : i < s) (ha : a < w') : at2 (eitherL t l m) i (w + a) = (1 - t) * at2 m i a := by
  unfold at2 eitherL
  rw [getD_map' _ _ _ ([], []) _ (by rw [List.length_zip]; omega), getD_zip _ _ (by omega) (by omega)]
  have r1 := hl.rowlen h1 hi
  have r2 := hm.rowlen h2 hi
  unfold eitherR
  rw [show w + a = ((l.getD i []).map fun x => t * x).length + a by rw [List.length_map, r1], getD_append_r, getD_map' _ _ _ 0 _ (by rw [r2]; exact ha)]
theorem gmax_scale {l : List Rat} (h : l ≠ []) {t : Rat} (ht : 0 ≤ t) : gmax (l.map fun x => t * x) = t * gmax l := gmax_map h (fun x => t * x) fun x y hxy => Rat.mul_le_mul_of_nonneg_left hxy ht
theorem pays_congr {l l' : List (List Rat)} {b b' : List Rat} {g : List (List Rat)} {m m' : Nat} (h : ∀ p ∈ g, dot (mulL b (col l m)) p = dot (mulL b' (col l' m')) p) : paysL l b g m = paysL l' b' g m' := List.map_congr_left h
theorem length_eitherL {t : Rat} {l m : List (List Rat)} {s : Nat} (h1 : l.length = s) (h2 : m.length = s) : (eitherL t l m).length = s := by unfold eitherL; rw [List.length_map, List.length_zip]; omega
theorem length_bothL {l m : List (List Rat)} {s : Nat} (h1 : l.length = s) (h2 : m.length = s) : (bothL l m).length = s := by unfold bothL; rw [List.length_map, List.length_zip]; omega
theorem worth_either {l m g : List (List Rat)} {b : List Rat} {n n' n2 w w' s : Nat} {t : Rat} (hl : LookOk n w l) (hm : LookOk n' w' m) (h1 : l.length = s) (h2 : m.length = s) (hb : b.length = s) (hg : GameOk n2 s g) (t0 : 0 ≤ t) (t1 : 0 ≤ 1 - t) :
    worthL (eitherL t l m) b g (w + w') = t * worthL l b g w + (1 - t) * worthL m b g w' := by
  have le := length_eitherL (t := t) h1 h2
  rw [worthL_S, worthL_S, worthL_S, S_append, ← S_mul, ← S_mul]
  congr 1
  · refine S_congr fun a ha => ?_
    rw [← gmax_scale (pays_ne hg) t0]
    congr 1
    unfold paysL
    rw [List.map_map]
    refine List.map_congr_left fun p hp => ?_
    show dot (mulL b (col (eitherL t l m) a)) p = t * dot (mulL b (col l a)) p
    rw [pay_S le hb (hg.row p hp).1, pay_S h1 hb (hg.row p hp).1, ← S_mul]
    refine S_congr fun i hi => ?_
    rw [eitherL_at1 hl hm h1 h2 hi ha]
    grind
  · refine S_congr fun a ha => ?_
    rw [← gmax_scale (pays_ne hg) t1]
    congr 1
    unfold paysL
    rw [List.map_map]
    refine List.map_congr_left fun p hp => ?_
    show dot (mulL b (col (eitherL t l m) (w + a))) p = (1 - t) * dot (mulL b (col m a)) p
    rw [pay_S le hb (hg.row p hp).1, pay_S h2 hb (hg.row p hp).1, ← S_mul]
    refine S_congr fun i hi => ?_
    rw [eitherL_at2 hl hm h1 h2 hi ha]
    grind
theorem worth_both {l m g : List (List Rat)} {b : List Rat} {n n' n2 w w' s : Nat} (hl : LookOk n w l) (hm : LookOk n' w' m) (h1 : l.length = s) (h2 : m.length = s) (hb : b.length = s) (hg : GameOk n2 s g) :
    worthL (bothL l m) b g (w * w') = S w fun a => worthL m (mulL b (col l a)) g w' := by
  have le := length_bothL h1 h2
  rw [worthL_S, S_prod]
  refine S_congr fun a ha => ?_
  rw [worthL_S]
  refine S_congr fun c hc => ?_
  congr 1
  refine pays_congr fun p hp => ?_
  have lm : (mulL b (col l a)).length = s := by rw [length_mulL (by rw [length_col, hb, h1]), hb]
  rw [pay_S le hb (hg.row p hp).1, pay_S h2 lm (hg.row p hp).1]
  refine S_congr fun i hi => ?_
  rw [bothL_at hl hm h1 h2 hi ha hc, mulL_at (by omega) (by rw [length_col]; omega), col_at (by omega)]
  grind
/-- scaled weights -/
theorem worth_scale {l g : List (List Rat)} {b : List Rat} {w n2 s : Nat} {c : Rat} (hl : l.length = s) (hb : b.length = s) (hg : GameOk n2 s g) (hc : 0 ≤ c) : worthL l (b.map fun x => c * x) g w = c * worthL l b g w := by
  rw [worthL_S, worthL_S, ← S_mul]
  refine S_congr fun m _ => ?_
  rw [← gmax_scale (pays_ne hg) hc]
  congr 1
  unfold paysL
  rw [List.map_map]
  refine List.map_congr_left fun p hp => ?_
  show dot (mulL (b.map fun x => c * x) (col l m)) p = c * dot (mulL b (col l m)) p
  rw [pay_S hl (by rw [List.length_map, hb]) (hg.row p hp).1, pay_S hl hb (hg.row p hp).1, ← S_mul]
  refine S_congr fun i hi => ?_
  rw [getD_map' _ _ _ 0 _ (by omega)]
  grind
theorem sum_zero_all : ∀ {l : List Rat}, (∀ q ∈ l, 0 ≤ q) → l.sum = 0 → ∀ q ∈ l, q = 0
  | [], _, _, q, hq => by simp at hq
  | x :: l, h, hs, q, hq => by
    rw [List.sum_cons] at hs
    have h1 := h x (List.mem_cons_self ..)
    have h2 := sum_nn (l := l) fun y hy => h y (List.mem_cons_of_mem _ hy)
    have hx : x = 0 := by grind
    have hl : l.sum = 0 := by grind
    rcases List.mem_cons.mp hq with rfl | hq
    · exact hx
    · exact sum_zero_all (fun y hy => h y (List.mem_cons_of_mem _ hy)) hl q hq
theorem worth_zero {l g : List (List Rat)} {b : List Rat} {w n2 s : Nat} (hl : l.length = s) (hb : b.length = s) (hg : GameOk n2 s g) (h : ∀ q ∈ b, q = 0) : worthL l b g w = 0 := by
  have e : b = b.map fun x => 0 * x := by
    conv => lhs; rw [← List.map_id b]
    refine List.map_congr_left fun q hq => ?_
    rw [h q hq, Rat.zero_mul]; rfl
  rw [e, worth_scale hl hb hg Rat.le_refl, Rat.zero_mul]
end PyE
set_option maxRecDepth 100000
namespace PyE
open PySem
theorem Bd_eq {a b : Rat} {n : Nat} (h : Bd n a) (e : a = b) : Bd n b := e ▸ h
theorem mem_getD {l : List Rat} {q : Rat} (h : q ∈ l) : ∃ i, i < l.length ∧ q = l.getD i 0 := by
  obtain ⟨i, hi, e⟩ := List.getElem_of_mem h
  exact ⟨i, hi, by rw [List.getD_eq_getElem?_getD, List.getElem?_eq_getElem hi]; exact e.symm⟩
theorem sum_flatMap_mul (q : List Rat) : ∀ r : List Rat, (bothR r q).sum = r.sum * q.sum
  | [] => by simp [bothR]
  | x :: r => by
    have ih := sum_flatMap_mul q r
    unfold bothR at ih ⊢
    rw [List.flatMap_cons, List.sum_append, ih, List.sum_cons]
    have : ∀ m : List Rat, (m.map fun y => x * y).sum = x * m.sum := fun m => by
      induction m with
      | nil => simp
      | cons y m ihm => rw [List.map_cons, List.sum_cons, ihm, List.sum_cons]; grind
    rw [this]
    grind
theorem look_both {l m : List (List Rat)} {n n' w w' s : Nat} (hl : LookOk n w l) (hm : LookOk n' w' m) (h1 : l.length = s) (h2 : m.length = s) (hw : w * w' ≤ 8) : LookOk (n + n') (w * w') (bothL l m) := by
  have a1 := hl.len
  refine ⟨by rw [length_bothL h1 h2]; omega, ⟨Nat.mul_pos hl.wid.1 hm.wid.1, hw⟩, fun r hr => ?_⟩
  obtain ⟨p, hp, rfl⟩ := List.mem_map.mp hr
  obtain ⟨r1, r2, r3⟩ := hl.row _ (List.of_mem_zip hp).1
  obtain ⟨q1, q2, q3⟩ := hm.row _ (List.of_mem_zip hp).2
  refine ⟨by rw [length_bothR, r1, q1], fun q hq => ?_, by rw [sum_flatMap_mul, r3, q3, Rat.mul_one]⟩
  unfold bothR at hq
  obtain ⟨x, hx, hq⟩ := List.mem_flatMap.mp hq
  obtain ⟨y, hy, rfl⟩ := List.mem_map.mp hq
  exact ⟨(r2 x hx).1.mul (q2 y hy).1, Rat.mul_nonneg (r2 x hx).2 (q2 y hy).2⟩
theorem sum_mul_left (c : Rat) : ∀ m : List Rat, (m.map fun y => c * y).sum = c * m.sum
  | [] => by simp
  | y :: m => by rw [List.map_cons, List.sum_cons, sum_mul_left c m, List.sum_cons]; grind
theorem look_either {l m : List (List Rat)} {n n' w w' s k : Nat} {t : Rat} (hl : LookOk n w l) (hm : LookOk n' w' m) (h1 : l.length = s) (h2 : m.length = s) (hw : w + w' ≤ 8) (ht : Bd k t) (hu : Bd k (1 - t)) (t0 : 0 ≤ t) (t1 : 0 ≤ 1 - t) : LookOk (k + n + n') (w + w') (eitherL t l m) := by
  have a1 := hl.len
  refine ⟨by rw [length_eitherL h1 h2]; omega, ⟨by have := hl.wid; omega, hw⟩, fun r hr => ?_⟩
  obtain ⟨p, hp, rfl⟩ := List.mem_map.mp hr
  obtain ⟨r1, r2, r3⟩ := hl.row _ (List.of_mem_zip hp).1
  obtain ⟨q1, q2, q3⟩ := hm.row _ (List.of_mem_zip hp).2
  refine ⟨by unfold eitherR; rw [List.length_append, List.length_map, List.length_map, r1, q1], fun q hq => ?_, ?_⟩
  · unfold eitherR at hq
    rcases List.mem_append.mp hq with hq | hq
    · obtain ⟨x, hx, rfl⟩ := List.mem_map.mp hq
      exact ⟨(ht.mul (r2 x hx).1).mono (by omega), Rat.mul_nonneg t0 (r2 x hx).2⟩
    · obtain ⟨x, hx, rfl⟩ := List.mem_map.mp hq
      exact ⟨(hu.mul (q2 x hx).1).mono (by omega), Rat.mul_nonneg t1 (q2 x hx).2⟩
  · unfold eitherR
    rw [List.sum_append, sum_mul_left, sum_mul_left, r3, q3]
    grind
/-- the chances behind a mark come to 1 -/
theorem bel_behind {l : List (List Rat)} {b : List Rat} {n n1 w s m : Nat} (h : LookOk n w l) (hb : BelOk n1 s b) (hl : l.length = s) (hn0 : 1 ≤ n) (h0 : dot b (col l m) ≠ 0) : BelOk ((n1 + n) + ((n1 + n + 1) * s + 1)) s (behindL l b m) := by
  have hp : 0 < dot b (col l m) := Rat.lt_of_le_of_ne (dot_nn h hb) (Ne.symm h0)
  have bm := Bd_mulL hb.bd (Bd_col (m := m) (Bd_look h) hn0)
  have lm : (mulL b (col l m)).length = s := by rw [length_mulL (by rw [length_col, hb.len, hl]), hb.len]
  have bw : Bd ((n1 + n + 1) * s + 1) (dot b (col l m)) := by
    have := Bd.sum bm
    rw [lm] at this
    exact this
  refine ⟨by unfold behindL; rw [List.length_map, lm], fun q hq => ?_, fun q hq => ?_, ?_⟩
  · obtain ⟨x, hx, rfl⟩ := List.mem_map.mp hq
    exact (bm x hx).div bw hp
  · obtain ⟨x, hx, rfl⟩ := List.mem_map.mp hq
    show 0 ≤ x / dot b (col l m)
    rw [Rat.div_def]
    exact Rat.mul_nonneg (mulL_nn hb.nn (col_nn h) x hx) (Rat.le_of_lt (Rat.inv_pos.mpr hp))
  · have : (behindL l b m) = (mulL b (col l m)).map fun y => (dot b (col l m))⁻¹ * y := by
      unfold behindL
      refine List.map_congr_left fun x _ => ?_
      rw [Rat.div_def, Rat.mul_comm]
    rw [this, sum_mul_left]
    exact Rat.inv_mul_cancel _ h0
/-- what a mark is worth by another look -/
def markV (l late : List (List Rat)) (b : List Rat) (g : List (List Rat)) (w2 m : Nat) : Rat := if dot b (col l m) = 0 then 0 else dot b (col l m) * worthL late (behindL l b m) g w2
theorem markV_eq {l late g : List (List Rat)} {b : List Rat} {n n1 n2 w w2 s m : Nat} (h : LookOk n w l) (hb : BelOk n1 s b) (hl : l.length = s) (hn0 : 1 ≤ n) (hg : GameOk n2 s g) (ht : late.length = s) : markV l late b g w2 m = worthL late (mulL b (col l m)) g w2 := by
  have lm : (mulL b (col l m)).length = s := by rw [length_mulL (by rw [length_col, hb.len, hl]), hb.len]
  unfold markV
  by_cases h0 : dot b (col l m) = 0
  · rw [if_pos h0]
    exact (worth_zero ht lm hg (sum_zero_all (mulL_nn hb.nn (col_nn h)) h0)).symm
  · rw [if_neg h0, ← worth_scale ht (bel_behind h hb hl hn0 h0).len hg (dot_nn h hb)]
    congr 1
    unfold behindL
    rw [List.map_map]
    conv => rhs; rw [← List.map_id (mulL b (col l m))]
    refine List.map_congr_left fun x _ => ?_
    show dot b (col l m) * (x / dot b (col l m)) = x
    rw [Rat.mul_comm, Rat.div_mul_cancel h0]
theorem by_marks_loop (k : Nat) (μ : Mu) {l late g : List (List Rat)} {b : List Rat} {n n1 n2 n3 w w2 s : Nat} (h : LookOk n w l) (hb : BelOk n1 s b) (hl : l.length = s) (hn0 : 1 ≤ n) (hg : GameOk n2 s g) (hlate : LookOk n3 w2 late) (ht : late.length = s) (hn3 : 1 ≤ n3) (hn : n + n1 ≤ 400) (hw2 : w2 ≤ 4)
    (hsz : n3 + ((n1 + n) + ((n1 + n + 1) * s + 1)) + n2 ≤ 70) (a8 a9 : List (Option D)) : ∀ (ms : List Nat) (acc : Rat) (c : Nat) (o5 o6 o7 : Option D), (∀ m ∈ ms, m < w) → Bd c acc → c + 1784 * ms.length ≤ 4000 → ∃ o5' o6' o7',
    fo C (run C tbl (k + 9)) (.tp [5, 6]) (.cons (.asg (.nm 7) (.call f_belief_behind [0, 1, 2] (.cons (.v 0) (.cons (.v 1) (.cons (.v 5) .nil))))) (.cons (.if_ (.op .notn (.cons (.v 7) .nil)) (.cons (.asg (.nm 4) (.call f__law_add [0, 1] (.cons (.v 4) (.cons (.call f__law_mul [0, 1] (.cons (.v 6) (.cons (.call f_worth [0, 1, 2] (.cons (.v 3) (.cons (.v 7) (.cons (.v 2) .nil)))) .nil))) .nil)))) .nil) .nil) .nil)) (fun _ => true)
      (ms.map fun m : Nat => .tup [.int (m : Int), fr (dot b (col l m))]) [some (lookD l), some (row b), some (gameD g), some (lookD late), some (fr acc), o5, o6, o7] μ
      = .next [some (lookD l), some (row b), some (gameD g), some (lookD late), some (fr (acc + (ms.map (markV l late b g w2)).sum)), o5', o6', o7'] μ
  | [], acc, c, o5, o6, o7, _, _, _ => ⟨o5, o6, o7, by rw [List.map_nil, fo_nil, if_pos rfl]; rw [show (([] : List Nat).map (markV l late b g w2)).sum = 0 from rfl, Rat.add_zero]⟩
  | m :: ms, acc, c, o5, o6, o7, hm, ha, hz => by
    have hmw := hm m (List.mem_cons_self ..)
    rw [List.length_cons, Nat.mul_succ] at hz
    have e1 := belief_behind_ok (k + 1) μ h hb hl hn hn0 hmw
    by_cases h0 : dot b (col l m) = 0
    · have mv : markV l late b g w2 m = 0 := if_pos h0
      have e1' : run C tbl (k + 9) f_belief_behind [lookD l, row b, .int (m : Int)] μ = .ok .none μ := by
        rw [e1, behindD, if_pos h0]
      obtain ⟨o5', o6', o7', ih⟩ := by_marks_loop k μ h hb hl hn0 hg hlate ht hn3 hn hw2 hsz a8 a9 ms acc c (some (.int (m : Int))) (some (fr (dot b (col l m)))) (some .none) (fun x hx => hm x (List.mem_cons_of_mem _ hx)) ha (by omega)
      refine ⟨o5', o6', o7', ?_⟩
      rw [List.map_cons, List.map_cons, List.sum_cons, mv, Rat.zero_add, ← ih, fo_cons, if_pos rfl]
      simp [e1']
    · have B := bel_behind h hb hl hn0 h0
      have hp : 0 < dot b (col l m) := Rat.lt_of_le_of_ne (dot_nn h hb) (Ne.symm h0)
      have mv : markV l late b g w2 m = dot b (col l m) * worthL late (behindL l b m) g w2 := if_neg h0
      have e1' : run C tbl (k + 9) f_belief_behind [lookD l, row b, .int (m : Int)] μ = .ok (row (behindL l b m)) μ := by
        rw [e1, behindD, if_neg h0]
      have e2 := worth_ok k μ hlate B hg ht hsz hn3
      have hs := h.len.2
      have bc : Bd 70 (dot b (col l m)) := by
        have bm := Bd.sum (Bd_mulL hb.bd (Bd_col (m := m) (Bd_look h) hn0))
        rw [length_mulL (by rw [length_col, hb.len, hl]), hb.len] at bm
        exact bm.mono (by omega)
      have bw : Bd 1713 (worthL late (behindL l b m) g w2) := by
        have := Bd.sum (n := 427) (l := (List.range w2).map fun m' => gmax (paysL late (behindL l b m) g m')) (fun q hq => by
          obtain ⟨m', _, rfl⟩ := List.mem_map.mp hq
          exact Bd_pays (m := m') hlate B hg ht hsz hn3 _ (gmax_mem (pays_ne hg)))
        rw [List.length_map, List.length_range] at this
        exact this.mono (by omega)
      have bp := bc.mul bw
      have e3 := law_mul_ok (k + 7) μ (bc.mono (n := 4000) (by decide)) (bw.mono (n := 4000) (by decide))
      have e4 := law_add_ok (k + 7) μ (ha.mono (n := 4000) (by omega)) (bp.mono (n := 4000) (by decide))
      obtain ⟨o5', o6', o7', ih⟩ := by_marks_loop k μ h hb hl hn0 hg hlate ht hn3 hn hw2 hsz a8 a9 ms (acc + dot b (col l m) * worthL late (behindL l b m) g w2) (c + (70 + 1713) + 1) (some (.int (m : Int))) (some (fr (dot b (col l m)))) (some (row (behindL l b m))) (fun x hx => hm x (List.mem_cons_of_mem _ hx)) (ha.add bp) (by omega)
      refine ⟨o5', o6', o7', ?_⟩
      rw [List.map_cons, List.map_cons, List.sum_cons, mv, ← Rat.add_assoc, ← ih, fo_cons, if_pos rfl]
      simp [e1', e2, e3, e4]
theorem enumD_range (f : Nat → D) (n : Nat) : enumD ((List.range n).map f) = (List.range n).map fun m : Nat => .tup [.int (m : Int), f m] := by
  unfold enumD
  rw [List.length_map, List.length_range, List.zipWith_map_right, List.zipWith_self]
theorem by_marks_ok (k : Nat) (μ : Mu) {l late g : List (List Rat)} {b : List Rat} {n n1 n2 n3 w w2 s : Nat} (h : LookOk n w l) (hb : BelOk n1 s b) (hl : l.length = s) (hn0 : 1 ≤ n) (hg : GameOk n2 s g) (hlate : LookOk n3 w2 late) (ht : late.length = s) (hn3 : 1 ≤ n3) (hn : n + n1 ≤ 400) (hw2 : w2 ≤ 4) (hw : w ≤ 2)
    (hsz : n3 + ((n1 + n) + ((n1 + n + 1) * s + 1)) + n2 ≤ 70) : run C tbl (k + 10) f__law_by_marks [lookD l, row b, gameD g, lookD late] μ = .ok (fr (S w fun m => worthL late (mulL b (col l m)) g w2)) μ := by
  obtain ⟨o5, o6, o7, e⟩ := by_marks_loop k μ h hb hl hn0 hg hlate ht hn3 hn hw2 hsz [] [] (List.range w) 0 1 none none none (fun m hm => List.mem_range.mp hm) Bd.zero (by rw [List.length_range]; omega)
  rw [Rat.zero_add, fr_zero, List.map_congr_left fun m _ => markV_eq (m := m) (w2 := w2) h hb hl hn0 hg ht] at e
  have z : srcE μ (row (chancesL l b w)) = some ⟨(List.range w).map fun m : Nat => .tup [.int (m : Int), fr (dot b (col l m))], []⟩ := by
    rw [row, chancesL, List.map_map, srcE_lst, enumD_range]; rfl
  rw [run__law_by_marks]
  simp [call1, df__law_by_marks, b__law_by_marks, chances_of_ok (k + 1) μ h hb hl hn hn0, z, e]
  rfl
end PyE
set_option maxRecDepth 100000
namespace PyE
open PySem
theorem S_lot (f : Nat → Rat) (lot : List Nat) : (lot.map f).sum = (lot.map f).sum := rfl
theorem sum_perm {l m : List Rat} (h : l.Perm m) : l.sum = m.sum := by
  induction h with
  | nil => rfl
  | cons x _ ih => rw [List.sum_cons, List.sum_cons, ih]
  | swap x y l => rw [List.sum_cons, List.sum_cons, List.sum_cons, List.sum_cons]; grind
  | trans _ _ h1 h2 => rw [h1, h2]
theorem perm_of_map {f : Nat → Int} (hf : ∀ x y, f x = f y → x = y) {l m : List Nat} (h : (l.map f).Perm (m.map f)) : l.Perm m := by
  have hc : ∀ a, (l.map f).count (f a) = l.count a := fun a => by
    rw [List.count, List.count, List.countP_map]
    refine List.countP_congr fun x _ => ?_
    simp only [Function.comp, beq_iff_eq]
    exact ⟨fun z => hf _ _ z, fun z => by rw [z]⟩
  have hc2 : ∀ a, (m.map f).count (f a) = m.count a := fun a => by
    rw [List.count, List.count, List.countP_map]
    refine List.countP_congr fun x _ => ?_
    simp only [Function.comp, beq_iff_eq]
    exact ⟨fun z => hf _ _ z, fun z => by rw [z]⟩
  refine List.perm_iff_count.mpr fun a => ?_
  rw [← hc, ← hc2]
  exact List.perm_iff_count.mp h (f a)
theorem PartsOk.perm {w : Nat} {ls : List (List Nat)} (h : PartsOk w ls) : ls.flatten.Perm (List.range w) := by
  refine perm_of_map (f := fun x : Nat => (x : Int)) (fun x y e => by omega) ?_
  have := isort_perm (ls.flatten.map fun x : Nat => (x : Int))
  rw [h.all] at this
  exact this.symm
theorem sum_flatten (f : Nat → Rat) : ∀ ls : List (List Nat), (ls.map fun lot => (lot.map f).sum).sum = (ls.flatten.map f).sum
  | [] => rfl
  | l :: ls => by rw [List.map_cons, List.sum_cons, sum_flatten f ls, List.flatten_cons, List.map_append, List.sum_append]
theorem PartsOk.sum {w : Nat} {ls : List (List Nat)} (h : PartsOk w ls) (f : Nat → Rat) : (ls.map fun lot => (lot.map f).sum).sum = S w f := by
  rw [sum_flatten]
  exact sum_perm (h.perm.map f)
theorem look_joined {l : List (List Rat)} {n w : Nat} {lots : List (List Nat)} (hl : LookOk n w l) (hn0 : 1 ≤ n) (h : PartsOk w lots) (hlots : lots.length ≤ 8 ∧ ∀ lot ∈ lots, lot.length ≤ 8 ∧ ∀ m ∈ lot, m < w) : LookOk ((n + 1) * 8 + 1) lots.length (joinedL l lots) := by
  refine ⟨by unfold joinedL; rw [List.length_map]; exact hl.len, ⟨List.length_pos_iff.mpr h.ne, hlots.1⟩, fun r hr => ?_⟩
  obtain ⟨q, hq, rfl⟩ := List.mem_map.mp hr
  obtain ⟨q1, q2, q3⟩ := hl.row q hq
  refine ⟨by rw [List.length_map], fun x hx => ?_, ?_⟩
  · obtain ⟨lot, hlot, rfl⟩ := List.mem_map.mp hx
    refine ⟨(Bd_lot (fun y hy => (q2 y hy).1) hn0 lot).mono (by have := Nat.mul_le_mul (Nat.le_refl (n + 1)) (hlots.2 lot hlot).1; omega), sum_nn fun y hy => ?_⟩
    obtain ⟨m, hm, rfl⟩ := List.mem_map.mp hy
    show 0 ≤ q.getD m 0
    rw [List.getD_eq_getElem?_getD]
    cases e : q[m]? with
    | none => exact Rat.le_refl
    | some z => exact (q2 z (List.mem_of_getElem? e)).2
  · have := h.sum (fun m => q.getD m 0)
    rw [← q1, ← sum_S, q3] at this
    exact this
theorem sum_lin {α : Type} (c : Rat) (f : α → Rat) : ∀ l : List α, (l.map fun x => c * f x).sum = c * (l.map f).sum
  | [] => by simp
  | x :: l => by rw [List.map_cons, List.sum_cons, sum_lin c f l, List.map_cons, List.sum_cons]; grind
theorem S_sum_swap {α : Type} (f : Nat → α → Rat) (n : Nat) : ∀ l : List α, S n (fun i => (l.map fun x => f i x).sum) = (l.map fun x => S n fun i => f i x).sum
  | [] => S_zero' n
  | x :: l => by
    rw [List.map_cons, List.sum_cons, ← S_sum_swap f n l, ← S_add]
    exact S_congr fun i _ => by rw [List.map_cons, List.sum_cons]
theorem joined_le {l g : List (List Rat)} {b : List Rat} {n n2 w s : Nat} {lots : List (List Nat)} (hl : LookOk n w l) (h1 : l.length = s) (hb : b.length = s) (hg : GameOk n2 s g) (h : PartsOk w lots) : worthL (joinedL l lots) b g lots.length ≤ worthL l b g w := by
  have lj : (joinedL l lots).length = s := by unfold joinedL; rw [List.length_map, h1]
  have e : worthL (joinedL l lots) b g lots.length = (lots.map fun lot => gmax (g.map fun p => (lot.map fun m => dot (mulL b (col l m)) p).sum)).sum := by
    unfold worthL
    congr 1
    refine List.ext_getElem (by simp) fun j hj1 hj2 => ?_
    have hj : j < lots.length := by simpa using hj1
    rw [List.getElem_map, List.getElem_map, List.getElem_range]
    congr 1
    unfold paysL
    refine List.map_congr_left fun p hp => ?_
    rw [pay_S lj hb (hg.row p hp).1]
    have : ∀ i, i < s → at2 (joinedL l lots) i j = lotSum (l.getD i []) lots[j] := fun i hi => by
      unfold at2 joinedL
      rw [getD_map' _ _ _ [] _ (by omega), getD_map' _ _ _ [] _ hj]
      congr 1
      rw [List.getD_eq_getElem?_getD, List.getElem?_eq_getElem hj]; rfl
    rw [S_congr (g := fun i => (lots[j].map fun m => b.getD i 0 * at2 l i m * p.getD i 0).sum) fun i hi => ?_]
    · rw [S_sum_swap]
      congr 1
      refine List.map_congr_left fun m _ => ?_
      exact (pay_S h1 hb (hg.row p hp).1).symm
    · rw [this i hi]
      have : (lots[j].map fun m => b.getD i 0 * at2 l i m * p.getD i 0) = lots[j].map fun m => (b.getD i 0 * p.getD i 0) * at2 l i m := List.map_congr_left fun m _ => by grind
      rw [this, sum_lin]
      show b.getD i 0 * (lots[j].map fun m => at2 l i m).sum * p.getD i 0 = _
      grind
  rw [e, worthL_S, ← h.sum]
  refine sum_le fun lot _ => ?_
  have hne : (g.map fun p => (lot.map fun m => dot (mulL b (col l m)) p).sum) ≠ [] := by
    obtain ⟨r0, g', rfl, _⟩ := hg.head
    simp
  obtain ⟨p, hp, e2⟩ := List.mem_map.mp (gmax_mem hne)
  rw [← e2]
  exact sum_le fun m _ => le_gmax (List.mem_map.mpr ⟨p, hp, rfl⟩)
theorem both_first {l m N g : List (List Rat)} {b : List Rat} {n n' n2 w w' s : Nat} (hm : LookOk n' w' m) (h1 : l.length = s) (h2 : m.length = s) (hb : b.length = s) (hg : GameOk n2 s g) (hN : N = List.replicate s [1]) :
    (S w fun a => worthL N (mulL b (col l a)) g 1) ≤ S w fun a => worthL m (mulL b (col l a)) g w' := S_le fun a _ =>
  nothing_le hm h2 (by rw [length_mulL (by rw [length_col, hb, h1]), hb]) hg hN
theorem first_marks {l N g : List (List Rat)} {b : List Rat} {n2 w s : Nat} (h1 : l.length = s) (hb : b.length = s) (hg : GameOk n2 s g) (hN : N = List.replicate s [1]) : (S w fun a => worthL N (mulL b (col l a)) g 1) = worthL l b g w := by
  rw [worthL_S]
  refine S_congr fun a _ => ?_
  have hl0 : N.length = s := by rw [hN, List.length_replicate]
  have lm : (mulL b (col l a)).length = s := by rw [length_mulL (by rw [length_col, hb, h1]), hb]
  rw [worthL_S, S_succ, S_zero, Rat.zero_add]
  congr 1
  refine pays_congr fun p hp => ?_
  rw [pay_S hl0 lm (hg.row p hp).1, pay_S h1 hb (hg.row p hp).1]
  refine S_congr fun i hi => ?_
  have a1 : at2 N i 0 = 1 := by
    unfold at2
    rw [hN, List.getD_eq_getElem?_getD, List.getD_eq_getElem?_getD, List.getElem?_replicate, if_pos hi]; rfl
  rw [a1, mulL_at (by omega) (by rw [length_col]; omega), col_at (by omega)]
  grind
theorem both_second {l m g : List (List Rat)} {b : List Rat} {n n2 w w' s : Nat} (hl : LookOk n w l) (h1 : l.length = s) (h2 : m.length = s) (hb : b.length = s) (hg : GameOk n2 s g) : worthL m b g w' ≤ S w fun a => worthL m (mulL b (col l a)) g w' := by
  have e : (fun a => worthL m (mulL b (col l a)) g w') = fun a => S w' fun c => gmax (paysL m (mulL b (col l a)) g c) := rfl
  rw [e, S_swap (fun a c => gmax (paysL m (mulL b (col l a)) g c)), worthL_S]
  refine S_le fun c _ => ?_
  obtain ⟨p, hp, e1⟩ := pays_best (l := m) (b := b) c hg
  rw [e1]
  have e2 : dot (mulL b (col m c)) p = S w fun a => dot (mulL (mulL b (col l a)) (col m c)) p := by
    have lm : ∀ a, (mulL b (col l a)).length = s := fun a => by rw [length_mulL (by rw [length_col, hb, h1]), hb]
    rw [pay_S h2 hb (hg.row p hp).1, S_congr (n := w) (g := fun a => S s fun i => b.getD i 0 * at2 m i c * p.getD i 0 * at2 l i a) fun a _ => ?_, ← S_swap (fun i a => b.getD i 0 * at2 m i c * p.getD i 0 * at2 l i a)]
    · refine S_congr fun i hi => ?_
      rw [S_mul, hl.at_sum h1 hi, Rat.mul_one]
    · rw [pay_S h2 (lm a) (hg.row p hp).1]
      refine S_congr fun i hi => ?_
      rw [mulL_at (by omega) (by rw [length_col]; omega), col_at (by omega)]
      grind
  rw [e2]
  exact S_le fun a _ => le_gmax (List.mem_map.mpr ⟨p, hp, rfl⟩)
end PyE
set_option maxRecDepth 100000
set_option maxHeartbeats 4000000
namespace PyE
open PySem
theorem getV_set_ne {ρ : Ro} {i j : Nat} {o : Option D} (h : i ≠ j) : getV (ρ.set i o) j = getV ρ j := by
  unfold getV
  rw [List.getElem?_set_ne h]
theorem getV_set_self {ρ : Ro} {i : Nat} {d : D} (h : i < ρ.length) : getV (ρ.set i (some d)) i = some d := by
  unfold getV
  rw [List.getElem?_set_self h]
theorem worth_bd {l g : List (List Rat)} {b : List Rat} {n n1 n2 w s : Nat} (h : LookOk n w l) (hb : BelOk n1 s b) (hg : GameOk n2 s g) (hl : l.length = s) (hn : n + n1 + n2 ≤ 70) (hn0 : 1 ≤ n) (hw : w ≤ 6) : Bd 2569 (worthL l b g w) := by
  have := Bd.sum (n := 427) (l := (List.range w).map fun m => gmax (paysL l b g m)) (fun q hq => by
    obtain ⟨m, _, rfl⟩ := List.mem_map.mp hq
    exact Bd_pays (m := m) h hb hg hl hn hn0 _ (gmax_mem (pays_ne hg)))
  rw [List.length_map, List.length_range] at this
  exact this.mono (by omega)
def lawBody : CS := match b_law with
  | .cons (.for_ _ _ b) _ => b
  | _ => .nil
theorem b_law_eq : b_law = .cons (.for_ (.nm 1) (.irng1 (.con (.int 4))) lawBody) (.cons (.ret (.con (.bl true))) .nil) := rfl
theorem share_nn {r : Nat} : 0 ≤ mkRat (r : Int) 3 := mkRat_nn (by omega)
theorem share_le {r : Nat} (h : r ≤ 3) : mkRat (r : Int) 3 ≤ 1 := by
  have : r = 0 ∨ r = 1 ∨ r = 2 ∨ r = 3 := by omega
  rcases this with rfl | rfl | rfl | rfl <;> decide +kernel
def lotsOf (w : Nat) : List (List Nat) := if 1 < w then [[0], (List.range (w - 1)).map fun k => 1 + k] else [[0]]
theorem lotsOf_parts {w : Nat} (h : 1 ≤ w ∧ w ≤ 3) : PartsOk w (lotsOf w) ∧ (lotsOf w).length ≤ 8 ∧ ∀ lot ∈ lotsOf w, lot.length ≤ 8 ∧ ∀ m ∈ lot, m < w := by
  have hw : w = 1 ∨ w = 2 ∨ w = 3 := by omega
  rcases hw with rfl | rfl | rfl
  · exact ⟨⟨by unfold LotOk; decide, by decide, by decide, by decide⟩, by decide, by decide⟩
  · exact ⟨⟨by unfold LotOk; decide, by decide, by decide, by decide⟩, by decide, by decide⟩
  · exact ⟨⟨by unfold LotOk; decide, by decide, by decide, by decide⟩, by decide, by decide⟩
theorem c_lots {K : Nat} {μ : Mu} {ρ : Ro} (w : Nat) (hlen : 15 < ρ.length) : cm C (run C tbl K) (.nm 15) .nil (.v 15) ρ (fun _ => true) ((List.range (w - 1)).map fun k : Nat => .int (1 + (k : Int))) μ = .ok (((List.range (w - 1)).map fun k => 1 + k).map fun x : Nat => .int (x : Int)) μ := by
  rw [List.map_map]
  refine cm_map rfl fun k hk => ?_
  simp [wipe, Tg.slots, getV_set_self, hlen]
theorem sr_lots {w : Nat} (h : 1 ≤ w ∧ w ≤ 8) : srcR2 (.int 1) (.int (w : Int)) = some ⟨(List.range (w - 1)).map fun k : Nat => .int (1 + (k : Int)), []⟩ := by
  show (if (w : Int) - 1 ≤ LIM ∧ rng62 1 = true ∧ rng62 (w : Int) = true then some (⟨rangeD 1 ((w : Int) - 1).toNat, []⟩ : Src) else none) = _
  rw [if_pos ⟨by unfold LIM; omega, by decide, by unfold rng62; rw [decide_eq_true (by omega), decide_eq_true (by omega)]; rfl⟩]
  rw [show ((w : Int) - 1).toNat = w - 1 by omega]
  rfl
theorem next_of {m : Out} {x : Option D} {n : Nat} {t : List (Option D)} {μ : Mu} (h : m = .next (x :: t) μ) (hl : t.length = n) : ∃ (ts' : List (Option D)) (μ' : Mu), ts'.length = n ∧ m = .next (x :: ts') μ' := ⟨t, μ, hl, h⟩
theorem law_step (ns : List Int) (k : Nat) (i : Nat) (hi : i ≤ 9) (μ : Mu) (ts : List (Option D)) (hts : ts.length = 15) :
    ∃ (ts' : List (Option D)) (μ' : Mu), ts'.length = 15 ∧ eS C (run C tbl (k + 20)) lawBody ((some (.scr ns) :: ts).set 1 (some (.int (i : Int)))) μ = .next (some (.scr ns) :: ts') μ' := by
  match ts, hts with
  | [a1, a2, a3, a4, a5, a6, a7, a8, a9, a10, a11, a12, a13, a14, a15], _ =>
  obtain ⟨xs, G0, e0⟩ := generator_ok (k + 18) μ ns i hi
  generalize hn : μ.length = n at *
  obtain ⟨r1, μ1, hr1, u1, G1, e1⟩ := random_ok (k + 18) 4 (by decide) (by decide) (by decide) G0
  obtain ⟨s, hs⟩ : ∃ s : Nat, (1 : Int) + r1 = (s : Int) := ⟨(1 + r1).toNat, by omega⟩
  obtain ⟨r2, μ2, hr2, u2, G2, e2⟩ := random_ok (k + 18) 2 (by decide) (by decide) (by decide) G1
  obtain ⟨w, hw⟩ : ∃ w : Nat, (1 : Int) + r2 = (w : Int) := ⟨(1 + r2).toNat, by omega⟩
  obtain ⟨l, μ3, L, hl, u3, G3, e3⟩ := look_ok (k + 15) (s := s) (w := w) (by omega) (by omega) (by decide) G2
  obtain ⟨r3, μ4, hr3, u4, G4, e4⟩ := random_ok (k + 18) 3 (by decide) (by decide) (by decide) G3
  obtain ⟨v, hv⟩ : ∃ v : Nat, (1 : Int) + r3 = (v : Int) := ⟨(1 + r3).toNat, by omega⟩
  obtain ⟨m, μ5, M, hm, u5, G5, e5⟩ := look_ok (k + 15) (s := s) (w := v) (by omega) (by omega) (by decide) G4
  obtain ⟨r4, μ6, hr4, u6, G6, e6⟩ := random_ok (k + 18) 4 (by decide) (by decide) (by decide) G5
  obtain ⟨d, hd⟩ : ∃ d : Nat, (1 : Int) + r4 = (d : Int) := ⟨(1 + r4).toNat, by omega⟩
  obtain ⟨g, μ7, Gm, hg, u7, G7, e7⟩ := game_ok (k + 17) (s := s) (d := d) (by omega) (by omega) (by decide) G6
  obtain ⟨b, μ8, B, u8, G8, e8⟩ := chances_ok (k + 16) (w := s) (by omega) (by omega) G7
  obtain ⟨r5, μ9, hr5, u9, G9, e9⟩ := random_ok (k + 18) 4 (by decide) (by decide) (by omega) G8
  obtain ⟨q5, rfl⟩ : ∃ q5 : Nat, r5 = (q5 : Int) := ⟨r5.toNat, by omega⟩
  have e10 : run C tbl (k + 20) f__law_frac [.int (q5 : Int), .int 3] μ9 = .ok (fr (mkRat (q5 : Int) 3)) μ9 := frac_ok (k + 19) μ9 (q5 : Int) 3 (pow_le (n := 5) (by decide) (by omega)) (pow_le (n := 5) (by decide) (by decide)) (by decide)
  obtain ⟨t, ht⟩ : ∃ t, t = mkRat (q5 : Int) 3 := ⟨_, rfl⟩
  have t0 : 0 ≤ t := by rw [ht]; exact share_nn
  have t1 : t ≤ 1 := by rw [ht]; exact share_le (by omega)
  have bt : Bd 3 t := by rw [ht]; exact mkRat_bd (by omega) (by decide) (by decide)
  rw [← ht] at e10
  have u0 : 0 ≤ 1 - t := by grind
  have bu : Bd 5 (1 - t) := Bd.one.sub bt
  have hs4 : s ≤ 4 := by omega
  have hw2 : w ≤ 2 := by omega
  have hv3 : v ≤ 3 := by omega
  have hwv : w * v ≤ 6 := Nat.mul_le_mul hw2 hv3
  have e11 := worth_ok (k + 11) μ9 L B Gm hl (by decide) (by decide)
  have e12 := worth_ok (k + 11) μ9 M B Gm hm (by decide) (by decide)
  have e13 := both_looks_ok (k + 11) μ9 L M (by decide) (by decide) (by rw [hl, hm]) (by omega)
  have LB := look_both L M hl hm (by omega)
  have lB := length_bothL hl hm
  have e14 := worth_ok (k + 11) μ9 LB B Gm lB (by decide) (by decide)
  have b1 := worth_bd L B Gm hl (by decide) (by decide) (by omega)
  have b2 := worth_bd M B Gm hm (by decide) (by decide) (by omega)
  have b3 := worth_bd LB B Gm lB (by decide) (by decide) (by omega)
  have W3 := worth_both L M hl hm B.len Gm
  have e15 := law_mul_ok (k + 18) μ9 (bt.mono (n := 4000) (by decide)) (b1.mono (n := 4000) (by decide))
  have e16 : run C tbl (k + 20) f__law_sub [.tup [.int 1, .int 1], fr t] μ9 = .ok (fr (1 - t)) μ9 := law_sub_ok (k + 18) μ9 (a := 1) (b := t) (Bd.one.mono (by decide)) (bt.mono (by decide))
  have e17 := law_mul_ok (k + 18) μ9 (bu.mono (n := 4000) (by decide)) (b2.mono (n := 4000) (by decide))
  have e18 := law_add_ok (k + 18) μ9 ((bt.mul b1).mono (n := 4000) (by decide)) ((bu.mul b2).mono (n := 4000) (by decide))
  have e19 := law_worth_ok (k + 14) μ9 L B Gm hl (by decide) (by decide)
  have e20 := either_look_ok (k + 11) μ9 L M (by decide) (by decide) (by rw [hl, hm]) (bt.mono (n := 400) (by decide)) t0 t1 (by omega)
  have LE := look_either L M hl hm (by omega) (bt.mono (n := 5) (by decide)) bu t0 u0
  have lE := length_eitherL (t := t) hl hm
  have e21 := worth_ok (k + 11) μ9 LE B Gm lE (by decide) (by decide)
  rw [worth_either L M hl hm B.len Gm t0 u0] at e21
  have e22 := exact_ok 3 (k + 16) μ9 (.lst [fr (t * worthL l b g w + (1 - t) * worthL m b g v), fr (worthL l b g w)]) (by simp)
  have e23 := fun μ => mul_lst (C := C) (.lst [.tup [.int 1, .int 1]]) s (by omega) μ
  obtain ⟨N, hN⟩ : ∃ N, N = List.replicate s [(1 : Rat)] := ⟨_, rfl⟩
  have fN : D.tup [.str (PySem.Str.ofString "look"), .lst (List.replicate s (.lst [.tup [.int 1, .int 1]]))] = lookD N := by
    rw [hN, lookD, rows, List.map_replicate]; rfl
  have LN : LookOk 1 1 N := ⟨by rw [hN, List.length_replicate]; omega, by decide, fun r hr => by
    rw [hN] at hr
    rw [List.eq_of_mem_replicate hr]
    refine ⟨rfl, fun q hq => ?_, by rw [List.sum_singleton]⟩
    rw [List.mem_singleton.mp hq]
    exact ⟨Bd.one, by decide⟩⟩
  have lN : N.length = s := by rw [hN, List.length_replicate]
  have e24 := by_marks_ok (k + 10) μ9 L B hl (by decide) Gm M hm (by decide) (by decide) (by omega) hw2 (by have := Nat.mul_le_mul (Nat.le_refl 11) hs4; omega)
  rw [← W3] at e24
  have e25 := by_marks_ok (k + 10) μ9 L B hl (by decide) Gm LN lN (by decide) (by decide) (by omega) hw2 (by have := Nat.mul_le_mul (Nat.le_refl 11) hs4; omega)
  rw [first_marks hl B.len Gm hN] at e25
  have e26 := exact_ok 3 (k + 16) μ9 (.lst [fr (worthL (bothL l m) b g (w * v)), fr (worthL l b g w)]) (by simp)
  have e27 := law_below_ok (k + 19) μ9 (b3.mono (n := 4000) (by decide)) (b1.mono (n := 4000) (by decide))
  rw [decide_eq_false (Rat.not_lt.mpr (by rw [W3, ← first_marks hl B.len Gm hN]; exact both_first (n := 5) (n' := 5) M hl hm B.len Gm hN))] at e27
  have e28 := law_below_ok (k + 19) μ9 (b3.mono (n := 4000) (by decide)) (b2.mono (n := 4000) (by decide))
  rw [decide_eq_false (Rat.not_lt.mpr (by rw [W3]; exact both_second L hl hm B.len Gm))] at e28
  obtain ⟨P, P8, Pl⟩ := lotsOf_parts (w := v) (by omega)
  have lo : ∀ (ρ : Ro) (μ : Mu), 15 < ρ.length → _ := fun ρ μ h1 => c_lots (K := k + 20) (μ := μ) (ρ := ρ) v h1
  have srl := sr_lots (w := v) (by omega)
  obtain ⟨r0, m', hm0, hv0⟩ := M.head
  have i0 : ∀ {μ : Mu}, opR C .idx [rows m, .int 0] μ = .ok (row r0) μ := fun {μ} => by rw [hm0]; exact idx0_rows
  obtain ⟨Y, hY⟩ : ∃ Y, Y = (List.range (v - 1)).map fun k => 1 + k := ⟨_, rfl⟩
  rw [← hY] at lo
  have ad := fun μ => add_lst (C := C) [.lst [.int 0]] [.lst (Y.map fun x : Nat => .int (x : Int))] (by simp) μ
  have e29 := marks_joined_ok (k + 12) μ9 M (by decide) (by decide) P ⟨by omega, Pl⟩
  have LJ := look_joined M (by decide) P ⟨P8, Pl⟩
  have lJ : (joinedL m (lotsOf v)).length = s := by unfold joinedL; rw [List.length_map, hm]
  have e30 := worth_ok (k + 11) μ9 LJ B Gm lJ (by decide) (by decide)
  have P3 : (lotsOf v).length ≤ 6 := by unfold lotsOf; split <;> simp
  have b4 := worth_bd LJ B Gm lJ (by decide) (by decide) P3
  have e31 := law_below_ok (k + 19) μ9 (b2.mono (n := 4000) (by decide)) (b4.mono (n := 4000) (by decide))
  rw [decide_eq_false (Rat.not_lt.mpr (joined_le M hm B.len Gm P))] at e31
  by_cases hv1 : 1 < v
  · have hv1' : (1 : Int) < (v : Int) := by omega
    have fL : D.lst [.lst [.int 0], .lst (Y.map fun x : Nat => .int (x : Int))] = lotsD (lotsOf v) := by
      unfold lotsOf
      rw [if_pos hv1, ← hY]; rfl
    simp only [List.cons_append, List.nil_append, fL] at ad
    apply next_of
    case h =>
      unfold lawBody b_law
      simp [e0, e1, hs, e2, hw, e3, e4, hv, e5, e6, hd, e7, e8, e9, e10, e11, e12, e13, e14, e15, e16, e17, e18, e19, e20, e21, e22, e23, fN, e24, e25, e26, e27, e28, i0, hv0, hv1, hv1', srl, lo, ad, e29, e30, e31]
      exact ⟨rfl, rfl⟩
    case hl => rfl
  · have hv1' : ¬ (1 : Int) < (v : Int) := by omega
    have fL : D.lst [.lst [.int 0]] = lotsD (lotsOf v) := by
      unfold lotsOf
      rw [if_neg hv1]; rfl
    apply next_of
    case h =>
      unfold lawBody b_law
      simp [e0, e1, hs, e2, hw, e3, e4, hv, e5, e6, hd, e7, e8, e9, e10, e11, e12, e13, e14, e15, e16, e17, e18, e19, e20, e21, e22, e23, fN, e24, e25, e26, e27, e28, i0, hv0, hv1, hv1', fL, e29, e30, e31]
      exact ⟨rfl, rfl⟩
    case hl => rfl
theorem law_ok (k : Nat) (ns : List Int) : run C tbl (k + 21) f_law [.scr ns] [] = .ok (.bl true) [] := by
  obtain ⟨t1, μ1, h1, e1⟩ := law_step ns k 0 (by decide) [] (List.replicate 15 none) (by simp)
  obtain ⟨t2, μ2, h2, e2⟩ := law_step ns k 1 (by decide) μ1 t1 h1
  obtain ⟨t3, μ3, h3, e3⟩ := law_step ns k 2 (by decide) μ2 t2 h2
  obtain ⟨t4, μ4, h4, e4⟩ := law_step ns k 3 (by decide) μ3 t3 h3
  have sr : srcR1 (.int 4) = some ⟨[.int 0, .int 1, .int 2, .int 3], []⟩ := by
    rw [show (4 : Int) = ((4 : Nat) : Int) from rfl, srcR1_nat 4 (by decide), rangeD0]; rfl
  have fe : ∀ μ' : Mu, fin [] (.bl true) μ' .ok = .ok (.bl true) [] := fun μ' => by
    unfold fin
    split
    · rename_i h
      rw [List.eq_nil_of_length_eq_zero h]
    · split
      · rfl
      · rename_i h
        exact absurd (fun i hi => absurd hi (Nat.not_lt_zero _)) h
  have lv : ∀ μ' : Mu, leave [] (.ret (.bl true) μ') = .ok (.bl true) [] := fe
  rw [run_law]
  unfold call1 df_law
  rw [if_pos (show [D.scr ns].length = 1 from rfl), if_neg (show ¬ (false = true) by decide)]
  rw [b_law_eq]
  have F : fo C (run C tbl (k + 20)) (.nm 1) lawBody (fun _ => true) [.int 0, .int 1, .int 2, .int 3] (some (.scr ns) :: List.replicate 15 none) [] = .next (some (.scr ns) :: t4) μ4 := by
    rw [fo_cons, if_pos rfl, setT_nm, lift_some, out_ok]
    erw [e1]
    rw [turn_next, fo_cons, if_pos rfl, setT_nm, lift_some, out_ok]
    erw [e2]
    rw [turn_next, fo_cons, if_pos rfl, setT_nm, lift_some, out_ok]
    erw [e3]
    rw [turn_next, fo_cons, if_pos rfl, setT_nm, lift_some, out_ok]
    erw [e4]
    rw [turn_next, fo_nil, if_pos rfl]
  have F' : fo C (run C tbl (k + 20)) (.nm 1) lawBody (fun _ => true) [.int 0, .int 1, .int 2, .int 3] ([D.scr ns].map some ++ List.replicate (16 - 1) none) [] = .next (some (.scr ns) :: t4) μ4 := F
  rw [eS_cons, eS_for, eI_irng1, eE_con, bind_ok, sr, lift_some, out_ok, okAt_nil, F', seq_next, eS_cons, eS_ret, eE_con, out_ok, seq_ret, lv]
end PyE
open PySem PySem.W PyProof.Rows
set_option maxRecDepth 100000 in
set_option maxHeartbeats 0 in
theorem PySem.Challenge.cw_lookstell_k21_whole_worths_of_looks_toge_holds : PySem.Challenge.rw_lookstell_k21_whole_worths_of_looks_toge.Holds := by
  w_on; o_law
  exact PyE.the_end 21 ⟨rfl, by decide, by decide⟩ (fun ns _ => PyE.law_ok 0 ns)
