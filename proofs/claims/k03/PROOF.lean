import PyProof.Rows.All
import Wide.All
import OpenK.AllK
import Wide.FinOn
import PyProof.ReprReads
import PyProof.P3Statements
import PyProof.EqLayable
import PyProof.StrBlock
import HandS.Base
import HandS.Call
import HandS.List
import HandS.Comp
import HandS.Exc
import HandS.ExcValue
import HandS.Style
import HandS.TupAny
import HandS.Deep
import HandS.WideBits
import HandS.Wide
import HandS.IsInst
import PyProof.SumWalkG
import PyProof.ListOps
import PyProof.Commute
import HandS.Iter
import PyProof.ZipIter
import KE.GoesEnum
import KE.GoesEnumKw
import HandS.MakeKw
import PyProof.Rows.CallKw2
import PyProof.Rows.CallKwBuiltin
import PyProof.CallFns
import PyProof.StrHeap
import HandS.ExcIs
import KE.KExcIs
import HandS.ExcInit
import KE.KSuper
import KE.KExcSuper
import HandS.HeadWalk
import HandS.Rev
import HandS.Conv
import HandS.Text
import HandS.NoneIn
import HandS.ExcOwn
import HandS.Ends
import HandS.HeadEnd
import HandS.Defaults
import HandS.Words
import HandS.WordsExc
import HandS.More
import KE.KStateDown
import HandS.Head0
import HandS.Head1
import HandS.Head2
import HandS.HeadHook1
import HandS.HeadHook2
import PyProof.Rows.ReprOcc
import PySem.Challenge.RW_lookstell_k03_whole_looks_blurred
set_option Elab.async false
set_option linter.all false
set_option maxRecDepth 100000
/-! A small evaluator of one's own for the Python that the linked texts use: values D, own syntax CE | CS, cells in a store Mu. Lists are frozen data (.lst) or cells (.ref). Plain Lean. -/
namespace PyE
open PySem

abbrev Fid := Nat
inductive D where
  | none | bl (b : Bool) | int (i : Int) | str (s : Str)
  | tup (xs : List D) | lst (xs : List D) | ref (n : Nat) | fn (f : Fid) | dct | exc (c : Fid) (v : D) | scr (xs : List Int)
  deriving Inhabited

abbrev Mu := List (List D)
abbrev Ro := List (Option D)

inductive Res (α : Type) where
  | ok (a : α) (μ : Mu) | exc (c : Fid) (v : D) (μ : Mu) | err
def Res.bind {α β : Type} : Res α → (α → Mu → Res β) → Res β
  | .ok a μ, f => f a μ
  | .exc c v μ, _ => .exc c v μ
  | .err, _ => .err
/-- within a comprehension nothing may be raised -/
def Res.nox {α : Type} : Res α → Res α
  | .ok a μ => .ok a μ
  | _ => .err

/-! ### data -/
mutual
def D.py (R : Nat → Option PyData) : D → Option PyData
  | .none => some .none
  | .bl b => some (.bool b)
  | .int i => some (.int i)
  | .str s => some (.str s)
  | .tup xs => (D.pyL R xs).map .tuple
  | .lst xs => (D.pyL R xs).map .list
  | .ref n => R n
  | .dct => some (.dict [])
  | .fn _ => Option.none
  | .exc _ _ => Option.none
  | .scr xs => some (.list (xs.map .int))
def D.pyL (R : Nat → Option PyData) : List D → Option (List PyData)
  | [] => some []
  | x :: xs => (D.py R x).bind fun a => (D.pyL R xs).map fun b => a :: b
end
def tab (μ : Mu) : Nat → Nat → Option PyData
  | 0, _ => Option.none
  | k + 1, n => match μ[n]? with
    | some xs => (D.pyL (tab μ k) xs).map .list
    | Option.none => Option.none
abbrev FUEL : Nat := 8
def LIM : Nat := 16777216
def view (μ : Mu) (d : D) : Option PyData := d.py (tab μ FUEL)

/-- the items of a list or tuple -/
def items (μ : Mu) : D → Option (List D)
  | .scr xs => some (xs.map .int)
  | .lst xs => some xs
  | .tup xs => some xs
  | .ref n => μ[n]?
  | _ => Option.none
/-- .. of a list -/
def litems (μ : Mu) : D → Option (List D)
  | .lst xs => some xs
  | .ref n => μ[n]?
  | _ => Option.none
/-- .. of what may be sliced -/
def sitems (μ : Mu) : D → Option (List D)
  | .scr xs => some (xs.map .int)
  | d => litems μ d
def truth (μ : Mu) : D → Option Bool
  | .none => some false
  | .bl b => some b
  | .int i => some (i != 0)
  | .str s => if s.length ≤ LIM then some (s.length != 0) else none
  | .tup xs => some (!xs.isEmpty)
  | .lst xs => some (!xs.isEmpty)
  | .ref n => (μ[n]?).map fun xs => !xs.isEmpty
  | _ => Option.none

/-! ### operators -/
inductive Ty where
  | tint | tbool | tstr | tlist | ttuple | tdict | tval | tcls (c : Fid)
  deriving DecidableEq
inductive Op where
  | add | sub | mul | fdiv | mod | pow | neg
  | eq | ne | lt | le | gt | ge | isn | notn | isb (b : Bool) | in_ | notin
  | idx | slc (lo hi : Bool) | rev
  | len | abs | int_ | bool_ | repr | max2 | min2 | sum1 | sum2 | all | any | sorted | list | tuple
  | isi (ts : List Ty) | tup | lst | attr | bitlen | scnt (s : Str) | lcount | index | lrange
  deriving DecidableEq

/-- what an operator gives: a value that stands, or the items of a list just made -/
inductive PR where
  | v (d : D) | new (xs : List D)

def rng62 (i : Int) : Bool := decide (-(2 ^ 62) ≤ i) && decide (i < 2 ^ 62)
def newL (xs : List D) : Option PR := if xs.length ≤ LIM then some (.new xs) else Option.none
def mulOk (i j : Int) : Bool := decide (i.natAbs.log2 + j.natAbs.log2 < 100000000)
/-- the place of an index, of either sign -/
def place (i : Int) (n : Nat) : Option Nat := if 0 ≤ i then (if i < n then some i.toNat else Option.none) else (if -(n : Int) ≤ i then some (i + n).toNat else Option.none)
/-- a slice's end, clamped -/
def clamp (i : Int) (n : Nat) : Nat := if 0 ≤ i then min i.toNat n else (i + n).toNat
def cut (xs : List D) (lo hi : Nat) : List D := (xs.take hi).drop lo

def asInt : D → Option Int
  | .int i => some i
  | _ => Option.none
def asInts : List D → Option (List Int)
  | [] => some []
  | .int i :: r => (asInts r).map fun l => i :: l
  | _ :: _ => Option.none
def asBools : List D → Option (List Bool)
  | [] => some []
  | .bl b :: r => (asBools r).map fun l => b :: l
  | _ :: _ => Option.none
def eqD (μ : Mu) (x y : D) : Option Bool := (view μ x).bind fun a => (view μ y).bind fun b => if SeqAt.shaped a && SeqAt.shaped b then some (PyData.eqv a b) else Option.none
/-- order of ints; of tuples of ints -/
def lexLt : List Int → List Int → Bool
  | [], [] => false
  | [], _ :: _ => true
  | _ :: _, [] => false
  | a :: r, b :: s => if a = b then lexLt r s else decide (a < b)
def tyB : D → Ty → Bool
  | .int _, .tint => true
  | .bl _, .tint => true
  | .bl _, .tbool => true
  | .str _, .tstr => true
  | .tup _, .ttuple => true
  | .lst _, .tlist => true
  | .ref _, .tlist => true
  | .scr _, .tlist => true
  | .dct, .tdict => true
  | _, _ => false
def tyIs (sub : Fid → Fid → Bool) (d : D) (t : Ty) : Option Bool := match d with
  | .fn _ => none
  | .exc c _ => match t with
    | .tcls k => some (sub c k)
    | .tval => some true
    | _ => none
  | _ => match t with
    | .tcls _ => none
    | .tval => none
    | _ => some (tyB d t)
def isiS (sub : Fid → Fid → Bool) (d : D) : List Ty → Option Bool
  | [] => some false
  | t :: ts => (tyIs sub d t).bind fun b => (isiS sub d ts).map fun r => b || r
def inS (μ : Mu) (x y : D) : Option Bool := (view μ x).bind fun d => (view μ y).bind fun l => match l with
  | .list ds => if SeqAt.shaped d && SeqAt.shaped (.list ds) then some (ds.any fun z => PyData.eqv z d) else none
  | _ => none

def sumLists (μ : Mu) : List D → Option (List D)
  | [] => some []
  | x :: r => (litems μ x).bind fun xs => (sumLists μ r).map fun ys => xs ++ ys

structure Cfg where
  /-- subclasses (own error classes; 0 is the base) -/
  sub : Fid → Fid → Bool
  /-- bounds of while loops -/
  W : Nat

def addS (μ : Mu) : D → D → Option PR
  | .int i, .int j => some (.v (.int (i + j)))
  | .str x, .str y => if x.length + y.length ≤ LIM then some (.v (.str (x ++ y))) else none
  | .tup xs, .tup ys => if xs.length + ys.length ≤ LIM then some (.v (.tup (xs ++ ys))) else none
  | .lst xs, .lst ys => newL (xs ++ ys)
  | .lst xs, .ref n => (μ[n]?).bind fun ys => newL (xs ++ ys)
  | .ref n, .lst ys => (μ[n]?).bind fun xs => newL (xs ++ ys)
  | .ref n, .ref m => (μ[n]?).bind fun xs => (μ[m]?).bind fun ys => newL (xs ++ ys)
  | _, _ => none
def mulS (μ : Mu) : D → D → Option PR
  | .int i, .int j => if mulOk i j = true then some (.v (.int (i * j))) else none
  | .lst xs, .int j => if rng62 j = true ∧ xs.length * j.toNat ≤ LIM then some (.new (List.replicate j.toNat xs).flatten) else none
  | .ref n, .int j => (μ[n]?).bind fun xs => if rng62 j = true ∧ xs.length * j.toNat ≤ LIM then some (.new (List.replicate j.toNat xs).flatten) else none
  | _, _ => none
def intO (f : Int → Int → Option PR) : D → D → Option PR
  | .int i, .int j => f i j
  | _, _ => none
def ltS : D → D → Option PR
  | .int i, .int j => some (.v (.bl (decide (i < j))))
  | .tup xs, .tup ys => (asInts xs).bind fun a => (asInts ys).map fun b => .v (.bl (lexLt a b))
  | _, _ => none
def isNone : D → Bool
  | .none => true
  | _ => false
def isBl (b : Bool) : D → Bool
  | .bl c => b == c
  | _ => false
def idxS (μ : Mu) (x : D) : D → Option PR
  | .int i => (items μ x).bind fun xs => (place i xs.length).bind fun k => (xs[k]?).map .v
  | _ => none
def cutAt (o : Option Int) (n d : Nat) : Nat := match o with
  | some i => clamp i n
  | none => d
def slcS (μ : Mu) (x : D) (lo hi : Option Int) : Option PR := (sitems μ x).map fun xs => .new (cut xs (cutAt lo xs.length 0) (cutAt hi xs.length xs.length))
def lenS (μ : Mu) : D → Option PR
  | .str s => if s.length ≤ LIM then some (.v (.int s.length)) else none
  | x => (items μ x).map fun xs => .v (.int xs.length)
def absS : D → Option PR
  | .int i => some (.v (.int (if i < 0 then -i else i)))
  | _ => none
def intS : D → Option PR
  | .int i => some (.v (.int i))
  | .bl b => some (.v (.int (if b = true then 1 else 0)))
  | _ => none
def boolS : D → Option PR
  | .int i => some (.v (.bl (i != 0)))
  | .bl b => some (.v (.bl b))
  | _ => none
def reprOk (a : PyData) : Bool := a.showable && decide (a.shown.length ≤ LIM) && decide (a.depth ≤ 64)
def reprS (μ : Mu) (x : D) : Option PR := (view μ x).bind fun a => if reprOk a = true then some (.v (.str a.shown)) else none
def sum2S (μ : Mu) (x : D) : D → Option PR
  | .lst [] => (litems μ x).bind fun xs => if xs.isEmpty = true then some (.v (.lst [])) else (sumLists μ xs).bind newL
  | _ => none
def insI (i : Int) : List Int → List Int
  | [] => [i]
  | j :: l => if i ≤ j then i :: j :: l else j :: insI i l
def isort : List Int → List Int
  | [] => []
  | i :: l => insI i (isort l)
def sortedS (μ : Mu) (x : D) : Option PR := (litems μ x).bind fun xs => (asInts xs).bind fun l => if l.length < 64 then some (.new ((isort l).map .int)) else none
def ibits (i : Int) : Nat := if i = 0 then 0 else i.natAbs.log2 + 1
def lrangeS : D → Option PR
  | .int j => if j ≤ LIM ∧ -(2 ^ 62) ≤ j then some (.new ((List.range j.toNat).map fun k : Nat => .int (k : Int))) else none
  | _ => none
def divOk (j : Int) : Bool := decide (j ≠ 0) && decide (j.natAbs.log2 < 9000)
def attrS : D → Option PR
  | .exc _ v => some (.v v)
  | _ => none
def bitS : D → Option PR
  | .int i => some (.v (.int (ibits i : Nat)))
  | _ => none
/-- x.count(s) -/
def scntS (s : Str) : D → Option PR
  | .str a => some (.v (.int (Txt.count a s)))
  | _ => none
def powS (i j : Int) : Option PR := if 0 ≤ j ∧ ibits i * j.toNat ≤ 100000000 then some (.v (.int (i ^ j.toNat))) else none
def opS (C : Cfg) (μ : Mu) : Op → List D → Option PR
  | .add, [x, y] => addS μ x y
  | .sub, [x, y] => intO (fun i j => some (.v (.int (i - j)))) x y
  | .mul, [x, y] => mulS μ x y
  | .fdiv, [x, y] => intO (fun i j => if divOk j = true then some (.v (.int (i.fdiv j))) else none) x y
  | .mod, [x, y] => intO (fun i j => if j = 0 then none else some (.v (.int (i.fmod j)))) x y
  | .pow, [x, y] => intO powS x y
  | .neg, [x] => intO (fun i _ => some (.v (.int (-i)))) x (.int 0)
  | .eq, [x, y] => (eqD μ x y).map fun b => .v (.bl b)
  | .ne, [x, y] => (eqD μ x y).map fun b => .v (.bl !b)
  | .lt, [x, y] => ltS x y
  | .le, [x, y] => intO (fun i j => some (.v (.bl (decide (i ≤ j))))) x y
  | .gt, [x, y] => intO (fun i j => some (.v (.bl (decide (j < i))))) x y
  | .ge, [x, y] => intO (fun i j => some (.v (.bl (decide (j ≤ i))))) x y
  | .isn, [x] => some (.v (.bl (isNone x)))
  | .notn, [x] => some (.v (.bl !(isNone x)))
  | .isb b, [x] => some (.v (.bl (isBl b x)))
  | .in_, [x, y] => (inS μ x y).map fun b => .v (.bl b)
  | .notin, [x, y] => (inS μ x y).map fun b => .v (.bl !b)
  | .idx, [x, i] => idxS μ x i
  | .slc false false, [x] => slcS μ x none none
  | .slc true false, [x, i] => (asInt i).bind fun i => slcS μ x (some i) none
  | .slc false true, [x, j] => (asInt j).bind fun j => slcS μ x none (some j)
  | .slc true true, [x, i, j] => (asInt i).bind fun i => (asInt j).bind fun j => slcS μ x (some i) (some j)
  | .rev, [x] => (litems μ x).map fun xs => .new xs.reverse
  | .len, [x] => lenS μ x
  | .abs, [x] => absS x
  | .int_, [x] => intS x
  | .bool_, [x] => boolS x
  | .repr, [x] => reprS μ x
  | .max2, [x, y] => intO (fun i j => some (.v (.int (if j > i then j else i)))) x y
  | .min2, [x, y] => intO (fun i j => some (.v (.int (if j < i then j else i)))) x y
  | .sum1, [x] => (litems μ x).bind fun xs => (asInts xs).map fun l => .v (.int l.sum)
  | .sum2, [x, y] => sum2S μ x y
  | .sorted, [x] => sortedS μ x
  | .all, [x] => (litems μ x).bind fun xs => (asBools xs).map fun l => .v (.bl (l.all id))
  | .any, [x] => (litems μ x).bind fun xs => (asBools xs).map fun l => .v (.bl (l.any id))
  | .list, [x] => (items μ x).map .new
  | .tuple, [x] => (items μ x).map fun xs => .v (.tup xs)
  | .isi ts, [x] => (isiS C.sub x ts).map fun b => .v (.bl b)
  | .tup, xs => some (.v (.tup xs))
  | .lst, xs => some (.new xs)
  | .attr, [x] => attrS x
  | .bitlen, [x] => bitS x
  | .scnt s, [x] => scntS s x
  | .lrange, [x] => lrangeS x
  | _, _ => none

/-! ### own syntax -/
inductive MOp where
  | append | pop | popi | insert
  deriving DecidableEq
/-- a target: a slot, or a tuple of slots -/
inductive Tg where
  | nm (i : Nat) | tp (l : List Nat)
  deriving DecidableEq
def Tg.slots : Tg → List Nat
  | .nm i => [i]
  | .tp l => l
inductive CE where
  | con (d : D) | v (i : Nat) | fnv (f : Fid)
  | op (o : Op) (es : CE) | mop (m : MOp) (o es : CE)
  | not_ (a : CE) | and_ (a b : CE) | or_ (a b : CE) | chain (o1 o2 : Op) (a b c : CE)
  | ite (t a b : CE) | cell (e : CE)
  | call (f : Fid) (perm : List Nat) (es : CE) | callv (g es : CE) | mk (c : Fid) (e : CE)
  | comp (t : Tg) (it c e : CE) | comp2 (t : Tg) (it : CE) (t1 : Tg) (it1 c e : CE)
  | iseq (a : CE) | irng1 (a : CE) | irng2 (a b : CE) | irng3 (a b c : CE) | izip (strict : Bool) (a b : CE) | ienum (a : CE)
  | nil | cons (e es : CE)
inductive CS where
  | asg (t : Tg) (e : CE) | sub (o i e : CE) | aug (i : Nat) (op : Op) (e : CE) | augs (o i : CE) (op : Op) (e : CE)
  | ex (e : CE) | ret (e : CE) | retn | if_ (t : CE) (a b : CS) | for_ (t : Tg) (it : CE) (b : CS) | while_ (t : CE) (b : CS)
  | raise (c : Fid) (e : CE) | try_ (b : CS) (c : Fid) (i : Nat) (h : CS) | pass | brk | cont | bad
  | nil | cons (s r : CS)

/-! ### what it does -/
abbrev Cl := Fid → List D → Mu → Res D
structure Src where
  xs : List D
  gs : List (Nat × List D) := []
open Classical in
noncomputable def Src.okAt (s : Src) (μ : Mu) : Bool := s.gs.all fun p => decide (μ[p.1]? = some p.2)

def lift {α : Type} (o : Option α) (μ : Mu) : Res α := match o with
  | some a => .ok a μ
  | none => .err
@[simp] theorem lift_some {α : Type} (a : α) (μ : Mu) : lift (some a) μ = .ok a μ := (rfl)
@[simp] theorem lift_none {α : Type} (μ : Mu) : lift (none : Option α) μ = .err := (rfl)

def wipe (ρ : Ro) : List Nat → Ro
  | [] => ρ
  | v :: vs => (wipe ρ vs).set v none
def setAll : List Nat → List D → Ro → Option Ro
  | [], [], ρ => some ρ
  | i :: is, d :: ds, ρ => setAll is ds (ρ.set i (some d))
  | _, _, _ => none
def setT (μ : Mu) : Tg → D → Ro → Option Ro
  | .nm i, d, ρ => some (ρ.set i (some d))
  | .tp l, .tup xs, ρ => setAll l xs ρ
  | .tp l, .lst xs, ρ => setAll l xs ρ
  | .tp _, _, _ => none

/-- of a size that C's lists may have -/
def chk (xs : List D) (μ : Mu) : Res (List D) := if xs.length ≤ LIM then .ok xs μ else .err
noncomputable def compL (ok : Mu → Bool) (f : D → Mu → Res (List D)) : List D → Mu → Res (List D)
  | [], μ => if ok μ = true then .ok [] μ else .err
  | d :: ds, μ => if ok μ = true then (f d μ).bind fun o μ1 => (compL ok f ds μ1).bind fun r μ2 => .ok (o ++ r) μ2 else .err

def mopS (μ : Mu) : MOp → D → List D → Option (D × Mu)
  | .append, .ref n, [d] => (μ[n]?).bind fun xs => if xs.length < LIM then some (.none, μ.set n (xs ++ [d])) else none
  | .pop, .ref n, [] => (μ[n]?).bind fun xs => (xs[xs.length - 1]?).map fun d => (d, μ.set n xs.dropLast)
  | .popi, .ref n, [.int i] => (μ[n]?).bind fun xs => (place i xs.length).bind fun k => (xs[k]?).map fun d => (d, μ.set n (xs.eraseIdx k))
  | .insert, .ref n, [.int i, d] => (μ[n]?).bind fun xs => if xs.length < LIM ∧ 0 ≤ i ∧ i < 2 ^ 62 then some (.none, μ.set n (xs.take i.toNat ++ [d] ++ xs.drop i.toNat)) else none
  | _, _, _ => none
/-- x[i] = d -/
def subS (μ : Mu) : D → D → D → Option Mu
  | .ref n, .int i, d => (μ[n]?).bind fun xs => (place i xs.length).map fun k => μ.set n (xs.set k d)
  | _, _, _ => none

def prD : PR → D
  | .v d => d
  | .new xs => .lst xs
def prN : PR → Option (List D)
  | .v _ => none
  | .new xs => some xs

def rangeD (lo : Int) (n : Nat) : List D := (List.range n).map fun (k : Nat) => .int (lo + (k : Int))
def rangeC (lo c : Int) (n : Nat) : List D := (List.range n).map fun (k : Nat) => .int (lo + (k : Int) * c)
def enumD (xs : List D) : List D := (List.range xs.length).zipWith (fun (k : Nat) x => .tup [.int (k : Int), x]) xs
def zipD (xs ys : List D) : List D := List.zipWith (fun x y => .tup [x, y]) xs ys
def guard (d : D) (xs : List D) : List (Nat × List D) := match d with
  | .ref n => [(n, xs)]
  | _ => []
/-- how many turns range(i, j, c) has -/
def rangeN (i j c : Int) : Option Nat := if c = 0 then none else some (if 0 < c then ((j - i + c - 1) / c).toNat else ((i - j - c - 1) / (-c)).toNat)

def getV (ρ : Ro) (i : Nat) : Option D := match ρ[i]? with
  | some (some d) => some d
  | _ => none
def opR (C : Cfg) (o : Op) (vs : List D) (μ : Mu) : Res D := lift ((opS C μ o vs).map prD) μ
def lift2 (o : Option (D × Mu)) : Res D := match o with
  | some (r, μ) => .ok r μ
  | none => .err
def asB : D → Option Bool
  | .bl b => some b
  | _ => none
def asRef : D → Option Nat
  | .ref n => some n
  | _ => none
def asFn : D → Option Fid
  | .fn f => some f
  | _ => none
def as01 : List D → Option D
  | [] => some .none
  | [d] => some d
  | _ => none
def permD : List Nat → List D → Option (List D)
  | [], _ => some []
  | i :: is, vs => (vs[i]?).bind fun d => (permD is vs).map fun r => d :: r
def srcS (μ : Mu) (d : D) : Option Src := (items μ d).map fun xs => ⟨xs, guard d xs⟩
def srcR1 : D → Option Src
  | .int j => if j ≤ LIM ∧ -(2 ^ 62) ≤ j then some ⟨rangeD 0 j.toNat, []⟩ else none
  | _ => none
def srcR2 : D → D → Option Src
  | .int i, .int j => if j - i ≤ LIM ∧ rng62 i = true ∧ rng62 j = true then some ⟨rangeD i (j - i).toNat, []⟩ else none
  | _, _ => none
def srcR3 : D → D → D → Option Src
  | .int i, .int j, .int c => (rangeN i j c).bind fun n => if n ≤ LIM ∧ rng62 i = true ∧ rng62 j = true ∧ c.natAbs < 2 ^ 30 then some ⟨rangeC i c n, []⟩ else none
  | _, _, _ => none
def srcZ (strict : Bool) (μ : Mu) (d d2 : D) : Option Src := (litems μ d).bind fun xs => (litems μ d2).bind fun ys =>
  if strict = true ∧ xs.length ≠ ys.length then none else some ⟨zipD xs ys, guard d xs ++ guard d2 ys⟩
def srcE (μ : Mu) (d : D) : Option Src := (litems μ d).map fun xs => ⟨enumD xs, guard d xs⟩

mutual
noncomputable def eE (C : Cfg) (cl : Cl) : CE → Ro → Mu → Res D
  | .con d, _, μ => .ok d μ
  | .v i, ρ, μ => lift (getV ρ i) μ
  | .fnv f, _, μ => .ok (.fn f) μ
  | .op o es, ρ, μ => (eA C cl es ρ μ).bind fun vs μ1 => opR C o vs μ1
  | .mop m o es, ρ, μ => (eE C cl o ρ μ).bind fun d μ1 => (lift (asRef d) μ1).bind fun n μ2 => (eA C cl es ρ μ2).bind fun vs μ3 => lift2 (mopS μ3 m (.ref n) vs)
  | .not_ a, ρ, μ => (eE C cl a ρ μ).bind fun d μ1 => (lift (asB d) μ1).bind fun b μ2 => .ok (.bl !b) μ2
  | .and_ a b, ρ, μ => (eE C cl a ρ μ).bind fun d μ1 => (lift (asB d) μ1).bind fun t μ2 => if t = true then eE C cl b ρ μ2 else .ok d μ2
  | .or_ a b, ρ, μ => (eE C cl a ρ μ).bind fun d μ1 => (lift (asB d) μ1).bind fun t μ2 => if t = true then .ok d μ2 else eE C cl b ρ μ2
  | .chain o1 o2 a b c, ρ, μ => (eE C cl a ρ μ).bind fun x μ1 => (eE C cl b ρ μ1).bind fun y μ2 => (opR C o1 [x, y] μ2).bind fun t μ3 => (lift (asB t) μ3).bind fun t μ3 => if t = true then (eE C cl c ρ μ3).bind fun z μ4 => opR C o2 [y, z] μ4 else .ok (.bl false) μ3
  | .ite t a b, ρ, μ => (eE C cl t ρ μ).bind fun d μ1 => (lift (truth μ1 d) μ1).bind fun t μ2 => if t = true then eE C cl a ρ μ2 else eE C cl b ρ μ2
  | .cell e, ρ, μ => (eN C cl e ρ μ).bind fun xs μ1 => .ok (.ref μ1.length) (μ1 ++ [xs])
  | .call f perm es, ρ, μ => (eA C cl es ρ μ).bind fun vs μ1 => (lift (permD perm vs) μ1).bind fun ws μ2 => cl f ws μ2
  | .callv g es, ρ, μ => (eE C cl g ρ μ).bind fun d μ1 => (lift (asFn d) μ1).bind fun f μ2 => (eA C cl es ρ μ2).bind fun vs μ3 => cl f vs μ3
  | .mk c e, ρ, μ => (eA C cl e ρ μ).bind fun vs μ1 => (lift (as01 vs) μ1).bind fun d μ2 => .ok (.exc c d) μ2
  | .comp t it c e, ρ, μ => (eI C cl it ρ μ).bind fun s μ0 => (compL s.okAt (fun d μ1 => (lift (setT μ1 t d (wipe ρ t.slots)) μ1).bind fun ρ1 μ2 =>
      (eC C cl c ρ1 μ2).nox.bind fun b μ3 => if b = true then (eE C cl e ρ1 μ3).nox.bind fun x μ4 => .ok [x] μ4 else .ok [] μ3) s.xs μ0).bind fun xs μ5 => .ok (.lst xs) μ5
  | .comp2 t it t1 it1 c e, ρ, μ => (eI C cl it ρ μ).bind fun s μ0 => (compL s.okAt (fun d μ1 => (lift (setT μ1 t d (wipe (wipe ρ t1.slots) t.slots)) μ1).bind fun ρ1 μ2 =>
      (eI C cl it1 ρ1 μ2).nox.bind fun s1 μ3 => compL s1.okAt (fun d1 μ4 => (lift (setT μ4 t1 d1 (wipe ρ1 t1.slots)) μ4).bind fun ρ2 μ5 =>
      (eC C cl c ρ2 μ5).nox.bind fun b μ6 => if b = true then (eE C cl e ρ2 μ6).nox.bind fun x μ7 => .ok [x] μ7 else .ok [] μ6) s1.xs μ3) s.xs μ0).bind fun xs μ8 => (chk xs μ8).bind fun xs μ9 => .ok (.lst xs) μ9
  | .iseq _, _, _ => .err
  | .irng1 _, _, _ => .err
  | .irng2 _ _, _, _ => .err
  | .irng3 _ _ _, _, _ => .err
  | .izip _ _ _, _, _ => .err
  | .ienum _, _, _ => .err
  | .nil, _, _ => .err
  | .cons _ _, _, _ => .err
/-- the items of a list just made -/
noncomputable def eN (C : Cfg) (cl : Cl) : CE → Ro → Mu → Res (List D)
  | .op o es, ρ, μ => (eA C cl es ρ μ).bind fun vs μ1 => lift ((opS C μ1 o vs).bind prN) μ1
  | .comp t it c e, ρ, μ => (eI C cl it ρ μ).bind fun s μ0 => compL s.okAt (fun d μ1 => (lift (setT μ1 t d (wipe ρ t.slots)) μ1).bind fun ρ1 μ2 =>
      (eC C cl c ρ1 μ2).nox.bind fun b μ3 => if b = true then (eE C cl e ρ1 μ3).nox.bind fun x μ4 => .ok [x] μ4 else .ok [] μ3) s.xs μ0
  | .comp2 t it t1 it1 c e, ρ, μ => (eI C cl it ρ μ).bind fun s μ0 => (compL s.okAt (fun d μ1 => (lift (setT μ1 t d (wipe (wipe ρ t1.slots) t.slots)) μ1).bind fun ρ1 μ2 =>
      (eI C cl it1 ρ1 μ2).nox.bind fun s1 μ3 => compL s1.okAt (fun d1 μ4 => (lift (setT μ4 t1 d1 (wipe ρ1 t1.slots)) μ4).bind fun ρ2 μ5 =>
      (eC C cl c ρ2 μ5).nox.bind fun b μ6 => if b = true then (eE C cl e ρ2 μ6).nox.bind fun x μ7 => .ok [x] μ7 else .ok [] μ6) s1.xs μ3) s.xs μ0).bind chk
  | _, _, _ => .err
/-- a clause's test; nil: none -/
noncomputable def eC (C : Cfg) (cl : Cl) : CE → Ro → Mu → Res Bool
  | .nil, _, μ => .ok true μ
  | .cons e _, ρ, μ => (eE C cl e ρ μ).bind fun d μ1 => lift (truth μ1 d) μ1
  | _, _, _ => .err
noncomputable def eA (C : Cfg) (cl : Cl) : CE → Ro → Mu → Res (List D)
  | .nil, _, μ => .ok [] μ
  | .cons e es, ρ, μ => (eE C cl e ρ μ).bind fun d μ1 => (eA C cl es ρ μ1).bind fun ds μ2 => .ok (d :: ds) μ2
  | _, _, _ => .err
noncomputable def eI (C : Cfg) (cl : Cl) : CE → Ro → Mu → Res Src
  | .iseq a, ρ, μ => (eE C cl a ρ μ).bind fun d μ1 => lift (srcS μ1 d) μ1
  | .irng1 a, ρ, μ => (eE C cl a ρ μ).bind fun d μ1 => lift (srcR1 d) μ1
  | .irng2 a b, ρ, μ => (eE C cl a ρ μ).bind fun d μ1 => (eE C cl b ρ μ1).bind fun d2 μ2 => lift (srcR2 d d2) μ2
  | .irng3 a b c, ρ, μ => (eE C cl a ρ μ).bind fun d μ1 => (eE C cl b ρ μ1).bind fun d2 μ2 => (eE C cl c ρ μ2).bind fun d3 μ3 => lift (srcR3 d d2 d3) μ3
  | .izip strict a b, ρ, μ => (eE C cl a ρ μ).bind fun d μ1 => (eE C cl b ρ μ1).bind fun d2 μ2 => lift (srcZ strict μ2 d d2) μ2
  | .ienum a, ρ, μ => (eE C cl a ρ μ).bind fun d μ1 => lift (srcE μ1 d) μ1
  | _, _, _ => .err
end

/-! ### statements -/
inductive Out where
  | next (ρ : Ro) (μ : Mu) | brk (ρ : Ro) (μ : Mu) | cont (ρ : Ro) (μ : Mu) | ret (d : D) (μ : Mu) | exc (c : Fid) (v : D) (ρ : Ro) (μ : Mu) | err
def Res.out {α : Type} (r : Res α) (ρ : Ro) (k : α → Mu → Out) : Out := match r with
  | .ok a μ => k a μ
  | .exc c v μ => .exc c v ρ μ
  | .err => .err
def Out.seq : Out → (Ro → Mu → Out) → Out
  | .next ρ μ, k => k ρ μ
  | .brk ρ μ, _ => .brk ρ μ
  | .cont ρ μ, _ => .cont ρ μ
  | .ret d μ, _ => .ret d μ
  | .exc c v ρ μ, _ => .exc c v ρ μ
  | .err, _ => .err
def Out.catch : Out → (Fid → D → Ro → Mu → Out) → Out
  | .exc c v ρ μ, k => k c v ρ μ
  | .next ρ μ, _ => .next ρ μ
  | .brk ρ μ, _ => .brk ρ μ
  | .cont ρ μ, _ => .cont ρ μ
  | .ret d μ, _ => .ret d μ
  | .err, _ => .err
def Out.unset (i : Nat) : Out → Out
  | .next ρ μ => .next (ρ.set i none) μ
  | .brk ρ μ => .brk (ρ.set i none) μ
  | .cont ρ μ => .cont (ρ.set i none) μ
  | .ret d μ => .ret d μ
  | .exc _ _ _ _ => .err
  | .err => .err
def liftM (o : Option Mu) (ρ : Ro) : Out := match o with
  | some μ => .next ρ μ
  | none => .err
/-- a turn's end: next | continue go on, break leaves -/
def Out.turn : Out → (Ro → Mu → Out) → Out
  | .next ρ μ, k => k ρ μ
  | .cont ρ μ, k => k ρ μ
  | .brk ρ μ, _ => .next ρ μ
  | .ret d μ, _ => .ret d μ
  | .exc c v ρ μ, _ => .exc c v ρ μ
  | .err, _ => .err
noncomputable def forL (ok : Mu → Bool) (f : D → Ro → Mu → Out) : List D → Ro → Mu → Out
  | [], ρ, μ => if ok μ = true then .next ρ μ else .err
  | d :: ds, ρ, μ => if ok μ = true then (f d ρ μ).turn fun ρ1 μ1 => forL ok f ds ρ1 μ1 else .err
def whileL (t : Ro → Mu → Res Bool) (f : Ro → Mu → Out) : Nat → Ro → Mu → Out
  | 0, _, _ => .err
  | n + 1, ρ, μ => (t ρ μ).out ρ fun b μ1 => if b = true then (f ρ μ1).turn fun ρ1 μ2 => whileL t f n ρ1 μ2 else .next ρ μ1
noncomputable def eT (C : Cfg) (cl : Cl) (e : CE) (ρ : Ro) (μ : Mu) : Res Bool := (eE C cl e ρ μ).bind fun d μ1 => lift (truth μ1 d) μ1
noncomputable def eS (C : Cfg) (cl : Cl) : CS → Ro → Mu → Out
  | .asg t e, ρ, μ => (eE C cl e ρ μ).out ρ fun d μ1 => (lift (setT μ1 t d ρ) μ1).out ρ fun ρ1 μ2 => .next ρ1 μ2
  | .sub o i e, ρ, μ => (eE C cl e ρ μ).out ρ fun d μ1 => (eE C cl o ρ μ1).out ρ fun x μ2 => (eE C cl i ρ μ2).out ρ fun k μ3 => liftM (subS μ3 x k d) ρ
  | .aug i op e, ρ, μ => (lift (getV ρ i) μ).out ρ fun x μ0 => (eE C cl e ρ μ0).out ρ fun y μ1 => (opR C op [x, y] μ1).out ρ fun z μ2 => .next (ρ.set i (some z)) μ2
  | .augs o i op e, ρ, μ => (eE C cl o ρ μ).out ρ fun x μ1 => (eE C cl i ρ μ1).out ρ fun k μ2 => (opR C .idx [x, k] μ2).out ρ fun y μ3 =>
      (eE C cl e ρ μ3).out ρ fun z μ4 => (opR C op [y, z] μ4).out ρ fun w μ5 => liftM (subS μ5 x k w) ρ
  | .ex e, ρ, μ => (eE C cl e ρ μ).out ρ fun _ μ1 => .next ρ μ1
  | .ret e, ρ, μ => (eE C cl e ρ μ).out ρ fun d μ1 => .ret d μ1
  | .retn, _, μ => .ret .none μ
  | .if_ t a b, ρ, μ => (eT C cl t ρ μ).out ρ fun c μ1 => if c = true then eS C cl a ρ μ1 else eS C cl b ρ μ1
  | .for_ t it b, ρ, μ => (eI C cl it ρ μ).out ρ fun s μ1 => forL s.okAt (fun d ρ1 μ2 => (lift (setT μ2 t d ρ1) μ2).out ρ1 fun ρ2 μ3 => eS C cl b ρ2 μ3) s.xs ρ μ1
  | .while_ t b, ρ, μ => whileL (eT C cl t) (fun ρ1 μ1 => eS C cl b ρ1 μ1) C.W ρ μ
  | .raise c e, ρ, μ => (eA C cl e ρ μ).out ρ fun vs μ1 => (lift (as01 vs) μ1).out ρ fun d μ2 => .exc c d ρ μ2
  | .try_ b c i h, ρ, μ => (eS C cl b ρ μ).catch fun k v ρ1 μ1 => if C.sub k c = true then (eS C cl h (ρ1.set i (some (.exc k v))) μ1).unset i else .exc k v ρ1 μ1
  | .pass, ρ, μ => .next ρ μ
  | .brk, ρ, μ => .brk ρ μ
  | .cont, ρ, μ => .cont ρ μ
  | .bad, _, _ => .err
  | .nil, ρ, μ => .next ρ μ
  | .cons s r, ρ, μ => (eS C cl s ρ μ).seq fun ρ1 μ1 => eS C cl r ρ1 μ1

/-! ### calls -/
structure Def where
  np : Nat
  ns : Nat
  body : CS
  /-- the list it hands back is a cell of the caller's -/
  kp : Bool := false
  /-- nothing is cut at its end: what it hands back may bear its own cells at any depth -/
  dp : Bool := false
mutual
/-- cells from n on are read off -/
def D.off (n : Nat) (R : Nat → Option D) : D → Option D
  | .tup xs => (D.offL n R xs).map .tup
  | .lst xs => (D.offL n R xs).map .lst
  | .ref k => if k < n then some (.ref k) else R k
  | .exc c v => (D.off n R v).map (.exc c)
  | .none => some .none
  | .bl b => some (.bl b)
  | .int i => some (.int i)
  | .str s => some (.str s)
  | .fn f => some (.fn f)
  | .dct => some .dct
  | .scr xs => some (.scr xs)
def D.offL (n : Nat) (R : Nat → Option D) : List D → Option (List D)
  | [] => some []
  | x :: xs => (D.off n R x).bind fun a => (D.offL n R xs).map fun b => a :: b
end
def tabD (n : Nat) (μ : Mu) : Nat → Nat → Option D
  | 0, _ => none
  | k + 1, m => match μ[m]? with
    | some xs => (D.offL n (tabD n μ k) xs).map .lst
    | none => none
mutual
def D.und (n : Nat) : D → Bool
  | .tup xs => D.undL n xs
  | .lst xs => D.undL n xs
  | .ref k => decide (k < n)
  | .exc _ v => D.und n v
  | .none => true
  | .bl _ => true
  | .int _ => true
  | .str _ => true
  | .fn _ => true
  | .dct => true
  | .scr _ => true
def D.undL (n : Nat) : List D → Bool
  | [] => true
  | x :: xs => D.und n x && D.undL n xs
end
open Classical in
/-- the callee's own cells go: what of them is handed on is read off -/
noncomputable def fin (μ0 : Mu) (d : D) (μ : Mu) (k : D → Mu → Res D) : Res D :=
  if μ.length = μ0.length then k d μ
  else if ∀ i, i < μ0.length → μ[i]? = μ0[i]? ∨ ∃ xs, μ[i]? = some xs ∧ D.undL μ0.length xs = true then
    match d.off μ0.length (tabD μ0.length μ FUEL) with
    | some d' => k d' (μ.take μ0.length)
    | none => .err
  else .err
noncomputable def leave (μ : Mu) : Out → Res D
  | .next _ μ1 => fin μ D.none μ1 .ok
  | .ret d μ1 => fin μ d μ1 .ok
  | .exc c v _ μ1 => fin μ v μ1 (.exc c)
  | _ => .err
open Classical in
/-- a list handed back as a cell -/
noncomputable def keepC (μ0 : Mu) (k : Nat) (μ : Mu) : Res D := match μ[k]? with
  | some xs => if μ0.length ≤ k ∧ D.undL μ0.length xs = true ∧ (∀ i, i < μ0.length → μ[i]? = μ0[i]? ∨ ∃ ys, μ[i]? = some ys ∧ D.undL μ0.length ys = true) then .ok (.ref μ0.length) (μ.take μ0.length ++ [xs]) else .err
  | none => .err
noncomputable def leaveK (μ : Mu) : Out → Res D
  | .ret (.ref k) μ1 => keepC μ k μ1
  | .exc c v ρ μ1 => leave μ (.exc c v ρ μ1)
  | _ => .err
/-- all of the callee's cells stay -/
def leaveD : Out → Res D
  | .next _ μ1 => .ok D.none μ1
  | .ret d μ1 => .ok d μ1
  | .exc c v _ μ1 => .exc c v μ1
  | _ => .err
noncomputable def call1 (C : Cfg) (cl : Cl) (df : Def) (args : List D) (μ : Mu) : Res D :=
  if args.length = df.np then (if df.kp = true then leaveK μ (eS C cl df.body (args.map some ++ List.replicate (df.ns - df.np) none) μ) else if df.dp = true then leaveD (eS C cl df.body (args.map some ++ List.replicate (df.ns - df.np) none) μ) else leave μ (eS C cl df.body (args.map some ++ List.replicate (df.ns - df.np) none) μ)) else .err
noncomputable def run (C : Cfg) (tbl : Fid → Option Def) : Nat → Cl
  | 0, _, _, _ => .err
  | n + 1, f, args, μ => match tbl f with
    | some df => call1 C (run C tbl n) df args μ
    | none => .err

/-! ### the equations, for simp -/
section
variable {α β : Type} {C : Cfg} {cl : Cl} {ρ : Ro} {μ : Mu}
@[simp] theorem bind_ok (a : α) (f : α → Mu → Res β) : (Res.ok a μ).bind f = f a μ := (rfl)
@[simp] theorem bind_exc (c : Fid) (v : D) (f : α → Mu → Res β) : (Res.exc c v μ : Res α).bind f = .exc c v μ := (rfl)
@[simp] theorem bind_err (f : α → Mu → Res β) : (Res.err : Res α).bind f = .err := (rfl)
@[simp] theorem nox_ok (a : α) : (Res.ok a μ).nox = .ok a μ := (rfl)
@[simp] theorem out_ok (a : α) (k : α → Mu → Out) : (Res.ok a μ).out ρ k = k a μ := (rfl)
@[simp] theorem out_exc (c : Fid) (v : D) (k : α → Mu → Out) : (Res.exc c v μ : Res α).out ρ k = .exc c v ρ μ := (rfl)
@[simp] theorem out_err (k : α → Mu → Out) : (Res.err : Res α).out ρ k = .err := (rfl)
theorem bind_congr {r r' : Res α} {f : α → Mu → Res β} (h : r = r') : r.bind f = r'.bind f := by rw [h]
theorem out_congr {r r' : Res α} {k : α → Mu → Out} (h : r = r') : r.out ρ k = r'.out ρ k := by rw [h]
theorem seq_congr {r r' : Out} {k : Ro → Mu → Out} (h : r = r') : r.seq k = r'.seq k := by rw [h]
theorem turn_congr {r r' : Out} {k : Ro → Mu → Out} (h : r = r') : r.turn k = r'.turn k := by rw [h]
theorem catch_congr {r r' : Out} {k : Fid → D → Ro → Mu → Out} (h : r = r') : r.catch k = r'.catch k := by rw [h]
@[simp] theorem seq_next (k : Ro → Mu → Out) : (Out.next ρ μ).seq k = k ρ μ := (rfl)
@[simp] theorem seq_brk (k : Ro → Mu → Out) : (Out.brk ρ μ).seq k = .brk ρ μ := (rfl)
@[simp] theorem seq_cont (k : Ro → Mu → Out) : (Out.cont ρ μ).seq k = .cont ρ μ := (rfl)
@[simp] theorem seq_ret (d : D) (k : Ro → Mu → Out) : (Out.ret d μ).seq k = .ret d μ := (rfl)
@[simp] theorem seq_exc (c : Fid) (v : D) (k : Ro → Mu → Out) : (Out.exc c v ρ μ).seq k = .exc c v ρ μ := (rfl)
@[simp] theorem seq_err (k : Ro → Mu → Out) : Out.err.seq k = .err := (rfl)
@[simp] theorem turn_next (k : Ro → Mu → Out) : (Out.next ρ μ).turn k = k ρ μ := (rfl)
@[simp] theorem turn_cont (k : Ro → Mu → Out) : (Out.cont ρ μ).turn k = k ρ μ := (rfl)
@[simp] theorem turn_brk (k : Ro → Mu → Out) : (Out.brk ρ μ).turn k = .next ρ μ := (rfl)
@[simp] theorem turn_ret (d : D) (k : Ro → Mu → Out) : (Out.ret d μ).turn k = .ret d μ := (rfl)
@[simp] theorem turn_exc (c : Fid) (v : D) (k : Ro → Mu → Out) : (Out.exc c v ρ μ).turn k = .exc c v ρ μ := (rfl)
@[simp] theorem turn_err (k : Ro → Mu → Out) : Out.err.turn k = .err := (rfl)
@[simp] theorem catch_next (k : Fid → D → Ro → Mu → Out) : (Out.next ρ μ).catch k = .next ρ μ := (rfl)
@[simp] theorem catch_ret (d : D) (k : Fid → D → Ro → Mu → Out) : (Out.ret d μ).catch k = .ret d μ := (rfl)
@[simp] theorem catch_exc (c : Fid) (v : D) (k : Fid → D → Ro → Mu → Out) : (Out.exc c v ρ μ).catch k = k c v ρ μ := (rfl)
@[simp] theorem unset_next (i : Nat) : (Out.next ρ μ).unset i = .next (ρ.set i none) μ := (rfl)
@[simp] theorem unset_ret (i : Nat) (d : D) : (Out.ret d μ).unset i = .ret d μ := (rfl)
@[simp] theorem liftM_some : liftM (some μ) ρ = .next ρ μ := (rfl)
@[simp] theorem getV_zero (d : D) : getV (some d :: ρ) 0 = some d := (rfl)
@[simp] theorem getV_succ (o : Option D) (i : Nat) : getV (o :: ρ) (i + 1) = getV ρ i := (rfl)
@[simp] theorem eE_con (d : D) : eE C cl (.con d) ρ μ = .ok d μ := (rfl)
@[simp] theorem eE_v (i : Nat) : eE C cl (.v i) ρ μ = lift (getV ρ i) μ := (rfl)
@[simp] theorem eE_fnv (f : Fid) : eE C cl (.fnv f) ρ μ = .ok (.fn f) μ := (rfl)
@[simp] theorem eE_op (o : Op) (es : CE) : eE C cl (.op o es) ρ μ = (eA C cl es ρ μ).bind fun vs μ1 => opR C o vs μ1 := (rfl)
@[simp] theorem eE_mop (m : MOp) (o es : CE) : eE C cl (.mop m o es) ρ μ = (eE C cl o ρ μ).bind fun d μ1 => (lift (asRef d) μ1).bind fun n μ2 => (eA C cl es ρ μ2).bind fun vs μ3 => lift2 (mopS μ3 m (.ref n) vs) := (rfl)
@[simp] theorem eE_not (a : CE) : eE C cl (.not_ a) ρ μ = (eE C cl a ρ μ).bind fun d μ1 => (lift (asB d) μ1).bind fun b μ2 => .ok (.bl !b) μ2 := (rfl)
@[simp] theorem eE_and (a b : CE) : eE C cl (.and_ a b) ρ μ = (eE C cl a ρ μ).bind fun d μ1 => (lift (asB d) μ1).bind fun t μ2 => if t = true then eE C cl b ρ μ2 else .ok d μ2 := (rfl)
@[simp] theorem eE_or (a b : CE) : eE C cl (.or_ a b) ρ μ = (eE C cl a ρ μ).bind fun d μ1 => (lift (asB d) μ1).bind fun t μ2 => if t = true then .ok d μ2 else eE C cl b ρ μ2 := (rfl)
@[simp] theorem eE_chain (o1 o2 : Op) (a b c : CE) : eE C cl (.chain o1 o2 a b c) ρ μ = (eE C cl a ρ μ).bind fun x μ1 => (eE C cl b ρ μ1).bind fun y μ2 =>
    (opR C o1 [x, y] μ2).bind fun t μ3 => (lift (asB t) μ3).bind fun t μ3 => if t = true then (eE C cl c ρ μ3).bind fun z μ4 => opR C o2 [y, z] μ4 else .ok (.bl false) μ3 := (rfl)
@[simp] theorem eE_ite (t a b : CE) : eE C cl (.ite t a b) ρ μ = (eE C cl t ρ μ).bind fun d μ1 => (lift (truth μ1 d) μ1).bind fun t μ2 => if t = true then eE C cl a ρ μ2 else eE C cl b ρ μ2 := (rfl)
@[simp] theorem eE_cell (e : CE) : eE C cl (.cell e) ρ μ = (eN C cl e ρ μ).bind fun xs μ1 => .ok (.ref μ1.length) (μ1 ++ [xs]) := (rfl)
@[simp] theorem eE_call (f : Fid) (perm : List Nat) (es : CE) : eE C cl (.call f perm es) ρ μ = (eA C cl es ρ μ).bind fun vs μ1 => (lift (permD perm vs) μ1).bind fun ws μ2 => cl f ws μ2 := (rfl)
@[simp] theorem eE_callv (g es : CE) : eE C cl (.callv g es) ρ μ = (eE C cl g ρ μ).bind fun d μ1 => (lift (asFn d) μ1).bind fun f μ2 => (eA C cl es ρ μ2).bind fun vs μ3 => cl f vs μ3 := (rfl)
@[simp] theorem eE_mk (c : Fid) (e : CE) : eE C cl (.mk c e) ρ μ = (eA C cl e ρ μ).bind fun vs μ1 => (lift (as01 vs) μ1).bind fun d μ2 => .ok (.exc c d) μ2 := (rfl)
/-- a comprehension's loop -/
noncomputable def cm (C : Cfg) (cl : Cl) (t : Tg) (c e : CE) (ρ : Ro) (ok : Mu → Bool) : List D → Mu → Res (List D) := compL ok (fun d μ1 => (lift (setT μ1 t d (wipe ρ t.slots)) μ1).bind fun ρ1 μ2 =>
      (eC C cl c ρ1 μ2).nox.bind fun b μ3 => if b = true then (eE C cl e ρ1 μ3).nox.bind fun x μ4 => .ok [x] μ4 else .ok [] μ3)
noncomputable def cm2 (C : Cfg) (cl : Cl) (t : Tg) (t1 : Tg) (it1 c e : CE) (ρ : Ro) (ok : Mu → Bool) : List D → Mu → Res (List D) := compL ok (fun d μ1 => (lift (setT μ1 t d (wipe (wipe ρ t1.slots) t.slots)) μ1).bind fun ρ1 μ2 =>
      (eI C cl it1 ρ1 μ2).nox.bind fun s1 μ3 => cm C cl t1 c e ρ1 s1.okAt s1.xs μ3)
@[simp] theorem eE_comp (t : Tg) (it c e : CE) : eE C cl (.comp t it c e) ρ μ = (eI C cl it ρ μ).bind fun s μ0 => (cm C cl t c e ρ s.okAt s.xs μ0).bind fun xs μ5 => .ok (.lst xs) μ5 := (rfl)
@[simp] theorem eE_comp2 (t : Tg) (it : CE) (t1 : Tg) (it1 c e : CE) : eE C cl (.comp2 t it t1 it1 c e) ρ μ = (eI C cl it ρ μ).bind fun s μ0 => (cm2 C cl t t1 it1 c e ρ s.okAt s.xs μ0).bind fun xs μ5 => (chk xs μ5).bind fun xs μ6 => .ok (.lst xs) μ6 := (rfl)
@[simp] theorem eN_op (o : Op) (es : CE) : eN C cl (.op o es) ρ μ = (eA C cl es ρ μ).bind fun vs μ1 => lift ((opS C μ1 o vs).bind prN) μ1 := (rfl)
@[simp] theorem eN_comp (t : Tg) (it c e : CE) : eN C cl (.comp t it c e) ρ μ = (eI C cl it ρ μ).bind fun s μ0 => cm C cl t c e ρ s.okAt s.xs μ0 := (rfl)
@[simp] theorem eN_comp2 (t : Tg) (it : CE) (t1 : Tg) (it1 c e : CE) : eN C cl (.comp2 t it t1 it1 c e) ρ μ = (eI C cl it ρ μ).bind fun s μ0 => (cm2 C cl t t1 it1 c e ρ s.okAt s.xs μ0).bind chk := (rfl)
@[simp] theorem eC_nil : eC C cl .nil ρ μ = .ok true μ := (rfl)
@[simp] theorem eC_cons (e es : CE) : eC C cl (.cons e es) ρ μ = (eE C cl e ρ μ).bind fun d μ1 => lift (truth μ1 d) μ1 := (rfl)
@[simp] theorem eA_nil : eA C cl .nil ρ μ = .ok [] μ := (rfl)
@[simp] theorem eA_cons (e es : CE) : eA C cl (.cons e es) ρ μ = (eE C cl e ρ μ).bind fun d μ1 => (eA C cl es ρ μ1).bind fun ds μ2 => .ok (d :: ds) μ2 := (rfl)
@[simp] theorem eI_iseq (a : CE) : eI C cl (.iseq a) ρ μ = (eE C cl a ρ μ).bind fun d μ1 => lift (srcS μ1 d) μ1 := (rfl)
@[simp] theorem eI_irng1 (a : CE) : eI C cl (.irng1 a) ρ μ = (eE C cl a ρ μ).bind fun d μ1 => lift (srcR1 d) μ1 := (rfl)
@[simp] theorem eI_irng2 (a b : CE) : eI C cl (.irng2 a b) ρ μ = (eE C cl a ρ μ).bind fun d μ1 => (eE C cl b ρ μ1).bind fun d2 μ2 => lift (srcR2 d d2) μ2 := (rfl)
@[simp] theorem eI_irng3 (a b c : CE) : eI C cl (.irng3 a b c) ρ μ = (eE C cl a ρ μ).bind fun d μ1 => (eE C cl b ρ μ1).bind fun d2 μ2 => (eE C cl c ρ μ2).bind fun d3 μ3 => lift (srcR3 d d2 d3) μ3 := (rfl)
@[simp] theorem eI_izip (b : Bool) (a a2 : CE) : eI C cl (.izip b a a2) ρ μ = (eE C cl a ρ μ).bind fun d μ1 => (eE C cl a2 ρ μ1).bind fun d2 μ2 => lift (srcZ b μ2 d d2) μ2 := (rfl)
@[simp] theorem eI_ienum (a : CE) : eI C cl (.ienum a) ρ μ = (eE C cl a ρ μ).bind fun d μ1 => lift (srcE μ1 d) μ1 := (rfl)
/-- loops, by their syntax -/
noncomputable def wh (C : Cfg) (cl : Cl) (t : CE) (b : CS) : Nat → Ro → Mu → Out := whileL (eT C cl t) (fun ρ1 μ1 => eS C cl b ρ1 μ1)
noncomputable def fo (C : Cfg) (cl : Cl) (t : Tg) (b : CS) (ok : Mu → Bool) : List D → Ro → Mu → Out := forL ok (fun d ρ1 μ2 => (lift (setT μ2 t d ρ1) μ2).out ρ1 fun ρ2 μ3 => eS C cl b ρ2 μ3)
theorem wh_succ (t : CE) (b : CS) (n : Nat) : wh C cl t b (n + 1) ρ μ = (eT C cl t ρ μ).out ρ fun c μ1 => if c = true then (eS C cl b ρ μ1).turn fun ρ1 μ2 => wh C cl t b n ρ1 μ2 else .next ρ μ1 := rfl
theorem fo_nil (t : Tg) (b : CS) (ok : Mu → Bool) : fo C cl t b ok [] ρ μ = if ok μ = true then .next ρ μ else .err := rfl
theorem fo_cons (t : Tg) (b : CS) (ok : Mu → Bool) (d : D) (ds : List D) : fo C cl t b ok (d :: ds) ρ μ = if ok μ = true then
    ((lift (setT μ t d ρ) μ).out ρ fun ρ2 μ3 => eS C cl b ρ2 μ3).turn fun ρ1 μ1 => fo C cl t b ok ds ρ1 μ1 else .err := rfl
theorem cm_nil (t : Tg) (c e : CE) (ok : Mu → Bool) : cm C cl t c e ρ ok [] μ = if ok μ = true then .ok [] μ else .err := rfl
theorem cm_cons (t : Tg) (c e : CE) (ok : Mu → Bool) (d : D) (ds : List D) : cm C cl t c e ρ ok (d :: ds) μ = if ok μ = true then
    ((lift (setT μ t d (wipe ρ t.slots)) μ).bind fun ρ1 μ2 => (eC C cl c ρ1 μ2).nox.bind fun b μ3 => if b = true then (eE C cl e ρ1 μ3).nox.bind fun x μ4 => .ok [x] μ4 else .ok [] μ3).bind fun o μ1 =>
      (cm C cl t c e ρ ok ds μ1).bind fun r μ2 => .ok (o ++ r) μ2 else .err := rfl
@[simp] theorem eT_eq (e : CE) : eT C cl e ρ μ = (eE C cl e ρ μ).bind fun d μ1 => lift (truth μ1 d) μ1 := (rfl)
@[simp] theorem eS_asg (t : Tg) (e : CE) : eS C cl (.asg t e) ρ μ = (eE C cl e ρ μ).out ρ fun d μ1 => (lift (setT μ1 t d ρ) μ1).out ρ fun ρ1 μ2 => .next ρ1 μ2 := (rfl)
@[simp] theorem eS_sub (o i e : CE) : eS C cl (.sub o i e) ρ μ = (eE C cl e ρ μ).out ρ fun d μ1 => (eE C cl o ρ μ1).out ρ fun x μ2 => (eE C cl i ρ μ2).out ρ fun k μ3 => liftM (subS μ3 x k d) ρ := (rfl)
@[simp] theorem eS_aug (i : Nat) (op : Op) (e : CE) : eS C cl (.aug i op e) ρ μ = (lift (getV ρ i) μ).out ρ fun x μ0 => (eE C cl e ρ μ0).out ρ fun y μ1 => (opR C op [x, y] μ1).out ρ fun z μ2 => .next (ρ.set i (some z)) μ2 := (rfl)
@[simp] theorem eS_augs (o i : CE) (op : Op) (e : CE) : eS C cl (.augs o i op e) ρ μ = (eE C cl o ρ μ).out ρ fun x μ1 => (eE C cl i ρ μ1).out ρ fun k μ2 => (opR C .idx [x, k] μ2).out ρ fun y μ3 =>
      (eE C cl e ρ μ3).out ρ fun z μ4 => (opR C op [y, z] μ4).out ρ fun w μ5 => liftM (subS μ5 x k w) ρ := (rfl)
@[simp] theorem eS_ex (e : CE) : eS C cl (.ex e) ρ μ = (eE C cl e ρ μ).out ρ fun _ μ1 => .next ρ μ1 := (rfl)
@[simp] theorem eS_ret (e : CE) : eS C cl (.ret e) ρ μ = (eE C cl e ρ μ).out ρ fun d μ1 => .ret d μ1 := (rfl)
@[simp] theorem eS_retn : eS C cl .retn ρ μ = .ret .none μ := (rfl)
@[simp] theorem eS_if (t : CE) (a b : CS) : eS C cl (.if_ t a b) ρ μ = (eT C cl t ρ μ).out ρ fun c μ1 => if c = true then eS C cl a ρ μ1 else eS C cl b ρ μ1 := (rfl)
@[simp] theorem eS_for (t : Tg) (it : CE) (b : CS) : eS C cl (.for_ t it b) ρ μ = (eI C cl it ρ μ).out ρ fun s μ1 => fo C cl t b s.okAt s.xs ρ μ1 := (rfl)
@[simp] theorem eS_while (t : CE) (b : CS) : eS C cl (.while_ t b) ρ μ = wh C cl t b C.W ρ μ := (rfl)
@[simp] theorem eS_raise (c : Fid) (e : CE) : eS C cl (.raise c e) ρ μ = (eA C cl e ρ μ).out ρ fun vs μ1 => (lift (as01 vs) μ1).out ρ fun d μ2 => .exc c d ρ μ2 := (rfl)
@[simp] theorem eS_try (b : CS) (c : Fid) (i : Nat) (h : CS) : eS C cl (.try_ b c i h) ρ μ = (eS C cl b ρ μ).catch fun k v ρ1 μ1 => if C.sub k c = true then (eS C cl h (ρ1.set i (some (.exc k v))) μ1).unset i else .exc k v ρ1 μ1 := (rfl)
@[simp] theorem eS_pass : eS C cl .pass ρ μ = .next ρ μ := (rfl)
@[simp] theorem eS_brk : eS C cl .brk ρ μ = .brk ρ μ := (rfl)
@[simp] theorem eS_cont : eS C cl .cont ρ μ = .cont ρ μ := (rfl)
@[simp] theorem eS_nil : eS C cl .nil ρ μ = .next ρ μ := (rfl)
@[simp] theorem eS_cons (s r : CS) : eS C cl (.cons s r) ρ μ = (eS C cl s ρ μ).seq fun ρ1 μ1 => eS C cl r ρ1 μ1 := (rfl)
@[simp] theorem fin_same (d : D) (k : D → Mu → Res D) : fin μ d μ k = k d μ := if_pos rfl
@[simp] theorem leave_next (ρ : Ro) (μ1 : Mu) : leave μ (.next ρ μ1) = fin μ .none μ1 .ok := (rfl)
@[simp] theorem leave_ret (d : D) (μ1 : Mu) : leave μ (.ret d μ1) = fin μ d μ1 .ok := (rfl)
@[simp] theorem leave_exc (c : Fid) (v : D) (ρ : Ro) (μ1 : Mu) : leave μ (.exc c v ρ μ1) = fin μ v μ1 (.exc c) := (rfl)
end
/-! operators by their cases -/
section
variable {C : Cfg} {μ : Mu}
@[simp] theorem opR_add (i j : Int) : opR C .add [.int i, .int j] μ = .ok (.int (i + j)) μ := (rfl)
@[simp] theorem opR_sub (i j : Int) : opR C .sub [.int i, .int j] μ = .ok (.int (i - j)) μ := (rfl)
theorem opR_mul {i j : Int} (h : mulOk i j = true) : opR C .mul [.int i, .int j] μ = .ok (.int (i * j)) μ := by show lift ((if mulOk i j = true then _ else _ : Option PR).map prD) μ = _; rw [if_pos h]; rfl
theorem opR_fdiv {i j : Int} (h : divOk j = true) : opR C .fdiv [.int i, .int j] μ = .ok (.int (i.fdiv j)) μ := by show lift ((if divOk j = true then _ else _ : Option PR).map prD) μ = _; rw [if_pos h]; rfl
theorem opR_mod {i j : Int} (h : j ≠ 0) : opR C .mod [.int i, .int j] μ = .ok (.int (i.fmod j)) μ := by show lift ((if j = 0 then _ else _ : Option PR).map prD) μ = _; rw [if_neg h]; rfl
@[simp] theorem opR_neg (i : Int) : opR C .neg [.int i] μ = .ok (.int (-i)) μ := (rfl)
@[simp] theorem opR_lt (i j : Int) : opR C .lt [.int i, .int j] μ = .ok (.bl (decide (i < j))) μ := (rfl)
@[simp] theorem opR_le (i j : Int) : opR C .le [.int i, .int j] μ = .ok (.bl (decide (i ≤ j))) μ := (rfl)
@[simp] theorem opR_gt (i j : Int) : opR C .gt [.int i, .int j] μ = .ok (.bl (decide (j < i))) μ := (rfl)
@[simp] theorem opR_ge (i j : Int) : opR C .ge [.int i, .int j] μ = .ok (.bl (decide (j ≤ i))) μ := (rfl)
@[simp] theorem opR_abs (i : Int) : opR C .abs [.int i] μ = .ok (.int i.natAbs) μ := by
  have e : (if i < 0 then -i else i) = (i.natAbs : Int) := by split <;> omega
  show Res.ok (D.int (if i < 0 then -i else i)) μ = _
  rw [e]
@[simp] theorem opR_int (i : Int) : opR C .int_ [.int i] μ = .ok (.int i) μ := (rfl)
@[simp] theorem opR_tup (xs : List D) : opR C .tup xs μ = .ok (.tup xs) μ := (rfl)
@[simp] theorem opR_lst (xs : List D) : opR C .lst xs μ = .ok (.lst xs) μ := (rfl)
@[simp] theorem truth_bl (b : Bool) : truth μ (.bl b) = some b := (rfl)
@[simp] theorem truth_none : truth μ .none = some false := (rfl)
@[simp] theorem truth_int (i : Int) : truth μ (.int i) = some (i != 0) := (rfl)
@[simp] theorem truth_lst (xs : List D) : truth μ (.lst xs) = some (!xs.isEmpty) := (rfl)
@[simp] theorem truth_tup (xs : List D) : truth μ (.tup xs) = some (!xs.isEmpty) := (rfl)
@[simp] theorem setT_nm (i : Nat) (d : D) (ρ : Ro) : setT μ (.nm i) d ρ = some (ρ.set i (some d)) := (rfl)
@[simp] theorem setT_tp (l : List Nat) (xs : List D) (ρ : Ro) : setT μ (.tp l) (.tup xs) ρ = setAll l xs ρ := (rfl)
@[simp] theorem setT_tl (l : List Nat) (xs : List D) (ρ : Ro) : setT μ (.tp l) (.lst xs) ρ = setAll l xs ρ := (rfl)
@[simp] theorem setAll_nil (ρ : Ro) : setAll [] [] ρ = some ρ := (rfl)
@[simp] theorem setAll_cons (i : Nat) (is : List Nat) (d : D) (ds : List D) (ρ : Ro) : setAll (i :: is) (d :: ds) ρ = setAll is ds (ρ.set i (some d)) := (rfl)
@[simp] theorem permD_nil (vs : List D) : permD [] vs = some [] := (rfl)
@[simp] theorem permD_cons (i : Nat) (is : List Nat) (vs : List D) : permD (i :: is) vs = (vs[i]?).bind fun d => (permD is vs).map fun r => d :: r := (rfl)
end
/-! sorting -/
theorem insI_perm (i : Int) : ∀ l : List Int, (insI i l).Perm (i :: l)
  | [] => .refl _
  | j :: l => by
    unfold insI
    split
    · exact .refl _
    · exact ((insI_perm i l).cons j).trans (.swap ..)
theorem isort_perm : ∀ l : List Int, (isort l).Perm l
  | [] => .refl _
  | i :: l => (insI_perm i (isort l)).trans ((isort_perm l).cons i)
theorem insI_pw (i : Int) : ∀ {l : List Int}, l.Pairwise (· ≤ ·) → (insI i l).Pairwise (· ≤ ·)
  | [], _ => by simp [insI]
  | j :: l, h => by
    unfold insI
    have h' := List.pairwise_cons.mp h
    split
    · rename_i hij
      refine List.pairwise_cons.mpr ⟨fun k hk => ?_, h⟩
      rcases List.mem_cons.mp hk with rfl | hk
      · exact hij
      · exact Int.le_trans hij (h'.1 k hk)
    · rename_i hij
      refine List.pairwise_cons.mpr ⟨fun k hk => ?_, insI_pw i h'.2⟩
      rcases List.mem_cons.mp ((insI_perm i l).mem_iff.mp hk) with rfl | hk
      · omega
      · exact h'.1 k hk
theorem isort_pw : ∀ l : List Int, (isort l).Pairwise (· ≤ ·)
  | [] => .nil
  | i :: l => insI_pw i (isort_pw l)
theorem perm_pw_eq : ∀ {l m : List Int}, l.Perm m → l.Pairwise (· ≤ ·) → m.Pairwise (· ≤ ·) → l = m
  | [], m, h, _, _ => h.nil_eq
  | a :: l, [], h, _, _ => absurd h.length_eq (by simp)
  | a :: l, b :: m, h, p, q => by
    have p' := List.pairwise_cons.mp p
    have q' := List.pairwise_cons.mp q
    have e : a = b := by
      rcases List.mem_cons.mp (h.mem_iff.mp (List.mem_cons_self ..) : a ∈ b :: m) with z | z
      · exact z
      · rcases List.mem_cons.mp (h.mem_iff.mpr (List.mem_cons_self ..) : b ∈ a :: l) with y | y
        · exact y.symm
        · have h1 := p'.1 b y
          have h2 := q'.1 a z
          omega
    subst e
    rw [perm_pw_eq (List.Perm.cons_inv h) p'.2 q'.2]
end PyE
set_option maxRecDepth 100000
set_option maxHeartbeats 4000000
/-! the relation between the evaluator's states and the hand layer's abstract heaps -/
namespace PyE
open PySem PySem.Spec PyProof.Rows L2

/-- what is fixed: the written part, where functions and classes stand -/
structure Gi where
  P : Program
  w : World
  K : PySem.W.Frag
  mg : Str → Option Value
  base : Heap
  fa : Fid → Addr
  ca : Fid → Addr
  kc : Fid → Bool
  kf : Fid → Bool
/-- cells, the frozen lists' addresses, the heap -/
structure Wd where
  th : List Addr
  S : Addr → Prop
  H : Hp
/-- a caught exception held as a value -/
def ExV (cls : Value) (a dd : Addr) : HO := .ext fun h => ∃ (oe : Obj) (vs : Array Value), h.get? a = some oe ∧ Zc cls (some dd) oe ∧ oe.data = .fields vs

mutual
def RV (G : Gi) (Z : Wd) : D → V → Prop
  | .none, v => v = .non
  | .bl b, v => v = .bl b
  | .int i, v => v = .int i
  | .str s, v => v = .str s
  | .tup ds, v => ∃ a vs, v = .ref a ∧ SqT G.K Z.H a vs ∧ ds.length ≤ LIM ∧ RVs G Z ds vs
  | .lst ds, v => ∃ a vs, v = .ref a ∧ Z.S a ∧ Z.H a = some (.lst vs) ∧ ds.length ≤ LIM ∧ RVs G Z ds vs
  | .ref n, v => ∃ a, Z.th[n]? = some a ∧ v = .ref a
  | .fn f, v => G.kf f = true ∧ v = .ref (G.fa f)
  | .scr xs, v => ∃ a, v = .ref a ∧ ((∃ o, Z.H a = some (.frz o (.lst (xs.map .int)))) ∨ (∀ H, SqL G.K H a (xs.map .int))) ∧ xs.length ≤ LIM
  | .dct, v => ∃ a, v = .ref a ∧ Z.H a = some (.dK [])
  | .exc c d, v => G.kc c = true ∧ ∃ a dd w, v = .ref a ∧ Z.H a = some (ExV (.ref (G.ca c)) a dd) ∧ Z.H dd = some (.xd [("value", w)]) ∧ RV G Z d w
def RVs (G : Gi) (Z : Wd) : List D → List V → Prop
  | [], vs => vs = []
  | d :: ds, vs => ∃ v r, vs = v :: r ∧ RV G Z d v ∧ RVs G Z ds r
end

structure Rel (G : Gi) (Z : Wd) (μ : Mu) : Prop where
  len : Z.th.length = μ.length
  nd : Z.th.Nodup
  cell : ∀ (n : Nat) (a : Addr) (ds : List D), Z.th[n]? = some a → μ[n]? = some ds → ∃ vs, Z.H a = some (.lst vs) ∧ RVs G Z ds vs ∧ ds.length ≤ LIM
  sep : ∀ a, Z.S a → a ∉ Z.th
  has : ∀ a, Z.S a → Z.H a ≠ none

structure Ext (Z Z' : Wd) : Prop where
  pre : Z.th <+: Z'.th
  fresh : ∀ a ∈ Z'.th, a ∈ Z.th ∨ Z.H a = none
  sub : ∀ a, Z.S a → Z'.S a
  new : ∀ a, Z'.S a → Z.S a ∨ Z.H a = none
  keep : ∀ a o, Z.H a = some o → a ∉ Z.th → Z'.H a = some o
  dom : ∀ a, Z'.H a = none → Z.H a = none

theorem Ext.refl (Z : Wd) : Ext Z Z := ⟨List.prefix_refl _, fun _ h => .inl h, fun _ h => h, fun _ h => .inl h, fun _ _ h _ => h, fun _ h => h⟩
theorem Ext.trans {Z Z1 Z2 : Wd} (x : Ext Z Z1) (y : Ext Z1 Z2) : Ext Z Z2 where
  pre := x.pre.trans y.pre
  fresh := fun a h => (y.fresh a h).elim (x.fresh a) fun q => .inr (x.dom a q)
  sub := fun a h => y.sub a (x.sub a h)
  new := fun a h => (y.new a h).elim (x.new a) fun q => .inr (x.dom a q)
  keep := fun a o h n => y.keep a o (x.keep a o h n) fun q => (x.fresh a q).elim n fun z => by rw [h] at z; cases z
  dom := fun a h => x.dom a (y.dom a h)

section
variable {G : Gi} {Z Z' : Wd} {μ μ' : Mu}
theorem Rel.atCell (R : Rel G Z μ) {a : Addr} (h : a ∈ Z.th) : ∃ vs, Z.H a = some (.lst vs) := by
  obtain ⟨n, hn⟩ := List.getElem?_of_mem h
  have hlt : n < Z.th.length := (List.getElem?_eq_some_iff.mp hn).1
  have hm : n < μ.length := by rw [← R.len]; exact hlt
  obtain ⟨vs, e, _⟩ := R.cell n a _ hn (List.getElem?_eq_getElem hm)
  exact ⟨vs, e⟩
theorem Rel.notCell (R : Rel G Z μ) {a : Addr} {o : HO} (h : Z.H a = some o) (n : ∀ vs, o ≠ .lst vs) : a ∉ Z.th := fun q => by
  obtain ⟨vs, e⟩ := R.atCell q
  rw [h] at e
  exact n vs (Option.some.inj e)
theorem RVs.length : ∀ {ds : List D} {vs : List V}, RVs G Z ds vs → ds.length = vs.length
  | [], vs, h => by
    have e : vs = [] := h
    rw [e]; rfl
  | d :: ds, vs, h => by
    obtain ⟨v, r, rfl, _, q⟩ := h
    rw [List.length_cons, List.length_cons, RVs.length q]
theorem Ext.sqT (X : Ext Z Z') (R : Rel G Z μ) {a : Addr} {vs : List V} (h : SqT G.K Z.H a vs) : SqT G.K Z'.H a vs := by
  rcases h with (h | ⟨o, h⟩) | h
  · exact .inl (.inl (X.keep _ _ h (R.notCell h fun _ q => by cases q)))
  · exact .inl (.inr ⟨o, X.keep _ _ h (R.notCell h fun _ q => by cases q)⟩)
  · exact .inr h
theorem Ext.get (X : Ext Z Z') {n : Nat} {a : Addr} (h : Z.th[n]? = some a) : Z'.th[n]? = some a := by
  obtain ⟨t, e⟩ := X.pre
  rw [← e, List.getElem?_append_left (List.getElem?_eq_some_iff.mp h).1]
  exact h
mutual
theorem RV.ext (X : Ext Z Z') (R : Rel G Z μ) : ∀ (d : D) (v : V), RV G Z d v → RV G Z' d v
  | .none, _, h => h
  | .bl _, _, h => h
  | .int _, _, h => h
  | .str _, _, h => h
  | .fn _, _, h => h
  | .tup ds, v, h => by
    obtain ⟨a, vs, e, q, z, r⟩ := h
    exact ⟨a, vs, e, X.sqT R q, z, RVs.ext X R ds vs r⟩
  | .lst ds, v, h => by
    obtain ⟨a, vs, e, s, q, z, r⟩ := h
    exact ⟨a, vs, e, X.sub a s, X.keep _ _ q (R.sep a s), z, RVs.ext X R ds vs r⟩
  | .scr xs, v, h => by
    obtain ⟨a, e, q, z⟩ := h
    refine ⟨a, e, ?_, z⟩
    rcases q with ⟨o, q⟩ | q
    · exact .inl ⟨o, X.keep _ _ q (R.notCell q fun _ z => by cases z)⟩
    · exact .inr q
  | .ref n, v, h => by
    obtain ⟨a, e, q⟩ := h
    exact ⟨a, X.get e, q⟩
  | .dct, v, h => by
    obtain ⟨a, e, q⟩ := h
    exact ⟨a, e, X.keep _ _ q (R.notCell q fun _ z => by cases z)⟩
  | .exc c d, v, h => by
    obtain ⟨k, a, dd, w, e, q1, q2, r⟩ := h
    exact ⟨k, a, dd, w, e, X.keep _ _ q1 (R.notCell q1 fun _ z => by cases z), X.keep _ _ q2 (R.notCell q2 fun _ z => by cases z), RV.ext X R d w r⟩
theorem RVs.ext (X : Ext Z Z') (R : Rel G Z μ) : ∀ (ds : List D) (vs : List V), RVs G Z ds vs → RVs G Z' ds vs
  | [], _, h => h
  | d :: ds, vs, h => by
    obtain ⟨v, r, e, h1, h2⟩ := h
    exact ⟨v, r, e, RV.ext X R d v h1, RVs.ext X R ds r h2⟩
end
theorem RVs.get : ∀ {ds : List D} {vs : List V} {i : Nat} {d : D}, RVs G Z ds vs → ds[i]? = some d → ∃ v, vs[i]? = some v ∧ RV G Z d v
  | [], _, _, _, _, e => by simp at e
  | d :: ds, vs, 0, x, h, e => by
    obtain ⟨v, r, rfl, h1, h2⟩ := h
    have e' : d = x := by simpa using e
    subst e'
    exact ⟨v, rfl, h1⟩
  | d :: ds, vs, i + 1, x, h, e => by
    obtain ⟨v, r, rfl, h1, h2⟩ := h
    obtain ⟨u, q1, q2⟩ := RVs.get (i := i) (d := x) h2 (by simpa using e)
    exact ⟨u, by simpa using q1, q2⟩
theorem RVs.append : ∀ {ds es : List D} {vs ws : List V}, RVs G Z ds vs → RVs G Z es ws → RVs G Z (ds ++ es) (vs ++ ws)
  | [], es, vs, ws, h, q => by
    have e : vs = [] := h
    rw [e]; exact q
  | d :: ds, es, vs, ws, h, q => by
    obtain ⟨v, r, rfl, h1, h2⟩ := h
    exact ⟨v, r ++ ws, rfl, h1, RVs.append h2 q⟩
theorem RVs.take : ∀ (n : Nat) {ds : List D} {vs : List V}, RVs G Z ds vs → RVs G Z (ds.take n) (vs.take n)
  | 0, _, _, _ => rfl
  | n + 1, [], vs, h => by
    have e : vs = [] := h
    rw [e]; rfl
  | n + 1, d :: ds, vs, h => by
    obtain ⟨v, r, rfl, h1, h2⟩ := h
    exact ⟨v, r.take n, rfl, h1, RVs.take n h2⟩
theorem RVs.drop : ∀ (n : Nat) {ds : List D} {vs : List V}, RVs G Z ds vs → RVs G Z (ds.drop n) (vs.drop n)
  | 0, _, _, h => h
  | n + 1, [], vs, h => by
    have e : vs = [] := h
    rw [e]; rfl
  | n + 1, d :: ds, vs, h => by
    obtain ⟨v, r, rfl, h1, h2⟩ := h
    exact RVs.drop n h2
theorem RVs.set {d : D} {v : V} (hr : RV G Z d v) : ∀ (i : Nat) {ds : List D} {vs : List V}, RVs G Z ds vs → RVs G Z (ds.set i d) (vs.set i v)
  | _, [], vs, h => by
    have e : vs = [] := h
    rw [e]; rfl
  | 0, x :: ds, vs, h => by
    obtain ⟨w, r, rfl, h1, h2⟩ := h
    exact ⟨v, r, rfl, hr, h2⟩
  | i + 1, x :: ds, vs, h => by
    obtain ⟨w, r, rfl, h1, h2⟩ := h
    exact ⟨w, r.set i v, rfl, h1, RVs.set hr i h2⟩
theorem RVs.reverse : ∀ {ds : List D} {vs : List V}, RVs G Z ds vs → RVs G Z ds.reverse vs.reverse
  | [], vs, h => by
    have e : vs = [] := h
    rw [e]; rfl
  | d :: ds, vs, h => by
    obtain ⟨v, r, rfl, h1, h2⟩ := h
    rw [List.reverse_cons, List.reverse_cons]
    exact (RVs.reverse h2).append ⟨v, [], rfl, h1, rfl⟩
theorem RVs.one {d : D} {v : V} (h : RV G Z d v) : RVs G Z [d] [v] := ⟨v, [], rfl, h, rfl⟩
end

/-- slots -/
structure SE (G : Gi) (Z : Wd) (σ : L2.St) (ρ : Ro) : Prop where
  len : σ.length = ρ.length
  at_ : ∀ (i : Nat) (d : D), ρ[i]? = some (some d) → ∃ v, σ[i]? = some (some v) ∧ RV G Z d v
section
variable {G : Gi} {Z Z' : Wd} {μ μ' : Mu} {σ : L2.St} {ρ : Ro}
theorem SE.ext (s : SE G Z σ ρ) (X : Ext Z Z') (R : Rel G Z μ) : SE G Z' σ ρ := ⟨s.len, fun i d h => by
  obtain ⟨v, e, r⟩ := s.at_ i d h
  exact ⟨v, e, RV.ext X R d v r⟩⟩
theorem SE.set (s : SE G Z σ ρ) {d : D} {v : V} (i : Nat) (h : RV G Z d v) : SE G Z (σ.set i (some v)) (ρ.set i (some d)) := by
  refine ⟨by simp [s.len], fun j e hj => ?_⟩
  by_cases hji : i = j
  · subst hji
    by_cases hl : i < ρ.length
    · rw [List.getElem?_set_self hl] at hj
      have e' : d = e := by simpa using hj
      subst e'
      exact ⟨v, List.getElem?_set_self (by rw [s.len]; exact hl), h⟩
    · rw [List.getElem?_eq_none (by simpa using hl)] at hj; cases hj
  · rw [List.getElem?_set_ne hji] at hj
    obtain ⟨u, q, r⟩ := s.at_ j e hj
    exact ⟨u, by rw [List.getElem?_set_ne hji]; exact q, r⟩
theorem SE.unset (s : SE G Z σ ρ) (i : Nat) : SE G Z (σ.set i none) (ρ.set i none) := by
  refine ⟨by simp [s.len], fun j e hj => ?_⟩
  by_cases hji : i = j
  · subst hji
    by_cases hl : i < ρ.length
    · rw [List.getElem?_set_self hl] at hj; cases hj
    · rw [List.getElem?_eq_none (by simpa using hl)] at hj; cases hj
  · rw [List.getElem?_set_ne hji] at hj
    obtain ⟨u, q, r⟩ := s.at_ j e hj
    exact ⟨u, by rw [List.getElem?_set_ne hji]; exact q, r⟩
theorem SE.wipe (s : SE G Z σ ρ) : ∀ vs : List Nat, SE G Z (L2.wipe σ vs) (PyE.wipe ρ vs)
  | [] => s
  | v :: vs => (SE.wipe s vs).unset v
theorem SE.getV (s : SE G Z σ ρ) {i : Nat} {d : D} (h : getV ρ i = some d) : ∃ v, σ[i]? = some (some v) ∧ RV G Z d v := by
  unfold PyE.getV at h
  split at h
  · rename_i x e
    have e' : x = d := Option.some.inj h
    subst e'
    exact s.at_ i x e
  · cases h
end

/-! ### what a step leaves -/
section
variable (G : Gi) (W : WX) (σ : L2.St)
/-- an exception of the evaluator, as the layer's wish has it -/
def ExP (Z : Wd) (c : Fid) (d : D) (μ' : Mu) : Prop := G.kc c = true → ∀ dd w Z', Ext Z Z' → Rel G Z' μ' → Z'.H dd = some (.xd [("value", w)]) → RV G Z' d w → W (.ref (G.ca c)) (some dd) σ Z'.H
def Pst {α β : Type} (rel : Wd → α → β → Prop) (Z : Wd) (r : Res α) (Q : β → Hp → Prop) : Prop := match r with
  | .ok a μ' => ∀ b Z', Ext Z Z' → Rel G Z' μ' → rel Z' a b → Q b Z'.H
  | .exc c d μ' => ExP G W σ Z c d μ'
  | .err => False
/-- where the state is known -/
structure At (Z : Wd) (H : Hp) (σ : L2.St) (ρ : Ro) (μ : Mu) : Prop where
  hp : Z.H = H
  se : SE G Z σ ρ
  rel : Rel G Z μ
end
section
variable {G : Gi} {W : WX} {σ : L2.St} {Z Z' : Wd} {μ μ' : Mu} {ρ : Ro}
theorem ExP.base {c : Fid} {d : D} (h : ExP G W σ Z c d μ') (X : Ext Z Z') : ExP G W σ Z' c d μ' := fun kc dd w Z2 x R e r => h kc dd w Z2 (X.trans x) R e r
theorem Pst.base {α β : Type} {rel : Wd → α → β → Prop} {r : Res α} {Q : β → Hp → Prop} (h : Pst G W σ rel Z r Q) (X : Ext Z Z') : Pst G W σ rel Z' r Q := by
  cases r with
  | ok a μ1 => exact fun b Z2 x R q => h b Z2 (X.trans x) R q
  | exc c d μ1 => exact ExP.base h X
  | err => exact h
/-- a first part, then the rest -/
theorem Pst.bind {α β γ δ : Type} {rel : Wd → α → γ → Prop} {rel2 : Wd → β → δ → Prop} {r : Res α} {k : α → Mu → Res β} {Q : δ → Hp → Prop} (h : Pst G W σ rel2 Z (r.bind k) Q) :
    Pst G W σ rel Z r fun b H1 => ∃ a Z1 μ1, Z1.H = H1 ∧ Ext Z Z1 ∧ Rel G Z1 μ1 ∧ rel Z1 a b ∧ Pst G W σ rel2 Z1 (k a μ1) Q := by
  cases r with
  | ok a μ1 => exact fun b Z2 x R q => ⟨a, Z2, μ1, rfl, x, R, q, Pst.base h x⟩
  | exc c d μ1 => exact h
  | err => exact h
theorem Pst.mono {α β : Type} {rel : Wd → α → β → Prop} {r : Res α} {Q Q' : β → Hp → Prop} (h : Pst G W σ rel Z r Q) (hq : ∀ b H, Q b H → Q' b H) : Pst G W σ rel Z r Q' := by
  cases r with
  | ok a μ1 => exact fun b Z2 x R q => hq _ _ (h b Z2 x R q)
  | exc c d μ1 => exact h
  | err => exact h
theorem Pst.lift {α β γ δ : Type} {rel2 : Wd → β → δ → Prop} {o : Option α} {k : α → Mu → Res β} {Q : δ → Hp → Prop} (h : Pst G W σ rel2 Z ((PyE.lift o μ).bind k) Q) : ∃ a, o = some a ∧ Pst G W σ rel2 Z (k a μ) Q := by
  cases o with
  | none => exact False.elim h
  | some a => exact ⟨a, rfl, h⟩
end

/-! ### readings -/
section
variable (G : Gi) (W : WX)
/-- an expression's reading by the evaluator -/
def tE (m : Ro → Mu → Res D) : TE := fun σ H Q => ∃ Z ρ μ, At G Z H σ ρ μ ∧ Pst G W σ (RV G) Z (m ρ μ) Q
def tA (m : Ro → Mu → Res (List D)) : TA := fun σ H Q => ∃ Z ρ μ, At G Z H σ ρ μ ∧ Pst G W σ (RVs G) Z (m ρ μ) Q
def tT (m : Ro → Mu → Res Bool) : TT := fun σ H Q => ∃ Z ρ μ, At G Z H σ ρ μ ∧ Pst G W σ (fun _ a b => a = b) Z (m ρ μ) Q
end
theorem pe_mono {X : Cx} {e : Expr} {t t' : TE} (h : PE X e t) (m : ∀ σ H Q, t' σ H Q → t σ H Q) : PE X e t' := ⟨fun pins s σ H Q I q => h.run pins s σ H Q I (m σ H Q q)⟩
theorem pt_mono {X : Cx} {e : Expr} {t t' : TT} (h : PT X e t) (m : ∀ σ H Q, t' σ H Q → t σ H Q) : PT X e t' := ⟨fun pins s σ H Q I q => h.run pins s σ H Q I (m σ H Q q)⟩
theorem pw_mono {X : Cx} {e : Expr} {t t' : TT} (h : PW X e t) (m : ∀ σ H Q, t' σ H Q → t σ H Q) : PW X e t' := ⟨fun wh pins s σ H Q I q => h.run wh pins s σ H Q I (m σ H Q q)⟩
theorem pa_mono {X : Cx} {e : List Expr} {t t' : TA} (h : PA X e t) (m : ∀ σ H Q, t' σ H Q → t σ H Q) : PA X e t' := ⟨fun pos pins s σ H Q I q => h.run pos pins s σ H Q I (m σ H Q q)⟩
theorem ps_mono {X : Cx} {e : Stmt} {t t' : TS} (h : PS X e t) (m : ∀ D σ H, t' D σ H → t D σ H) : PS X e t' := ⟨fun pins s σ H D I q => h.run pins s σ H D I (m D σ H q)⟩
theorem pss_mono {X : Cx} {e : List Stmt} {t t' : TS} (h : PSs X e t) (m : ∀ D σ H, t' D σ H → t D σ H) : PSs X e t' := ⟨fun pins s σ H D I q => h.run pins s σ H D I (m D σ H q)⟩
end PyE
set_option maxRecDepth 100000
set_option maxHeartbeats 4000000
/-! operators by values -/
namespace PyE
open PySem PySem.Spec PyProof.Rows L2

theorem LIM_eq : LIM = sizeLine := by unfold LIM; rw [sizeLine_eq]

section
variable {G : Gi} {Z Z' : Wd} {μ μ' : Mu} {p : Addr} {o : HO}
/-- a new object is laid -/
abbrev Wd.lay (Z : Wd) (p : Addr) (o : HO) : Wd := { Z with H := upd Z.H p o }
theorem Ext.lay (h : Z.H p = none) : Ext Z (Z.lay p o) where
  pre := List.prefix_refl _
  fresh := fun _ q => .inl q
  sub := fun _ q => q
  new := fun _ q => .inl q
  keep := fun a u q _ => by
    show upd Z.H p o a = some u
    rw [upd_ne (ne_of_none q h)]
    exact q
  dom := fun a q => by
    have q' : upd Z.H p o a = none := q
    by_cases e : a = p
    · rw [e]; exact h
    · rw [upd_ne e] at q'; exact q'
theorem Rel.lay (R : Rel G Z μ) (h : Z.H p = none) : Rel G (Z.lay p o) μ where
  len := R.len
  nd := R.nd
  cell := fun n a ds h1 h2 => by
    obtain ⟨vs, e, r, z⟩ := R.cell n a ds h1 h2
    refine ⟨vs, ?_, RVs.ext (Ext.lay h) R ds vs r, z⟩
    show upd Z.H p o a = _
    rw [upd_ne (ne_of_none e h)]
    exact e
  sep := R.sep
  has := fun a q z => R.has a q ((Ext.lay h).dom a z)

theorem ints_rv : ∀ l : List Int, RVs G Z (l.map D.int) (l.map V.int)
  | [] => rfl
  | i :: l => ⟨_, _, rfl, rfl, ints_rv l⟩
theorem Rel.litems (R : Rel G Z μ) {d : D} {v : V} {xs : List D} (h : litems μ d = some xs) (r : RV G Z d v) : ∃ a vs, v = .ref a ∧ Z.H a = some (.lst vs) ∧ RVs G Z xs vs ∧ xs.length ≤ LIM := by
  cases d with
  | lst ds =>
    have e : ds = xs := Option.some.inj h
    subst e
    obtain ⟨a, vs, e, _, q, z, r⟩ := r
    exact ⟨a, vs, e, q, r, z⟩
  | ref n =>
    obtain ⟨a, e, q⟩ := r
    obtain ⟨vs, e2, r2, z⟩ := R.cell n a xs e h
    exact ⟨a, vs, q, e2, r2, z⟩
  | _ => cases h
theorem Rel.items (R : Rel G Z μ) {d : D} {v : V} {xs : List D} (h : items μ d = some xs) (r : RV G Z d v) : ∃ a vs, v = .ref a ∧ (SqL G.K Z.H a vs ∨ SqT G.K Z.H a vs) ∧ RVs G Z xs vs ∧ xs.length ≤ LIM := by
  cases d with
  | tup ds =>
    have e : ds = xs := Option.some.inj h
    subst e
    obtain ⟨a, vs, e, q, z, r⟩ := r
    exact ⟨a, vs, e, .inr q, r, z⟩
  | scr l =>
    have e : l.map D.int = xs := Option.some.inj h
    subst e
    obtain ⟨a, e, q, z⟩ := r
    refine ⟨a, _, e, .inl ?_, ints_rv l, by simpa using z⟩
    rcases q with ⟨o, q⟩ | q
    · exact .inl (.inr ⟨o, q⟩)
    · exact q _
  | lst ds =>
    obtain ⟨a, vs, e, q, r', z⟩ := R.litems (d := .lst ds) h r
    exact ⟨a, vs, e, .inl (.inl (.inl q)), r', z⟩
  | ref n =>
    obtain ⟨a, vs, e, q, r', z⟩ := R.litems (d := .ref n) h r
    exact ⟨a, vs, e, .inl (.inl (.inl q)), r', z⟩
  | _ => cases h
theorem Rel.sitems (R : Rel G Z μ) {d : D} {v : V} {xs : List D} (h : sitems μ d = some xs) (r : RV G Z d v) : ∃ a vs, v = .ref a ∧ SqL G.K Z.H a vs ∧ RVs G Z xs vs ∧ xs.length ≤ LIM := by
  cases d with
  | scr l =>
    have e : l.map D.int = xs := Option.some.inj h
    subst e
    obtain ⟨a, e, q, z⟩ := r
    refine ⟨a, _, e, ?_, ints_rv l, by simpa using z⟩
    rcases q with ⟨o, q⟩ | q
    · exact .inl (.inr ⟨o, q⟩)
    · exact q _
  | lst ds =>
    obtain ⟨a, vs, e, q, r', z⟩ := R.litems (d := .lst ds) h r
    exact ⟨a, vs, e, .inl (.inl q), r', z⟩
  | ref n =>
    obtain ⟨a, vs, e, q, r', z⟩ := R.litems (d := .ref n) h r
    exact ⟨a, vs, e, .inl (.inl q), r', z⟩
  | _ => cases h
theorem ints_of : ∀ {xs : List D} {vs : List V} {l : List Int}, asInts xs = some l → RVs G Z xs vs → vs = l.map V.int
  | [], vs, l, h, r => by
    have e : [] = l := Option.some.inj h
    have e2 : vs = [] := r
    rw [← e, e2]; rfl
  | x :: xs, vs, l, h, r => by
    cases x with
    | int i =>
      obtain ⟨v, t, rfl, r1, r2⟩ := r
      cases e : asInts xs with
      | none => simp [asInts, e] at h
      | some l' =>
        have h' : i :: l' = l := by simpa [asInts, e] using h
        rw [← h', ints_of e r2, show v = V.int i from r1]; rfl
    | _ => cases h
theorem bools_of : ∀ {xs : List D} {vs : List V} {l : List Bool}, asBools xs = some l → RVs G Z xs vs → vs = l.map V.bl
  | [], vs, l, h, r => by
    have e : [] = l := Option.some.inj h
    have e2 : vs = [] := r
    rw [← e, e2]; rfl
  | x :: xs, vs, l, h, r => by
    cases x with
    | bl i =>
      obtain ⟨v, t, rfl, r1, r2⟩ := r
      cases e : asBools xs with
      | none => simp [asBools, e] at h
      | some l' =>
        have h' : i :: l' = l := by simpa [asBools, e] using h
        rw [← h', bools_of e r2, show v = V.bl i from r1]; rfl
    | _ => cases h
theorem RVs.cons_inv {x : V} {xs : List V} {ds : List D} (h : RVs G Z ds (x :: xs)) : ∃ d es, ds = d :: es ∧ RV G Z d x ∧ RVs G Z es xs := by
  cases ds with
  | nil => cases (show x :: xs = [] from h)
  | cons d es =>
    obtain ⟨v, r, e, h1, h2⟩ := h
    cases e
    exact ⟨d, es, rfl, h1, h2⟩
theorem RVs.nil_inv {ds : List D} (h : RVs G Z ds []) : ds = [] := by
  cases ds with
  | nil => rfl
  | cons d es =>
    obtain ⟨v, r, e, _⟩ := h
    cases e
theorem RVs.one_inv {x : V} {ds : List D} (h : RVs G Z ds [x]) : ∃ d, ds = [d] ∧ RV G Z d x := by
  obtain ⟨d, es, rfl, h1, h2⟩ := h.cons_inv
  exact ⟨d, by rw [h2.nil_inv], h1⟩
theorem RVs.two_inv {x y : V} {ds : List D} (h : RVs G Z ds [x, y]) : ∃ d e, ds = [d, e] ∧ RV G Z d x ∧ RV G Z e y := by
  obtain ⟨d, es, rfl, h1, h2⟩ := h.cons_inv
  obtain ⟨e, rfl, h3⟩ := h2.one_inv
  exact ⟨d, e, rfl, h1, h3⟩
theorem RVs.flat_rep {ds : List D} {vs : List V} (h : RVs G Z ds vs) : ∀ n, RVs G Z (List.replicate n ds).flatten (List.replicate n vs).flatten
  | 0 => rfl
  | n + 1 => by
    rw [List.replicate_succ, List.replicate_succ, List.flatten_cons, List.flatten_cons]
    exact h.append (RVs.flat_rep h n)
end

/-! ### what an operator hands on -/
def PrP (G : Gi) (Z : Wd) (μ : Mu) (pr : PR) (Q : VK) : Prop := match pr with
  | .v d => ∀ v Z', Ext Z Z' → Rel G Z' μ → RV G Z' d v → Q v Z'.H
  | .new xs => ∀ p vs Z', Ext Z Z' → Rel G Z' μ → Z'.H p = none → RVs G Z' xs vs → xs.length ≤ LIM → Q (.ref p) (upd Z'.H p (.lst vs))
def rO (G : Gi) (C : Cfg) (o : Op) (vs : List V) (H : Hp) (Q : VK) : Prop := ∃ Z μ ds pr, Z.H = H ∧ Rel G Z μ ∧ RVs G Z ds vs ∧ opS C μ o ds = some pr ∧ PrP G Z μ pr Q

theorem PrP.here {G : Gi} {Z : Wd} {μ : Mu} {d : D} {v : V} {Q : VK} (q : PrP G Z μ (.v d) Q) (R : Rel G Z μ) (h : RV G Z d v) : Q v Z.H := q v Z (Ext.refl Z) R h
theorem PrP.made {G : Gi} {Z : Wd} {μ : Mu} {xs : List D} {vs : List V} {Q : VK} (q : PrP G Z μ (.new xs) Q) (R : Rel G Z μ) (h : RVs G Z xs vs) (z : xs.length ≤ LIM) : ∀ p, Z.H p = none → Q (.ref p) (upd Z.H p (.lst vs)) :=
  fun p hp => q p vs Z (Ext.refl Z) R hp h z

section
variable {X : Cx} {G : Gi} {C : Cfg}
/-! ### + -/
theorem newL_some {xs : List D} {pr : PR} (h : newL xs = some pr) : pr = .new xs ∧ xs.length ≤ LIM := by
  unfold newL at h
  split at h
  · exact ⟨(Option.some.inj h).symm, by assumption⟩
  · cases h
/-- two lists, whatever they are -/
theorem addS_lists {μ : Mu} {d e : D} {pr : PR} {xs ys : List D} (h1 : litems μ d = some xs) (h2 : litems μ e = some ys) (h : addS μ d e = some pr) : newL (xs ++ ys) = some pr := by
  cases d with
  | lst a =>
    have q1 : a = xs := Option.some.inj h1
    subst q1
    cases e with
    | lst b =>
      have q2 : b = ys := Option.some.inj h2
      subst q2; exact h
    | ref n =>
      have q2 : μ[n]? = some ys := h2
      simpa [addS, q2] using h
    | _ => cases h2
  | ref m =>
    have q1 : μ[m]? = some xs := h1
    cases e with
    | lst b =>
      have q2 : b = ys := Option.some.inj h2
      subst q2
      simpa [addS, q1] using h
    | ref n =>
      have q2 : μ[n]? = some ys := h2
      simpa [addS, q1, q2] using h
    | _ => cases h2
  | _ => cases h1
theorem addS_cases {μ : Mu} {d e : D} {pr : PR} (h : addS μ d e = some pr) : (∃ i j, d = .int i ∧ e = .int j ∧ pr = .v (.int (i + j))) ∨ (∃ x y, d = .str x ∧ e = .str y ∧ x.length + y.length ≤ LIM ∧ pr = .v (.str (x ++ y))) ∨
    (∃ xs ys, d = .tup xs ∧ e = .tup ys ∧ xs.length + ys.length ≤ LIM ∧ pr = .v (.tup (xs ++ ys))) ∨ ∃ xs ys, litems μ d = some xs ∧ litems μ e = some ys ∧ pr = .new (xs ++ ys) ∧ (xs ++ ys).length ≤ LIM := by
  unfold addS at h
  split at h
  · exact .inl ⟨_, _, rfl, rfl, (Option.some.inj h).symm⟩
  · split at h
    · exact .inr (.inl ⟨_, _, rfl, rfl, by assumption, (Option.some.inj h).symm⟩)
    · cases h
  · split at h
    · exact .inr (.inr (.inl ⟨_, _, rfl, rfl, by assumption, (Option.some.inj h).symm⟩))
    · cases h
  · obtain ⟨e1, e2⟩ := newL_some h
    exact .inr (.inr (.inr ⟨_, _, rfl, rfl, e1, e2⟩))
  · obtain ⟨ys, hy, h⟩ := Option.bind_eq_some_iff.mp h
    obtain ⟨e1, e2⟩ := newL_some h
    exact .inr (.inr (.inr ⟨_, _, rfl, hy, e1, e2⟩))
  · obtain ⟨ys, hy, h⟩ := Option.bind_eq_some_iff.mp h
    obtain ⟨e1, e2⟩ := newL_some h
    exact .inr (.inr (.inr ⟨_, _, hy, rfl, e1, e2⟩))
  · obtain ⟨xs, hx, h⟩ := Option.bind_eq_some_iff.mp h
    obtain ⟨ys, hy, h⟩ := Option.bind_eq_some_iff.mp h
    obtain ⟨e1, e2⟩ := newL_some h
    exact .inr (.inr (.inr ⟨_, _, hx, hy, e1, e2⟩))
  · cases h
theorem o_add (hK : X.K = G.K) : OpR X (binaryOp .Add) fun x y H Q => rO G C .add [x, y] H Q := by
  intro pins s σ H x y v u Q I rx ry h
  obtain ⟨Z, μ, ds, pr, rfl, R, rv, e, q⟩ := h
  obtain ⟨d, e', rfl, r1, r2⟩ := rv.two_inv
  rcases addS_cases e with ⟨i, j, rfl, rfl, rfl⟩ | ⟨a, b, rfl, rfl, hz, rfl⟩ | ⟨xs, ys, rfl, rfl, hz, rfl⟩ | ⟨xs, ys, h1, h2, rfl, hz⟩
  · exact op_add pins s σ Z.H x y v u Q I rx ry ⟨i, j, r1, r2, q.here R rfl⟩
  · exact op_add_str pins s σ Z.H x y v u Q I rx ry ⟨a, b, r1, r2, by rw [← LIM_eq]; exact hz, q.here R rfl⟩
  · obtain ⟨a, vs, ea, qa, za, ra⟩ := r1
    obtain ⟨b, ws, eb, qb, zb, rb⟩ := r2
    refine op_catA pins s σ Z.H x y v u Q I rx ry ⟨a, b, vs, ws, ea, eb, by rw [hK]; exact qa, by rw [hK]; exact qb, by rw [← ra.length, ← rb.length, ← LIM_eq]; exact hz, fun hx => ?_, fun _ hy => ?_, fun _ _ p hp => ?_⟩
    · have hn : xs = [] := by have := ra.length; rw [hx] at this; exact List.eq_nil_of_length_eq_zero (by simpa using this)
      rw [hn] at q
      exact q.here R ⟨b, ws, rfl, qb, zb, rb⟩
    · have hn : ys = [] := by have := rb.length; rw [hy] at this; exact List.eq_nil_of_length_eq_zero (by simpa using this)
      rw [hn, List.append_nil] at q
      exact q.here R ⟨a, vs, rfl, qa, za, ra⟩
    · exact q (.ref p) (Z.lay p (.tup (vs ++ ws))) (Ext.lay hp) (R.lay hp) ⟨p, _, rfl, SqT.of upd_same, by rw [List.length_append]; exact hz, RVs.ext (Ext.lay hp) R _ _ (ra.append rb)⟩
  · obtain ⟨a, vs, ea, qa, ra, _⟩ := R.litems h1 r1
    obtain ⟨b, ws, eb, qb, rb, _⟩ := R.litems h2 r2
    refine op_cat pins s σ Z.H x y v u Q I rx ry ⟨a, b, vs, ws, ea, eb, qa, qb, by rw [← ra.length, ← rb.length, ← LIM_eq, ← List.length_append]; exact hz, q.made R (ra.append rb) hz⟩
end
end PyE
set_option maxRecDepth 100000
set_option maxHeartbeats 4000000
namespace PyE
open PySem PySem.Spec PyProof.Rows L2
section
variable {X : Cx} {G : Gi} {C : Cfg}
theorem intO_some {f : Int → Int → Option PR} {d e : D} {pr : PR} (h : intO f d e = some pr) : ∃ i j, d = .int i ∧ e = .int j ∧ f i j = some pr := by
  unfold intO at h
  split at h
  · exact ⟨_, _, rfl, rfl, h⟩
  · cases h
theorem ibits_eq (i : Int) : Builtin.Int.intBits i = ibits i := by
  unfold Builtin.Int.intBits ibits
  by_cases h : i = 0
  · subst h; rfl
  · rw [if_neg h, if_neg (by simpa using h)]
theorem mulOk_ok {i j : Int} (h : mulOk i j = true) : IntMulOk i j := by
  have h1 : i.natAbs.log2 + j.natAbs.log2 < 100000000 := of_decide_eq_true h
  have b : ∀ x : Int, Builtin.Int.intBits x ≤ x.natAbs.log2 + 1 := fun x => by
    rw [ibits_eq]; unfold ibits
    split <;> omega
  have b1 := b i
  have b2 := b j
  unfold IntMulOk Builtin.Int.intTooBig bitsLine
  intro q
  simp only [Bool.and_eq_true, decide_eq_true_eq] at q
  have q2 := q.2
  have e : ((2 : Nat) ^ 27 : Nat) = 134217728 := by decide
  simp only [e] at q2
  omega
/-- two ints by a rule of the layer -/
theorem o_int {f : Value → Value → Sem Value} {o : Op} {g : Int → Int → Option PR} (hop : ∀ μ d e, opS C μ o [d, e] = intO g d e) {r : R2} (h0 : OpR X f r)
    (hr : ∀ (i j : Int) (pr : PR) (Z : Wd) (μ : Mu) (Q : VK), g i j = some pr → Rel G Z μ → PrP G Z μ pr Q → r (.int i) (.int j) Z.H Q) : OpR X f fun x y H Q => rO G C o [x, y] H Q := by
  intro pins s σ H x y v u Q I rx ry h
  obtain ⟨Z, μ, ds, pr, rfl, R, rv, e, q⟩ := h
  obtain ⟨d, e', rfl, r1, r2⟩ := rv.two_inv
  rw [hop] at e
  obtain ⟨i, j, rfl, rfl, e⟩ := intO_some e
  have e1 : x = .int i := r1
  have e2 : y = .int j := r2
  subst e1 e2
  exact h0 pins s σ Z.H _ _ v u Q I rx ry (hr i j pr Z μ Q e R q)
theorem some_v {d : D} {pr : PR} (h : some (PR.v d) = some pr) : pr = .v d := (Option.some.inj h).symm
theorem if_some {c : Prop} [Decidable c] {a pr : PR} (h : (if c then some a else none) = some pr) : c ∧ pr = a := by
  by_cases hc : c
  · rw [if_pos hc] at h; exact ⟨hc, (Option.some.inj h).symm⟩
  · rw [if_neg hc] at h; cases h
theorem o_sub : OpR X (binaryOp .Sub) fun x y H Q => rO G C .sub [x, y] H Q := o_int (fun _ _ _ => rfl) op_sub fun i j pr Z μ Q h R q => by
  rw [some_v h] at q; exact ⟨i, j, rfl, rfl, q.here R rfl⟩
theorem op_mulL : OpR X (binaryOp .Mult) (rI (fun i j => mulOk i j = true) fun i j => .int (i * j)) := opI fun _ _ _ _ _ _ _ hc q => mul_int q (mulOk_ok hc)
theorem op_fdivL : OpR X (binaryOp .FloorDiv) (rI (fun _ j => divOk j = true) fun i j => .int (i.fdiv j)) := opI fun i j _ _ _ _ _ hc q => by
  have h := Bool.and_eq_true_iff.mp hc
  exact floordiv_int (of_decide_eq_true h.1) q (.inl (PyProof.noPylong_of_log2 (of_decide_eq_true h.2)))
theorem op_powL : OpR X (binaryOp .Pow) (rI (fun i j => 0 ≤ j ∧ ibits i * j.toNat ≤ 100000000) fun i j => .int (i ^ j.toNat)) := opI fun i j _ _ _ _ _ hc q => by
  refine pow_int hc.1 ?_ q
  rw [ibits_eq]
  obtain ⟨n, rfl⟩ := Int.eq_ofNat_of_zero_le hc.1
  have h2 : ibits i * n ≤ 100000000 := hc.2
  have e2 : ((2 : Int) ^ 27) = ((134217728 : Nat) : Int) := by decide
  rw [e2, ← Int.natCast_mul]
  exact Int.ofNat_le.mpr (by omega)
theorem o_fdiv : OpR X (binaryOp .FloorDiv) fun x y H Q => rO G C .fdiv [x, y] H Q := o_int (fun _ _ _ => rfl) op_fdivL fun i j pr Z μ Q h R q => by
  obtain ⟨hc, rfl⟩ := if_some h; exact ⟨i, j, rfl, rfl, hc, q.here R rfl⟩
theorem o_mod : OpR X (binaryOp .Mod) fun x y H Q => rO G C .mod [x, y] H Q := o_int (fun _ _ _ => rfl) op_modN fun i j pr Z μ Q h R q => by
  by_cases hj : j = 0
  · rw [if_pos hj] at h; cases h
  · rw [if_neg hj] at h; rw [some_v h] at q; exact ⟨i, j, rfl, rfl, hj, q.here R rfl⟩
theorem o_pow : OpR X (binaryOp .Pow) fun x y H Q => rO G C .pow [x, y] H Q := o_int (fun _ _ _ => rfl) op_powL fun i j pr Z μ Q h R q => by
  obtain ⟨hc, rfl⟩ := if_some h; exact ⟨i, j, rfl, rfl, hc, q.here R rfl⟩
theorem o_neg : UnR X (unaryOp .USub) fun x H Q => rO G C .neg [x] H Q := by
  intro pins s σ H x v Q I rx h
  obtain ⟨Z, μ, ds, pr, rfl, R, rv, e, q⟩ := h
  obtain ⟨d, rfl, r1⟩ := rv.one_inv
  obtain ⟨i, j, rfl, _, e⟩ := intO_some (show intO (fun i _ => some (.v (.int (-i)))) d (.int 0) = some pr from e)
  rw [some_v e] at q
  exact un_neg pins s σ Z.H x v Q I rx ⟨i, r1, q.here R rfl⟩
theorem rng62_ok {j : Int} (h : rng62 j = true) : -(2 ^ 62) ≤ j ∧ j < 2 ^ 62 := ⟨of_decide_eq_true (Bool.and_eq_true_iff.mp h).1, of_decide_eq_true (Bool.and_eq_true_iff.mp h).2⟩
theorem mulS_cases {μ : Mu} {d e : D} {pr : PR} (h : mulS μ d e = some pr) : (∃ i j, d = .int i ∧ e = .int j ∧ mulOk i j = true ∧ pr = .v (.int (i * j))) ∨
    ∃ xs j, litems μ d = some xs ∧ e = .int j ∧ rng62 j = true ∧ xs.length * j.toNat ≤ LIM ∧ pr = .new (List.replicate j.toNat xs).flatten := by
  unfold mulS at h
  split at h
  · obtain ⟨hc, rfl⟩ := if_some h
    exact .inl ⟨_, _, rfl, rfl, hc, rfl⟩
  · obtain ⟨hc, rfl⟩ := if_some h
    exact .inr ⟨_, _, rfl, rfl, hc.1, hc.2, rfl⟩
  · obtain ⟨xs, hx, h⟩ := Option.bind_eq_some_iff.mp h
    obtain ⟨hc, rfl⟩ := if_some h
    exact .inr ⟨_, _, hx, rfl, hc.1, hc.2, rfl⟩
  · cases h
theorem flat_rep_len {α : Type} (xs : List α) : ∀ n, (List.replicate n xs).flatten.length = xs.length * n
  | 0 => by simp
  | n + 1 => by rw [List.replicate_succ, List.flatten_cons, List.length_append, flat_rep_len xs n, Nat.mul_succ, Nat.add_comm]
theorem o_mul : OpR X (binaryOp .Mult) fun x y H Q => rO G C .mul [x, y] H Q := by
  intro pins s σ H x y v u Q I rx ry h
  obtain ⟨Z, μ, ds, pr, rfl, R, rv, e, q⟩ := h
  obtain ⟨d, e', rfl, r1, r2⟩ := rv.two_inv
  rcases mulS_cases e with ⟨i, j, rfl, rfl, hm, rfl⟩ | ⟨xs, j, h1, rfl, hj, hl, rfl⟩
  · exact op_mulL pins s σ Z.H x y v u Q I rx ry ⟨i, j, r1, r2, hm, q.here R rfl⟩
  · obtain ⟨a, vs, ea, qa, ra, _⟩ := R.litems h1 r1
    obtain ⟨j1, j2⟩ := rng62_ok hj
    exact op_rep pins s σ Z.H x y v u Q I rx ry ⟨a, j, vs, ea, r2, qa, by omega, by omega, by rw [← ra.length, ← LIM_eq]; exact hl, q.made R (ra.flat_rep _) (by rw [flat_rep_len]; exact hl)⟩
end
end PyE
set_option maxRecDepth 100000
set_option maxHeartbeats 4000000
namespace PyE
open PySem PySem.Spec PyProof.Rows L2
/-! ### data read off a heap -/
section
variable {G : Gi} {Z : Wd} {μ : Mu}
mutual
theorem dp_d {R : Nat → Option PyData} (hR : ∀ (n : Nat) (a : Addr) (p : PyData), Z.th[n]? = some a → R n = some p → p.canLay0 = true → Dp G.K Z.H (.ref a) p) :
    ∀ (d : D) (v : V) (p : PyData), d.py R = some p → p.canLay0 = true → RV G Z d v → Dp G.K Z.H v p
  | .none, v, p, e, _, r => by
    have e' : PyData.none = p := Option.some.inj e
    rw [← e', show v = V.non from r]; exact .non
  | .bl b, v, p, e, _, r => by
    have e' : PyData.bool b = p := Option.some.inj e
    rw [← e', show v = V.bl b from r]; exact .bl b
  | .int b, v, p, e, _, r => by
    have e' : PyData.int b = p := Option.some.inj e
    rw [← e', show v = V.int b from r]; exact .int b
  | .str b, v, p, e, _, r => by
    have e' : PyData.str b = p := Option.some.inj e
    rw [← e', show v = V.str b from r]; exact .str b
  | .fn _, _, _, e, _, _ => by cases e
  | .exc _ _, _, _, e, _, _ => by cases e
  | .dct, _, p, e, l, _ => by
    have e' : PyData.dict [] = p := Option.some.inj e
    rw [← e'] at l
    simp [PyData.canLay0] at l
  | .scr xs, v, p, e, _, r => by
    have e' : PyData.list (xs.map .int) = p := Option.some.inj e
    obtain ⟨a, ea, q, _⟩ := r
    rw [← e', ea]
    refine .lst (xs := xs.map V.int) ?_ (dp_ints xs)
    rcases q with ⟨o, q⟩ | q
    · exact .inl (.inr ⟨o, q⟩)
    · exact q _
  | .tup ds, v, p, e, l, r => by
    obtain ⟨ps, e1, e2⟩ := Option.map_eq_some_iff.mp (show (D.pyL R ds).map .tuple = some p from e)
    obtain ⟨a, vs, ea, q, _, rs⟩ := r
    subst e2
    rw [ea]
    exact .tup q (dp_l hR ds vs ps e1 (by simpa [PyData.canLay0] using l) rs)
  | .lst ds, v, p, e, l, r => by
    obtain ⟨ps, e1, e2⟩ := Option.map_eq_some_iff.mp (show (D.pyL R ds).map .list = some p from e)
    obtain ⟨a, vs, ea, _, q, _, rs⟩ := r
    subst e2
    rw [ea]
    exact .lst (SqL.of q) (dp_l hR ds vs ps e1 (by simpa [PyData.canLay0] using l) rs)
  | .ref n, v, p, e, l, r => by
    obtain ⟨a, e1, e2⟩ := r
    rw [e2]
    exact hR n a p e1 e l
theorem dp_l {R : Nat → Option PyData} (hR : ∀ (n : Nat) (a : Addr) (p : PyData), Z.th[n]? = some a → R n = some p → p.canLay0 = true → Dp G.K Z.H (.ref a) p) :
    ∀ (ds : List D) (vs : List V) (ps : List PyData), D.pyL R ds = some ps → PyData.canLayAll0 ps = true → RVs G Z ds vs → DpAll G.K Z.H vs ps
  | [], vs, ps, e, _, r => by
    have e' : [] = ps := Option.some.inj e
    rw [← e', show vs = [] from r]; exact .nil
  | d :: ds, vs, ps, e, l, r => by
    obtain ⟨p, e1, e2⟩ := Option.bind_eq_some_iff.mp (show ((D.py R d).bind fun a => (D.pyL R ds).map fun b => a :: b) = some ps from e)
    obtain ⟨qs, e3, e4⟩ := Option.map_eq_some_iff.mp e2
    obtain ⟨v, ws, ev, r1, r2⟩ := r
    subst e4
    have l' : p.canLay0 = true ∧ PyData.canLayAll0 qs = true := by simpa [PyData.canLayAll0] using l
    rw [ev]
    exact .cons (dp_d hR d v p e1 l'.1 r1) (dp_l hR ds ws qs e3 l'.2 r2)
theorem dp_ints : ∀ xs : List Int, DpAll G.K Z.H (xs.map V.int) (xs.map PyData.int)
  | [] => .nil
  | x :: xs => .cons (.int x) (dp_ints xs)
end
theorem dp_tab (R : Rel G Z μ) : ∀ (k n : Nat) (a : Addr) (p : PyData), Z.th[n]? = some a → tab μ k n = some p → p.canLay0 = true → Dp G.K Z.H (.ref a) p
  | 0, _, _, _, _, e, _ => by cases e
  | k + 1, n, a, p, hn, e, l => by
    unfold tab at e
    cases hm : μ[n]? with
    | none => rw [hm] at e; cases e
    | some xs =>
      rw [hm] at e
      obtain ⟨ps, e1, e2⟩ := Option.map_eq_some_iff.mp e
      obtain ⟨vs, hv, rs, _⟩ := R.cell n a xs hn hm
      subst e2
      exact .lst (SqL.of hv) (dp_l (dp_tab R k) xs vs ps e1 (by simpa [PyData.canLay0] using l) rs)
theorem dp_view (R : Rel G Z μ) {d : D} {v : V} {p : PyData} (h : view μ d = some p) (l : p.canLay0 = true) (r : RV G Z d v) : Dp G.K Z.H v p := dp_d (dp_tab R FUEL) d v p h l r
end
section
variable {X : Cx} {G : Gi} {C : Cfg}
theorem eqD_some {μ : Mu} {x y : D} {b : Bool} (h : eqD μ x y = some b) : ∃ p q, view μ x = some p ∧ view μ y = some q ∧ SeqAt.shaped p = true ∧ SeqAt.shaped q = true ∧ b = PyData.eqv p q := by
  obtain ⟨p, h1, h⟩ := Option.bind_eq_some_iff.mp h
  obtain ⟨q, h2, h⟩ := Option.bind_eq_some_iff.mp h
  split at h
  · rename_i hs
    have hs := Bool.and_eq_true_iff.mp hs
    exact ⟨p, q, h1, h2, hs.1, hs.2, (Option.some.inj h).symm⟩
  · cases h
theorem o_eq (hK : X.K = G.K) (hu : X.A.units + 64 < cLine) : OpR X (compareOp .Eq) fun x y H Q => rO G C .eq [x, y] H Q := by
  intro pins s σ H x y v u Q I rx ry h
  obtain ⟨Z, μ, ds, pr, rfl, R, rv, e, q⟩ := h
  obtain ⟨d, e', rfl, r1, r2⟩ := rv.two_inv
  obtain ⟨b, h1, rfl⟩ := Option.map_eq_some_iff.mp (show (eqD μ d e').map (fun b => PR.v (.bl b)) = some pr from e)
  obtain ⟨p1, p2, v1, v2, s1, s2, rfl⟩ := eqD_some h1
  exact op_eqD hu pins s σ Z.H x y v u Q I rx ry ⟨p1, p2, by rw [hK]; exact dp_view R v1 (SeqAt.canLay_of_shaped s1) r1, by rw [hK]; exact dp_view R v2 (SeqAt.canLay_of_shaped s2) r2, s1, s2, q.here R rfl⟩
theorem o_ne (hK : X.K = G.K) (hu : X.A.units + 64 < cLine) : OpR X (compareOp .NotEq) fun x y H Q => rO G C .ne [x, y] H Q := by
  intro pins s σ H x y v u Q I rx ry h
  obtain ⟨Z, μ, ds, pr, rfl, R, rv, e, q⟩ := h
  obtain ⟨d, e', rfl, r1, r2⟩ := rv.two_inv
  obtain ⟨b, h1, rfl⟩ := Option.map_eq_some_iff.mp (show (eqD μ d e').map (fun b => PR.v (.bl !b)) = some pr from e)
  obtain ⟨p1, p2, v1, v2, s1, s2, rfl⟩ := eqD_some h1
  exact op_neD hu pins s σ Z.H x y v u Q I rx ry ⟨p1, p2, by rw [hK]; exact dp_view R v1 (SeqAt.canLay_of_shaped s1) r1, by rw [hK]; exact dp_view R v2 (SeqAt.canLay_of_shaped s2) r2, s1, s2, q.here R rfl⟩
theorem lexLt_eq : ∀ a b : List Int, lexLt a b = HT.lexLt a b
  | [], [] => rfl
  | [], _ :: _ => rfl
  | _ :: _, [] => rfl
  | a :: r, b :: s => by
    unfold lexLt HT.lexLt
    rw [lexLt_eq r s]
theorem ltS_cases {d e : D} {pr : PR} (h : ltS d e = some pr) : (∃ i j, d = .int i ∧ e = .int j ∧ pr = .v (.bl (decide (i < j)))) ∨ ∃ xs ys a b, d = .tup xs ∧ e = .tup ys ∧ asInts xs = some a ∧ asInts ys = some b ∧ pr = .v (.bl (lexLt a b)) := by
  unfold ltS at h
  split at h
  · exact .inl ⟨_, _, rfl, rfl, some_v h⟩
  · obtain ⟨a, h1, h⟩ := Option.bind_eq_some_iff.mp h
    obtain ⟨b, h2, rfl⟩ := Option.map_eq_some_iff.mp h
    exact .inr ⟨_, _, a, b, rfl, rfl, h1, h2, rfl⟩
  · cases h
theorem o_lt (hK : X.K = G.K) (hu : X.A.units < cLine) : OpR X (compareOp .Lt) fun x y H Q => rO G C .lt [x, y] H Q := by
  intro pins s σ H x y v u Q I rx ry h
  obtain ⟨Z, μ, ds, pr, rfl, R, rv, e, q⟩ := h
  obtain ⟨d, e', rfl, r1, r2⟩ := rv.two_inv
  rcases ltS_cases e with ⟨i, j, rfl, rfl, rfl⟩ | ⟨xs, ys, a, b, rfl, rfl, h1, h2, rfl⟩
  · exact op_lt pins s σ Z.H x y v u Q I rx ry ⟨i, j, r1, r2, q.here R rfl⟩
  · obtain ⟨p, vs, ep, qp, _, rp⟩ := r1
    obtain ⟨p', ws, ep', qp', _, rp'⟩ := r2
    have e1 := ints_of h1 rp
    have e2 := ints_of h2 rp'
    subst e1 e2
    exact op_ltT hu pins s σ Z.H x y v u Q I rx ry ⟨p, p', a, b, ep, ep', by rw [hK]; exact qp, by rw [hK]; exact qp', by rw [← lexLt_eq]; exact q.here R rfl⟩
theorem o_le : OpR X (compareOp .LtE) fun x y H Q => rO G C .le [x, y] H Q := o_int (fun _ _ _ => rfl) op_le fun i j pr Z μ Q h R q => by
  rw [some_v h] at q; exact ⟨i, j, rfl, rfl, q.here R rfl⟩
theorem o_gt : OpR X (compareOp .Gt) fun x y H Q => rO G C .gt [x, y] H Q := o_int (fun _ _ _ => rfl) op_gt fun i j pr Z μ Q h R q => by
  rw [some_v h] at q; exact ⟨i, j, rfl, rfl, q.here R rfl⟩
theorem o_ge : OpR X (compareOp .GtE) fun x y H Q => rO G C .ge [x, y] H Q := o_int (fun _ _ _ => rfl) op_ge fun i j pr Z μ Q h R q => by
  rw [some_v h] at q; exact ⟨i, j, rfl, rfl, q.here R rfl⟩
theorem RV.none_iff {Z : Wd} {d : D} {x : V} (r : RV G Z d x) : decide (x = .non) = isNone d := by
  cases d with
  | none => rw [show x = V.non from r]; rfl
  | bl b => rw [show x = V.bl b from r]; rfl
  | int b => rw [show x = V.int b from r]; rfl
  | str b => rw [show x = V.str b from r]; rfl
  | tup b => obtain ⟨a, _, e, _⟩ := r; rw [e]; rfl
  | lst b => obtain ⟨a, _, e, _⟩ := r; rw [e]; rfl
  | ref b => obtain ⟨a, _, e⟩ := r; rw [e]; rfl
  | fn b => rw [show x = V.ref _ from r.2]; rfl
  | dct => obtain ⟨a, e, _⟩ := r; rw [e]; rfl
  | exc c b => obtain ⟨_, a, _, _, e, _⟩ := r; rw [e]; rfl
  | scr b => obtain ⟨a, e, _⟩ := r; rw [e]; rfl
theorem RV.bl_iff {Z : Wd} {d : D} {x : V} (b : Bool) (r : RV G Z d x) : decide (x = .bl b) = isBl b d := by
  cases d with
  | none => rw [show x = V.non from r]; rfl
  | bl c => rw [show x = V.bl c from r]; cases b <;> cases c <;> rfl
  | int b => rw [show x = V.int b from r]; rfl
  | str b => rw [show x = V.str b from r]; rfl
  | tup b => obtain ⟨a, _, e, _⟩ := r; rw [e]; rfl
  | lst b => obtain ⟨a, _, e, _⟩ := r; rw [e]; rfl
  | ref b => obtain ⟨a, _, e⟩ := r; rw [e]; rfl
  | fn b => rw [show x = V.ref _ from r.2]; rfl
  | dct => obtain ⟨a, e, _⟩ := r; rw [e]; rfl
  | exc c b => obtain ⟨_, a, _, _, e, _⟩ := r; rw [e]; rfl
  | scr b => obtain ⟨a, e, _⟩ := r; rw [e]; rfl
theorem is_bool_of {x : V} {v : Value} (r : RelV x v) (b : Bool) : compareOp .Is v (.bool b) = pure (.bool (decide (x = .bl b))) := by
  cases x with
  | non => rw [show v = Value.none from r]; rfl
  | bl c => rw [show v = Value.bool c from r]; cases b <;> cases c <;> rfl
  | int i => obtain ⟨t, rfl⟩ := r; rfl
  | str i => obtain ⟨t, rfl⟩ := r; rfl
  | byt i => obtain ⟨t, rfl⟩ := r; rfl
  | flt i => obtain ⟨t, rfl⟩ := r; rfl
  | ref i => rw [show v = Value.ref i from r]; rfl
  | ty i => rw [show v = Value.type i from r]; rfl
theorem o_isn : OpR X (compareOp .Is) fun x y H Q => y = .non ∧ rO G C .isn [x] H Q := by
  intro pins s σ H x y v u Q I rx ry h
  obtain ⟨rfl, Z, μ, ds, pr, rfl, R, rv, e, q⟩ := h
  obtain ⟨d, rfl, r1⟩ := rv.one_inv
  rw [some_v e] at q
  exact op_isN pins s σ Z.H x .non v u Q I rx ry ⟨rfl, q.here R (show V.bl _ = V.bl _ by rw [r1.none_iff])⟩
theorem o_notn : OpR X (compareOp .IsNot) fun x y H Q => y = .non ∧ rO G C .notn [x] H Q := by
  intro pins s σ H x y v u Q I rx ry h
  obtain ⟨rfl, Z, μ, ds, pr, rfl, R, rv, e, q⟩ := h
  obtain ⟨d, rfl, r1⟩ := rv.one_inv
  rw [some_v e] at q
  exact op_notN pins s σ Z.H x .non v u Q I rx ry ⟨rfl, q.here R (show V.bl _ = V.bl _ by rw [r1.none_iff])⟩
theorem o_isb (b : Bool) : OpR X (compareOp .Is) fun x y H Q => y = .bl b ∧ rO G C (.isb b) [x] H Q := by
  intro pins s σ H x y v u Q I rx ry h
  obtain ⟨rfl, Z, μ, ds, pr, rfl, R, rv, e, q⟩ := h
  obtain ⟨d, rfl, r1⟩ := rv.one_inv
  rw [some_v e] at q
  rw [show u = Value.bool b from ry, is_bool_of rx b, r1.bl_iff b]
  exact wpAny_pure ⟨.bl (isBl b d), Z.H, I, rfl, q.here R rfl⟩
end
end PyE
set_option maxRecDepth 100000
set_option maxHeartbeats 4000000
namespace PyE
open PySem PySem.Spec PyProof.Rows L2
section
variable {X : Cx} {G : Gi} {C : Cfg}
theorem inS_some {μ : Mu} {x y : D} {b : Bool} (h : inS μ x y = some b) : ∃ d ds, view μ x = some d ∧ view μ y = some (.list ds) ∧ SeqAt.shaped d = true ∧ SeqAt.shaped (.list ds) = true ∧ b = ds.any fun z => PyData.eqv z d := by
  obtain ⟨d, h1, h⟩ := Option.bind_eq_some_iff.mp h
  obtain ⟨l, h2, h⟩ := Option.bind_eq_some_iff.mp h
  split at h
  · split at h
    · rename_i hs
      have hs := Bool.and_eq_true_iff.mp hs
      exact ⟨d, _, h1, h2, hs.1, hs.2, (Option.some.inj h).symm⟩
    · cases h
  · cases h
theorem o_in (hK : X.K = G.K) (hu : X.A.units + 65 < cLine) : OpR X (compareOp .In) fun x y H Q => rO G C .in_ [x, y] H Q := by
  intro pins s σ H x y v u Q I rx ry h
  obtain ⟨Z, μ, ds, pr, rfl, R, rv, e, q⟩ := h
  obtain ⟨d, e', rfl, r1, r2⟩ := rv.two_inv
  obtain ⟨b, h1, rfl⟩ := Option.map_eq_some_iff.mp (show (inS μ d e').map (fun b => PR.v (.bl b)) = some pr from e)
  obtain ⟨p, ps, v1, v2, s1, s2, rfl⟩ := inS_some h1
  exact op_inD hu pins s σ Z.H x y v u Q I rx ry ⟨p, ps, by rw [hK]; exact dp_view R v1 (SeqAt.canLay_of_shaped s1) r1, by rw [hK]; exact dp_view R v2 (SeqAt.canLay_of_shaped s2) r2, s1, s2, q.here R rfl⟩
theorem o_notin (hK : X.K = G.K) (hu : X.A.units + 65 < cLine) : OpR X (compareOp .NotIn) fun x y H Q => rO G C .notin [x, y] H Q := by
  intro pins s σ H x y v u Q I rx ry h
  obtain ⟨Z, μ, ds, pr, rfl, R, rv, e, q⟩ := h
  obtain ⟨d, e', rfl, r1, r2⟩ := rv.two_inv
  obtain ⟨b, h1, rfl⟩ := Option.map_eq_some_iff.mp (show (inS μ d e').map (fun b => PR.v (.bl !b)) = some pr from e)
  obtain ⟨p, ps, v1, v2, s1, s2, rfl⟩ := inS_some h1
  exact op_notInD hu pins s σ Z.H x y v u Q I rx ry ⟨p, ps, by rw [hK]; exact dp_view R v1 (SeqAt.canLay_of_shaped s1) r1, by rw [hK]; exact dp_view R v2 (SeqAt.canLay_of_shaped s2) r2, s1, s2, q.here R rfl⟩
/-! ### items, slices -/
theorem idxS_some {μ : Mu} {x k : D} {pr : PR} (h : idxS μ x k = some pr) : ∃ i xs j d, k = .int i ∧ items μ x = some xs ∧ place i xs.length = some j ∧ xs[j]? = some d ∧ pr = .v d := by
  unfold idxS at h
  split at h
  · obtain ⟨xs, h1, h⟩ := Option.bind_eq_some_iff.mp h
    obtain ⟨j, h2, h⟩ := Option.bind_eq_some_iff.mp h
    obtain ⟨d, h3, rfl⟩ := Option.map_eq_some_iff.mp h
    exact ⟨_, xs, j, d, rfl, h1, h2, h3, rfl⟩
  · cases h
theorem o_idx (hK : X.K = G.K) : IxR X fun x y H Q => rO G C .idx [x, y] H Q := by
  intro value slice pins s σ H x y v u Q I rx ry h hs
  obtain ⟨Z, μ, ds, pr, rfl, R, rv, e, q⟩ := h
  obtain ⟨d, e', rfl, r1, r2⟩ := rv.two_inv
  obtain ⟨i, xs, j, z, rfl, h1, h2, h3, rfl⟩ := idxS_some e
  obtain ⟨a, vs, ea, qa, ra, _⟩ := R.items h1 r1
  obtain ⟨w, h4, rw'⟩ := ra.get h3
  have hat : atI vs i = some w := by
    have e0 : (ixN vs.length i) = some j := by rw [← ra.length]; exact h2
    unfold atI
    rw [e0]
    exact h4
  rcases qa with qa | qa
  · exact ix_list value slice pins s σ Z.H x y v u Q I rx ry ⟨a, vs, i, w, ea, r2, by rw [hK]; exact qa, hat, q.here R rw'⟩ hs
  · exact ix_tup value slice pins s σ Z.H x y v u Q I rx ry ⟨a, vs, i, w, ea, r2, by rw [hK]; exact qa, hat, q.here R rw'⟩ hs
/-- a slice's bounds, of a list -/
def rSl (G : Gi) (μ0 : Unit) : V → Option Int → Option Int → Hp → VK → Prop := fun x lo hi H Q => ∃ Z μ d pr, Z.H = H ∧ Rel G Z μ ∧ RV G Z d x ∧ slcS μ d lo hi = some pr ∧ PrP G Z μ pr Q
theorem clamp_eq (i : Int) (n k : Nat) : clamp i n = HT.sIx n k (some i) := by
  unfold clamp
  show _ = if i < 0 then (i + (n : Int)).toNat else min i.toNat n
  by_cases h : 0 ≤ i
  · rw [if_pos h, if_neg (by omega)]
  · rw [if_neg h, if_pos (by omega)]
theorem take_drop' {α : Type} (l : List α) (a b : Nat) : (l.take b).drop a = (l.drop a).take (b - a) := by
  rw [List.drop_take]
theorem o_slc (hK : X.K = G.K) : SlR X (rSl G ()) := by
  intro pins s σ H x v vl vu lo hi sl Q I rx hs pl pu h
  obtain ⟨Z, μ, d, pr, rfl, R, r, e, q⟩ := h
  obtain ⟨xs, h1, rfl⟩ := Option.map_eq_some_iff.mp e
  obtain ⟨a, vs, ea, qa, ra, z⟩ := R.sitems h1 r
  have hs' : ∀ (o : Option Int) (k : Nat), cutAt o xs.length k = HT.sIx xs.length k o := fun o k => by
    cases o with
    | none => rfl
    | some i => exact clamp_eq i _ _
  have hc : cut xs (cutAt lo xs.length 0) (cutAt hi xs.length xs.length) = (xs.take (cutAt hi xs.length xs.length)).drop (cutAt lo xs.length 0) := rfl
  refine sl_list pins s σ Z.H x v vl vu lo hi sl Q I rx hs pl pu ⟨a, vs, ea, by rw [hK]; exact qa, fun p hp => ?_⟩
  have e2 : cutV vs lo hi = (vs.take (cutAt hi xs.length xs.length)).drop (cutAt lo xs.length 0) := by
    unfold cutV
    rw [take_drop', hs', hs', ← ra.length]
  rw [e2]
  rw [hc] at q
  refine q.made R ((ra.take _).drop _) ?_ p hp
  rw [List.length_drop, List.length_take]
  omega
/-! ### built-in functions -/
theorem lenS_cases {μ : Mu} {d : D} {pr : PR} (h : lenS μ d = some pr) : (∃ s, d = .str s ∧ s.length ≤ LIM ∧ pr = .v (.int s.length)) ∨ ∃ xs, items μ d = some xs ∧ pr = .v (.int xs.length) := by
  unfold lenS at h
  split at h
  · obtain ⟨hc, rfl⟩ := if_some h
    exact .inl ⟨_, rfl, hc, rfl⟩
  · obtain ⟨xs, h1, rfl⟩ := Option.map_eq_some_iff.mp h
    exact .inr ⟨xs, h1, rfl⟩
theorem o_len (hK : X.K = G.K) : CallR X (.builtin "len") fun vs H Q => (∃ x, vs = [x]) ∧ rO G C .len vs H Q := by
  intro pins s σ H xs us Q I r h
  obtain ⟨⟨x, rfl⟩, Z, μ, ds, pr, rfl, R, rv, e, q⟩ := h
  obtain ⟨d, rfl, r1⟩ := rv.one_inv
  rcases lenS_cases e with ⟨z, rfl, hz, rfl⟩ | ⟨ys, h1, rfl⟩
  · have e1 : x = .str z := r1
    subst e1
    exact call_len pins s σ Z.H _ us Q I r ⟨.str z, z.length, rfl, ⟨by rw [← LIM_eq]; exact hz, rfl⟩, q.here R rfl⟩
  · obtain ⟨a, vs, ea, qa, ra, _⟩ := R.items h1 r1
    subst ea
    refine call_len pins s σ Z.H _ us Q I r ⟨.ref a, ys.length, rfl, ?_, q.here R rfl⟩
    rw [hK]
    rcases qa with qa | qa
    · exact .inl ⟨vs, qa, ra.length⟩
    · exact .inr ⟨vs, qa, ra.length⟩
theorem o_abs : CallR X (.builtin "abs") fun vs H Q => (∃ x, vs = [x]) ∧ rO G C .abs vs H Q := by
  intro pins s σ H xs us Q I r h
  obtain ⟨⟨x, rfl⟩, Z, μ, ds, pr, rfl, R, rv, e, q⟩ := h
  obtain ⟨d, rfl, r1⟩ := rv.one_inv
  cases d with
  | int i =>
    rw [some_v e] at q
    exact call_abs pins s σ Z.H _ us Q I r ⟨i, by rw [show x = V.int i from r1], q.here R rfl⟩
  | _ => cases (show (none : Option PR) = some pr from e)
theorem o_int_ : CallR X (.type "int") fun vs H Q => (∃ x, vs = [x]) ∧ rO G C .int_ vs H Q := by
  intro pins s σ H xs us Q I r h
  obtain ⟨⟨x, rfl⟩, Z, μ, ds, pr, rfl, R, rv, e, q⟩ := h
  obtain ⟨d, rfl, r1⟩ := rv.one_inv
  cases d with
  | int i =>
    rw [some_v e] at q
    exact call_int1 pins s σ Z.H _ us Q I r (.inl ⟨i, by rw [show x = V.int i from r1], q.here R rfl⟩)
  | bl i =>
    rw [some_v e] at q
    exact call_int1 pins s σ Z.H _ us Q I r (.inr ⟨i, by rw [show x = V.bl i from r1], q.here R rfl⟩)
  | _ => cases (show (none : Option PR) = some pr from e)
theorem o_bool_ : CallR X (.type "bool") fun vs H Q => (∃ x, vs = [x]) ∧ rO G C .bool_ vs H Q := by
  intro pins s σ H xs us Q I r h
  obtain ⟨⟨x, rfl⟩, Z, μ, ds, pr, rfl, R, rv, e, q⟩ := h
  obtain ⟨d, rfl, r1⟩ := rv.one_inv
  cases d with
  | int i =>
    rw [some_v e] at q
    exact call_bool1 pins s σ Z.H _ us Q I r (.inl ⟨i, by rw [show x = V.int i from r1], q.here R rfl⟩)
  | bl i =>
    rw [some_v e] at q
    exact call_bool1 pins s σ Z.H _ us Q I r (.inr ⟨i, by rw [show x = V.bl i from r1], q.here R rfl⟩)
  | _ => cases (show (none : Option PR) = some pr from e)
theorem o_max2 (hc : X.calm = true) : CallR X (.builtin "max") fun vs H Q => (∃ x y, vs = [x, y]) ∧ rO G C .max2 vs H Q := by
  intro pins s σ H xs us Q I r h
  obtain ⟨⟨x, y, rfl⟩, Z, μ, ds, pr, rfl, R, rv, e, q⟩ := h
  obtain ⟨d, d2, rfl, r1, r2⟩ := rv.two_inv
  obtain ⟨i, j, rfl, rfl, e⟩ := intO_some e
  rw [some_v e] at q
  exact call_max2 hc pins s σ Z.H _ us Q I r ⟨i, j, by rw [show x = V.int i from r1, show y = V.int j from r2], q.here R rfl⟩
theorem o_min2 (hc : X.calm = true) : CallR X (.builtin "min") fun vs H Q => (∃ x y, vs = [x, y]) ∧ rO G C .min2 vs H Q := by
  intro pins s σ H xs us Q I r h
  obtain ⟨⟨x, y, rfl⟩, Z, μ, ds, pr, rfl, R, rv, e, q⟩ := h
  obtain ⟨d, d2, rfl, r1, r2⟩ := rv.two_inv
  obtain ⟨i, j, rfl, rfl, e⟩ := intO_some e
  rw [some_v e] at q
  exact call_min2 hc pins s σ Z.H _ us Q I r ⟨i, j, by rw [show x = V.int i from r1, show y = V.int j from r2], q.here R rfl⟩
theorem o_sum1 (hK : X.K = G.K) (hc : X.calm = true) : CallR X (.builtin "sum") fun vs H Q => (∃ x, vs = [x]) ∧ rO G C .sum1 vs H Q := by
  intro pins s σ H xs us Q I r h
  obtain ⟨⟨x, rfl⟩, Z, μ, ds, pr, rfl, R, rv, e, q⟩ := h
  obtain ⟨d, rfl, r1⟩ := rv.one_inv
  obtain ⟨ys, h1, e⟩ := Option.bind_eq_some_iff.mp (show ((litems μ d).bind fun xs => (asInts xs).map fun l => PR.v (.int l.sum)) = some pr from e)
  obtain ⟨l, h2, rfl⟩ := Option.map_eq_some_iff.mp e
  obtain ⟨a, vs, ea, qa, ra, _⟩ := R.litems h1 r1
  have ev := ints_of h2 ra
  subst ea ev
  exact cr_sum hc pins s σ Z.H _ us Q I r ⟨a, l, rfl, .inl (.inl qa), q.here R rfl⟩
theorem o_all (hK : X.K = G.K) (hc : X.calm = true) : CallR X (.builtin "all") fun vs H Q => (∃ x, vs = [x]) ∧ rO G C .all vs H Q := by
  intro pins s σ H xs us Q I r h
  obtain ⟨⟨x, rfl⟩, Z, μ, ds, pr, rfl, R, rv, e, q⟩ := h
  obtain ⟨d, rfl, r1⟩ := rv.one_inv
  obtain ⟨ys, h1, e⟩ := Option.bind_eq_some_iff.mp (show ((litems μ d).bind fun xs => (asBools xs).map fun l => PR.v (.bl (l.all id))) = some pr from e)
  obtain ⟨l, h2, rfl⟩ := Option.map_eq_some_iff.mp e
  obtain ⟨a, vs, ea, qa, ra, _⟩ := R.litems h1 r1
  have ev := bools_of h2 ra
  subst ea ev
  exact cr_all hc pins s σ Z.H _ us Q I r ⟨a, l, rfl, .inl (.inl qa), q.here R rfl⟩
theorem o_any (hK : X.K = G.K) (hc : X.calm = true) : CallR X (.builtin "any") fun vs H Q => (∃ x, vs = [x]) ∧ rO G C .any vs H Q := by
  intro pins s σ H xs us Q I r h
  obtain ⟨⟨x, rfl⟩, Z, μ, ds, pr, rfl, R, rv, e, q⟩ := h
  obtain ⟨d, rfl, r1⟩ := rv.one_inv
  obtain ⟨ys, h1, e⟩ := Option.bind_eq_some_iff.mp (show ((litems μ d).bind fun xs => (asBools xs).map fun l => PR.v (.bl (l.any id))) = some pr from e)
  obtain ⟨l, h2, rfl⟩ := Option.map_eq_some_iff.mp e
  obtain ⟨a, vs, ea, qa, ra, _⟩ := R.litems h1 r1
  have ev := bools_of h2 ra
  subst ea ev
  exact cr_any hc pins s σ Z.H _ us Q I r ⟨a, l, rfl, .inl (.inl qa), q.here R rfl⟩
theorem o_list (hK : X.K = G.K) : CallR X (.type "list") fun vs H Q => (∃ x, vs = [x]) ∧ rO G C .list vs H Q := by
  intro pins s σ H xs us Q I r h
  obtain ⟨⟨x, rfl⟩, Z, μ, ds, pr, rfl, R, rv, e, q⟩ := h
  obtain ⟨d, rfl, r1⟩ := rv.one_inv
  obtain ⟨ys, h1, rfl⟩ := Option.map_eq_some_iff.mp (show (items μ d).map PR.new = some pr from e)
  obtain ⟨a, vs, ea, qa, ra, z⟩ := R.items h1 r1
  subst ea
  exact call_list_of pins s σ Z.H _ us Q I r ⟨a, vs, rfl, by rw [hK]; exact qa, q.made R ra z⟩
theorem o_tuple (hK : X.K = G.K) : CallR X (.type "tuple") fun vs H Q => (∃ x, vs = [x]) ∧ rO G C .tuple vs H Q := by
  intro pins s σ H xs us Q I r h
  obtain ⟨⟨x, rfl⟩, Z, μ, ds, pr, rfl, R, rv, e, q⟩ := h
  obtain ⟨d, rfl, r1⟩ := rv.one_inv
  obtain ⟨ys, h1, rfl⟩ := Option.map_eq_some_iff.mp (show (items μ d).map (fun xs => PR.v (.tup xs)) = some pr from e)
  obtain ⟨a, vs, ea, qa, ra, z⟩ := R.items h1 r1
  subst ea
  refine call_tuple_of pins s σ Z.H _ us Q I r ⟨a, vs, rfl, ?_⟩
  rw [hK]
  rcases qa with qa | qa
  · exact .inl ⟨qa, fun p hp => q (.ref p) (Z.lay p (.tup vs)) (Ext.lay hp) (R.lay hp) ⟨p, vs, rfl, SqT.of upd_same, z, RVs.ext (Ext.lay hp) R _ _ ra⟩⟩
  · exact .inr ⟨qa, q.here R ⟨a, vs, rfl, qa, z, ra⟩⟩
end
end PyE
set_option maxRecDepth 100000
set_option maxHeartbeats 4000000
/-! sum(lists, []) -/
namespace PyE
open PySem
open Sem (wp)
namespace F
theorem args_sum2 (a b : Value) : argsOk "sum" ⟨[a, b], []⟩ := by unfold argsOk; kernel_rfl
theorem sub_list_str : isSubtype (.type "list") (.type "str") = pure false := by rw [isSubtype_type]; kernel_rfl
theorem sub_list_bytes : isSubtype (.type "list") (.type "bytes") = pure false := by rw [isSubtype_type]; kernel_rfl
theorem sub_list_bytearray : isSubtype (.type "list") (.type "bytearray") = pure false := by rw [isSubtype_type]; kernel_rfl
end F
section
variable {prog : Program} {w : World} {A : Around} {R : Result → Shared → Prop} {I L S : Addr} {vs : Array Value}
theorem drop_cons_get {α : Type} {l : List α} {i : Nat} {x : α} {r : List α} (h : l.drop i = x :: r) : l[i]? = some x ∧ l.drop (i + 1) = r := by
  have h1 : (l.drop i)[0]? = some x := by rw [h]; rfl
  rw [List.getElem?_drop] at h1
  refine ⟨by simpa using h1, ?_⟩
  have h2 : (l.drop i).drop 1 = r := by rw [h]; rfl
  rw [List.drop_drop] at h2
  exact h2
theorem sum_loop_lists (hh : A.handled = none) : ∀ (ws : List (Addr × List Value)) (i : Nat) (s : Shared) (t : Addr) (acc : List Value) (nt c : Nat),
    vs.toList.drop i = ws.map (fun p => Value.ref p.1) → s.heap.IsListIter I L i → s.heap.IsList L vs → s.heap.get? S = some { cls := .type "list", dict := none, data := .seq #[.ref t] c, slots := #[] } →
    IsL s.heap t acc.toArray nt → (∀ p ∈ ws, p.1 ≠ S ∧ ∃ n, IsL s.heap p.1 p.2.toArray n) → t ≠ S → L ≠ S → I ≠ S → acc.length + (ws.map (·.2)).flatten.length ≤ sizeLine →
    (∀ h' tk t' n', (∀ b o, b ≠ I → b ≠ S → s.heap.get? b = some o → h'.get? b = some o) → IsL h' t' (acc ++ (ws.map (·.2)).flatten).toArray n' → ((ws = [] ∧ t' = t) ∨ (ws ≠ [] ∧ s.heap.objs.size ≤ t')) →
      R (.ok (.ret (.ref t'))) { s with heap := h', toks := tk }) →
    codeAny (model prog w) A (.builtin "sum.loop" ⟨[.ref I, .ref S, rawInt 2, rawInt 0], []⟩) R s := by
  intro ws
  induction ws with
  | nil =>
    intro i s t acc nt c hd hit hl hS ht hw n1 n2 n3 hz hR
    have hnone : vs[i]? = none := by
      have h1 : (vs.toList.drop i)[0]? = none := by rw [hd]; rfl
      rw [List.getElem?_drop] at h1
      simpa using h1
    refine codeAny_builtin PySem.F.entry_sum_loop ?_
    rw [Around.under_plainId PySem.F.plain_sum_loop _]
    show wpAny _ A.in1 (seqItems? (.ref S) >>= _) _ _ s
    refine wpAny_bind (wpAny_seqItems hS rfl ?_)
    show wpAny _ A.in1 (tryCatch (pyNext (.ref I)) _ >>= _) _ _ s
    have it_ne : ∀ {b : Addr} {xs : Array Value} {n : Nat}, IsL s.heap b xs n → b ≠ I := fun {b xs n} q z => by
      obtain ⟨o, e, cl, _⟩ := hit
      rw [← z, q] at e
      cases e
      simp at cl
    refine wpAny_bind (wpAny_tryCatch (wpAny_pyNext_list_end hh hit hl hnone fun h' hk => ?_))
    refine wpAny_pure (hR h' s.toks t nt (fun b o h1 h2 e => hk b o h1 e) ?_ (.inl ⟨rfl, rfl⟩))
    rw [show acc ++ (([] : List (Addr × List Value)).map (·.2)).flatten = acc by simp]
    exact hk _ _ (it_ne ht) ht
  | cons p ws ih =>
    intro i s t acc nt c hd hit hl hS ht hw n1 n2 n3 hz hR
    obtain ⟨hx, hd'⟩ := drop_cons_get hd
    have hx' : vs[i]? = some (.ref p.1) := by simpa using hx
    have it_ne : ∀ {b : Addr} {xs : Array Value} {n : Nat}, IsL s.heap b xs n → b ≠ I := fun {b xs n} q z => by
      obtain ⟨o, e, cl, _⟩ := hit
      rw [← z, q] at e
      cases e
      simp at cl
    have L_ne : L ≠ I := fun z => by
      obtain ⟨o, e, cl, _⟩ := hit
      obtain ⟨o2, e2, cl2, _⟩ := hl
      rw [← z, e2] at e
      cases e
      rw [cl2] at cl
      simp at cl
    refine codeAny_builtin PySem.F.entry_sum_loop ?_
    rw [Around.under_plainId PySem.F.plain_sum_loop _]
    show wpAny _ A.in1 (seqItems? (.ref S) >>= _) _ _ s
    refine wpAny_bind (wpAny_seqItems hS rfl ?_)
    show wpAny _ A.in1 (tryCatch (pyNext (.ref I)) _ >>= _) _ _ s
    refine wpAny_bind (wpAny_tryCatch (wpAny_pyNext_list_item hit hl hx' fun h1 hit1 hs1 => ?_))
    obtain ⟨pS, np, hp⟩ := hw p (List.mem_cons_self ..)
    have hp1 : IsL h1 p.1 p.2.toArray np := hs1.extBut _ _ (it_ne hp) hp
    have ht1 : IsL h1 t acc.toArray nt := hs1.extBut _ _ (it_ne ht) ht
    have hS1 := hs1.extBut _ _ (Ne.symm n3) hS
    show wpAny _ A.in1 ((holding [Value.ref p.1] (binaryOp .Add (.ref t) (.ref p.1))).attempt >>= _) _ _ _
    have hzz : acc.length + p.2.length + (ws.map (·.2)).flatten.length ≤ sizeLine := by
      have : ((p :: ws).map (·.2)).flatten.length = p.2.length + (ws.map (·.2)).flatten.length := by simp
      omega
    refine wpAny_bind (wpAny_attempt (wpAny_holding (PySem.P.add_list ht1 hp1 ?_ (by simp; omega))))
    have hsz1 : h1.objs.size = s.heap.objs.size := hs1.1
    have lt : ∀ {b : Addr} {o : Obj}, s.heap.get? b = some o → b ≠ s.heap.objs.size := fun e => Nat.ne_of_lt (Heap.lt_size e)
    have hnew : ∀ (o : Obj), o.isFreed = false → (h1.push o).get? s.heap.objs.size = some o := fun o hf => by
      have := Heap.get?_push_size h1 (o := o) hf
      rw [hsz1] at this
      exact this
    show wpAny _ A.in1 (updateSeq S (fun _ => #[.ref h1.objs.size]) >>= _) _ _ _
    refine wpAny_bind ?_
    have hS2 : (h1.push { cls := .type "list", data := .seq (acc.toArray ++ p.2.toArray) }).get? S = some _ := Heap.get?_push_of_some _ hS1
    refine wpAny_updateSeq hS2 rfl ?_
    have hS3 := Heap.get?_update_self (Obj.mapSeq fun _ => #[Value.ref h1.objs.size]) hS2 rfl
    refine wpAny_bind (wpAny_letGo ?_)
    refine wpAny_bind ?_
    refine wpAny_updateSeq hS3 rfl (wpAny_pure ⟨plainId_quiet PySem.F.plain_sum_loop _, ?_⟩)
    have hS4 := Heap.get?_update_self (Obj.mapSeq fun _ => #[Value.ref h1.objs.size]) hS3 rfl
    have up : ∀ b o, b ≠ S → (h1.push { cls := .type "list", data := .seq (acc.toArray ++ p.2.toArray) }).get? b = some o →
        (((h1.push { cls := .type "list", data := .seq (acc.toArray ++ p.2.toArray) }).update S (Obj.mapSeq fun _ => #[Value.ref h1.objs.size])).update S (Obj.mapSeq fun _ => #[Value.ref h1.objs.size])).get? b = some o :=
      fun b o hb e => (Heap.get?_update_other _ _ (Ne.symm hb)).trans ((Heap.get?_update_other _ _ (Ne.symm hb)).trans e)
    have kp : ∀ b o, b ≠ I → b ≠ S → s.heap.get? b = some o →
        (((h1.push { cls := .type "list", data := .seq (acc.toArray ++ p.2.toArray) }).update S (Obj.mapSeq fun _ => #[Value.ref h1.objs.size])).update S (Obj.mapSeq fun _ => #[Value.ref h1.objs.size])).get? b = some o :=
      fun b o hI hb e => up b o hb (Heap.get?_push_of_some _ (hs1.extBut _ _ hI e))
    have hSlt : S ≠ h1.objs.size := by rw [hsz1]; exact lt hS
    have hT : IsL (((h1.push { cls := .type "list", data := .seq (acc.toArray ++ p.2.toArray) }).update S (Obj.mapSeq fun _ => #[Value.ref h1.objs.size])).update S (Obj.mapSeq fun _ => #[Value.ref h1.objs.size])) h1.objs.size (acc ++ p.2).toArray 0 := by
      have := up h1.objs.size _ (Ne.symm hSlt) (Heap.get?_push_size h1 (o := { cls := .type "list", data := .seq (acc.toArray ++ p.2.toArray) }) rfl)
      have ea : acc.toArray ++ p.2.toArray = (acc ++ p.2).toArray := by simp
      rw [ea] at this ⊢
      exact this
    refine ih (i + 1) _ h1.objs.size (acc ++ p.2) 0 _ hd' (hit1.at fun o e => up _ o n3 (Heap.get?_push_of_some _ e)) (hl.at fun o e => kp _ o L_ne n2 e) hS4 hT (fun q hq => ?_) (Ne.symm hSlt) n2 n3 (by rw [List.length_append]; omega) fun h' tk t' n' hk hL' hc => ?_
    · obtain ⟨q1, n, q2⟩ := hw q (List.mem_cons_of_mem _ hq)
      exact ⟨q1, n, kp _ _ (it_ne q2) q1 q2⟩
    · refine hR h' tk t' n' (fun b o hI hb e => hk b o hI hb (kp b o hI hb e)) ?_ (.inr ⟨by simp, ?_⟩)
      · have : acc ++ ((p :: ws).map (·.2)).flatten = acc ++ p.2 ++ (ws.map (·.2)).flatten := by simp
        rw [this]; exact hL'
      · rcases hc with ⟨_, rfl⟩ | ⟨_, hc⟩
        · rw [hsz1]; exact Nat.le_refl _
        · refine Nat.le_trans ?_ hc
          simp only [Heap.size_update, Heap.size_push, hsz1]
          omega
end
section
variable {prog : Program} {w : World} {A : Around} {E : Value → Shared → Prop} {s : Shared}
/-- sum(l, t) of a list of lists and a list -/
theorem call_sum_lists {L t : Addr} {vs : Array Value} {ws : List (Addr × List Value)} {acc : List Value} {nt : Nat} {Q : Value → Shared → Prop} (hh : A.handled = none) (hv : vs.toList = ws.map (fun p => Value.ref p.1)) (hl : s.heap.IsList L vs) (ht : IsL s.heap t acc.toArray nt)
    (hw : ∀ p ∈ ws, ∃ n, IsL s.heap p.1 p.2.toArray n) (hz : acc.length + (ws.map (·.2)).flatten.length ≤ sizeLine)
    (h : ∀ h' tk t' n', (∀ b o, s.heap.get? b = some o → h'.get? b = some o) → IsL h' t' (acc ++ (ws.map (·.2)).flatten).toArray n' → ((ws = [] ∧ t' = t) ∨ (ws ≠ [] ∧ s.heap.objs.size ≤ t')) → Q (.ref t') { s with heap := h', toks := tk }) :
    wpAny (model prog w) A (call (.builtin "sum") [.ref L, .ref t]) Q E s := by
  refine call_function_tree PySem.F.kind_sum PySem.F.plain_sum PySem.F.entry_sum (F.args_sum2 _ _) ?_
  unfold Builtin.«sum»
  simp only [List.length_cons, List.length_nil]
  rw [if_neg (by decide)]
  refine wpAny_bind (wpAny_of_eq (show Builtin.Builtins.bindParams "sum" ["start"] 0 ⟨[.ref t], []⟩ = pure [some (.ref t)] from rfl) ?_)
  refine wpAny_bind (wpAny_pyIter_list hl ?_)
  have lt : ∀ {b : Addr} {o : Obj}, s.heap.get? b = some o → b < s.heap.objs.size := fun e => Heap.lt_size e
  have ht1 := Heap.get?_push_of_some ({ cls := .type "list_iterator", data := .fields #[.ref L, .int 0 0] } : Obj) ht
  refine wpAny_bind (wpAny_pure ?_)
  simp only [List.forIn_cons, List.forIn_nil]
  refine wpAny_bind (wpAny_bind (wpAny_bind (wpAny_isInstance (T := "list") (b := false) ⟨_, ht1, rfl⟩ F.sub_list_str ?_)))
  simp only [Bool.false_eq_true, if_false]
  refine wpAny_pure (wpAny_bind (wpAny_bind (wpAny_isInstance (T := "list") (b := false) ⟨_, ht1, rfl⟩ F.sub_list_bytes ?_)))
  simp only [Bool.false_eq_true, if_false]
  refine wpAny_pure (wpAny_bind (wpAny_bind (wpAny_isInstance (T := "list") (b := false) ⟨_, ht1, rfl⟩ F.sub_list_bytearray ?_)))
  simp only [Bool.false_eq_true, if_false]
  refine wpAny_pure (wpAny_pure ?_)
  refine wpAny_bind (wpAny_newObj_type ?_)
  have k2 : ∀ b o, s.heap.get? b = some o → ((s.heap.push { cls := .type "list_iterator", data := .fields #[.ref L, .int 0 0] }).push { cls := .type "list", data := .seq #[.ref t] }).get? b = some o := fun b o e => Heap.get?_push_of_some _ (Heap.get?_push_of_some _ e)
  have z1 : (s.heap.push { cls := .type "list_iterator", data := .fields #[.ref L, .int 0 0] }).objs.size = s.heap.objs.size + 1 := Heap.size_push ..
  obtain ⟨oL, eL, _⟩ := id hl
  have ne1 : ∀ {b : Addr}, b < s.heap.objs.size → b ≠ (s.heap.push { cls := .type "list_iterator", data := .fields #[.ref L, .int 0 0] }).objs.size := fun {b} q z => Nat.lt_irrefl b (Nat.lt_of_lt_of_le (Nat.lt_succ_of_lt q) (Nat.le_of_eq (z.trans z1).symm))
  refine wpAny_pure ⟨plainId_quiet PySem.F.plain_sum_loop _, sum_loop_lists (I := s.heap.objs.size) (L := L) (vs := vs) hh ws 0 _ t acc nt 0 (by simpa using hv) ⟨_, Heap.get?_push_of_some _ (Heap.get?_push_size _ rfl), rfl, rfl⟩ (hl.at fun o e => k2 _ o e)
    (Heap.get?_push_size _ rfl) (k2 _ _ ht) (fun p hp => ?_) (ne1 (lt ht)) (ne1 (lt eL)) (fun q => Nat.ne_of_lt (Nat.lt_succ_self s.heap.objs.size) (q.trans z1)) hz fun h' tk t' n' hk hL hc => ?_⟩
  · obtain ⟨n, q⟩ := hw p hp
    exact ⟨ne1 (lt q), n, k2 _ _ q⟩
  · refine h h' tk t' n' (fun b o e => hk b o (Nat.ne_of_lt (lt e)) (ne1 (lt e)) (k2 b o e)) hL ?_
    rcases hc with hc | ⟨h1, h2⟩
    · exact .inl hc
    · refine .inr ⟨h1, Nat.le_trans ?_ h2⟩
      simp only [Heap.size_push]
      omega
end
end PyE
set_option maxRecDepth 100000
set_option maxHeartbeats 4000000
namespace PyE
open PySem PySem.Spec PyProof.Rows L2
/-! sum(lists, []), sorted(ints) -/
section
variable {X : Cx} {G : Gi} {C : Cfg}
theorem ws_of {pins : List (Addr × Obj)} {σ : L2.St} {H : Hp} {s : Shared} (I : L2.Inv X pins σ H s) : ∀ (ws : List (Addr × List V)), (∀ p ∈ ws, H p.1 = some (.lst p.2)) →
    ∃ us : List (Addr × List Value), us.map (·.1) = ws.map (·.1) ∧ (∀ p ∈ us, ∃ n, IsL s.heap p.1 p.2.toArray n) ∧ Vals (ws.map (·.2)).flatten (us.map (·.2)).flatten
  | [], _ => ⟨[], rfl, fun _ h => by simp at h, .nil⟩
  | p :: ws, h => by
    obtain ⟨us, e1, e2, e3⟩ := ws_of I ws fun q hq => h q (List.mem_cons_of_mem _ hq)
    obtain ⟨_, its, n, r, _, e⟩ := I.lstM (h p (List.mem_cons_self ..))
    refine ⟨(p.1, its) :: us, by simp [e1], fun q hq => ?_, ?_⟩
    · rcases List.mem_cons.mp hq with rfl | hq
      · exact ⟨n, e⟩
      · exact e2 q hq
    · rw [List.map_cons, List.map_cons, List.flatten_cons, List.flatten_cons]
      exact r.append e3
theorem refs_of : ∀ {as : List Addr} {us : List Value}, Vals (as.map V.ref) us → us = as.map Value.ref
  | [], _, .nil => rfl
  | a :: as, _, .cons r t => by
    cases r
    rw [refs_of t]; rfl
theorem cr_sum2 (hc : X.calm = true) : CallR X (.builtin "sum") fun vs H Q => ∃ (a t : Addr) (ws : List (Addr × List V)), vs = [.ref a, .ref t] ∧ H a = some (.lst (ws.map fun p => V.ref p.1)) ∧ (∀ p ∈ ws, H p.1 = some (.lst p.2)) ∧ H t = some (.lst []) ∧
    (ws.map (·.2)).flatten.length ≤ sizeLine ∧ (ws = [] → Q (.ref t) H) ∧ (ws ≠ [] → ∀ p, H p = none → Q (.ref p) (upd H p (.lst (ws.map (·.2)).flatten))) := by
  intro pins s σ H vs us Q I r h
  obtain ⟨a, t, ws, rfl, ha, hw, ht, hz, q1, q2⟩ := h
  have eu : us = [.ref a, .ref t] := refs_of (as := [a, t]) r
  subst eu
  obtain ⟨_, its, n, ri, _, ea⟩ := I.lstM ha
  obtain ⟨_, its2, n2, ri2, hl2, et⟩ := I.lstM ht
  have e2 : its2 = [] := List.eq_nil_of_length_eq_zero hl2.symm
  subst e2
  obtain ⟨ps, p1, p2, p3⟩ := ws_of I ws hw
  have ei : its = ps.map fun p => Value.ref p.1 := by
    have : its = (ws.map (·.1)).map Value.ref := refs_of (by rw [List.map_map]; exact ri)
    rw [this, ← p1, List.map_map]; rfl
  subst ei
  have hl := p3.length
  refine call_sum_lists (acc := []) (ws := ps) (I.ok.hd hc) rfl ⟨_, ea, rfl, _, rfl⟩ et p2 (by rw [← hl]; simpa using hz) fun h' tk t' n' hk hL hcs => ?_
  have en : ps = [] ↔ ws = [] := by
    have : ps.length = ws.length := by have := congrArg List.length p1; simpa using this
    constructor
    · intro z; rw [z] at this; exact List.eq_nil_of_length_eq_zero this.symm
    · intro z; rw [z] at this; exact List.eq_nil_of_length_eq_zero this
  rcases hcs with ⟨z, rfl⟩ | ⟨z, hle⟩
  · exact ⟨.ref t', H, I.kept hk, rfl, q1 (en.mp z)⟩
  · have hn : H t' = none := I.hok.fresh hle
    refine ⟨.ref t', _, I.turnedNew (t' := tk) (ch := []) (ob := .lst (ws.map (·.2)).flatten) (fun b o _ e => hk b o e) (fun b hb => absurd hb (by simp)) hle ⟨hz, _, n', p3, by simpa using hL⟩, rfl, q2 (fun z' => z (en.mpr z')) t' hn⟩
theorem sumLists_of {Z : Wd} {μ : Mu} (R : Rel G Z μ) : ∀ {xs : List D} {vs : List V} {ys : List D}, sumLists μ xs = some ys → RVs G Z xs vs →
    ∃ ws : List (Addr × List V), vs = ws.map (fun p => V.ref p.1) ∧ (∀ p ∈ ws, Z.H p.1 = some (.lst p.2)) ∧ RVs G Z ys (ws.map (·.2)).flatten
  | [], vs, ys, h, r => by
    have e1 : vs = [] := r
    have e2 : [] = ys := Option.some.inj h
    subst e1 e2
    exact ⟨[], rfl, fun _ h => by simp at h, rfl⟩
  | x :: xs, vs, ys, h, r => by
    obtain ⟨v, vs', rfl, r1, r2⟩ := r
    obtain ⟨zs, h1, h2⟩ := Option.bind_eq_some_iff.mp (show ((litems μ x).bind fun xs' => (sumLists μ xs).map fun ys => xs' ++ ys) = some ys from h)
    obtain ⟨ys', h3, rfl⟩ := Option.map_eq_some_iff.mp h2
    obtain ⟨a, us, rfl, qa, ra, _⟩ := R.litems h1 r1
    obtain ⟨ws, rfl, hw, rw'⟩ := sumLists_of R h3 r2
    refine ⟨(a, us) :: ws, rfl, fun p hp => ?_, ?_⟩
    · rcases List.mem_cons.mp hp with rfl | hp
      · exact qa
      · exact hw p hp
    · rw [List.map_cons, List.flatten_cons]
      exact ra.append rw'
theorem o_sum2 (hc : X.calm = true) : CallR X (.builtin "sum") fun vs H Q => (∃ x y, vs = [x, y]) ∧ rO G C .sum2 vs H Q := by
  intro pins s σ H xs us Q I r h
  obtain ⟨⟨x, y, rfl⟩, Z, μ, ds, pr, rfl, R, rv, e, q⟩ := h
  obtain ⟨d, d2, rfl, r1, r2⟩ := rv.two_inv
  have e' : sum2S μ d d2 = some pr := e
  unfold sum2S at e'
  split at e'
  · obtain ⟨ys, h1, e'⟩ := Option.bind_eq_some_iff.mp e'
    obtain ⟨a, vs, ea, qa, ra, _⟩ := R.litems h1 r1
    obtain ⟨t, ts, et, st, qt, _, rt⟩ := r2
    have ets : ts = [] := rt
    subst ea et ets
    split at e'
    · rename_i hn
      have hn := List.isEmpty_iff.mp hn
      subst hn
      cases e'
      have ev : vs = [] := ra
      subst ev
      refine cr_sum2 hc pins s σ Z.H _ us Q I r ⟨a, t, [], rfl, qa, fun p hp => by simp at hp, qt, Nat.zero_le _, fun _ => q.here R ⟨t, [], rfl, st, qt, Nat.zero_le _, rfl⟩, fun z => absurd rfl z⟩
    · rename_i hn
      obtain ⟨l, h2, e'⟩ := Option.bind_eq_some_iff.mp e'
      obtain ⟨rfl, hz⟩ := newL_some e'
      obtain ⟨ws, rfl, hw, rw'⟩ := sumLists_of R h2 ra
      have hne : ws ≠ [] := fun z => by
        subst z
        have : ys = [] := List.eq_nil_of_length_eq_zero (by rw [ra.length]; rfl)
        exact hn (by rw [this]; rfl)
      exact cr_sum2 hc pins s σ Z.H _ us Q I r ⟨a, t, ws, rfl, qa, hw, qt, by rw [← rw'.length, ← LIM_eq]; exact hz, fun z => absurd z hne, fun _ => q.made R rw' hz⟩
  · cases e'
/-! sorted -/
theorem o_sorted (hK : X.K = G.K) : CallR X (.builtin "sorted") fun vs H Q => (∃ x, vs = [x]) ∧ rO G C .sorted vs H Q := by
  intro pins s σ H xs us Q I r h
  obtain ⟨⟨x, rfl⟩, Z, μ, ds, pr, rfl, R, rv, e, q⟩ := h
  obtain ⟨d, rfl, r1⟩ := rv.one_inv
  have e' : sortedS μ d = some pr := e
  obtain ⟨ys, h1, e'⟩ := Option.bind_eq_some_iff.mp e'
  obtain ⟨l, h2, e'⟩ := Option.bind_eq_some_iff.mp e'
  split at e'
  · rename_i hz
    cases e'
    obtain ⟨a, vs, ea, qa, ra, _⟩ := R.litems h1 r1
    have ev := ints_of h2 ra
    subst ea ev
    refine cr_sorted pins s σ Z.H _ us Q I r ⟨a, l, rfl, .inl (.inl qa), hz, fun ns' p h3 h4 hp => ?_⟩
    have en := perm_pw_eq (h3.trans (isort_perm l).symm) h4 (isort_pw l)
    rw [en]
    exact q.made R (ints_rv _) (by rw [List.length_map, (isort_perm l).length_eq]; unfold LIM; omega) p hp
  · cases e'
end
end PyE
set_option maxRecDepth 100000
set_option maxHeartbeats 4000000
/-! zip(a, b, strict=True) of two lists -/
namespace PyE
open PySem
open Sem (wp)
abbrev IsZipS (h : Heap) (z TI TO : Addr) (f0 : Value) : Prop :=
  h.get? z = some { cls := .type "zip", dict := none, data := .fields #[f0, .bool false, .bool true, .ref TI, .ref TO], slots := #[] }
section
variable {prog : Program} {w : World} {A : Around} {E : Value → Shared → Prop} {s : Shared}
theorem nextOrEnd_item {it l : Addr} {i : Nat} {items : Array Value} {x : Value} {Q : Option Value → Shared → Prop} (hit : s.heap.IsListIter it l i)
    (hl : s.heap.IsList l items) (hx : items[i]? = some x)
    (hQ : ∀ h', h'.IsListIter it l (i + 1) → Heap.SameBut it s.heap h' → Q (some x) { s with heap := h' }) :
    wpAny (model prog w) A (Builtin.SmallTypes.nextOrEnd (.ref it)) Q E s := by
  unfold Builtin.SmallTypes.nextOrEnd
  exact wpAny_bind (wpAny_attempt (wpAny_nextOf_list_item hit hl hx fun h' a b => wpAny_pure (hQ h' a b)))
theorem nextOrEnd_end {it l : Addr} {i : Nat} {items : Array Value} {Q : Option Value → Shared → Prop} (hh : A.handled = none) (hit : s.heap.IsListIter it l i)
    (hl : s.heap.IsList l items) (hx : items[i]? = none)
    (hQ : ∀ h', Heap.ExtBut it s.heap h' → Q none { s with heap := h' }) :
    wpAny (model prog w) A (Builtin.SmallTypes.nextOrEnd (.ref it)) Q E s := by
  unfold Builtin.SmallTypes.nextOrEnd
  refine wpAny_bind (wpAny_attempt (wpAny_nextOf_list_end hh hit hl hx fun h' e a b => ?_))
  obtain ⟨o, ho, hc⟩ := b
  refine wpAny_bind (wpAny_isInstance (T := "StopIteration") (b := true) ⟨o, ho, hc⟩ isSubtype_stop ?_)
  exact wpAny_pure (hQ _ a)
theorem stop_raise {α : Type} {Q : α → Shared → Prop} (hh : A.handled = none) (hE : ∀ h' e, (∀ c o, s.heap.get? c = some o → h'.get? c = some o) → (∃ o, h'.get? e = some o ∧ o.cls = .type "StopIteration") → E (.ref e) { s with heap := h' }) :
    wpAny (model prog w) A (Builtin.SmallTypes.stopIteration : Sem α) Q E s := by
  unfold Builtin.SmallTypes.stopIteration
  refine wpAny_bind ?_
  simp only [newExc, newTuple]
  refine wpAny_bind (wpAny_newObj_type ?_ (by size_fits))
  refine wpAny_bind (m := firstArgMember _ _) (wpAny_of_eq (a := Value.none) (by first | rfl | (simp only [firstArgMember]; rfl)) ?_)
  refine wpAny_newObj_type ?_ (by size_fits)
  simp only [raiseNew]
  refine wpAny_bind (wpAny_handled ?_)
  rw [hh]
  refine wpAny_bind (wpAny_pure (wpAny_throw ?_))
  exact hE _ _ (fun c o x => Heap.get?_push_of_some _ (Heap.get?_push_of_some _ x)) ⟨_, Heap.get?_push_size _ rfl, rfl⟩

theorem zips_next_item {z TI TO i1 i2 l1 l2 : Addr} {k1 k2 : Nat} {xs ys : Array Value} {x y a b : Value} {Q : Value → Shared → Prop} (D : ZipApart z TI TO i1 i2 l1 l2)
    (hz : IsZipS s.heap z TI TO .none) (hTI : IsPair s.heap TI (.ref i1) (.ref i2)) (hTO : IsPair s.heap TO a b)
    (h1 : s.heap.IsListIter i1 l1 k1) (h2 : s.heap.IsListIter i2 l2 k2) (hl1 : s.heap.IsList l1 xs) (hl2 : s.heap.IsList l2 ys) (hx : xs[k1]? = some x) (hy : ys[k2]? = some y)
    (hQ : ∀ h', IsZipS h' z TI TO (rawInt s.heap.objs.size) → IsPair h' TO x y → h'.IsListIter i1 l1 (k1 + 1) → h'.IsListIter i2 l2 (k2 + 1) → IsPair h' s.heap.objs.size x y → h'.objs.size = s.heap.objs.size + 1 →
      (∀ c o, c ≠ z → c ≠ TO → c ≠ i1 → c ≠ i2 → s.heap.get? c = some o → h'.get? c = some o) → Q (.ref s.heap.objs.size) { s with heap := h' }) :
    wpAny (model prog w) A (Builtin.«zip.__next__» ⟨[.ref z], []⟩) (fun fin s' => ∃ v, fin = .done (.ret v) ∧ Q v s') E s := by
  show wpAny _ _ (field (.ref z) 2 >>= _) _ _ _
  refine wpAny_bind (wpAny_field hz rfl (x := .bool true) rfl ?_)
  show wpAny _ _ (field (.ref z) 3 >>= _) _ _ _
  refine wpAny_bind (wpAny_field hz rfl (x := .ref TI) rfl ?_)
  refine wpAny_bind (wpAny_seqItems hTI rfl ?_)
  show wpAny _ _ (Builtin.SmallTypes.ownedTupleIsFree (.ref z) >>= _) _ _ _
  refine wpAny_bind ?_
  unfold Builtin.SmallTypes.ownedTupleIsFree
  refine wpAny_bind (wpAny_field hz rfl (x := .none) rfl (wpAny_pure ?_))
  simp only [if_true]
  refine wpAny_bind (wpAny_rule ?_)
  refine wpAny_bind (wpAny_field hz rfl (x := .ref TO) rfl ?_)
  refine wpAny_bind (wpAny_setField_rec hz (by simp) fun h₁ hz₁ hs₁ => ?_)
  replace hz₁ : IsZipS h₁ z TI TO .ellipsis := hz₁
  refine wpAny_bind ?_
  simp only [List.zipIdx_cons, List.zipIdx_nil, List.forIn_cons, List.forIn_nil]
  refine wpAny_bind (wpAny_bind (wpAny_onRaise ?_))
  show wpAny _ _ (Builtin.SmallTypes.nextOrEnd (.ref i1)) _ _ _
  refine nextOrEnd_item (h1.extBut hs₁.extBut D.i1z) (hl1.extBut hs₁.extBut D.l1z) hx fun h₂ h1₂ hs₂ => ?_
  have hTO₂ : IsPair h₂ TO a b := hs₂.extBut _ _ D.TOi1 (hs₁.extBut _ _ D.TOz hTO)
  refine wpAny_bind (wpAny_seqItems hTO₂ rfl ?_)
  refine wpAny_bind (wpAny_updateSeq_pair hTO₂ fun h₃ hTO₃ hs₃ => ?_)
  replace hTO₃ : IsPair h₃ TO x b := hTO₃
  refine wpAny_bind (wpAny_letGo (wpAny_pure ?_))
  refine wpAny_bind (wpAny_bind (wpAny_onRaise ?_))
  show wpAny _ _ (Builtin.SmallTypes.nextOrEnd (.ref i2)) _ _ _
  refine nextOrEnd_item (((h2.extBut hs₁.extBut D.i2z).extBut hs₂.extBut D.i12.symm).extBut hs₃.extBut D.TOi2.symm)
    (((hl2.extBut hs₁.extBut D.l2z).extBut hs₂.extBut D.l2i1).extBut hs₃.extBut D.l2TO) hy fun h₄ h2₄ hs₄ => ?_
  have hTO₄ : IsPair h₄ TO x b := hs₄.extBut _ _ D.TOi2 hTO₃
  refine wpAny_bind (wpAny_seqItems hTO₄ rfl ?_)
  refine wpAny_bind (wpAny_updateSeq_pair hTO₄ fun h₅ hTO₅ hs₅ => ?_)
  replace hTO₅ : IsPair h₅ TO x y := hTO₅
  refine wpAny_bind (wpAny_letGo (wpAny_pure (wpAny_pure ?_)))
  refine wpAny_bind (wpAny_seqItems hTO₅ rfl ?_)
  refine wpAny_bind (wpAny_newTuple ?_)
  have hsz : h₅.objs.size = s.heap.objs.size := by rw [hs₅.1, hs₄.1, hs₃.1, hs₂.1, hs₁.1]
  have hz₅ : IsZipS h₅ z TI TO .ellipsis := hs₅.extBut _ _ D.TOz.symm (hs₄.extBut _ _ D.i2z.symm (hs₃.extBut _ _ D.TOz.symm (hs₂.extBut _ _ D.i1z.symm hz₁)))
  have hk₅ : ∀ c o, c ≠ z → c ≠ TO → c ≠ i1 → c ≠ i2 → s.heap.get? c = some o → h₅.get? c = some o := fun c o c1 c2 c3 c4 e =>
    hs₅.extBut _ _ c2 (hs₄.extBut _ _ c4 (hs₃.extBut _ _ c2 (hs₂.extBut _ _ c3 (hs₁.extBut _ _ c1 e))))
  have h1₅ : h₅.IsListIter i1 l1 (k1 + 1) := ((h1₂.extBut hs₃.extBut D.TOi1.symm).extBut hs₄.extBut D.i12).extBut hs₅.extBut D.TOi1.symm
  have h2₅ : h₅.IsListIter i2 l2 (k2 + 1) := h2₄.extBut hs₅.extBut D.TOi2.symm
  have hzlt : z < h₅.objs.size := Heap.lt_size hz₅
  show wpAny _ _ (Builtin.SmallTypes.ownedTupleHandOut (.ref z) (.ref h₅.objs.size) >>= _) _ _ _
  refine wpAny_bind ?_
  unfold Builtin.SmallTypes.ownedTupleHandOut
  have hz₆ : IsZipS (h₅.push { cls := .type "tuple", data := .seq #[x, y] }) z TI TO .ellipsis := Heap.get?_push_of_some _ hz₅
  refine wpAny_bind (wpAny_setField_rec hz₆ (by simp) fun h₇ hz₇ hs₇ => ?_)
  replace hz₇ : IsZipS h₇ z TI TO (rawInt h₅.objs.size) := hz₇
  refine wpAny_setField_rec hz₇ (by simp) fun h₈ hz₈ hs₈ => ?_
  replace hz₈ : IsZipS h₈ z TI TO (rawInt h₅.objs.size) := hz₈
  have up : ∀ c o, c ≠ z → h₅.get? c = some o → h₈.get? c = some o := fun c o c1 e => hs₈.extBut _ _ c1 (hs₇.extBut _ _ c1 (Heap.get?_push_of_some _ e))
  have hT₈ : IsPair h₈ h₅.objs.size x y := hs₈.extBut _ _ (Nat.ne_of_gt hzlt) (hs₇.extBut _ _ (Nat.ne_of_gt hzlt) (Heap.get?_push_size _ rfl))
  have hz8 : h₈.objs.size = h₅.objs.size + 1 := by rw [hs₈.1, hs₇.1, Heap.size_push]
  rw [hsz] at hz₈ hT₈ hz8
  refine wpAny_pure ⟨_, rfl, ?_⟩
  show Q (.ref h₅.objs.size) _
  rw [hsz]
  exact hQ h₈ hz₈ (up _ _ D.TOz hTO₅) (h1₅.at fun o e => up _ o D.i1z e) (h2₅.at fun o e => up _ o D.i2z e) hT₈ hz8 fun c o c1 c2 c3 c4 e => up c o c1 (hk₅ c o c1 c2 c3 c4 e)

theorem zips_next_end {z TI TO i1 i2 l1 l2 : Addr} {k1 k2 : Nat} {xs ys : Array Value} {a b : Value} {Q : PySem.Fin → Shared → Prop} (hh : A.handled = none) (D : ZipApart z TI TO i1 i2 l1 l2)
    (hz : IsZipS s.heap z TI TO .none) (hTI : IsPair s.heap TI (.ref i1) (.ref i2)) (hTO : IsPair s.heap TO a b)
    (h1 : s.heap.IsListIter i1 l1 k1) (h2 : s.heap.IsListIter i2 l2 k2) (hl1 : s.heap.IsList l1 xs) (hl2 : s.heap.IsList l2 ys) (hx : xs[k1]? = none) (hy : ys[k2]? = none)
    (hE : ∀ h' e, (∀ c o, c ≠ z → c ≠ TO → c ≠ i1 → c ≠ i2 → s.heap.get? c = some o → h'.get? c = some o) → (∃ o, h'.get? e = some o ∧ o.cls = .type "StopIteration") → E (.ref e) { s with heap := h' }) :
    wpAny (model prog w) A (Builtin.«zip.__next__» ⟨[.ref z], []⟩) Q E s := by
  show wpAny _ _ (field (.ref z) 2 >>= _) _ _ _
  refine wpAny_bind (wpAny_field hz rfl (x := .bool true) rfl ?_)
  show wpAny _ _ (field (.ref z) 3 >>= _) _ _ _
  refine wpAny_bind (wpAny_field hz rfl (x := .ref TI) rfl ?_)
  refine wpAny_bind (wpAny_seqItems hTI rfl ?_)
  show wpAny _ _ (Builtin.SmallTypes.ownedTupleIsFree (.ref z) >>= _) _ _ _
  refine wpAny_bind ?_
  unfold Builtin.SmallTypes.ownedTupleIsFree
  refine wpAny_bind (wpAny_field hz rfl (x := .none) rfl (wpAny_pure ?_))
  simp only [if_true]
  refine wpAny_bind (wpAny_rule ?_)
  refine wpAny_bind (wpAny_field hz rfl (x := .ref TO) rfl ?_)
  refine wpAny_bind (wpAny_setField_rec hz (by simp) fun h₁ hz₁ hs₁ => ?_)
  replace hz₁ : IsZipS h₁ z TI TO .ellipsis := hz₁
  refine wpAny_bind ?_
  simp only [List.zipIdx_cons, List.zipIdx_nil, List.forIn_cons, List.forIn_nil]
  refine wpAny_bind (wpAny_bind (wpAny_onRaise ?_))
  show wpAny _ _ (Builtin.SmallTypes.nextOrEnd (.ref i1)) _ _ _
  refine nextOrEnd_end hh (h1.extBut hs₁.extBut D.i1z) (hl1.extBut hs₁.extBut D.l1z) hx fun h₂ hs₂ => ?_
  have hz₂ : IsZipS h₂ z TI TO .ellipsis := hs₂ _ _ D.i1z.symm hz₁
  refine wpAny_bind (wpAny_setField_rec hz₂ (by simp) fun h₃ _ hs₃ => ?_)
  have k3 : ∀ c o, c ≠ z → c ≠ TO → c ≠ i1 → c ≠ i2 → s.heap.get? c = some o → h₃.get? c = some o := fun c o c1 _ c3 _ x => hs₃.extBut _ _ c1 (hs₂ _ _ c3 (hs₁.extBut _ _ c1 x))
  refine wpAny_bind ?_
  show wpAny _ _ (forIn (m := Sem) [((Value.ref i2, 1) : Value × Nat)] PUnit.unit _ >>= _) _ _ _
  simp only [List.forIn_cons, List.forIn_nil]
  refine wpAny_bind (wpAny_bind (wpAny_bind ?_))
  refine (nextOrEnd_end hh (((h2.extBut hs₁.extBut D.i2z).extBut hs₂ D.i12.symm).extBut hs₃.extBut D.i2z) (((hl2.extBut hs₁.extBut D.l2z).extBut hs₂ D.l2i1).extBut hs₃.extBut D.l2z) hy fun h₄ hs₄ => ?_)
  simp only [Option.isSome_none, Bool.false_eq_true, if_false]
  refine wpAny_pure (wpAny_pure ?_)
  refine wpAny_bind (wpAny_rule ?_)
  refine stop_raise hh fun h₅ e k5 he => hE _ _ (fun c o c1 c2 c3 c4 x => k5 _ _ (hs₄ _ _ c4 (k3 c o c1 c2 c3 c4 x))) he

theorem pyNext_zips_item {z TI TO i1 i2 l1 l2 : Addr} {k1 k2 : Nat} {xs ys : Array Value} {x y a b : Value} {Q : Option Value → Shared → Prop} (D : ZipApart z TI TO i1 i2 l1 l2)
    (hz : IsZipS s.heap z TI TO .none) (hTI : IsPair s.heap TI (.ref i1) (.ref i2)) (hTO : IsPair s.heap TO a b)
    (h1 : s.heap.IsListIter i1 l1 k1) (h2 : s.heap.IsListIter i2 l2 k2) (hl1 : s.heap.IsList l1 xs) (hl2 : s.heap.IsList l2 ys) (hx : xs[k1]? = some x) (hy : ys[k2]? = some y)
    (hQ : ∀ h', IsZipS h' z TI TO (rawInt s.heap.objs.size) → IsPair h' TO x y → h'.IsListIter i1 l1 (k1 + 1) → h'.IsListIter i2 l2 (k2 + 1) → IsPair h' s.heap.objs.size x y → h'.objs.size = s.heap.objs.size + 1 →
      (∀ c o, c ≠ z → c ≠ TO → c ≠ i1 → c ≠ i2 → s.heap.get? c = some o → h'.get? c = some o) → Q (some (.ref s.heap.objs.size)) { s with heap := h' }) :
    wpAny (model prog w) A (pyNext (.ref z)) Q E s := by
  have hT : s.TypeIs (.ref z) "zip" := ⟨_, hz, rfl⟩
  unfold pyNext
  exact wpAny_bind (wpAny_attempt (wpAny_callSpecial?_slot (name := Str.ofString "__next__") hT F.slot_zip_next
    (wpAny_call_entry F.slot_zip_next hT F.entry_zip_next
      (zips_next_item D hz hTI hTO h1 h2 hl1 hl2 hx hy fun h' a1 a2 a3 a4 a5 a6 a7 => wpAny_pure (hQ h' a1 a2 a3 a4 a5 a6 a7)) (F.args_zip_next_1 _))))
theorem pyNext_zips_end {z TI TO i1 i2 l1 l2 : Addr} {k1 k2 : Nat} {xs ys : Array Value} {a b : Value} {Q : Option Value → Shared → Prop} (hh : A.handled = none) (D : ZipApart z TI TO i1 i2 l1 l2)
    (hz : IsZipS s.heap z TI TO .none) (hTI : IsPair s.heap TI (.ref i1) (.ref i2)) (hTO : IsPair s.heap TO a b)
    (h1 : s.heap.IsListIter i1 l1 k1) (h2 : s.heap.IsListIter i2 l2 k2) (hl1 : s.heap.IsList l1 xs) (hl2 : s.heap.IsList l2 ys) (hx : xs[k1]? = none) (hy : ys[k2]? = none)
    (hQ : ∀ h', (∀ c o, c ≠ z → c ≠ TO → c ≠ i1 → c ≠ i2 → s.heap.get? c = some o → h'.get? c = some o) → Q none { s with heap := h' }) : wpAny (model prog w) A (pyNext (.ref z)) Q E s := by
  have hT : s.TypeIs (.ref z) "zip" := ⟨_, hz, rfl⟩
  unfold pyNext
  refine wpAny_bind (wpAny_attempt (wpAny_callSpecial?_slot (name := Str.ofString "__next__") hT F.slot_zip_next
    (wpAny_call_entry F.slot_zip_next hT F.entry_zip_next (zips_next_end hh D hz hTI hTO h1 h2 hl1 hl2 hx hy fun h' e hk he => ?_) (F.args_zip_next_1 _))))
  obtain ⟨o, ho, hc⟩ := he
  refine wpAny_bind (wpAny_isInstance (T := "StopIteration") (b := true) ⟨o, ho, hc⟩ isSubtype_stop ?_)
  exact wpAny_pure (hQ _ hk)
theorem letGo_zips {elts : List Expr} {x1} {pos : Pos} {z TI TO T : Addr} {Q : Unit → Shared → Prop} (hz : IsZipS s.heap z TI TO (rawInt T))
    (hQ : ∀ h', IsZipS h' z TI TO .none → Heap.SameBut z s.heap h' → Q () { s with heap := h' }) :
    wpAny (model prog w) A (letOwnedTupleGo (.Tuple elts x1 pos) (.ref z) (.ref T)) Q E s := by
  unfold letOwnedTupleGo
  refine wpAny_bind (wpAny_load hz ?_)
  show wpAny _ _ (if (["enumerate", "zip", "dict_itemiterator", "dict_reverseitemiterator", "odict_iterator", "itertools.zip_longest", "itertools.pairwise"].contains "zip" &&
      (#[rawInt T, .bool false, .bool true, .ref TI, .ref TO] : Array Value)[0]? == some (rawInt T)) = true then _ else _) Q E s
  rw [if_pos (by simp)]
  refine wpAny_bind (wpAny_rule ?_)
  show wpAny _ _ (setField (.ref z) 0 .none) Q E s
  exact wpAny_setField_rec hz (by simp) fun h' hz' hs' => hQ h' hz' hs'
theorem pyIter_zips {z TI TO : Addr} {f0 : Value} {Q : Value → Shared → Prop} (hz : IsZipS s.heap z TI TO f0) (h : Q (.ref z) s) : wpAny (model prog w) A (pyIter (.ref z)) Q E s := by
  have hT : s.TypeIs (.ref z) "zip" := ⟨_, hz, rfl⟩
  refine wpAny_pyIter_slot hT F.slot_zip_iter (wpAny_call_entry F.slot_zip_iter hT F.entry_zip_iter ?_ (F.args_zip_iter_1 _))
  show wpAny _ _ (ret (.ref z)) _ _ s
  exact wpAny_pure ⟨_, rfl, "zip", _, hT, F.slot_zip_next.lookup, h⟩
end
abbrev zipS5 (h : Heap) (l1 l2 : Addr) : Heap := (zipH4 h l1 l2).push { cls := .type "zip", data := .fields #[.none, .bool false, .bool true, .ref (zipH2 h l1 l2).objs.size, .ref (zipH3 h l1 l2).objs.size] }
namespace F
theorem typeCall_zips (a b : Value) : checkTypeCall "zip" ⟨[a, b], [(Str.ofString "strict", .bool true)]⟩ = pure () := by kernel_rfl
theorem newCall_zips (a b : Value) : checkBuiltinCall "zip.__new__" ⟨[.type "zip", a, b], [(Str.ofString "strict", .bool true)]⟩ = pure () := by kernel_rfl
theorem args_object_init_zips (obj a b : Value) : argsOk "object.__init__" ⟨[obj, a, b], [(Str.ofString "strict", .bool true)]⟩ := by unfold argsOk; kernel_rfl
end F
theorem meets_zips_new (l1 l2 : Addr) (xs ys : Array Value) :
    Meets (Builtin.«zip.__new__» ⟨[.type "zip", .ref l1, .ref l2], [(Str.ofString "strict", .bool true)]⟩) (fun _ R s => s.heap.IsList l1 xs ∧ s.heap.IsList l2 ys ∧
      R (.ok (.ret (.ref (zipH4 s.heap l1 l2).objs.size))) { s with heap := zipS5 s.heap l1 l2 }) :=
  .of_wp fun prog w A R s h => by
    obtain ⟨hp, g, d, tk, os⟩ := s; obtain ⟨hl1, hl2, h⟩ := h
    have hsub := sub_zip
    have e1 : (Str.ofString "strict" != ("strict" : Str)) = false := by decide +kernel
    have hL1 : Heap.IsList (Shared.heap ⟨hp, g, d, tk, os⟩) l1 xs := hl1
    have hL2 : Heap.IsList (Shared.heap ⟨hp.push { cls := .type "list_iterator", data := .fields #[.ref l1, .int 0 0] }, g, d, tk, os⟩) l2 ys := Heap.IsList.push hl2 _
    wp_walk using wpAny_pyIter_list hL1, wpAny_pyIter_list hL2
    exact ⟨_, rfl, h⟩
end PyE
set_option maxRecDepth 100000
set_option maxHeartbeats 4000000
/-! zip(.., strict=True) walked -/
namespace PyE
open PySem PySem.Spec PyProof.Rows L2
section
variable {prog : Program} {w : World} {A : Around} {E : Value → Shared → Prop} {s : Shared}
theorem call_zips {l1 l2 : Addr} {xs ys : Array Value} {Q : Value → Shared → Prop} (hl1 : s.heap.IsList l1 xs) (hl2 : s.heap.IsList l2 ys)
    (h : ∀ h', IsZipS h' (s.heap.objs.size + 4) (s.heap.objs.size + 2) (s.heap.objs.size + 3) .none → IsPair h' (s.heap.objs.size + 2) (.ref s.heap.objs.size) (.ref (s.heap.objs.size + 1)) →
      IsPair h' (s.heap.objs.size + 3) .none .none → h'.IsListIter s.heap.objs.size l1 0 → h'.IsListIter (s.heap.objs.size + 1) l2 0 → h'.objs.size = s.heap.objs.size + 5 →
      (∀ c o, s.heap.get? c = some o → h'.get? c = some o) → Q (.ref (s.heap.objs.size + 4)) { s with heap := h' }) :
    wpAny (model prog w) A (call (.type "zip") [.ref l1, .ref l2] [(Str.ofString "strict", .bool true)]) Q E s := by
  refine callType_newKw PySem.F.called_zip (by decide) (F.typeCall_zips _ _) (F.newCall_zips _ _) (fun obj => F.args_object_init_zips obj _ _) PySem.F.entry_zip_new
    (meets_zips_new l1 l2 xs ys) ⟨hl1, hl2, ?_⟩
  have z1 : (zipH1 s.heap l1).objs.size = s.heap.objs.size + 1 := Heap.size_push ..
  have z2 : (zipH2 s.heap l1 l2).objs.size = s.heap.objs.size + 2 := by rw [Heap.size_push, z1]
  have z3 : (zipH3 s.heap l1 l2).objs.size = s.heap.objs.size + 3 := by rw [Heap.size_push, z2]
  have z4 : (zipH4 s.heap l1 l2).objs.size = s.heap.objs.size + 4 := by rw [Heap.size_push, z3]
  have z5 : (zipS5 s.heap l1 l2).objs.size = s.heap.objs.size + 5 := by rw [Heap.size_push, z4]
  have g5 : (zipS5 s.heap l1 l2).get? (zipH4 s.heap l1 l2).objs.size = some _ := Heap.get?_push_size _ rfl
  have g4 : (zipS5 s.heap l1 l2).get? (zipH3 s.heap l1 l2).objs.size = some _ := Heap.get?_push_of_some _ (Heap.get?_push_size _ rfl)
  have g3 : (zipS5 s.heap l1 l2).get? (zipH2 s.heap l1 l2).objs.size = some _ := Heap.get?_push_of_some _ (Heap.get?_push_of_some _ (Heap.get?_push_size _ rfl))
  have g2 : (zipS5 s.heap l1 l2).get? (zipH1 s.heap l1).objs.size = some _ := Heap.get?_push_of_some _ (Heap.get?_push_of_some _ (Heap.get?_push_of_some _ (Heap.get?_push_size _ rfl)))
  have g1 : (zipS5 s.heap l1 l2).get? s.heap.objs.size = some _ := Heap.get?_push_of_some _ (Heap.get?_push_of_some _ (Heap.get?_push_of_some _ (Heap.get?_push_of_some _ (Heap.get?_push_size _ rfl))))
  show _ ∧ _
  rw [z2, z3, z4] at g5
  rw [z1, z2] at g3
  rw [z3] at g4
  rw [z1] at g2
  rw [z4]
  exact ⟨⟨_, g5, rfl⟩, h _ g5 g3 g4 ⟨_, g1, rfl, rfl⟩ ⟨_, g2, rfl, rfl⟩ z5 fun c o x =>
    Heap.get?_push_of_some _ (Heap.get?_push_of_some _ (Heap.get?_push_of_some _ (Heap.get?_push_of_some _ (Heap.get?_push_of_some _ x))))⟩
end
/-- two lists of one length -/
def Itzs (K : PySem.W.Frag) (a b : Addr) : It :=
  ⟨fun i H => ∃ (xs ys : List V) (x y : V), SqL K H a xs ∧ SqL K H b ys ∧ xs[i]? = some x ∧ ys[i]? = some y,
    fun i H v H' => ∃ T x y, v = .ref T ∧ H T = none ∧ H' = upd H T (.tup [x, y]) ∧ (∀ xs, SqL K H a xs → xs[i]? = some x) ∧ ∀ ys, SqL K H b ys → ys[i]? = some y,
    fun i H => ∃ xs ys : List V, SqL K H a xs ∧ SqL K H b ys ∧ xs.length ≤ i ∧ ys.length ≤ i⟩
theorem turn_zips {P : Program} {w : World} {K : PySem.W.Frag} {elts : List Expr} {kk : Nat} {tpos : Pos} {a b z TI TO i1 i2 : Addr} (D : ZipApart z TI TO i1 i2 a b) :
    Turn P w K (.Tuple elts kk tpos) (Itzs K a b) [z, TI, TO, i1, i2] z (fun i h => IsZipS h z TI TO .none ∧ IsPair h TI (.ref i1) (.ref i2) ∧ (∃ x y, IsPair h TO x y) ∧ h.IsListIter i1 a i ∧ h.IsListIter i2 b i) where
  mem := by simp
  obj := fun i h st c hc => by
    obtain ⟨hz, hTI, ⟨x, y, hTO⟩, ⟨o1, e1, _, d1⟩, ⟨o2, e2, _, d2⟩⟩ := st
    have e' : c = z ∨ c = TI ∨ c = TO ∨ c = i1 ∨ c = i2 := by simpa using hc
    rcases e' with q | q | q | q | q
    · rw [q]; exact ⟨_, hz, fun v q => nomatch q⟩
    · rw [q]; exact ⟨_, hTI, fun v q => nomatch q⟩
    · rw [q]; exact ⟨_, hTO, fun v q => nomatch q⟩
    · rw [q]; exact ⟨o1, e1, fun v q => by rw [d1] at q; cases q⟩
    · rw [q]; exact ⟨o2, e2, fun v q => by rw [d2] at q; cases q⟩
  keep := fun i h h' st k => by
    obtain ⟨hz, hTI, ⟨x, y, hTO⟩, h1, h2⟩ := st
    exact ⟨k z (by simp) _ hz, k TI (by simp) _ hTI, ⟨x, y, k TO (by simp) _ hTO⟩, h1.at fun o q => k i1 (by simp) o q, h2.at fun o q => k i2 (by simp) o q⟩
  item := by
    intro X hP hw hK hc i pins s σ H E I hf st hg
    subst hP hw hK
    obtain ⟨hz, hTI, ⟨x0, y0, hTO⟩, h1, h2⟩ := st
    obtain ⟨xs, ys, x, y, hqx, hqy, hx, hy⟩ := hg
    obtain ⟨its, rv, p, _⟩ := I.list hqx
    obtain ⟨its2, rv2, p2, _⟩ := I.list hqy
    obtain ⟨u, hu, ru⟩ := rv.get hx
    obtain ⟨u2, hu2, ru2⟩ := rv2.get hy
    have hzl : z < s.heap.objs.size := Heap.lt_size hz
    refine pyNext_zips_item D hz hTI hTO h1 h2 p.isList p2.isList (x := u) (y := u2) (by simpa using hu) (by simpa using hu2) fun h' z' TO' h1' h2' hT hsz hk => ?_
    refine ⟨_, rfl, letGo_zips (s := { s with heap := h' }) z' fun h'' z'' sb => ?_⟩
    have hT2 : h''.get? s.heap.objs.size = some { cls := .type "tuple", data := .seq #[u, u2] } := (sb.2 _ (Nat.ne_of_gt hzl)).trans hT
    have new : ObjOk X.prog X.w (upd H s.heap.objs.size (.tup [x, y])) h'' s.heap.objs.size (.tup [x, y]) :=
      ⟨by show 2 ≤ sizeLine; decide, [u, u2], .cons ru (.cons ru2 .nil), ⟨_, hT2, rfl, _, rfl⟩⟩
    have I1 : Inv X pins σ (upd H s.heap.objs.size (.tup [x, y])) { s with heap := h'' } :=
      I.turnedNew (t' := s.toks) (ch := [z, TI, TO, i1, i2]) (fun c o hb q => (sb.2 c (fun q' => hb (by simp [q']))).trans (hk c o (fun q' => hb (by simp [q'])) (fun q' => hb (by simp [q'])) (fun q' => hb (by simp [q'])) (fun q' => hb (by simp [q'])) q)) hf (Nat.le_refl _) new
    refine ⟨.ref s.heap.objs.size, _, I1, rfl, ⟨_, x, y, rfl, I.hok.fresh (Nat.le_refl _), rfl, fun l hl => by rw [I.list_inj hl hqx]; exact hx, fun l hl => by rw [I.list_inj hl hqy]; exact hy⟩, ⟨z'', ?_, ⟨u, u2, ?_⟩, ?_, ?_⟩, fun c hcm => ?_⟩
    · exact (sb.2 _ D.TIz).trans (hk _ _ D.TIz D.TITO D.TIi1 D.TIi2 hTI)
    · exact (sb.2 _ D.TOz).trans TO'
    · exact h1'.at fun o q => (sb.2 _ D.i1z).trans q
    · exact h2'.at fun o q => (sb.2 _ D.i2z).trans q
    · have hlt : c < s.heap.objs.size := by
        have e' : c = z ∨ c = TI ∨ c = TO ∨ c = i1 ∨ c = i2 := by simpa using hcm
        rcases e' with q | q | q | q | q
        · rw [q]; exact hzl
        · rw [q]; exact Heap.lt_size hTI
        · rw [q]; exact Heap.lt_size hTO
        · rw [q]; obtain ⟨_, e1, _⟩ := h1; exact Heap.lt_size e1
        · rw [q]; obtain ⟨_, e2, _⟩ := h2; exact Heap.lt_size e2
      rw [upd_ne (Nat.ne_of_lt hlt)]
      exact (hf c hcm).1
  done := by
    intro X hP hw hK hc i pins s σ H E I hf st hg
    subst hP hw hK
    obtain ⟨hz, hTI, ⟨x0, y0, hTO⟩, h1, h2⟩ := st
    obtain ⟨xs, ys, hqx, hqy, hend⟩ := hg
    obtain ⟨its, rv, p, _⟩ := I.list hqx
    obtain ⟨its2, rv2, p2, _⟩ := I.list hqy
    have l1 := rv.length
    have l2 := rv2.length
    have he1 : its.toArray[i]? = none := by simp; omega
    have he2 : its2.toArray[i]? = none := by simp; omega
    exact pyNext_zips_end (I.ok.hd hc) D hz hTI hTO h1 h2 p.isList p2.isList he1 he2 fun h' hk => ⟨rfl, I.turnedL (t' := s.toks) (ch := [z, TI, TO, i1, i2]) (fun c o hb q =>
      hk c o (fun q' => hb (by simp [q'])) (fun q' => hb (by simp [q'])) (fun q' => hb (by simp [q'])) (fun q' => hb (by simp [q'])) q) hf⟩
  self := fun A i s Q E st h => pyIter_zips st.1 h
def iZips (K : PySem.W.Frag) (ta : TA) : TI := fun σ H R => ta σ H fun vs H1 => ∃ a b xs ys, vs = [.ref a, .ref b] ∧ SqL K H1 a xs ∧ SqL K H1 b ys ∧ R (Itzs K a b) H1
theorem callWith_typeKw {M : Model} {A : Around} {E : Value → Shared → Prop} {s : Shared} {env : Env} {pos : Pos} {T : String} {e : Expr} {rest : List Expr} {kws : List Keyword} {Q : Value → Shared → Prop} (hall : (backToKw pos (keywordEach kws env)).all (·.1.isSome) = true)
    (h : wpAny M A (spliced (backTo pos (starEach (e :: rest) env))) (fun vs s₁ => wpAny M A (evalAll ((backToKw pos (keywordEach kws env)).map (·.2)))
      (fun ks s₂ => wpAny M A (call (.type T) vs (((backToKw pos (keywordEach kws env)).filterMap (·.1)).zip ks)) Q E s₂) E s₁) E s)
    (he : starEach (e :: rest) env = (false, eval e env) :: starEach rest env)
    (hplain : ((backTo pos (starEach (e :: rest) env)).any (·.1) || (backToKw pos (keywordEach kws env)).any (·.1.isNone)) = false) :
    wpAny M A (callWith pos (.type T) [] (backTo pos (starEach (e :: rest) env)) (backToKw pos (keywordEach kws env))) Q E s := by
  unfold callWith
  refine wpAny_bind (wpAny_holding (wpAny_mono (evalArgs_kw2 (f := .type T) (Q := fun a s₂ => wpAny M A (call (.type T) a.pos a.kw) Q E s₂) hall h he) (fun a s₁ h₁ => wpAny_bind (wpAny_standAt ?_)) fun _ _ x => x))
  simp only [hplain]
  refine wpAny_bind (wpAny_pure ?_)
  exact wpAny_bind (wpAny_mono h₁ (fun r s₂ hr => wpAny_bind (wpAny_holding (wpAny_point (wpAny_pure hr)))) fun _ _ x => x)
theorem pi_zips {X : Cx} {e e2 : Expr} {ta : TA} {p pos tpos cp kp : Pos} {cj : Nat} {elts : List Expr} {kk : Nat} (hg : Gl X "zip") (hm : X.mg "zip" = none) (ha : PA X [e, e2] ta)
    (hs : starEach [e, e2] X.env = (false, eval e X.env) :: starEach [e2] X.env) (hpl : (backTo pos (starEach [e, e2] X.env)).any (·.1) = false) :
    PI X (.Tuple elts kk tpos) (.Call (.Name "zip" p) [e, e2] [⟨some (Str.ofString "strict"), .Constant (.bool true) cj cp, kp⟩] pos) (iZips X.K ta) := by
  refine ⟨fun pins s σ H R I h => ?_⟩
  refine wpAny_Call_Name_kw (ld_blt I hg hm PyProof.Rows.boot_zip (callWith_typeKw rfl (thn (ha.run pos pins s σ H _ I h) fun us s1 ⟨vs, H1, I1, r1, q1⟩ => ?_) hs (by rw [hpl]; rfl)))
  refine kwAll_cons ?_
  refine wpAny_Constant_bool ?_
  refine kwAll_nil ?_
  obtain ⟨a, b, xs, ys, ex, hqx, hqy, q⟩ := q1
  subst ex
  cases r1 with
  | cons r rr =>
    cases rr with
    | cons r' rr =>
      cases rr
      cases r
      cases r'
      obtain ⟨its, rv, p1, _⟩ := I1.list hqx
      obtain ⟨its2, rv2, p2, _⟩ := I1.list hqy
      have la : a < s1.heap.objs.size := p1.lt
      have lb : b < s1.heap.objs.size := p2.lt
      refine call_zips p1.isList p2.isList fun h' hz hTI hTO h1 h2 hsz hk => pyIter_zips hz ?_
      have I2 : Inv X pins σ H1 { s1 with heap := h' } := I1.kept (t' := s1.toks) hk
      refine ⟨s1.heap.objs.size + 4, [s1.heap.objs.size + 4, s1.heap.objs.size + 2, s1.heap.objs.size + 3, s1.heap.objs.size, s1.heap.objs.size + 1], _, _, H1, rfl, I2, turn_zips (PySem.W.ktu_apart s1.heap.objs.size a b la lb), ⟨hz, hTI, ⟨_, _, hTO⟩, h1, h2⟩, fun c hcm => ?_, q⟩
      have e' : c = s1.heap.objs.size + 4 ∨ c = s1.heap.objs.size + 2 ∨ c = s1.heap.objs.size + 3 ∨ c = s1.heap.objs.size ∨ c = s1.heap.objs.size + 1 := by simpa using hcm
      have hle : s1.heap.objs.size ≤ c := by
        rcases e' with z | z | z | z | z
        · rw [z]; exact Nat.le_add_right _ _
        · rw [z]; exact Nat.le_add_right _ _
        · rw [z]; exact Nat.le_add_right _ _
        · rw [z]; exact Nat.le_refl _
        · rw [z]; exact Nat.le_add_right _ _
      exact I1.fpOk hle (I1.hok.fresh hle)

end PyE
set_option maxRecDepth 100000
set_option maxHeartbeats 4000000
namespace PyE
open PySem PySem.Spec PyProof.Rows L2
section
variable {X : Cx} {G : Gi} {C : Cfg} {pins : List (Addr × Obj)} {σ : L2.St} {s : Shared} {Z : Wd} {μ : Mu}
/-- the modules' dict is a part of the written heap -/
def SysK (K : PySem.W.Frag) : Prop := ∃ o : Obj, K.lookup sysModules = some o ∧ o.cls = .type "dict"
theorem sys_free {H : Hp} (I : Inv X pins σ H s) (hS : SysK X.K) {a : Addr} {o : HO} (h : H a = some o) : sysModules ≠ a := by
  obtain ⟨os, e, _⟩ := hS
  intro q
  rw [← q, (I.bs sysModules os (I.ok.mod.kin sysModules os e)).2] at h
  cases h
theorem sys_list {H : Hp} (I : Inv X pins σ H s) (hS : SysK X.K) {a : Addr} {xs : List V} (h : SqL X.K H a xs) : sysModules ≠ a := by
  rcases h with (h | ⟨o, h⟩) | ⟨o, its, n, hk, hc, _⟩
  · exact sys_free I hS h
  · exact sys_free I hS h
  · obtain ⟨os, e, c⟩ := hS
    intro q
    rw [← q, e] at hk
    have e2 : os = o := Option.some.inj hk
    rw [e2, hc] at c
    exact absurd c (by decide)
/-- v reads as p, and the modules' dict is not among what is read -/
def RdP (s : Shared) (u : Value) (p : PyData) : Prop := ∃ as, Reads s.heap u p as ∧ sysModules ∉ as
def RdPs (s : Shared) (us : List Value) (ps : List PyData) : Prop := ∃ as, ReadsAll s.heap us ps as ∧ sysModules ∉ as
theorem rd_list (I : Inv X pins σ Z.H s) (hS : SysK X.K) {a : Addr} {xs : List V} {ps : List PyData} (h : SqL X.K Z.H a xs) (r : ∀ us, Vals xs us → RdPs s us ps) : RdP s (.ref a) (.list ps) := by
  obtain ⟨its, rv, ⟨o, n, e, c, _, d⟩, _⟩ := I.list h
  obtain ⟨as, ra, hn⟩ := r its rv
  refine ⟨a :: as, .list e c d ?_, fun q => ?_⟩
  · simpa using ra
  · rcases List.mem_cons.mp q with q | q
    · exact sys_list I hS h q
    · exact hn q
theorem rd_ints : ∀ (l : List Int) (us : List Value), Vals (l.map V.int) us → RdPs s us (l.map .int)
  | [], us, r => by
    cases r
    exact ⟨[], .nil, by simp⟩
  | i :: l, us, r => by
    cases r with
    | cons r1 r2 =>
      obtain ⟨t, rfl⟩ := r1
      obtain ⟨as, h1, h2⟩ := rd_ints l _ r2
      exact ⟨[] ++ as, .cons (.int i t) h1, h2⟩
mutual
theorem rd_d (I : Inv X pins σ Z.H s) (hK : X.K = G.K) (hS : SysK X.K) {R : Nat → Option PyData} (hR : ∀ (n : Nat) (a : Addr) (p : PyData), Z.th[n]? = some a → R n = some p → RdP s (.ref a) p) :
    ∀ (d : D) (v : V) (u : Value) (p : PyData), d.py R = some p → RV G Z d v → RelV v u → RdP s u p
  | .none, v, u, p, e, r, rv => by
    have e' : PyData.none = p := Option.some.inj e
    rw [show v = V.non from r] at rv
    rw [← e', show u = Value.none from rv]
    exact ⟨[], .none, by simp⟩
  | .bl b, v, u, p, e, r, rv => by
    have e' : PyData.bool b = p := Option.some.inj e
    rw [show v = V.bl b from r] at rv
    rw [← e', show u = Value.bool b from rv]
    exact ⟨[], .bool b, by simp⟩
  | .int b, v, u, p, e, r, rv => by
    have e' : PyData.int b = p := Option.some.inj e
    rw [show v = V.int b from r] at rv
    obtain ⟨t, rfl⟩ := rv
    rw [← e']
    exact ⟨[], .int b t, by simp⟩
  | .str b, v, u, p, e, r, rv => by
    have e' : PyData.str b = p := Option.some.inj e
    rw [show v = V.str b from r] at rv
    obtain ⟨t, rfl⟩ := rv
    rw [← e']
    exact ⟨[], .str b t, by simp⟩
  | .fn _, _, _, _, e, _, _ => by cases e
  | .exc _ _, _, _, _, e, _, _ => by cases e
  | .dct, v, u, p, e, r, rv => by
    have e' : PyData.dict [] = p := Option.some.inj e
    obtain ⟨a, ea, q⟩ := r
    rw [ea] at rv
    rw [← e', show u = Value.ref a from rv]
    obtain ⟨_, hs, vs, kv, o, es, ep, ho, ex, hd, _, hp, _⟩ := I.hok a _ q
    cases kv
    have he : es.toList = [] := by
      cases hes : es.toList with
      | nil => rfl
      | cons x xs => rw [hes] at hp; cases hp
    have r1 : ReadsAll s.heap (es.toList.map (·.key)) (([] : List (PyData × PyData)).map (·.1)) [] := by rw [he]; exact .nil
    have r2 : ReadsAll s.heap (es.toList.map (·.val)) (([] : List (PyData × PyData)).map (·.2)) [] := by rw [he]; exact .nil
    exact ⟨_, .dict ho ex.1 hd r1 r2, by simpa using (sys_free I hS q)⟩
  | .scr xs, v, u, p, e, r, rv => by
    have e' : PyData.list (xs.map .int) = p := Option.some.inj e
    obtain ⟨a, ea, q, _⟩ := r
    rw [ea] at rv
    rw [← e', show u = Value.ref a from rv]
    refine rd_list I hS (xs := xs.map V.int) ?_ (rd_ints xs)
    rw [hK]
    rcases q with ⟨o, q⟩ | q
    · exact .inl (.inr ⟨o, q⟩)
    · exact q _
  | .tup ds, v, u, p, e, r, rv => by
    obtain ⟨ps, e1, e2⟩ := Option.map_eq_some_iff.mp (show (D.pyL R ds).map .tuple = some p from e)
    obtain ⟨a, vs, ea, q, _, rs⟩ := r
    rw [ea] at rv
    subst e2
    rw [show u = Value.ref a from rv]
    rw [← hK] at q
    obtain ⟨its, rv', ⟨o, ho, hc, n, hd⟩, _⟩ := I.tuple q
    obtain ⟨as, h1, h2⟩ := rd_l I hK hS hR ds vs its ps e1 rs rv'
    exact ⟨as, .tuple ho hc hd (by simpa using h1), h2⟩
  | .lst ds, v, u, p, e, r, rv => by
    obtain ⟨ps, e1, e2⟩ := Option.map_eq_some_iff.mp (show (D.pyL R ds).map .list = some p from e)
    obtain ⟨a, vs, ea, _, q, _, rs⟩ := r
    rw [ea] at rv
    subst e2
    rw [show u = Value.ref a from rv]
    exact rd_list I hS (SqL.of q) fun us r' => rd_l I hK hS hR ds vs us ps e1 rs r'
  | .ref n, v, u, p, e, r, rv => by
    obtain ⟨a, e1, e2⟩ := r
    rw [e2] at rv
    rw [show u = Value.ref a from rv]
    exact hR n a p e1 e
theorem rd_l (I : Inv X pins σ Z.H s) (hK : X.K = G.K) (hS : SysK X.K) {R : Nat → Option PyData} (hR : ∀ (n : Nat) (a : Addr) (p : PyData), Z.th[n]? = some a → R n = some p → RdP s (.ref a) p) :
    ∀ (ds : List D) (vs : List V) (us : List Value) (ps : List PyData), D.pyL R ds = some ps → RVs G Z ds vs → Vals vs us → RdPs s us ps
  | [], vs, us, ps, e, r, rv => by
    have e' : [] = ps := Option.some.inj e
    rw [show vs = [] from r] at rv
    cases rv
    rw [← e']
    exact ⟨[], .nil, by simp⟩
  | d :: ds, vs, us, ps, e, r, rv => by
    obtain ⟨p, e1, e2⟩ := Option.bind_eq_some_iff.mp (show ((D.py R d).bind fun a => (D.pyL R ds).map fun b => a :: b) = some ps from e)
    obtain ⟨qs, e3, e4⟩ := Option.map_eq_some_iff.mp e2
    obtain ⟨v, ws, ev, r1, r2⟩ := r
    subst e4
    rw [ev] at rv
    cases rv with
    | cons q1 q2 =>
      obtain ⟨as, h1, h2⟩ := rd_d I hK hS hR d v _ p e1 r1 q1
      obtain ⟨bs, h3, h4⟩ := rd_l I hK hS hR ds ws _ qs e3 r2 q2
      exact ⟨as ++ bs, .cons h1 h3, fun q => (List.mem_append.mp q).elim h2 h4⟩
end
theorem rd_tab (I : Inv X pins σ Z.H s) (hK : X.K = G.K) (hS : SysK X.K) (R : Rel G Z μ) : ∀ (k n : Nat) (a : Addr) (p : PyData), Z.th[n]? = some a → tab μ k n = some p → RdP s (.ref a) p
  | 0, _, _, _, _, e => by cases e
  | k + 1, n, a, p, hn, e => by
    unfold tab at e
    cases hm : μ[n]? with
    | none => rw [hm] at e; cases e
    | some xs =>
      rw [hm] at e
      obtain ⟨ps, e1, e2⟩ := Option.map_eq_some_iff.mp e
      obtain ⟨vs, hv, rs, _⟩ := R.cell n a xs hn hm
      subst e2
      exact rd_list I hS (SqL.of hv) fun us r' => rd_l I hK hS (rd_tab I hK hS R k) xs vs us ps e1 rs r'
theorem rd_view (I : Inv X pins σ Z.H s) (hK : X.K = G.K) (hS : SysK X.K) (R : Rel G Z μ) {d : D} {v : V} {u : Value} {p : PyData} (h : view μ d = some p) (r : RV G Z d v) (rv : RelV v u) : RdP s u p :=
  rd_d I hK hS (rd_tab I hK hS R FUEL) d v u p h r rv
/-- repr of data -/
theorem repr_at {prog : Program} {w : World} {A : Around} {E : Value → Shared → Prop} {s : Shared} {u : Value} {p : PyData} {Q : Value → Shared → Prop} (r : RdP s u p) (hg : A.guards = some []) (hu : A.units + 100 < cLine) (ok : reprOk p = true)
    (q : ∀ h' t tk, (∀ b o, s.heap.get? b = some o → h'.get? b = some o) → Q (.str p.shown t) { s with heap := h', toks := tk }) : wpAny (model prog w) A (call (.builtin "repr") [u]) Q E s := by
  obtain ⟨as, rd, hn⟩ := r
  have ok' := Bool.and_eq_true_iff.mp ok
  have ok2 := Bool.and_eq_true_iff.mp ok'.1
  have hs : p.showable = true := ok2.1
  have hz : p.shown.length ≤ sizeLine := by rw [← LIM_eq]; exact of_decide_eq_true ok2.2
  have hd : p.depth ≤ 64 := of_decide_eq_true ok'.2
  have st : ∀ {x : Str}, x = p.shown → Q (.str x s.toks) { s with toks := s.toks + 1 } := fun {x} e => by
    rw [e]
    exact q s.heap _ _ fun _ _ z => z
  cases rd with
  | none => exact P.repr_of_none (st (by rw [PyData.shown_none]))
  | bool b => exact P.repr_of_bool (st (by rw [PyData.shown_bool]))
  | int i t => exact P.repr_of_int (by simpa [PyData.showable] using hs) (st (by rw [PyData.shown_int]))
  | str x t => exact P.repr_of_str (st (by rw [PyData.shown_str])) (by rw [PyData.shown_str] at hz; exact hz)
  | list h1 h2 h3 h4 =>
    obtain ⟨T, idr, B⟩ := showsBy_of_reads (prog := prog) (w := w) (Reads.list h1 h2 h3 h4) hs (fun _ => hn) hz
    refine call_repr_slot (by omega) (B.typeIs s fun _ _ z => z) B.slotRepr (B.call _ _ s _ hg ?_ (fun _ _ z => z) fun h' u tk k => ⟨_, _, rfl, q h' u tk k⟩)
    show A.units + 1 + _ < cLine
    omega
  | tuple h1 h2 h3 h4 =>
    obtain ⟨T, idr, B⟩ := showsBy_of_reads (prog := prog) (w := w) (Reads.tuple h1 h2 h3 h4) hs (fun _ => hn) hz
    refine call_repr_slot (by omega) (B.typeIs s fun _ _ z => z) B.slotRepr (B.call _ _ s _ hg ?_ (fun _ _ z => z) fun h' u tk k => ⟨_, _, rfl, q h' u tk k⟩)
    show A.units + 1 + _ < cLine
    omega
  | dict h1 h2 h3 h4 h5 =>
    obtain ⟨T, idr, B⟩ := showsBy_of_reads (prog := prog) (w := w) (Reads.dict h1 h2 h3 h4 h5) hs (fun _ => hn) hz
    refine call_repr_slot (by omega) (B.typeIs s fun _ _ z => z) B.slotRepr (B.call _ _ s _ hg ?_ (fun _ _ z => z) fun h' u tk k => ⟨_, _, rfl, q h' u tk k⟩)
    show A.units + 1 + _ < cLine
    omega
theorem o_repr (hK : X.K = G.K) (hS : SysK X.K) (hg : X.A.guards = some []) (hu : X.A.units + 100 < cLine) : CallR X (.builtin "repr") fun vs H Q => (∃ x, vs = [x]) ∧ rO G C .repr vs H Q := by
  intro pins s σ H xs us Q I r h
  obtain ⟨⟨x, rfl⟩, Z, μ, ds, pr, rfl, R, rv, e, q⟩ := h
  obtain ⟨d, rfl, r1⟩ := rv.one_inv
  obtain ⟨p, h1, e⟩ := Option.bind_eq_some_iff.mp (show ((view μ d).bind fun a => if reprOk a = true then some (PR.v (.str a.shown)) else none) = some pr from e)
  obtain ⟨ok, rfl⟩ := if_some e
  obtain ⟨u, rfl, ru⟩ := vals1 r
  exact repr_at (rd_view I hK hS R h1 r1 ru) hg hu ok fun h' t tk k => ⟨.str p.shown, Z.H, I.kept k, ⟨_, rfl⟩, q.here R rfl⟩
end
end PyE
set_option maxRecDepth 100000
set_option maxHeartbeats 4000000
/-! isinstance; an exception's value -/
namespace PyE
open PySem PySem.Spec PyProof.Rows L2

/-- what an own error class must be -/
structure XcF (K : PySem.W.Frag) (C : Addr) : Prop where
  cl : (PySem.W.clsIn K C).isSome = true
  ga : PySem.W.findIn K (.ref C) "__getattribute__" = some (some (.builtin "BaseException.__getattribute__"))
  gg : PySem.W.findIn K (.ref C) "__getattr__" = some none
  sub : PySem.W.subIn K (.ref C) (.type "BaseException") = some true
  hd : PySem.W.hasDictIn K C = true
  hc : PySem.W.findIn K (.ref C) "__class__" = some (some (.builtin "object.__class__"))
  hn : PySem.W.specialIn K (.builtin "object.__class__") "__get__" = some (some (.builtin "getset_descriptor.__get__"))
  ht : PySem.W.takesIn K (.builtin "object.__class__") = some true
  hm : PySem.W.mroIn K C (.type "object") = some true
  nv : PySem.W.findIn K (.ref C) "value" = some none
/-- the classes -/
structure GF (G : Gi) (C : Cfg) : Prop where
  xc : ∀ c, G.kc c = true → XcF G.K (G.ca c)
  sub : ∀ c k, G.kc c = true → G.kc k = true → PySem.W.kitOne G.K (.ref (G.ca c)) (.ref (G.ca k)) = some (C.sub c k)
  val : ∀ c, G.kc c = true → PySem.W.kitOne G.K (.ref (G.ca c)) (.type "ValueError") = some true

def tyU (G : Gi) : Ty → Value
  | .tint => .type "int" | .tbool => .type "bool" | .tstr => .type "str" | .tlist => .type "list" | .ttuple => .type "tuple" | .tdict => .type "dict" | .tval => .type "ValueError"
  | .tcls c => .ref (G.ca c)
def tyV (G : Gi) : Ty → V
  | .tint => .ty "int" | .tbool => .ty "bool" | .tstr => .ty "str" | .tlist => .ty "list" | .ttuple => .ty "tuple" | .tdict => .ty "dict" | .tval => .ty "ValueError"
  | .tcls c => .ref (G.ca c)
def tyOk (G : Gi) : Ty → Bool
  | .tcls c => G.kc c
  | _ => true
theorem tyUV (G : Gi) (t : Ty) : ClsV (tyV G t) (tyU G t) := by
  cases t <;> first | exact .ty _ | exact .own _

section
variable {X : Cx} {G : Gi} {C : Cfg} {Z : Wd} {μ : Mu}
/-- a built-in type against the classes -/
theorem ty_base {K : PySem.W.Frag} (T : String) (d : D) (hT : ∀ t : Ty, (∀ c, t ≠ .tcls c) → t ≠ .tval → ∃ n, tyU G t = .type n ∧ kitB T n = some (tyB d t)) (hf : ∀ f, d ≠ .fn f) (he : ∀ c v, d ≠ .exc c v) (t : Ty) (b : Bool) (h : tyIs C.sub d t = some b) :
    PySem.W.kitOne K (.type T) (tyU G t) = some b := by
  have no : ∀ (P : Prop), tyIs C.sub d t = none → P := fun P z => by rw [z] at h; cases h
  have at_ : (∀ c, t ≠ .tcls c) → t ≠ .tval → some (tyB d t) = some b := fun z1 z2 => by
    cases d with
    | fn f => exact absurd rfl (hf f)
    | exc c v => exact absurd rfl (he c v)
    | _ => cases t with
      | tcls c => exact absurd rfl (z1 c)
      | tval => exact absurd rfl z2
      | _ => exact h
  have z1 : ∀ c, t ≠ .tcls c := fun c z => by
    subst z
    refine no _ ?_
    cases d with
    | fn f => exact absurd rfl (hf f)
    | exc c v => exact absurd rfl (he c v)
    | _ => rfl
  have z2 : t ≠ .tval := fun z => by
    subst z
    refine no _ ?_
    cases d with
    | fn f => exact absurd rfl (hf f)
    | exc c v => exact absurd rfl (he c v)
    | _ => rfl
  obtain ⟨n, e1, e2⟩ := hT t z1 z2
  rw [e1, ← at_ z1 z2]
  exact kit_ty e2
theorem ty_all {T : String} {d : D} (h1 : kitB T "int" = some (tyB d .tint)) (h2 : kitB T "bool" = some (tyB d .tbool)) (h3 : kitB T "str" = some (tyB d .tstr)) (h4 : kitB T "list" = some (tyB d .tlist)) (h5 : kitB T "tuple" = some (tyB d .ttuple)) (h6 : kitB T "dict" = some (tyB d .tdict)) :
    ∀ t : Ty, (∀ c, t ≠ .tcls c) → t ≠ .tval → ∃ n, tyU G t = .type n ∧ kitB T n = some (tyB d t)
  | .tint, _, _ => ⟨_, rfl, h1⟩
  | .tbool, _, _ => ⟨_, rfl, h2⟩
  | .tstr, _, _ => ⟨_, rfl, h3⟩
  | .tlist, _, _ => ⟨_, rfl, h4⟩
  | .ttuple, _, _ => ⟨_, rfl, h5⟩
  | .tdict, _, _ => ⟨_, rfl, h6⟩
  | .tval, _, z => absurd rfl z
  | .tcls c, z, _ => absurd rfl (z c)
/-- a value's class, as isinstance asks it -/
theorem kit_D (hK : X.K = G.K) (gf : GF G C) {pins : List (Addr × Obj)} {σ : L2.St} {s : Shared} (I : Inv X pins σ Z.H s) (R : Rel G Z μ) {d : D} {x : V} {u : Value} (r : RV G Z d x) (rx : RelV x u) (hfn : ∀ f, d ≠ .fn f) :
    ∃ (tv : Value) (P : Heap → Prop), PySem.W.KitX X.K u tv P ∧ P s.heap ∧ u ≠ .builtin "__main__.__loader__#opaque" ∧ ∀ t b, tyOk G t = true → tyIs C.sub d t = some b → PySem.W.kitOne X.K tv (tyU G t) = some b := by
  have base : ∀ (T : String), TyX X.K Z.H x (.type T) → (∀ t : Ty, (∀ c, t ≠ .tcls c) → t ≠ .tval → ∃ n, tyU G t = .type n ∧ kitB T n = some (tyB d t)) → (∀ c v, d ≠ .exc c v) →
      ∃ (tv : Value) (P : Heap → Prop), PySem.W.KitX X.K u tv P ∧ P s.heap ∧ u ≠ .builtin "__main__.__loader__#opaque" ∧ ∀ t b, tyOk G t = true → tyIs C.sub d t = some b → PySem.W.kitOne X.K tv (tyU G t) = some b := fun T ty hT he => by
    obtain ⟨P, q1, q2, q3⟩ := kit_of I rx ty
    exact ⟨_, P, q1, q2, q3, fun t b _ h => ty_base T d hT hfn he t b h⟩
  cases d with
  | none =>
    cases (show x = V.non from r)
    exact base "NoneType" (.base .non) (ty_all ((by first | (show kitB _ _ = some true; decide +kernel) | (show kitB _ _ = some false; decide +kernel))) ((by first | (show kitB _ _ = some true; decide +kernel) | (show kitB _ _ = some false; decide +kernel))) ((by first | (show kitB _ _ = some true; decide +kernel) | (show kitB _ _ = some false; decide +kernel))) ((by first | (show kitB _ _ = some true; decide +kernel) | (show kitB _ _ = some false; decide +kernel))) ((by first | (show kitB _ _ = some true; decide +kernel) | (show kitB _ _ = some false; decide +kernel))) ((by first | (show kitB _ _ = some true; decide +kernel) | (show kitB _ _ = some false; decide +kernel)))) fun _ _ z => by cases z
  | bl y =>
    cases (show x = V.bl y from r)
    exact base "bool" (.base (.bl y)) (ty_all ((by first | (show kitB _ _ = some true; decide +kernel) | (show kitB _ _ = some false; decide +kernel))) ((by first | (show kitB _ _ = some true; decide +kernel) | (show kitB _ _ = some false; decide +kernel))) ((by first | (show kitB _ _ = some true; decide +kernel) | (show kitB _ _ = some false; decide +kernel))) ((by first | (show kitB _ _ = some true; decide +kernel) | (show kitB _ _ = some false; decide +kernel))) ((by first | (show kitB _ _ = some true; decide +kernel) | (show kitB _ _ = some false; decide +kernel))) ((by first | (show kitB _ _ = some true; decide +kernel) | (show kitB _ _ = some false; decide +kernel)))) fun _ _ z => by cases z
  | int y =>
    cases (show x = V.int y from r)
    exact base "int" (.base (.int y)) (ty_all ((by first | (show kitB _ _ = some true; decide +kernel) | (show kitB _ _ = some false; decide +kernel))) ((by first | (show kitB _ _ = some true; decide +kernel) | (show kitB _ _ = some false; decide +kernel))) ((by first | (show kitB _ _ = some true; decide +kernel) | (show kitB _ _ = some false; decide +kernel))) ((by first | (show kitB _ _ = some true; decide +kernel) | (show kitB _ _ = some false; decide +kernel))) ((by first | (show kitB _ _ = some true; decide +kernel) | (show kitB _ _ = some false; decide +kernel))) ((by first | (show kitB _ _ = some true; decide +kernel) | (show kitB _ _ = some false; decide +kernel)))) fun _ _ z => by cases z
  | str y =>
    cases (show x = V.str y from r)
    exact base "str" (.base (.str y)) (ty_all ((by first | (show kitB _ _ = some true; decide +kernel) | (show kitB _ _ = some false; decide +kernel))) ((by first | (show kitB _ _ = some true; decide +kernel) | (show kitB _ _ = some false; decide +kernel))) ((by first | (show kitB _ _ = some true; decide +kernel) | (show kitB _ _ = some false; decide +kernel))) ((by first | (show kitB _ _ = some true; decide +kernel) | (show kitB _ _ = some false; decide +kernel))) ((by first | (show kitB _ _ = some true; decide +kernel) | (show kitB _ _ = some false; decide +kernel))) ((by first | (show kitB _ _ = some true; decide +kernel) | (show kitB _ _ = some false; decide +kernel)))) fun _ _ z => by cases z
  | tup xs =>
    obtain ⟨a, vs, rfl, q, _, _⟩ := r
    refine base "tuple" ?_ (ty_all ((by first | (show kitB _ _ = some true; decide +kernel) | (show kitB _ _ = some false; decide +kernel))) ((by first | (show kitB _ _ = some true; decide +kernel) | (show kitB _ _ = some false; decide +kernel))) ((by first | (show kitB _ _ = some true; decide +kernel) | (show kitB _ _ = some false; decide +kernel))) ((by first | (show kitB _ _ = some true; decide +kernel) | (show kitB _ _ = some false; decide +kernel))) ((by first | (show kitB _ _ = some true; decide +kernel) | (show kitB _ _ = some false; decide +kernel))) ((by first | (show kitB _ _ = some true; decide +kernel) | (show kitB _ _ = some false; decide +kernel)))) fun _ _ z => by cases z
    rcases q with (q | ⟨o, q⟩) | ⟨o, its, n, e, e1, _⟩
    · exact .base (.tup q)
    · exact .fTuple q
    · exact .kTuple (by rw [hK]; exact e) e1
  | lst xs =>
    obtain ⟨a, vs, rfl, _, q, _, _⟩ := r
    exact base "list" (.base (.lst q)) (ty_all ((by first | (show kitB _ _ = some true; decide +kernel) | (show kitB _ _ = some false; decide +kernel))) ((by first | (show kitB _ _ = some true; decide +kernel) | (show kitB _ _ = some false; decide +kernel))) ((by first | (show kitB _ _ = some true; decide +kernel) | (show kitB _ _ = some false; decide +kernel))) ((by first | (show kitB _ _ = some true; decide +kernel) | (show kitB _ _ = some false; decide +kernel))) ((by first | (show kitB _ _ = some true; decide +kernel) | (show kitB _ _ = some false; decide +kernel))) ((by first | (show kitB _ _ = some true; decide +kernel) | (show kitB _ _ = some false; decide +kernel)))) fun _ _ z => by cases z
  | ref n =>
    obtain ⟨a, e, rfl⟩ := r
    obtain ⟨vs, q⟩ := R.atCell (List.mem_of_getElem? e)
    exact base "list" (.base (.lst q)) (ty_all ((by first | (show kitB _ _ = some true; decide +kernel) | (show kitB _ _ = some false; decide +kernel))) ((by first | (show kitB _ _ = some true; decide +kernel) | (show kitB _ _ = some false; decide +kernel))) ((by first | (show kitB _ _ = some true; decide +kernel) | (show kitB _ _ = some false; decide +kernel))) ((by first | (show kitB _ _ = some true; decide +kernel) | (show kitB _ _ = some false; decide +kernel))) ((by first | (show kitB _ _ = some true; decide +kernel) | (show kitB _ _ = some false; decide +kernel))) ((by first | (show kitB _ _ = some true; decide +kernel) | (show kitB _ _ = some false; decide +kernel)))) fun _ _ z => by cases z
  | scr xs =>
    obtain ⟨a, rfl, q, _⟩ := r
    refine base "list" ?_ (ty_all ((by first | (show kitB _ _ = some true; decide +kernel) | (show kitB _ _ = some false; decide +kernel))) ((by first | (show kitB _ _ = some true; decide +kernel) | (show kitB _ _ = some false; decide +kernel))) ((by first | (show kitB _ _ = some true; decide +kernel) | (show kitB _ _ = some false; decide +kernel))) ((by first | (show kitB _ _ = some true; decide +kernel) | (show kitB _ _ = some false; decide +kernel))) ((by first | (show kitB _ _ = some true; decide +kernel) | (show kitB _ _ = some false; decide +kernel))) ((by first | (show kitB _ _ = some true; decide +kernel) | (show kitB _ _ = some false; decide +kernel)))) fun _ _ z => by cases z
    rcases q with ⟨o, q⟩ | q
    · exact .base (.frz q)
    · rcases q (fun _ => none) with (q | ⟨o, q⟩) | ⟨o, its, n, e, e1, _⟩
      · cases q
      · cases q
      · exact .kList (by rw [hK]; exact e) e1
  | dct =>
    obtain ⟨a, rfl, q⟩ := r
    exact base "dict" (.base (.dK q)) (ty_all ((by first | (show kitB _ _ = some true; decide +kernel) | (show kitB _ _ = some false; decide +kernel))) ((by first | (show kitB _ _ = some true; decide +kernel) | (show kitB _ _ = some false; decide +kernel))) ((by first | (show kitB _ _ = some true; decide +kernel) | (show kitB _ _ = some false; decide +kernel))) ((by first | (show kitB _ _ = some true; decide +kernel) | (show kitB _ _ = some false; decide +kernel))) ((by first | (show kitB _ _ = some true; decide +kernel) | (show kitB _ _ = some false; decide +kernel))) ((by first | (show kitB _ _ = some true; decide +kernel) | (show kitB _ _ = some false; decide +kernel)))) fun _ _ z => by cases z
  | fn f => exact absurd rfl (hfn f)
  | exc c v =>
    obtain ⟨kc, a, dd, w, rfl, q1, q2, _⟩ := r
    cases (show u = Value.ref a from rx)
    have F := gf.xc c kc
    obtain ⟨⟨oe, vs, e1, z, e2⟩, _⟩ := (show ObjOk X.prog X.w Z.H s.heap a (ExV (.ref (G.ca c)) a dd) from I.hok a _ q1)
    obtain ⟨mA, hns, hr⟩ := (show ObjOk X.prog X.w Z.H s.heap dd (.xd [("value", w)]) from I.hok dd _ q2)
    obtain ⟨od, ho, hl⟩ := lookIn_ns hns
    refine ⟨.ref (G.ca c), _, PySem.W.kitx_exc (ox := oe) (od := some od) (by rw [hK]; exact F.cl) (by rw [hK]; exact F.ga) (by rw [hK]; exact F.gg) (by rw [hK]; exact F.sub) (by rw [hK]; exact F.hc) (by rw [hK]; exact F.hn) (by rw [hK]; exact F.ht) (by rw [hK]; exact F.hm), ?_, fun z => (by cases z), ?_⟩
    · exact ⟨e1, z.1, by unfold PySem.W.notCls; rw [e2], by rw [z.2]; exact ho⟩
    · intro t b ok h
      cases t with
      | tcls k =>
        have e : some (C.sub c k) = some b := h
        rw [hK, ← e]
        exact gf.sub c k kc ok
      | tval =>
        have e : some true = some b := h
        rw [hK, ← e]
        exact gf.val c kc
      | _ => cases h
theorem kits_any {K : PySem.W.Frag} {tv : Value} {d : D} (h : ∀ t b, tyOk G t = true → tyIs C.sub d t = some b → PySem.W.kitOne K tv (tyU G t) = some b) : ∀ (ts : List Ty) (b : Bool), ts.all (tyOk G) = true → isiS C.sub d ts = some b → PySem.W.kitAny K tv (ts.map (tyU G)) = some b
  | [], b, _, e => e
  | t :: ts, b, ok, e => by
    rw [List.all_cons, Bool.and_eq_true] at ok
    obtain ⟨b1, e1, e⟩ := Option.bind_eq_some_iff.mp e
    obtain ⟨b2, e2, e⟩ := Option.map_eq_some_iff.mp e
    refine kitAny_cons (h t b1 ok.1 e1) (fun z => ?_) fun z => ?_
    · rw [kits_any h ts b2 ok.2 e2, ← e, z]; rfl
    · rw [← e, z]; rfl
theorem tyIs_nf {sub : Fid → Fid → Bool} {d : D} {t : Ty} {b : Bool} (h : tyIs sub d t = some b) : ∀ f, d ≠ .fn f := fun f z => by
  rw [z] at h; cases h
/-- isinstance, one class or a tuple of classes just made -/
def rIs (G : Gi) (C : Cfg) (ts : List Ty) : List V → Hp → VK → Prop := fun xs H Q => ∃ x c, xs = [x, c] ∧ ((∃ t, ts = [t] ∧ c = tyV G t) ∨ ∃ p, c = .ref p ∧ H p = some (.tup (ts.map (tyV G)))) ∧
  ∃ Z μ d b, Z.H = H ∧ Rel G Z μ ∧ RV G Z d x ∧ isiS C.sub d ts = some b ∧ Q (.bl b) H
theorem c_isi (hK : X.K = G.K) (gf : GF G C) {ts : List Ty} (ok : ts.all (tyOk G) = true) (hne : ts ≠ []) : CallR X (.builtin "isinstance") (rIs G C ts) := by
  intro pins s σ H xs us Q I r h
  obtain ⟨x, c, rfl, hc, Z, μ, d, b, rfl, R, rv, e, q⟩ := h
  obtain ⟨u1, u2, rfl, r1, r2⟩ := vals2 r
  have nf : ∀ f, d ≠ .fn f := by
    cases ts with
    | nil => exact absurd rfl hne
    | cons t ts =>
      obtain ⟨b1, e1, _⟩ := Option.bind_eq_some_iff.mp e
      exact tyIs_nf e1
  obtain ⟨tv, P, k1, k2, k3, k4⟩ := kit_D hK gf I R rv r1 nf
  rcases hc with ⟨t, rfl, rfl⟩ | ⟨p, rfl, hp⟩
  · have e2 := (tyUV G t).eq r2
    subst e2
    rw [List.all_cons, Bool.and_eq_true] at ok
    obtain ⟨b1, e1, e⟩ := Option.bind_eq_some_iff.mp e
    have e' : some (b1 || false) = some b := e
    rw [Bool.or_false] at e'
    refine PySem.W.kia_one k1 I.kIn k2 (k4 t b1 ok.1 e1) k3 fun tk => ⟨.bl b, Z.H, I.tok tk, ?_, q⟩
    rw [← Option.some.inj e']; rfl
  · cases (show u2 = Value.ref p from r2)
    obtain ⟨_, its, rw', o, h1, h2, n, h3⟩ := (show ObjOk X.prog X.w Z.H s.heap p (.tup (ts.map (tyV G))) from I.hok p _ hp)
    have pz : ∀ l : List Ty, Paired ClsV (l.map (tyV G)) (l.map (tyU G)) := fun l => by
      induction l with
      | nil => exact .nil
      | cons t l ih => exact .cons (tyUV G t) ih
    have e3 := ClsV.all (pz ts) rw'
    subst e3
    obtain ⟨oc, od, dt, sl⟩ := o
    simp only at h2 h3
    subst h2 h3
    exact PySem.W.kia_tup k1 I.kIn k2 h1 (kits_any k4 ts b ok e) k3 fun tk => ⟨.bl b, Z.H, I.tok tk, rfl, q⟩

/-- e.value -/
theorem p_value (hK : X.K = G.K) (gf : GF G C) {e : Expr} {te : TE} {pos : Pos} (he : PE X e te) (hb : attributeBase e "value" X.env (eval e X.env) = eval e X.env) :
    PE X (.Attribute e "value" pos) (fun σ H Q => te σ H fun x H1 => rO G C .attr [x] H1 Q) := by
  refine ⟨fun pins s σ H Q I h => ?_⟩
  refine attr_of hb (thn (he.run pins s σ H _ I h) fun u s1 hh => ?_)
  obtain ⟨x, H1, I1, rx, Z, μ, ds, pr, rfl, R, rv, eo, q⟩ := hh
  obtain ⟨d, rfl, r1⟩ := rv.one_inv
  cases d with
  | exc c v =>
    have epr : PR.v v = pr := Option.some.inj eo
    subst epr
    obtain ⟨kc, a, dd, w, rfl, q1, q2, rw'⟩ := r1
    cases (show u = Value.ref a from rx)
    have F := gf.xc c kc
    obtain ⟨⟨oe, vs, e1, z, e2⟩, _⟩ := (show ObjOk X.prog X.w Z.H s1.heap a (ExV (.ref (G.ca c)) a dd) from I1.hok a _ q1)
    obtain ⟨mA, hns, hr⟩ := (show ObjOk X.prog X.w Z.H s1.heap dd (.xd [("value", w)]) from I1.hok dd _ q2)
    obtain ⟨od, ho, hl⟩ := lookIn_ns hns
    obtain ⟨y, hy, ry⟩ := RelO.some_of (v := w) (o := mA "value") (hr "value")
    have J : PySem.W.InstAt s1.heap a oe (G.ca c) (some od) := ⟨e1, z.1, by unfold PySem.W.notCls; rw [e2], by rw [z.2]; exact ho⟩
    exact HandSPX.exc_get I1.kIn J (by rw [hK]; exact F.ga) (by rw [hK]; exact F.gg) (by rw [hK]; exact F.sub) (PySem.W.findObj_own (by rw [hK]; exact F.hd) (by rw [hK]; exact F.nv) rfl (by rw [hl, hy])) (handed_of ry) ⟨w, Z.H, I1.tok _, ry, q.here R rw'⟩
  | _ => cases eo
end
end PyE
set_option maxRecDepth 100000
set_option maxHeartbeats 4000000
/-! methods of lists, bit_length, [::-1], stores -/
namespace PyE
open PySem PySem.Spec PyProof.Rows L2
section
variable {G : Gi} {Z Z' : Wd} {μ μ' : Mu}
/-- a cell written anew -/
theorem Ext.put {a : Addr} {o : HO} (R : Rel G Z μ) (h : a ∈ Z.th) : Ext Z (Z.lay a o) where
  pre := List.prefix_refl _
  fresh := fun _ q => .inl q
  sub := fun _ q => q
  new := fun _ q => .inl q
  keep := fun b u q n => by
    show upd Z.H a o b = some u
    rw [upd_ne (fun z => n (by rw [z]; exact h))]
    exact q
  dom := fun b q => by
    have q' : upd Z.H a o b = none := q
    by_cases e : b = a
    · rw [e, upd_same] at q'; cases q'
    · rw [upd_ne e] at q'; exact q'
theorem Rel.put (R : Rel G Z μ) {n : Nat} {a : Addr} {ds : List D} {vs : List V} (h : Z.th[n]? = some a) (r : RVs G Z ds vs) (z : ds.length ≤ LIM) : Rel G (Z.lay a (.lst vs)) (μ.set n ds) := by
  have ha : a ∈ Z.th := List.mem_of_getElem? h
  refine ⟨by rw [List.length_set]; exact R.len, R.nd, fun m b es hb hm => ?_, R.sep, fun b q z => R.has b q ((Ext.put R ha).dom b z)⟩
  have hn : n < μ.length := by rw [← R.len]; exact (List.getElem?_eq_some_iff.mp h).1
  by_cases e : m = n
  · subst e
    have e1 : b = a := by rw [show (Z.lay a (.lst vs)).th = Z.th from rfl, h] at hb; exact (Option.some.inj hb).symm
    subst e1
    rw [List.getElem?_set_self hn] at hm
    have e2 : ds = es := Option.some.inj hm
    subst e2
    exact ⟨vs, upd_same, RVs.ext (Ext.put R ha) R ds vs r, z⟩
  · rw [List.getElem?_set_ne (fun z => e z.symm)] at hm
    obtain ⟨ws, q1, q2, q3⟩ := R.cell m b es hb hm
    have hne : b ≠ a := fun z => by
      have hb' : Z.th[m]? = some b := hb
      rw [z] at hb'
      have h1 := (List.getElem?_eq_some_iff.mp hb')
      have h2 := (List.getElem?_eq_some_iff.mp h)
      obtain ⟨l1, e1⟩ := h1
      obtain ⟨l2, e2⟩ := h2
      exact e (List.getElem_inj R.nd |>.mp (e1.trans e2.symm))
    refine ⟨ws, ?_, RVs.ext (Ext.put R ha) R es ws q2, q3⟩
    show upd Z.H a _ b = _
    rw [upd_ne hne]; exact q1
theorem RVs.dropLast : ∀ {ds : List D} {vs : List V}, RVs G Z ds vs → RVs G Z ds.dropLast vs.dropLast := fun {ds vs} h => by
  rw [List.dropLast_eq_take, List.dropLast_eq_take, ← h.length]
  exact RVs.take _ h
theorem RVs.eraseIdx {ds : List D} {vs : List V} (k : Nat) (h : RVs G Z ds vs) : RVs G Z (ds.eraseIdx k) (vs.eraseIdx k) := by
  rw [List.eraseIdx_eq_take_drop_succ, List.eraseIdx_eq_take_drop_succ]
  exact (RVs.take _ h).append (RVs.drop _ h)
end
theorem place_ix (i : Int) (n : Nat) : place i n = ixN n i := rfl

/-- a method of a cell -/
def rM (G : Gi) (m : MOp) : V → List V → Hp → VK → Prop := fun x xs H Q => ∃ Z μ n ds r μ', Z.H = H ∧ Rel G Z μ ∧ RV G Z (.ref n) x ∧ RVs G Z ds xs ∧ mopS μ m (.ref n) ds = some (r, μ') ∧ ∀ v Z', Ext Z Z' → Rel G Z' μ' → RV G Z' r v → Q v Z'.H
section
variable {X : Cx} {G : Gi} {C : Cfg}
theorem m_append : MtM X "list.append" (rM G .append) := by
  intro pins s σ H x xs v us Q I rx rxs h
  obtain ⟨Z, μ, n, ds, r, μ', rfl, R, r1, r2, e, q⟩ := h
  obtain ⟨d, rfl⟩ : ∃ d, ds = [d] := by
    cases ds with
    | nil => cases e
    | cons d t => cases t with
      | nil => exact ⟨d, rfl⟩
      | cons _ _ => cases e
  obtain ⟨a, ea, rfl⟩ := r1
  obtain ⟨cs, hc, e⟩ := Option.bind_eq_some_iff.mp e
  split at e
  · rename_i hz
    cases e
    obtain ⟨w, t, rfl, rw1, rt⟩ := r2
    have et : t = [] := rt
    subst et
    obtain ⟨ws, q1, q2, q3⟩ := R.cell n a cs ea hc
    refine mt_append pins s σ Z.H _ _ v us Q I rx rxs ⟨a, ws, w, rfl, rfl, q1, by rw [← q2.length, ← LIM_eq]; exact hz, ?_⟩
    exact q .non (Z.lay a (.lst (ws ++ [w]))) (Ext.put R (List.mem_of_getElem? ea)) (R.put ea (q2.append (.one rw1)) (by rw [List.length_append]; exact hz)) rfl
  · cases e
theorem m_pop : MtM X "list.pop" (rM G .pop) := by
  intro pins s σ H x xs v us Q I rx rxs h
  obtain ⟨Z, μ, n, ds, r, μ', rfl, R, r1, r2, e, q⟩ := h
  cases ds with
  | cons d ds => cases e
  | nil =>
    obtain ⟨a, ea, rfl⟩ := r1
    obtain ⟨cs, hc, e⟩ := Option.bind_eq_some_iff.mp e
    obtain ⟨d, hd, e⟩ := Option.map_eq_some_iff.mp e
    cases e
    have et : xs = [] := r2
    subst et
    obtain ⟨ws, q1, q2, q3⟩ := R.cell n a cs ea hc
    obtain ⟨w, w1, w2⟩ := q2.get hd
    refine mt_pop pins s σ Z.H _ _ v us Q I rx rxs ⟨a, ws, w, rfl, rfl, q1, by rw [← q2.length]; exact w1, ?_⟩
    have X := Ext.put (o := .lst ws.dropLast) R (List.mem_of_getElem? ea)
    exact q w (Z.lay a (.lst ws.dropLast)) X (R.put ea q2.dropLast (by rw [List.length_dropLast]; omega)) (RV.ext X R _ _ w2)
theorem m_popi : MtM X "list.pop" (rM G .popi) := by
  intro pins s σ H x xs v us Q I rx rxs h
  obtain ⟨Z, μ, n, ds, r, μ', rfl, R, r1, r2, e, q⟩ := h
  obtain ⟨i, rfl⟩ : ∃ i, ds = [.int i] := by
    cases ds with
    | nil => cases e
    | cons d t => cases t with
      | nil => cases d with
        | int i => exact ⟨i, rfl⟩
        | _ => cases e
      | cons _ _ => cases d <;> cases e
  obtain ⟨a, ea, rfl⟩ := r1
  obtain ⟨cs, hc, e⟩ := Option.bind_eq_some_iff.mp e
  obtain ⟨k, hk, e⟩ := Option.bind_eq_some_iff.mp e
  obtain ⟨d, hd, e⟩ := Option.map_eq_some_iff.mp e
  cases e
  obtain ⟨y, t, rfl, ry, rt⟩ := r2
  have et : t = [] := rt
  subst et
  have ey : y = .int i := ry
  subst ey
  obtain ⟨ws, q1, q2, q3⟩ := R.cell n a cs ea hc
  obtain ⟨w, w1, w2⟩ := q2.get hd
  rw [place_ix, q2.length] at hk
  obtain ⟨s1, s2, s3, s4⟩ := ixN_seq hk
  have hz : (ws.length : Int) ≤ 16777216 := by have := q3; rw [q2.length] at this; unfold LIM at this; omega
  refine mt_popAt pins s σ Z.H _ _ v us Q I rx rxs ⟨a, ws, i, k, w, rfl, rfl, q1, by omega, by omega, s1, w1, ?_⟩
  have X := Ext.put (o := .lst (ws.eraseIdx k)) R (List.mem_of_getElem? ea)
  refine q w (Z.lay a (.lst (ws.eraseIdx k))) X (R.put ea (q2.eraseIdx k) ?_) (RV.ext X R _ _ w2)
  have := List.length_eraseIdx_le cs k
  omega
theorem tyV_ref {Z : Wd} {μ : Mu} {n : Nat} {x : V} (R : Rel G Z μ) (r : RV G Z (.ref n) x) : L2.tyV X.K "list" x Z.H := by
  obtain ⟨a, ea, rfl⟩ := r
  obtain ⟨vs, e⟩ := R.atCell (List.mem_of_getElem? ea)
  exact .inl ⟨rfl, vs, .of e⟩
/-! ### [::-1] -/
theorem p_rev (hK : X.K = G.K) {e : Expr} {te : TE} {k : Nat} {p1 p2 p3 pos : Pos} (he : PE X e te) (hm : ∀ σ H (Q Q' : VK), (∀ x H, Q x H → Q' x H) → te σ H Q → te σ H Q') :
    PE X (.Subscript e (.Slice none none (some (.UnaryOp .USub (.Constant (.int 1) k p1) p2)) p3) pos) (fun σ H Q => te σ H fun x H1 => rO G C .rev [x] H1 Q) := by
  refine pe_mono (pe_revL he) fun σ H Q q => hm σ H _ _ (fun x H1 z => ?_) q
  obtain ⟨Z, μ, ds, pr, e, R, rv, eo, q⟩ := z
  subst e
  obtain ⟨d, rfl, r1⟩ := rv.one_inv
  obtain ⟨xs, hx, e⟩ := Option.map_eq_some_iff.mp (show (litems μ d).map (fun xs => PR.new xs.reverse) = some pr from eo)
  subst e
  obtain ⟨a, vs, rfl, q1, q2, q3⟩ := R.litems hx r1
  exact ⟨a, vs, rfl, by rw [hK]; exact .of q1, q.made R q2.reverse (by rw [List.length_reverse]; exact q3)⟩
/-! ### x.bit_length() -/
/-! ### stores -/
def tSetS (G : Gi) : TSet := fun o i v H Q => ∃ Z μ d k e μ', Z.H = H ∧ Rel G Z μ ∧ RV G Z d o ∧ RV G Z k i ∧ RV G Z e v ∧ subS μ d k e = some μ' ∧ ∀ Z', Ext Z Z' → Rel G Z' μ' → Q Z'.H
theorem s_set : PSet X (tSetS G) := by
  intro pins s σ H o i v ov iv u Q I ro ri rv h
  obtain ⟨Z, μ, d, k, e, μ', rfl, R, r1, r2, r3, es, q⟩ := h
  unfold subS at es
  split at es
  · rename_i n j
    obtain ⟨cs, hc, es⟩ := Option.bind_eq_some_iff.mp es
    obtain ⟨p, hp, es⟩ := Option.map_eq_some_iff.mp es
    subst es
    obtain ⟨a, ea, rfl⟩ := r1
    have ei : i = .int j := r2
    subst ei
    obtain ⟨ws, q1, q2, q3⟩ := R.cell n a cs ea hc
    rw [place_ix, q2.length] at hp
    refine set_list pins s σ Z.H _ _ v ov iv u Q I ro ri rv ⟨a, ws, j, p, rfl, rfl, q1, hp, ?_⟩
    exact q (Z.lay a (.lst (ws.set p v))) (Ext.put R (List.mem_of_getElem? ea)) (R.put ea (RVs.set r3 p q2) (by rw [List.length_set]; exact q3))
  · cases es
end
end PyE
set_option maxRecDepth 100000
set_option maxHeartbeats 4000000
/-! an exception taken up as a value -/
namespace PyE
open PySem PySem.Spec PyProof.Rows L2
section
variable {X : Cx} {pins : List (Addr × Obj)} {σ : L2.St} {H : Hp} {s : Shared}
/-- an object nobody tracked, younger than the frame, is tracked from here on -/
theorem inv_track {a : Addr} {o : HO} (I : L2.Inv X pins σ H s) (ha : H a = none) (h0 : X.s_0.heap.get? a = none) (hl : a ≠ X.env.locals) (hc : ∀ x c, X.env.cells.lookup x = some c → c ≠ a) (hp : ∀ p ∈ X.pn ++ pins, p.1 ≠ a)
    (new : ObjOk X.prog X.w (upd H a o) s.heap a o) : L2.Inv X pins σ (upd H a o) s where
  ok := I.ok
  os := I.os
  bare := I.bare
  base := by
    have u := I.base
    exact ⟨u.keep, u.slot, fun b ob q m x => by rw [upd_ne (fun z => by rw [z, h0] at q; cases q)]; exact u.free b ob q m x, u.there,
      fun b xs q => by have := u.tups b xs q; rw [upd_ne (ne_of_none this ha)]; exact this, fun b ob v q => by have := u.frzs b ob v q; rw [upd_ne (ne_of_none this ha)]; exact this,
      fun b ps q => by obtain ⟨m, this⟩ := u.tbls b ps q; exact ⟨m, by rw [upd_ne (ne_of_none this ha)]; exact this⟩⟩
  loc := I.loc
  cell := I.cell
  free := by rw [upd_ne (Ne.symm hl)]; exact I.free
  freeC := fun x c h => by rw [upd_ne (hc x c h)]; exact I.freeC x c h
  pin := fun p h => by
    obtain ⟨q1, q2, q3⟩ := I.pin p h
    exact ⟨q1, by rw [upd_ne (hp p h)]; exact q2, q3⟩
  hok := fun b u h => by
    by_cases e : b = a
    · subst e
      rw [upd_same] at h
      cases h
      exact new
    · rw [upd_ne e] at h
      exact (I.hok b u h).stay (fun _ _ _ q => q) (fun c q => by rw [upd_ne (ne_of_none q ha)]; exact q) (fun c xs q => by rw [upd_ne (ne_of_none q ha)]; exact q)
  len := I.len
theorem exv_ok {P : Program} {w : World} {h : Heap} {a dd : Addr} {cls : Value} {oe : Obj} {vs : Array Value} (e : h.get? a = some oe) (z : Zc cls (some dd) oe) (d : oe.data = .fields vs) : ObjOk P w H h a (ExV cls a dd) :=
  ⟨⟨oe, vs, e, z, d⟩, ⟨oe, e⟩, fun _ _ ⟨o, v, q, r⟩ k => ⟨o, v, k o q, r⟩⟩
end
end PyE
set_option maxRecDepth 100000
set_option maxHeartbeats 4000000
/-! try: .. / except C as e: y = e -/
namespace PyE
open PySem PySem.Spec PyProof.Rows L2
/-- what the body's exceptions are wished: the class takes it, then y is it; or it goes on -/
def wTry (K : PySem.W.Frag) (c : Value) (i j : Nat) (Wo : WX) (E : Ends) : WX := fun cls d σ H =>
  ∃ b, PySem.W.exmOne K cls c = some b ∧ (b = true → ∃ dd, d = some dd ∧ ∀ a, H a = none → E.nx (((σ.set i (some (.ref a))).set j (some (.ref a))).set i none) (upd H a (ExV cls a dd))) ∧ (b = false → Wo cls d σ H)
theorem ps_tryx {X : Cx} {Wo : WX} {body : List Stmt} {tb : WX → TS} {x n y : Str} {i j : Nat} {c : Value} {np hp pos yp vp ap : Pos} (hs : X.stack = X.env :: X.outer) (hf : X.env.frame = some X.env.locals) (hN : X.N.Nodup) (hi : X.N[i]? = some n) (hj : X.N[j]? = some y) (hln : X.env.kindOf n = some .local)
    (hly : Loc X.env.scope y) (hfy : X.fn y = true ∨ X.env.scope.names.lookup y = some .local) (hdn : (n == ("__debug__" : Str)) = false) (hcn : (n == ("__classdict__" : Str)) = false) (hi2 : i < X.N.length) (hc : Names X x c) (tk : Takes X Wo) (hex : X.ex = [])
    (hb : ∀ (W : WX) (pn : List (Addr × Obj)) (xe : Value → Shared → Prop), Takes (X.tr pn xe) W → PassesOwn (model X.prog X.w) X.A X.env xe → PSs (X.tr pn xe) body (tb W)) :
    PS X (.Try body [.ExceptHandler (some (.Name x np)) (some n) [.Assign [.Name y yp] (.Name n vp) ap] hp] [] [] pos) (fun E σ H => tb (wTry X.K c i j Wo E) E σ H) := by
  refine ⟨fun pins s σ H E I h => ?_⟩
  have okX := I.ok
  have frX : X.A.frames = some (X.env :: X.outer) := by rw [okX.frames, hs]
  have locN : Loc X.env.scope n := .inl hln
  refine wpAny_Try_except ?_
  refine wpAny_mono ((hb (wTry X.K c i j Wo E) (X.pn ++ pins) (fun v s₁ => wpAny (model X.prog X.w) X.A (noteFrame v X.env) (fun _ s₂ => wpAny (model X.prog X.w) X.A (setFlight v none) (fun _ s₃ =>
    wpAny (model X.prog X.w) X.A (handleBy v X.env [.ExceptHandler (some (.Name x np)) (some n) [.Assign [.Name y yp] (.Name n vp) ap] hp]) (SP X pins E) X.xe s₃) X.xe s₂) X.xe s₁) (fun u sE xx => ?_) PassesOwn.looking).run [] s σ H E (I.toTry _) h) (fun f s1 hsp => ?_) (fun v s1 he => he)
  · obtain ⟨a, B, sR, pinsR, σR, HR, cls, d, rfl, IR0, nb, up, sky, na, os, ag, b, hb1, hyes, hno⟩ := xx
    have IR : L2.Inv X pins σR HR sR := IR0.ofTry okX
    have sky' : Sky B (X.env :: X.outer) a (Zc cls d) X.env.locals sE.heap := by rw [← hs]; exact sky
    show wpAny (model X.prog X.w) X.A (noteFrame (.ref a) X.env) _ _ _
    refine Sky.land Zc.steady frX hf sky' fun hA fA upA => ?_
    have IA : L2.Inv X pins σR HR { sE with heap := hA } := IR.landed nb fA.1 (up.trans upA) os ag
    obtain ⟨oA, vA, eA, zA, dA⟩ := fA.there
    have offF : ∀ {hh : Heap} {o : Obj} {vs : Array Value}, hh.FunFrames B (X.env :: X.outer) → hh.get? a = some o → o.data = .fields vs → a ∉ frs (X.env :: X.outer) := fun {hh o vs} ff e dd hm => by
      obtain ⟨_, o', e', hnf⟩ := ff.mem hm
      rw [e] at e'; cases e'
      exact hnf _ dd
    have nFr := offF fA.2.2.1 eA dA
    have nLoc : a ≠ X.env.locals := fun z => nFr (List.mem_filterMap.mpr ⟨X.env, List.mem_cons_self, by rw [hf, z]⟩)
    have nOut : a ∉ X.fs := fun hm => by
      obtain ⟨q, hq, q2⟩ := List.mem_filterMap.mp hm
      exact nFr (List.mem_filterMap.mpr ⟨q, List.mem_cons_of_mem _ hq, q2⟩)
    -- a is younger than the raise's heap
    have gB : B.get? a = none := fA.2.1
    have gR : sR.heap.get? a = none := by
      cases q : sR.heap.get? a with
      | none => rfl
      | some o =>
        have := nb a o q (by rw [hs]; exact nFr)
        rw [gB] at this; cases this
    have g0 : X.s_0.heap.get? a = none := by
      cases q : X.s_0.heap.get? a with
      | none => rfl
      | some o =>
        obtain ⟨o', q'⟩ := IR.base.there a o q (by rw [hex]; simp)
        rw [gR] at q'; cases q'
    have nCell : ∀ z cc, X.env.cells.lookup z = some cc → cc ≠ a := fun z cc hz e => by
      obtain ⟨v, o, q, _⟩ := IR.cell z cc hz
      rw [e, gR] at q; cases q
    have nPin : ∀ p ∈ X.pn ++ pins, p.1 ≠ a := fun p hp e => by
      have := (IR.pin p hp).1
      rw [e, gR] at this; cases this
    have SA := IA.suite eA dA na nLoc nOut
    refine wpAny_handleBy_cons (codeAny_handlers_test ?_) (by intro q; cases q)
    have lookT : PySem.W.Looks (model X.prog X.w) hA (typeOf (.ref a)) cls := fun A Q E s k q => wpAny_typeOf_ref (k _ _ eA) (by rw [zA.1]; exact q)
    have lookM := PySem.W.exm_one (M := model X.prog X.w) (IA.kIn) lookT hb1
    have nameC : ∀ {Q : Value → Shared → Prop} {E : Value → Shared → Prop}, Q c { sE with heap := hA } → wpAny (model X.prog X.w) (X.A.mark (some (.ref a))) (eval (.Name x np) X.env) Q E { sE with heap := hA } := fun {Q E} q => by
      obtain ⟨hg, hdbg, hm | ⟨hm, hv, hnn⟩⟩ := hc
      · exact ld_glob (X := X.suite a ((a, oA) :: (X.pn ++ pins))) SA hg hm q hdbg
      · exact ld_blt (X := X.suite a ((a, oA) :: (X.pn ++ pins))) SA hg hm hv q hnn hdbg
    refine nameC (lookM.here ?_)
    cases b with
    | true =>
      refine codeAny_handlers_suite_as ?_
      refine HandSPX.lands_againZ fA fun hC fC upC => ?_
      have IC : L2.Inv X pins σR HR { sE with heap := hC } := IR.landed nb fC.1 ((up.trans upA).trans upC) os ag
      obtain ⟨oC, vC, eC, zC, dC⟩ := fC.there
      have SC := IC.suite eC dC na nLoc nOut
      refine store_ok (X := X.suite a ((a, oC) :: (X.pn ++ pins))) (v := .ref a) SC hN hi locN rfl (fun sD SD => ?_) (.inr hln)
      have lenR : σR.length = X.N.length := IR.len
      have line : PSs (X.suite a ((a, oC) :: (X.pn ++ pins))) [.Assign [.Name y yp] (.Name n vp) ap] (tSeq (tAsg (tVar i) (gName j)) tNext) := pss_cons (ps_set hN hj hly (pe_var hi (.inl hln) hdn hcn) rfl hfy) pss_nil
      refine wpAny_mono (line.run [] sD _ HR { nx := fun σ' H' => σ' = (σR.set i (some (.ref a))).set j (some (.ref a)) ∧ H' = HR, rt := fun _ _ => False } SD ⟨.ref a, List.getElem?_set_self (by rw [lenR]; exact hi2), rfl, rfl⟩) (fun f sF hsp => ?_) (fun _ _ z => False.elim z)
      cases f with
      | next =>
        obtain ⟨σF, HF, SF, e1, e2⟩ := hsp
        rw [e1, e2] at SF
        have atA : sF.heap.get? a = some oC := (SF.pin (a, oC) (List.mem_append_left _ List.mem_cons_self)).1
        have IF := SF.unsuite okX
        have IF2 : L2.Inv X ((a, oC) :: pins) ((σR.set i (some (.ref a))).set j (some (.ref a))) HR sF := IF.pins_of fun p hp => by
          rcases List.mem_cons.mp hp with e | hp
          · rw [e]
            exact ⟨atA, na, nLoc, nOut, fun v z => by rw [show ((a, oC) : Addr × Obj).2 = oC from rfl, dC] at z; cases z⟩
          · exact IF.pin p (List.mem_append_right _ hp)
        obtain ⟨dd, ed, hn⟩ := hyes rfl
        refine gone_ok IF2 hN hi hln fun sG IG => ⟨_, _, ?_, hn a na⟩
        have atG : sG.heap.get? a = some oC := (IG.pin (a, oC) (List.mem_append_right _ List.mem_cons_self)).1
        have IG2 : L2.Inv X pins (((σR.set i (some (.ref a))).set j (some (.ref a))).set i none) HR sG := IG.pins_of fun p hp => IG.pin p (List.mem_append_right _ (List.mem_cons_of_mem _ hp))
        rw [ed] at zC
        exact inv_track IG2 na g0 nLoc nCell nPin (exv_ok atG zC dC)
      | brk => obtain ⟨_, _, _, z⟩ := hsp; exact False.elim z
      | cont => obtain ⟨_, _, _, z⟩ := hsp; exact False.elim z
      | ret u => obtain ⟨_, _, _, _, _, z⟩ := hsp; exact False.elim z
    | false =>
      show wpAny _ X.A (handleBy (.ref a) X.env []) _ _ _
      refine wpAny_handleBy_nil ?_
      obtain ⟨k1, k2, k3, oe, vs, tt, oT, ts', he, hz, hd, h1, hr⟩ := id fA
      unfold PySem.passOn
      refine wpAny_bind (wpAny_field he hd h1 ?_)
      rw [if_neg (show ¬ ((Value.ref tt == Value.none) = true) from by simp)]
      have go : wpAny (model X.prog X.w) X.A (setFlight (.ref a) X.env.frame) (fun _ s4 => wpAny (model X.prog X.w) X.A (throw (.ref a) : Sem Flow) (SP X pins E) X.xe s4) X.xe { sE with heap := hA } := by
        rw [hf]
        refine HandSPX.setFlight_upZ fA fun hD hhD upD => wpAny_throw (tk _ _ ?_)
        exact ⟨a, B, sR, pins, σR, HR, cls, d, rfl, IR, nb, (up.trans upA).trans upD, .inr (.inr (by rw [hs]; exact hhD)), na, os, ag, hno rfl⟩
      first
        | exact wpAny_bind (wpAny_pure (wpAny_bind go))
        | exact wpAny_bind go
  · cases f with
    | next =>
      obtain ⟨σ', H', J', q⟩ := hsp
      exact wpAny_execs_nil ⟨σ', H', J'.ofTry okX, q⟩
    | brk =>
      obtain ⟨σ', H', J', q⟩ := hsp
      exact ⟨σ', H', J'.ofTry okX, q⟩
    | cont =>
      obtain ⟨σ', H', J', q⟩ := hsp
      exact ⟨σ', H', J'.ofTry okX, q⟩
    | ret u =>
      obtain ⟨v, σ', H', J', r, q⟩ := hsp
      exact ⟨v, σ', H', J'.ofTry okX, r, q⟩
end PyE
set_option maxRecDepth 100000
set_option maxHeartbeats 4000000
/-! __init__ of an own error: super().__init__(value); self.value = value -/
namespace PyE
open PySem PySem.Spec PyProof.Rows L2 PySem.W
theorem lkP {β : Type} (f g : Str) (y : β) (fs : List (Str × β)) : ((f, y) :: fs).lookup g = if g = f then some y else fs.lookup g := by
  by_cases h : g = f
  · subst h
    simp [List.lookup]
  · have e : (g == f) = false := by simpa using h
    rw [if_neg h]
    simp [List.lookup, e]
abbrev iniN : List (Str × NameKind) := [(("self" : Str), NameKind.local), (("value" : Str), NameKind.local), (("__class__" : Str), NameKind.free), (("super" : Str), NameKind.globalImplicit)]
abbrev iniB (a u : Value) : List (Str × Value) := [(("self" : Str), a), (("value" : Str), u)]
/-- what the written part and the program say of it -/
structure IniF (P : Program) (K : Frag) (mg : Str → Option Value) (fI : Addr) (fd : FuncData) (D : Addr) : Prop where
  fn : ∃ (oc : Value) (od : Option Addr) (osl : Array (Option Value)) (qual : Str) (params : Arguments) (scope : Scope) (dV kV doc pm ct : Value) (an : Option Addr) (cda cc : Addr) (p1 p2 p3 p4 p5 p6 p7 p8 p9 pa : Pos) (ar : Arg),
    (p3.endLine == p5.line) = true ∧ fd = ksFn "__init__" qual params [.Expr (.Call (.Attribute (.Call (.Name "super" p1) [] [] p2) "__init__" p3) [.Name "value" p4] [] p5) p6, .Assign [.Attribute (.Name "self" p7) "value" p8] (.Name "value" p9) pa] scope dV kV doc pm an (.ref cda) ct cc ∧
    K.lookup fI = some ⟨oc, od, .func fd, osl⟩ ∧ codeIn K (.ref cda) qual = true ∧
    (∃ ccl cdd vs ccs file tf, K.lookup cda = some ⟨ccl, cdd, .fields vs, ccs⟩ ∧ vs[2]? = some (.str file tf) ∧ ((P.main.file : Str) == file) = true) ∧
    (∃ cl cld csl, K.lookup cc = some ⟨cl, cld, .cell (some (.ref D)), csl⟩) ∧ (params.posonlyargs ++ params.args).head? = some ar ∧ ar.arg = "self" ∧
    scope.names = iniN ∧ scope.kind = .function ∧ scope.isCoroutine = false ∧ scope.isGenerator = false
  cl : ∃ cd, clsIn K D = some cd
  ms : mg "super" = none
  tp : (P.main.scope.names.lookup ("super" : Str)).isSome = false
/-- what it asks of a class -/
structure IniC (K : Frag) (C D : Addr) : Prop where
  oex : OexC K C
  mro : mroIn K C (.ref D) = some true
  sup : ks_superIn K C D "__init__" = some (some (.builtin "ValueError.__init__"))
  sve : subIn K (.ref C) (.type "ValueError") = some true
  opq : nsIn K cStatics "thirdparty.any" = some none
  nov : findIn K (.ref C) "value" = some none
def spIni (K : Frag) (D : Addr) : Sp := fun vs H Q _ => ∃ (a C : Addr) (w0 : V), vs = [.ref a, w0] ∧ IniC K C D ∧ H a = some (exo a C none) ∧
  ∀ dx, H dx = none → dx ≠ a → Q .non (upd (upd H dx (exd dx [("value", w0)])) a (exo a C (some dx)))
/-- its context -/
def cxI (CX : CXT) (P : Program) (w : World) (K : Frag) (mg : Str → Option Value) (base : Heap) (qual : Str) (scope : Scope) (f : Addr) (cda cc : Addr) (A : Around) (outer : List Env) (s : Shared) (H : Hp) (E : XK) : Cx where
  prog := P
  w := w
  K := K
  mg := mg
  base := base
  A := A.deeper (ksEnv qual scope s.heap.objs.size f (.ref cda) cc)
  N := ["self", "value"]
  s_0 := s
  H_0 := H
  env := ksEnv qual scope s.heap.objs.size f (.ref cda) cc
  outer := outer
  stack := ksEnv qual scope s.heap.objs.size f (.ref cda) cc :: outer
  ex := []
  calm := true
  fn := fun _ => false
  pn := []
  xe := fun e s' => wpAny (model P w) (A.deeper (ksEnv qual scope s.heap.objs.size f (.ref cda) cc)) (leaving (ksEnv qual scope s.heap.objs.size f (.ref cda) cc) e) (fun _ s'' => CX outer H s E e s'') (fun e' s'' => CX outer H s E e' s'') s'
section
variable {CX : CXT} {P : Program} {w : World} {K : Frag} {mg : Str → Option Value} {base : Heap} {qual : Str} {scope : Scope} {fI cda cc D : Addr} {A : Around} {outer : List Env} {s : Shared} {H : Hp} {E : XK}
theorem ini_start {h1 : Heap} {t1 : Nat} {a : Addr} {w0 : V} {u : Value} {oc : Obj} (hn : scope.names = iniN) (hk : scope.kind = .function) (hd : A.handled = none) (e0 : Env0 P w K mg base A outer s H)
    (hcc : K.lookup cc = some oc) (hoc : oc.data = .cell (some (.ref D))) (r : RelV w0 u) (ns : h1.Ns s.heap.objs.size (fun x => (iniB (.ref a) u).reverse.lookup x)) (kp : ∀ b o, s.heap.get? b = some o → h1.get? b = some o) :
    Inv (cxI CX P w K mg base qual scope fI cda cc A outer s H E) [] [some (.ref a), some w0] H { s with heap := h1, toks := t1 } := by
  have X1 : K.In base := e0.mod.kin
  have cb : base.get? cc = some oc := X1 _ _ hcc
  have cs : s.heap.get? cc = some oc := (e0.bs _ _ cb).1
  have lk : ∀ x c, (cxI CX P w K mg base qual scope fI cda cc A outer s H E).env.cells.lookup x = some c → x = "__class__" ∧ c = cc := fun x c h => by
    have h : [(("__class__" : Str), cc)].lookup x = some c := h
    rw [lkP] at h
    by_cases e : x = "__class__"
    · rw [if_pos e] at h
      exact ⟨e, (Option.some.inj h).symm⟩
    · rw [if_neg e] at h
      cases h
  have lk0 : ([(("__class__" : Str), cc)] : List (Str × Addr)).lookup ("__class__" : Str) = some cc := by rw [lkP, if_pos rfl]
  have kn : ∀ x, (cxI CX P w K mg base qual scope fI cda cc A outer s H E).env.kindOf x = scope.names.lookup x := fun x => rfl
  have kl : ∀ x, scope.names.lookup x = some .cell ∨ scope.names.lookup x = some .free → x = "__class__" := fun x h => by
    rw [hn] at h
    rw [lkP, lkP, lkP, lkP] at h
    by_cases e1 : x = "self"
    · rw [if_pos e1] at h; rcases h with h | h <;> cases h
    rw [if_neg e1] at h
    by_cases e2 : x = "value"
    · rw [if_pos e2] at h; rcases h with h | h <;> cases h
    rw [if_neg e2] at h
    by_cases e3 : x = "__class__"
    · exact e3
    rw [if_neg e3] at h
    by_cases e4 : x = "super"
    · rw [if_pos e4] at h; rcases h with h | h <;> cases h
    · rw [if_neg e4] at h; rcases h with h | h <;> cases h
  have noA : ∀ b : Addr, b ∉ (cxI CX P w K mg base qual scope fI cda cc A outer s H E).ex := fun b z => absurd (show b ∈ ([] : List Addr) from z) (by simp)
  refine ⟨⟨e0.mod, hk, rfl, rfl, Nat.le_refl _, fun y z c h1 h2 => ?_, fun y hy => ?_, fun y c h _ => ?_, fun _ => hd, Around.frames_deeper e0.frames, .inr ⟨rfl, rfl⟩, fun b z => absurd z (noA b), e0.bs, e0.bsz, fun b _ _ => noA b, fun b z => absurd z (noA b), e0.funs, e0.frf⟩,
    rfl, e0.bare, Un.kept kp, ⟨_, ns, fun i y v h1 h2 h3 => ?_⟩, fun y c h => ?_, e0.hok.fresh (Nat.le_refl _), fun y c h => ?_, fun p hp => absurd (show p ∈ ([] : List (Addr × Obj)) from hp) (by simp), e0.hok.kept kp, rfl⟩
  · rw [(lk _ _ h1).1, (lk _ _ h2).1]
  · rw [kn] at hy
    rw [kl y hy]
    exact ⟨cc, lk0⟩
  · cases h
  · match i, h1, h2 with
    | 0, h1, h2 =>
      cases h1
      cases h2
      refine ⟨.ref a, rfl, .inl ⟨?_, ?_⟩⟩
      · rw [kn, hn, lkP, if_pos rfl]
      · show List.lookup _ [(("value" : Str), u), (("self" : Str), Value.ref a)] = _
        rw [lkP, if_neg (by decide), lkP, if_pos rfl]
    | 1, h1, h2 =>
      cases h1
      cases h2
      refine ⟨u, r, .inl ⟨?_, ?_⟩⟩
      · rw [kn, hn, lkP, if_neg (by decide), lkP, if_pos rfl]
      · show List.lookup _ [(("value" : Str), u), (("self" : Str), Value.ref a)] = _
        rw [lkP, if_pos rfl]
    | (i + 2), h1, h2 => cases h2
  · rw [(lk _ _ h).2]
    exact ⟨some (.ref D), oc, kp _ _ cs, hoc⟩
  · rw [(lk _ _ h).2]
    exact (e0.bs _ _ cb).2
end
end PyE
set_option maxRecDepth 100000
set_option maxHeartbeats 4000000
/-! __init__ of an own error keeps its promise -/
namespace PyE
open PySem PySem.Spec PyProof.Rows L2 PySem.W
section
variable {CX : CXT} {P : Program} {w : World} {K : Frag} {mg : Str → Option Value} {base : Heap} {fI D : Addr} {fd : FuncData} {k : Nat}
theorem ini_call {X : Cx} {A : Around} {E : Value → Shared → Prop} {pins : List (Addr × Obj)} {σ : L2.St} {H : Hp} {s : Shared} {a C u : Addr} {rest : List Value} {Q : Value → Shared → Prop} (T : OexC X.K C) (I : L2.Inv X pins σ H s) (e : H a = some (exo a C none)) (hu : s.heap.get? u = some (kxs_mw "ValueError.__init__" a)) (hl : rest.length ≤ sizeLine)
    (h : ∀ s', L2.Inv X pins σ H s' → Q .none s') : wpAny (model X.prog X.w) A (call (.ref u) rest) Q E s := by
  obtain ⟨nm, q, N, bs, bm, sn, sub, ab, col, dd, k0, k1, k2, k3, k5, hC, hbm⟩ := T.cls
  obtain ⟨t1, ho⟩ := exo_at I.hok e
  have hCs := I.kIn _ _ hC
  obtain ⟨hp, g, d, t, os⟩ := s
  have fin : ∀ h', (∀ b o, b ≠ a → hp.get? b = some o → h'.get? b = some o) → h'.get? a = some (excObj C hp.objs.size none .none) → h'.get? hp.objs.size = some (excTup rest) → Q .none ⟨h', g, d, t, os⟩ := fun h' k hx _ => by
    have J := I.write (t' := t) (x := a) (e := a) (o := exo a C none) (by rw [e]; exact True.intro) (.inl rfl) k ⟨_, hx⟩ (exo_ok hx)
    have eu : upd H a (exo a C none) = H := by
      funext b
      by_cases hb : b = a
      · rw [hb, upd_same, e]
      · rw [upd_ne hb]
    rw [eu] at J
    exact h _ J
  refine wpAny_call (codeAny_of_tree ?_)
  show wpAny _ A.in1 (callAny (.ref u) ⟨rest, []⟩) _ _ _
  simp only [callAny]
  refine wpAny_bind (wpAny_load hu ?_)
  simp only [kxs_mw, show (Value.type "method-wrapper" == Value.type "method" || Value.type "method-wrapper" == Value.type "builtin_function_or_method" || Value.type "method-wrapper" == Value.type "method-wrapper") = true by decide, if_true]
  refine KFB.if_so (by decide) ?_
  refine wpAny_bind (check_bound_init F.excBase_ValueError.toExcCallFacts hCs ho rfl ?_)
  refine wpAny_bind (wpAny_pure (wpAny_pure ?_))
  refine ⟨plainId_quiet F.excBase_ValueError.init.plain _, codeAny_builtin F.excBase_ValueError.initEntry ?_⟩
  exact exc_init_tree (cls := .ref C) (t0 := t1) (dv := none) (c2 := .none) (c3 := .none) (b4 := .bool false) ho hl fin
theorem ini_fn (F : IniF P K mg fI fd D) : FnOk P w K mg base CX (k + 1) fI fd ["self", "value"] (spIni K D) := by
  obtain ⟨oc, od, osl, qual, params, scope, dV, kV, doc, pm, ct, an, cda, cc, p1, p2, p3, p4, p5, p6, p7, p8, p9, pa, ar, hpos, rfl, lk, hcd, ⟨ccl, cdd, vs, ccs, file, tf, hcode, hvs, hfile⟩, ⟨cl, cld, csl, hcell⟩, hp, har, hn, hk, hco, hgen⟩ := F.fn
  obtain ⟨cdD, hD⟩ := F.cl
  refine ⟨fun vs H Q E ⟨a, C, w0, e, _⟩ => by rw [e] <;> rfl, fun A outer s H args us vs Q E hr e0 hb r hsp => ?_⟩
  obtain ⟨a, C, w0, rfl, IC, ea, hq⟩ := hsp
  cases r with
  | @cons _ u0 _ ur ra r' =>
  cases r' with
  | @cons _ u _ ur2 rw0 r2 =>
  cases r2
  obtain rfl : u0 = Value.ref a := ra
  have KX : K.In s.heap := e0.mod.kin.keeps fun b o e => (e0.bs b o e).1
  have lim : s.heap.NoLimit := e0.mod.nolimit.keeps fun b o e => (e0.bs b o e).1
  have ks0 : scope.names.lookup ("self" : Str) = some .local := by rw [hn, lkP, if_pos rfl]
  have kv0 : scope.names.lookup ("value" : Str) = some .local := by rw [hn, lkP, if_neg (by decide), lkP, if_pos rfl]
  have kc0 : scope.names.lookup ("__class__" : Str) = some .free := by rw [hn, lkP, if_neg (by decide), lkP, if_neg (by decide), lkP, if_pos rfl]
  have kb0 : scope.names.lookup ("super" : Str) = some .globalImplicit := by rw [hn, lkP, if_neg (by decide), lkP, if_neg (by decide), lkP, if_neg (by decide), lkP, if_pos rfl]
  refine ks_codeAny_call_defAt (binds := iniB (.ref a) u) hr.depth (KX _ _ lk) rfl lim (codeRec_of KX hcd) rfl hb (by rw [hn]; decide) (fun y hy => ?_) (fun h1 ns kp => ?_) hco hgen hk
  · rcases List.mem_cons.mp hy with rfl | hy
    · exact ks0
    · rcases List.mem_cons.mp hy with rfl | hy
      · exact kv0
      · cases hy
  have I := ini_start (CX := CX) (qual := qual) (fI := fI) (cda := cda) (E := E) (t1 := s.toks + (iniB (.ref a) u).length) hn hk hr.hd e0 hcell rfl rw0 ns kp
  have X1 : K.In h1 := I.kIn
  obtain ⟨oD, hD1, hD2⟩ : ∃ oD, h1.get? D = some oD ∧ oD.data = .cls cdD := by
    unfold clsIn at hD
    split at hD
    · rename_i c d cd' sl ho
      cases hD
      exact ⟨_, X1 _ _ ho, rfl⟩
    · cases hD
  obtain ⟨t1, hxa⟩ := exo_at I.hok ea
  show _root_.PySem.wpAt (model P w) (cxI CX P w K mg base qual scope fI cda cc A outer s H E).A (.func _ (cxI CX P w K mg base qual scope fI cda cc A outer s H E).env) (execs _ (cxI CX P w K mg base qual scope fI cda cc A outer s H E).env) _ _ _
  refine ks_wpAt_execs_cons (ks_wpAt_Expr_any (hi := by show (scope.kind == _ && _) = false; rw [hk] <;> rfl) (ks_wpAt_MethodCall (he := by rw [arm_eval_Call]; simp only [mcall_line (show methodCallForm ([Expr.Name (Str.ofString "value") p4].length + ([] : List Keyword).length) (backTo p5 (starEach [Expr.Name (Str.ofString "value") p4] (cxI CX P w K mg base qual scope fI cda cc A outer s H E).env)) (backToKw p5 (keywordEach [] (cxI CX P w K mg base qual scope fI cda cc A outer s H E).env)) = true from rfl) hpos] <;> rfl) (ks_wpAt_super_base (env := ksEnv qual scope s.heap.objs.size fI (.ref cda) cc) kb0 kc0 (by decide) rfl (X1 _ _ lk) rfl hp rfl (X1 _ _ hcode) rfl hvs hfile F.tp ?_)))
  obtain ⟨mb, b1, b2⟩ := I.mod.blt
  refine ks_loadName_global hk kb0 (Calls.loadGlobal_builtin (env := ksEnv qual scope s.heap.objs.size fI (.ref cda) cc) (I.mod.glob.keeps I.bk) F.ms (b1.keeps I.bk) ((b2 _ (by decide)).trans PyProof.Rows.Boot.super) ⟨rfl, ?_⟩)
  refine wpAny_loadName_free hk kc0 rfl ⟨_, X1 _ _ hcell, rfl⟩ ?_
  rw [har]
  refine wpAny_loadName_local (v := .ref a) hk ks0 ns (by show List.lookup _ [(("value" : Str), u), (("self" : Str), Value.ref a)] = _; rw [lkP, if_neg (by decide), lkP, if_pos rfl]) ?_
  refine ks_wpAny_isType_cls hD1 hD2 ⟨rfl, ?_⟩
  refine ks_wpAny_call_super hD1 hD2 hxa rfl (fun c e => by cases e) (looks_mroIn X1 IC.mro) (fun h2 e2 k2 => ?_)
  have I2 := I.kept (t' := s.toks + (iniB (.ref a) u).length) k2
  have X2 : K.In h2 := I2.kIn
  have J2 : InstAt h2 a _ C none := ⟨k2 _ _ hxa, rfl, rfl, trivial⟩
  have hz : H h2.objs.size = none := I2.hok.fresh (Nat.le_refl _)
  have hlo : h2.objs.size ≠ (cxI CX P w K mg base qual scope fI cda cc A outer s H E).env.locals := Nat.ne_of_gt I2.lt
  have hfo : h2.objs.size ∉ (cxI CX P w K mg base qual scope fI cda cc A outer s H E).fs := I2.nofs (Nat.le_refl _)
  have hI : Looks (model P w) h2 (isInstance (.ref a) (.type "ValueError")) true := J2.type.andThen (looks_subIn X2 IC.sve)
  have hm := IC.sup
  unfold ks_superIn at hm
  cases hc : clsIn K C with
  | none => rw [hc] at hm; cases hm
  | some cd =>
  rw [hc] at hm
  refine kxs_getMethod kxs_ValueError e2 (looks_opaque X2 IC.opq) (l₀ := cd.mro) (fun A Q E s k q => wpAny_bind ((looks_clsIn X2 hc) A _ E s k (wpAny_pure q))) rfl X2 hm hI (ks_ne X2 J2 hc) (by decide) ?_
  have I3 := (I2.kept (h' := h2.push (kxs_mw "ValueError.__init__" a)) (t' := s.toks + (iniB (.ref a) u).length + 1) (fun b o e => Heap.get?_push_of_some _ e)).pins_of (pins' := [(h2.objs.size, kxs_mw "ValueError.__init__" a)]) fun p hp => by
    rcases List.mem_cons.mp hp with rfl | hp
    · exact ⟨Heap.get?_push_size _ rfl, hz, hlo, hfo, fun v z => by cases z⟩
    · cases hp
  have pv : PE (cxI CX P w K mg base qual scope fI cda cc A outer s H E) (.Name "value" p4) (tVar 1) := pe_var (by rfl) (.inl kv0)
  have pv9 : PE (cxI CX P w K mg base qual scope fI cda cc A outer s H E) (.Name "value" p9) (tVar 1) := pe_var (by rfl) (.inl kv0)
  have ps7 : PE (cxI CX P w K mg base qual scope fI cda cc A outer s H E) (.Name "self" p7) (tVar 0) := pe_var (by rfl) (.inl ks0)
  have pas := pa_cons pv (pa_nil (X := cxI CX P w K mg base qual scope fI cda cc A outer s H E))
  refine kxs_callWith (i := "ValueError.__init__") (x := a) rfl (Calls.evalArgs_plain (rest := []) (wpAny_mono (pas.run p5 _ _ _ _ (fun vs H' => vs = [w0] ∧ H' = H) I3 ⟨w0, rfl, rfl, rfl⟩) (fun us s4 ⟨vs4, H4, I4, r4, ev4, eH4⟩ => ?_) fun _ _ z => z))
  rw [eH4] at I4
  have hu4 : s4.heap.get? h2.objs.size = some (kxs_mw "ValueError.__init__" a) := (I4.pin _ (List.mem_append_right _ (List.mem_cons_self ..))).1
  refine ⟨hu4, ini_call IC.oex I4 ea hu4 (show us.length ≤ sizeLine by rw [← Paired.length r4, ev4]; simp [sizeLine_eq]) fun s5 I5 => ?_⟩
  have line : PSs (cxI CX P w K mg base qual scope fI cda cc A outer s H E) [.Assign [.Attribute (.Name "self" p7) "value" p8] (.Name "value" p9) pa] (tSeq (tOst K "value" (tVar 0) (tVar 1)) tNext) := pss_cons (ps_ost ps7 pv9) pss_nil
  refine wpAt_of_wpAny (wpAny_mono (line.run _ s5 _ H { nx := fun _ H' => Q .non H', rt := Q } I5 ⟨w0, rfl, .ref a, rfl, a, C, rfl, IC.oex, IC.nov, .inl ⟨ea, fun dx n ne => hq dx n ne⟩⟩) (fun fl s6 hs => ?_) fun _ _ z => z)
  cases fl with
  | ret u6 =>
    obtain ⟨v, σ', H', J, rv, q⟩ := hs
    exact ⟨v, H', J.os, J.bare, J.base, J.hok, rv, q⟩
  | next =>
    obtain ⟨σ', H', J, q⟩ := hs
    exact ⟨V.non, H', J.os, J.bare, J.base, J.hok, rfl, q⟩
  | brk =>
    obtain ⟨_, _, _, q⟩ := hs
    exact False.elim q
  | cont =>
    obtain ⟨_, _, _, q⟩ := hs
    exact False.elim q
end
end PyE
set_option maxRecDepth 100000
set_option maxHeartbeats 4000000
/-! readings, step by step -/
namespace PyE
open PySem PySem.Spec PyProof.Rows L2

section
variable (G : Gi) (W : WX) (σ : L2.St)
/-- what may stand behind a step -/
structure Like {β : Type} (Φ : Wd → Res β → Prop) : Prop where
  base : ∀ Z Z' r, Ext Z Z' → Φ Z r → Φ Z' r
  exc : ∀ Z c d μ, Φ Z (.exc c d μ) → ExP G W σ Z c d μ
  err : ∀ Z, ¬ Φ Z .err
end
section
variable {G : Gi} {W : WX} {σ : L2.St} {Z : Wd} {H : Hp} {ρ : Ro} {μ : Mu}
theorem like_pst {α β : Type} (rel : Wd → α → β → Prop) (Q : β → Hp → Prop) : Like G W σ (fun Z (r : Res α) => Pst G W σ rel Z r Q) := ⟨fun Z Z' r X h => Pst.base h X, fun Z c d μ h => h, fun Z h => h⟩
/-- an operator's result -/
def PstP (G : Gi) (W : WX) (σ : L2.St) (Z : Wd) (r : Res PR) (Q : VK) : Prop := match r with
  | .ok pr μ' => PrP G Z μ' pr Q
  | .exc c d μ' => ExP G W σ Z c d μ'
  | .err => False
theorem PrP.base {Z Z' : Wd} {pr : PR} {Q : VK} (h : PrP G Z μ pr Q) (X : Ext Z Z') : PrP G Z' μ pr Q := by
  cases pr with
  | v d => exact fun v Z2 x R r => h v Z2 (X.trans x) R r
  | new xs => exact fun p vs Z2 x R n r z => h p vs Z2 (X.trans x) R n r z
theorem like_pstP (Q : VK) : Like G W σ (fun Z (r : Res PR) => PstP G W σ Z r Q) := ⟨fun Z Z' r X h => by
  cases r with
  | ok pr μ' => exact PrP.base h X
  | exc c d μ' => exact ExP.base h X
  | err => exact h, fun Z c d μ h => h, fun Z h => h⟩
theorem At.ext {Z Z' : Wd} {μ' : Mu} (A : At G Z H σ ρ μ) (X : Ext Z Z') (R : Rel G Z' μ') : At G Z' Z'.H σ ρ μ' := ⟨rfl, A.se.ext X A.rel, R⟩

/-- a first part, and what follows -/
theorem step {α β γ : Type} {Φ : Wd → Res β → Prop} (L : Like G W σ Φ) {rel : Wd → α → γ → Prop} {r : Res α} {k : α → Mu → Res β} (A : At G Z H σ ρ μ) (h : Φ Z (r.bind k)) {Q : γ → Hp → Prop}
    (hq : ∀ b Z1 μ1 a, At G Z1 Z1.H σ ρ μ1 → Ext Z Z1 → rel Z1 a b → Φ Z1 (k a μ1) → Q b Z1.H) : Pst G W σ rel Z r Q := by
  cases r with
  | ok a μ1 => exact fun b Z2 x R q => hq b Z2 μ1 a (A.ext x R) x q (L.base _ _ _ x h)
  | exc c d μ1 => exact L.exc _ _ _ _ h
  | err => exact L.err _ h
theorem step_lift {α β : Type} {Φ : Wd → Res β → Prop} (L : Like G W σ Φ) {o : Option α} {k : α → Mu → Res β} (h : Φ Z ((PyE.lift o μ).bind k)) : ∃ a, o = some a ∧ Φ Z (k a μ) := by
  cases o with
  | none => exact False.elim (L.err _ h)
  | some a => exact ⟨a, rfl, h⟩
theorem bind_bind {α β γ : Type} (r : Res α) (f : α → Mu → Res β) (g : β → Mu → Res γ) : (r.bind f).bind g = r.bind fun a μ => (f a μ).bind g := by cases r <;> rfl
variable {C : Cfg} {cl : Cl}
theorem eA1 {β : Type} (a : CE) (F : List D → Mu → Res β) : (eA C cl (.cons a .nil) ρ μ).bind F = (eE C cl a ρ μ).bind fun d μ1 => F [d] μ1 := by
  show ((eE C cl a ρ μ).bind fun d μ1 => (Res.ok [] μ1).bind fun ds μ2 => .ok (d :: ds) μ2).bind F = _
  rw [bind_bind]; rfl
theorem eA2 {β : Type} (a b : CE) (F : List D → Mu → Res β) : (eA C cl (.cons a (.cons b .nil)) ρ μ).bind F = (eE C cl a ρ μ).bind fun d μ1 => (eE C cl b ρ μ1).bind fun e μ2 => F [d, e] μ2 := by
  show ((eE C cl a ρ μ).bind fun d μ1 => (eA C cl (.cons b .nil) ρ μ1).bind fun ds μ2 => .ok (d :: ds) μ2).bind F = _
  rw [bind_bind]
  congr 1
  funext d μ1
  rw [eA1, bind_bind]; rfl
theorem eA3 {β : Type} (a b c : CE) (F : List D → Mu → Res β) : (eA C cl (.cons a (.cons b (.cons c .nil))) ρ μ).bind F = (eE C cl a ρ μ).bind fun d μ1 => (eE C cl b ρ μ1).bind fun e μ2 => (eE C cl c ρ μ2).bind fun f μ3 => F [d, e, f] μ3 := by
  show ((eE C cl a ρ μ).bind fun d μ1 => (eA C cl (.cons b (.cons c .nil)) ρ μ1).bind fun ds μ2 => .ok (d :: ds) μ2).bind F = _
  rw [bind_bind]
  congr 1
  funext d μ1
  rw [eA2, bind_bind]
  congr 1
  funext e μ2
  rw [bind_bind]; rfl
end

/-! ### an operator: its items, then it -/
noncomputable def eO (C : Cfg) (cl : Cl) (o : Op) (es : CE) (ρ : Ro) (μ : Mu) : Res PR := (eA C cl es ρ μ).bind fun vs μ1 => lift (opS C μ1 o vs) μ1
def tP (G : Gi) (W : WX) (m : Ro → Mu → Res PR) : TE := fun σ H Q => ∃ Z ρ μ, At G Z H σ ρ μ ∧ PstP G W σ Z (m ρ μ) Q
section
variable {G : Gi} {W : WX} {σ : L2.St} {Z : Wd} {H : Hp} {ρ : Ro} {μ : Mu} {C : Cfg} {cl : Cl}
theorem pst_lift {o : Option PR} {Q : VK} (h : PstP G W σ Z (lift o μ) Q) : ∃ pr, o = some pr ∧ PrP G Z μ pr Q := by
  cases o with
  | none => exact False.elim h
  | some pr => exact ⟨pr, rfl, h⟩
theorem op1 {o : Op} {a : CE} {Q : VK} (h : tP G W (eO C cl o (.cons a .nil)) σ H Q) : tE G W (eE C cl a) σ H fun x H1 => rO G C o [x] H1 Q := by
  obtain ⟨Z, ρ, μ, A, h⟩ := h
  unfold eO at h
  rw [eA1] at h
  refine ⟨Z, ρ, μ, A, step (like_pstP Q) A h fun x Z1 μ1 d A1 X1 r1 h1 => ?_⟩
  obtain ⟨pr, e, q⟩ := pst_lift h1
  exact ⟨Z1, μ1, [d], pr, rfl, A1.rel, .one r1, e, q⟩
theorem op2 {o : Op} {a b : CE} {Q : VK} (h : tP G W (eO C cl o (.cons a (.cons b .nil))) σ H Q) : tE G W (eE C cl a) σ H fun x H1 => tE G W (eE C cl b) σ H1 fun y H2 => rO G C o [x, y] H2 Q := by
  obtain ⟨Z, ρ, μ, A, h⟩ := h
  unfold eO at h
  rw [eA2] at h
  refine ⟨Z, ρ, μ, A, step (like_pstP Q) A h fun x Z1 μ1 d A1 X1 r1 h1 => ⟨Z1, ρ, μ1, A1, step (like_pstP Q) A1 h1 fun y Z2 μ2 e A2 X2 r2 h2 => ?_⟩⟩
  obtain ⟨pr, eo, q⟩ := pst_lift h2
  exact ⟨Z2, μ2, [d, e], pr, rfl, A2.rel, ⟨x, _, rfl, RV.ext X2 A1.rel _ _ r1, .one r2⟩, eo, q⟩
theorem opA {o : Op} {es : CE} {Q : VK} (h : tP G W (eO C cl o es) σ H Q) : tA G W (eA C cl es) σ H fun vs H1 => rO G C o vs H1 Q := by
  obtain ⟨Z, ρ, μ, A, h⟩ := h
  refine ⟨Z, ρ, μ, A, step (like_pstP Q) A h fun x Z1 μ1 d A1 X1 r1 h1 => ?_⟩
  obtain ⟨pr, e, q⟩ := pst_lift h1
  exact ⟨Z1, μ1, d, pr, rfl, A1.rel, r1, e, q⟩

/-- a frozen list just laid -/
theorem froze {Z : Wd} {μ : Mu} {p : Addr} {xs : List D} {vs : List V} (R : Rel G Z μ) (hp : Z.H p = none) (r : RVs G Z xs vs) (z : xs.length ≤ LIM) :
    ∃ Z', Z'.H = upd Z.H p (.lst vs) ∧ Ext Z Z' ∧ Rel G Z' μ ∧ RV G Z' (.lst xs) (.ref p) := by
  have hpth : p ∉ Z.th := fun q => by
    obtain ⟨ws, e⟩ := R.atCell q
    rw [hp] at e; cases e
  let Z' : Wd := ⟨Z.th, fun a => Z.S a ∨ a = p, upd Z.H p (.lst vs)⟩
  have X : Ext Z Z' := ⟨List.prefix_refl _, fun _ q => .inl q, fun _ q => .inl q, fun a q => q.elim .inl fun e => .inr (by rw [e]; exact hp), fun a u q _ => by
      show upd Z.H p _ a = some u
      rw [upd_ne (ne_of_none q hp)]; exact q, fun a q => by
      have q' : upd Z.H p (.lst vs) a = none := q
      by_cases e : a = p
      · rw [e]; exact hp
      · rw [upd_ne e] at q'; exact q'⟩
  refine ⟨Z', rfl, X, ⟨R.len, R.nd, fun n a ds h1 h2 => ?_, fun a q => q.elim (R.sep a) fun e => by rw [e]; exact hpth, fun a q z => q.elim (fun q => R.has a q (X.dom a z)) fun e => by
    have z' : upd Z.H p (.lst vs) a = none := z
    rw [e, upd_same] at z'; cases z'⟩, ?_⟩
  · obtain ⟨ws, e, q, z⟩ := R.cell n a ds h1 h2
    refine ⟨ws, ?_, RVs.ext X R ds ws q, z⟩
    show upd Z.H p _ a = _
    rw [upd_ne (ne_of_none e hp)]; exact e
  · exact ⟨p, vs, rfl, .inr rfl, upd_same, z, RVs.ext X R xs vs r⟩
/-- a cell just laid -/
theorem celled {Z : Wd} {μ : Mu} {p : Addr} {xs : List D} {vs : List V} (R : Rel G Z μ) (hp : Z.H p = none) (r : RVs G Z xs vs) (z : xs.length ≤ LIM) :
    ∃ Z', Z'.H = upd Z.H p (.lst vs) ∧ Ext Z Z' ∧ Rel G Z' (μ ++ [xs]) ∧ RV G Z' (.ref μ.length) (.ref p) := by
  have hpth : p ∉ Z.th := fun q => by
    obtain ⟨ws, e⟩ := R.atCell q
    rw [hp] at e; cases e
  let Z' : Wd := ⟨Z.th ++ [p], Z.S, upd Z.H p (.lst vs)⟩
  have X : Ext Z Z' := ⟨List.prefix_append _ _, fun a q => by
      rcases List.mem_append.mp q with q | q
      · exact .inl q
      · rw [List.mem_singleton.mp q]; exact .inr hp, fun _ q => q, fun a q => .inl q, fun a u q _ => by
      show upd Z.H p _ a = some u
      rw [upd_ne (ne_of_none q hp)]; exact q, fun a q => by
      have q' : upd Z.H p (.lst vs) a = none := q
      by_cases e : a = p
      · rw [e]; exact hp
      · rw [upd_ne e] at q'; exact q'⟩
  have hl := R.len
  refine ⟨Z', rfl, X, ⟨by show (Z.th ++ [p]).length = _; rw [List.length_append, List.length_append, hl]; rfl, ?_, fun n a ds h1 h2 => ?_, fun a q hm => ?_, fun a q z => R.has a q (X.dom a z)⟩, ?_⟩
  · exact List.nodup_append.mpr ⟨R.nd, List.nodup_cons.mpr ⟨by simp, List.nodup_nil⟩, fun a ha b hb e => hpth (by rw [List.mem_singleton.mp hb] at e; rw [← e]; exact ha)⟩
  · have h1' : (Z.th ++ [p])[n]? = some a := h1
    by_cases hn : n < Z.th.length
    · rw [List.getElem?_append_left hn] at h1'
      rw [List.getElem?_append_left (by rw [← hl]; exact hn)] at h2
      obtain ⟨ws, e, q, z⟩ := R.cell n a ds h1' h2
      refine ⟨ws, ?_, RVs.ext X R ds ws q, z⟩
      show upd Z.H p _ a = _
      rw [upd_ne (ne_of_none e hp)]; exact e
    · rw [List.getElem?_append_right (by omega)] at h1'
      rw [List.getElem?_append_right (by omega)] at h2
      have hn' : n - Z.th.length = 0 := by
        have := (List.getElem?_eq_some_iff.mp h1').1
        simp at this; omega
      rw [hn'] at h1'
      rw [← hl, hn'] at h2
      have e1 : p = a := by simpa using h1'
      have e2 : xs = ds := by simpa using h2
      subst e1 e2
      exact ⟨vs, upd_same, RVs.ext X R xs vs r, z⟩
  · rcases List.mem_append.mp hm with q' | q'
    · exact R.sep a q q'
    · rw [List.mem_singleton.mp q'] at q
      exact R.has p q hp
  · refine ⟨p, ?_, rfl⟩
    show (Z.th ++ [p])[μ.length]? = some p
    rw [List.getElem?_append_right (by omega), hl]; simp
end
end PyE
set_option maxRecDepth 100000
set_option maxHeartbeats 4000000
/-! does the program's text say what the own text says? A test, by computation. -/
namespace PyE
open PySem PySem.Spec PyProof.Rows L2

/-- what a global name stands for -/
inductive GK where
  | fn (f : Fid) | cls (c : Fid) | con (d : D) | blt
structure Tb where
  gl : List (Str × GK)
  ps : Fid → Nat
  kw : List (Fid × Nat × List Str × List Nat) := []
  /-- other numbers of the same function -/
  al : List (Fid × Fid) := []
/-- the surroundings of an expression: the slots' names, the scope, which cells are one's own -/
structure En where
  N : List Str
  sc : Scope
  fn : Str → Bool

mutual
def eqD1 : D → D → Bool
  | .none, .none => true
  | .bl a, .bl b => decide (a = b)
  | .int a, .int b => decide (a = b)
  | .str a, .str b => decide (a = b)
  | .tup a, .tup b => eqDs a b
  | _, _ => false
def eqDs : List D → List D → Bool
  | [], [] => true
  | a :: r, b :: s => eqD1 a b && eqDs r s
  | _, _ => false
end
mutual
theorem eqD1_eq : ∀ (a b : D), eqD1 a b = true → a = b
  | .none, b, h => by cases b <;> first | rfl | cases h
  | .bl x, b, h => by
    cases b <;> first | cases h | skip
    rename_i y
    rw [show x = y from of_decide_eq_true h]
  | .int x, b, h => by
    cases b <;> first | cases h | skip
    rename_i y
    rw [show x = y from of_decide_eq_true h]
  | .str x, b, h => by
    cases b <;> first | cases h | skip
    rename_i y
    rw [show x = y from of_decide_eq_true h]
  | .tup xs, b, h => by
    cases b <;> first | cases h | skip
    rename_i ys
    rw [eqDs_eq xs ys h]
  | .lst _, b, h => by cases b <;> cases h
  | .ref _, b, h => by cases b <;> cases h
  | .fn _, b, h => by cases b <;> cases h
  | .dct, b, h => by cases b <;> cases h
  | .exc _ _, b, h => by cases b <;> cases h
  | .scr _, b, h => by cases b <;> cases h
theorem eqDs_eq : ∀ (a b : List D), eqDs a b = true → a = b
  | [], b, h => by cases b <;> first | rfl | cases h
  | x :: xs, b, h => by
    cases b with
    | nil => cases h
    | cons y ys =>
      have h' : (eqD1 x y && eqDs xs ys) = true := h
      rw [Bool.and_eq_true] at h'
      rw [eqD1_eq x y h'.1, eqDs_eq xs ys h'.2]
end

section
variable (T : Tb) (n : En)
def isGl (x : Str) : Bool := (match n.sc.names.lookup x with | some .globalImplicit => true | _ => false) && decide (x ≠ "__debug__") && decide (x ≠ "__name__")
def isBlt (x : Str) : Bool := isGl n x && (match T.gl.lookup x with | some .blt => true | _ => false)
def isFnN (x : Str) (f : Fid) : Bool := isGl n x && (match T.gl.lookup x with | some (.fn g) => decide (g = f) || T.al.contains (f, g) | _ => false)
def isClsN (x : Str) (c : Fid) : Bool := isGl n x && (match T.gl.lookup x with | some (.cls g) => decide (g = c) | _ => false)
def isConN (x : Str) (d : D) : Bool := isGl n x && (match T.gl.lookup x with | some (.con e) => eqD1 d e | _ => false)
def isVar (x : Str) (i : Nat) : Bool := decide (n.N[i]? = some x) && (match n.sc.names.lookup x with | some .local => true | some .cell => true | some .free => true | _ => false) && decide (x ≠ "__debug__") && decide (x ≠ "__classdict__")
/-- a name that may be assigned -/
def isTo (x : Str) (i : Nat) : Bool := decide (n.N[i]? = some x) && (match n.sc.names.lookup x with | some .local => true | some .cell => n.fn x | _ => false)
def kwName : Keyword → Option Str
  | ⟨k, _, _⟩ => k
def kwVal : Keyword → Expr
  | ⟨_, e, _⟩ => e
def kwNamed (k : Keyword) : Bool := (kwName k).isSome && (match kwVal k with | .Starred _ _ => false | _ => true)
def notStar : Expr → Bool
  | .Starred _ _ => false
  | _ => true
def noSet : Expr → Bool
  | .Set _ _ _ => false
  | _ => true
def noSlice : Expr → Bool
  | .Slice _ _ _ _ => false
  | _ => true
/-- no super() -/
def plainBase : Expr → Bool
  | .Call (.Name id _) [] [] _ => decide (id ≠ "super")
  | _ => true
def callB (id : Str) : Expr → Option (List Expr)
  | .Call (.Name x _) es [] _ => if x = id ∧ isBlt T n x = true ∧ es.all notStar = true then some es else none
  | _ => none
def callM (id : Str) : Expr → Option (Expr × List Expr)
  | .Call (.Attribute o m apos) es [] pos => if m = id ∧ es.all notStar = true ∧ plainBase o = true ∧ apos.endLine = pos.line ∧ es.length < 5 then some (o, es) else none
  | _ => none
def binA (op : Operator) : Expr → Option (List Expr)
  | .BinOp a o b _ => if o = op then some [a, b] else none
  | _ => none
def cmpA (op : CmpOp) : Expr → Option (List Expr)
  | .Compare a [o] [b] _ => if o = op ∧ noSet b = true then some [a, b] else none
  | _ => none
def cmpN (op : CmpOp) : Expr → Option (List Expr)
  | .Compare a [o] [.Constant .none _ _] _ => if o = op then some [a] else none
  | _ => none
def tyName : Ty → Option Str
  | .tint => some "int" | .tbool => some "bool" | .tstr => some "str" | .tlist => some "list" | .ttuple => some "tuple" | .tdict => some "dict" | .tval => some "ValueError"
  | .tcls _ => none
def isTyN (x : Str) (t : Ty) : Bool := match t with
  | .tcls c => isClsN T n x c
  | t => (match tyName t with | some y => decide (x = y) | none => false) && isBlt T n x
def tysN : List Expr → List Ty → Bool
  | [], [] => true
  | .Name x _ :: es, t :: ts => isTyN T n x t && tysN es ts
  | _, _ => false
def tyArg : Expr → List Ty → Bool
  | .Name x _, [t] => isTyN T n x t
  | .Tuple es _ _, ts => tysN T n es ts && !ts.isEmpty && decide (ts.length < 100)
  | _, _ => false
def negA : Expr → Option (List Expr)
  | .UnaryOp .USub a _ => some [a]
  | _ => none
def isbA (b : Bool) : Expr → Option (List Expr)
  | .Compare a [.Is] [.Constant (.bool c) _ _] _ => if b = c then some [a] else none
  | _ => none
def idxA : Expr → Option (List Expr)
  | .Subscript a b _ => if noSlice b = true then some [a, b] else none
  | _ => none
def slc00 : Expr → Option (List Expr)
  | .Subscript a (.Slice none none none _) _ => some [a]
  | _ => none
def slc10 : Expr → Option (List Expr)
  | .Subscript a (.Slice (some b) none none _) _ => some [a, b]
  | _ => none
def slc01 : Expr → Option (List Expr)
  | .Subscript a (.Slice none (some c) none _) _ => some [a, c]
  | _ => none
def slc11 : Expr → Option (List Expr)
  | .Subscript a (.Slice (some b) (some c) none _) _ => some [a, b, c]
  | _ => none
def revA : Expr → Option (List Expr)
  | .Subscript a (.Slice none none (some (.UnaryOp .USub (.Constant (.int 1) _ _) _)) _) _ => some [a]
  | _ => none
def isiA (ts : List Ty) (x : Expr) : Option (List Expr) := match callB T n "isinstance" x with
  | some [a, t] => if tyArg T n t ts = true then some [a] else none
  | _ => none
def tupA : Expr → Option (List Expr)
  | .Tuple es _ _ => if es.all notStar = true ∧ es.length ≤ 10000 then some es else none
  | _ => none
def lstA : Expr → Option (List Expr)
  | .List es _ => if es.all notStar = true ∧ es.length ≤ 10000 then some es else none
  | _ => none
def attrA : Expr → Option (List Expr)
  | .Attribute a m _ => if m = "value" ∧ plainBase a = true then some [a] else none
  | _ => none
def bitA (x : Expr) : Option (List Expr) := match callM "bit_length" x with
  | some (a, []) => some [a]
  | _ => none
def scA (s : Str) (x : Expr) : Option (List Expr) := match callM "count" x with
  | some (a, [.Constant (.str t) _ _]) => if t = s then some [a] else none
  | _ => none
/-- a call of so many items -/
def callN (k : Nat) (id : Str) (x : Expr) : Option (List Expr) := match callB T n id x with
  | some xs => if xs.length = k then some xs else none
  | none => none
/-- list(range(a)) -/
def lrA (x : Expr) : Option (List Expr) := match callN T n 1 "list" x with
  | some [y] => callN T n 1 "range" y
  | _ => none
/-- an operator's operands in an expression -/
def opArgs (o : Op) (x : Expr) : Option (List Expr) := match o with
  | .add => binA .Add x
  | .sub => binA .Sub x
  | .mul => binA .Mult x
  | .fdiv => binA .FloorDiv x
  | .mod => binA .Mod x
  | .pow => binA .Pow x
  | .neg => negA x
  | .eq => cmpA .Eq x
  | .ne => cmpA .NotEq x
  | .lt => cmpA .Lt x
  | .le => cmpA .LtE x
  | .gt => cmpA .Gt x
  | .ge => cmpA .GtE x
  | .isn => cmpN .Is x
  | .notn => cmpN .IsNot x
  | .isb b => isbA b x
  | .in_ => cmpA .In x
  | .notin => cmpA .NotIn x
  | .idx => idxA x
  | .slc false false => slc00 x
  | .slc true false => slc10 x
  | .slc false true => slc01 x
  | .rev => revA x
  | .len => callN T n 1 "len" x
  | .abs => callN T n 1 "abs" x
  | .int_ => callN T n 1 "int" x
  | .bool_ => callN T n 1 "bool" x
  | .repr => callN T n 1 "repr" x
  | .max2 => callN T n 2 "max" x
  | .min2 => callN T n 2 "min" x
  | .sum1 => callN T n 1 "sum" x
  | .sum2 => callN T n 2 "sum" x
  | .sorted => callN T n 1 "sorted" x
  | .all => callN T n 1 "all" x
  | .any => callN T n 1 "any" x
  | .list => callN T n 1 "list" x
  | .tuple => callN T n 1 "tuple" x
  | .isi ts => isiA T n ts x
  | .lrange => lrA T n x
  | .tup => tupA x
  | .lst => lstA x
  | .attr => attrA x
  | .bitlen => bitA x
  | .scnt s => scA s x
  | _ => none
def mop1 (id : Str) (x : Expr) : Option (Expr × List Expr) := match callM id x with
  | some (o, [a]) => some (o, [a])
  | _ => none
def mop0 (id : Str) (x : Expr) : Option (Expr × List Expr) := match callM id x with
  | some (o, []) => some (o, [])
  | _ => none
def mopArgs (m : MOp) (x : Expr) : Option (Expr × List Expr) := match m with
  | .append => mop1 "append" x
  | .pop => mop0 "pop" x
  | .popi => mop1 "pop" x
  | .insert => none
def isCon (d : D) (x : Expr) : Bool := match x with
  | .Constant c _ _ => (match d, c with
    | .none, .none => true
    | .bl b, .bool c => decide (b = c)
    | .int i, .int j => decide (i = j)
    | .str s, .str t => decide (s = t)
    | _, _ => false)
  | .Name x _ => isConN T n x d
  | .Dict [] [] _ => (match d with | .dct => true | _ => false)
  | _ => false
def isTos : List Expr → List Nat → Bool
  | [], [] => true
  | .Name x _ :: es, i :: is => isTo n x i && isTos es is
  | _, _ => false
def ckT (t : Tg) (x : Expr) : Bool := match t, x with
  | .nm i, .Name x _ => isTo n x i
  | .tp l, .Tuple es _ _ => isTos n es l
  | _, _ => false
/-- a call's items: by place, then by name -/
def callA (f : Fid) (perm : List Nat) (x : Expr) : Option (List Expr) := match x with
  | .Call (.Name y _) es [] _ => if isFnN T n y f = true ∧ es.all notStar = true ∧ perm = List.range es.length ∧ T.ps f = es.length then some es else none
  | .Call (.Name y _) es kws _ => if isFnN T n y f = true ∧ es.all notStar = true ∧ kws.all kwNamed = true ∧ T.kw.contains (f, es.length, kws.filterMap kwName, perm) = true ∧ perm.length = T.ps f ∧ perm.all (fun i => decide (i < es.length + kws.length)) = true then some (es ++ kws.map kwVal) else none
  | _ => none
def noCallee : Expr → Bool
  | .Subscript _ b _ => noSlice b
  | _ => false
def callvA : Expr → Option (Expr × List Expr)
  | .Call f es [] _ => if noCallee f = true ∧ es.all notStar = true ∧ es ≠ [] ∧ es.length < 5 then some (f, es) else none
  | _ => none
def ownOf (N : List Str) (l : List Nat) : List (Str × Nat) := l.map fun i => ((N[i]?).getD "", i)
def En.blk (scope : Scope) : En := ⟨n.N, relS scope n.sc, fun x => scope.names.lookup x == some .cell⟩
def isTpl : Expr → Bool
  | .Tuple _ _ _ => true
  | _ => false
end
def isCmp : Expr → Bool
  | .Compare _ _ _ _ => true
  | _ => false
def chainOp : Op → CmpOp → Bool
  | .lt, .Lt => true
  | .le, .LtE => true
  | _, _ => false
variable (T : Tb)
mutual
def ckE (c : CE) (n : En) (x : Expr) : Bool := match c with
  | .con d => isCon T n d x
  | .v i => (match x with | .Name y _ => isVar n y i | _ => false)
  | .fnv f => (match x with | .Name y _ => isFnN T n y f | _ => false)
  | .op o es => (match opArgs T n o x with | some xs => ckA es n xs | none => false)
  | .mop m o es => (match mopArgs m x with | some (y, xs) => ckE o n y && ckA es n xs | none => false)
  | .not_ a => (match x with | .UnaryOp .Not y _ => ckE a n y | _ => false)
  | .and_ a b => (match x with
    | .BoolOp .And [y, z] _ => ckE a n y && ckE b n z
    | .BoolOp .And (y :: z :: w :: r) p => ckE a n y && ckE b n (.BoolOp .And (z :: w :: r) p)
    | _ => false)
  | .or_ a b => (match x with
    | .BoolOp .Or [y, z] _ => ckE a n y && ckE b n z
    | .BoolOp .Or (y :: z :: w :: r) p => ckE a n y && ckE b n (.BoolOp .Or (z :: w :: r) p)
    | _ => false)
  | .chain o1 o2 a b c => (match x with
    | .Compare y [p1, p2] [z, w] _ => chainOp o1 p1 && chainOp o2 p2 && noSet z && noSet w && ckE a n y && ckE b n z && ckE c n w
    | _ => false)
  | .ite t a b => (match x with | .IfExp y z w _ => ckE t n y && ckE a n z && ckE b n w | _ => false)
  | .cell (.op o es) => !isCmp x && (match opArgs T n o x with | some xs => ckA es n xs | none => false)
  | .cell (.comp t it c e) => (match x with
    | .ListComp elt [⟨tg, iter, ifs, 0⟩] scope _ => ckI it n tg iter && noSet iter && blkC n.N n.sc scope (ownOf n.N t.slots) && ckT (n.blk scope) t tg && ckC c (n.blk scope) ifs && ckE e (n.blk scope) elt
    | _ => false)
  | .cell (.comp2 t it t1 it1 c e) => (match x with
    | .ListComp elt [⟨tg, iter, [], 0⟩, ⟨tg1, iter1, ifs, 0⟩] scope _ => ckI it n tg iter && noSet iter && noSet iter1 && blkC n.N n.sc scope (ownOf n.N (t.slots ++ t1.slots)) && ckT (n.blk scope) t tg && ckI it1 (n.blk scope) tg1 iter1 && ckT (n.blk scope) t1 tg1 && ckC c (n.blk scope) ifs && ckE e (n.blk scope) elt
    | _ => false)
  | .comp t it c e => (match x with
    | .ListComp elt [⟨tg, iter, ifs, 0⟩] scope _ => ckI it n tg iter && noSet iter && blkC n.N n.sc scope (ownOf n.N t.slots) && ckT (n.blk scope) t tg && ckC c (n.blk scope) ifs && ckE e (n.blk scope) elt
    | _ => false)
  | .comp2 t it t1 it1 c e => (match x with
    | .ListComp elt [⟨tg, iter, [], 0⟩, ⟨tg1, iter1, ifs, 0⟩] scope _ => ckI it n tg iter && noSet iter && noSet iter1 && blkC n.N n.sc scope (ownOf n.N (t.slots ++ t1.slots)) && ckT (n.blk scope) t tg && ckI it1 (n.blk scope) tg1 iter1 && ckT (n.blk scope) t1 tg1 && ckC c (n.blk scope) ifs && ckE e (n.blk scope) elt
    | _ => false)
  | .call f perm es => (match callA T n f perm x with | some xs => ckA es n xs | none => false)
  | .callv g es => (match callvA x with | some (y, xs) => ckE g n y && ckA es n xs | none => false)
  | _ => false
def ckA (c : CE) (n : En) (xs : List Expr) : Bool := match c with
  | .nil => xs.isEmpty
  | .cons e es => (match xs with | x :: r => notStar x && ckE e n x && ckA es n r | [] => false)
  | _ => false
def ckC (c : CE) (n : En) (xs : List Expr) : Bool := match c with
  | .nil => xs.isEmpty
  | .cons e .nil => (match xs with | [x] => ckE e n x | _ => false)
  | _ => false
def ckI (c : CE) (n : En) (tg : Expr) (x : Expr) : Bool := match c with
  | .iseq a => ckE a n x
  | .irng1 a => (match callB T n "range" x with | some [y] => ckE a n y | _ => false)
  | .irng2 a b => (match callB T n "range" x with | some [y, z] => ckE a n y && ckE b n z | _ => false)
  | .izip false a b => isTpl tg && (match callB T n "zip" x with | some [y, z] => ckE a n y && ckE b n z | _ => false)
  | .izip true a b => isTpl tg && (match x with
    | .Call (.Name w _) [y, z] [⟨some k, .Constant (.bool true) _ _, _⟩] _ => decide (w = "zip") && isBlt T n w && decide (k = "strict") && notStar y && notStar z && ckE a n y && ckE b n z
    | _ => false)
  | .ienum a => isTpl tg && (match callB T n "enumerate" x with | some [y] => ckE a n y | _ => false)
  | _ => false
end
end PyE
set_option maxRecDepth 100000
set_option maxHeartbeats 4000000
/-! where an expression stands; the operators' rules by the test -/
namespace PyE
open PySem PySem.Spec PyProof.Rows L2

/-- the names of the table are what it says -/
structure TbOk (G : Gi) (T : Tb) : Prop where
  fn : ∀ x f, T.gl.lookup x = some (.fn f) → G.mg x = some (.ref (G.fa f)) ∧ G.kf f = true
  al : ∀ f g, T.al.contains (f, g) = true → G.fa f = G.fa g ∧ G.kf f = true
  keep : ∀ f, G.kf f = true → PySem.W.keepIn G.K (.ref (G.fa f)) = true
  con : ∀ x d, T.gl.lookup x = some (.con d) → ∃ v u, G.mg x = some u ∧ RelV v u ∧ ∀ Z, RV G Z d v
  cls : ∀ x c, T.gl.lookup x = some (.cls c) → G.mg x = some (.ref (G.ca c)) ∧ G.kc c = true
  blt : ∀ x, T.gl.lookup x = some .blt → G.mg x = none
/-- items of a list, by their places -/
def permL {α : Type} (perm : List Nat) (l : List α) : List α := perm.filterMap fun i => l[i]?
/-- the keyword calls of a function -/
def kwOf (T : Tb) (f : Fid) : List (Nat × List Str × List Nat) := T.kw.filterMap fun e => if e.1 = f then some e.2 else none
theorem kwOf_mem {T : Tb} {f : Fid} {e : Nat × List Str × List Nat} (h : T.kw.contains (f, e) = true) : e ∈ kwOf T f :=
  List.mem_filterMap.mpr ⟨(f, e), List.contains_iff_mem.mp h, if_pos rfl⟩
/-- a function's promise, by what it computes -/
def spOf (G : Gi) (ps : Nat) (m : List D → Mu → Res D) : Sp := fun vs H Q E => vs.length = ps ∧ ∃ Z μ ds, Z.H = H ∧ Rel G Z μ ∧ RVs G Z ds vs ∧ Pst G (fun c d _ H => E c d H) [] (RV G) Z (m ds μ) Q
structure FnG (G : Gi) (kw : List (Nat × List Str × List Nat)) (fd : FuncData) (ps : List Str) (k : Nat) (f : Addr) (sp : Sp) : Prop where
  bindK : ∀ i ks perm, (i, ks, perm) ∈ kw → ∀ (s : Shared) (us ws : List Value), G.K.In s.heap → us.length = i → ws.length = ks.length → BindsTo s fd ⟨us, ks.zip ws⟩ (ps.zip (permL perm (us ++ ws)))
  bind : ∀ (s : Shared) (us : List Value), G.K.In s.heap → us.length = ps.length → BindsTo s fd ⟨us, []⟩ (ps.zip us)
  run : ∀ (A : Around) (outer : List Env) (s : Shared) (H : Hp) (args : Args) (us : List Value) (vs : List V) (Q : VK) (E : XK), A.guards = some [] → Room (k + 2) A → Env0 G.P G.w G.K G.mg G.base A outer s H → BindsTo s fd args (ps.zip us) → Vals vs us → sp vs H Q E →
    codeAny (model G.P G.w) A (.call (.ref f) args) (CR (CX G.P G.w) outer G.P G.w H s Q E) s
/-- a known function: its text, its promise -/
structure FnK (G : Gi) (T : Tb) (cl : Cl) (k : Nat) (f : Fid) : Prop where
  ex : ∃ fd ps, ps.length = T.ps f ∧ FnG G (kwOf T f) fd ps k (G.fa f) (spOf G (T.ps f) (cl f))
  ar : ∀ ds μ, cl f ds μ ≠ .err → ds.length = T.ps f
/-- the own errors are made by __init__(self, value) -/
def ErF (G : Gi) : Prop := ∀ c, G.kc c = true → ∃ (fI D : Addr) (fd : FuncData), IniF G.P G.K G.mg fI fd D ∧ IniC G.K (G.ca c) D ∧ PySem.W.findIn G.K (.ref (G.ca c)) "__init__" = some (some (.ref fI)) ∧ PySem.W.typeIn G.K (.ref fI) = some (.type "function") ∧ Binds G.K fd ["self", "value"] []
/-- the whole surroundings -/
structure Wk (G : Gi) (C : Cfg) (T : Tb) (cl : Cl) (k : Nat) : Prop where
  tb : TbOk G T
  gf : GF G C
  sys : SysK G.K
  fn : ∀ f, G.kf f = true → FnK G T cl k f
  er : ErF G
  xm : ∀ f c, G.kc f = true → G.kc c = true → PySem.W.exmOne G.K (.ref (G.ca f)) (.ref (G.ca c)) = some (C.sub f c)
/-- an expression's surroundings -/
structure CxE (G : Gi) (C : Cfg) (T : Tb) (cl : Cl) (n : En) (W : WX) (k : Nat) (X : Cx) : Prop where
  wk : Wk G C T cl k
  prog : X.prog = G.P
  w : X.w = G.w
  K : X.K = G.K
  mg : X.mg = G.mg
  base : X.base = G.base
  calm : X.calm = true
  N : X.N = n.N
  nd : n.N.Nodup
  sc : X.env.scope = n.sc
  fn : X.fn = n.fn
  room : Room (k + 2) X.A
  gd : X.A.guards = some []
  tk : Takes X W
section
variable {G : Gi} {C : Cfg} {T : Tb} {cl : Cl} {n : En} {W : WX} {k : Nat} {X : Cx}
theorem CxE.gl (c : CxE G C T cl n W k X) {x : Str} (h : isGl n x = true) : Gl X x ∧ (x == ("__debug__" : Str)) = false ∧ x ≠ "__name__" := by
  unfold isGl at h
  rw [Bool.and_eq_true, Bool.and_eq_true] at h
  obtain ⟨⟨h1, h2⟩, h3⟩ := h
  refine ⟨?_, beq_eq_false_iff_ne.mpr (of_decide_eq_true h2), of_decide_eq_true h3⟩
  unfold Gl Env.kindOf
  rw [c.sc]
  split at h1
  · assumption
  · cases h1
theorem CxE.blt (c : CxE G C T cl n W k X) {x : Str} (h : isBlt T n x = true) : Gl X x ∧ (x == ("__debug__" : Str)) = false ∧ x ≠ "__name__" ∧ X.mg x = none := by
  unfold isBlt at h
  rw [Bool.and_eq_true] at h
  obtain ⟨q1, q2, q3⟩ := c.gl h.1
  refine ⟨q1, q2, q3, ?_⟩
  have h2 := h.2
  split at h2
  · rw [c.mg]; exact c.wk.tb.blt _ (by assumption)
  · cases h2
theorem CxE.fnN (c : CxE G C T cl n W k X) {x : Str} {f : Fid} (h : isFnN T n x f = true) : Gl X x ∧ (x == ("__debug__" : Str)) = false ∧ X.mg x = some (.ref (G.fa f)) ∧ PySem.W.keepIn X.K (.ref (G.fa f)) = true ∧ FnK G T cl k f ∧ G.kf f = true := by
  unfold isFnN at h
  rw [Bool.and_eq_true] at h
  obtain ⟨q1, q2, q3⟩ := c.gl h.1
  have h2 := h.2
  split at h2
  · rename_i g e
    obtain ⟨z1, z2⟩ := c.wk.tb.fn _ _ e
    rw [Bool.or_eq_true] at h2
    have key : G.mg x = some (.ref (G.fa f)) ∧ G.kf f = true := by
      rcases h2 with h2 | h2
      · have eg : g = f := of_decide_eq_true h2
        subst eg
        exact ⟨z1, z2⟩
      · obtain ⟨y1, y2⟩ := c.wk.tb.al _ _ h2
        exact ⟨by rw [y1]; exact z1, y2⟩
    obtain ⟨z1, z2⟩ := key
    exact ⟨q1, q2, by rw [c.mg]; exact z1, by rw [c.K]; exact c.wk.tb.keep _ z2, c.wk.fn _ z2, z2⟩
  · cases h2
theorem CxE.clsN (c : CxE G C T cl n W k X) {x : Str} {f : Fid} (h : isClsN T n x f = true) : Gl X x ∧ (x == ("__debug__" : Str)) = false ∧ X.mg x = some (.ref (G.ca f)) ∧ G.kc f = true := by
  unfold isClsN at h
  rw [Bool.and_eq_true] at h
  obtain ⟨q1, q2, q3⟩ := c.gl h.1
  have h2 := h.2
  split at h2
  · rename_i g e
    have eg : g = f := of_decide_eq_true h2
    subst eg
    obtain ⟨z1, z2⟩ := c.wk.tb.cls _ _ e
    exact ⟨q1, q2, by rw [c.mg]; exact z1, z2⟩
  · cases h2
theorem CxE.conN (c : CxE G C T cl n W k X) {x : Str} {d : D} (h : isConN T n x d = true) : Gl X x ∧ (x == ("__debug__" : Str)) = false ∧ ∃ v u, X.mg x = some u ∧ RelV v u ∧ ∀ Z, RV G Z d v := by
  unfold isConN at h
  rw [Bool.and_eq_true] at h
  obtain ⟨q1, q2, q3⟩ := c.gl h.1
  have h2 := h.2
  split at h2
  · rename_i g e
    have eg := eqD1_eq _ _ h2
    subst eg
    obtain ⟨v, u, z1, z2, z3⟩ := c.wk.tb.con _ _ e
    exact ⟨q1, q2, v, u, by rw [c.mg]; exact z1, z2, z3⟩
  · cases h2
theorem CxE.var (c : CxE G C T cl n W k X) {x : Str} {i : Nat} (h : isVar n x i = true) : X.N[i]? = some x ∧ Vis X.env.scope x ∧ (x == ("__debug__" : Str)) = false ∧ (x == ("__classdict__" : Str)) = false := by
  unfold isVar at h
  simp only [Bool.and_eq_true] at h
  obtain ⟨⟨⟨h1, h2⟩, h3⟩, h4⟩ := h
  refine ⟨by rw [c.N]; exact of_decide_eq_true h1, ?_, beq_eq_false_iff_ne.mpr (of_decide_eq_true h3), beq_eq_false_iff_ne.mpr (of_decide_eq_true h4)⟩
  unfold Vis
  rw [c.sc]
  split at h2
  · exact .inl (by assumption)
  · exact .inr (.inl (by assumption))
  · exact .inr (.inr (by assumption))
  · cases h2
theorem CxE.to (c : CxE G C T cl n W k X) {x : Str} {i : Nat} (h : isTo n x i = true) : X.N[i]? = some x ∧ Loc X.env.scope x ∧ (X.fn x = true ∨ X.env.scope.names.lookup x = some .local) := by
  unfold isTo at h
  rw [Bool.and_eq_true] at h
  refine ⟨by rw [c.N]; exact of_decide_eq_true h.1, ?_⟩
  have h2 := h.2
  unfold L2.Loc
  rw [c.sc, c.fn]
  split at h2
  · rename_i e
    exact ⟨.inl e, .inr e⟩
  · rename_i e
    exact ⟨.inr e, .inl h2⟩
  · cases h2
/-! ### items -/
theorem star_of {e : Expr} {es : List Expr} {env : Env} (h : notStar e = true) : starEach (e :: es) env = (false, eval e env) :: starEach es env := by
  cases e <;> first | rfl | cases h
theorem stars_plain {env : Env} {pos : Pos} : ∀ {es : List Expr}, es.all notStar = true → (backTo pos (starEach es env)).any (·.1) = false
  | [], _ => rfl
  | e :: es, h => by
    rw [List.all_cons, Bool.and_eq_true] at h
    rw [star_of h.1]
    show (false || (backTo pos (starEach es env)).any (·.1)) = false
    rw [stars_plain h.2]; rfl
theorem stars_all {env : Env} {pos : Pos} : ∀ {es : List Expr}, es.all notStar = true → (backTo pos (starEach es env)).all (fun x => !x.1) = true
  | [], _ => rfl
  | e :: es, h => by
    rw [List.all_cons, Bool.and_eq_true] at h
    rw [star_of h.1]
    show (true && (backTo pos (starEach es env)).all (fun x => !x.1)) = true
    rw [stars_all h.2]; rfl
theorem callB_inv {id : Str} {x : Expr} {xs : List Expr} (h : callB T n id x = some xs) : ∃ p pos, x = .Call (.Name id p) xs [] pos ∧ isBlt T n id = true ∧ xs.all notStar = true := by
  unfold callB at h
  split at h
  · split at h
    · rename_i q
      obtain ⟨q1, q2, q3⟩ := q
      cases h
      subst q1
      exact ⟨_, _, rfl, q2, q3⟩
    · cases h
  · cases h
theorem callM_inv {id : Str} {x o : Expr} {xs : List Expr} (h : callM id x = some (o, xs)) : ∃ ap pos, x = .Call (.Attribute o id ap) xs [] pos ∧ xs.all notStar = true ∧ plainBase o = true ∧ ap.endLine = pos.line ∧ xs.length < 5 := by
  unfold callM at h
  split at h
  · split at h
    · rename_i q
      obtain ⟨q1, q2, q3, q4, q5⟩ := q
      cases h
      subst q1
      exact ⟨_, _, rfl, q2, q3, q4, q5⟩
    · cases h
  · cases h
theorem binA_inv {op : Operator} {x : Expr} {xs : List Expr} (h : binA op x = some xs) : ∃ a b p, x = .BinOp a op b p ∧ xs = [a, b] := by
  unfold binA at h
  split at h
  · split at h
    · rename_i q
      cases h
      subst q
      exact ⟨_, _, _, rfl, rfl⟩
    · cases h
  · cases h
theorem cmpA_inv {op : CmpOp} {x : Expr} {xs : List Expr} (h : cmpA op x = some xs) : ∃ a b p, x = .Compare a [op] [b] p ∧ xs = [a, b] ∧ noSet b = true := by
  unfold cmpA at h
  split at h
  · split at h
    · rename_i q
      cases h
      obtain ⟨q1, q2⟩ := q
      subst q1
      exact ⟨_, _, _, rfl, rfl, q2⟩
    · cases h
  · cases h
theorem cmpN_inv {op : CmpOp} {x : Expr} {xs : List Expr} (h : cmpN op x = some xs) : ∃ a j q p, x = .Compare a [op] [.Constant .none j q] p ∧ xs = [a] := by
  unfold cmpN at h
  split at h
  · split at h
    · rename_i q
      cases h
      subst q
      exact ⟨_, _, _, _, rfl, rfl⟩
    · cases h
  · cases h
theorem noSet_marks {op : CmpOp} {b : Expr} (h : noSet b = true) : behindInMarks op b = false := by
  cases b <;> first | rfl | cases h
theorem plainBase_of {o : Expr} {attr : Str} {env : Env} (h : plainBase o = true) : attributeBase o attr env (eval o env) = eval o env := by
  unfold plainBase at h
  split at h
  · rename_i id _ _
    have hn : id ≠ "super" := of_decide_eq_true h
    unfold attributeBase
    simp only []
    rw [if_pos (by simp [hn])]
  · rename_i hx
    unfold attributeBase
    split
    · rename_i id p pos
      exact absurd rfl (hx id p pos)
    · rfl
end
end PyE
set_option maxRecDepth 100000
set_option maxHeartbeats 4000000
/-! operators, by the test -/
namespace PyE
open PySem PySem.Spec PyProof.Rows L2
section
variable {G : Gi} {C : Cfg} {T : Tb} {cl : Cl} {n : En} {W : WX} {k : Nat} {X : Cx} {σ : L2.St} {H : Hp}
/-- each item by itself -/
def Its (G : Gi) (C : Cfg) (cl : Cl) (W : WX) (X : Cx) : CE → List Expr → Prop
  | .nil, xs => xs = []
  | .cons e r, xs => ∃ x s, xs = x :: s ∧ notStar x = true ∧ PE X x (tE G W (eE C cl e)) ∧ Its G C cl W X r s
  | _, _ => False
theorem its_pa : ∀ {es : CE} {xs : List Expr}, Its G C cl W X es xs → PA X xs (tA G W (eA C cl es))
  | .nil, xs, h => by
    have e : xs = [] := h
    subst e
    refine pa_mono pa_nil fun σ H Q q => ?_
    obtain ⟨Z, ρ, μ, A, q⟩ := q
    have q' : ∀ b Z', Ext Z Z' → Rel G Z' μ → RVs G Z' [] b → Q b Z'.H := q
    have := q' [] Z (Ext.refl Z) A.rel rfl
    rw [A.hp] at this
    exact this
  | .cons e r, xs, h => by
    obtain ⟨x, s, rfl, hs, p, q⟩ := h
    refine pa_mono (pa_cons p (its_pa q) (star_of hs)) fun σ H Q q => ?_
    obtain ⟨Z, ρ, μ, A, q⟩ := q
    have L := like_pst (G := G) (W := W) (σ := σ) (RVs G) Q
    refine ⟨Z, ρ, μ, A, step L (r := eE C cl e ρ μ) A q fun v Z1 μ1 d A1 X1 r1 h1 => ⟨Z1, ρ, μ1, A1, step L A1 h1 fun vs Z2 μ2 ds A2 X2 r2 h2 => ?_⟩⟩
    have h2' : ∀ b Z', Ext Z2 Z' → Rel G Z' μ2 → RVs G Z' (d :: ds) b → Q b Z'.H := h2
    exact h2' (v :: vs) Z2 (Ext.refl _) A2.rel ⟨v, vs, rfl, RV.ext X2 A1.rel _ _ r1, r2⟩
  | .con _, _, h => h.elim
  | .v _, _, h => h.elim
  | .fnv _, _, h => h.elim
  | .op _ _, _, h => h.elim
  | .mop _ _ _, _, h => h.elim
  | .not_ _, _, h => h.elim
  | .and_ _ _, _, h => h.elim
  | .or_ _ _, _, h => h.elim
  | .chain _ _ _ _ _, _, h => h.elim
  | .ite _ _ _, _, h => h.elim
  | .cell _, _, h => h.elim
  | .call _ _ _, _, h => h.elim
  | .callv _ _, _, h => h.elim
  | .mk _ _, _, h => h.elim
  | .comp _ _ _ _, _, h => h.elim
  | .comp2 _ _ _ _ _ _, _, h => h.elim
  | .iseq _, _, h => h.elim
  | .irng1 _, _, h => h.elim
  | .irng2 _ _, _, h => h.elim
  | .irng3 _ _ _, _, h => h.elim
  | .izip _ _ _, _, h => h.elim
  | .ienum _, _, h => h.elim
theorem its_cons {es : CE} {x : Expr} {s : List Expr} (h : Its G C cl W X es (x :: s)) : ∃ e r, es = .cons e r ∧ notStar x = true ∧ PE X x (tE G W (eE C cl e)) ∧ Its G C cl W X r s := by
  cases es with
  | cons e r =>
    obtain ⟨y, t, e1, hs, p, q⟩ := h
    cases e1
    exact ⟨e, r, rfl, hs, p, q⟩
  | nil => cases (show x :: s = [] from h)
  | _ => exact False.elim h
theorem its_nil {es : CE} (h : Its G C cl W X es []) : es = .nil := by
  cases es with
  | cons e r =>
    obtain ⟨y, t, e1, _⟩ := h
    cases e1
  | nil => rfl
  | _ => exact False.elim h
theorem its1 {es : CE} {x : Expr} (h : Its G C cl W X es [x]) : ∃ e, es = .cons e .nil ∧ notStar x = true ∧ PE X x (tE G W (eE C cl e)) := by
  obtain ⟨e, r, rfl, hs, p, q⟩ := its_cons h
  exact ⟨e, by rw [its_nil q], hs, p⟩
theorem its2 {es : CE} {x y : Expr} (h : Its G C cl W X es [x, y]) : ∃ e f, es = .cons e (.cons f .nil) ∧ notStar x = true ∧ notStar y = true ∧ PE X x (tE G W (eE C cl e)) ∧ PE X y (tE G W (eE C cl f)) := by
  obtain ⟨e, r, rfl, hs, p, q⟩ := its_cons h
  obtain ⟨f, rfl, hs2, p2⟩ := its1 q
  exact ⟨e, f, rfl, hs, hs2, p, p2⟩
theorem its3 {es : CE} {x y z : Expr} (h : Its G C cl W X es [x, y, z]) : ∃ e f g, es = .cons e (.cons f (.cons g .nil)) ∧ PE X x (tE G W (eE C cl e)) ∧ PE X y (tE G W (eE C cl f)) ∧ PE X z (tE G W (eE C cl g)) := by
  obtain ⟨e, r, rfl, hs, p, q⟩ := its_cons h
  obtain ⟨f, g, rfl, hs2, hs3, p2, p3⟩ := its2 q
  exact ⟨e, f, g, rfl, p, p2, p3⟩

theorem Like.ok {α : Type} {Z : Wd} {μ : Mu} {a : α} {β : Type} {b : β} {rel : Wd → α → β → Prop} {Q : β → Hp → Prop} (h : Pst G W σ rel Z (.ok a μ) Q) (R : Rel G Z μ) (r : rel Z a b) : Q b Z.H := h b Z (Ext.refl Z) R r
/-- a value or a frozen list just made -/
theorem e_op {o : Op} {es : CE} {Q : VK} (h : tE G W (eE C cl (.op o es)) σ H Q) : tP G W (eO C cl o es) σ H Q := by
  obtain ⟨Z, ρ, μ, A, h⟩ := h
  refine ⟨Z, ρ, μ, A, ?_⟩
  have h' : Pst G W σ (RV G) Z ((eA C cl es ρ μ).bind fun vs μ1 => lift ((opS C μ1 o vs).map prD) μ1) Q := h
  show PstP G W σ Z ((eA C cl es ρ μ).bind fun vs μ1 => lift (opS C μ1 o vs) μ1) Q
  revert h'
  cases eA C cl es ρ μ with
  | exc c d μ1 => exact fun h' => h'
  | err => exact fun h' => h'
  | ok vs μ1 =>
    intro h'
    have h2 : Pst G W σ (RV G) Z (lift ((opS C μ1 o vs).map prD) μ1) Q := h'
    show PstP G W σ Z (lift (opS C μ1 o vs) μ1) Q
    cases e : opS C μ1 o vs with
    | none => rw [e] at h2; exact h2
    | some pr =>
      rw [e] at h2
      cases pr with
      | v d => exact h2
      | new xs =>
        intro p vs' Z' x R hp r z
        obtain ⟨Z2, e1, e2, e3, e4⟩ := froze R hp r z
        rw [← e1]
        exact h2 _ Z2 (x.trans e2) e3 e4
/-- a cell just made -/
theorem e_cell {o : Op} {es : CE} {Q : VK} (h : tE G W (eE C cl (.cell (.op o es))) σ H Q) : tP G W (eO C cl o es) σ H Q := by
  obtain ⟨Z, ρ, μ, A, h⟩ := h
  refine ⟨Z, ρ, μ, A, ?_⟩
  have h' : Pst G W σ (RV G) Z (((eA C cl es ρ μ).bind fun vs μ1 => lift ((opS C μ1 o vs).bind prN) μ1).bind fun xs μ1 => .ok (.ref μ1.length) (μ1 ++ [xs])) Q := h
  rw [bind_bind] at h'
  show PstP G W σ Z ((eA C cl es ρ μ).bind fun vs μ1 => lift (opS C μ1 o vs) μ1) Q
  revert h'
  cases eA C cl es ρ μ with
  | exc c d μ1 => exact fun h' => h'
  | err => exact fun h' => h'
  | ok vs μ1 =>
    intro h'
    have h2 : Pst G W σ (RV G) Z ((lift ((opS C μ1 o vs).bind prN) μ1).bind fun xs μ1 => .ok (.ref μ1.length) (μ1 ++ [xs])) Q := h'
    show PstP G W σ Z (lift (opS C μ1 o vs) μ1) Q
    cases e : opS C μ1 o vs with
    | none => rw [e] at h2; exact h2
    | some pr =>
      rw [e] at h2
      cases pr with
      | v d => exact False.elim h2
      | new xs =>
        intro p vs' Z' x R hp r z
        obtain ⟨Z2, e1, e2, e3, e4⟩ := celled R hp r z
        rw [← e1]
        exact h2 _ Z2 (x.trans e2) e3 e4

/-! ### arities -/
theorem ar1 {o : Op} {μ : Mu} {ds : List D} {pr : PR} (h0 : opS C μ o [] = none) (h2 : ∀ a b r, opS C μ o (a :: b :: r) = none) (h : opS C μ o ds = some pr) : ∃ d, ds = [d] := by
  cases ds with
  | nil => rw [h0] at h; cases h
  | cons a r => cases r with
    | nil => exact ⟨a, rfl⟩
    | cons b r => rw [h2] at h; cases h
theorem ar2 {o : Op} {μ : Mu} {ds : List D} {pr : PR} (h0 : opS C μ o [] = none) (h1 : ∀ a, opS C μ o [a] = none) (h2 : ∀ a b c r, opS C μ o (a :: b :: c :: r) = none) (h : opS C μ o ds = some pr) : ∃ d e, ds = [d, e] := by
  cases ds with
  | nil => rw [h0] at h; cases h
  | cons a r => cases r with
    | nil => rw [h1] at h; cases h
    | cons b r => cases r with
      | nil => exact ⟨a, b, rfl⟩
      | cons c r => rw [h2] at h; cases h
theorem rO_1 {o : Op} {vs : List V} {Q : VK} (h0 : ∀ μ, opS C μ o [] = none) (h2 : ∀ μ a b r, opS C μ o (a :: b :: r) = none) (h : rO G C o vs H Q) : (∃ x, vs = [x]) ∧ rO G C o vs H Q := by
  refine ⟨?_, h⟩
  obtain ⟨Z, μ, ds, pr, _, _, r, e, _⟩ := h
  obtain ⟨d, rfl⟩ := ar1 (h0 μ) (h2 μ) e
  obtain ⟨v, t, rfl, _, e2⟩ := r
  have e2' : t = [] := e2
  exact ⟨v, by rw [e2']⟩
theorem rO_2 {o : Op} {vs : List V} {Q : VK} (h0 : ∀ μ, opS C μ o [] = none) (h1 : ∀ μ a, opS C μ o [a] = none) (h2 : ∀ μ a b c r, opS C μ o (a :: b :: c :: r) = none) (h : rO G C o vs H Q) : (∃ x y, vs = [x, y]) ∧ rO G C o vs H Q := by
  refine ⟨?_, h⟩
  obtain ⟨Z, μ, ds, pr, _, _, r, e, _⟩ := h
  obtain ⟨d, d2, rfl⟩ := ar2 (h0 μ) (h1 μ) (h2 μ) e
  obtain ⟨v, t, rfl, _, v2, t2, rfl, _, e2⟩ := r
  have e2' : t2 = [] := e2
  exact ⟨v, v2, by rw [e2']⟩

/-! ### rules -/
theorem k_bin (c : CxE G C T cl n W k X) {o : Op} {op : Operator} {es : CE} {x : Expr} {xs : List Expr} (hr : OpR X (binaryOp op) fun x y H Q => rO G C o [x, y] H Q) (h : binA op x = some xs) (hi : Its G C cl W X es xs) : PE X x (tP G W (eO C cl o es)) := by
  obtain ⟨a, b, p, rfl, rfl⟩ := binA_inv h
  obtain ⟨e, f, rfl, _, _, p1, p2⟩ := its2 hi
  exact pe_mono (pe_op hr p1 p2) fun σ H Q q => op2 q
theorem k_cmp (c : CxE G C T cl n W k X) {o : Op} {op : CmpOp} {es : CE} {x : Expr} {xs : List Expr} (hr : OpR X (compareOp op) fun x y H Q => rO G C o [x, y] H Q) (h : cmpA op x = some xs) (hi : Its G C cl W X es xs) :
    PE X x (tP G W (eO C cl o es)) ∧ PT X x (tTest (tP G W (eO C cl o es))) := by
  obtain ⟨a, b, p, rfl, rfl, hs⟩ := cmpA_inv h
  obtain ⟨e, f, rfl, _, _, p1, p2⟩ := its2 hi
  exact ⟨pe_mono (pe_cmpR hr p1 p2 (noSet_marks hs)) fun σ H Q q => op2 q, pt_mono (pt_cmpR hr p1 p2 (noSet_marks hs)) fun σ H Q q => op2 q⟩
theorem k_cmp1 (c : CxE G C T cl n W k X) {o : Op} {op : CmpOp} {e : CE} {a b : Expr} {v : V} {pos : Pos} (hr : OpR X (compareOp op) fun x y H Q => y = v ∧ rO G C o [x] H Q) (hb : PE X b (tC v)) (hs : noSet b = true) (p1 : PE X a (tE G W (eE C cl e))) :
    PE X (.Compare a [op] [b] pos) (tP G W (eO C cl o (.cons e .nil))) ∧ PT X (.Compare a [op] [b] pos) (tTest (tP G W (eO C cl o (.cons e .nil)))) := by
  have key : ∀ (σ : L2.St) (H : Hp) (Q : VK), tP G W (eO C cl o (.cons e .nil)) σ H Q → tOp (fun x y H Q => y = v ∧ rO G C o [x] H Q) (tE G W (eE C cl e)) (tC v) σ H Q := fun σ H Q q => by
    have q1 := op1 q
    obtain ⟨Z, ρ, μ, A, q1⟩ := q1
    exact ⟨Z, ρ, μ, A, Pst.mono q1 fun b H1 q2 => ⟨rfl, q2⟩⟩
  exact ⟨pe_mono (pe_cmpR hr p1 hb (noSet_marks hs)) key, pt_mono (pt_cmpR hr p1 hb (noSet_marks hs)) fun σ H Q q => key _ _ _ q⟩
theorem k_callB (c : CxE G C T cl n W k X) {o : Op} {id : String} {es : CE} {x : Expr} {xs : List Expr} {r : List V → Hp → VK → Prop} (hr : CallR X (.builtin id) r) (hv : bootBuiltins (id : Str) = some (.builtin id)) (h : callB T n (id : Str) x = some xs) (hne : xs ≠ [])
    (hi : Its G C cl W X es xs) (hm : ∀ vs H Q, rO G C o vs H Q → r vs H Q) : PE X x (tP G W (eO C cl o es)) := by
  obtain ⟨p, pos, rfl, hb, hs⟩ := callB_inv h
  obtain ⟨g1, g2, g3, g4⟩ := c.blt hb
  cases xs with
  | nil => exact absurd rfl hne
  | cons y ys =>
    rw [List.all_cons, Bool.and_eq_true] at hs
    refine pe_mono (pe_callB hr g1 g4 hv (its_pa hi) g3 g2 (star_of hs.1) (stars_plain hs.2)) fun σ H Q q => ?_
    obtain ⟨Z, ρ, μ, A, q1⟩ := opA q
    exact ⟨Z, ρ, μ, A, Pst.mono q1 fun vs H1 q2 => hm vs H1 Q q2⟩
theorem k_callT (c : CxE G C T cl n W k X) {o : Op} {id : String} {es : CE} {x : Expr} {xs : List Expr} {r : List V → Hp → VK → Prop} (hr : CallR X (.type id) r) (hv : bootBuiltins (id : Str) = some (.type id)) (h : callB T n (id : Str) x = some xs) (hne : xs ≠ [])
    (hi : Its G C cl W X es xs) (hm : ∀ vs H Q, rO G C o vs H Q → r vs H Q) : PE X x (tP G W (eO C cl o es)) := by
  obtain ⟨p, pos, rfl, hb, hs⟩ := callB_inv h
  obtain ⟨g1, g2, g3, g4⟩ := c.blt hb
  cases xs with
  | nil => exact absurd rfl hne
  | cons y ys =>
    rw [List.all_cons, Bool.and_eq_true] at hs
    refine pe_mono (pe_callTy hr g1 g4 hv (its_pa hi) g3 g2 (star_of hs.1) (stars_plain hs.2)) fun σ H Q q => ?_
    obtain ⟨Z, ρ, μ, A, q1⟩ := opA q
    exact ⟨Z, ρ, μ, A, Pst.mono q1 fun vs H1 q2 => hm vs H1 Q q2⟩
end
end PyE
set_option maxRecDepth 100000
set_option maxHeartbeats 4000000
namespace PyE
open PySem PySem.Spec PyProof.Rows L2
theorem b_len : bootBuiltins ("len" : Str) = some (.builtin "len") := by decide +kernel
theorem b_abs : bootBuiltins ("abs" : Str) = some (.builtin "abs") := by decide +kernel
theorem b_repr : bootBuiltins ("repr" : Str) = some (.builtin "repr") := by decide +kernel
theorem b_max : bootBuiltins ("max" : Str) = some (.builtin "max") := by decide +kernel
theorem b_min : bootBuiltins ("min" : Str) = some (.builtin "min") := by decide +kernel
theorem b_sorted : bootBuiltins ("sorted" : Str) = some (.builtin "sorted") := by decide +kernel
theorem b_sum : bootBuiltins ("sum" : Str) = some (.builtin "sum") := by decide +kernel
theorem b_all : bootBuiltins ("all" : Str) = some (.builtin "all") := by decide +kernel
theorem b_any : bootBuiltins ("any" : Str) = some (.builtin "any") := by decide +kernel
theorem b_isi : bootBuiltins ("isinstance" : Str) = some (.builtin "isinstance") := by decide +kernel
theorem b_int : bootBuiltins ("int" : Str) = some (.type "int") := by decide +kernel
theorem b_bool : bootBuiltins ("bool" : Str) = some (.type "bool") := by decide +kernel
theorem b_str : bootBuiltins ("str" : Str) = some (.type "str") := by decide +kernel
theorem b_list : bootBuiltins ("list" : Str) = some (.type "list") := by decide +kernel
theorem b_tuple : bootBuiltins ("tuple" : Str) = some (.type "tuple") := by decide +kernel
theorem b_dict : bootBuiltins ("dict" : Str) = some (.type "dict") := by decide +kernel
theorem b_ve : bootBuiltins ("ValueError" : Str) = some (.type "ValueError") := by decide +kernel
section
variable {G : Gi} {C : Cfg} {T : Tb} {cl : Cl} {n : En} {W : WX} {k : Nat} {X : Cx} {σ : L2.St} {H : Hp}
/-- a type's name -/
theorem k_ty (c : CxE G C T cl n W k X) {x : Str} {t : Ty} {p : Pos} (h : isTyN T n x t = true) : PE X (.Name x p) (tC (tyV G t)) ∧ tyOk G t = true := by
  unfold isTyN at h
  have bl : ∀ {y : Str} {nm : String}, bootBuiltins y = some (.type nm) → x = y → isBlt T n x = true → PE X (.Name x p) (tC (.ty nm)) := fun {y nm} hb e hx => by
    subst e
    obtain ⟨g1, g2, g3, g4⟩ := c.blt hx
    exact pe_bltn g1 g4 hb rfl g3 g2
  cases t with
  | tcls q =>
    obtain ⟨g1, g2, g3, g4⟩ := c.clsN h
    exact ⟨pe_glob g1 g3 rfl g2, g4⟩
  | tint => rw [Bool.and_eq_true] at h; exact ⟨bl b_int (of_decide_eq_true h.1) h.2, rfl⟩
  | tbool => rw [Bool.and_eq_true] at h; exact ⟨bl b_bool (of_decide_eq_true h.1) h.2, rfl⟩
  | tstr => rw [Bool.and_eq_true] at h; exact ⟨bl b_str (of_decide_eq_true h.1) h.2, rfl⟩
  | tlist => rw [Bool.and_eq_true] at h; exact ⟨bl b_list (of_decide_eq_true h.1) h.2, rfl⟩
  | ttuple => rw [Bool.and_eq_true] at h; exact ⟨bl b_tuple (of_decide_eq_true h.1) h.2, rfl⟩
  | tdict => rw [Bool.and_eq_true] at h; exact ⟨bl b_dict (of_decide_eq_true h.1) h.2, rfl⟩
  | tval => rw [Bool.and_eq_true] at h; exact ⟨bl b_ve (of_decide_eq_true h.1) h.2, rfl⟩
theorem k_tys (c : CxE G C T cl n W k X) : ∀ {es : List Expr} {ts : List Ty}, tysN T n es ts = true → PA X es (fun _ H Q => Q (ts.map (tyV G)) H) ∧ ts.all (tyOk G) = true
  | [], [], _ => ⟨pa_mono pa_nil fun σ H Q q => q, rfl⟩
  | .Name x p :: es, t :: ts, h => by
    have h' : (isTyN T n x t && tysN T n es ts) = true := h
    rw [Bool.and_eq_true] at h'
    obtain ⟨p1, o1⟩ := k_ty c (p := p) h'.1
    obtain ⟨p2, o2⟩ := k_tys c h'.2
    exact ⟨pa_mono (pa_cons p1 p2 (star_of rfl)) fun σ H Q q => q, by rw [List.all_cons, o1, o2]; rfl⟩
  | [], _ :: _, h => by cases h
  | x :: _, [], h => by cases x <;> cases h
  | .BoolOp .. :: _, _ :: _, h => by cases h
  | .NamedExpr .. :: _, _ :: _, h => by cases h
  | .BinOp .. :: _, _ :: _, h => by cases h
  | .UnaryOp .. :: _, _ :: _, h => by cases h
  | .Lambda .. :: _, _ :: _, h => by cases h
  | .IfExp .. :: _, _ :: _, h => by cases h
  | .Dict .. :: _, _ :: _, h => by cases h
  | .Set .. :: _, _ :: _, h => by cases h
  | .ListComp .. :: _, _ :: _, h => by cases h
  | .SetComp .. :: _, _ :: _, h => by cases h
  | .DictComp .. :: _, _ :: _, h => by cases h
  | .GeneratorExp .. :: _, _ :: _, h => by cases h
  | .Await .. :: _, _ :: _, h => by cases h
  | .Yield .. :: _, _ :: _, h => by cases h
  | .YieldFrom .. :: _, _ :: _, h => by cases h
  | .Compare .. :: _, _ :: _, h => by cases h
  | .Call .. :: _, _ :: _, h => by cases h
  | .FormattedValue .. :: _, _ :: _, h => by cases h
  | .JoinedStr .. :: _, _ :: _, h => by cases h
  | .Constant .. :: _, _ :: _, h => by cases h
  | .Attribute .. :: _, _ :: _, h => by cases h
  | .Subscript .. :: _, _ :: _, h => by cases h
  | .Starred .. :: _, _ :: _, h => by cases h
  | .List .. :: _, _ :: _, h => by cases h
  | .Tuple .. :: _, _ :: _, h => by cases h
  | .Slice .. :: _, _ :: _, h => by cases h
theorem k_isi (c : CxE G C T cl n W k X) {es : CE} {x a t : Expr} {ts : List Ty} (h : callB T n "isinstance" x = some [a, t]) (ht : tyArg T n t ts = true) (hi : Its G C cl W X es [a]) : PE X x (tP G W (eO C cl (.isi ts) es)) := by
  obtain ⟨p, pos, rfl, hb, hs⟩ := callB_inv h
  obtain ⟨g1, g2, g3, g4⟩ := c.blt hb
  obtain ⟨e, rfl, hs1, p1⟩ := its1 hi
  have hK := c.K
  rw [List.all_cons, Bool.and_eq_true] at hs
  unfold tyArg at ht
  have fin_ : ∀ {tt : TE}, PE X t tt → ts.all (tyOk G) = true → ts ≠ [] → (∀ σ H Q, (∀ v H', ((∃ t, ts = [t] ∧ v = tyV G t ∧ H' = H) ∨ ∃ p, v = .ref p ∧ H p = none ∧ H' = upd H p (.tup (ts.map (tyV G)))) → Q v H') → tt σ H Q) →
      PE X (.Call (.Name "isinstance" p) [a, t] [] pos) (tP G W (eO C cl (.isi ts) (.cons e .nil))) := fun {tt} pt ok ne ht => by
    refine pe_mono (pe_callB (c_isi hK c.wk.gf ok ne) g1 g4 b_isi (pa_cons p1 (pa_cons pt pa_nil (star_of (by have := hs.2; rw [List.all_cons, Bool.and_eq_true] at this; exact this.1))) (star_of hs.1)) g3 g2 (star_of hs.1) (stars_plain hs.2)) fun σ H Q q => ?_
    obtain ⟨Z, ρ, μ, A, q1⟩ := op1 q
    refine ⟨Z, ρ, μ, A, Pst.mono q1 fun v H1 q2 => ?_⟩
    obtain ⟨Z1, μ1, ds, pr, e1, R1, rv, eo, qp⟩ := q2
    obtain ⟨d, rfl, r1⟩ := rv.one_inv
    obtain ⟨b, eb, ep⟩ := Option.map_eq_some_iff.mp (show (isiS C.sub d ts).map (fun b => PR.v (.bl b)) = some pr from eo)
    subst ep e1
    refine ht σ Z1.H _ fun w H2 hw => ?_
    show rIs G C ts [v, w] H2 Q
    rcases hw with ⟨t, e1, e2, e3⟩ | ⟨p, e1, e2, e3⟩
    · subst e3
      exact ⟨v, w, rfl, .inl ⟨t, e1, e2⟩, Z1, μ1, d, b, rfl, R1, r1, eb, qp.here R1 rfl⟩
    · subst e3
      exact ⟨v, w, rfl, .inr ⟨p, e1, upd_same⟩, Z1.lay p (.tup (ts.map (tyV G))), μ1, d, b, rfl, R1.lay e2, RV.ext (Ext.lay e2) R1 _ _ r1, eb, (PrP.base qp (Ext.lay e2)).here (R1.lay e2) rfl⟩
  split at ht
  · rename_i y q t'
    obtain ⟨pt, ok⟩ := k_ty c (p := q) ht
    exact fin_ pt (by rw [List.all_cons, ok]; rfl) (by simp) fun σ H Q hq => hq _ _ (.inl ⟨_, rfl, rfl, rfl⟩)
  · simp only [Bool.and_eq_true] at ht
    obtain ⟨⟨ht1, ht2⟩, ht3⟩ := ht
    obtain ⟨pt, ok⟩ := k_tys c ht1
    have ht3' := of_decide_eq_true ht3
    refine fin_ (pe_tup pt) ok (by intro z; rw [z] at ht2; cases ht2) fun σ H Q hq => ⟨?_, fun p hp => hq _ _ (.inr ⟨p, rfl, hp, rfl⟩)⟩
    rw [List.length_map, sizeLine_eq]; omega
  · cases ht

theorem asInt_some {d : D} {i : Int} (h : asInt d = some i) : d = .int i := by
  cases d <;> first | (cases h; rfl) | cases h
theorem callN_inv {q : Nat} {id : Str} {x : Expr} {xs : List Expr} (h : callN T n q id x = some xs) : callB T n id x = some xs ∧ xs.length = q := by
  unfold callN at h
  split at h
  · split at h
    · cases h; exact ⟨by assumption, by assumption⟩
    · cases h
  · cases h
theorem k_call1 (c : CxE G C T cl n W k X) {o : Op} {id : String} {es : CE} {x : Expr} {xs : List Expr} (hr : CallR X (.builtin id) fun vs H Q => (∃ x, vs = [x]) ∧ rO G C o vs H Q) (hv : bootBuiltins (id : Str) = some (.builtin id)) (h : callN T n 1 (id : Str) x = some xs)
    (h0 : ∀ μ, opS C μ o [] = none) (h2 : ∀ μ a b r, opS C μ o (a :: b :: r) = none) (hi : Its G C cl W X es xs) : PE X x (tP G W (eO C cl o es)) := by
  obtain ⟨h1, hl⟩ := callN_inv h
  exact k_callB c hr hv h1 (by intro z; rw [z] at hl; cases hl) hi fun vs H Q q => rO_1 h0 h2 q
theorem k_callT1 (c : CxE G C T cl n W k X) {o : Op} {id : String} {es : CE} {x : Expr} {xs : List Expr} (hr : CallR X (.type id) fun vs H Q => (∃ x, vs = [x]) ∧ rO G C o vs H Q) (hv : bootBuiltins (id : Str) = some (.type id)) (h : callN T n 1 (id : Str) x = some xs)
    (h0 : ∀ μ, opS C μ o [] = none) (h2 : ∀ μ a b r, opS C μ o (a :: b :: r) = none) (hi : Its G C cl W X es xs) : PE X x (tP G W (eO C cl o es)) := by
  obtain ⟨h1, hl⟩ := callN_inv h
  exact k_callT c hr hv h1 (by intro z; rw [z] at hl; cases hl) hi fun vs H Q q => rO_1 h0 h2 q
theorem k_call2 (c : CxE G C T cl n W k X) {o : Op} {id : String} {es : CE} {x : Expr} {xs : List Expr} (hr : CallR X (.builtin id) fun vs H Q => (∃ x y, vs = [x, y]) ∧ rO G C o vs H Q) (hv : bootBuiltins (id : Str) = some (.builtin id)) (h : callN T n 2 (id : Str) x = some xs)
    (h0 : ∀ μ, opS C μ o [] = none) (h1 : ∀ μ a, opS C μ o [a] = none) (h2 : ∀ μ a b c r, opS C μ o (a :: b :: c :: r) = none) (hi : Its G C cl W X es xs) : PE X x (tP G W (eO C cl o es)) := by
  obtain ⟨h3, hl⟩ := callN_inv h
  exact k_callB c hr hv h3 (by intro z; rw [z] at hl; cases hl) hi fun vs H Q q => rO_2 h0 h1 h2 q
theorem lrA_inv {x : Expr} {xs : List Expr} (h : lrA T n x = some xs) : ∃ y, callN T n 1 "list" x = some [y] ∧ callN T n 1 "range" y = some xs := by
  unfold lrA at h
  split at h
  · exact ⟨_, by assumption, h⟩
  · cases h
theorem k_lrange (c : CxE G C T cl n W k X) {es : CE} {x : Expr} {xs : List Expr} (h : lrA T n x = some xs) (hi : Its G C cl W X es xs) : PE X x (tP G W (eO C cl .lrange es)) := by
  obtain ⟨y, h1, h2⟩ := lrA_inv h
  obtain ⟨h1, l1⟩ := callN_inv h1
  obtain ⟨h2, l2⟩ := callN_inv h2
  obtain ⟨p, pos, rfl, hb, hs⟩ := callB_inv h1
  obtain ⟨p2, pos2, rfl, hb2, hs2⟩ := callB_inv h2
  obtain ⟨g1, g2, g3, g4⟩ := c.blt hb
  obtain ⟨f1, f2, f3, f4⟩ := c.blt hb2
  match xs, l2 with
  | [a], _ =>
  obtain ⟨e, rfl, hsa, p1⟩ := its1 hi
  refine pe_mono (pe_listRg c.calm g1 g4 (prg_1 f1 f4 p1 (star_of hsa)) rfl) fun σ H Q q => ?_
  obtain ⟨Z, ρ, μ, A, q1⟩ := op1 q
  refine ⟨Z, ρ, μ, A, Pst.mono q1 fun v H1 q2 => ?_⟩
  obtain ⟨Z1, μ1, ds, pr, e1, R1, rv, eo, qp⟩ := q2
  obtain ⟨d, rfl, r1⟩ := rv.one_inv
  subst e1
  have eo' : lrangeS d = some pr := eo
  cases d with
  | int j =>
    have eo2 : (if j ≤ LIM ∧ -(2 ^ 62) ≤ j then some (PR.new ((List.range j.toNat).map fun k : Nat => .int (k : Int))) else none) = some pr := eo'
    split at eo2
    · rename_i hj
      cases eo2
      have hL : j ≤ 16777216 := hj.1
      have ev : rgV 0 j = (List.range j.toNat).map fun k : Nat => V.int (k : Int) := by
        unfold rgV
        rw [Int.sub_zero]
        refine List.map_congr_left fun i _ => ?_
        rw [Int.zero_add]
      have rvs : ∀ l : List Nat, RVs G Z1 (l.map fun k : Nat => D.int (k : Int)) (l.map fun k : Nat => V.int (k : Int)) := fun l => by
        induction l with
        | nil => rfl
        | cons a l ih => exact ⟨_, _, rfl, rfl, ih⟩
      refine ⟨j, r1, ⟨by omega, by omega, by omega, by omega, by omega⟩, ?_⟩
      rw [ev]
      exact qp.made R1 (rvs _) (by rw [List.length_map, List.length_range]; unfold LIM; omega)
    · cases eo2
  | _ => cases eo'
theorem negA_inv {x : Expr} {xs : List Expr} (h : negA x = some xs) : ∃ a p, x = .UnaryOp .USub a p ∧ xs = [a] := by
  unfold negA at h
  split at h <;> cases h
  exact ⟨_, _, rfl, rfl⟩
theorem isbA_inv {b : Bool} {x : Expr} {xs : List Expr} (h : isbA b x = some xs) : ∃ a j q p, x = .Compare a [.Is] [.Constant (.bool b) j q] p ∧ xs = [a] := by
  unfold isbA at h
  split at h
  · split at h
    · rename_i e; cases h; subst e; exact ⟨_, _, _, _, rfl, rfl⟩
    · cases h
  · cases h
theorem idxA_inv {x : Expr} {xs : List Expr} (h : idxA x = some xs) : ∃ a b p, x = .Subscript a b p ∧ xs = [a, b] ∧ noSlice b = true := by
  unfold idxA at h
  split at h
  · split at h
    · rename_i e; cases h; exact ⟨_, _, _, rfl, rfl, e⟩
    · cases h
  · cases h
theorem slc00_inv {x : Expr} {xs : List Expr} (h : slc00 x = some xs) : ∃ a p q, x = .Subscript a (.Slice none none none p) q ∧ xs = [a] := by
  unfold slc00 at h
  split at h <;> cases h
  exact ⟨_, _, _, rfl, rfl⟩
theorem slc10_inv {x : Expr} {xs : List Expr} (h : slc10 x = some xs) : ∃ a b p q, x = .Subscript a (.Slice (some b) none none p) q ∧ xs = [a, b] := by
  unfold slc10 at h
  split at h <;> cases h
  exact ⟨_, _, _, _, rfl, rfl⟩
theorem slc01_inv {x : Expr} {xs : List Expr} (h : slc01 x = some xs) : ∃ a b p q, x = .Subscript a (.Slice none (some b) none p) q ∧ xs = [a, b] := by
  unfold slc01 at h
  split at h <;> cases h
  exact ⟨_, _, _, _, rfl, rfl⟩
theorem slc11_inv {x : Expr} {xs : List Expr} (h : slc11 x = some xs) : ∃ a b c p q, x = .Subscript a (.Slice (some b) (some c) none p) q ∧ xs = [a, b, c] := by
  unfold slc11 at h
  split at h <;> cases h
  exact ⟨_, _, _, _, _, rfl, rfl⟩
theorem revA_inv {x : Expr} {xs : List Expr} (h : revA x = some xs) : ∃ a j p1 p2 p3 p, x = .Subscript a (.Slice none none (some (.UnaryOp .USub (.Constant (.int 1) j p1) p2)) p3) p ∧ xs = [a] := by
  unfold revA at h
  split at h <;> cases h
  exact ⟨_, _, _, _, _, _, rfl, rfl⟩
theorem isiA_inv {ts : List Ty} {x : Expr} {xs : List Expr} (h : isiA T n ts x = some xs) : ∃ a t, callB T n "isinstance" x = some [a, t] ∧ tyArg T n t ts = true ∧ xs = [a] := by
  unfold isiA at h
  split at h
  · split at h
    · cases h; exact ⟨_, _, by assumption, by assumption, rfl⟩
    · cases h
  · cases h
theorem tupA_inv {x : Expr} {xs : List Expr} (h : tupA x = some xs) : ∃ j p, x = .Tuple xs j p ∧ xs.length ≤ 10000 := by
  unfold tupA at h
  split at h
  · split at h
    · rename_i q; cases h; exact ⟨_, _, rfl, q.2⟩
    · cases h
  · cases h
theorem lstA_inv {x : Expr} {xs : List Expr} (h : lstA x = some xs) : ∃ p, x = .List xs p ∧ xs.length ≤ 10000 := by
  unfold lstA at h
  split at h
  · split at h
    · rename_i q; cases h; exact ⟨_, rfl, q.2⟩
    · cases h
  · cases h
theorem eA_len : ∀ {es : CE} {xs : List Expr} {ρ : Ro} {μ μ' : Mu} {ds : List D}, Its G C cl W X es xs → eA C cl es ρ μ = .ok ds μ' → ds.length = xs.length
  | .nil, xs, ρ, μ, μ', ds, h, e => by
    have e1 : xs = [] := h
    cases e
    rw [e1]; rfl
  | .cons a r, xs, ρ, μ, μ', ds, h, e => by
    obtain ⟨x, s, rfl, _, _, q⟩ := h
    have e' : ((eE C cl a ρ μ).bind fun d μ1 => (eA C cl r ρ μ1).bind fun ds μ2 => .ok (d :: ds) μ2) = .ok ds μ' := e
    cases e1 : eE C cl a ρ μ with
    | err => rw [e1] at e'; cases e'
    | exc c v μ1 => rw [e1] at e'; cases e'
    | ok d μ1 =>
      rw [e1] at e'
      have e2' : ((eA C cl r ρ μ1).bind fun ds μ2 => Res.ok (d :: ds) μ2) = .ok ds μ' := e'
      cases e2 : eA C cl r ρ μ1 with
      | err => rw [e2] at e2'; cases e2'
      | exc c v μ1 => rw [e2] at e2'; cases e2'
      | ok es μ2 =>
        rw [e2] at e2'
        cases e2'
        rw [List.length_cons, List.length_cons, eA_len q e2]
  | .con _, _, _, _, _, _, h, _ => h.elim
  | .v _, _, _, _, _, _, h, _ => h.elim
  | .fnv _, _, _, _, _, _, h, _ => h.elim
  | .op _ _, _, _, _, _, _, h, _ => h.elim
  | .mop _ _ _, _, _, _, _, _, h, _ => h.elim
  | .not_ _, _, _, _, _, _, h, _ => h.elim
  | .and_ _ _, _, _, _, _, _, h, _ => h.elim
  | .or_ _ _, _, _, _, _, _, h, _ => h.elim
  | .chain _ _ _ _ _, _, _, _, _, _, h, _ => h.elim
  | .ite _ _ _, _, _, _, _, _, h, _ => h.elim
  | .cell _, _, _, _, _, _, h, _ => h.elim
  | .call _ _ _, _, _, _, _, _, h, _ => h.elim
  | .callv _ _, _, _, _, _, _, h, _ => h.elim
  | .mk _ _, _, _, _, _, _, h, _ => h.elim
  | .comp _ _ _ _, _, _, _, _, _, h, _ => h.elim
  | .comp2 _ _ _ _ _ _, _, _, _, _, _, h, _ => h.elim
  | .iseq _, _, _, _, _, _, h, _ => h.elim
  | .irng1 _, _, _, _, _, _, h, _ => h.elim
  | .irng2 _ _, _, _, _, _, _, h, _ => h.elim
  | .irng3 _ _ _, _, _, _, _, _, h, _ => h.elim
  | .izip _ _ _, _, _, _, _, _, h, _ => h.elim
  | .ienum _, _, _, _, _, _, h, _ => h.elim
theorem opL {o : Op} {es : CE} {xs : List Expr} {Q : VK} (hi : Its G C cl W X es xs) (h : tP G W (eO C cl o es) σ H Q) : tA G W (eA C cl es) σ H fun vs H1 => vs.length = xs.length ∧ rO G C o vs H1 Q := by
  obtain ⟨Z, ρ, μ, A, h⟩ := h
  refine ⟨Z, ρ, μ, A, ?_⟩
  have h' : PstP G W σ Z ((eA C cl es ρ μ).bind fun vs μ1 => lift (opS C μ1 o vs) μ1) Q := h
  cases e : eA C cl es ρ μ with
  | err => rw [e] at h'; exact h'
  | exc c v μ1 => rw [e] at h'; exact h'
  | ok ds μ1 =>
    rw [e] at h'
    intro vs Z1 X1 R1 r1
    obtain ⟨pr, eo, q⟩ := pst_lift (show PstP G W σ Z (lift (opS C μ1 o ds) μ1) Q from h')
    exact ⟨by rw [← r1.length]; exact eA_len hi e, Z1, μ1, ds, pr, rfl, R1, r1, eo, PrP.base q X1⟩
theorem attrA_inv {x : Expr} {xs : List Expr} (h : attrA x = some xs) : ∃ a p, x = .Attribute a "value" p ∧ xs = [a] ∧ plainBase a = true := by
  unfold attrA at h
  split at h
  · split at h
    · rename_i e; cases h; obtain ⟨e1, e2⟩ := e; subst e1; exact ⟨_, _, rfl, rfl, e2⟩
    · cases h
  · cases h
theorem bitA_inv {x : Expr} {xs : List Expr} (h : bitA x = some xs) : ∃ a, callM "bit_length" x = some (a, []) ∧ xs = [a] := by
  unfold bitA at h
  split at h
  · cases h; exact ⟨_, by assumption, rfl⟩
  · cases h
theorem scA_inv {s : Str} {x : Expr} {xs : List Expr} (h : scA s x = some xs) : ∃ a j q, callM "count" x = some (a, [.Constant (.str s) j q]) ∧ xs = [a] := by
  unfold scA at h
  split at h
  · split at h
    · rename_i e; subst e; cases h; exact ⟨_, _, _, by assumption, rfl⟩
    · cases h
  · cases h
/-- a slice's parts -/
theorem k_slc (c : CxE G C T cl n W k X) {Z : Wd} {x : V} {Q : VK} {μ : Mu} {d : D} {lo hi : Option Int} {pr : PR} (R : Rel G Z μ) (r : RV G Z d x) (e : slcS μ d lo hi = some pr) (q : PrP G Z μ pr Q) : rSl G () x lo hi Z.H Q := ⟨Z, μ, d, pr, rfl, R, r, e, q⟩
theorem tE_mono {m : Ro → Mu → Res D} (σ : L2.St) (H : Hp) (Q Q' : VK) (h : ∀ x H, Q x H → Q' x H) (q : tE G W m σ H Q) : tE G W m σ H Q' := by
  obtain ⟨Z, ρ, μ, A, q⟩ := q
  exact ⟨Z, ρ, μ, A, Pst.mono q h⟩
theorem k_bits {e : Expr} {te : TE} {pos apos : Pos} (he : PE X e te) (hm : ∀ σ H (Q Q' : VK), (∀ x H, Q x H → Q' x H) → te σ H Q → te σ H Q') (hb : attributeBase e "bit_length" X.env (eval e X.env) = eval e X.env) (hl : (apos.endLine == pos.line) = true) :
    PE X (.Call (.Attribute e "bit_length" apos) [] [] pos) (fun σ H Q => te σ H fun x H1 => rO G C .bitlen [x] H1 Q) := by
  refine pe_mono (pe_bits he hb hl) fun σ H Q q => hm σ H _ _ (fun x H1 z => ?_) q
  obtain ⟨Z, μ, ds, pr, e, R, rv, eo, q⟩ := z
  subst e
  obtain ⟨d, rfl, r1⟩ := rv.one_inv
  have eb : bitS d = some pr := eo
  cases d with
  | int i =>
    cases eb
    refine ⟨i, r1, ?_⟩
    rw [ibits_eq]
    exact q.here R rfl
  | _ => cases eb
theorem k_scnt {e : Expr} {te : TE} {pos apos q : Pos} {j : Nat} {t : Str} (he : PE X e te) (hm : ∀ σ H (Q Q' : VK), (∀ x H, Q x H → Q' x H) → te σ H Q → te σ H Q') (hb : attributeBase e "count" X.env (eval e X.env) = eval e X.env) (hl : (apos.endLine == pos.line) = true) :
    PE X (.Call (.Attribute e "count" apos) [.Constant (.str t) j q] [] pos) (fun σ H Q => te σ H fun x H1 => rO G C (.scnt t) [x] H1 Q) := by
  refine pe_mono (pe_bm PySem.F.plainAttrs_str PySem.F.slot_str_count PySem.F.type_str_count mt_count he (pa_cons pe_str pa_nil) hb rfl hl) fun σ H Q q => hm σ H _ _ (fun x H1 z => ?_) q
  obtain ⟨Z, μ, ds, pr, e, R, rv, eo, q⟩ := z
  subst e
  obtain ⟨d, rfl, r1⟩ := rv.one_inv
  have eb : scntS t d = some pr := eo
  cases d with
  | str a =>
    cases eb
    have ex : x = .str a := r1
    subst ex
    exact ⟨rfl, a, t, rfl, rfl, q.here R rfl⟩
  | _ => cases eb
/-- an operator in the program's text -/
theorem k_op (c : CxE G C T cl n W k X) {o : Op} {es : CE} {x : Expr} {xs : List Expr} (h : opArgs T n o x = some xs) (hi : Its G C cl W X es xs) : PE X x (tP G W (eO C cl o es)) := by
  have hK := c.K
  have hu := c.room.units
  have hu0 := c.room.units0
  have un := c.room.un
  have hc := c.calm
  cases o with
  | add => exact k_bin c (o_add hK) h hi
  | sub => exact k_bin c o_sub h hi
  | mul => exact k_bin c o_mul h hi
  | fdiv => exact k_bin c o_fdiv h hi
  | mod => exact k_bin c o_mod h hi
  | pow => exact k_bin c o_pow h hi
  | neg =>
    obtain ⟨a, p, rfl, rfl⟩ := negA_inv h
    obtain ⟨e, rfl, hs, p1⟩ := its1 hi
    exact pe_mono (pe_un o_neg p1) fun σ H Q q => op1 q
  | eq => exact (k_cmp c (o_eq hK hu) h hi).1
  | ne => exact (k_cmp c (o_ne hK hu) h hi).1
  | lt => exact (k_cmp c (o_lt hK hu0) h hi).1
  | le => exact (k_cmp c o_le h hi).1
  | gt => exact (k_cmp c o_gt h hi).1
  | ge => exact (k_cmp c o_ge h hi).1
  | isn =>
    obtain ⟨a, j, q, p, rfl, rfl⟩ := cmpN_inv h
    obtain ⟨e, rfl, hs, p1⟩ := its1 hi
    exact (k_cmp1 c o_isn pe_non rfl p1).1
  | notn =>
    obtain ⟨a, j, q, p, rfl, rfl⟩ := cmpN_inv h
    obtain ⟨e, rfl, hs, p1⟩ := its1 hi
    exact (k_cmp1 c o_notn pe_non rfl p1).1
  | isb b =>
    obtain ⟨a, j, q, p, rfl, rfl⟩ := isbA_inv h
    obtain ⟨e, rfl, hs, p1⟩ := its1 hi
    exact (k_cmp1 c (o_isb _) pe_bl rfl p1).1
  | in_ => exact (k_cmp c (o_in hK (by omega)) h hi).1
  | notin => exact (k_cmp c (o_notin hK (by omega)) h hi).1
  | idx =>
    obtain ⟨a, b, p, rfl, rfl, hb⟩ := idxA_inv h
    obtain ⟨e, f, rfl, _, _, p1, p2⟩ := its2 hi
    refine pe_mono (pe_ix (o_idx hK) p1 p2 ?_) fun σ H Q q => op2 q
    intro o i
    cases b <;> first | rfl | cases hb
  | slc lo hi' =>
    cases lo <;> cases hi'
    · obtain ⟨a, p, q, rfl, rfl⟩ := slc00_inv h
      obtain ⟨e, rfl, hs, p1⟩ := its1 hi
      refine pe_mono (pe_slice (o_slc hK) p1 po_none po_none) fun σ H Q q => ?_
      obtain ⟨Z, ρ, μ, A, q1⟩ := op1 q
      refine ⟨Z, ρ, μ, A, Pst.mono q1 fun v H1 ⟨Z1, μ1, ds, pr, e1, R1, rv, eo, qp⟩ => ?_⟩
      obtain ⟨d, rfl, r1⟩ := rv.one_inv
      exact ⟨Z1, μ1, d, pr, e1, R1, r1, eo, qp⟩
    · obtain ⟨a, b, p, q, rfl, rfl⟩ := slc01_inv h
      obtain ⟨e, f, rfl, _, _, p1, p2⟩ := its2 hi
      refine pe_mono (pe_slice (o_slc hK) p1 po_none (po_some p2)) fun σ H Q q => ?_
      refine tE_mono σ H _ _ (fun v H1 q1 => ?_) (op2 q)
      refine tE_mono σ H1 _ _ (fun w H2 ⟨Z1, μ1, ds, pr, e1, R1, rv, eo, qp⟩ => ?_) q1
      obtain ⟨d, d2, rfl, r1, r2⟩ := rv.two_inv
      obtain ⟨i, hi, eo⟩ := Option.bind_eq_some_iff.mp (show (asInt d2).bind (fun i => slcS μ1 d none (some i)) = some pr from eo)
      have e2 := asInt_some hi
      subst e2
      exact ⟨i, r2, Z1, μ1, d, pr, e1, R1, r1, eo, qp⟩
    · obtain ⟨a, b, p, q, rfl, rfl⟩ := slc10_inv h
      obtain ⟨e, f, rfl, _, _, p1, p2⟩ := its2 hi
      refine pe_mono (pe_slice (o_slc hK) p1 (po_some p2) po_none) fun σ H Q q => ?_
      refine tE_mono σ H _ _ (fun v H1 q1 => ?_) (op2 q)
      refine tE_mono σ H1 _ _ (fun w H2 ⟨Z1, μ1, ds, pr, e1, R1, rv, eo, qp⟩ => ?_) q1
      obtain ⟨d, d2, rfl, r1, r2⟩ := rv.two_inv
      obtain ⟨i, hi, eo⟩ := Option.bind_eq_some_iff.mp (show (asInt d2).bind (fun i => slcS μ1 d (some i) none) = some pr from eo)
      have e2 := asInt_some hi
      subst e2
      exact ⟨i, r2, Z1, μ1, d, pr, e1, R1, r1, eo, qp⟩
    · cases h
  | rev =>
    obtain ⟨a, j, p1, p2, p3, p, rfl, rfl⟩ := revA_inv h
    obtain ⟨e, rfl, hs, pe⟩ := its1 hi
    exact pe_mono (p_rev hK pe tE_mono) fun σ H Q q => op1 q
  | len => exact k_call1 c (o_len hK) b_len h (fun _ => rfl) (fun _ _ _ _ => rfl) hi
  | abs => exact k_call1 c o_abs b_abs h (fun _ => rfl) (fun _ _ _ _ => rfl) hi
  | int_ => exact k_callT1 c o_int_ b_int h (fun _ => rfl) (fun _ _ _ _ => rfl) hi
  | bool_ => exact k_callT1 c o_bool_ b_bool h (fun _ => rfl) (fun _ _ _ _ => rfl) hi
  | repr => exact k_call1 c (o_repr hK (by rw [hK]; exact c.wk.sys) c.gd (by omega)) b_repr h (fun _ => rfl) (fun _ _ _ _ => rfl) hi
  | max2 => exact k_call2 c (o_max2 hc) b_max h (fun _ => rfl) (fun _ _ => rfl) (fun _ _ _ _ _ => rfl) hi
  | min2 => exact k_call2 c (o_min2 hc) b_min h (fun _ => rfl) (fun _ _ => rfl) (fun _ _ _ _ _ => rfl) hi
  | sum1 => exact k_call1 c (o_sum1 hK hc) b_sum h (fun _ => rfl) (fun _ _ _ _ => rfl) hi
  | sum2 => exact k_call2 c (o_sum2 hc) b_sum h (fun _ => rfl) (fun _ _ => rfl) (fun _ _ _ _ _ => rfl) hi
  | lrange => exact k_lrange c h hi
  | sorted => exact k_call1 c (o_sorted hK) b_sorted h (fun _ => rfl) (fun _ _ _ _ => rfl) hi
  | all => exact k_call1 c (o_all hK hc) b_all h (fun _ => rfl) (fun _ _ _ _ => rfl) hi
  | any => exact k_call1 c (o_any hK hc) b_any h (fun _ => rfl) (fun _ _ _ _ => rfl) hi
  | list => exact k_callT1 c (o_list hK) b_list h (fun _ => rfl) (fun _ _ _ _ => rfl) hi
  | tuple => exact k_callT1 c (o_tuple hK) b_tuple h (fun _ => rfl) (fun _ _ _ _ => rfl) hi
  | isi ts =>
    obtain ⟨a, t, h1, h2, rfl⟩ := isiA_inv h
    exact k_isi c h1 h2 hi
  | tup =>
    obtain ⟨j, p, rfl, hz⟩ := tupA_inv h
    refine pe_mono (pe_tup (its_pa hi)) fun σ H Q q => ?_
    obtain ⟨Z, ρ, μ, A, q1⟩ := opL hi q
    refine ⟨Z, ρ, μ, A, Pst.mono q1 fun vs H1 q2 => ?_⟩
    obtain ⟨hl, Z1, μ1, ds, pr, e1, R1, rv, eo, qp⟩ := q2
    cases eo
    subst e1
    have hz' : vs.length ≤ LIM := by unfold LIM; omega
    refine ⟨by rw [← LIM_eq]; exact hz', fun p hp => ?_⟩
    exact qp _ (Z1.lay p (.tup vs)) (Ext.lay hp) (R1.lay hp) ⟨p, vs, rfl, .of upd_same, by rw [rv.length]; exact hz', RVs.ext (Ext.lay hp) R1 _ _ rv⟩
  | lst =>
    obtain ⟨p, rfl, hz⟩ := lstA_inv h
    refine pe_mono (pe_lst (its_pa hi)) fun σ H Q q => ?_
    obtain ⟨Z, ρ, μ, A, q1⟩ := opL hi q
    refine ⟨Z, ρ, μ, A, Pst.mono q1 fun vs H1 q2 => ?_⟩
    obtain ⟨hl, Z1, μ1, ds, pr, e1, R1, rv, eo, qp⟩ := q2
    cases eo
    subst e1
    have hz' : vs.length ≤ LIM := by unfold LIM; omega
    exact ⟨by rw [← LIM_eq]; exact hz', qp.made R1 rv (by rw [rv.length]; exact hz')⟩
  | attr =>
    obtain ⟨a, p, rfl, rfl, hb⟩ := attrA_inv h
    obtain ⟨e, rfl, hs, pe⟩ := its1 hi
    exact pe_mono (p_value hK c.wk.gf pe (plainBase_of hb)) fun σ H Q q => op1 q
  | bitlen =>
    obtain ⟨a, h1, rfl⟩ := bitA_inv h
    obtain ⟨ap, pos, rfl, _, hb, hl, _⟩ := callM_inv h1
    obtain ⟨e, rfl, hs, pe⟩ := its1 hi
    exact pe_mono (k_bits pe tE_mono (plainBase_of hb) (by rw [hl]; exact beq_self_eq_true _)) fun σ H Q q => op1 q
  | scnt t =>
    obtain ⟨a, j, q0, h1, rfl⟩ := scA_inv h
    obtain ⟨ap, pos, rfl, _, hb, hl, _⟩ := callM_inv h1
    obtain ⟨e, rfl, hs, pe⟩ := its1 hi
    exact pe_mono (k_scnt pe tE_mono (plainBase_of hb) (by rw [hl]; exact beq_self_eq_true _)) fun σ H Q q => op1 q
  | _ => cases h
end
end PyE
set_option maxRecDepth 100000
set_option maxHeartbeats 4000000
/-! tests -/
namespace PyE
open PySem PySem.Spec PyProof.Rows L2
section
variable {G : Gi} {C : Cfg} {T : Tb} {cl : Cl} {n : En} {W : WX} {k : Nat} {X : Cx} {σ : L2.St} {H : Hp}
theorem k_test (c : CxE G C T cl n W k X) {o : Op} {es : CE} {x : Expr} {xs : List Expr} (h : opArgs T n o x = some xs) (hx : isCmp x = true) (hi : Its G C cl W X es xs) :
    PT X x (tTest (tP G W (eO C cl o es))) ∧ ∀ μ ds pr, opS C μ o ds = some pr → ∃ b, pr = .v (.bl b) := by
  have hK := c.K
  have hu := c.room.units
  have hu0 := c.room.units0
  have un := c.room.un
  have two : ∀ {μ : Mu} {ds : List D} {pr : PR} {g : D → D → Option PR}, (∀ ds, opS C μ o ds = (match ds with | [x, y] => g x y | _ => none)) → (∀ x y pr, g x y = some pr → ∃ b, pr = .v (.bl b)) → opS C μ o ds = some pr → ∃ b, pr = .v (.bl b) := fun {μ ds pr g} h1 h2 h3 => by
    rw [h1] at h3
    split at h3
    · exact h2 _ _ _ h3
    · cases h3
  have map2 : ∀ {a : Option Bool} {f : Bool → Bool} {pr : PR}, a.map (fun b => PR.v (.bl (f b))) = some pr → ∃ b, pr = .v (.bl b) := fun {a f pr} e => by
    obtain ⟨b, _, rfl⟩ := Option.map_eq_some_iff.mp e
    exact ⟨_, rfl⟩
  have int2 : ∀ {f : Int → Int → Bool} {x y : D} {pr : PR}, intO (fun i j => some (.v (.bl (f i j)))) x y = some pr → ∃ b, pr = .v (.bl b) := fun {f x y pr} e => by
    unfold intO at e
    split at e
    · cases e; exact ⟨_, rfl⟩
    · cases e
  cases o with
  | eq => exact ⟨(k_cmp c (o_eq hK hu) h hi).2, fun μ ds pr e => by
      cases ds with | nil => cases e | cons a r => cases r with | nil => cases e | cons b r => cases r with | nil => exact map2 (f := id) e | cons _ _ => cases e⟩
  | ne => exact ⟨(k_cmp c (o_ne hK hu) h hi).2, fun μ ds pr e => by
      cases ds with | nil => cases e | cons a r => cases r with | nil => cases e | cons b r => cases r with | nil => exact map2 (f := Bool.not) e | cons _ _ => cases e⟩
  | lt => exact ⟨(k_cmp c (o_lt hK hu0) h hi).2, fun μ ds pr e => by
      cases ds with | nil => cases e | cons a r => cases r with | nil => cases e | cons b r => cases r with
        | nil =>
          have e' : ltS a b = some pr := e
          unfold ltS at e'
          split at e'
          · cases e'; exact ⟨_, rfl⟩
          · obtain ⟨_, _, e'⟩ := Option.bind_eq_some_iff.mp e'
            obtain ⟨_, _, rfl⟩ := Option.map_eq_some_iff.mp e'
            exact ⟨_, rfl⟩
          · cases e'
        | cons _ _ => cases e⟩
  | le => exact ⟨(k_cmp c o_le h hi).2, fun μ ds pr e => by
      cases ds with | nil => cases e | cons a r => cases r with | nil => cases e | cons b r => cases r with | nil => exact int2 e | cons _ _ => cases e⟩
  | gt => exact ⟨(k_cmp c o_gt h hi).2, fun μ ds pr e => by
      cases ds with | nil => cases e | cons a r => cases r with | nil => cases e | cons b r => cases r with | nil => exact int2 e | cons _ _ => cases e⟩
  | ge => exact ⟨(k_cmp c o_ge h hi).2, fun μ ds pr e => by
      cases ds with | nil => cases e | cons a r => cases r with | nil => cases e | cons b r => cases r with | nil => exact int2 e | cons _ _ => cases e⟩
  | isn =>
    obtain ⟨a, j, q, p, rfl, rfl⟩ := cmpN_inv h
    obtain ⟨e, rfl, hs, p1⟩ := its1 hi
    exact ⟨(k_cmp1 c o_isn pe_non rfl p1).2, fun μ ds pr e => by
      cases ds with | nil => cases e | cons a r => cases r with | nil => cases e; exact ⟨_, rfl⟩ | cons _ _ => cases e⟩
  | notn =>
    obtain ⟨a, j, q, p, rfl, rfl⟩ := cmpN_inv h
    obtain ⟨e, rfl, hs, p1⟩ := its1 hi
    exact ⟨(k_cmp1 c o_notn pe_non rfl p1).2, fun μ ds pr e => by
      cases ds with | nil => cases e | cons a r => cases r with | nil => cases e; exact ⟨_, rfl⟩ | cons _ _ => cases e⟩
  | isb b =>
    obtain ⟨a, j, q, p, rfl, rfl⟩ := isbA_inv h
    obtain ⟨e, rfl, hs, p1⟩ := its1 hi
    exact ⟨(k_cmp1 c (o_isb _) pe_bl rfl p1).2, fun μ ds pr e => by
      cases ds with | nil => cases e | cons a r => cases r with | nil => cases e; exact ⟨_, rfl⟩ | cons _ _ => cases e⟩
  | in_ => exact ⟨(k_cmp c (o_in hK (by omega)) h hi).2, fun μ ds pr e => by
      cases ds with | nil => cases e | cons a r => cases r with | nil => cases e | cons b r => cases r with | nil => exact map2 (f := id) e | cons _ _ => cases e⟩
  | notin => exact ⟨(k_cmp c (o_notin hK (by omega)) h hi).2, fun μ ds pr e => by
      cases ds with | nil => cases e | cons a r => cases r with | nil => cases e | cons b r => cases r with | nil => exact map2 (f := Bool.not) e | cons _ _ => cases e⟩
  | add => obtain ⟨_, _, _, rfl, _⟩ := binA_inv h; cases hx
  | sub => obtain ⟨_, _, _, rfl, _⟩ := binA_inv h; cases hx
  | mul => obtain ⟨_, _, _, rfl, _⟩ := binA_inv h; cases hx
  | fdiv => obtain ⟨_, _, _, rfl, _⟩ := binA_inv h; cases hx
  | mod => obtain ⟨_, _, _, rfl, _⟩ := binA_inv h; cases hx
  | pow => obtain ⟨_, _, _, rfl, _⟩ := binA_inv h; cases hx
  | neg => obtain ⟨_, _, rfl, _⟩ := negA_inv h; cases hx
  | idx => obtain ⟨_, _, _, rfl, _⟩ := idxA_inv h; cases hx
  | slc a b =>
    cases a <;> cases b
    · obtain ⟨_, _, _, rfl, _⟩ := slc00_inv h; cases hx
    · obtain ⟨_, _, _, _, rfl, _⟩ := slc01_inv h; cases hx
    · obtain ⟨_, _, _, _, rfl, _⟩ := slc10_inv h; cases hx
    · cases h
  | rev => obtain ⟨_, _, _, _, _, _, rfl, _⟩ := revA_inv h; cases hx
  | len => obtain ⟨_, _, rfl, _⟩ := callB_inv (callN_inv h).1; cases hx
  | abs => obtain ⟨_, _, rfl, _⟩ := callB_inv (callN_inv h).1; cases hx
  | int_ => obtain ⟨_, _, rfl, _⟩ := callB_inv (callN_inv h).1; cases hx
  | bool_ => obtain ⟨_, _, rfl, _⟩ := callB_inv (callN_inv h).1; cases hx
  | repr => obtain ⟨_, _, rfl, _⟩ := callB_inv (callN_inv h).1; cases hx
  | max2 => obtain ⟨_, _, rfl, _⟩ := callB_inv (callN_inv h).1; cases hx
  | min2 => obtain ⟨_, _, rfl, _⟩ := callB_inv (callN_inv h).1; cases hx
  | sum1 => obtain ⟨_, _, rfl, _⟩ := callB_inv (callN_inv h).1; cases hx
  | lrange => obtain ⟨_, h1, _⟩ := lrA_inv h; obtain ⟨_, _, rfl, _⟩ := callB_inv (callN_inv h1).1; cases hx
  | sum2 => obtain ⟨_, _, rfl, _⟩ := callB_inv (callN_inv h).1; cases hx
  | sorted => obtain ⟨_, _, rfl, _⟩ := callB_inv (callN_inv h).1; cases hx
  | all => obtain ⟨_, _, rfl, _⟩ := callB_inv (callN_inv h).1; cases hx
  | any => obtain ⟨_, _, rfl, _⟩ := callB_inv (callN_inv h).1; cases hx
  | list => obtain ⟨_, _, rfl, _⟩ := callB_inv (callN_inv h).1; cases hx
  | tuple => obtain ⟨_, _, rfl, _⟩ := callB_inv (callN_inv h).1; cases hx
  | isi ts =>
    obtain ⟨_, _, h1, _⟩ := isiA_inv h
    obtain ⟨_, _, rfl, _⟩ := callB_inv h1
    cases hx
  | tup => obtain ⟨_, _, rfl, _⟩ := tupA_inv h; cases hx
  | lst => obtain ⟨_, rfl, _⟩ := lstA_inv h; cases hx
  | attr => obtain ⟨_, _, rfl, _⟩ := attrA_inv h; cases hx
  | bitlen =>
    obtain ⟨_, h1, _⟩ := bitA_inv h
    obtain ⟨_, _, rfl, _⟩ := callM_inv h1
    cases hx
  | scnt t =>
    obtain ⟨_, _, _, h1, _⟩ := scA_inv h
    obtain ⟨_, _, rfl, _⟩ := callM_inv h1
    cases hx
  | _ => cases h

/-! ### truth -/
theorem tru_of (hK : X.K = G.K) {Z : Wd} {μ : Mu} (R : Rel G Z μ) {d : D} {v : V} {b : Bool} (h : truth μ d = some b) (r : RV G Z d v) : TruV X.K v Z.H b := by
  have em : ∀ {xs : List D} {vs : List V}, RVs G Z xs vs → (!xs.isEmpty) = !vs.isEmpty := fun {xs vs} q => by
    cases xs with
    | nil => rw [show vs = [] from q]; rfl
    | cons _ _ => obtain ⟨_, _, rfl, _⟩ := q; rfl
  cases d with
  | none => cases h; rw [show v = V.non from r]; rfl
  | bl y => have r' : v = V.bl y := r; subst r'; exact (Option.some.inj h).symm
  | int y => have r' : v = V.int y := r; subst r'; exact (Option.some.inj h).symm
  | str y =>
    rw [show v = V.str y from r]
    have h' : (if y.length ≤ LIM then some (y.length != 0) else none) = some b := h
    split at h'
    · rename_i hz
      refine ⟨by rw [← LIM_eq]; exact hz, ?_⟩
      rw [← Option.some.inj h']
      cases e : y.length with
      | zero => rfl
      | succ q => rfl
    · cases h'
  | tup xs =>
    cases h
    obtain ⟨a, vs, rfl, q, _, qr⟩ := r
    exact .inr (.inl ⟨vs, by rw [hK]; exact q, em qr⟩)
  | lst xs =>
    cases h
    obtain ⟨a, vs, rfl, _, q, _, qr⟩ := r
    exact .inl ⟨vs, by rw [hK]; exact .of q, em qr⟩
  | ref m =>
    obtain ⟨xs, hx, e⟩ := Option.map_eq_some_iff.mp (show (μ[m]?).map (fun xs => !xs.isEmpty) = some b from h)
    obtain ⟨a, ea, rfl⟩ := r
    obtain ⟨vs, q, qr, _⟩ := R.cell m a xs ea hx
    exact .inl ⟨vs, by rw [hK]; exact .of q, by rw [← e]; exact em qr⟩
  | _ => cases h
/-- a value as a test -/
noncomputable def eTr (C : Cfg) (cl : Cl) (c : CE) (ρ : Ro) (μ : Mu) : Res Bool := (eE C cl c ρ μ).bind fun d μ1 => lift (truth μ1 d) μ1
def plainT : Expr → Bool
  | .UnaryOp .Not _ _ => false
  | .BoolOp _ _ _ => false
  | .IfExp _ _ _ _ => false
  | .Compare _ _ _ _ => false
  | _ => true
theorem isTrue_plain {x : Expr} {env : Env} (h : plainT x = true) (whole : Sem Value) : isTrue x env whole = (do let v ← whole; standAt x.pos; holding [v] (truthy v)) := by
  cases x <;> first | rfl | (cases h; done) | skip
  rename_i op _ _
  cases op <;> first | rfl | cases h
theorem t_plain (hK : X.K = G.K) {c : CE} {x : Expr} (hx : plainT x = true) (p : PE X x (tE G W (eE C cl c))) : PT X x (tT G W (eTr C cl c)) := by
  refine pt_mono (pt_truth p (isTrue_plain hx)) fun σ H Q q => ?_
  obtain ⟨Z, ρ, μ, A, q⟩ := q
  refine ⟨Z, ρ, μ, A, step (like_pst _ Q) (r := eE C cl c ρ μ) A q fun v Z1 μ1 d A1 X1 r1 h1 => ?_⟩
  obtain ⟨b, e, h2⟩ := step_lift (k := fun b μ => .ok b μ) (like_pst (G := G) (W := W) (σ := σ) (fun _ a b => a = b) Q) (μ := μ1) (o := truth μ1 d) (by
    cases e : truth μ1 d with
    | none => rw [e] at h1; exact h1
    | some b => rw [e] at h1; exact h1)
  exact ⟨b, tru_of hK A1.rel e r1, Like.ok (rel := fun _ a b => a = b) h2 A1.rel rfl⟩
theorem t_cmp {o : Op} {es : CE} {x : Expr} (hb : ∀ μ ds pr, opS C μ o ds = some pr → ∃ b, pr = .v (.bl b)) (p : PT X x (tTest (tP G W (eO C cl o es)))) : PT X x (tT G W (eTr C cl (.op o es))) := by
  refine pt_mono p fun σ H Q q => ?_
  obtain ⟨Z, ρ, μ, A, q⟩ := q
  refine ⟨Z, ρ, μ, A, ?_⟩
  have q' : Pst G W σ (fun _ a b => a = b) Z (((eA C cl es ρ μ).bind fun vs μ1 => opR C o vs μ1).bind fun d μ1 => lift (truth μ1 d) μ1) Q := q
  rw [bind_bind] at q'
  show PstP G W σ Z ((eA C cl es ρ μ).bind fun vs μ1 => lift (opS C μ1 o vs) μ1) _
  revert q'
  cases eA C cl es ρ μ with
  | err => exact fun q' => q'
  | exc c v μ1 => exact fun q' => q'
  | ok vs μ1 =>
    intro q'
    have q2 : Pst G W σ (fun _ a b => a = b) Z ((lift ((opS C μ1 o vs).map prD) μ1).bind fun d μ1 => lift (truth μ1 d) μ1) Q := q'
    show PstP G W σ Z (lift (opS C μ1 o vs) μ1) _
    cases e : opS C μ1 o vs with
    | none => rw [e] at q2; exact q2
    | some pr =>
      rw [e] at q2
      obtain ⟨b, rfl⟩ := hb _ _ _ e
      have q3 : ∀ b' Z', Ext Z Z' → Rel G Z' μ1 → b = b' → Q b' Z'.H := q2
      exact fun v Z' x R r => ⟨b, r, q3 b Z' x R rfl⟩
end
end PyE
set_option maxRecDepth 100000
set_option maxHeartbeats 4000000
/-! targets; what is walked -/
namespace PyE
open PySem PySem.Spec PyProof.Rows L2
section
variable {G : Gi} {C : Cfg} {T : Tb} {cl : Cl} {n : En} {W : WX} {k : Nat} {X : Cx} {σ : L2.St} {H : Hp}
/-! ### targets -/
theorem wipe_set {i : Nat} {x : Option V} : ∀ {l : List Nat} {σ : L2.St}, i ∈ l → L2.wipe (σ.set i x) l = L2.wipe σ l
  | j :: l, σ, h => by
    show (L2.wipe (σ.set i x) l).set j none = (L2.wipe σ l).set j none
    by_cases e : i ∈ l
    · rw [wipe_set e]
    · have e1 : i = j := by
        rcases List.mem_cons.mp h with q | q
        · exact q
        · exact absurd q e
      subst e1
      have key : ∀ (l : List Nat) (σ : L2.St), i ∉ l → L2.wipe (σ.set i x) l = (L2.wipe σ l).set i x := by
        intro l
        induction l with
        | nil => intro σ _; rfl
        | cons a r ih =>
          intro σ ha
          show (L2.wipe (σ.set i x) r).set a none = ((L2.wipe σ r).set a none).set i x
          rw [ih σ (fun q => ha (List.mem_cons_of_mem _ q)), List.set_comm _ _ (fun q => ha (by rw [q]; exact List.mem_cons_self))]
      rw [key l σ e, List.set_set]
def gT (G : Gi) (t : Tg) : TG := fun v σ H Q => ∃ Z ρ μ d ρ', At G Z H σ ρ μ ∧ RV G Z d v ∧ setT μ t d ρ = some ρ' ∧ ∀ σ', SE G Z σ' ρ' → (∀ l : List Nat, (∀ i ∈ t.slots, i ∈ l) → L2.wipe σ' l = L2.wipe σ l) → Q σ' H
def gTs (G : Gi) (is : List Nat) : TGs := fun vs σ H Q => ∃ Z ρ μ ds ρ', At G Z H σ ρ μ ∧ RVs G Z ds vs ∧ setAll is ds ρ = some ρ' ∧ ∀ σ', SE G Z σ' ρ' → (∀ l : List Nat, (∀ i ∈ is, i ∈ l) → L2.wipe σ' l = L2.wipe σ l) → Q σ' H
theorem k_tos (c : CxE G C T cl n W k X) : ∀ {es : List Expr} {is : List Nat}, isTos n es is = true → PGs X es (gTs G is) ∧ (assignEach es X.env).length = is.length ∧ (assignEach es X.env).findIdx? (·.1) = none
  | [], [], _ => ⟨⟨fun pins s σ H vs us Q I r ⟨Z, ρ, μ, ds, ρ', A, rv, e, q⟩ => (pgs_nil (X := X)).run pins s σ H vs us Q I r (by
      cases ds with
      | cons d ds => cases e
      | nil =>
        cases e
        exact ⟨rv, q σ A.se fun l _ => rfl⟩)⟩, rfl, rfl⟩
  | .Name x p :: es, i :: is, h => by
    have h' : (isTo n x i && isTos n es is) = true := h
    rw [Bool.and_eq_true] at h'
    obtain ⟨g1, g2, g3⟩ := c.to h'.1
    obtain ⟨p1, p2, p3⟩ := k_tos c h'.2
    refine ⟨⟨fun pins s σ H vs us Q I r ⟨Z, ρ, μ, ds, ρ', A, rv, e, q⟩ => (pgs_cons (pg_name (i := i) (pos := p) (by rw [c.N]; exact c.nd) g1 g2 g3) p1 rfl).run pins s σ H vs us Q I r ?_⟩, by
      show (assignEach es X.env).length + 1 = _
      rw [p2]; rfl, ?_⟩
    · cases ds with
      | nil => cases e
      | cons d ds =>
        obtain ⟨v, t, rfl, r1, r2⟩ := rv
        refine ⟨v, t, rfl, Z, ρ.set i (some d), μ, ds, ρ', ⟨A.hp, A.se.set i r1, A.rel⟩, r2, e, fun σ' s' w => q σ' s' fun l hl => ?_⟩
        rw [w l fun j hj => hl j (List.mem_cons_of_mem _ hj), wipe_set (hl i List.mem_cons_self)]
    · show List.findIdx? (·.1) ((false, assign (.Name x p) X.env) :: assignEach es X.env) = none
      rw [List.findIdx?_cons]
      simp [p3]
  | [], _ :: _, h => by cases h
  | x :: _, [], h => by cases x <;> cases h
  | .BoolOp .. :: _, _ :: _, h => by cases h
  | .NamedExpr .. :: _, _ :: _, h => by cases h
  | .BinOp .. :: _, _ :: _, h => by cases h
  | .UnaryOp .. :: _, _ :: _, h => by cases h
  | .Lambda .. :: _, _ :: _, h => by cases h
  | .IfExp .. :: _, _ :: _, h => by cases h
  | .Dict .. :: _, _ :: _, h => by cases h
  | .Set .. :: _, _ :: _, h => by cases h
  | .ListComp .. :: _, _ :: _, h => by cases h
  | .SetComp .. :: _, _ :: _, h => by cases h
  | .DictComp .. :: _, _ :: _, h => by cases h
  | .GeneratorExp .. :: _, _ :: _, h => by cases h
  | .Await .. :: _, _ :: _, h => by cases h
  | .Yield .. :: _, _ :: _, h => by cases h
  | .YieldFrom .. :: _, _ :: _, h => by cases h
  | .Compare .. :: _, _ :: _, h => by cases h
  | .Call .. :: _, _ :: _, h => by cases h
  | .FormattedValue .. :: _, _ :: _, h => by cases h
  | .JoinedStr .. :: _, _ :: _, h => by cases h
  | .Constant .. :: _, _ :: _, h => by cases h
  | .Attribute .. :: _, _ :: _, h => by cases h
  | .Subscript .. :: _, _ :: _, h => by cases h
  | .Starred .. :: _, _ :: _, h => by cases h
  | .List .. :: _, _ :: _, h => by cases h
  | .Tuple .. :: _, _ :: _, h => by cases h
  | .Slice .. :: _, _ :: _, h => by cases h
theorem ckT_inv {t : Tg} {x : Expr} (h : ckT n t x = true) : (∃ i y p, t = .nm i ∧ x = .Name y p ∧ isTo n y i = true) ∨ ∃ l es j p, t = .tp l ∧ x = .Tuple es j p ∧ isTos n es l = true := by
  unfold ckT at h
  split at h
  · exact .inl ⟨_, _, _, rfl, rfl, h⟩
  · exact .inr ⟨_, _, _, _, rfl, rfl, h⟩
  · cases h
theorem setAll_len : ∀ {l : List Nat} {ds : List D} {ρ ρ' : Ro}, setAll l ds ρ = some ρ' → ds.length = l.length
  | [], [], _, _, _ => rfl
  | _ :: l, _ :: ds, _, _, e => by rw [List.length_cons, List.length_cons, setAll_len (l := l) (ds := ds) e]
  | [], _ :: _, _, _, e => by cases e
  | _ :: _, [], _, _, e => by cases e
theorem k_tg (c : CxE G C T cl n W k X) {t : Tg} {x : Expr} (h : ckT n t x = true) : PG X x (gT G t) := by
  rcases ckT_inv h with ⟨i, y, p, rfl, rfl, h⟩ | ⟨l, es, j, p, rfl, rfl, h⟩
  · obtain ⟨g1, g2, g3⟩ := c.to h
    refine ⟨fun pins s σ H v u Q I r ⟨Z, ρ, μ, d, ρ', A, rv, e, q⟩ => (pg_name (i := i) (pos := p) (by rw [c.N]; exact c.nd) g1 g2 g3).run pins s σ H v u Q I r ?_⟩
    cases e
    exact q _ (A.se.set i rv) fun l hl => wipe_set (hl i (List.mem_singleton.mpr rfl))
  · obtain ⟨p1, p2, p3⟩ := k_tos c h
    refine ⟨fun pins s σ H v u Q I r ⟨Z, ρ, μ, d, ρ', A, rv, e, q⟩ => ?_⟩
    cases d with
    | tup xs =>
      refine (pg_tup (k := j) (pos := p) c.calm p1 p2 p3).run pins s σ H v u Q I r ?_
      obtain ⟨a, vs, rfl, q1, q2, q3⟩ := rv
      have e' : setAll l xs ρ = some ρ' := e
      exact ⟨a, vs, rfl, by rw [c.K, ← A.hp]; exact q1, by rw [← q3.length]; exact setAll_len e', Z, ρ, μ, xs, ρ', A, q3, e', q⟩
    | lst xs =>
      refine (pg_unl (k := j) (pos := p) c.calm p1 p2 p3).run pins s σ H v u Q I r ?_
      obtain ⟨a, vs, rfl, q0, q1, q2, q3⟩ := rv
      have e' : setAll l xs ρ = some ρ' := e
      exact ⟨a, vs, rfl, by rw [c.K, ← A.hp]; exact .inl (.inl q1), by rw [← q3.length]; exact setAll_len e', Z, ρ, μ, xs, ρ', A, q3, e', q⟩
    | _ => cases e

/-! ### what is walked -/
/-- lists that nobody has frozen may have changed -/
structure ExtB (Z Z' : Wd) : Prop where
  pre : Z.th <+: Z'.th
  sub : ∀ a, Z.S a → Z'.S a
  keepN : ∀ a o, Z.H a = some o → (∀ vs, o ≠ .lst vs) → Z'.H a = some o
  keepS : ∀ a o, Z.S a → Z.H a = some o → Z'.H a = some o
theorem Ext.b {Z Z' : Wd} {μ : Mu} (X : Ext Z Z') (R : Rel G Z μ) : ExtB Z Z' := ⟨X.pre, X.sub, fun a o h m => X.keep a o h (R.notCell h m), fun a o s h => X.keep a o h (R.sep a s)⟩
theorem ExtB.trans {Z Z1 Z2 : Wd} (x : ExtB Z Z1) (y : ExtB Z1 Z2) : ExtB Z Z2 := ⟨x.pre.trans y.pre, fun a s => y.sub a (x.sub a s), fun a o h m => y.keepN a o (x.keepN a o h m) m, fun a o s h => y.keepS a o (x.sub a s) (x.keepS a o s h)⟩
theorem ExtB.sqT {Z Z' : Wd} (X : ExtB Z Z') {a : Addr} {vs : List V} (h : SqT G.K Z.H a vs) : SqT G.K Z'.H a vs := by
  rcases h with (h | ⟨o, h⟩) | h
  · exact .inl (.inl (X.keepN _ _ h fun _ q => by cases q))
  · exact .inl (.inr ⟨o, X.keepN _ _ h fun _ q => by cases q⟩)
  · exact .inr h
mutual
theorem RV.extB {Z Z' : Wd} (X : ExtB Z Z') : ∀ (d : D) (v : V), RV G Z d v → RV G Z' d v
  | .none, _, h => h
  | .bl _, _, h => h
  | .int _, _, h => h
  | .str _, _, h => h
  | .fn _, _, h => h
  | .tup ds, v, h => by
    obtain ⟨a, vs, e, q, z, r⟩ := h
    exact ⟨a, vs, e, X.sqT q, z, RVs.extB X ds vs r⟩
  | .lst ds, v, h => by
    obtain ⟨a, vs, e, s, q, z, r⟩ := h
    exact ⟨a, vs, e, X.sub a s, X.keepS _ _ s q, z, RVs.extB X ds vs r⟩
  | .scr xs, v, h => by
    obtain ⟨a, e, q, z⟩ := h
    refine ⟨a, e, ?_, z⟩
    rcases q with ⟨o, q⟩ | q
    · exact .inl ⟨o, X.keepN _ _ q fun _ z => by cases z⟩
    · exact .inr q
  | .ref i, v, h => by
    obtain ⟨a, e, q⟩ := h
    obtain ⟨t, et⟩ := X.pre
    exact ⟨a, by rw [← et, List.getElem?_append_left (List.getElem?_eq_some_iff.mp e).1]; exact e, q⟩
  | .dct, v, h => by
    obtain ⟨a, e, q⟩ := h
    exact ⟨a, e, X.keepN _ _ q fun _ z => by cases z⟩
  | .exc c d, v, h => by
    obtain ⟨kc, a, dd, w, e, q1, q2, r⟩ := h
    exact ⟨kc, a, dd, w, e, X.keepN _ _ q1 fun _ z => (by cases z), X.keepN _ _ q2 fun _ z => (by cases z), RV.extB X d w r⟩
theorem RVs.extB {Z Z' : Wd} (X : ExtB Z Z') : ∀ (ds : List D) (vs : List V), RVs G Z ds vs → RVs G Z' ds vs
  | [], _, h => h
  | d :: ds, vs, h => by
    obtain ⟨v, r, e, h1, h2⟩ := h
    exact ⟨v, r, e, RV.extB X d v h1, RVs.extB X ds r h2⟩
end
/-- the turns of J are the items -/
def SrcOk (G : Gi) (s : Src) (Z : Wd) (μ : Mu) (J : It) : Prop := s.xs.length ≤ LIM ∧ ∀ (i : Nat) (Z2 : Wd) (μ2 : Mu), ExtB Z Z2 → Rel G Z2 μ2 → s.okAt μ2 = true →
  (∀ d, s.xs[i]? = some d → J.go i Z2.H ∧ ∀ x H', J.yld i Z2.H x H' → ∃ Z3, Z3.H = H' ∧ Ext Z2 Z3 ∧ Rel G Z3 μ2 ∧ RV G Z3 d x) ∧ (s.xs.length ≤ i → J.stop i Z2.H)
def PstI (G : Gi) (W : WX) (σ : L2.St) (Z : Wd) (r : Res Src) (R : It → Hp → Prop) : Prop := match r with
  | .ok s μ' => ∀ J Z', Ext Z Z' → Rel G Z' μ' → SrcOk G s Z' μ' J → R J Z'.H
  | .exc c d μ' => ExP G W σ Z c d μ'
  | .err => False
def tI (G : Gi) (W : WX) (m : Ro → Mu → Res Src) : TI := fun σ H R => ∃ Z ρ μ, At G Z H σ ρ μ ∧ PstI G W σ Z (m ρ μ) R
theorem like_pstI (R : It → Hp → Prop) : Like G W σ (fun Z (r : Res Src) => PstI G W σ Z r R) := ⟨fun Z Z' r X h => by
  cases r with
  | ok s μ' => exact fun J Z2 x Rl o => h J Z2 (X.trans x) Rl o
  | exc c d μ' => exact ExP.base h X
  | err => exact h, fun Z c d μ h => h, fun Z h => h⟩
open Classical in
theorem okAt_mem {s : Src} {μ : Mu} {p : Nat × List D} (h : s.okAt μ = true) (hp : p ∈ s.gs) : μ[p.1]? = some p.2 := by
  unfold Src.okAt at h
  exact of_decide_eq_true (List.all_eq_true.mp h p hp)
theorem items_at {s : Src} {μ μ2 : Mu} {d : D} {xs : List D} (hs : ∀ p ∈ guard d xs, p ∈ s.gs) (e : items μ d = some xs) (h : s.okAt μ2 = true) : items μ2 d = some xs := by
  cases d with
  | ref m => exact okAt_mem h (hs _ List.mem_cons_self)
  | _ => exact e
/-- a list's or tuple's items, as they are walked -/
theorem src_list (hK : X.K = G.K) {Z : Wd} {μ : Mu} {d : D} {v : V} {xs : List D} (R : Rel G Z μ) (e : items μ d = some xs) (r : RV G Z d v) :
    ∃ a, v = .ref a ∧ (((∃ vs, SqL X.K Z.H a vs) ∧ SrcOk G ⟨xs, guard d xs⟩ Z μ (Itl X.K a)) ∨ ((∃ vs, SqT X.K Z.H a vs) ∧ SrcOk G ⟨xs, guard d xs⟩ Z μ (Itt X.K a))) := by
  by_cases ht : ∃ ys, d = .tup ys
  · obtain ⟨ys, rfl⟩ := ht
    cases e
    obtain ⟨a, vs, rfl, q, z, qr⟩ := r
    have at_ : ∀ Z2, ExtB Z Z2 → ∃ ws, SqT X.K Z2.H a ws ∧ RVs G Z2 xs ws := fun Z2 x => by
      obtain ⟨a', ws, e1, q1, _, q2⟩ := RV.extB x (.tup xs) (.ref a) ⟨a, vs, rfl, q, z, qr⟩
      cases e1
      exact ⟨ws, by rw [hK]; exact q1, q2⟩
    refine ⟨a, rfl, .inr ⟨⟨vs, by rw [hK]; exact q⟩, z, fun i Z2 μ2 x R2 _ => ?_⟩⟩
    obtain ⟨ws, w1, w2⟩ := at_ Z2 x
    refine ⟨fun d hd => ?_, fun hl => ⟨ws, w1, by rw [← w2.length]; exact hl⟩⟩
    obtain ⟨y, y1, y2⟩ := w2.get hd
    refine ⟨⟨ws, y, w1, y1⟩, fun x' H' hy => ?_⟩
    obtain ⟨h1, h2⟩ := hy
    have e2 : x' = y := by have := h2 ws w1; rw [y1] at this; exact (Option.some.inj this).symm
    subst e2
    exact ⟨Z2, h1.symm, Ext.refl _, R2, y2⟩
  · have at_ : ∀ Z2 μ2, ExtB Z Z2 → Rel G Z2 μ2 → items μ2 d = some xs → ∃ a ws, v = .ref a ∧ SqL X.K Z2.H a ws ∧ RVs G Z2 xs ws := fun Z2 μ2 x R2 e2 => by
      have e3 : sitems μ2 d = some xs := by
        cases d with
        | tup ys => exact absurd ⟨ys, rfl⟩ ht
        | _ => exact e2
      obtain ⟨a, ws, e1, q1, q2, _⟩ := R2.sitems e3 (RV.extB x d v r)
      exact ⟨a, ws, e1, by rw [hK]; exact q1, q2⟩
    obtain ⟨a, ws, e1, q1, q2⟩ := at_ Z μ ((Ext.refl _).b R) R e
    subst e1
    refine ⟨a, rfl, .inl ⟨⟨ws, q1⟩, (by obtain ⟨_, _, _, _, _, z⟩ := R.items e r; exact z), fun i Z2 μ2 x R2 ok => ?_⟩⟩
    obtain ⟨a', ws, e1, w1, w2⟩ := at_ Z2 μ2 x R2 (items_at (s := ⟨xs, guard d xs⟩) (fun p hp => hp) e ok)
    cases e1
    refine ⟨fun d hd => ?_, fun hl => ⟨ws, w1, by rw [← w2.length]; exact hl⟩⟩
    obtain ⟨y, y1, y2⟩ := w2.get hd
    refine ⟨⟨ws, y, w1, y1⟩, fun x' H' hy => ?_⟩
    obtain ⟨h1, h2⟩ := hy
    have e2 : x' = y := by have := h2 ws w1; rw [y1] at this; exact (Option.some.inj this).symm
    subst e2
    exact ⟨Z2, h1.symm, Ext.refl _, R2, y2⟩
theorem pi_of_list {tg l : Expr} {tl : TE} (hl : PE X l tl) : PI X tg l (fun σ H R => tl σ H fun x H1 => ∃ a, x = .ref a ∧ (((∃ xs, SqL X.K H1 a xs) ∧ R (Itl X.K a) H1) ∨ ((∃ xs, SqT X.K H1 a xs) ∧ R (Itt X.K a) H1))) := by
  refine ⟨fun pins s σ H R I h => ?_⟩
  refine thn (hl.run pins s σ H _ I h) fun v s1 ⟨x, H1, I1, r1, a, e, q⟩ => ?_
  have one : ∀ c ∈ [s1.heap.objs.size], FpOk X pins H1 c := fun c hc => by
    rw [List.mem_singleton.mp hc]
    exact I1.fpOk (Nat.le_refl _) (I1.hok.fresh (Nat.le_refl _))
  subst e
  have ev : v = Value.ref a := r1
  subst ev
  have I2 : ∀ it, Inv X pins σ H1 { s1 with heap := s1.heap.push it } := fun it => I1.kept (t' := s1.toks) fun b o e => Heap.get?_push_of_some _ e
  rcases q with ⟨⟨xs, hq⟩, q⟩ | ⟨⟨xs, hq⟩, q⟩
  · obtain ⟨its, rv, p, hz⟩ := I1.list hq
    exact wpAny_pyIter_list p.isList ⟨_, [s1.heap.objs.size], _, _, H1, rfl, I2 _, turn_list a _, ⟨_, Heap.get?_push_size _ rfl, rfl, rfl⟩, one, q⟩
  · obtain ⟨its, rv, p, hz⟩ := I1.tuple hq
    exact wpAny_pyIter_tuple (show s1.heap.IsTuple a its.toArray from p) ⟨_, [s1.heap.objs.size], _, _, H1, rfl, I2 _, turn_tuple a _, ⟨_, Heap.get?_push_size _ rfl, rfl, rfl⟩, one, q⟩
theorem pi_mono {tg l : Expr} {t t' : TI} (h : PI X tg l t) (m : ∀ σ H R, t' σ H R → t σ H R) : PI X tg l t' := ⟨fun pins s σ H R I q => h.run pins s σ H R I (m σ H R q)⟩
theorem pstI_lift {Z : Wd} {μ : Mu} {o : Option Src} {R : It → Hp → Prop} (h : PstI G W σ Z (lift o μ) R) : ∃ s, o = some s ∧ ∀ J Z', Ext Z Z' → Rel G Z' μ → SrcOk G s Z' μ J → R J Z'.H := by
  cases o with
  | none => exact False.elim h
  | some s => exact ⟨s, rfl, h⟩
theorem i_seq (hK : X.K = G.K) {a : CE} {x tg : Expr} (p : PE X x (tE G W (eE C cl a))) : PI X tg x (tI G W (eI C cl (.iseq a))) := by
  refine pi_mono (pi_of_list p) fun σ H R q => ?_
  obtain ⟨Z, ρ, μ, A, q⟩ := q
  refine ⟨Z, ρ, μ, A, step (like_pstI R) (r := eE C cl a ρ μ) A q fun v Z1 μ1 d A1 X1 r1 h1 => ?_⟩
  obtain ⟨s, e, q⟩ := pstI_lift h1
  obtain ⟨xs, hx, e⟩ := Option.map_eq_some_iff.mp (show (items μ1 d).map (fun xs => (⟨xs, guard d xs⟩ : Src)) = some s from e)
  subst e
  obtain ⟨ad, e1, e2⟩ := src_list hK A1.rel hx r1
  refine ⟨ad, e1, ?_⟩
  rcases e2 with ⟨e2, e3⟩ | ⟨e2, e3⟩
  · exact .inl ⟨e2, q _ Z1 (Ext.refl _) A1.rel e3⟩
  · exact .inr ⟨e2, q _ Z1 (Ext.refl _) A1.rel e3⟩
theorem src_range {Z : Wd} {μ : Mu} (lo : Int) (m : Nat) (hm : m ≤ LIM) : SrcOk G ⟨rangeD lo m, []⟩ Z μ (Itr lo m) := by
  have hl : (rangeD lo m).length = m := by unfold rangeD; simp
  refine ⟨by show (rangeD lo m).length ≤ LIM; rw [hl]; exact hm, fun i Z2 μ2 x R2 _ => ?_⟩
  refine ⟨fun d hd => ?_, fun h => by rw [hl] at h; exact h⟩
  have hi : i < m := by rw [← hl]; exact (List.getElem?_eq_some_iff.mp hd).1
  refine ⟨hi, fun x' H' hy => ?_⟩
  obtain ⟨h1, h2⟩ := hy
  refine ⟨Z2, h1.symm, Ext.refl _, R2, ?_⟩
  have : d = .int (lo + (i : Int)) := by
    unfold rangeD at hd
    rw [List.getElem?_map, List.getElem?_range hi] at hd
    exact (Option.some.inj hd).symm
  rw [this, h2]; rfl
theorem b_range : isBlt T n "range" = true → CxE G C T cl n W k X → Gl X "range" ∧ X.mg "range" = none := fun h c => by
  obtain ⟨g1, _, _, g4⟩ := c.blt h
  exact ⟨g1, g4⟩
theorem i_range1 (c : CxE G C T cl n W k X) {a : CE} {x y tg : Expr} (h : callB T n "range" x = some [y]) (p : PE X y (tE G W (eE C cl a))) : PI X tg x (tI G W (eI C cl (.irng1 a))) := by
  obtain ⟨q, pos, rfl, hb, hs⟩ := callB_inv h
  obtain ⟨g1, g4⟩ := b_range hb c
  rw [List.all_cons, Bool.and_eq_true] at hs
  refine pi_mono (pi_range1 g1 g4 (pa_cons p pa_nil (star_of hs.1)) (star_of hs.1)) fun σ H R q => ?_
  obtain ⟨Z, ρ, μ, A, q⟩ := q
  refine ⟨Z, ρ, μ, A, step (like_pstI R) (r := eE C cl a ρ μ) A q fun v Z1 μ1 d A1 X1 r1 h1 => ?_⟩
  obtain ⟨s, e, q⟩ := pstI_lift h1
  unfold srcR1 at e
  split at e
  · rename_i j
    split at e
    · rename_i hj
      cases e
      have ev : v = V.int j := r1
      subst ev
      have hz : j ≤ 16777216 := hj.1
      exact ⟨j, rfl, hj.2, by omega, q _ Z1 (Ext.refl _) A1.rel (src_range 0 _ (by unfold LIM; omega))⟩
    · cases e
  · cases e
theorem rng62_of {i : Int} (h : rng62 i = true) : -(2 ^ 62) ≤ i ∧ i < 2 ^ 62 := by
  unfold rng62 at h
  rw [Bool.and_eq_true] at h
  exact ⟨of_decide_eq_true h.1, of_decide_eq_true h.2⟩
theorem i_range2 (c : CxE G C T cl n W k X) {a b : CE} {x y z tg : Expr} (h : callB T n "range" x = some [y, z]) (p1 : PE X y (tE G W (eE C cl a))) (p2 : PE X z (tE G W (eE C cl b))) : PI X tg x (tI G W (eI C cl (.irng2 a b))) := by
  obtain ⟨q, pos, rfl, hb, hs⟩ := callB_inv h
  obtain ⟨g1, g4⟩ := b_range hb c
  simp only [List.all_cons, List.all_nil, Bool.and_true, Bool.and_eq_true] at hs
  refine pi_mono (pi_range2 g1 g4 (pa_cons p1 (pa_cons p2 pa_nil (star_of hs.2)) (star_of hs.1)) (by rw [star_of hs.1, star_of hs.2]; rfl) (star_of hs.2)) fun σ H R q => ?_
  obtain ⟨Z, ρ, μ, A, q⟩ := q
  refine ⟨Z, ρ, μ, A, step (like_pstI R) (r := eE C cl a ρ μ) A q fun v Z1 μ1 d A1 X1 r1 h1 => ⟨Z1, ρ, μ1, A1, step (like_pstI R) (r := eE C cl b ρ μ1) A1 h1 fun w Z2 μ2 e A2 X2 r2 h2 => ?_⟩⟩
  obtain ⟨s, es, q⟩ := pstI_lift h2
  unfold srcR2 at es
  split at es
  · rename_i i j
    split at es
    · rename_i hj
      cases es
      have ev : v = V.int i := r1
      have ew : w = V.int j := r2
      subst ev ew
      obtain ⟨b1, b2⟩ := rng62_of hj.2.1
      have hz : j - i ≤ 16777216 := hj.1
      obtain ⟨b3, b4⟩ := rng62_of hj.2.2
      exact ⟨i, j, rfl, ⟨b1, b2, b3, b4⟩, q _ Z2 (Ext.refl _) A2.rel (src_range i _ (by unfold LIM; omega))⟩
    · cases es
  · cases es
end
end PyE
set_option maxRecDepth 100000
set_option maxHeartbeats 4000000
/-! zip, enumerate -/
namespace PyE
open PySem PySem.Spec PyProof.Rows L2
section
variable {G : Gi} {C : Cfg} {T : Tb} {cl : Cl} {n : En} {W : WX} {k : Nat} {X : Cx} {σ : L2.St} {H : Hp}
theorem zipD_get {xs ys : List D} {i : Nat} {d : D} (h : (zipD xs ys)[i]? = some d) : ∃ x y, xs[i]? = some x ∧ ys[i]? = some y ∧ d = .tup [x, y] := by
  unfold zipD at h
  rw [List.getElem?_zipWith] at h
  cases hx : xs[i]? with
  | none => rw [hx] at h; cases h
  | some x =>
    cases hy : ys[i]? with
    | none => rw [hx, hy] at h; cases h
    | some y =>
      rw [hx, hy] at h
      exact ⟨x, y, rfl, rfl, (Option.some.inj h).symm⟩
theorem pair_laid {Z : Wd} {μ : Mu} (R : Rel G Z μ) {p : Addr} (hp : Z.H p = none) {x y : D} {u v : V} (r1 : RV G Z x u) (r2 : RV G Z y v) :
    ∃ Z3, Z3.H = upd Z.H p (.tup [u, v]) ∧ Ext Z Z3 ∧ Rel G Z3 μ ∧ RV G Z3 (.tup [x, y]) (.ref p) :=
  ⟨Z.lay p (.tup [u, v]), rfl, Ext.lay hp, R.lay hp, p, [u, v], rfl, .of upd_same, by show 2 ≤ LIM; decide, u, [v], rfl, RV.ext (Ext.lay hp) R _ _ r1, RVs.one (RV.ext (Ext.lay hp) R _ _ r2)⟩
theorem lit_of {Z2 : Wd} {μ μ2 : Mu} {d : D} {v : V} {xs : List D} {Z : Wd} {s : Src} (R : Rel G Z μ) (e : litems μ d = some xs) (r : RV G Z d v) (hs : ∀ p ∈ guard d xs, p ∈ s.gs) (x : ExtB Z Z2) (R2 : Rel G Z2 μ2) (ok : s.okAt μ2 = true) :
    ∃ a ws, v = .ref a ∧ Z2.H a = some (.lst ws) ∧ RVs G Z2 xs ws := by
  have e2 : litems μ2 d = some xs := by
    cases d with
    | ref m => exact okAt_mem ok (hs _ List.mem_cons_self)
    | lst _ => exact e
    | _ => cases e
  obtain ⟨a, ws, e1, q1, q2, _⟩ := R2.litems e2 (RV.extB x d v r)
  exact ⟨a, ws, e1, q1, q2⟩
theorem src_zip (hK : X.K = G.K) {Z : Wd} {μ : Mu} {d e : D} {u v : V} {xs ys : List D} (R : Rel G Z μ) (h1 : litems μ d = some xs) (h2 : litems μ e = some ys) (r1 : RV G Z d u) (r2 : RV G Z e v) :
    ∃ a b vs ws, u = .ref a ∧ v = .ref b ∧ SqL X.K Z.H a vs ∧ SqL X.K Z.H b ws ∧ vs.length = xs.length ∧ ws.length = ys.length ∧ SrcOk G ⟨zipD xs ys, guard d xs ++ guard e ys⟩ Z μ (Itz X.K a b) := by
  obtain ⟨a, vs, rfl, q1, q2, z1⟩ := R.litems h1 r1
  obtain ⟨b, ws, rfl, q3, q4, z2⟩ := R.litems h2 r2
  refine ⟨a, b, vs, ws, rfl, rfl, .of q1, .of q3, q2.length.symm, q4.length.symm, (by show (zipD xs ys).length ≤ LIM; unfold zipD; rw [List.length_zipWith]; omega), fun i Z2 μ2 x R2 ok => ?_⟩
  obtain ⟨a', vs2, e1, w1, w2⟩ := lit_of (s := ⟨zipD xs ys, guard d xs ++ guard e ys⟩) R h1 r1 (fun p hp => List.mem_append_left _ hp) x R2 ok
  obtain ⟨b', ws2, e2, w3, w4⟩ := lit_of (s := ⟨zipD xs ys, guard d xs ++ guard e ys⟩) R h2 r2 (fun p hp => List.mem_append_right _ hp) x R2 ok
  cases e1
  cases e2
  refine ⟨fun t ht => ?_, fun hl => ⟨vs2, ws2, .of w1, .of w3, ?_⟩⟩
  · obtain ⟨x1, y1, hx, hy, rfl⟩ := zipD_get ht
    obtain ⟨p, p1, p2⟩ := w2.get hx
    obtain ⟨q, q1, q2⟩ := w4.get hy
    refine ⟨⟨vs2, ws2, p, q, .of w1, .of w3, p1, q1⟩, fun x' H' hyl => ?_⟩
    obtain ⟨P, px, py, rfl, hn, rfl, f1, f2⟩ := hyl
    have e1 : p = px := by have := f1 vs2 (.of w1); rw [p1] at this; exact Option.some.inj this
    have e2 : q = py := by have := f2 ws2 (.of w3); rw [q1] at this; exact Option.some.inj this
    subst e1 e2
    exact pair_laid R2 hn p2 q2
  · have hl' : (zipD xs ys).length ≤ i := hl
    unfold zipD at hl'
    rw [List.length_zipWith] at hl'
    rw [← w2.length, ← w4.length]
    omega
theorem i_zip (c : CxE G C T cl n W k X) {a b : CE} {x y z tg : Expr} (htg : isTpl tg = true) (h : callB T n "zip" x = some [y, z]) (p1 : PE X y (tE G W (eE C cl a))) (p2 : PE X z (tE G W (eE C cl b))) : PI X tg x (tI G W (eI C cl (.izip false a b))) := by
  obtain ⟨q, pos, rfl, hb, hs⟩ := callB_inv h
  obtain ⟨g1, _, _, g4⟩ := c.blt hb
  simp only [List.all_cons, List.all_nil, Bool.and_true, Bool.and_eq_true] at hs
  cases tg <;> first | cases htg | skip
  refine pi_mono (pi_zip g1 g4 (pa_cons p1 (pa_cons p2 pa_nil (star_of hs.2)) (star_of hs.1)) (star_of hs.1) (stars_plain (by simp [hs.2]))) fun σ H R q => ?_
  obtain ⟨Z, ρ, μ, A, q⟩ := q
  refine ⟨Z, ρ, μ, A, step (like_pstI R) (r := eE C cl a ρ μ) A q fun v Z1 μ1 d A1 X1 r1 h1 => ⟨Z1, ρ, μ1, A1, step (like_pstI R) (r := eE C cl b ρ μ1) A1 h1 fun w Z2 μ2 e A2 X2 r2 h2 => ?_⟩⟩
  obtain ⟨s, es, q⟩ := pstI_lift h2
  obtain ⟨xs, hx, es⟩ := Option.bind_eq_some_iff.mp es
  obtain ⟨ys, hy, es⟩ := Option.bind_eq_some_iff.mp es
  rw [if_neg (fun z => Bool.false_ne_true z.1)] at es
  cases es
  obtain ⟨a', b', vs, ws, rfl, rfl, s1, s2, _, _, ok⟩ := src_zip c.K A2.rel hx hy (RV.ext X2 A1.rel _ _ r1) r2
  exact ⟨a', b', vs, ws, rfl, s1, s2, q _ Z2 (Ext.refl _) A2.rel ok⟩
theorem src_zips (hK : X.K = G.K) {Z : Wd} {μ : Mu} {d e : D} {u v : V} {xs ys : List D} (R : Rel G Z μ) (h1 : litems μ d = some xs) (h2 : litems μ e = some ys) (r1 : RV G Z d u) (r2 : RV G Z e v) (hlen : xs.length = ys.length) :
    ∃ a b vs ws, u = .ref a ∧ v = .ref b ∧ SqL X.K Z.H a vs ∧ SqL X.K Z.H b ws ∧ vs.length = xs.length ∧ ws.length = ys.length ∧ SrcOk G ⟨zipD xs ys, guard d xs ++ guard e ys⟩ Z μ (Itzs X.K a b) := by
  obtain ⟨a, vs, rfl, q1, q2, z1⟩ := R.litems h1 r1
  obtain ⟨b, ws, rfl, q3, q4, z2⟩ := R.litems h2 r2
  refine ⟨a, b, vs, ws, rfl, rfl, .of q1, .of q3, q2.length.symm, q4.length.symm, (by show (zipD xs ys).length ≤ LIM; unfold zipD; rw [List.length_zipWith]; omega), fun i Z2 μ2 x R2 ok => ?_⟩
  obtain ⟨a', vs2, e1, w1, w2⟩ := lit_of (s := ⟨zipD xs ys, guard d xs ++ guard e ys⟩) R h1 r1 (fun p hp => List.mem_append_left _ hp) x R2 ok
  obtain ⟨b', ws2, e2, w3, w4⟩ := lit_of (s := ⟨zipD xs ys, guard d xs ++ guard e ys⟩) R h2 r2 (fun p hp => List.mem_append_right _ hp) x R2 ok
  cases e1
  cases e2
  refine ⟨fun t ht => ?_, fun hl => ⟨vs2, ws2, .of w1, .of w3, ?_⟩⟩
  · obtain ⟨x1, y1, hx, hy, rfl⟩ := zipD_get ht
    obtain ⟨p, p1, p2⟩ := w2.get hx
    obtain ⟨q, q1, q2⟩ := w4.get hy
    refine ⟨⟨vs2, ws2, p, q, .of w1, .of w3, p1, q1⟩, fun x' H' hyl => ?_⟩
    obtain ⟨P, px, py, rfl, hn, rfl, f1, f2⟩ := hyl
    have e1 : p = px := by have := f1 vs2 (.of w1); rw [p1] at this; exact Option.some.inj this
    have e2 : q = py := by have := f2 ws2 (.of w3); rw [q1] at this; exact Option.some.inj this
    subst e1 e2
    exact pair_laid R2 hn p2 q2
  · have hl' : (zipD xs ys).length ≤ i := hl
    unfold zipD at hl'
    rw [List.length_zipWith] at hl'
    rw [← w2.length, ← w4.length]
    exact ⟨by omega, by omega⟩
theorem i_zips (c : CxE G C T cl n W k X) {a b : CE} {x y z tg : Expr} (htg : isTpl tg = true) {w : Str} {q cp kp pos : Pos} {cj : Nat} (hx : x = .Call (.Name w q) [y, z] [⟨some (Str.ofString "strict"), .Constant (.bool true) cj cp, kp⟩] pos) (hw : w = "zip") (hb : isBlt T n w = true)
    (hy : notStar y = true) (hz : notStar z = true) (p1 : PE X y (tE G W (eE C cl a))) (p2 : PE X z (tE G W (eE C cl b))) : PI X tg x (tI G W (eI C cl (.izip true a b))) := by
  subst hx hw
  obtain ⟨g1, _, _, g4⟩ := c.blt hb
  cases tg <;> first | cases htg | skip
  refine pi_mono (pi_zips g1 g4 (pa_cons p1 (pa_cons p2 pa_nil (star_of hz)) (star_of hy)) (star_of hy) (stars_plain (by simp [hy, hz]))) fun σ H R q => ?_
  obtain ⟨Z, ρ, μ, A, q⟩ := q
  refine ⟨Z, ρ, μ, A, step (like_pstI R) (r := eE C cl a ρ μ) A q fun v Z1 μ1 d A1 X1 r1 h1 => ⟨Z1, ρ, μ1, A1, step (like_pstI R) (r := eE C cl b ρ μ1) A1 h1 fun w Z2 μ2 e A2 X2 r2 h2 => ?_⟩⟩
  obtain ⟨s, es, q⟩ := pstI_lift h2
  obtain ⟨xs, hx, es⟩ := Option.bind_eq_some_iff.mp es
  obtain ⟨ys, hy, es⟩ := Option.bind_eq_some_iff.mp es
  split at es
  · cases es
  · rename_i hn
    have hlen : xs.length = ys.length := Decidable.byContradiction fun z => hn ⟨rfl, z⟩
    cases es
    obtain ⟨a', b', vs, ws, rfl, rfl, s1, s2, _, _, ok⟩ := src_zips c.K A2.rel hx hy (RV.ext X2 A1.rel _ _ r1) r2 hlen
    exact ⟨a', b', vs, ws, rfl, s1, s2, q _ Z2 (Ext.refl _) A2.rel ok⟩
theorem enumD_get {xs : List D} {i : Nat} {d : D} (h : (enumD xs)[i]? = some d) : ∃ x, xs[i]? = some x ∧ d = .tup [.int (i : Int), x] := by
  unfold enumD at h
  rw [List.getElem?_zipWith] at h
  cases hx : xs[i]? with
  | none =>
    rw [hx] at h
    cases hr : (List.range xs.length)[i]? with
    | none => rw [hr] at h; cases h
    | some _ => rw [hr] at h; cases h
  | some x =>
    have hi := (List.getElem?_eq_some_iff.mp hx).1
    rw [hx, List.getElem?_range hi] at h
    exact ⟨x, rfl, (Option.some.inj h).symm⟩
theorem src_enum (hK : X.K = G.K) {Z : Wd} {μ : Mu} {d : D} {u : V} {xs : List D} (R : Rel G Z μ) (h1 : litems μ d = some xs) (r1 : RV G Z d u) :
    ∃ a vs, u = .ref a ∧ SqL X.K Z.H a vs ∧ SrcOk G ⟨enumD xs, guard d xs⟩ Z μ (Ite X.K a) := by
  obtain ⟨a, vs, rfl, q1, q2, z1⟩ := R.litems h1 r1
  refine ⟨a, vs, rfl, .of q1, (by show (enumD xs).length ≤ LIM; unfold enumD; rw [List.length_zipWith, List.length_range]; omega), fun i Z2 μ2 x R2 ok => ?_⟩
  obtain ⟨a', vs2, e1, w1, w2⟩ := lit_of (s := ⟨enumD xs, guard d xs⟩) R h1 r1 (fun p hp => hp) x R2 ok
  cases e1
  refine ⟨fun t ht => ?_, fun hl => ⟨vs2, .of w1, ?_⟩⟩
  · obtain ⟨x1, hx, rfl⟩ := enumD_get ht
    obtain ⟨p, p1, p2⟩ := w2.get hx
    refine ⟨⟨vs2, p, .of w1, p1⟩, fun x' H' hyl => ?_⟩
    obtain ⟨P, px, rfl, hn, rfl, f1⟩ := hyl
    have e1 : p = px := by have := f1 vs2 (.of w1); rw [p1] at this; exact Option.some.inj this
    subst e1
    exact pair_laid R2 hn (x := .int (i : Int)) rfl p2
  · have hl' : (enumD xs).length ≤ i := hl
    unfold enumD at hl'
    rw [List.length_zipWith, List.length_range] at hl'
    rw [← w2.length]
    omega
theorem i_enum (c : CxE G C T cl n W k X) {a : CE} {x y tg : Expr} (htg : isTpl tg = true) (h : callB T n "enumerate" x = some [y]) (p1 : PE X y (tE G W (eE C cl a))) : PI X tg x (tI G W (eI C cl (.ienum a))) := by
  obtain ⟨q, pos, rfl, hb, hs⟩ := callB_inv h
  obtain ⟨g1, _, _, g4⟩ := c.blt hb
  simp only [List.all_cons, List.all_nil, Bool.and_true] at hs
  cases tg <;> first | cases htg | skip
  refine pi_mono (pi_enum g1 g4 (pa_cons p1 pa_nil (star_of hs)) (star_of hs)) fun σ H R q => ?_
  obtain ⟨Z, ρ, μ, A, q⟩ := q
  refine ⟨Z, ρ, μ, A, step (like_pstI R) (r := eE C cl a ρ μ) A q fun v Z1 μ1 d A1 X1 r1 h1 => ?_⟩
  obtain ⟨s, es, q⟩ := pstI_lift h1
  obtain ⟨xs, hx, es⟩ := Option.map_eq_some_iff.mp (show (litems μ1 d).map (fun xs => (⟨enumD xs, guard d xs⟩ : Src)) = some s from es)
  cases es
  obtain ⟨a', vs, rfl, s1, ok⟩ := src_enum c.K A1.rel hx r1
  exact ⟨a', vs, rfl, s1, q _ Z1 (Ext.refl _) A1.rel ok⟩
end
end PyE
set_option maxRecDepth 100000
set_option maxHeartbeats 4000000
/-! comprehensions -/
namespace PyE
open PySem PySem.Spec PyProof.Rows L2
section
variable {G : Gi} {C : Cfg} {T : Tb} {cl : Cl} {n : En} {W : WX} {k : Nat} {X : Cx} {σ : L2.St} {H : Hp}
/-- nothing is raised -/
def W0 : WX := fun _ _ _ _ => False
theorem nox_pst {α β : Type} {rel : Wd → α → β → Prop} {Z : Wd} {r : Res α} {Q : β → Hp → Prop} (h : Pst G W σ rel Z r.nox Q) : Pst G W0 σ rel Z r Q := by
  cases r with
  | ok a μ => exact h
  | exc c d μ => exact False.elim h
  | err => exact False.elim h
theorem stepN {α β γ : Type} {P : Res β → Prop} (herr : ¬ P .err) {σ' : L2.St} {rel : Wd → α → γ → Prop} {r : Res α} {f : α → Mu → Res β} {Z : Wd} {ρ : Ro} {μ : Mu} (A : At G Z H σ' ρ μ) (h : P (r.nox.bind f)) {Q : γ → Hp → Prop}
    (hq : ∀ b Z1 μ1 a, At G Z1 Z1.H σ' ρ μ1 → Ext Z Z1 → rel Z1 a b → P (f a μ1) → Q b Z1.H) : Pst G W0 σ' rel Z r Q := by
  cases r with
  | ok a μ1 => exact fun b Z2 x R q => hq b Z2 μ1 a (A.ext x R) x q h
  | exc c d μ1 => exact False.elim (herr h)
  | err => exact False.elim (herr h)
theorem liftN {α β : Type} {P : Res β → Prop} (herr : ¬ P .err) {o : Option α} {k : α → Mu → Res β} {μ : Mu} (h : P ((PyE.lift o μ).bind k)) : ∃ a, o = some a ∧ P (k a μ) := by
  cases o with
  | none => exact False.elim (herr h)
  | some a => exact ⟨a, rfl, h⟩
/-- the block's own surroundings -/
theorem blk_cx (c : CxE G C T cl n W k X) {scope : Scope} (s : Shared) (H : Hp) (Ca : Addr) (l : List (Str × Addr)) (fp : List Addr) : CxE G C T cl (n.blk scope) W0 k (X.blk s H scope (compEnvC scope l Ca X.env) fp) where
  wk := c.wk
  prog := c.prog
  w := c.w
  K := c.K
  mg := c.mg
  base := c.base
  calm := c.calm
  N := c.N
  nd := c.nd
  sc := by
    show relabel scope X.env = relS scope n.sc
    rw [← c.sc]; rfl
  fn := rfl
  room := c.room
  gd := c.gd
  tk := fun u s' ⟨_, _, _, _, _, _, _, _, _, _, _, _, _, _, _, _, z⟩ => False.elim z
/-- a turn's items, gathered -/
def PstL (G : Gi) (W : WX) (σ : L2.St) (Z : Wd) (r : Res (List D)) (Q : VK) : Prop := match r with
  | .ok xs μ' => PrP G Z μ' (.new xs) Q
  | .exc c d μ' => ExP G W σ Z c d μ'
  | .err => False
theorem like_pstL (Q : VK) : Like G W σ (fun Z (r : Res (List D)) => PstL G W σ Z r Q) := ⟨fun Z Z' r X h => by
  cases r with
  | ok xs μ' => exact PrP.base (pr := .new xs) h X
  | exc c d μ' => exact ExP.base h X
  | err => exact h, fun Z c d μ h => h, fun Z h => h⟩
def tL (G : Gi) (W : WX) (m : Ro → Mu → Res (List D)) : TE := fun σ H Q => ∃ Z ρ μ, At G Z H σ ρ μ ∧ PstL G W σ Z (m ρ μ) Q
/-- the comprehension's items -/
noncomputable def eL (C : Cfg) (cl : Cl) (t : Tg) (it c e : CE) (ρ : Ro) (μ : Mu) : Res (List D) := (eI C cl it ρ μ).bind fun s μ0 => compL s.okAt (fun d μ1 => (lift (setT μ1 t d (PyE.wipe ρ t.slots)) μ1).bind fun ρ1 μ2 =>
  (eC C cl c ρ1 μ2).nox.bind fun b μ3 => if b = true then (eE C cl e ρ1 μ3).nox.bind fun x μ4 => .ok [x] μ4 else .ok [] μ3) s.xs μ0
theorem set_own {n : En} {l : List Nat} : (ownOf n.N l).map (·.2) = l := by
  unfold ownOf
  rw [List.map_map]
  induction l with
  | nil => rfl
  | cons a r ih => rw [List.map_cons, ih]; rfl
/-! ### a list that nobody knows yet -/
section
variable {Z Z2 : Wd} {μ : Mu} {a : Addr} {vs : List V}
def Wd.drop (Z : Wd) (a : Addr) : Wd := { Z with H := fun b => if b = a then none else Z.H b }
theorem drop_ne {b : Addr} (h : b ≠ a) : (Z.drop a).H b = Z.H b := if_neg h
theorem drop_same : (Z.drop a).H a = none := if_pos rfl
structure Lone (Z : Wd) (a : Addr) (vs : List V) : Prop where
  at_ : Z.H a = some (.lst vs)
  th : a ∉ Z.th
  fz : ¬ Z.S a
theorem Lone.upd_drop (L : Lone Z a vs) {o : HO} : upd (Z.drop a).H a o = upd Z.H a o := by
  funext b
  by_cases e : b = a
  · rw [e, upd_same, upd_same]
  · rw [upd_ne e, upd_ne e, drop_ne e]
theorem Lone.sq (L : Lone Z a vs) {b : Addr} {ws : List V} (h : SqT G.K Z.H b ws) : SqT G.K (Z.drop a).H b ws := by
  rcases h with (h | ⟨o, h⟩) | h
  · exact .inl (.inl (by rw [drop_ne (fun e => by rw [e, L.at_] at h; cases h)]; exact h))
  · exact .inl (.inr ⟨o, by rw [drop_ne (fun e => by rw [e, L.at_] at h; cases h)]; exact h⟩)
  · exact .inr h
mutual
theorem RV.dropped (L : Lone Z a vs) : ∀ (d : D) (v : V), RV G Z d v → RV G (Z.drop a) d v
  | .none, _, h => h
  | .bl _, _, h => h
  | .int _, _, h => h
  | .str _, _, h => h
  | .fn _, _, h => h
  | .tup ds, v, h => by
    obtain ⟨b, ws, e, q, z, r⟩ := h
    exact ⟨b, ws, e, L.sq q, z, RVs.dropped L ds ws r⟩
  | .lst ds, v, h => by
    obtain ⟨b, ws, e, s, q, z, r⟩ := h
    exact ⟨b, ws, e, s, by rw [drop_ne (fun e => L.fz (by rw [← e]; exact s))]; exact q, z, RVs.dropped L ds ws r⟩
  | .scr xs, v, h => by
    obtain ⟨b, e, q, z⟩ := h
    refine ⟨b, e, ?_, z⟩
    rcases q with ⟨o, q⟩ | q
    · exact .inl ⟨o, by rw [drop_ne (fun e => by rw [e, L.at_] at q; cases q)]; exact q⟩
    · exact .inr q
  | .ref n, v, h => h
  | .dct, v, h => by
    obtain ⟨b, e, q⟩ := h
    exact ⟨b, e, by rw [drop_ne (fun e => by rw [e, L.at_] at q; cases q)]; exact q⟩
  | .exc c d, v, h => by
    obtain ⟨k, b, dd, w, e, q1, q2, r⟩ := h
    exact ⟨k, b, dd, w, e, by rw [drop_ne (fun e => by rw [e, L.at_] at q1; cases q1)]; exact q1, by rw [drop_ne (fun e => by rw [e, L.at_] at q2; cases q2)]; exact q2, RV.dropped L d w r⟩
theorem RVs.dropped (L : Lone Z a vs) : ∀ (ds : List D) (ws : List V), RVs G Z ds ws → RVs G (Z.drop a) ds ws
  | [], _, h => h
  | d :: ds, ws, h => by
    obtain ⟨v, r, e, h1, h2⟩ := h
    exact ⟨v, r, e, RV.dropped L d v h1, RVs.dropped L ds r h2⟩
end
theorem Rel.dropped (L : Lone Z a vs) (R : Rel G Z μ) : Rel G (Z.drop a) μ := ⟨R.len, R.nd, fun n b ds h1 h2 => by
  obtain ⟨ws, q1, q2, q3⟩ := R.cell n b ds h1 h2
  exact ⟨ws, by rw [drop_ne (fun e => L.th (by rw [← e]; exact List.mem_of_getElem? h1))]; exact q1, RVs.dropped L _ _ q2, q3⟩, R.sep, fun b h => by
  rw [drop_ne (fun e => L.fz (by rw [← e]; exact h))]; exact R.has b h⟩
theorem SE.dropped (L : Lone Z a vs) {ρ : Ro} (s : SE G Z σ ρ) : SE G (Z.drop a) σ ρ := ⟨s.len, fun i d h => by
  obtain ⟨v, e, r⟩ := s.at_ i d h
  exact ⟨v, e, RV.dropped L d v r⟩⟩
theorem At.dropped (L : Lone Z a vs) {ρ : Ro} (A : At G Z H σ ρ μ) : At G (Z.drop a) (Z.drop a).H σ ρ μ := ⟨rfl, A.se.dropped L, A.rel.dropped L⟩
theorem lone_lay (R : Rel G Z μ) (h : Z.H a = none) : Lone (Z.lay a (.lst vs)) a vs := ⟨upd_same, fun q => by
  obtain ⟨ws, e⟩ := R.atCell q
  rw [h] at e
  exact absurd e (by simp), fun q => R.has a q h⟩
theorem Lone.ext (L : Lone Z a vs) (X : Ext Z Z2) : Lone Z2 a vs := ⟨X.keep _ _ L.at_ L.th, fun q => (X.fresh a q).elim L.th (fun z => by rw [L.at_] at z; cases z), fun q => (X.new a q).elim L.fz (fun z => by rw [L.at_] at z; cases z)⟩
theorem Ext.dropped (h : Z.H a = none) (X : Ext (Z.lay a (.lst vs)) Z2) : Ext Z (Z2.drop a) where
  pre := X.pre
  fresh := fun b q => (X.fresh b q).elim .inl fun z => .inr ((Ext.lay h).dom b z)
  sub := fun b q => X.sub b q
  new := fun b q => (X.new b q).elim .inl fun z => .inr ((Ext.lay h).dom b z)
  keep := fun b o q n => by
    have hb : b ≠ a := ne_of_none q h
    rw [drop_ne hb]
    exact X.keep b o (by show upd Z.H a _ b = _; rw [upd_ne hb]; exact q) n
  dom := fun b q => by
    by_cases e : b = a
    · rw [e]; exact h
    · rw [drop_ne e] at q
      exact (Ext.lay h).dom b (X.dom b q)
end
theorem SE.wiped {Z : Wd} {ρ : Ro} (s : SE G Z σ ρ) (l : List Nat) : SE G Z (L2.wipe σ l) (PyE.wipe ρ l) := s.wipe l
/-- the list under way -/
theorem lc_read {t : Tg} {it c e : CE} {Q : VK} (h : tL G W (eL C cl t it c e) σ H Q) :
    tLc (tI G W (eI C cl it)) (gT G t) (tT G W0 (eC C cl c)) (tE G W0 (eE C cl e)) t.slots σ H Q := by
  obtain ⟨Z, ρ, μ, A, h⟩ := h
  have L := like_pstL (G := G) (W := W) (σ := σ) Q
  let f : D → Mu → Res (List D) := fun d μ1 => (lift (setT μ1 t d (PyE.wipe ρ t.slots)) μ1).bind fun ρ1 μ2 =>
    (eC C cl c ρ1 μ2).nox.bind fun b μ3 => if b = true then (eE C cl e ρ1 μ3).nox.bind fun x μ4 => .ok [x] μ4 else .ok [] μ3
  refine ⟨Z, ρ, μ, A, ?_⟩
  have h' : PstL G W σ Z ((eI C cl it ρ μ).bind fun s μ0 => compL s.okAt f s.xs μ0) Q := h
  revert h'
  cases eI C cl it ρ μ with
  | err => exact fun h' => h'
  | exc c d μ1 => exact fun h' => h'
  | ok s μ0 =>
    intro h' J Z1 x1 R1 ok1 D hD
    obtain ⟨hz, ok1⟩ := ok1
    have h1 : PstL G W σ Z1 (compL s.okAt f s.xs μ0) Q := L.base _ _ _ x1 h'
    refine ⟨fun i m H => m = s.xs.length - i ∧ i ≤ s.xs.length ∧ ∃ Z2 μ2 acc vs, H = upd Z2.H D (.lst vs) ∧ Z2.H D = none ∧ At G Z2 Z2.H σ ρ μ2 ∧ Ext Z1 Z2 ∧ RVs G Z2 acc vs ∧ acc.length ≤ i ∧
      PstL G W σ Z2 ((compL s.okAt f (s.xs.drop i) μ2).bind fun r μ3 => .ok (acc ++ r) μ3) Q, ⟨s.xs.length, ?_⟩, ?_⟩
    · refine ⟨rfl, Nat.zero_le _, Z1, μ0, [], [], rfl, hD, A.ext x1 R1, Ext.refl _, rfl, Nat.le_refl _, ?_⟩
      rw [List.drop_zero]
      have e0 : ((compL s.okAt f s.xs μ0).bind fun r μ3 => .ok ([] ++ r) μ3) = compL s.okAt f s.xs μ0 := by cases compL s.okAt f s.xs μ0 <;> rfl
      rw [e0]; exact h1
    · rintro i m H ⟨rfl, hi, Z2, μ2, acc, vs, rfl, hn, A2, x2, rv, ha, hp⟩
      have A3 : At G (Z2.lay D (.lst vs)) (Z2.lay D (.lst vs)).H σ ρ μ2 := A2.ext (Ext.lay hn) (A2.rel.lay hn)
      have X3 : Ext Z1 (Z2.lay D (.lst vs)) := x2.trans (Ext.lay hn)
      by_cases he : i = s.xs.length
      · left
        rw [he, List.drop_length] at hp
        have hp' : PstL G W σ Z2 ((if s.okAt μ2 = true then Res.ok [] μ2 else .err).bind fun r μ3 => .ok (acc ++ r) μ3) Q := hp
        by_cases hk : s.okAt μ2 = true
        · rw [if_pos hk] at hp'
          have hp2 : PrP G Z2 μ2 (.new (acc ++ [])) Q := hp'
          rw [List.append_nil] at hp2
          refine ⟨((ok1 i _ μ2 (X3.b R1) A3.rel hk).2 (by rw [he]; exact Nat.le_refl _)), ?_⟩
          exact hp2 D vs Z2 (Ext.refl _) A2.rel hn rv (by omega)
        · rw [if_neg hk] at hp'
          exact False.elim hp'
      · right
        have hlt : i < s.xs.length := by omega
        obtain ⟨d, hd⟩ : ∃ d, s.xs[i]? = some d := ⟨_, List.getElem?_eq_getElem hlt⟩
        have hdr : s.xs.drop i = d :: s.xs.drop (i + 1) := by
          rw [List.drop_eq_getElem_cons hlt]
          have := List.getElem?_eq_getElem hlt
          rw [hd] at this
          rw [← Option.some.inj this]
        rw [hdr] at hp
        have hp' : PstL G W σ Z2 ((if s.okAt μ2 = true then (f d μ2).bind fun o μ1 => (compL s.okAt f (s.xs.drop (i + 1)) μ1).bind fun r μ2 => .ok (o ++ r) μ2 else .err).bind fun r μ3 => .ok (acc ++ r) μ3) Q := hp
        by_cases hk : s.okAt μ2 = true
        · rw [if_pos hk, bind_bind] at hp'
          obtain ⟨og, oy⟩ := (ok1 i _ μ2 (X3.b R1) A3.rel hk).1 d hd
          refine ⟨og, fun H' => ∃ m', m' < s.xs.length - i ∧ (m' = s.xs.length - (i + 1) ∧ i + 1 ≤ s.xs.length ∧ ∃ Z2 μ2 acc vs, H' = upd Z2.H D (.lst vs) ∧ Z2.H D = none ∧ At G Z2 Z2.H σ ρ μ2 ∧ Ext Z1 Z2 ∧ RVs G Z2 acc vs ∧ acc.length ≤ i + 1 ∧
            PstL G W σ Z2 ((compL s.okAt f (s.xs.drop (i + 1)) μ2).bind fun r μ3 => .ok (acc ++ r) μ3) Q), fun H' q => q, fun x H' hy => ?_⟩
          obtain ⟨Z3, rfl, X4, R4, r4⟩ := oy x H' hy
          have L3 : Lone Z3 D vs := (lone_lay A2.rel hn).ext X4
          have A4 : At G Z3 Z3.H (L2.wipe σ t.slots) (PyE.wipe ρ t.slots) μ2 := ⟨rfl, (A3.se.ext X4 A3.rel).wipe _, R4⟩
          have X5 : Ext Z2 Z3 := (Ext.lay hn).trans X4
          let P : Res (List PyE.D) → Prop := fun r => PstL G W σ Z2 r Q
          have herr : ¬ P .err := fun z => z
          have hq : P ((f d μ2).bind fun o μ1 => ((compL s.okAt f (s.xs.drop (i + 1)) μ1).bind fun r μ2 => .ok (o ++ r) μ2).bind fun r μ3 => .ok (acc ++ r) μ3) := hp'
          have hf : (f d μ2) = ((lift (setT μ2 t d (PyE.wipe ρ t.slots)) μ2).bind fun ρ1 μ2 =>
            (eC C cl c ρ1 μ2).nox.bind fun b μ3 => if b = true then (eE C cl e ρ1 μ3).nox.bind fun x μ4 => .ok [x] μ4 else .ok [] μ3) := rfl
          rw [hf, bind_bind] at hq
          obtain ⟨ρ1, hs, hq⟩ := liftN herr hq
          rw [bind_bind] at hq
          refine ⟨Z3, PyE.wipe ρ t.slots, μ2, d, ρ1, A4, r4, hs, fun σ' s' w => ⟨?_, ?_⟩⟩
          · rw [w t.slots fun i hi => hi]
            have wp : ∀ (l : List Nat) (σ : L2.St), (∀ i ∈ l, i ∈ t.slots) → L2.wipe (L2.wipe σ l) t.slots = L2.wipe σ t.slots := by
              intro l
              induction l with
              | nil => intro σ _; rfl
              | cons a r ih =>
                intro σ hl
                show L2.wipe ((L2.wipe σ r).set a none) t.slots = _
                rw [wipe_set (hl a List.mem_cons_self)]
                exact ih σ fun i hi => hl i (List.mem_cons_of_mem _ hi)
            exact wp _ _ fun i hi => hi
          · have A5 : At G Z3 Z3.H σ' ρ1 μ2 := ⟨rfl, s', R4⟩
            have A0 : At G Z3 Z3.H σ ρ μ2 := A3.ext X4 R4
            refine ⟨Z3, ρ1, μ2, A5, stepN herr A5 hq fun b Z4 μ4 b' A6 X6 e6 hq => ?_⟩
            subst e6
            have A0' : At G Z4 Z4.H σ ρ μ4 := A0.ext X6 A6.rel
            have hq' : P ((if b' = true then (eE C cl e ρ1 μ4).nox.bind fun x μ4 => .ok [x] μ4 else .ok [] μ4).bind fun o μ1 => ((compL s.okAt f (s.xs.drop (i + 1)) μ1).bind fun r μ2 => .ok (o ++ r) μ2).bind fun r μ3 => .ok (acc ++ r) μ3) := hq
            cases b' with
            | true =>
              rw [if_pos rfl]
              rw [if_pos rfl, bind_bind] at hq'
              refine ⟨Z4, ρ1, μ4, A6, stepN herr A6 hq' fun y Z5 μ5 yd A7 X7 r7 hq => ?_⟩
              have L5 : Lone Z5 D vs := (L3.ext X6).ext X7
              have X8 : Ext (Z2.lay D (.lst vs)) Z5 := (X4.trans X6).trans X7
              have A8 : At G Z5 Z5.H σ ρ μ5 := A0'.ext X7 A7.rel
              refine ⟨vs, L5.at_, by rw [← rv.length, ← LIM_eq]; omega, s.xs.length - (i + 1), by omega, rfl, hlt, Z5.drop D, μ5, acc ++ [yd], vs ++ [y], (L5.upd_drop).symm, drop_same, A8.dropped L5, x2.trans (Ext.dropped hn X8), ?_, by rw [List.length_append, List.length_singleton]; omega, ?_⟩
              · have q1 : RVs G Z5 acc vs := RVs.ext X8 (A2.rel.lay hn) _ _ (RVs.ext (Ext.lay hn) A2.rel _ _ rv)
                exact RVs.dropped L5 _ _ (q1.append (.one r7))
              · have e1 : ((compL s.okAt f (s.xs.drop (i + 1)) μ5).bind fun r μ3 => Res.ok (acc ++ [yd] ++ r) μ3) = ((compL s.okAt f (s.xs.drop (i + 1)) μ5).bind fun r μ2 => Res.ok ([yd] ++ r) μ2).bind fun r μ3 => .ok (acc ++ r) μ3 := by
                  rw [bind_bind]
                  congr 1
                  funext r μ3
                  show Res.ok (acc ++ [yd] ++ r) μ3 = Res.ok (acc ++ ([yd] ++ r)) μ3
                  rw [List.append_assoc]
                rw [e1]
                exact L.base _ _ _ (Ext.dropped hn X8) hq
            | false =>
              rw [if_neg Bool.false_ne_true]
              rw [if_neg Bool.false_ne_true] at hq'
              have L5 : Lone Z4 D vs := L3.ext X6
              have X8 : Ext (Z2.lay D (.lst vs)) Z4 := X4.trans X6
              refine ⟨s.xs.length - (i + 1), by omega, rfl, hlt, Z4.drop D, μ4, acc, vs, ?_, drop_same, A0'.dropped L5, x2.trans (Ext.dropped hn X8), ?_, by omega, ?_⟩
              · rw [L5.upd_drop]
                funext b
                by_cases e : b = D
                · rw [e, upd_same]; exact L5.at_
                · rw [upd_ne e]
              · exact RVs.dropped L5 _ _ (RVs.ext X8 (A2.rel.lay hn) _ _ (RVs.ext (Ext.lay hn) A2.rel _ _ rv))
              · have e1 : ((compL s.okAt f (s.xs.drop (i + 1)) μ4).bind fun r μ3 => Res.ok (acc ++ r) μ3) = ((compL s.okAt f (s.xs.drop (i + 1)) μ4).bind fun r μ2 => Res.ok ([] ++ r) μ2).bind fun r μ3 => .ok (acc ++ r) μ3 := by
                  rw [bind_bind]; rfl
                rw [e1]
                exact L.base _ _ _ (Ext.dropped hn X8) hq'
        · rw [if_neg hk] at hp'
          exact False.elim hp'
/-! ### two clauses -/
theorem L2wipe_app (σ : L2.St) (a b : List Nat) : L2.wipe σ (a ++ b) = L2.wipe (L2.wipe σ b) a := by
  induction a with
  | nil => rfl
  | cons x r ih =>
    show (L2.wipe σ (r ++ b)).set x none = (L2.wipe (L2.wipe σ b) r).set x none
    rw [ih]
theorem wipe_idem {l : List Nat} : ∀ {r : List Nat} {σ : L2.St}, (∀ i ∈ r, i ∈ l) → L2.wipe (L2.wipe σ r) l = L2.wipe σ l
  | [], _, _ => rfl
  | a :: r, σ, h => by
    show L2.wipe ((L2.wipe σ r).set a none) l = _
    rw [wipe_set (h a List.mem_cons_self)]
    exact wipe_idem fun i hi => h i (List.mem_cons_of_mem _ hi)
theorem compL_nx {ok : Mu → Bool} {f : D → Mu → Res (List D)} (hf : ∀ d μ c v μ', f d μ ≠ .exc c v μ') : ∀ (xs : List D) (μ : Mu) (c : Fid) (v : D) (μ' : Mu), compL ok f xs μ ≠ .exc c v μ'
  | [], μ, c, v, μ', h => by
    have h' : (if ok μ = true then Res.ok [] μ else .err) = .exc c v μ' := h
    split at h' <;> cases h'
  | d :: ds, μ, c, v, μ', h => by
    have h' : (if ok μ = true then (f d μ).bind fun o μ1 => (compL ok f ds μ1).bind fun r μ2 => .ok (o ++ r) μ2 else .err) = .exc c v μ' := h
    split at h'
    · cases e : f d μ with
      | err => rw [e] at h'; cases h'
      | exc a b m => exact hf _ _ _ _ _ e
      | ok o μ1 =>
        rw [e] at h'
        have h2 : ((compL ok f ds μ1).bind fun r μ2 => Res.ok (o ++ r) μ2) = .exc c v μ' := h'
        cases e2 : compL ok f ds μ1 with
        | err => rw [e2] at h2; cases h2
        | exc a b m => exact compL_nx hf _ _ _ _ _ e2
        | ok r μ2 => rw [e2] at h2; cases h2
    · cases h'
theorem bind_nx {α β : Type} {r : Res α} {f : α → Mu → Res β} (h1 : ∀ c v μ, r ≠ .exc c v μ) (h2 : ∀ a μ c v μ', f a μ ≠ .exc c v μ') : ∀ c v μ, r.bind f ≠ .exc c v μ := fun c v μ h => by
  cases r with
  | ok a m => exact h2 _ _ _ _ _ h
  | exc a b m => exact h1 _ _ _ rfl
  | err => cases h
theorem nox_nx {α : Type} {r : Res α} : ∀ c v μ, r.nox ≠ .exc c v μ := fun c v μ h => by cases r <;> cases h
theorem lift_nx {α : Type} {o : Option α} {μ : Mu} : ∀ c v μ', PyE.lift o μ ≠ .exc c v μ' := fun c v μ' h => by cases o <;> cases h
theorem ExtB.relay {Z : Wd} {a : Addr} {vs : List V} {o : HO} (L : Lone Z a vs) : ExtB Z ((Z.drop a).lay a o) where
  pre := List.prefix_refl _
  sub := fun _ h => h
  keepN := fun b u h m => by
    have hb : b ≠ a := fun e => by rw [e, L.at_] at h; cases h; exact m vs rfl
    show upd (Z.drop a).H a o b = _
    rw [upd_ne hb, drop_ne hb]; exact h
  keepS := fun b u s h => by
    have hb : b ≠ a := fun e => L.fz (by rw [← e]; exact s)
    show upd (Z.drop a).H a o b = _
    rw [upd_ne hb, drop_ne hb]; exact h
theorem Lone.undrop {Z : Wd} {a : Addr} {vs : List V} (L : Lone Z a vs) : upd (Z.drop a).H a (.lst vs) = Z.H := by
  rw [L.upd_drop]
  funext b
  by_cases e : b = a
  · rw [e, upd_same]; exact L.at_.symm
  · rw [upd_ne e]
noncomputable def fIn (C : Cfg) (cl : Cl) (t1 : Tg) (c e : CE) (ρ1 : Ro) : D → Mu → Res (List D) := fun d1 μ4 => (lift (setT μ4 t1 d1 (PyE.wipe ρ1 t1.slots)) μ4).bind fun ρ2 μ5 =>
  (eC C cl c ρ2 μ5).nox.bind fun b μ6 => if b = true then (eE C cl e ρ2 μ6).nox.bind fun x μ7 => .ok [x] μ7 else .ok [] μ6
noncomputable def fOut (C : Cfg) (cl : Cl) (t t1 : Tg) (it1 c e : CE) (ρ : Ro) : D → Mu → Res (List D) := fun d μ1 => (lift (setT μ1 t d (PyE.wipe (PyE.wipe ρ t1.slots) t.slots)) μ1).bind fun ρ1 μ2 =>
  (eI C cl it1 ρ1 μ2).nox.bind fun s1 μ3 => compL s1.okAt (fIn C cl t1 c e ρ1) s1.xs μ3
theorem fIn_nx {t1 : Tg} {c e : CE} {ρ1 : Ro} : ∀ d μ k v μ', fIn C cl t1 c e ρ1 d μ ≠ .exc k v μ' := fun d μ => bind_nx lift_nx fun ρ2 μ5 => bind_nx nox_nx fun b μ6 c v μ' => by
  cases b with
  | true => rw [if_pos rfl]; exact bind_nx nox_nx (fun x μ7 c v μ' h => by cases h) c v μ'
  | false => rw [if_neg Bool.false_ne_true]; intro h; cases h
theorem fOut_nx {t t1 : Tg} {it1 c e : CE} {ρ : Ro} : ∀ d μ k v μ', fOut C cl t t1 it1 c e ρ d μ ≠ .exc k v μ' := fun d μ => bind_nx lift_nx fun ρ1 μ2 => bind_nx nox_nx fun s1 μ3 => compL_nx fIn_nx _ _
noncomputable def eL2 (C : Cfg) (cl : Cl) (t : Tg) (it : CE) (t1 : Tg) (it1 c e : CE) (ρ : Ro) (μ : Mu) : Res (List D) := (eI C cl it ρ μ).bind fun s μ0 => (compL s.okAt (fOut C cl t t1 it1 c e ρ) s.xs μ0).bind chk
end
end PyE
set_option maxRecDepth 100000
set_option maxHeartbeats 4000000
/-! a comprehension with two clauses -/
namespace PyE
open PySem PySem.Spec PyProof.Rows L2
section
variable {G : Gi} {C : Cfg} {T : Tb} {cl : Cl} {n : En} {W : WX} {k : Nat} {X : Cx} {σ : L2.St} {H : Hp}
/-- what is still to do in the outer walk, with so much gathered -/
noncomputable def kOut (C : Cfg) (cl : Cl) (t t1 : Tg) (it1 c e : CE) (ρ : Ro) (s : Src) (i : Nat) (acc : List D) (μ : Mu) : Res (List D) := (compL s.okAt (fOut C cl t t1 it1 c e ρ) (s.xs.drop i) μ).bind fun r μ3 => chk (acc ++ r) μ3
noncomputable def kIn (C : Cfg) (cl : Cl) (t t1 : Tg) (it1 c e : CE) (ρ : Ro) (s : Src) (i : Nat) (ρ1 : Ro) (s1 : Src) (j : Nat) (acc : List D) (μ : Mu) : Res (List D) := (compL s1.okAt (fIn C cl t1 c e ρ1) (s1.xs.drop j) μ).bind fun r μ' => kOut C cl t t1 it1 c e ρ s i (acc ++ r) μ'
theorem chk_nx {xs : List D} {μ : Mu} : ∀ c v μ', chk xs μ ≠ .exc c v μ' := fun c v μ' h => by
  unfold chk at h
  split at h <;> cases h
section
variable {t t1 : Tg} {it1 c e : CE} {ρ : Ro} {s : Src}
theorem kOut_len {P : Res (List D) → Prop} (he : ¬ P .err) {i : Nat} {acc : List D} {μ : Mu} (h : P (kOut C cl t t1 it1 c e ρ s i acc μ)) : acc.length ≤ LIM := by
  unfold kOut at h
  cases q : compL s.okAt (fOut C cl t t1 it1 c e ρ) (s.xs.drop i) μ with
  | err => rw [q] at h; exact absurd h he
  | exc a b m => exact absurd q (compL_nx fOut_nx _ _ _ _ _)
  | ok r μ1 =>
    rw [q] at h
    have h' : P (chk (acc ++ r) μ1) := h
    unfold chk at h'
    by_cases z : (acc ++ r).length ≤ LIM
    · rw [List.length_append] at z; omega
    · rw [if_neg z] at h'; exact absurd h' he
theorem kIn_len {P : Res (List D) → Prop} (he : ¬ P .err) {i j : Nat} {ρ1 : Ro} {s1 : Src} {acc : List D} {μ : Mu} (h : P (kIn C cl t t1 it1 c e ρ s i ρ1 s1 j acc μ)) : acc.length ≤ LIM := by
  unfold kIn at h
  cases q : compL s1.okAt (fIn C cl t1 c e ρ1) (s1.xs.drop j) μ with
  | err => rw [q] at h; exact absurd h he
  | exc a b m => exact absurd q (compL_nx fIn_nx _ _ _ _ _)
  | ok r μ1 =>
    rw [q] at h
    have := kOut_len he (show P (kOut C cl t t1 it1 c e ρ s i (acc ++ r) μ1) from h)
    rw [List.length_append] at this
    omega
theorem drop_at {xs : List D} {i : Nat} (h : i < xs.length) : ∃ d, xs[i]? = some d ∧ xs.drop i = d :: xs.drop (i + 1) := ⟨xs[i], List.getElem?_eq_getElem h, List.drop_eq_getElem_cons h⟩
theorem kOut_end {P : Res (List D) → Prop} (he : ¬ P .err) {i : Nat} {acc : List D} {μ : Mu} (hi : i = s.xs.length) (h : P (kOut C cl t t1 it1 c e ρ s i acc μ)) : s.okAt μ = true ∧ P (.ok acc μ) ∧ acc.length ≤ LIM := by
  have hl := kOut_len he h
  unfold kOut at h
  rw [hi, List.drop_length] at h
  have h' : P ((if s.okAt μ = true then Res.ok [] μ else .err).bind fun r μ3 => chk (acc ++ r) μ3) := h
  by_cases hk : s.okAt μ = true
  · rw [if_pos hk] at h'
    have h2 : P (chk (acc ++ []) μ) := h'
    rw [List.append_nil] at h2
    unfold chk at h2
    rw [if_pos hl] at h2
    exact ⟨hk, h2, hl⟩
  · rw [if_neg hk] at h'
    exact absurd h' he
theorem kOut_turn {P : Res (List D) → Prop} (he : ¬ P .err) {i : Nat} {acc : List D} {μ : Mu} {d : D} (hd : s.xs.drop i = d :: s.xs.drop (i + 1)) (h : P (kOut C cl t t1 it1 c e ρ s i acc μ)) :
    s.okAt μ = true ∧ ∃ ρ1, setT μ t d (PyE.wipe (PyE.wipe ρ t1.slots) t.slots) = some ρ1 ∧ P ((eI C cl it1 ρ1 μ).nox.bind fun s1 μ3 => kIn C cl t t1 it1 c e ρ s (i + 1) ρ1 s1 0 acc μ3) := by
  unfold kOut at h
  rw [hd] at h
  have h' : P ((if s.okAt μ = true then (fOut C cl t t1 it1 c e ρ d μ).bind fun o μ1 => (compL s.okAt (fOut C cl t t1 it1 c e ρ) (s.xs.drop (i + 1)) μ1).bind fun r μ2 => .ok (o ++ r) μ2 else .err).bind fun r μ3 => chk (acc ++ r) μ3) := h
  by_cases hk : s.okAt μ = true
  · rw [if_pos hk, bind_bind] at h'
    have hf : fOut C cl t t1 it1 c e ρ d μ = (lift (setT μ t d (PyE.wipe (PyE.wipe ρ t1.slots) t.slots)) μ).bind fun ρ1 μ2 => (eI C cl it1 ρ1 μ2).nox.bind fun s1 μ3 => compL s1.okAt (fIn C cl t1 c e ρ1) s1.xs μ3 := rfl
    rw [hf, bind_bind] at h'
    obtain ⟨ρ1, e1, h2⟩ := liftN he h'
    refine ⟨hk, ρ1, e1, ?_⟩
    rw [bind_bind] at h2
    have e2 : ((eI C cl it1 ρ1 μ).nox.bind fun s1 μ3 => kIn C cl t t1 it1 c e ρ s (i + 1) ρ1 s1 0 acc μ3) = (eI C cl it1 ρ1 μ).nox.bind fun s1 μ3 => (compL s1.okAt (fIn C cl t1 c e ρ1) s1.xs μ3).bind fun o μ1 => ((compL s.okAt (fOut C cl t t1 it1 c e ρ) (s.xs.drop (i + 1)) μ1).bind fun r μ2 => Res.ok (o ++ r) μ2).bind fun r μ3 => chk (acc ++ r) μ3 := by
      congr 1
      funext s1 μ3
      unfold kIn kOut
      rw [List.drop_zero]
      congr 1
      funext o μ1
      rw [bind_bind]
      congr 1
      funext r μ2
      show chk (acc ++ o ++ r) μ2 = chk (acc ++ (o ++ r)) μ2
      rw [List.append_assoc]
    rw [e2]
    exact h2
  · rw [if_neg hk] at h'
    exact absurd h' he
theorem kIn_end {P : Res (List D) → Prop} (he : ¬ P .err) {i j : Nat} {ρ1 : Ro} {s1 : Src} {acc : List D} {μ : Mu} (hj : j = s1.xs.length) (h : P (kIn C cl t t1 it1 c e ρ s i ρ1 s1 j acc μ)) : s1.okAt μ = true ∧ P (kOut C cl t t1 it1 c e ρ s i acc μ) := by
  unfold kIn at h
  rw [hj, List.drop_length] at h
  have h' : P ((if s1.okAt μ = true then Res.ok [] μ else .err).bind fun r μ' => kOut C cl t t1 it1 c e ρ s i (acc ++ r) μ') := h
  by_cases hk : s1.okAt μ = true
  · rw [if_pos hk] at h'
    have h2 : P (kOut C cl t t1 it1 c e ρ s i (acc ++ []) μ) := h'
    rw [List.append_nil] at h2
    exact ⟨hk, h2⟩
  · rw [if_neg hk] at h'
    exact absurd h' he
theorem kIn_turn {P : Res (List D) → Prop} (he : ¬ P .err) {i j : Nat} {ρ1 : Ro} {s1 : Src} {acc : List D} {μ : Mu} {d : D} (hd : s1.xs.drop j = d :: s1.xs.drop (j + 1)) (h : P (kIn C cl t t1 it1 c e ρ s i ρ1 s1 j acc μ)) :
    s1.okAt μ = true ∧ ∃ ρ2, setT μ t1 d (PyE.wipe ρ1 t1.slots) = some ρ2 ∧ P ((eC C cl c ρ2 μ).nox.bind fun b μ6 => if b = true then (eE C cl e ρ2 μ6).nox.bind fun x μ7 => kIn C cl t t1 it1 c e ρ s i ρ1 s1 (j + 1) (acc ++ [x]) μ7 else kIn C cl t t1 it1 c e ρ s i ρ1 s1 (j + 1) acc μ6) := by
  unfold kIn at h
  rw [hd] at h
  have h' : P ((if s1.okAt μ = true then (fIn C cl t1 c e ρ1 d μ).bind fun o μ1 => (compL s1.okAt (fIn C cl t1 c e ρ1) (s1.xs.drop (j + 1)) μ1).bind fun r μ2 => .ok (o ++ r) μ2 else .err).bind fun r μ' => kOut C cl t t1 it1 c e ρ s i (acc ++ r) μ') := h
  by_cases hk : s1.okAt μ = true
  · rw [if_pos hk, bind_bind] at h'
    have hf : fIn C cl t1 c e ρ1 d μ = (lift (setT μ t1 d (PyE.wipe ρ1 t1.slots)) μ).bind fun ρ2 μ5 => (eC C cl c ρ2 μ5).nox.bind fun b μ6 => if b = true then (eE C cl e ρ2 μ6).nox.bind fun x μ7 => .ok [x] μ7 else .ok [] μ6 := rfl
    rw [hf, bind_bind] at h'
    obtain ⟨ρ2, e1, h2⟩ := liftN he h'
    refine ⟨hk, ρ2, e1, ?_⟩
    rw [bind_bind] at h2
    have e2 : ((eC C cl c ρ2 μ).nox.bind fun b μ6 => if b = true then (eE C cl e ρ2 μ6).nox.bind fun x μ7 => kIn C cl t t1 it1 c e ρ s i ρ1 s1 (j + 1) (acc ++ [x]) μ7 else kIn C cl t t1 it1 c e ρ s i ρ1 s1 (j + 1) acc μ6) =
        (eC C cl c ρ2 μ).nox.bind fun b μ6 => (if b = true then (eE C cl e ρ2 μ6).nox.bind fun x μ7 => Res.ok [x] μ7 else .ok [] μ6).bind fun o μ1 => ((compL s1.okAt (fIn C cl t1 c e ρ1) (s1.xs.drop (j + 1)) μ1).bind fun r μ2 => Res.ok (o ++ r) μ2).bind fun r μ' => kOut C cl t t1 it1 c e ρ s i (acc ++ r) μ' := by
      congr 1
      funext b μ6
      cases b with
      | true =>
        rw [if_pos rfl, if_pos rfl, bind_bind]
        congr 1
        funext x μ7
        unfold kIn
        show _ = ((compL s1.okAt (fIn C cl t1 c e ρ1) (s1.xs.drop (j + 1)) μ7).bind fun r μ2 => Res.ok ([x] ++ r) μ2).bind fun r μ' => kOut C cl t t1 it1 c e ρ s i (acc ++ r) μ'
        rw [bind_bind]
        congr 1
        funext r μ8
        show kOut C cl t t1 it1 c e ρ s i (acc ++ [x] ++ r) μ8 = kOut C cl t t1 it1 c e ρ s i (acc ++ ([x] ++ r)) μ8
        rw [List.append_assoc]
      | false =>
        rw [if_neg Bool.false_ne_true, if_neg Bool.false_ne_true]
        unfold kIn
        show _ = ((compL s1.okAt (fIn C cl t1 c e ρ1) (s1.xs.drop (j + 1)) μ6).bind fun r μ2 => Res.ok ([] ++ r) μ2).bind fun r μ' => kOut C cl t t1 it1 c e ρ s i (acc ++ r) μ'
        rw [bind_bind]
        rfl
    rw [e2]
    exact h2
  · rw [if_neg hk] at h'
    exact absurd h' he
end
theorem yes_if {A B : Hp → Prop} {σ : L2.St} {H : Hp} (h : A H) : tYes σ H fun b H3 => if b = true then A H3 else B H3 := by
  show (if true = true then A H else B H)
  rw [if_pos rfl]
  exact h
theorem lc2_read {t t1 : Tg} {it it1 c e : CE} {Q : VK} (h : tL G W (eL2 C cl t it t1 it1 c e) σ H Q) :
    tLc2 (tI G W (eI C cl it)) (gT G t) tYes (tI G W0 (eI C cl it1)) (gT G t1) (tT G W0 (eC C cl c)) (tE G W0 (eE C cl e)) (t.slots ++ t1.slots) t1.slots σ H Q := by
  obtain ⟨Z, ρ, μ, A, h⟩ := h
  have L := like_pstL (G := G) (W := W) (σ := σ) Q
  have nErr : ∀ Z, ¬ PstL G W σ Z .err Q := fun Z z => z
  refine ⟨Z, ρ, μ, A, ?_⟩
  have h' : PstL G W σ Z ((eI C cl it ρ μ).bind fun s μ0 => (compL s.okAt (fOut C cl t t1 it1 c e ρ) s.xs μ0).bind chk) Q := h
  revert h'
  cases eI C cl it ρ μ with
  | err => exact fun h' => h'
  | exc c d μ1 => exact fun h' => h'
  | ok s μ0 =>
    intro h' J Z1 x1 R1 ok1 pD hD
    obtain ⟨hz, ok1⟩ := ok1
    have h1 : PstL G W σ Z1 (kOut C cl t t1 it1 c e ρ s 0 [] μ0) Q := by
      have := L.base _ _ _ x1 h'
      unfold kOut
      rw [List.drop_zero]
      exact this
    let Iv : Nat → Hp → Prop := fun i H => i ≤ s.xs.length ∧ ∃ Z2 μ2 acc vs, H = upd Z2.H pD (.lst vs) ∧ Z2.H pD = none ∧ At G Z2 Z2.H σ ρ μ2 ∧ Ext Z1 Z2 ∧ RVs G Z2 acc vs ∧ PstL G W σ Z2 (kOut C cl t t1 it1 c e ρ s i acc μ2) Q
    refine ⟨fun i m H => m = s.xs.length - i ∧ Iv i H, ⟨s.xs.length, rfl, Nat.zero_le _, Z1, μ0, [], [], rfl, hD, A.ext x1 R1, Ext.refl _, rfl, h1⟩, ?_⟩
    rintro i m H ⟨rfl, hi, Z2, μ2, acc, vs, rfl, hn, A2, x2, rv, hp⟩
    have A3 : At G (Z2.lay pD (.lst vs)) (Z2.lay pD (.lst vs)).H σ ρ μ2 := A2.ext (Ext.lay hn) (A2.rel.lay hn)
    have X3 : Ext Z1 (Z2.lay pD (.lst vs)) := x2.trans (Ext.lay hn)
    by_cases he : i = s.xs.length
    · left
      obtain ⟨hk, q, hl⟩ := kOut_end (P := fun r => PstL G W σ Z2 r Q) (nErr Z2) he hp
      exact ⟨(ok1 i _ μ2 (X3.b R1) A3.rel hk).2 (by rw [he]; exact Nat.le_refl _), (show PrP G Z2 μ2 (.new acc) Q from q) pD vs Z2 (Ext.refl _) A2.rel hn rv hl⟩
    · right
      have hlt : i < s.xs.length := by omega
      obtain ⟨d, hd, hdr⟩ := drop_at hlt
      obtain ⟨hk, ρ1, hs, hq⟩ := kOut_turn (P := fun r => PstL G W σ Z2 r Q) (nErr Z2) hdr hp
      obtain ⟨og, oy⟩ := (ok1 i _ μ2 (X3.b R1) A3.rel hk).1 d hd
      refine ⟨og, fun H' => ∃ m', m' < s.xs.length - i ∧ m' = s.xs.length - (i + 1) ∧ Iv (i + 1) H', fun H' q => q, fun x H' hy => ?_⟩
      obtain ⟨Z3, rfl, X4, R4, r4⟩ := oy x H' hy
      have L3 : Lone Z3 pD vs := (lone_lay A2.rel hn).ext X4
      have S3 := A3.se.ext X4 A3.rel
      refine ⟨Z3, PyE.wipe (PyE.wipe ρ t1.slots) t.slots, μ2, d, ρ1, ⟨rfl, ?_, R4⟩, r4, hs, fun σ' s' w => ⟨?_, ?_⟩⟩
      · rw [L2wipe_app]
        exact (S3.wipe _).wipe _
      · rw [w (t.slots ++ t1.slots) fun i hi => List.mem_append_left _ hi]
        exact wipe_idem fun i hi => hi
      · refine yes_if ?_
        have A5 : At G Z3 Z3.H σ' ρ1 μ2 := ⟨rfl, s', R4⟩
        have A0 : At G Z3 Z3.H σ ρ μ2 := A3.ext X4 R4
        refine ⟨Z3, ρ1, μ2, A5, ?_⟩
        revert hq
        cases eI C cl it1 ρ1 μ2 with
        | err => exact fun hq => hq
        | exc a b m => exact fun hq => False.elim (nErr Z2 hq)
        | ok s1 μ3 =>
          intro hq J1 Z4 x4 R4' ok2
          obtain ⟨hz1, ok2⟩ := ok2
          have hq0 : PstL G W σ Z2 (kIn C cl t t1 it1 c e ρ s (i + 1) ρ1 s1 0 acc μ3) Q := hq
          have L4 : Lone Z4 pD vs := L3.ext x4
          have X5 : Ext (Z2.lay pD (.lst vs)) Z4 := X4.trans x4
          have A04 : At G Z4 Z4.H σ ρ μ3 := A0.ext x4 R4'
          have A54 : At G Z4 Z4.H σ' ρ1 μ3 := A5.ext x4 R4'
          let Jv : Nat → Hp → Prop := fun j H => j ≤ s1.xs.length ∧ ∃ Z5 μ5 acc5 vs5, H = upd Z5.H pD (.lst vs5) ∧ Z5.H pD = none ∧ At G Z5 Z5.H σ ρ μ5 ∧ SE G Z5 σ' ρ1 ∧ ExtB Z4 (Z5.lay pD (.lst vs5)) ∧ Ext Z2 Z5 ∧ RVs G Z5 acc5 vs5 ∧
            PstL G W σ Z5 (kIn C cl t t1 it1 c e ρ s (i + 1) ρ1 s1 j acc5 μ5) Q
          have E24 : Ext Z2 (Z4.drop pD) := Ext.dropped hn X5
          refine ⟨fun j m H => m = s1.xs.length - j ∧ Jv j H, ⟨s1.xs.length, rfl, Nat.zero_le _, Z4.drop pD, μ3, acc, vs, L4.undrop.symm, drop_same, A04.dropped L4, A54.se.dropped L4, ExtB.relay L4, E24, RVs.dropped L4 _ _ (RVs.ext X5 (A2.rel.lay hn) _ _ (RVs.ext (Ext.lay hn) A2.rel _ _ rv)), L.base _ _ _ E24 hq0⟩, ?_⟩
          rintro j m H ⟨rfl, hj, Z5, μ5, acc5, vs5, rfl, hn5, A6, S6, B6, x6, rv5, hp5⟩
          have A7 : At G (Z5.lay pD (.lst vs5)) (Z5.lay pD (.lst vs5)).H σ ρ μ5 := A6.ext (Ext.lay hn5) (A6.rel.lay hn5)
          have S7 : SE G (Z5.lay pD (.lst vs5)) σ' ρ1 := S6.ext (Ext.lay hn5) A6.rel
          by_cases hje : j = s1.xs.length
          · left
            obtain ⟨hk1, q⟩ := kIn_end (P := fun r => PstL G W σ Z5 r Q) (nErr Z5) hje hp5
            exact ⟨(ok2 j _ μ5 B6 A7.rel hk1).2 (by rw [hje]; exact Nat.le_refl _), s.xs.length - (i + 1), by omega, rfl, hlt, Z5, μ5, acc5, vs5, rfl, hn5, A6, x2.trans x6, rv5, q⟩
          · right
            have hjlt : j < s1.xs.length := by omega
            obtain ⟨d1, hd1, hdr1⟩ := drop_at hjlt
            obtain ⟨hk1, ρ2, hs1, hq1⟩ := kIn_turn (P := fun r => PstL G W σ Z5 r Q) (nErr Z5) hdr1 hp5
            obtain ⟨og1, oy1⟩ := (ok2 j _ μ5 B6 A7.rel hk1).1 d1 hd1
            refine ⟨og1, fun H' => ∃ m', m' < s1.xs.length - j ∧ m' = s1.xs.length - (j + 1) ∧ Jv (j + 1) H', fun H' q => q, fun x1' H' hy1 => ?_⟩
            obtain ⟨Z6, rfl, X7, R7, r7⟩ := oy1 x1' H' hy1
            have L6 : Lone Z6 pD vs5 := (lone_lay A6.rel hn5).ext X7
            refine ⟨Z6, PyE.wipe ρ1 t1.slots, μ5, d1, ρ2, ⟨rfl, (S7.ext X7 A7.rel).wipe _, R7⟩, r7, hs1, fun σ'' s'' w1 => ⟨?_, ?_⟩⟩
            · rw [w1 t1.slots fun i hi => hi]
              exact wipe_idem fun i hi => hi
            · have A8 : At G Z6 Z6.H σ'' ρ2 μ5 := ⟨rfl, s'', R7⟩
              have A9 : At G Z6 Z6.H σ ρ μ5 := A7.ext X7 R7
              have S9 : SE G Z6 σ' ρ1 := S7.ext X7 A7.rel
              refine ⟨Z6, ρ2, μ5, A8, stepN (P := fun r => PstL G W σ Z5 r Q) (nErr Z5) A8 hq1 fun b Z7 μ7 b' A10 X8 e8 hq2 => ?_⟩
              subst e8
              have Bx : ∀ {Zf : Wd} {o : HO}, Ext Z6 Zf → Lone Zf pD vs5 → ExtB Z4 ((Zf.drop pD).lay pD o) := fun {Zf o} xf lf => B6.trans (((X7.trans xf).b A7.rel).trans (ExtB.relay lf))
              cases b' with
              | true =>
                rw [if_pos rfl]
                have hq2' : PstL G W σ Z5 ((eE C cl e ρ2 μ7).nox.bind fun x μ8 => kIn C cl t t1 it1 c e ρ s (i + 1) ρ1 s1 (j + 1) (acc5 ++ [x]) μ8) Q := by
                  have q := hq2
                  rw [if_pos rfl] at q
                  exact q
                refine ⟨Z7, ρ2, μ7, A10, stepN (P := fun r => PstL G W σ Z5 r Q) (nErr Z5) A10 hq2' fun y Z8 μ8 yd A11 X9 r9 hq3 => ?_⟩
                have X10 : Ext Z6 Z8 := X8.trans X9
                have L8 : Lone Z8 pD vs5 := L6.ext X10
                have E58 : Ext Z5 (Z8.drop pD) := Ext.dropped hn5 (X7.trans X10)
                have hlen := kIn_len (P := fun r => PstL G W σ Z5 r Q) (nErr Z5) hq3
                rw [List.length_append, List.length_singleton] at hlen
                refine ⟨vs5, L8.at_, by rw [← rv5.length, ← LIM_eq]; omega, s1.xs.length - (j + 1), by omega, rfl, hjlt, Z8.drop pD, μ8, acc5 ++ [yd], vs5 ++ [y], L8.upd_drop.symm, drop_same, (A9.ext X10 A11.rel).dropped L8, (S9.ext X10 A9.rel).dropped L8, Bx X10 L8, x6.trans E58, ?_, L.base _ _ _ E58 hq3⟩
                have q1 : RVs G Z8 acc5 vs5 := RVs.ext (X7.trans X10) A7.rel _ _ (RVs.ext (Ext.lay hn5) A6.rel _ _ rv5)
                exact RVs.dropped L8 _ _ (q1.append (.one r9))
              | false =>
                rw [if_neg Bool.false_ne_true]
                have hq2' : PstL G W σ Z5 (kIn C cl t t1 it1 c e ρ s (i + 1) ρ1 s1 (j + 1) acc5 μ7) Q := by
                  have q := hq2
                  rw [if_neg Bool.false_ne_true] at q
                  exact q
                have L8 : Lone Z7 pD vs5 := L6.ext X8
                have E58 : Ext Z5 (Z7.drop pD) := Ext.dropped hn5 (X7.trans X8)
                refine ⟨s1.xs.length - (j + 1), by omega, rfl, hjlt, Z7.drop pD, μ7, acc5, vs5, L8.undrop.symm, drop_same, (A9.ext X8 A10.rel).dropped L8, (S9.ext X8 A9.rel).dropped L8, Bx X8 L8, x6.trans E58, ?_, L.base _ _ _ E58 hq2'⟩
                exact RVs.dropped L8 _ _ (RVs.ext (X7.trans X8) A7.rel _ _ (RVs.ext (Ext.lay hn5) A6.rel _ _ rv5))
end
end PyE
set_option maxRecDepth 100000
set_option maxHeartbeats 4000000
/-! calls of own functions -/
namespace PyE
open PySem PySem.Spec PyProof.Rows L2
section
variable {G : Gi} {C : Cfg} {T : Tb} {cl : Cl} {n : En} {W : WX} {k : Nat} {X : Cx} {σ : L2.St} {H : Hp}
theorem run_g (c : CxE G C T cl n W k X) {kwl : List (Nat × List Str × List Nat)} {fd : FuncData} {ps : List Str} {f : Addr} {sp : Sp} (F : FnG G kwl fd ps k f sp) (hl : ∀ vs H Q E, sp vs H Q E → vs.length = ps.length) {pins : List (Addr × Obj)} {s : Shared} {Q : VK} {us : List Value} {vs : List V} (args : Args)
    (hb : us.length = ps.length → BindsTo s fd args (ps.zip us)) (I : Inv X pins σ H s) (r : Vals vs us) (h : sp vs H Q (WE W σ)) {kw : List (Str × Value)} {pos : List Value} (ea : args = ⟨pos, kw⟩) :
    wpAny (model X.prog X.w) X.A (call (.ref f) pos kw) (EP X pins σ Q) X.xe s := by
  have hl' : us.length = ps.length := by rw [← r.length]; exact hl _ _ _ _ h
  have e0 : Env0 G.P G.w G.K G.mg G.base X.A X.stack s H := by
    have := I.env0
    rw [c.prog, c.w, c.K, c.mg, c.base] at this
    exact this
  have hx := passAt c.tk σ
  subst ea
  have hr := F.run X.A X.stack s H ⟨pos, kw⟩ us vs Q (WE W σ) c.gd c.room e0 (hb hl') r h
  rw [← c.prog, ← c.w] at hr
  refine wpAny_call (codeAny_mono hr fun q s' hq => ?_)
  cases q with
  | error e => exact hx pins H s e s' I hq
  | ok fl =>
    cases fl with
    | ret u => exact I.after hq
    | next => exact False.elim hq
    | brk => exact False.elim hq
    | cont => exact False.elim hq
theorem sp_len {q : Nat} {m : List D → Mu → Res D} {vs : List V} {Q : VK} {E : XK} (h : spOf G q m vs H Q E) : vs.length = q := h.1
/-- what a call asks, from where it stands -/
theorem call_at {f : Fid} {Z : Wd} {ρ : Ro} {μ : Mu} {ds : List D} {vs : List V} {Q : VK} (hl : vs.length = T.ps f) (A : At G Z Z.H σ ρ μ) (r : RVs G Z ds vs) (h : Pst G W σ (RV G) Z (cl f ds μ) Q) : spOf G (T.ps f) (cl f) vs Z.H Q (WE W σ) :=
  ⟨hl, Z, μ, ds, rfl, A.rel, r, h⟩
theorem permD_range (vs : List D) : permD (List.range vs.length) vs = some vs := by
  have key : ∀ (l pre : List D), permD (List.range' pre.length l.length) (pre ++ l) = some l := by
    intro l
    induction l with
    | nil => intro pre; rfl
    | cons a r ih =>
      intro pre
      rw [List.length_cons, List.range'_succ]
      show ((pre ++ a :: r)[pre.length]?).bind (fun d => (permD (List.range' (pre.length + 1) r.length) (pre ++ a :: r)).map fun q => d :: q) = _
      rw [List.getElem?_append_right (Nat.le_refl _), Nat.sub_self]
      have h := ih (pre ++ [a])
      rw [List.length_append, List.length_singleton, List.append_assoc, List.singleton_append] at h
      rw [h]; rfl
  have := key vs []
  rw [List.range_eq_range']
  simpa using this
theorem callA_inv {f : Fid} {perm : List Nat} {x : Expr} {xs : List Expr} (h : callA T n f perm x = some xs) : ∃ y p pos es kws, x = .Call (.Name y p) es kws pos ∧ isFnN T n y f = true ∧ es.all notStar = true ∧
    ((kws = [] ∧ xs = es ∧ perm = List.range xs.length ∧ T.ps f = xs.length) ∨
     (kws ≠ [] ∧ xs = es ++ kws.map kwVal ∧ kws.all kwNamed = true ∧ T.kw.contains (f, es.length, kws.filterMap kwName, perm) = true ∧ perm.length = T.ps f ∧ perm.all (fun i => decide (i < es.length + kws.length)) = true)) := by
  unfold callA at h
  split at h
  · split at h
    · rename_i q; cases h; exact ⟨_, _, _, _, _, rfl, q.1, q.2.1, .inl ⟨rfl, rfl, q.2.2.1, q.2.2.2⟩⟩
    · cases h
  · rename_i hne
    split at h
    · rename_i q; cases h
      exact ⟨_, _, _, _, _, rfl, q.1, q.2.1, .inr ⟨fun e => by subst e; first | exact hne rfl | exact hne _ rfl | exact hne _ _ rfl | simp at hne, rfl, q.2.2.1, q.2.2.2.1, q.2.2.2.2.1, q.2.2.2.2.2⟩⟩
    · cases h
  · cases h
/-- items in two parts -/
theorem its_split : ∀ {es : CE} {xs ys : List Expr}, Its G C cl W X es (xs ++ ys) → ∃ e1 e2, Its G C cl W X e1 xs ∧ Its G C cl W X e2 ys ∧ ∀ ρ μ, eA C cl es ρ μ = (eA C cl e1 ρ μ).bind fun a μ1 => (eA C cl e2 ρ μ1).bind fun b μ2 => .ok (a ++ b) μ2
  | es, [], ys, h => ⟨.nil, es, rfl, h, fun ρ μ => by
      show _ = (eA C cl es ρ μ).bind fun b μ2 => .ok b μ2
      cases eA C cl es ρ μ <;> rfl⟩
  | es, x :: xs, ys, h => by
    obtain ⟨e, r, rfl, hs, p, q⟩ := its_cons (show Its G C cl W X es (x :: (xs ++ ys)) from h)
    obtain ⟨e1, e2, i1, i2, ee⟩ := its_split q
    refine ⟨.cons e e1, e2, ⟨x, xs, rfl, hs, p, i1⟩, i2, fun ρ μ => ?_⟩
    show (eE C cl e ρ μ).bind (fun d μ1 => (eA C cl r ρ μ1).bind fun ds μ2 => .ok (d :: ds) μ2) = ((eE C cl e ρ μ).bind (fun d μ1 => (eA C cl e1 ρ μ1).bind fun ds μ2 => .ok (d :: ds) μ2)).bind _
    cases eE C cl e ρ μ with
    | err => rfl
    | exc c v μ1 => rfl
    | ok d μ1 =>
      show (eA C cl r ρ μ1).bind (fun ds μ2 => .ok (d :: ds) μ2) = ((eA C cl e1 ρ μ1).bind (fun ds μ2 => .ok (d :: ds) μ2)).bind _
      rw [ee]
      cases eA C cl e1 ρ μ1 with
      | err => rfl
      | exc c v μ2 => rfl
      | ok a μ2 =>
        show ((eA C cl e2 ρ μ2).bind fun b μ3 => .ok (a ++ b) μ3).bind _ = (eA C cl e2 ρ μ2).bind fun b μ3 => .ok ((d :: a) ++ b) μ3
        cases eA C cl e2 ρ μ2 <;> rfl
theorem pk_mono {X : Cx} {e : List Keyword} {t t' : TA} (h : PK X e t) (m : ∀ σ H Q, t' σ H Q → t σ H Q) : PK X e t' := ⟨fun pos pins s σ H Q I q => h.run pos pins s σ H Q I (m σ H Q q)⟩
theorem its_pk : ∀ {es : CE} {kws : List Keyword}, Its G C cl W X es (kws.map kwVal) → PK X kws (tA G W (eA C cl es))
  | es, [], h => by
    rw [its_nil h]
    refine pk_mono pk_nil fun σ H Q q => ?_
    obtain ⟨Z, ρ, μ, A, q⟩ := q
    have q' : ∀ b Z', Ext Z Z' → Rel G Z' μ → RVs G Z' [] b → Q b Z'.H := q
    have := q' [] Z (Ext.refl Z) A.rel rfl
    rw [A.hp] at this
    exact this
  | es, ⟨nm, x, kp⟩ :: kws, h => by
    obtain ⟨e, r, rfl, hs, p, q⟩ := its_cons (show Its G C cl W X es (x :: kws.map kwVal) from h)
    refine pk_mono (pk_cons p (its_pk q)) fun σ H Q q => ?_
    obtain ⟨Z, ρ, μ, A, q⟩ := q
    have L := like_pst (G := G) (W := W) (σ := σ) (RVs G) Q
    refine ⟨Z, ρ, μ, A, step L (r := eE C cl e ρ μ) A q fun v Z1 μ1 d A1 X1 r1 h1 => ⟨Z1, ρ, μ1, A1, step L A1 h1 fun vs Z2 μ2 ds A2 X2 r2 h2 => ?_⟩⟩
    have h2' : ∀ b Z', Ext Z2 Z' → Rel G Z' μ2 → RVs G Z' (d :: ds) b → Q b Z'.H := h2
    exact h2' (v :: vs) Z2 (Ext.refl _) A2.rel ⟨v, vs, rfl, RV.ext X2 A1.rel _ _ r1, r2⟩
theorem permL_cons {α : Type} (i : Nat) (p : List Nat) (l : List α) {a : α} (h : l[i]? = some a) : permL (i :: p) l = a :: permL p l := by
  unfold permL
  rw [List.filterMap_cons, h]
theorem permD_rvs {Z : Wd} {ds : List D} {vs : List V} (r : RVs G Z ds vs) : ∀ {perm : List Nat} {es : List D}, permD perm ds = some es → RVs G Z es (permL perm vs)
  | [], es, h => by
    have e : es = [] := by cases (show some ([] : List D) = some es from h); rfl
    subst e; rfl
  | i :: p, es, h => by
    obtain ⟨d, e1, h⟩ := Option.bind_eq_some_iff.mp (show (ds[i]?).bind (fun d => (permD p ds).map fun r => d :: r) = some es from h)
    obtain ⟨q, e2, rfl⟩ := Option.map_eq_some_iff.mp h
    obtain ⟨v, e3, e4⟩ := r.get e1
    rw [permL_cons i p vs e3]
    exact ⟨v, _, rfl, e4, permD_rvs r e2⟩
theorem permL_len {α : Type} {l : List α} : ∀ {perm : List Nat}, perm.all (fun i => decide (i < l.length)) = true → (permL perm l).length = perm.length
  | [], _ => rfl
  | i :: p, h => by
    rw [List.all_cons, Bool.and_eq_true] at h
    rw [permL_cons i p l (List.getElem?_eq_getElem (of_decide_eq_true h.1)), List.length_cons, permL_len h.2, List.length_cons]
theorem kw_all {env : Env} {pos : Pos} : ∀ {kws : List Keyword}, kws.all kwNamed = true → (backToKw pos (keywordEach kws env)).all (·.1.isSome) = true
  | [], _ => rfl
  | ⟨nm, e, p⟩ :: r, h => by
    rw [List.all_cons, Bool.and_eq_true] at h
    have h1 : nm.isSome = true := ((Bool.and_eq_true _ _).mp h.1).1
    show (nm.isSome && (backToKw pos (keywordEach r env)).all (·.1.isSome)) = true
    rw [h1, kw_all h.2]; rfl
theorem kw_any {env : Env} {pos : Pos} : ∀ {kws : List Keyword}, kws.all kwNamed = true → (backToKw pos (keywordEach kws env)).any (·.1.isNone) = false
  | [], _ => rfl
  | ⟨nm, e, p⟩ :: r, h => by
    rw [List.all_cons, Bool.and_eq_true] at h
    have h1 : nm.isSome = true := ((Bool.and_eq_true _ _).mp h.1).1
    show (nm.isNone || (backToKw pos (keywordEach r env)).any (·.1.isNone)) = false
    rw [kw_any h.2]
    cases nm with
    | none => cases h1
    | some x => rfl
theorem kw_names {env : Env} {pos : Pos} : ∀ {kws : List Keyword}, (backToKw pos (keywordEach kws env)).filterMap (·.1) = kws.filterMap kwName
  | [] => rfl
  | ⟨nm, e, p⟩ :: r => by
    show List.filterMap _ ((nm, _) :: backToKw pos (keywordEach r env)) = _
    rw [List.filterMap_cons, List.filterMap_cons, kw_names (kws := r)]
    rfl
theorem kw_len : ∀ {kws : List Keyword}, kws.all kwNamed = true → (kws.filterMap kwName).length = kws.length
  | [], _ => rfl
  | ⟨nm, e, p⟩ :: r, h => by
    rw [List.all_cons, Bool.and_eq_true] at h
    have h1 : nm.isSome = true := ((Bool.and_eq_true _ _).mp h.1).1
    cases nm with
    | none => cases h1
    | some x =>
      show (x :: r.filterMap kwName).length = _
      rw [List.length_cons, kw_len h.2, List.length_cons]
theorem permL_vals {vs : List V} {us : List Value} (r : Vals vs us) : ∀ {perm : List Nat}, perm.all (fun i => decide (i < vs.length)) = true → Vals (permL perm vs) (permL perm us) ∧ (permL perm us).length = perm.length
  | [], _ => ⟨.nil, rfl⟩
  | i :: p, h => by
    rw [List.all_cons, Bool.and_eq_true] at h
    have hi := of_decide_eq_true h.1
    obtain ⟨u, e1, e2⟩ := r.get (List.getElem?_eq_getElem hi)
    obtain ⟨w1, w2⟩ := permL_vals r (perm := p) h.2
    rw [permL_cons i p vs (List.getElem?_eq_getElem hi), permL_cons i p us e1]
    exact ⟨.cons e2 w1, by rw [List.length_cons, w2, List.length_cons]⟩
theorem k_call (c : CxE G C T cl n W k X) {f : Fid} {perm : List Nat} {es : CE} {x : Expr} {xs : List Expr} (h : callA T n f perm x = some xs) (hi : Its G C cl W X es xs) : PE X x (tE G W (eE C cl (.call f perm es))) := by
  obtain ⟨y, p, pos, es', kws, rfl, hf, hs, hor⟩ := callA_inv h
  obtain ⟨g1, g2, g3, g4, ⟨⟨fd, ps, hps, F⟩, _⟩, _⟩ := c.fnN hf
  have lps : ∀ vs H Q E, spOf G (T.ps f) (cl f) vs H Q E → vs.length = ps.length := fun vs H Q E q => by rw [hps]; exact q.1
  refine ⟨fun pins s σ H Q I q => ?_⟩
  rcases hor with ⟨rfl, rfl, hp, hn⟩ | ⟨hne, rfl, hkn, hkw, hpl, hpa⟩
  · have key : tA G W (eA C cl es) σ H fun vs H1 => spOf G (T.ps f) (cl f) vs H1 Q (WE W σ) := by
      obtain ⟨Z, ρ, μ, A, q⟩ := q
      have L := like_pst (G := G) (W := W) (σ := σ) (RV G) Q
      refine ⟨Z, ρ, μ, A, ?_⟩
      have q' : Pst G W σ (RV G) Z ((eA C cl es ρ μ).bind fun vs μ1 => (lift (permD perm vs) μ1).bind fun ws μ2 => cl f ws μ2) Q := q
      cases e : eA C cl es ρ μ with
      | err => rw [e] at q'; exact q'
      | exc a b d => rw [e] at q'; exact q'
      | ok ds μ1 =>
        rw [e] at q'
        intro vs Z1 X1 R1 r1
        have hl := eA_len hi e
        have q2 : Pst G W σ (RV G) Z ((lift (permD perm ds) μ1).bind fun ws μ2 => cl f ws μ2) Q := q'
        rw [hp, ← hl, permD_range] at q2
        exact call_at (ρ := ρ) (by rw [← r1.length, hl, hn]) (A.ext X1 R1) r1 (Pst.base q2 X1)
    refine wpAny_Call_Name_kw (ld_glob I g1 g3 ?_ g2)
    cases xs with
    | nil =>
      have pa := its_pa hi
      rw [its_nil hi] at key
      obtain ⟨Z, ρ, μ, A, key⟩ := key
      have key' : spOf G (T.ps f) (cl f) [] Z.H Q (WE W σ) := key [] Z (Ext.refl _) A.rel rfl
      rw [A.hp] at key'
      exact PySem.W.callWith_K0 I.kIn g4 (run_g c F lps ⟨[], []⟩ (fun hl => F.bind s [] (by rw [← c.K]; exact I.kIn) hl) I .nil key' rfl)
    | cons y ys =>
      rw [List.all_cons, Bool.and_eq_true] at hs
      refine PySem.W.callWith_K (h₀ := X.base) I.ok.mod.kin g4 (thn ((its_pa hi).run pos pins s σ H _ I key) fun us s1 ⟨vs, H1, I1, r, q⟩ => ⟨I1.kIn, ?_⟩) (star_of hs.1) (stars_plain hs.2)
      exact run_g c F lps ⟨us, []⟩ (fun hl => F.bind s1 us (by rw [← c.K]; exact I1.kIn) hl) I1 r q rfl
  · obtain ⟨e1, e2, i1, i2, ee⟩ := its_split hi
    have key : tA G W (eA C cl e1) σ H fun vs H1 => tA G W (eA C cl e2) σ H1 fun zs H2 => vs.length = es'.length ∧ zs.length = kws.length ∧ spOf G (T.ps f) (cl f) (permL perm (vs ++ zs)) H2 Q (WE W σ) := by
      obtain ⟨Z, ρ, μ, A, q⟩ := q
      have L := like_pst (G := G) (W := W) (σ := σ) (RV G) Q
      have q' : Pst G W σ (RV G) Z ((eA C cl es ρ μ).bind fun vs μ1 => (lift (permD perm vs) μ1).bind fun ws μ2 => cl f ws μ2) Q := q
      rw [ee] at q'
      refine ⟨Z, ρ, μ, A, ?_⟩
      cases h1 : eA C cl e1 ρ μ with
      | err => rw [h1] at q'; exact q'
      | exc a b d => rw [h1] at q'; exact q'
      | ok ds μ1 =>
        rw [h1] at q'
        intro vs Z1 X1 R1 r1
        refine ⟨Z1, ρ, μ1, A.ext X1 R1, ?_⟩
        have q2 : Pst G W σ (RV G) Z (((eA C cl e2 ρ μ1).bind fun b μ2 => .ok (ds ++ b) μ2).bind fun vs μ1 => (lift (permD perm vs) μ1).bind fun ws μ2 => cl f ws μ2) Q := q'
        have q3 := Pst.base q2 X1
        cases h2 : eA C cl e2 ρ μ1 with
        | err => rw [h2] at q3; exact q3
        | exc a b d => rw [h2] at q3; exact q3
        | ok bs μ2 =>
          rw [h2] at q3
          intro zs Z2 X2 R2 r2
          have q4 : Pst G W σ (RV G) Z1 ((lift (permD perm (ds ++ bs)) μ2).bind fun ws μ2 => cl f ws μ2) Q := q3
          have q5 := Pst.base q4 X2
          have rr : RVs G Z2 (ds ++ bs) (vs ++ zs) := (RVs.ext X2 R1 _ _ r1).append r2
          cases hP : permD perm (ds ++ bs) with
          | none => rw [hP] at q5; exact False.elim q5
          | some ws =>
            rw [hP] at q5
            have r3 := permD_rvs rr hP
            have la : vs.length = es'.length := by rw [← r1.length]; exact eA_len i1 h1
            have lb : zs.length = kws.length := by rw [← r2.length, eA_len i2 h2, List.length_map]
            refine ⟨la, lb, call_at (ρ := ρ) ?_ ((A.ext X1 R1).ext X2 R2) r3 q5⟩
            rw [← hpl]
            clear q5 q4 q3 q2 q' q
            have hpa' : perm.all (fun i => decide (i < (vs ++ zs).length)) = true := by rw [List.length_append, la, lb]; exact hpa
            exact permL_len hpa'
    have hall : (backToKw pos (keywordEach kws X.env)).all (·.1.isSome) = true := kw_all hkn
    have hany : (backToKw pos (keywordEach kws X.env)).any (·.1.isNone) = false := kw_any hkn
    have hks : (backToKw pos (keywordEach kws X.env)).filterMap (·.1) = kws.filterMap kwName := kw_names
    have hkl : (kws.filterMap kwName).length = kws.length := kw_len hkn
    have fin : ∀ {us ws : List Value} {vs zs : List V} {H2 : Hp} {s2 : Shared}, Inv X pins σ H2 s2 → Vals vs us → Vals zs ws → vs.length = es'.length → zs.length = kws.length → spOf G (T.ps f) (cl f) (permL perm (vs ++ zs)) H2 Q (WE W σ) →
        wpAny (model X.prog X.w) X.A (call (.ref (G.fa f)) us ((kws.filterMap kwName).zip ws)) (EP X pins σ Q) X.xe s2 := fun {us ws vs zs H2 s2} I2 r rz la lb sp => by
      have rr := r.append rz
      have hpa' : perm.all (fun i => decide (i < (vs ++ zs).length)) = true := by rw [List.length_append, la, lb]; exact hpa
      obtain ⟨w1, w2⟩ := permL_vals rr hpa'
      exact run_g c F lps ⟨us, (kws.filterMap kwName).zip ws⟩ (fun _ => F.bindK _ _ _ (kwOf_mem hkw) s2 us ws (by rw [← c.K]; exact I2.kIn) (by rw [← r.length, la]) (by rw [← rz.length, lb, hkl])) I2 w1 sp rfl
    refine wpAny_Call_Name_kw (ld_glob I g1 g3 ?_ g2)
    cases es' with
    | nil =>
      rw [its_nil i1] at key
      obtain ⟨Z, ρ, μ, A, key⟩ := key
      have key' : tA G W (eA C cl e2) σ Z.H fun zs H2 => ([] : List V).length = ([] : List Expr).length ∧ zs.length = kws.length ∧ spOf G (T.ps f) (cl f) (permL perm ([] ++ zs)) H2 Q (WE W σ) := key [] Z (Ext.refl _) A.rel rfl
      rw [A.hp] at key'
      refine PySem.W.callWith_KW0 (h₀ := X.base) I.ok.mod.kin g4 hall (thn ((its_pk i2).run pos pins s σ H _ I key') fun ws s2 ⟨zs, H2, I2, rz, la, lb, q2⟩ => ⟨I2.kIn, ?_⟩) (by rw [hany]; rfl)
      rw [hks]
      exact fin I2 .nil rz la lb q2
    | cons y ys =>
      rw [List.all_cons, Bool.and_eq_true] at hs
      refine PySem.W.callWith_KW (h₀ := X.base) I.ok.mod.kin g4 hall (thn ((its_pa i1).run pos pins s σ H _ I key) fun us s1 ⟨vs, H1, I1, r, q1⟩ => ?_) (by rw [hany, stars_plain (es := y :: ys) (by rw [List.all_cons, hs.1, hs.2]; rfl)]; rfl) (star_of hs.1)
      refine thn ((its_pk i2).run pos pins s1 σ H1 _ I1 q1) fun ws s2 ⟨zs, H2, I2, rz, la, lb, q2⟩ => ⟨I2.kIn, ?_⟩
      rw [hks]
      exact fin I2 r rz la lb q2
theorem callvA_inv {x y : Expr} {xs : List Expr} (h : callvA x = some (y, xs)) : ∃ pos, x = .Call y xs [] pos ∧ noCallee y = true ∧ xs.all notStar = true ∧ xs ≠ [] := by
  unfold callvA at h
  split at h
  · split at h
    · rename_i q; cases h; exact ⟨_, rfl, q.1, q.2.1, q.2.2.1⟩
    · cases h
  · cases h
/-- a call of what an expression gives -/
theorem k_callv (c : CxE G C T cl n W k X) {g es : CE} {x y : Expr} {xs : List Expr} (h : callvA x = some (y, xs)) (p : PE X y (tE G W (eE C cl g))) (hi : Its G C cl W X es xs) : PE X x (tE G W (eE C cl (.callv g es))) := by
  obtain ⟨pos, rfl, hf, hs, hne⟩ := callvA_inv h
  refine ⟨fun pins s σ H Q I q => ?_⟩
  have key : tE G W (eE C cl g) σ H fun v H1 => ∃ f, G.kf f = true ∧ v = .ref (G.fa f) ∧ tA G W (eA C cl es) σ H1 fun vs H2 => spOf G (T.ps f) (cl f) vs H2 Q (WE W σ) := by
    obtain ⟨Z, ρ, μ, A, q⟩ := q
    have L := like_pst (G := G) (W := W) (σ := σ) (RV G) Q
    refine ⟨Z, ρ, μ, A, step L (r := eE C cl g ρ μ) A q fun v Z1 μ1 d A1 X1 r1 h1 => ?_⟩
    obtain ⟨f, e, h2⟩ := step_lift L h1
    have e' : d = .fn f := by cases d <;> first | (cases e; rfl) | cases e
    subst e'
    refine ⟨f, r1.1, r1.2, Z1, ρ, μ1, A1, step L (r := eA C cl es ρ μ1) A1 h2 fun vs Z2 μ2 ds A2 X2 r2 h3 => ?_⟩
    have hl := (c.wk.fn f r1.1).ar ds μ2 fun z => by
      have h3' : Pst G W σ (RV G) Z2 (cl f ds μ2) Q := h3
      rw [z] at h3'
      exact h3'
    exact call_at (ρ := ρ) (by rw [← r2.length, hl]) A2 r2 h3
  refine Call_ (thn (p.run pins s σ H _ I key) fun u s1 ⟨v, H1, I1, rv, f, kf, ev, q1⟩ => ?_) (by cases y <;> first | rfl | cases hf)
  subst ev
  have eu : u = Value.ref (G.fa f) := rv
  subst eu
  obtain ⟨fd, ps, hps, F⟩ := (c.wk.fn f kf).ex
  have lps : ∀ vs H Q E, spOf G (T.ps f) (cl f) vs H Q E → vs.length = ps.length := fun vs H Q E q => by rw [hps]; exact q.1
  cases xs with
  | nil => exact absurd rfl hne
  | cons a r =>
    rw [List.all_cons, Bool.and_eq_true] at hs
    refine PySem.W.callWith_K (h₀ := X.base) I.ok.mod.kin (by rw [c.K]; exact c.wk.tb.keep f kf) (thn ((its_pa hi).run pos pins s1 σ H1 _ I1 q1) fun us s2 ⟨vs, H2, I2, r2, q2⟩ => ⟨I2.kIn, ?_⟩) (star_of hs.1) (stars_plain hs.2)
    exact run_g c F lps ⟨us, []⟩ (fun hl => F.bind s2 us (by rw [← c.K]; exact I2.kIn) hl) I2 r2 q2 rfl
end
end PyE
set_option maxRecDepth 100000
set_option maxHeartbeats 4000000
/-! every expression -/
namespace PyE
open PySem PySem.Spec PyProof.Rows L2
section
variable {G : Gi} {C : Cfg} {T : Tb} {cl : Cl} {n : En} {W : WX} {k : Nat} {X : Cx} {σ : L2.St} {H : Hp}
theorem asB_some {d : D} {b : Bool} (h : asB d = some b) : d = .bl b := by
  cases d <;> first | (cases h; rfl) | cases h
theorem t_ok {Z : Wd} {μ : Mu} {b : Bool} {Q : Bool → Hp → Prop} (h : Pst G W σ (fun _ a b => a = b) Z (.ok b μ) Q) (R : Rel G Z μ) : Q b Z.H := h b Z (Ext.refl _) R rfl
/-! ### not, and, or -/
theorem e_not {a : CE} {Q : VK} (h : tE G W (eE C cl (.not_ a)) σ H Q) : tNotV (tE G W (eE C cl a)) σ H Q := by
  obtain ⟨Z, ρ, μ, A, h⟩ := h
  have L := like_pst (G := G) (W := W) (σ := σ) (RV G) Q
  refine ⟨Z, ρ, μ, A, step L (r := eE C cl a ρ μ) A h fun v Z1 μ1 d A1 X1 r1 h1 => ?_⟩
  obtain ⟨b, e, h2⟩ := step_lift L h1
  have e' := asB_some e
  subst e'
  exact ⟨b, r1, Like.ok (rel := RV G) h2 A1.rel rfl⟩
/-- a test of a value that is a bool -/
theorem tr_bl {r : Res D} {Z : Wd} {Q : Bool → Hp → Prop} {f : Bool → Bool} (h : Pst G W σ (fun _ a b => a = b) Z ((r.bind fun d μ1 => (lift (asB d) μ1).bind fun b μ2 => Res.ok (D.bl (f b)) μ2).bind fun d μ1 => lift (truth μ1 d) μ1) Q) :
    Pst G W σ (fun _ a b => a = b) Z (r.bind fun d μ1 => lift (truth μ1 d) μ1) fun b H => Q (f b) H := by
  cases r with
  | err => exact h
  | exc c v μ => exact h
  | ok d μ =>
    have h' : Pst G W σ (fun _ a b => a = b) Z (((lift (asB d) μ).bind fun b μ2 => Res.ok (D.bl (f b)) μ2).bind fun d μ1 => lift (truth μ1 d) μ1) Q := h
    cases e : asB d with
    | none => rw [e] at h'; exact False.elim h'
    | some b =>
      rw [e] at h'
      have e' := asB_some e
      subst e'
      have h2 : ∀ b' Z', Ext Z Z' → Rel G Z' μ → f b = b' → Q b' Z'.H := h'
      exact fun b' Z' x R e => by
        subst e
        exact h2 _ Z' x R rfl
theorem t_not {a : CE} {Q : Bool → Hp → Prop} (h : tT G W (eTr C cl (.not_ a)) σ H Q) : tNot (tT G W (eTr C cl a)) σ H Q := by
  obtain ⟨Z, ρ, μ, A, h⟩ := h
  exact ⟨Z, ρ, μ, A, tr_bl (f := Bool.not) h⟩
theorem e_and {a b : CE} {Q : VK} (h : tE G W (eE C cl (.and_ a b)) σ H Q) : tAndV (tE G W (eE C cl a)) (tE G W (eE C cl b)) σ H Q := by
  obtain ⟨Z, ρ, μ, A, h⟩ := h
  have L := like_pst (G := G) (W := W) (σ := σ) (RV G) Q
  refine ⟨Z, ρ, μ, A, step L (r := eE C cl a ρ μ) A h fun v Z1 μ1 d A1 X1 r1 h1 => ?_⟩
  obtain ⟨t, e, h2⟩ := step_lift L h1
  have e' := asB_some e
  subst e'
  refine ⟨t, r1, ?_⟩
  have h3 : Pst G W σ (RV G) Z1 (if t = true then eE C cl b ρ μ1 else .ok (.bl t) μ1) Q := h2
  cases t with
  | true => rw [if_pos rfl] at h3 ⊢; exact ⟨Z1, ρ, μ1, A1, h3⟩
  | false => rw [if_neg Bool.false_ne_true] at h3 ⊢; exact Like.ok (rel := RV G) h3 A1.rel rfl
theorem e_or {a b : CE} {Q : VK} (h : tE G W (eE C cl (.or_ a b)) σ H Q) : tOrV (tE G W (eE C cl a)) (tE G W (eE C cl b)) σ H Q := by
  obtain ⟨Z, ρ, μ, A, h⟩ := h
  have L := like_pst (G := G) (W := W) (σ := σ) (RV G) Q
  refine ⟨Z, ρ, μ, A, step L (r := eE C cl a ρ μ) A h fun v Z1 μ1 d A1 X1 r1 h1 => ?_⟩
  obtain ⟨t, e, h2⟩ := step_lift L h1
  have e' := asB_some e
  subst e'
  refine ⟨t, r1, ?_⟩
  have h3 : Pst G W σ (RV G) Z1 (if t = true then .ok (.bl t) μ1 else eE C cl b ρ μ1) Q := h2
  cases t with
  | true => rw [if_pos rfl] at h3 ⊢; exact Like.ok (rel := RV G) h3 A1.rel rfl
  | false => rw [if_neg Bool.false_ne_true] at h3 ⊢; exact ⟨Z1, ρ, μ1, A1, h3⟩
theorem t_and {a b : CE} {Q : Bool → Hp → Prop} (h : tT G W (eTr C cl (.and_ a b)) σ H Q) : tAnd (tT G W (eTr C cl a)) (tT G W (eTr C cl b)) σ H Q := by
  obtain ⟨Z, ρ, μ, A, h⟩ := h
  have L := like_pst (G := G) (W := W) (σ := σ) (fun _ (a b : Bool) => a = b) Q
  have h' : Pst G W σ (fun _ a b => a = b) Z (((eE C cl a ρ μ).bind fun d μ1 => (lift (asB d) μ1).bind fun t μ2 => if t = true then eE C cl b ρ μ2 else .ok d μ2).bind fun d μ1 => lift (truth μ1 d) μ1) Q := h
  rw [bind_bind] at h'
  refine ⟨Z, ρ, μ, A, ?_⟩
  show Pst G W σ (fun _ a b => a = b) Z ((eE C cl a ρ μ).bind fun d μ1 => lift (truth μ1 d) μ1) _
  revert h'
  cases eE C cl a ρ μ with
  | err => exact fun h => h
  | exc c v μ1 => exact fun h => h
  | ok d μ1 =>
    intro h'
    have h2 : Pst G W σ (fun _ a b => a = b) Z (((lift (asB d) μ1).bind fun t μ2 => if t = true then eE C cl b ρ μ2 else .ok d μ2).bind fun d μ1 => lift (truth μ1 d) μ1) Q := h'
    rw [bind_bind] at h2
    obtain ⟨t, e, h3⟩ := step_lift L h2
    have e' := asB_some e
    subst e'
    intro t' Z1 x1 R1 et
    have et' : t = t' := et
    subst et'
    have h4 := L.base _ _ _ x1 h3
    have A1 := A.ext x1 R1
    cases t with
    | true => rw [if_pos rfl] at h4 ⊢; exact ⟨Z1, ρ, μ1, A1, h4⟩
    | false => rw [if_neg Bool.false_ne_true] at h4 ⊢; exact t_ok h4 R1
theorem t_or {a b : CE} {Q : Bool → Hp → Prop} (h : tT G W (eTr C cl (.or_ a b)) σ H Q) : tOr (tT G W (eTr C cl a)) (tT G W (eTr C cl b)) σ H Q := by
  obtain ⟨Z, ρ, μ, A, h⟩ := h
  have L := like_pst (G := G) (W := W) (σ := σ) (fun _ (a b : Bool) => a = b) Q
  have h' : Pst G W σ (fun _ a b => a = b) Z (((eE C cl a ρ μ).bind fun d μ1 => (lift (asB d) μ1).bind fun t μ2 => if t = true then .ok d μ2 else eE C cl b ρ μ2).bind fun d μ1 => lift (truth μ1 d) μ1) Q := h
  rw [bind_bind] at h'
  refine ⟨Z, ρ, μ, A, ?_⟩
  show Pst G W σ (fun _ a b => a = b) Z ((eE C cl a ρ μ).bind fun d μ1 => lift (truth μ1 d) μ1) _
  revert h'
  cases eE C cl a ρ μ with
  | err => exact fun h => h
  | exc c v μ1 => exact fun h => h
  | ok d μ1 =>
    intro h'
    have h2 : Pst G W σ (fun _ a b => a = b) Z (((lift (asB d) μ1).bind fun t μ2 => if t = true then .ok d μ2 else eE C cl b ρ μ2).bind fun d μ1 => lift (truth μ1 d) μ1) Q := h'
    rw [bind_bind] at h2
    obtain ⟨t, e, h3⟩ := step_lift L h2
    have e' := asB_some e
    subst e'
    intro t' Z1 x1 R1 et
    have et' : t = t' := et
    subst et'
    have h4 := L.base _ _ _ x1 h3
    have A1 := A.ext x1 R1
    cases t with
    | true => rw [if_pos rfl] at h4 ⊢; exact t_ok h4 R1
    | false => rw [if_neg Bool.false_ne_true] at h4 ⊢; exact ⟨Z1, ρ, μ1, A1, h4⟩
theorem pw_bool {op : BoolOp} {vs : List Expr} {p : Pos} {t : TT} (h : PT X (.BoolOp op vs p) t) : PW X (.BoolOp op vs p) t := ⟨fun whole pins s σ H Q I q => h.run pins s σ H Q I q⟩
/-! ### if -/
theorem e_ite {t a b : CE} {Q : VK} (h : tE G W (eE C cl (.ite t a b)) σ H Q) : tIf (tT G W (eTr C cl t)) (tE G W (eE C cl a)) (tE G W (eE C cl b)) σ H Q := by
  obtain ⟨Z, ρ, μ, A, h⟩ := h
  have L := like_pst (G := G) (W := W) (σ := σ) (RV G) Q
  have e0 : eE C cl (.ite t a b) ρ μ = (eTr C cl t ρ μ).bind fun t μ2 => if t = true then eE C cl a ρ μ2 else eE C cl b ρ μ2 := by
    unfold eTr; rw [bind_bind]; rfl
  rw [e0] at h
  refine ⟨Z, ρ, μ, A, step L A h fun v Z1 μ1 d A1 X1 r1 h1 => ?_⟩
  have e1 : d = v := r1
  subst e1
  cases d with
  | true => rw [if_pos rfl] at h1 ⊢; exact ⟨Z1, ρ, μ1, A1, h1⟩
  | false => rw [if_neg Bool.false_ne_true] at h1 ⊢; exact ⟨Z1, ρ, μ1, A1, h1⟩
theorem t_ite {t a b : CE} {Q : Bool → Hp → Prop} (h : tT G W (eTr C cl (.ite t a b)) σ H Q) : tT G W (eTr C cl t) σ H fun c H1 => if c = true then tT G W (eTr C cl a) σ H1 Q else tT G W (eTr C cl b) σ H1 Q := by
  obtain ⟨Z, ρ, μ, A, h⟩ := h
  have L := like_pst (G := G) (W := W) (σ := σ) (fun _ (a b : Bool) => a = b) Q
  have e0 : eTr C cl (.ite t a b) ρ μ = (eTr C cl t ρ μ).bind fun t μ2 => if t = true then eTr C cl a ρ μ2 else eTr C cl b ρ μ2 := by
    show ((eE C cl t ρ μ).bind fun d μ1 => (lift (truth μ1 d) μ1).bind fun t μ2 => if t = true then eE C cl a ρ μ2 else eE C cl b ρ μ2).bind (fun d μ1 => lift (truth μ1 d) μ1) = _
    unfold eTr
    rw [bind_bind, bind_bind]
    congr 1
    funext d μ1
    rw [bind_bind]
    congr 1
    funext t μ2
    cases t <;> rfl
  rw [e0] at h
  refine ⟨Z, ρ, μ, A, step L A h fun v Z1 μ1 d A1 X1 r1 h1 => ?_⟩
  have e1 : d = v := r1
  subst e1
  cases d with
  | true => rw [if_pos rfl] at h1 ⊢; exact ⟨Z1, ρ, μ1, A1, h1⟩
  | false => rw [if_neg Bool.false_ne_true] at h1 ⊢; exact ⟨Z1, ρ, μ1, A1, h1⟩
theorem pt_ife {c a b : Expr} {p : Pos} {tc ta tb : TT} (hc : PT X c tc) (ha : PT X a ta) (hb : PT X b tb) : PT X (.IfExp c a b p) (fun σ H Q => tc σ H fun q H1 => if q = true then ta σ H1 Q else tb σ H1 Q) := by
  refine ⟨fun pins s σ H Q I h => ?_⟩
  show wpAny _ _ (do if ← PySem.isTrue c X.env (eval c X.env) then PySem.isTrue a X.env (eval a X.env) else PySem.isTrue b X.env (eval b X.env)) _ _ _
  refine wpAny_bind (thn (hc.run pins s σ H _ I h) fun q s1 ⟨H1, I1, hq⟩ => ?_)
  cases q with
  | true => rw [if_pos rfl] at hq ⊢; exact ha.run pins s1 σ H1 Q I1 hq
  | false => rw [if_neg Bool.false_ne_true] at hq ⊢; exact hb.run pins s1 σ H1 Q I1 hq
/-! ### a <= b < c -/
theorem chainOp_inv {o : Op} {p : CmpOp} (h : chainOp o p = true) : (o = .lt ∧ p = .Lt) ∨ (o = .le ∧ p = .LtE) := by
  unfold chainOp at h
  split at h
  · exact .inl ⟨rfl, rfl⟩
  · exact .inr ⟨rfl, rfl⟩
  · cases h
theorem chainOp_r (c : CxE G C T cl n W k X) {o : Op} {p : CmpOp} (h : chainOp o p = true) : OpR X (compareOp p) fun x y H Q => rO G C o [x, y] H Q := by
  rcases chainOp_inv h with ⟨rfl, rfl⟩ | ⟨rfl, rfl⟩
  · exact o_lt c.K c.room.units0
  · exact o_le
theorem chainOp_b {o : Op} {p : CmpOp} (h : chainOp o p = true) {μ : Mu} {x y : D} {pr : PR} (e : opS C μ o [x, y] = some pr) : ∃ b, pr = .v (.bl b) := by
  rcases chainOp_inv h with ⟨rfl, rfl⟩ | ⟨rfl, rfl⟩
  · have e' : ltS x y = some pr := e
    unfold ltS at e'
    split at e'
    · cases e'; exact ⟨_, rfl⟩
    · obtain ⟨_, _, e'⟩ := Option.bind_eq_some_iff.mp e'
      obtain ⟨_, _, rfl⟩ := Option.map_eq_some_iff.mp e'
      exact ⟨_, rfl⟩
    · cases e'
  · have e' : intO (fun i j => some (PR.v (.bl (decide (i ≤ j))))) x y = some pr := e
    unfold intO at e'
    split at e'
    · cases e'; exact ⟨_, rfl⟩
    · cases e'
theorem e_chain {o1 o2 : Op} {p1 p2 : CmpOp} {a b c : CE} {Q Q' : VK} (h1 : chainOp o1 p1 = true) (h2 : chainOp o2 p2 = true) (hq : ∀ x H, (∃ k, x = .bl k) → Q x H → Q' x H) (h : tE G W (eE C cl (.chain o1 o2 a b c)) σ H Q) :
    tChain (fun x y H Q => rO G C o1 [x, y] H Q) (fun x y H Q => rO G C o2 [x, y] H Q) (tE G W (eE C cl a)) (tE G W (eE C cl b)) (tE G W (eE C cl c)) σ H Q' := by
  obtain ⟨Z, ρ, μ, A, h⟩ := h
  have L := like_pst (G := G) (W := W) (σ := σ) (RV G) Q
  refine ⟨Z, ρ, μ, A, step L (r := eE C cl a ρ μ) A h fun x Z1 μ1 dx A1 X1 r1 h => ⟨Z1, ρ, μ1, A1, step L (r := eE C cl b ρ μ1) A1 h fun y Z2 μ2 dy A2 X2 r2 h => ?_⟩⟩
  have h' : Pst G W σ (RV G) Z2 ((lift ((opS C μ2 o1 [dx, dy]).map prD) μ2).bind fun t μ3 => (lift (asB t) μ3).bind fun t μ3 => if t = true then (eE C cl c ρ μ3).bind fun z μ4 => opR C o2 [dy, z] μ4 else .ok (.bl false) μ3) Q := h
  cases e : opS C μ2 o1 [dx, dy] with
  | none => rw [e] at h'; exact False.elim h'
  | some pr =>
    obtain ⟨t, rfl⟩ := chainOp_b h1 e
    rw [e] at h'
    have h3 : Pst G W σ (RV G) Z2 (if t = true then (eE C cl c ρ μ2).bind fun z μ4 => opR C o2 [dy, z] μ4 else .ok (.bl false) μ2) Q := h'
    refine ⟨Z2, μ2, [dx, dy], .v (.bl t), rfl, A2.rel, ⟨x, _, rfl, RV.ext X2 A1.rel _ _ r1, .one r2⟩, e, fun v Z3 X3 R3 r3 => ⟨t, r3, ?_⟩⟩
    have h4 := L.base _ _ _ X3 h3
    have A3 := A2.ext X3 R3
    cases t with
    | true =>
      rw [if_pos rfl] at h4 ⊢
      refine ⟨Z3, ρ, μ2, A3, step L A3 h4 fun z Z4 μ4 dz A4 X4 r4 h => ?_⟩
      have h' : Pst G W σ (RV G) Z4 (lift ((opS C μ4 o2 [dy, dz]).map prD) μ4) Q := h
      cases e2 : opS C μ4 o2 [dy, dz] with
      | none => rw [e2] at h'; exact False.elim h'
      | some pr2 =>
        obtain ⟨t2, rfl⟩ := chainOp_b h2 e2
        rw [e2] at h'
        refine ⟨Z4, μ4, [dy, dz], .v (.bl t2), rfl, A4.rel, ⟨y, _, rfl, RV.ext X4 A3.rel _ _ (RV.ext X3 A2.rel _ _ r2), .one r4⟩, e2, fun v Z5 X5 R5 r5 => ?_⟩
        exact hq _ _ ⟨t2, r5⟩ (h' v Z5 X5 R5 r5)
    | false =>
      rw [if_neg Bool.false_ne_true] at h4 ⊢
      exact hq _ _ ⟨false, rfl⟩ (Like.ok (rel := RV G) h4 R3 rfl)
theorem chain_bl {o1 o2 : Op} {p1 p2 : CmpOp} {a b c : CE} {ρ : Ro} {μ μ' : Mu} {d : D} (h1 : chainOp o1 p1 = true) (h2 : chainOp o2 p2 = true) (h : eE C cl (.chain o1 o2 a b c) ρ μ = .ok d μ') : ∃ b, d = .bl b := by
  have opb : ∀ {o : Op} {p : CmpOp} {x y d : D} {μ μ' : Mu}, chainOp o p = true → opR C o [x, y] μ = .ok d μ' → ∃ b, d = .bl b := fun {o p x y d μ μ'} hp e => by
    have e' : lift ((opS C μ o [x, y]).map prD) μ = .ok d μ' := e
    cases q : opS C μ o [x, y] with
    | none => rw [q] at e'; cases e'
    | some pr =>
      obtain ⟨b, rfl⟩ := chainOp_b hp q
      rw [q] at e'
      cases e'
      exact ⟨b, rfl⟩
  have bind_ok' : ∀ {α β : Type} {r : Res α} {f : α → Mu → Res β} {y : β} {μ' : Mu}, r.bind f = .ok y μ' → ∃ a μ1, r = .ok a μ1 ∧ f a μ1 = .ok y μ' := fun {α β r f y μ'} e => by
    cases r with
    | ok a μ1 => exact ⟨a, μ1, rfl, e⟩
    | exc c v μ1 => cases e
    | err => cases e
  obtain ⟨x, μ1, _, h⟩ := bind_ok' h
  obtain ⟨y, μ2, _, h⟩ := bind_ok' h
  obtain ⟨t, μ3, _, h⟩ := bind_ok' h
  obtain ⟨t, μ4, _, h⟩ := bind_ok' h
  cases t with
  | true =>
    rw [if_pos rfl] at h
    obtain ⟨z, μ5, _, h⟩ := bind_ok' h
    exact opb h2 h
  | false =>
    rw [if_neg Bool.false_ne_true] at h
    cases h
    exact ⟨_, rfl⟩
/-- a test whose value is a bool -/
theorem t_bl {c : CE} {Q : Bool → Hp → Prop} (hb : ∀ ρ μ d μ', eE C cl c ρ μ = .ok d μ' → ∃ b, d = .bl b) (h : tT G W (eTr C cl c) σ H Q) : tE G W (eE C cl c) σ H fun x H' => ∀ k, x = .bl k → Q k H' := by
  obtain ⟨Z, ρ, μ, A, h⟩ := h
  refine ⟨Z, ρ, μ, A, ?_⟩
  have h' : Pst G W σ (fun _ a b => a = b) Z ((eE C cl c ρ μ).bind fun d μ1 => lift (truth μ1 d) μ1) Q := h
  cases e : eE C cl c ρ μ with
  | err => rw [e] at h'; exact h'
  | exc c v μ1 => rw [e] at h'; exact h'
  | ok d μ1 =>
    rw [e] at h'
    obtain ⟨b, rfl⟩ := hb _ _ _ _ e
    have h2 : ∀ b' Z', Ext Z Z' → Rel G Z' μ1 → b = b' → Q b' Z'.H := h'
    intro v Z1 x1 R1 r1 k ek
    have e1 : v = V.bl b := r1
    rw [e1] at ek
    cases ek
    exact h2 _ Z1 x1 R1 rfl
end
end PyE
set_option maxRecDepth 100000
set_option maxHeartbeats 4000000
namespace PyE
open PySem PySem.Spec PyProof.Rows L2
section
variable (G : Gi) (C : Cfg) (T : Tb) (cl : Cl) (k : Nat)
def SndE (c : CE) : Prop := ∀ n W X x, CxE G C T cl n W k X → ckE T c n x = true → PE X x (tE G W (eE C cl c)) ∧ PT X x (tT G W (eTr C cl c))
def SndN (c : CE) : Prop := ∀ n W X x, CxE G C T cl n W k X → ckE T (.cell c) n x = true → PE X x (tE G W (eE C cl (.cell c))) ∧ PT X x (tT G W (eTr C cl (.cell c)))
def SndA (c : CE) : Prop := ∀ n W X xs, CxE G C T cl n W k X → ckA T c n xs = true → Its G C cl W X c xs
def SndI (c : CE) : Prop := ∀ n W X tg x, CxE G C T cl n W k X → ckI T c n tg x = true → PI X tg x (tI G W (eI C cl c))
def SndC (c : CE) : Prop := ∀ n W X xs, CxE G C T cl n W k X → ckC T c n xs = true → PTs X xs (tT G W (eC C cl c))
structure Snd (c : CE) : Prop where
  e : SndE G C T cl k c := by intro _ _ _ _ _ h; cases h
  n : SndN G C T cl k c := by intro _ _ _ _ _ h; cases h
  a : SndA G C T cl k c := by intro _ _ _ _ _ h; cases h
  i : SndI G C T cl k c := by intro _ _ _ _ _ _ h; cases h
  c : SndC G C T cl k c := by intro _ _ _ _ _ h; cases h
end
section
variable {G : Gi} {C : Cfg} {T : Tb} {cl : Cl} {n : En} {W : WX} {k : Nat} {X : Cx} {σ : L2.St} {H : Hp}
theorem pts_mono {xs : List Expr} {t t' : TT} (h : PTs X xs t) (m : ∀ σ H Q, t' σ H Q → t σ H Q) : PTs X xs t' := ⟨fun pins s σ H Q I q => h.run pins s σ H Q I (m σ H Q q)⟩
/-- a test's plain way -/
theorem both (c : CxE G C T cl n W k X) {e : CE} {x : Expr} (hx : plainT x = true) (p : PE X x (tE G W (eE C cl e))) : PE X x (tE G W (eE C cl e)) ∧ PT X x (tT G W (eTr C cl e)) := ⟨p, t_plain c.K hx p⟩
theorem con_at {x : Expr} {v : V} {d : D} (p : PE X x (tC v)) (h : ∀ Z, RV G Z d v) : PE X x (tE G W (eE C cl (.con d))) := pe_mono p fun σ H Q ⟨Z, ρ, μ, A, q⟩ => by
  have q' := Like.ok (rel := RV G) q A.rel (h Z)
  rw [A.hp] at q'
  exact q'
theorem op_kind {o : Op} {x : Expr} {xs : List Expr} (h : opArgs T n o x = some xs) : isCmp x = true ∨ plainT x = true := by
  cases o with
  | eq => obtain ⟨_, _, _, rfl, _⟩ := cmpA_inv h; exact .inl rfl
  | ne => obtain ⟨_, _, _, rfl, _⟩ := cmpA_inv h; exact .inl rfl
  | lt => obtain ⟨_, _, _, rfl, _⟩ := cmpA_inv h; exact .inl rfl
  | le => obtain ⟨_, _, _, rfl, _⟩ := cmpA_inv h; exact .inl rfl
  | gt => obtain ⟨_, _, _, rfl, _⟩ := cmpA_inv h; exact .inl rfl
  | ge => obtain ⟨_, _, _, rfl, _⟩ := cmpA_inv h; exact .inl rfl
  | in_ => obtain ⟨_, _, _, rfl, _⟩ := cmpA_inv h; exact .inl rfl
  | notin => obtain ⟨_, _, _, rfl, _⟩ := cmpA_inv h; exact .inl rfl
  | isn => obtain ⟨_, _, _, _, rfl, _⟩ := cmpN_inv h; exact .inl rfl
  | notn => obtain ⟨_, _, _, _, rfl, _⟩ := cmpN_inv h; exact .inl rfl
  | isb b => obtain ⟨_, _, _, _, rfl, _⟩ := isbA_inv h; exact .inl rfl
  | add => obtain ⟨_, _, _, rfl, _⟩ := binA_inv h; exact .inr rfl
  | sub => obtain ⟨_, _, _, rfl, _⟩ := binA_inv h; exact .inr rfl
  | mul => obtain ⟨_, _, _, rfl, _⟩ := binA_inv h; exact .inr rfl
  | fdiv => obtain ⟨_, _, _, rfl, _⟩ := binA_inv h; exact .inr rfl
  | mod => obtain ⟨_, _, _, rfl, _⟩ := binA_inv h; exact .inr rfl
  | pow => obtain ⟨_, _, _, rfl, _⟩ := binA_inv h; exact .inr rfl
  | neg => obtain ⟨_, _, rfl, _⟩ := negA_inv h; exact .inr rfl
  | idx => obtain ⟨_, _, _, rfl, _⟩ := idxA_inv h; exact .inr rfl
  | slc a b =>
    cases a <;> cases b
    · obtain ⟨_, _, _, rfl, _⟩ := slc00_inv h; exact .inr rfl
    · obtain ⟨_, _, _, _, rfl, _⟩ := slc01_inv h; exact .inr rfl
    · obtain ⟨_, _, _, _, rfl, _⟩ := slc10_inv h; exact .inr rfl
    · cases h
  | rev => obtain ⟨_, _, _, _, _, _, rfl, _⟩ := revA_inv h; exact .inr rfl
  | len => obtain ⟨_, _, rfl, _⟩ := callB_inv (callN_inv h).1; exact .inr rfl
  | abs => obtain ⟨_, _, rfl, _⟩ := callB_inv (callN_inv h).1; exact .inr rfl
  | int_ => obtain ⟨_, _, rfl, _⟩ := callB_inv (callN_inv h).1; exact .inr rfl
  | bool_ => obtain ⟨_, _, rfl, _⟩ := callB_inv (callN_inv h).1; exact .inr rfl
  | repr => obtain ⟨_, _, rfl, _⟩ := callB_inv (callN_inv h).1; exact .inr rfl
  | max2 => obtain ⟨_, _, rfl, _⟩ := callB_inv (callN_inv h).1; exact .inr rfl
  | min2 => obtain ⟨_, _, rfl, _⟩ := callB_inv (callN_inv h).1; exact .inr rfl
  | sum1 => obtain ⟨_, _, rfl, _⟩ := callB_inv (callN_inv h).1; exact .inr rfl
  | lrange => obtain ⟨_, h1, _⟩ := lrA_inv h; obtain ⟨_, _, rfl, _⟩ := callB_inv (callN_inv h1).1; exact .inr rfl
  | sum2 => obtain ⟨_, _, rfl, _⟩ := callB_inv (callN_inv h).1; exact .inr rfl
  | sorted => obtain ⟨_, _, rfl, _⟩ := callB_inv (callN_inv h).1; exact .inr rfl
  | all => obtain ⟨_, _, rfl, _⟩ := callB_inv (callN_inv h).1; exact .inr rfl
  | any => obtain ⟨_, _, rfl, _⟩ := callB_inv (callN_inv h).1; exact .inr rfl
  | list => obtain ⟨_, _, rfl, _⟩ := callB_inv (callN_inv h).1; exact .inr rfl
  | tuple => obtain ⟨_, _, rfl, _⟩ := callB_inv (callN_inv h).1; exact .inr rfl
  | isi ts =>
    obtain ⟨_, _, h1, _⟩ := isiA_inv h
    obtain ⟨_, _, rfl, _⟩ := callB_inv h1
    exact .inr rfl
  | tup => obtain ⟨_, _, rfl, _⟩ := tupA_inv h; exact .inr rfl
  | lst => obtain ⟨_, rfl, _⟩ := lstA_inv h; exact .inr rfl
  | attr => obtain ⟨_, _, rfl, _⟩ := attrA_inv h; exact .inr rfl
  | bitlen =>
    obtain ⟨_, h1, _⟩ := bitA_inv h
    obtain ⟨_, _, rfl, _⟩ := callM_inv h1
    exact .inr rfl
  | scnt t =>
    obtain ⟨_, _, _, h1, _⟩ := scA_inv h
    obtain ⟨_, _, rfl, _⟩ := callM_inv h1
    exact .inr rfl
  | _ => cases h
theorem s_op (c : CxE G C T cl n W k X) {o : Op} {es : CE} {x : Expr} {xs : List Expr} (h : opArgs T n o x = some xs) (hi : Its G C cl W X es xs) : PE X x (tE G W (eE C cl (.op o es))) ∧ PT X x (tT G W (eTr C cl (.op o es))) := by
  have p := pe_mono (k_op c h hi) fun σ H Q q => e_op (cl := cl) q
  rcases op_kind h with hx | hx
  · obtain ⟨p2, hb⟩ := k_test c h hx hi
    exact ⟨p, t_cmp hb p2⟩
  · exact both c hx p
/-- a list's making: frozen, or a cell -/
theorem l_frz {m : Ro → Mu → Res (List D)} {m' : Ro → Mu → Res D} (e : ∀ ρ μ, m' ρ μ = (m ρ μ).bind fun xs μ5 => .ok (.lst xs) μ5) {Q : VK} (h : tE G W m' σ H Q) : tL G W m σ H Q := by
  obtain ⟨Z, ρ, μ, A, h⟩ := h
  refine ⟨Z, ρ, μ, A, ?_⟩
  rw [e] at h
  cases q : m ρ μ with
  | err => rw [q] at h; exact h
  | exc c v μ1 => rw [q] at h; exact h
  | ok xs μ1 =>
    rw [q] at h
    intro p vs Z1 x R hp r z
    obtain ⟨Z2, e1, e2, e3, e4⟩ := froze R hp r z
    rw [← e1]
    exact h _ Z2 (x.trans e2) e3 e4
theorem l_cell {m : Ro → Mu → Res (List D)} {m' : Ro → Mu → Res D} (e : ∀ ρ μ, m' ρ μ = (m ρ μ).bind fun xs μ1 => .ok (.ref μ1.length) (μ1 ++ [xs])) {Q : VK} (h : tE G W m' σ H Q) : tL G W m σ H Q := by
  obtain ⟨Z, ρ, μ, A, h⟩ := h
  refine ⟨Z, ρ, μ, A, ?_⟩
  rw [e] at h
  cases q : m ρ μ with
  | err => rw [q] at h; exact h
  | exc c v μ1 => rw [q] at h; exact h
  | ok xs μ1 =>
    rw [q] at h
    intro p vs Z1 x R hp r z
    obtain ⟨Z2, e1, e2, e3, e4⟩ := celled R hp r z
    rw [← e1]
    exact h _ Z2 (x.trans e2) e3 e4
theorem fold_noset {x : Expr} {env : Env} (h : noSet x = true) (v : Value) : foldedSetIterable x env v = pure v := by
  cases x <;> first | rfl | cases h
/-- a comprehension, one clause -/
theorem k_comp (c : CxE G C T cl n W k X) {t : Tg} {it cd e : CE} (si : SndI G C T cl k it) (sc : SndC G C T cl k cd) (se : SndE G C T cl k e) {elt tg iter : Expr} {ifs : List Expr} {scope : Scope} {pos : Pos}
    (h : (ckI T it n tg iter && noSet iter && blkC n.N n.sc scope (ownOf n.N t.slots) && ckT (n.blk scope) t tg && ckC T cd (n.blk scope) ifs && ckE T e (n.blk scope) elt) = true) :
    PE X (.ListComp elt [⟨tg, iter, ifs, 0⟩] scope pos) (tL G W (eL C cl t it cd e)) := by
  simp only [Bool.and_eq_true] at h
  obtain ⟨⟨⟨⟨⟨h1, h2⟩, h3⟩, h4⟩, h5⟩, h6⟩ := h
  have ok : BlkOk X.N X.env.scope scope (ownOf n.N t.slots) := by rw [c.N, c.sc]; exact blkOk_by h3
  have p := pe_lc (pos := pos) c.calm (by rw [c.N]; exact c.nd) (si n W X tg iter c h1) ok (fun s H Ca l fp => k_tg (blk_cx c s H Ca l fp) h4) (fun s H Ca l fp => sc _ _ _ _ (blk_cx c s H Ca l fp) h5) (fun s H Ca l fp => (se _ _ _ _ (blk_cx c s H Ca l fp) h6).1) (fold_noset h2)
  rw [set_own] at p
  exact pe_mono p fun σ H Q q => lc_read q
theorem eE_comp_eq (t : Tg) (it cd e : CE) (ρ : Ro) (μ : Mu) : eE C cl (.comp t it cd e) ρ μ = (eL C cl t it cd e ρ μ).bind fun xs μ5 => .ok (.lst xs) μ5 := by
  unfold eL
  rw [bind_bind]; rfl
theorem eE_ccomp_eq (t : Tg) (it cd e : CE) (ρ : Ro) (μ : Mu) : eE C cl (.cell (.comp t it cd e)) ρ μ = (eL C cl t it cd e ρ μ).bind fun xs μ1 => .ok (.ref μ1.length) (μ1 ++ [xs]) := rfl
/-- a comprehension, two clauses -/
theorem k_comp2 (c : CxE G C T cl n W k X) {t t1 : Tg} {it it1 cd e : CE} (si : SndI G C T cl k it) (si1 : SndI G C T cl k it1) (sc : SndC G C T cl k cd) (se : SndE G C T cl k e) {elt tg iter tg1 iter1 : Expr} {ifs : List Expr} {scope : Scope} {pos : Pos}
    (h : (ckI T it n tg iter && noSet iter && noSet iter1 && blkC n.N n.sc scope (ownOf n.N (t.slots ++ t1.slots)) && ckT (n.blk scope) t tg && ckI T it1 (n.blk scope) tg1 iter1 && ckT (n.blk scope) t1 tg1 && ckC T cd (n.blk scope) ifs && ckE T e (n.blk scope) elt) = true) :
    PE X (.ListComp elt [⟨tg, iter, [], 0⟩, ⟨tg1, iter1, ifs, 0⟩] scope pos) (tL G W (eL2 C cl t it t1 it1 cd e)) := by
  simp only [Bool.and_eq_true] at h
  obtain ⟨⟨⟨⟨⟨⟨⟨⟨h1, h2⟩, h3⟩, h4⟩, h5⟩, h6⟩, h7⟩, h8⟩, h9⟩ := h
  have ok : BlkOk X.N X.env.scope scope (ownOf n.N (t.slots ++ t1.slots)) := by rw [c.N, c.sc]; exact blkOk_by h4
  have p := pe_lc2 (pos := pos) (vs1 := t1.slots) c.calm (by rw [c.N]; exact c.nd) (si n W X tg iter c h1) ok (fun i hi => by rw [set_own]; exact List.mem_append_right _ hi) (fun s H Ca l fp => k_tg (blk_cx c s H Ca l fp) h5) (fun s H Ca l fp => pts_nil) (fun s H Ca l fp => si1 _ _ _ _ _ (blk_cx c s H Ca l fp) h6)
    (fun s H Ca l fp => k_tg (blk_cx c s H Ca l fp) h7) (fun s H Ca l fp => sc _ _ _ _ (blk_cx c s H Ca l fp) h8) (fun s H Ca l fp => (se _ _ _ _ (blk_cx c s H Ca l fp) h9).1) (fold_noset h2) (fun env x => fold_noset h3 x)
  rw [set_own] at p
  exact pe_mono p fun σ H Q q => lc2_read q
theorem eE_comp2_eq (t : Tg) (it : CE) (t1 : Tg) (it1 cd e : CE) (ρ : Ro) (μ : Mu) : eE C cl (.comp2 t it t1 it1 cd e) ρ μ = (eL2 C cl t it t1 it1 cd e ρ μ).bind fun xs μ5 => .ok (.lst xs) μ5 := by
  unfold eL2
  rw [bind_bind]
  show ((eI C cl it ρ μ).bind fun s μ0 => (compL s.okAt (fOut C cl t t1 it1 cd e ρ) s.xs μ0).bind fun xs μ8 => (chk xs μ8).bind fun xs μ9 => Res.ok (D.lst xs) μ9) = _
  congr 1
  funext s μ0
  rw [bind_bind]
theorem eE_ccomp2_eq (t : Tg) (it : CE) (t1 : Tg) (it1 cd e : CE) (ρ : Ro) (μ : Mu) : eE C cl (.cell (.comp2 t it t1 it1 cd e)) ρ μ = (eL2 C cl t it t1 it1 cd e ρ μ).bind fun xs μ1 => .ok (.ref μ1.length) (μ1 ++ [xs]) := rfl
theorem mop1_inv {id : Str} {x y : Expr} {xs : List Expr} (h : mop1 id x = some (y, xs)) : ∃ a, callM id x = some (y, [a]) ∧ xs = [a] := by
  unfold mop1 at h
  split at h
  · cases h; exact ⟨_, by assumption, rfl⟩
  · cases h
theorem mop0_inv {id : Str} {x y : Expr} {xs : List Expr} (h : mop0 id x = some (y, xs)) : callM id x = some (y, []) ∧ xs = [] := by
  unfold mop0 at h
  split at h
  · cases h; exact ⟨by assumption, rfl⟩
  · cases h
/-- a method of a cell -/
theorem k_mop (c : CxE G C T cl n W k X) {m : MOp} {o es : CE} {x y : Expr} {xs : List Expr} (h : mopArgs m x = some (y, xs)) (p : PE X y (tE G W (eE C cl o))) (hi : Its G C cl W X es xs) : PE X x (tE G W (eE C cl (.mop m o es))) := by
  have key : ∀ (σ : L2.St) (H : Hp) (Q : VK), tE G W (eE C cl (.mop m o es)) σ H Q → tBM X.K "list" (rM G m) (tE G W (eE C cl o)) (tA G W (eA C cl es)) σ H Q := fun σ H Q q => by
    obtain ⟨Z, ρ, μ, A, q⟩ := q
    have L := like_pst (G := G) (W := W) (σ := σ) (RV G) Q
    refine ⟨Z, ρ, μ, A, step L (r := eE C cl o ρ μ) A q fun v Z1 μ1 d A1 X1 r1 h1 => ?_⟩
    obtain ⟨j, e, h2⟩ := step_lift L h1
    have e' : d = .ref j := by cases d <;> first | (cases e; rfl) | cases e
    subst e'
    refine ⟨tyV_ref A1.rel r1, Z1, ρ, μ1, A1, step L (r := eA C cl es ρ μ1) A1 h2 fun vs Z2 μ2 ds A2 X2 r2 h3 => ?_⟩
    cases e3 : mopS μ2 m (.ref j) ds with
    | none =>
      have h3' : Pst G W σ (RV G) Z2 (lift2 (mopS μ2 m (.ref j) ds)) Q := h3
      rw [e3] at h3'
      exact False.elim h3'
    | some q =>
      have h3' : Pst G W σ (RV G) Z2 (lift2 (mopS μ2 m (.ref j) ds)) Q := h3
      rw [e3] at h3'
      exact ⟨Z2, μ2, j, ds, q.1, q.2, rfl, A2.rel, RV.ext X2 A1.rel _ _ r1, r2, e3, fun v Z' x R r => h3' v Z' x R r⟩
  have fin1 : ∀ {id : String} {name : Str} {a : Expr}, Slot "list" name id → typeOf (.builtin id) = pure (.type "method_descriptor") → MtM X id (rM G m) → callM name x = some (y, [a]) → xs = [a] → PE X x (tE G W (eE C cl (.mop m o es))) := fun {id name a} sl ty hm h1 hx => by
    subst hx
    obtain ⟨ap, pos, rfl, hs, hb, hl, _⟩ := callM_inv h1
    rw [List.all_cons, Bool.and_eq_true] at hs
    exact pe_mono (pe_bm PySem.F.plainAttrs_list sl ty hm p (its_pa hi) (plainBase_of hb) (by rw [star_of hs.1]; rfl) (by rw [hl]; exact beq_self_eq_true _) (star_of hs.1) rfl) key
  cases m with
  | append =>
    obtain ⟨a, h1, h2⟩ := mop1_inv h
    exact fin1 PySem.F.slot_list_append PySem.F.type_list_append m_append h1 h2
  | popi =>
    obtain ⟨a, h1, h2⟩ := mop1_inv h
    exact fin1 PySem.F.slot_list_pop PySem.F.type_list_pop m_popi h1 h2
  | pop =>
    obtain ⟨h1, h2⟩ := mop0_inv h
    subst h2
    obtain ⟨ap, pos, rfl, hs, hb, hl, _⟩ := callM_inv h1
    have e0 := its_nil hi
    subst e0
    refine pe_mono (pe_bm0 PySem.F.plainAttrs_list PySem.F.slot_list_pop PySem.F.type_list_pop (m_pop (G := G)) p (plainBase_of hb) (by rw [hl]; exact beq_self_eq_true _)) fun σ H Q q => ?_
    obtain ⟨Z, ρ, μ, A, q⟩ := key σ H Q q
    refine ⟨Z, ρ, μ, A, Pst.mono q fun v H1 q2 => ⟨q2.1, ?_⟩⟩
    obtain ⟨Z1, ρ1, μ1, A1, q3⟩ := q2.2
    have q4 : rM G .pop v [] Z1.H Q := q3 [] Z1 (Ext.refl _) A1.rel rfl
    rw [A1.hp] at q4
    exact q4
  | insert => cases h
end
end PyE
set_option maxRecDepth 100000
set_option maxHeartbeats 4000000
/-! every expression, by induction -/
namespace PyE
open PySem PySem.Spec PyProof.Rows L2
section
variable {G : Gi} {C : Cfg} {T : Tb} {cl : Cl} {n : En} {W : WX} {k : Nat} {X : Cx} {σ : L2.St} {H : Hp}
theorem s_con {d : D} (c : CxE G C T cl n W k X) {x : Expr} (h : isCon T n d x = true) : PE X x (tE G W (eE C cl (.con d))) ∧ PT X x (tT G W (eTr C cl (.con d))) := by
  unfold isCon at h
  split at h
  · rename_i cc j p
    refine both c rfl ?_
    split at h
    · exact con_at pe_non fun _ => rfl
    · have e := of_decide_eq_true h
      subst e
      exact con_at pe_bl fun _ => rfl
    · have e := of_decide_eq_true h
      subst e
      exact con_at pe_int fun _ => rfl
    · have e := of_decide_eq_true h
      subst e
      exact con_at pe_str fun _ => rfl
    · cases h
  · obtain ⟨g1, g2, v, u, g3, g4, g5⟩ := c.conN h
    exact both c rfl (con_at (pe_glob g1 g3 g4 g2) g5)
  · split at h
    · refine both c rfl (pe_mono pe_dnewK fun σ H Q ⟨Z, ρ, μ, A, q⟩ => ?_)
      intro p hp
      rw [← A.hp] at hp ⊢
      exact q (.ref p) (Z.lay p (.dK [])) (Ext.lay hp) (A.rel.lay hp) ⟨p, rfl, upd_same⟩
    · cases h
  · cases h
theorem s_and {a b : CE} (ia : SndE G C T cl k a) (ib : SndE G C T cl k b) : SndE G C T cl k (.and_ a b) := by
  intro n W X x c h
  unfold ckE at h
  have h' := h
  clear h
  split at h'
  · rw [Bool.and_eq_true] at h'
    obtain ⟨pa, ta⟩ := ia n W X _ c h'.1
    obtain ⟨pb, tb⟩ := ib n W X _ c h'.2
    exact ⟨pe_mono (pe_and pa (pe_one pb)) fun σ H Q q => e_and q, pt_mono (pw_and ta (pw_and1 tb)).pt fun σ H Q q => t_and q⟩
  · rw [Bool.and_eq_true] at h'
    obtain ⟨pa, ta⟩ := ia n W X _ c h'.1
    obtain ⟨pb, tb⟩ := ib n W X _ c h'.2
    exact ⟨pe_mono (pe_and pa pb) fun σ H Q q => e_and q, pt_mono (pw_and ta (pw_bool tb)).pt fun σ H Q q => t_and q⟩
  · cases h'
theorem s_or {a b : CE} (ia : SndE G C T cl k a) (ib : SndE G C T cl k b) : SndE G C T cl k (.or_ a b) := by
  intro n W X x c h
  unfold ckE at h
  have h' := h
  clear h
  split at h'
  · rw [Bool.and_eq_true] at h'
    obtain ⟨pa, ta⟩ := ia n W X _ c h'.1
    obtain ⟨pb, tb⟩ := ib n W X _ c h'.2
    exact ⟨pe_mono (pe_or pa (pe_one pb)) fun σ H Q q => e_or q, pt_mono (pw_or ta (pw_or1 tb)).pt fun σ H Q q => t_or q⟩
  · rw [Bool.and_eq_true] at h'
    obtain ⟨pa, ta⟩ := ia n W X _ c h'.1
    obtain ⟨pb, tb⟩ := ib n W X _ c h'.2
    exact ⟨pe_mono (pe_or pa pb) fun σ H Q q => e_or q, pt_mono (pw_or ta (pw_bool tb)).pt fun σ H Q q => t_or q⟩
  · cases h'
theorem s_chain {o1 o2 : Op} {a b d : CE} (ia : SndE G C T cl k a) (ib : SndE G C T cl k b) (id_ : SndE G C T cl k d) : SndE G C T cl k (.chain o1 o2 a b d) := by
  intro n W X x c h
  unfold ckE at h
  have h' := h
  clear h
  split at h'
  · rename_i y p1 p2 z w pos
    simp only [Bool.and_eq_true] at h'
    obtain ⟨⟨⟨⟨⟨⟨h1, h2⟩, h3⟩, h4⟩, h5⟩, h6⟩, h7⟩ := h'
    have pa := (ia n W X _ c h5).1
    have pb := (ib n W X _ c h6).1
    have pd := (id_ n W X _ c h7).1
    have hm : lastMarks [p1, p2] [z, w] = false := noSet_marks h4
    exact ⟨pe_mono (pe_chain (chainOp_r c h1) (chainOp_r c h2) pa pb pd hm) fun σ H Q q => e_chain h1 h2 (fun _ _ _ q => q) q,
      pt_mono (pt_chain (chainOp_r c h1) (chainOp_r c h2) pa pb pd hm) fun σ H Q q => e_chain h1 h2 (fun x H ⟨b, e⟩ q => ⟨b, e, q b e⟩) (t_bl (fun ρ μ d μ' e => chain_bl h1 h2 e) q)⟩
  · cases h'
theorem s_ite {t a b : CE} (it : SndE G C T cl k t) (ia : SndE G C T cl k a) (ib : SndE G C T cl k b) : SndE G C T cl k (.ite t a b) := by
  intro n W X x c h
  unfold ckE at h
  have h' := h
  clear h
  split at h'
  · simp only [Bool.and_eq_true] at h'
    obtain ⟨⟨h1, h2⟩, h3⟩ := h'
    obtain ⟨_, tt⟩ := it n W X _ c h1
    obtain ⟨pa, ta⟩ := ia n W X _ c h2
    obtain ⟨pb, tb⟩ := ib n W X _ c h3
    exact ⟨pe_mono (pe_ifExp tt pa pb) fun σ H Q q => e_ite q, pt_mono (pt_ife tt ta tb) fun σ H Q q => t_ite q⟩
  · cases h'
theorem s_not {a : CE} (ia : SndE G C T cl k a) : SndE G C T cl k (.not_ a) := by
  intro n W X x c h
  unfold ckE at h
  have h' := h
  clear h
  split at h'
  · obtain ⟨pa, ta⟩ := ia n W X _ c h'
    exact ⟨pe_mono (pe_not pa) fun σ H Q q => e_not q, pt_mono (pt_not ta) fun σ H Q q => t_not q⟩
  · cases h'
theorem s_var {i : Nat} : SndE G C T cl k (.v i) := by
  intro n W X x c h
  unfold ckE at h
  have h' := h
  clear h
  split at h'
  · obtain ⟨g1, g2, g3, g4⟩ := c.var h'
    refine both c rfl (pe_mono (pe_var g1 g2 g3 g4) fun σ H Q ⟨Z, ρ, μ, A, q⟩ => ?_)
    have q' : Pst G W σ (RV G) Z (lift (getV ρ i) μ) Q := q
    cases e : getV ρ i with
    | none => rw [e] at q'; exact False.elim q'
    | some d =>
      rw [e] at q'
      obtain ⟨v, e1, e2⟩ := A.se.getV e
      have q2 := Like.ok (rel := RV G) q' A.rel e2
      rw [A.hp] at q2
      exact ⟨v, e1, q2⟩
  · cases h'
theorem s_fnv {f : Fid} : SndE G C T cl k (.fnv f) := by
  intro n W X x c h
  unfold ckE at h
  have h' := h
  clear h
  split at h'
  · obtain ⟨g1, g2, g3, g4, _, g6⟩ := c.fnN h'
    refine both c rfl (pe_mono (pe_glob (v := .ref (G.fa f)) g1 g3 rfl g2) fun σ H Q ⟨Z, ρ, μ, A, q⟩ => ?_)
    have q2 := Like.ok (rel := RV G) q A.rel (b := .ref (G.fa f)) ⟨g6, rfl⟩
    rw [A.hp] at q2
    exact q2
  · cases h'
theorem s_call {f : Fid} {perm : List Nat} {es : CE} (ia : SndA G C T cl k es) : SndE G C T cl k (.call f perm es) := by
  intro n W X x c h
  unfold ckE at h
  have h' := h
  clear h
  split at h'
  · rename_i xs e
    have p := k_call c e (ia n W X xs c h')
    obtain ⟨_, _, _, _, _, rfl, _⟩ := callA_inv e
    exact both c rfl p
  · cases h'
theorem s_callv {g es : CE} (ig : SndE G C T cl k g) (ia : SndA G C T cl k es) : SndE G C T cl k (.callv g es) := by
  intro n W X x c h
  unfold ckE at h
  split at h
  · rename_i y xs e
    rw [Bool.and_eq_true] at h
    have p := k_callv c e (ig n W X y c h.1).1 (ia n W X xs c h.2)
    have hx : plainT x = true := by
      unfold callvA at e
      split at e
      · rfl
      · cases e
    exact both c hx p
  · cases h
theorem s_mop {m : MOp} {o es : CE} (io : SndE G C T cl k o) (ia : SndA G C T cl k es) : SndE G C T cl k (.mop m o es) := by
  intro n W X x c h
  unfold ckE at h
  have h' := h
  clear h
  split at h'
  · rename_i y xs e
    rw [Bool.and_eq_true] at h'
    have p := k_mop c e (io n W X y c h'.1).1 (ia n W X xs c h'.2)
    have hx : plainT x = true := by
      cases m with
      | append => obtain ⟨a, e1, _⟩ := mop1_inv e; obtain ⟨_, _, rfl, _⟩ := callM_inv e1; rfl
      | popi => obtain ⟨a, e1, _⟩ := mop1_inv e; obtain ⟨_, _, rfl, _⟩ := callM_inv e1; rfl
      | pop => obtain ⟨e1, _⟩ := mop0_inv e; obtain ⟨_, _, rfl, _⟩ := callM_inv e1; rfl
      | insert => cases e
    exact both c hx p
  · cases h'
theorem s_comp {t : Tg} {it cd e : CE} (si : SndI G C T cl k it) (sc : SndC G C T cl k cd) (se : SndE G C T cl k e) : SndE G C T cl k (.comp t it cd e) ∧ SndN G C T cl k (.comp t it cd e) := by
  constructor
  · intro n W X x c h
    unfold ckE at h
    have h' := h
    clear h
    split at h'
    · exact both c rfl (pe_mono (k_comp c si sc se h') fun σ H Q q => l_frz (eE_comp_eq t it cd e) q)
    · cases h'
  · intro n W X x c h
    unfold ckE at h
    have h' := h
    clear h
    split at h'
    · exact both c rfl (pe_mono (k_comp c si sc se h') fun σ H Q q => l_cell (eE_ccomp_eq t it cd e) q)
    · cases h'
theorem s_comp2 {t t1 : Tg} {it it1 cd e : CE} (si : SndI G C T cl k it) (si1 : SndI G C T cl k it1) (sc : SndC G C T cl k cd) (se : SndE G C T cl k e) : SndE G C T cl k (.comp2 t it t1 it1 cd e) ∧ SndN G C T cl k (.comp2 t it t1 it1 cd e) := by
  constructor
  · intro n W X x c h
    unfold ckE at h
    split at h
    · exact both c rfl (pe_mono (k_comp2 c si si1 sc se h) fun σ H Q q => l_frz (eE_comp2_eq t it t1 it1 cd e) q)
    · cases h
  · intro n W X x c h
    unfold ckE at h
    split at h
    · exact both c rfl (pe_mono (k_comp2 c si si1 sc se h) fun σ H Q q => l_cell (eE_ccomp2_eq t it t1 it1 cd e) q)
    · cases h
theorem s_opE {o : Op} {es : CE} (ia : SndA G C T cl k es) : SndE G C T cl k (.op o es) ∧ SndN G C T cl k (.op o es) := by
  constructor
  · intro n W X x c h
    unfold ckE at h
    have h' := h
    clear h
    split at h'
    · rename_i xs e
      exact s_op c e (ia n W X xs c h')
    · cases h'
  · intro n W X x c h
    unfold ckE at h
    rw [Bool.and_eq_true] at h
    have h' := h.2
    have hn : isCmp x = false := by simpa using h.1
    split at h'
    · rename_i xs e
      have hi := ia n W X xs c h'
      have p := pe_mono (k_op c e hi) fun σ H Q q => e_cell (cl := cl) q
      rcases op_kind e with hx | hx
      · rw [hn] at hx; cases hx
      · exact both c hx p
    · cases h'
theorem s_cons {e r : CE} (ie : SndE G C T cl k e) (ir : SndA G C T cl k r) : SndA G C T cl k (.cons e r) := by
  intro n W X xs c h
  unfold ckA at h
  split at h
  · simp only [Bool.and_eq_true] at h
    exact ⟨_, _, rfl, h.1.1, (ie n W X _ c h.1.2).1, ir n W X _ c h.2⟩
  · cases h
theorem s_consC {e r : CE} (ie : SndE G C T cl k e) : SndC G C T cl k (.cons e r) := by
  intro n W X xs c h
  unfold ckC at h
  split at h
  · cases ‹_ = CE.nil›
  · rename_i e1 e2
    cases e2
    split at h
    · exact pts_mono (pts_one (ie n W X _ c h).2) fun σ H Q q => q
    · cases h
  · cases h
theorem s_rng1 {a : CE} (ia : SndE G C T cl k a) : SndI G C T cl k (.irng1 a) := by
  intro n W X tg x c h
  unfold ckI at h
  split at h
  · exact i_range1 c (by assumption) (ia n W X _ c h).1
  · cases h
theorem s_rng2 {a b : CE} (ia : SndE G C T cl k a) (ib : SndE G C T cl k b) : SndI G C T cl k (.irng2 a b) := by
  intro n W X tg x c h
  unfold ckI at h
  split at h
  · rw [Bool.and_eq_true] at h
    exact i_range2 c (by assumption) (ia n W X _ c h.1).1 (ib n W X _ c h.2).1
  · cases h
theorem s_enum {a : CE} (ia : SndE G C T cl k a) : SndI G C T cl k (.ienum a) := by
  intro n W X tg x c h
  unfold ckI at h
  rw [Bool.and_eq_true] at h
  obtain ⟨h1, h⟩ := h
  split at h
  · exact i_enum c h1 (by assumption) (ia n W X _ c h).1
  · cases h
theorem s_zip {a b : CE} (ia : SndE G C T cl k a) (ib : SndE G C T cl k b) : SndI G C T cl k (.izip false a b) := by
  intro n W X tg x c h
  unfold ckI at h
  rw [Bool.and_eq_true] at h
  obtain ⟨h1, h⟩ := h
  split at h
  · rw [Bool.and_eq_true] at h
    exact i_zip c h1 (by assumption) (ia n W X _ c h.1).1 (ib n W X _ c h.2).1
  · cases h
theorem s_nilA : SndA G C T cl k .nil := by
  intro n W X xs c h
  unfold ckA at h
  exact List.isEmpty_iff.mp h
theorem s_nilC : SndC G C T cl k .nil := by
  intro n W X xs c h
  unfold ckC at h
  have e : xs = [] := List.isEmpty_iff.mp h
  subst e
  refine pts_mono pts_nil fun σ H Q ⟨Z, ρ, μ, A, q⟩ => ?_
  have q2 := t_ok q A.rel
  rw [A.hp] at q2
  exact q2
theorem s_seq {a : CE} (ia : SndE G C T cl k a) : SndI G C T cl k (.iseq a) := by
  intro n W X tg x c h
  unfold ckI at h
  exact i_seq c.K (ia n W X x c h).1
theorem s_zips {a b : CE} (ia : SndE G C T cl k a) (ib : SndE G C T cl k b) : SndI G C T cl k (.izip true a b) := by
  intro n W X tg x c h
  unfold ckI at h
  rw [Bool.and_eq_true] at h
  obtain ⟨h1, h⟩ := h
  split at h
  · simp only [Bool.and_eq_true, decide_eq_true_eq] at h
    obtain ⟨⟨⟨⟨⟨⟨hw, hb⟩, hk⟩, hy⟩, hz⟩, ka⟩, kb⟩ := h
    subst hk
    exact i_zips c h1 rfl hw hb hy hz (ia n W X _ c ka).1 (ib n W X _ c kb).1
  · cases h
theorem snd_all : ∀ c : CE, Snd G C T cl k c := by
  intro c
  induction c with
  | con d => exact { e := fun n W X x c h => s_con c h }
  | v i => exact { e := s_var }
  | fnv f => exact { e := s_fnv }
  | op o es ih => exact { e := (s_opE ih.a).1, n := (s_opE ih.a).2 }
  | mop m o es ih1 ih2 => exact { e := s_mop ih1.e ih2.a }
  | not_ a ih => exact { e := s_not ih.e }
  | and_ a b ih1 ih2 => exact { e := s_and ih1.e ih2.e }
  | or_ a b ih1 ih2 => exact { e := s_or ih1.e ih2.e }
  | chain o1 o2 a b d ih1 ih2 ih3 => exact { e := s_chain ih1.e ih2.e ih3.e }
  | ite t a b ih1 ih2 ih3 => exact { e := s_ite ih1.e ih2.e ih3.e }
  | cell e ih => exact { e := ih.n }
  | call f perm es ih => exact { e := s_call ih.a }
  | callv g es ih1 ih2 => exact { e := s_callv ih1.e ih2.a }
  | mk c e => exact { }
  | comp t it cd e ih1 ih2 ih3 => exact { e := (s_comp ih1.i ih2.c ih3.e).1, n := (s_comp ih1.i ih2.c ih3.e).2 }
  | comp2 t it t1 it1 cd e ih1 ih2 ih3 ih4 => exact { e := (s_comp2 ih1.i ih2.i ih3.c ih4.e).1, n := (s_comp2 ih1.i ih2.i ih3.c ih4.e).2 }
  | iseq a ih => exact { i := s_seq ih.e }
  | irng1 a ih => exact { i := s_rng1 ih.e }
  | irng2 a b ih1 ih2 => exact { i := s_rng2 ih1.e ih2.e }
  | irng3 a b d => exact { }
  | izip s a b ih1 ih2 =>
    cases s with
    | false => exact { i := s_zip ih1.e ih2.e }
    | true => exact { i := s_zips ih1.e ih2.e }
  | ienum a ih => exact { i := s_enum ih.e }
  | nil => exact { a := s_nilA, c := s_nilC }
  | cons e r ih1 ih2 => exact { a := s_cons ih1.e ih2.a, c := s_consC ih1.e }
end
end PyE
set_option maxRecDepth 100000
set_option maxHeartbeats 4000000
/-! statements: readings -/
namespace PyE
open PySem PySem.Spec PyProof.Rows L2
section
variable (G : Gi) (W : WX)
def PstS (E : Ends) (Z : Wd) (o : Out) : Prop := match o with
  | .next ρ' μ' => ∀ σ' Z', Ext Z Z' → Rel G Z' μ' → SE G Z' σ' ρ' → E.nx σ' Z'.H
  | .brk ρ' μ' => ∀ σ' Z', Ext Z Z' → Rel G Z' μ' → SE G Z' σ' ρ' → E.bk σ' Z'.H
  | .cont ρ' μ' => ∀ σ' Z', Ext Z Z' → Rel G Z' μ' → SE G Z' σ' ρ' → E.ct σ' Z'.H
  | .ret d μ' => ∀ v Z', Ext Z Z' → Rel G Z' μ' → RV G Z' d v → E.rt v Z'.H
  | .exc c d ρ' μ' => G.kc c = true → ∀ dd w σ' Z', Ext Z Z' → Rel G Z' μ' → SE G Z' σ' ρ' → Z'.H dd = some (.xd [("value", w)]) → RV G Z' d w → W (.ref (G.ca c)) (some dd) σ' Z'.H
  | .err => False
def tS (m : Ro → Mu → Out) : TS := fun E σ H => ∃ Z ρ μ, At G Z H σ ρ μ ∧ PstS G W E Z (m ρ μ)
end
section
variable {G : Gi} {C : Cfg} {T : Tb} {cl : Cl} {n : En} {W : WX} {k : Nat} {X : Cx} {σ : L2.St} {H : Hp} {E : Ends} {Z Z' : Wd} {ρ : Ro} {μ : Mu}
theorem PstS.base {o : Out} (h : PstS G W E Z o) (x : Ext Z Z') : PstS G W E Z' o := by
  cases o with
  | next ρ' μ' => exact fun σ' Z2 y R s => h σ' Z2 (x.trans y) R s
  | brk ρ' μ' => exact fun σ' Z2 y R s => h σ' Z2 (x.trans y) R s
  | cont ρ' μ' => exact fun σ' Z2 y R s => h σ' Z2 (x.trans y) R s
  | ret d μ' => exact fun v Z2 y R s => h v Z2 (x.trans y) R s
  | exc c d ρ' μ' => exact fun kc dd w σ' Z2 y R s => h kc dd w σ' Z2 (x.trans y) R s
  | err => exact h
theorem PstS.next (h : PstS G W E Z (.next ρ μ)) (A : At G Z H σ ρ μ) : E.nx σ H := by
  have := h σ Z (Ext.refl _) A.rel A.se
  rw [A.hp] at this
  exact this
theorem stepS {α γ : Type} {rel : Wd → α → γ → Prop} {r : Res α} {f : α → Mu → Out} (A : At G Z H σ ρ μ) (h : PstS G W E Z (r.out ρ f)) {Q : γ → Hp → Prop}
    (hq : ∀ b Z1 μ1 a, At G Z1 Z1.H σ ρ μ1 → Ext Z Z1 → rel Z1 a b → PstS G W E Z1 (f a μ1) → Q b Z1.H) : Pst G W σ rel Z r Q := by
  cases r with
  | ok a μ1 => exact fun b Z2 x R q => hq b Z2 μ1 a (A.ext x R) x q (PstS.base h x)
  | exc c d μ1 => exact fun kc dd w Z2 x R e r => h kc dd w σ Z2 x R (A.se.ext x A.rel) e r
  | err => exact h
theorem liftS {α : Type} {o : Option α} {f : α → Mu → Out} (h : PstS G W E Z ((PyE.lift o μ).out ρ f)) : ∃ a, o = some a ∧ PstS G W E Z (f a μ) := by
  cases o with
  | none => exact False.elim h
  | some a => exact ⟨a, rfl, h⟩
theorem PstS.seq {o : Out} {f : Ro → Mu → Out} (h : PstS G W E Z (o.seq f)) : PstS G W { E with nx := tS G W f E } Z o := by
  cases o with
  | next ρ' μ' => exact fun σ' Z2 y R s => ⟨Z2, ρ', μ', ⟨rfl, s, R⟩, PstS.base h y⟩
  | _ => exact h
theorem PstS.turn {o : Out} {f : Ro → Mu → Out} {N : L2.St → Hp → Prop} (h : PstS G W E Z (o.turn f)) (hN : ∀ σ' Z' ρ' μ', Ext Z Z' → Rel G Z' μ' → SE G Z' σ' ρ' → PstS G W E Z' (f ρ' μ') → N σ' Z'.H) : PstS G W { E with nx := N, ct := N, bk := E.nx } Z o := by
  cases o with
  | next ρ' μ' => exact fun σ' Z2 y R s => hN σ' Z2 ρ' μ' y R s (PstS.base h y)
  | cont ρ' μ' => exact fun σ' Z2 y R s => hN σ' Z2 ρ' μ' y R s (PstS.base h y)
  | brk ρ' μ' => exact h
  | ret d μ' => exact h
  | exc c d ρ' μ' => exact h
  | err => exact h
/-! ### readings -/
theorem r_nil (h : tS G W (eS C cl .nil) E σ H) : tNext E σ H := by
  obtain ⟨Z, ρ, μ, A, h⟩ := h
  exact h.next A
theorem r_cons {s r : CS} (h : tS G W (eS C cl (.cons s r)) E σ H) : tSeq (tS G W (eS C cl s)) (tS G W (eS C cl r)) E σ H := by
  obtain ⟨Z, ρ, μ, A, h⟩ := h
  exact ⟨Z, ρ, μ, A, PstS.seq h⟩
theorem r_ex {e : CE} (h : tS G W (eS C cl (.ex e)) E σ H) : tDrop (tE G W (eE C cl e)) E σ H := by
  obtain ⟨Z, ρ, μ, A, h⟩ := h
  exact ⟨Z, ρ, μ, A, stepS A h fun v Z1 μ1 d A1 X1 r1 h1 => h1.next A1⟩
theorem r_ret {e : CE} (h : tS G W (eS C cl (.ret e)) E σ H) : tRet (tE G W (eE C cl e)) E σ H := by
  obtain ⟨Z, ρ, μ, A, h⟩ := h
  exact ⟨Z, ρ, μ, A, stepS A h fun v Z1 μ1 d A1 X1 r1 h1 => h1 v Z1 (Ext.refl _) A1.rel r1⟩
theorem r_retn (h : tS G W (eS C cl .retn) E σ H) : tRetN E σ H := by
  obtain ⟨Z, ρ, μ, A, h⟩ := h
  have := h .non Z (Ext.refl _) A.rel rfl
  rw [A.hp] at this
  exact this
theorem r_if {t : CE} {a b : CS} (h : tS G W (eS C cl (.if_ t a b)) E σ H) : tIfS (tT G W (eTr C cl t)) (tS G W (eS C cl a)) (tS G W (eS C cl b)) E σ H := by
  obtain ⟨Z, ρ, μ, A, h⟩ := h
  have h' : PstS G W E Z ((eTr C cl t ρ μ).out ρ fun c μ1 => if c = true then eS C cl a ρ μ1 else eS C cl b ρ μ1) := h
  refine ⟨Z, ρ, μ, A, stepS A h' fun v Z1 μ1 d A1 X1 r1 h1 => ?_⟩
  have e : d = v := r1
  subst e
  cases d with
  | true => rw [if_pos rfl] at h1 ⊢; exact ⟨Z1, ρ, μ1, A1, h1⟩
  | false => rw [if_neg Bool.false_ne_true] at h1 ⊢; exact ⟨Z1, ρ, μ1, A1, h1⟩
theorem r_while {t : CE} {b : CS} (h : tS G W (eS C cl (.while_ t b)) E σ H) : tWhile (tT G W (eTr C cl t)) (tS G W (eS C cl b)) E σ H := by
  refine ⟨fun m σ H => ∃ Z ρ μ, At G Z H σ ρ μ ∧ PstS G W E Z (whileL (eTr C cl t) (fun ρ1 μ1 => eS C cl b ρ1 μ1) m ρ μ), ⟨C.W, h⟩, fun m σ H ⟨Z, ρ, μ, A, h⟩ => ?_⟩
  cases m with
  | zero => exact False.elim h
  | succ m =>
    have h' : PstS G W E Z ((eTr C cl t ρ μ).out ρ fun b' μ1 => if b' = true then (eS C cl b ρ μ1).turn fun ρ1 μ2 => whileL (eTr C cl t) (fun ρ1 μ1 => eS C cl b ρ1 μ1) m ρ1 μ2 else .next ρ μ1) := h
    refine ⟨Z, ρ, μ, A, stepS A h' fun v Z1 μ1 d A1 X1 r1 h1 => ?_⟩
    have e : d = v := r1
    subst e
    cases d with
    | true =>
      rw [if_pos rfl] at h1 ⊢
      exact ⟨fun σ' H' => ∃ Z ρ μ, At G Z H' σ' ρ μ ∧ PstS G W E Z (whileL (eTr C cl t) (fun ρ1 μ1 => eS C cl b ρ1 μ1) m ρ μ), fun σ' H' q => ⟨m, Nat.lt_succ_self _, q⟩, Z1, ρ, μ1, A1, PstS.turn h1 fun σ' Z' ρ' μ' x R s q => ⟨Z', ρ', μ', ⟨rfl, s, R⟩, q⟩⟩
    | false =>
      rw [if_neg Bool.false_ne_true] at h1 ⊢
      exact h1.next A1
theorem r_for {t : Tg} {it : CE} {b : CS} (h : tS G W (eS C cl (.for_ t it b)) E σ H) : tFor (tI G W (eI C cl it)) (gT G t) (tS G W (eS C cl b)) E σ H := by
  obtain ⟨Z, ρ, μ, A, h⟩ := h
  let f : D → Ro → Mu → Out := fun d ρ1 μ2 => (lift (setT μ2 t d ρ1) μ2).out ρ1 fun ρ2 μ3 => eS C cl b ρ2 μ3
  have h' : PstS G W E Z ((eI C cl it ρ μ).out ρ fun s μ1 => forL s.okAt f s.xs ρ μ1) := h
  refine ⟨Z, ρ, μ, A, ?_⟩
  revert h'
  cases eI C cl it ρ μ with
  | err => exact fun h' => h'
  | exc c d μ1 => exact fun h' kc dd w Z2 x R e r => h' kc dd w σ Z2 x R (A.se.ext x A.rel) e r
  | ok s μ0 =>
    intro h' J Z1 x1 R1 ok1
    obtain ⟨hz, ok1⟩ := ok1
    have h1 : PstS G W E Z1 (forL s.okAt f s.xs ρ μ0) := PstS.base h' x1
    refine ⟨fun i m σ H => m = s.xs.length - i ∧ i ≤ s.xs.length ∧ ∃ Z2 ρ2 μ2, At G Z2 H σ ρ2 μ2 ∧ Ext Z1 Z2 ∧ PstS G W E Z2 (forL s.okAt f (s.xs.drop i) ρ2 μ2), ⟨_, rfl, Nat.zero_le _, Z1, ρ, μ0, A.ext x1 R1, Ext.refl _, by rw [List.drop_zero]; exact h1⟩, ?_⟩
    rintro i m σ2 H2 ⟨rfl, hi, Z2, ρ2, μ2, A2, x2, hp⟩
    have ea := A2.hp
    subst ea
    by_cases he : i = s.xs.length
    · left
      rw [he, List.drop_length] at hp
      have hp' : PstS G W E Z2 (if s.okAt μ2 = true then Out.next ρ2 μ2 else .err) := hp
      by_cases hk : s.okAt μ2 = true
      · rw [if_pos hk] at hp'
        exact ⟨(ok1 i Z2 μ2 (x2.b R1) A2.rel hk).2 (by rw [he]; exact Nat.le_refl _), hp'.next A2⟩
      · rw [if_neg hk] at hp'
        exact False.elim hp'
    · right
      have hlt : i < s.xs.length := by omega
      obtain ⟨d, hd⟩ : ∃ d, s.xs[i]? = some d := ⟨_, List.getElem?_eq_getElem hlt⟩
      have hdr : s.xs.drop i = d :: s.xs.drop (i + 1) := by
        rw [List.drop_eq_getElem_cons hlt]
        have := List.getElem?_eq_getElem hlt
        rw [hd] at this
        rw [← Option.some.inj this]
      rw [hdr] at hp
      have hp' : PstS G W E Z2 (if s.okAt μ2 = true then (f d ρ2 μ2).turn fun ρ1 μ1 => forL s.okAt f (s.xs.drop (i + 1)) ρ1 μ1 else .err) := hp
      by_cases hk : s.okAt μ2 = true
      · rw [if_pos hk] at hp'
        obtain ⟨og, oy⟩ := (ok1 i Z2 μ2 (x2.b R1) A2.rel hk).1 d hd
        refine ⟨og, fun σ' H' => ∃ m', m' < s.xs.length - i ∧ (m' = s.xs.length - (i + 1) ∧ i + 1 ≤ s.xs.length ∧ ∃ Z2 ρ2 μ2, At G Z2 H' σ' ρ2 μ2 ∧ Ext Z1 Z2 ∧ PstS G W E Z2 (forL s.okAt f (s.xs.drop (i + 1)) ρ2 μ2)), fun σ' H' q => q, fun x H' hy => ?_⟩
        obtain ⟨Z3, rfl, X4, R4, r4⟩ := oy x H' hy
        have A3 : At G Z3 Z3.H σ2 ρ2 μ2 := A2.ext X4 R4
        have hq := PstS.base hp' X4
        have hf : f d ρ2 μ2 = (lift (setT μ2 t d ρ2) μ2).out ρ2 fun ρ2 μ3 => eS C cl b ρ2 μ3 := rfl
        rw [hf] at hq
        cases es : setT μ2 t d ρ2 with
        | none => rw [es] at hq; exact False.elim hq
        | some ρ3 =>
          rw [es] at hq
          have hq' : PstS G W E Z3 ((eS C cl b ρ3 μ2).turn fun ρ1 μ1 => forL s.okAt f (s.xs.drop (i + 1)) ρ1 μ1) := hq
          refine ⟨Z3, ρ2, μ2, d, ρ3, A3, r4, es, fun σ' s' _ => ⟨Z3, ρ3, μ2, ⟨rfl, s', R4⟩, ?_⟩⟩
          exact PstS.turn hq' fun σ'' Z4 ρ4 μ4 x R sv q => ⟨s.xs.length - (i + 1), by omega, rfl, hlt, Z4, ρ4, μ4, ⟨rfl, sv, R⟩, (x2.trans X4).trans x, q⟩
      · rw [if_neg hk] at hp'
        exact False.elim hp'
end
end PyE
set_option maxRecDepth 100000
set_option maxHeartbeats 4000000
/-! the test of statements -/
namespace PyE
open PySem PySem.Spec PyProof.Rows L2
def isLocal (n : En) (y : Str) : Bool := match n.sc.names.lookup y with
  | some .local => true
  | _ => false
def noComp : Expr → Bool
  | .ListComp _ _ _ _ => false
  | .SetComp _ _ _ _ => false
  | .DictComp _ _ _ _ _ => false
  | _ => true
def noTpl : Expr → Bool
  | .Tuple _ _ _ => false
  | _ => true
/-- the scope of y = [..] is swapped with y's -/
def swB (n : En) (scope : Scope) (y : Str) (py pos : Pos) : Bool := isLocal n y && (py.line == pos.line) && !(scope.names.any fun (m, k) => m == y && (k == .local || k == .cell))
/-- x, y = a, b: the stores are swapped -/
def swS (n : En) (x y : Str) (px py : Pos) (vs : List Expr) : Bool := isLocal n x && isLocal n y && (px.line == py.line) && decide (x ≠ y) && vs.all notStar && !(vs.all (foldedForSure 8)) && !(vs.all (constantsAlone 8))
def swS3 (n : En) (x y z : Str) (px py pz : Pos) (vs : List Expr) : Bool := isLocal n x && isLocal n y && isLocal n z && (px.line == py.line) && (px.line == pz.line) && decide (x ≠ y) && decide (x ≠ z) && decide (y ≠ z) && vs.all notStar && !(vs.all (foldedForSure 8)) && !(vs.all (constantsAlone 8))
def isCompE : CE → Bool
  | .comp _ _ _ _ => true
  | .cell (.comp _ _ _ _) => true
  | .comp2 _ _ _ _ _ _ => true
  | .cell (.comp2 _ _ _ _ _ _) => true
  | _ => false
section
variable (T : Tb)
def ckAsg (t : Tg) (e : CE) (n : En) (tg v : Expr) : Bool := match t, tg with
  | .nm i, .Name y _ => isTo n y i && (noComp v || isCompE e) && ckE T e n v
  | .tp [i, j], .Tuple [.Name x px, .Name y py] _ _ => isTo n x i && isTo n y j && (if (noTpl v || !(isLocal n x && isLocal n y)) = true then ckE T e n v else (match e, v with
    | .op .tup es, .Tuple vs _ _ => decide (vs.length = 2) && swS n x y px py vs && decide (i ≠ j) && ckA T es n vs
    | _, _ => false))
  | .tp [i, j, l], .Tuple [.Name x px, .Name y py, .Name z pz] _ _ => isTo n x i && isTo n y j && isTo n z l && (if (noTpl v || !(isLocal n x && isLocal n y && isLocal n z)) = true then ckE T e n v else (match e, v with
    | .op .tup es, .Tuple vs _ _ => decide (vs.length = 3) && swS3 n x y z px py pz vs && decide (i ≠ j) && decide (i ≠ l) && decide (j ≠ l) && ckA T es n vs
    | _, _ => false))
  | _, _ => false
mutual
def ckS (s : CS) (n : En) (st : Stmt) : Bool := match s with
  | .bad => true
  | .asg t e => (match st with | .Assign [tg] v _ => ckAsg T t e n tg v | _ => false)
  | .sub o i e => (match st with | .Assign [.Subscript xo xi _] v _ => noSlice xi && noComp v && ckE T o n xo && ckE T i n xi && ckE T e n v | _ => false)
  | .ex e => (match st with | .Expr x _ => noComp x && ckE T e n x | _ => false)
  | .ret e => (match st with | .Return (some x) _ => ckE T e n x | _ => false)
  | .retn => (match st with | .Return none _ => true | _ => false)
  | .if_ t a b => (match st with | .If x y z _ => ckE T t n x && ckSs a n y && ckSs b n z | _ => false)
  | .for_ t it b => (match st with | .For tg x y [] _ => ckT n t tg && noSet x && ckI T it n tg x && ckSs b n y | _ => false)
  | .while_ t b => (match st with | .While x y [] _ => ckE T t n x && ckSs b n y | _ => false)
  | .pass => (match st with | .Pass _ => true | _ => false)
  | .brk => (match st with | .Break _ => true | _ => false)
  | .cont => (match st with | .Continue _ => true | _ => false)
  | .raise f e => (match e, st with | .cons e1 .nil, .Raise (some (.Call (.Name x _) [a] [] _)) none _ => isClsN T n x f && notStar a && ckE T e1 n a | _, _ => false)
  | .try_ b c i h => (match h, st with
    | .cons (.asg (.nm j) (.v i')) .nil, .Try body [.ExceptHandler (some (.Name x _)) (some nn) [.Assign [.Name y _] (.Name n2 _) _] _] [] [] _ =>
        decide (i' = i) && decide (n2 = nn) && isClsN T n x c && isTo n nn i && isLocal n nn && isTo n y j && decide (nn ≠ "__debug__") && decide (nn ≠ "__classdict__") && ckSs b n body
    | _, _ => false)
  | _ => false
def ckSs (s : CS) (n : En) (sts : List Stmt) : Bool := match s with
  | .nil => sts.isEmpty
  | .cons a r => (match sts with | x :: y => ckS a n x && ckSs r n y | [] => false)
  | _ => false
end
end
end PyE
set_option maxRecDepth 100000
set_option maxHeartbeats 4000000
/-! assignments -/
namespace PyE
open PySem PySem.Spec PyProof.Rows L2
section
variable {G : Gi} {C : Cfg} {T : Tb} {cl : Cl} {n : En} {W : WX} {k : Nat} {X : Cx} {σ : L2.St} {H : Hp} {E : Ends} {Z Z' : Wd} {ρ : Ro} {μ : Mu}
theorem noComp_sw {v : Expr} {t : Option Expr} {l : Nat} {env : Env} (h : noComp v = true) : swapsWith v t l env = pure false := by
  cases v <;> first | rfl | cases h
theorem isLocal_of {y : Str} (h : isLocal n y = true) : n.sc.names.lookup y = some .local := by
  unfold isLocal at h
  split at h
  · assumption
  · cases h
theorem blockKind_of {env : Env} (h : env.scope.kind = .function) : (env.blockKind == ScopeKind.function) = true := by
  unfold Env.blockKind
  rw [h]; rfl
theorem sw_name {elt : Expr} {gs : List Comprehension} {scope : Scope} {pos py : Pos} {y : Str} {l : Nat} {env : Env} (hk : env.scope.kind = .function) (hs : env.scope = n.sc) :
    swapsWith (.ListComp elt gs scope pos) (some (.Name y py)) l env = pure (swB n scope y py pos) := by
  have e1 : (env.kindOf y == some NameKind.local) = isLocal n y := by
    unfold Env.kindOf isLocal
    rw [hs]
    cases n.sc.names.lookup y with
    | none => rfl
    | some q => cases q <;> rfl
  show pure (env.blockKind == .function && env.kindOf y == some .local && py.line == pos.line && !(scope.names.any fun (n, k) => n == y && (k == .local || k == .cell))) = _
  rw [blockKind_of hk, e1]
  unfold swB
  rw [Bool.true_and]
theorem sw2 {x y : Str} {px py : Pos} {a b : Expr} {env : Env} {kt k2 : Nat} {pt pt2 : Pos} (hk : env.scope.kind = .function) (hs : env.scope = n.sc) (h : swS n x y px py [a, b] = true) :
    swappedStores [.Tuple [.Name x px, .Name y py] kt pt] (.Tuple [a, b] k2 pt2) env = pure (some [x, y]) := by
  unfold swS at h
  simp only [Bool.and_eq_true, List.all_cons, List.all_nil, Bool.and_true, Bool.not_eq_true'] at h
  obtain ⟨⟨⟨⟨⟨⟨h1, h2⟩, h3⟩, h4⟩, h5⟩, h6⟩, h7⟩ := h
  have k1 : (env.kindOf x == some NameKind.local) = true := by unfold Env.kindOf; rw [hs, isLocal_of h1]; rfl
  have k2 : (env.kindOf y == some NameKind.local) = true := by unfold Env.kindOf; rw [hs, isLocal_of h2]; rfl
  have b1 := blockKind_of hk
  have l1 : (py.line == px.line) = true := by rw [beq_iff_eq] at h3 ⊢; exact h3.symm
  have ne := of_decide_eq_true h4
  have st : ∀ e : Expr, notStar e = true → (match e with | .Starred .. => true | _ => false) = false := fun e he => by cases e <;> first | rfl | cases he
  have b2 : (env.blockKind != ScopeKind.function) = false := by rw [bne, b1]; rfl
  have sa := st a h5.1
  have sb := st b h5.2
  have kx : env.kindOf x = some NameKind.local := by simpa using k1
  have ky : env.kindOf y = some NameKind.local := by simpa using k2
  have pl : py.line = px.line := by simpa using l1
  have an : ([a, b].any fun | .Starred .. => true | _ => false) = false := by
    simp only [List.any_cons, List.any_nil, sa, sb, Bool.or_false]
  simp [swappedStores, b2, kx, ky, Expr.pos, pl, sa, sb, h6, h7, Ne.symm ne, List.eraseDups_cons]
  intro q
  exfalso
  obtain ⟨s1, s2⟩ := h5
  rcases q with q | q
  · cases a <;> first | (cases q; done) | cases s1
  · cases b <;> first | (cases q; done) | cases s2
theorem sw3 {x y z : Str} {px py pz : Pos} {a b d : Expr} {env : Env} {kt k2 : Nat} {pt pt2 : Pos} (hk : env.scope.kind = .function) (hs : env.scope = n.sc) (h : swS3 n x y z px py pz [a, b, d] = true) :
    swappedStores [.Tuple [.Name x px, .Name y py, .Name z pz] kt pt] (.Tuple [a, b, d] k2 pt2) env = pure (some [x, y, z]) := by
  unfold swS3 at h
  simp only [Bool.and_eq_true, List.all_cons, List.all_nil, Bool.and_true, Bool.not_eq_true'] at h
  obtain ⟨⟨⟨⟨⟨⟨⟨⟨⟨⟨h1, h2⟩, h3⟩, h4⟩, h5⟩, h6⟩, h7⟩, h8⟩, h9⟩, h10⟩, h11⟩ := h
  have kx : env.kindOf x = some NameKind.local := by unfold Env.kindOf; rw [hs]; exact isLocal_of h1
  have ky : env.kindOf y = some NameKind.local := by unfold Env.kindOf; rw [hs]; exact isLocal_of h2
  have kz : env.kindOf z = some NameKind.local := by unfold Env.kindOf; rw [hs]; exact isLocal_of h3
  have b2 : (env.blockKind != ScopeKind.function) = false := by rw [bne, blockKind_of hk]; rfl
  have py' : py.line = px.line := by rw [beq_iff_eq] at h4; exact h4.symm
  have pz' : pz.line = px.line := by rw [beq_iff_eq] at h5; exact h5.symm
  have n1 := of_decide_eq_true h6
  have n2 := of_decide_eq_true h7
  have n3 := of_decide_eq_true h8
  simp [swappedStores, b2, kx, ky, kz, Expr.pos, py', pz', h10, h11, Ne.symm n1, Ne.symm n2, Ne.symm n3, List.eraseDups_cons]
  intro q
  exfalso
  obtain ⟨s1, s2, s3⟩ := h9
  rcases q with q | q | q
  · cases a <;> first | (cases q; done) | cases s1
  · cases b <;> first | (cases q; done) | cases s2
  · cases d <;> first | (cases q; done) | cases s3
theorem sw_none {ts : List Expr} {v : Expr} {env : Env} {kt : Nat} {pt : Pos} (h : noTpl v = true) : swappedStores [.Tuple ts kt pt] v env = pure none := by
  cases v <;> first | rfl | cases h
theorem loc_iff {y : Str} {env : Env} (hs : env.scope = n.sc) : (env.kindOf y == some NameKind.local) = isLocal n y := by
  unfold Env.kindOf isLocal
  rw [hs]
  cases n.sc.names.lookup y with
  | none => rfl
  | some q => cases q <;> rfl
theorem sw2n {x y : Str} {px py : Pos} {v : Expr} {env : Env} {kt : Nat} {pt : Pos} (hs : env.scope = n.sc) (h : (noTpl v || !(isLocal n x && isLocal n y)) = true) :
    swappedStores [.Tuple [.Name x px, .Name y py] kt pt] v env = pure none := by
  by_cases hv : noTpl v = true
  · exact sw_none hv
  · have hv' : noTpl v = false := by simpa using hv
    rw [hv', Bool.false_or] at h
    cases v <;> try (cases hv'; done)
    unfold swappedStores
    simp only []
    split
    · rfl
    · split
      · rfl
      · have e1 := loc_iff (y := x) hs
        have e2 := loc_iff (y := y) hs
        have hl : (List.filterMap (fun e => match e with
          | .Name id pos => if env.kindOf id == some .local && pos.line == (([Expr.Name x px, Expr.Name y py].head?.map (·.pos.line)).getD 0) then some id else none
          | _ => none) [Expr.Name x px, Expr.Name y py]).length ≠ 2 := by
          simp only [List.filterMap_cons, List.filterMap_nil, e1, e2]
          cases h1 : isLocal n x <;> cases h2 : isLocal n y <;> simp [h1, h2] at h ⊢ <;> split <;> simp
        rw [if_pos (by rw [Bool.or_eq_true]; exact .inl (bne_iff_ne.mpr hl))]
theorem sw3n {x y z : Str} {px py pz : Pos} {v : Expr} {env : Env} {kt : Nat} {pt : Pos} (hs : env.scope = n.sc) (h : (noTpl v || !(isLocal n x && isLocal n y && isLocal n z)) = true) :
    swappedStores [.Tuple [.Name x px, .Name y py, .Name z pz] kt pt] v env = pure none := by
  by_cases hv : noTpl v = true
  · exact sw_none hv
  · have hv' : noTpl v = false := by simpa using hv
    rw [hv', Bool.false_or] at h
    cases v <;> try (cases hv'; done)
    unfold swappedStores
    simp only []
    split
    · rfl
    · split
      · rfl
      · have e1 := loc_iff (y := x) hs
        have e2 := loc_iff (y := y) hs
        have e3 := loc_iff (y := z) hs
        have hl : (List.filterMap (fun e => match e with
          | .Name id pos => if env.kindOf id == some .local && pos.line == (([Expr.Name x px, Expr.Name y py, Expr.Name z pz].head?.map (·.pos.line)).getD 0) then some id else none
          | _ => none) [Expr.Name x px, Expr.Name y py, Expr.Name z pz]).length ≠ 3 := by
          have key : ∀ (a b c : Bool) (u v w : Str), (a && b && c) = false → (List.filterMap id [if a = true then some u else none, if b = true then some v else none, if c = true then some w else none]).length ≠ 3 := by
            intro a b c u v w q
            cases a <;> cases b <;> cases c <;> simp at q ⊢
          have h' : (isLocal n x && isLocal n y && isLocal n z) = false := (Bool.not_eq_true' _).mp h
          have := key (isLocal n x && (px.line == (([Expr.Name x px, Expr.Name y py, Expr.Name z pz].head?.map (·.pos.line)).getD 0))) (isLocal n y && (py.line == (([Expr.Name x px, Expr.Name y py, Expr.Name z pz].head?.map (·.pos.line)).getD 0))) (isLocal n z && (pz.line == (([Expr.Name x px, Expr.Name y py, Expr.Name z pz].head?.map (·.pos.line)).getD 0))) x y z (by
            cases h1 : isLocal n x <;> cases h2 : isLocal n y <;> cases h3 : isLocal n z <;> simp [h1, h2, h3] at h' ⊢)
          simp only [List.filterMap_cons, List.filterMap_nil, id_eq] at this
          simp only [List.filterMap_cons, List.filterMap_nil, e1, e2, e3]
          exact this
        rw [if_pos (by rw [Bool.or_eq_true]; exact .inl (bne_iff_ne.mpr hl))]
/-! ### readings -/
theorem r_asg {t : Tg} {e : CE} (h : tS G W (eS C cl (.asg t e)) E σ H) : tAsg (tE G W (eE C cl e)) (gT G t) E σ H := by
  obtain ⟨Z, ρ, μ, A, h⟩ := h
  refine ⟨Z, ρ, μ, A, stepS A h fun v Z1 μ1 d A1 X1 r1 h1 => ?_⟩
  obtain ⟨ρ1, e1, h2⟩ := liftS h1
  exact ⟨Z1, ρ, μ1, d, ρ1, A1, r1, e1, fun σ' s' _ => (show PstS G W E Z1 (.next ρ1 μ1) from h2) σ' Z1 (Ext.refl _) A1.rel s'⟩
theorem r_asgN {i : Nat} {e : CE} (h : tS G W (eS C cl (.asg (.nm i) e)) E σ H) : tAsg (tE G W (eE C cl e)) (gName i) E σ H := by
  obtain ⟨Z, ρ, μ, A, h⟩ := h
  refine ⟨Z, ρ, μ, A, stepS A h fun v Z1 μ1 d A1 X1 r1 h1 => ?_⟩
  exact (show PstS G W E Z1 (.next (ρ.set i (some d)) μ1) from h1) _ Z1 (Ext.refl _) A1.rel (A1.se.set i r1)
theorem r_par2 {i j : Nat} {es : CE} (h : tS G W (eS C cl (.asg (.tp [i, j]) (.op .tup es))) E σ H) : tPar i j (tA G W (eA C cl es)) E σ H := by
  obtain ⟨Z, ρ, μ, A, h⟩ := h
  have h' : PstS G W E Z ((eE C cl (.op .tup es) ρ μ).out ρ fun d μ1 => (lift (setT μ1 (.tp [i, j]) d ρ) μ1).out ρ fun ρ1 μ2 => .next ρ1 μ2) := h
  have e0 : eE C cl (.op .tup es) ρ μ = (eA C cl es ρ μ).bind fun vs μ1 => .ok (.tup vs) μ1 := rfl
  rw [e0] at h'
  have e1 : ∀ {r : Res (List D)}, (r.bind fun vs μ1 => Res.ok (D.tup vs) μ1).out ρ (fun d μ1 => (lift (setT μ1 (.tp [i, j]) d ρ) μ1).out ρ fun ρ1 μ2 => Out.next ρ1 μ2) = r.out ρ fun vs μ1 => (lift (setT μ1 (.tp [i, j]) (.tup vs) ρ) μ1).out ρ fun ρ1 μ2 => Out.next ρ1 μ2 := fun {r} => by cases r <;> rfl
  rw [e1] at h'
  refine ⟨Z, ρ, μ, A, stepS A h' fun vs Z1 μ1 ds A1 X1 r1 h1 => ?_⟩
  obtain ⟨ρ1, e2, h2⟩ := liftS h1
  have hl := setAll_len (show setAll [i, j] ds ρ = some ρ1 from e2)
  obtain ⟨d, d2, rfl⟩ : ∃ d d2, ds = [d, d2] := by
    cases ds with
    | nil => cases hl
    | cons d r => cases r with
      | nil => cases hl
      | cons d2 r => cases r with
        | nil => exact ⟨d, d2, rfl⟩
        | cons _ _ => simp at hl
  cases e2
  obtain ⟨v, t, rfl, q1, w, t2, rfl, q2, q3⟩ := r1
  have q3' : t2 = [] := q3
  subst q3'
  exact ⟨v, w, rfl, (show PstS G W E Z1 (.next _ μ1) from h2) _ Z1 (Ext.refl _) A1.rel ((A1.se.set i q1).set j q2)⟩
theorem r_par3 {i j l : Nat} {es : CE} (h : tS G W (eS C cl (.asg (.tp [i, j, l]) (.op .tup es))) E σ H) : tPar3 i j l (tA G W (eA C cl es)) E σ H := by
  obtain ⟨Z, ρ, μ, A, h⟩ := h
  have h' : PstS G W E Z ((eE C cl (.op .tup es) ρ μ).out ρ fun d μ1 => (lift (setT μ1 (.tp [i, j, l]) d ρ) μ1).out ρ fun ρ1 μ2 => .next ρ1 μ2) := h
  have e0 : eE C cl (.op .tup es) ρ μ = (eA C cl es ρ μ).bind fun vs μ1 => .ok (.tup vs) μ1 := rfl
  rw [e0] at h'
  have e1 : ∀ {r : Res (List D)}, (r.bind fun vs μ1 => Res.ok (D.tup vs) μ1).out ρ (fun d μ1 => (lift (setT μ1 (.tp [i, j, l]) d ρ) μ1).out ρ fun ρ1 μ2 => Out.next ρ1 μ2) = r.out ρ fun vs μ1 => (lift (setT μ1 (.tp [i, j, l]) (.tup vs) ρ) μ1).out ρ fun ρ1 μ2 => Out.next ρ1 μ2 := fun {r} => by cases r <;> rfl
  rw [e1] at h'
  refine ⟨Z, ρ, μ, A, stepS A h' fun vs Z1 μ1 ds A1 X1 r1 h1 => ?_⟩
  obtain ⟨ρ1, e2, h2⟩ := liftS h1
  have hl := setAll_len (show setAll [i, j, l] ds ρ = some ρ1 from e2)
  obtain ⟨d, d2, d3, rfl⟩ : ∃ d d2 d3, ds = [d, d2, d3] := by
    cases ds with
    | nil => cases hl
    | cons d r => cases r with
      | nil => cases hl
      | cons d2 r => cases r with
        | nil => cases hl
        | cons d3 r => cases r with
          | nil => exact ⟨d, d2, d3, rfl⟩
          | cons _ _ => simp at hl
  cases e2
  obtain ⟨v, t, rfl, q1, w, t2, rfl, q2, x, t3, rfl, q3, q4⟩ := r1
  have q4' : t3 = [] := q4
  subst q4'
  exact ⟨v, w, x, rfl, (show PstS G W E Z1 (.next _ μ1) from h2) _ Z1 (Ext.refl _) A1.rel (((A1.se.set i q1).set j q2).set l q3)⟩
theorem r_sub {o i e : CE} (h : tS G W (eS C cl (.sub o i e)) E σ H) : tAsg (tE G W (eE C cl e)) (gSub (tE G W (eE C cl o)) (tE G W (eE C cl i)) (tSetS G)) E σ H := by
  obtain ⟨Z, ρ, μ, A, h⟩ := h
  refine ⟨Z, ρ, μ, A, stepS (rel := RV G) A h fun v Z1 μ1 d A1 X1 r1 h1 => ⟨Z1, ρ, μ1, A1, stepS (rel := RV G) A1 h1 fun x Z2 μ2 dx A2 X2 r2 h2 => ⟨Z2, ρ, μ2, A2, stepS (rel := RV G) A2 h2 fun y Z3 μ3 dy A3 X3 r3 h3 => ?_⟩⟩⟩
  have h3' : PstS G W E Z3 (liftM (subS μ3 dx dy d) ρ) := h3
  cases es : subS μ3 dx dy d with
  | none => rw [es] at h3'; exact False.elim h3'
  | some μ4 =>
    rw [es] at h3'
    refine ⟨Z3, μ3, dx, dy, d, μ4, rfl, A3.rel, RV.ext X3 A2.rel _ _ r2, r3, RV.ext X3 A2.rel _ _ (RV.ext X2 A1.rel _ _ r1), es, fun Z4 X4 R4 => ?_⟩
    exact (show PstS G W E Z3 (.next ρ μ4) from h3') σ Z4 X4 R4 (A3.se.ext X4 A3.rel)
end
end PyE
set_option maxRecDepth 100000
set_option maxHeartbeats 4000000
/-! raise; try -/
namespace PyE
open PySem PySem.Spec PyProof.Rows L2
section
variable {G : Gi} {C : Cfg} {T : Tb} {cl : Cl} {n : En} {W : WX} {k : Nat} {X : Cx} {σ : L2.St} {H : Hp} {E : Ends} {Z Z' : Wd} {ρ : Ro} {μ : Mu}
/-- an object just laid that is no list -/
theorem other {Z : Wd} {μ : Mu} {p : Addr} {o : HO} (R : Rel G Z μ) (hp : Z.H p = none) : ∃ Z', Z'.H = upd Z.H p o ∧ Ext Z Z' ∧ Rel G Z' μ := by
  let Z' : Wd := ⟨Z.th, Z.S, upd Z.H p o⟩
  have X : Ext Z Z' := ⟨List.prefix_refl _, fun _ q => .inl q, fun _ q => q, fun a q => .inl q, fun a u q _ => by
      show upd Z.H p _ a = some u
      rw [upd_ne (ne_of_none q hp)]; exact q, fun a q => by
      have q' : upd Z.H p o a = none := q
      by_cases e : a = p
      · rw [e]; exact hp
      · rw [upd_ne e] at q'; exact q'⟩
  refine ⟨Z', rfl, X, ⟨R.len, R.nd, fun n a ds h1 h2 => ?_, fun a q => R.sep a q, fun a q z => R.has a q (X.dom a z)⟩⟩
  obtain ⟨ws, e, q, z⟩ := R.cell n a ds h1 h2
  refine ⟨ws, ?_, RVs.ext X R ds ws q, z⟩
  show upd Z.H p _ a = _
  rw [upd_ne (ne_of_none e hp)]; exact e
theorem passes_none {X : Cx} : Passes (CX X.prog X.w) X (fun _ _ _ => False) := fun pins σ H s e s' I h => by
  obtain ⟨_, _, _, _, _, _, _, _, _, _, _, _, z⟩ := h
  exact False.elim z
/-- raise C(e) -/
theorem s_raise (c : CxE G C T cl n W k X) {f : Fid} {e : CE} {x : Str} {a : Expr} {p pos pos' : Pos} (h : isClsN T n x f = true) (hs : notStar a = true) (ha : ckE T e n a = true) :
    PS X (.Raise (some (.Call (.Name x p) [a] [] pos)) none pos') (tS G W (eS C cl (.raise f (.cons e .nil)))) := by
  obtain ⟨hg, hd, hm, hk⟩ := c.clsN h
  obtain ⟨fI, Db, fd, F, I, iC, tI, hb⟩ := c.wk.er f hk
  have F' : FnOk X.prog X.w X.K X.mg X.base (CX X.prog X.w) 1 fI fd ["self", "value"] (spIni X.K Db) := by
    rw [c.prog, c.K, c.mg]
    exact ini_fn F
  have pa := pa_cons ((snd_all e).e n W X a c ha).1 (pa_nil (X := X)) (star_of hs)
  refine ps_mono (ps_raise c.calm c.tk (pmk_oex (dvs := []) (by rw [c.K]; exact I.oex) (by rw [c.K]; exact iC) (by rw [c.K]; exact tI) F' (c.room.mono (by omega)) (by rw [c.K]; exact hb) .nil passes_none hg hm pa hd (star_of hs) (by rfl))) fun E σ H q => ?_
  obtain ⟨Z, ρ, μ, A, h⟩ := q
  have h2 : PstS G W E Z ((eE C cl e ρ μ).out ρ fun d μ1 => .exc f d ρ μ1) := by
    have e1 : eS C cl (.raise f (.cons e .nil)) ρ μ = (eE C cl e ρ μ).out ρ fun d μ1 => .exc f d ρ μ1 := by
      show ((eE C cl e ρ μ).bind fun d μ1 => (Res.ok [] μ1 : Res (List D)).bind fun ds μ2 => .ok (d :: ds) μ2).out ρ _ = _
      cases eE C cl e ρ μ <;> rfl
    rw [← e1]; exact h
  refine ⟨Z, ρ, μ, A, stepS A h2 fun v Z1 μ1 d A1 X1 r1 h1 => ?_⟩
  refine ⟨by show 1 ≤ 1000; decide, fun a ha => ⟨a, G.ca f, v, rfl, by rw [c.K]; exact I, upd_same, fun dx n1 n2 => ⟨rfl, dx, _, upd_same, by rw [upd_ne n2, upd_same], by rw [upd_ne n2] at n1; exact n1, ?_⟩⟩⟩
  rw [upd_ne n2] at n1
  have eH : upd (del (upd (upd (upd Z1.H a (exo a (G.ca f) none)) dx (exd dx [("value", v)])) a (exo a (G.ca f) (some dx))) a) dx (.xd [("value", v)]) = upd Z1.H dx (.xd [("value", v)]) := by
    funext b
    by_cases hb : b = dx
    · rw [hb, upd_same, upd_same]
    · rw [upd_ne hb, upd_ne hb]
      by_cases hba : b = a
      · rw [hba, del_same, ha]
      · rw [del_ne hba, upd_ne hba, upd_ne hb, upd_ne hba]
  rw [eH]
  obtain ⟨Z2, e2, X2, R2⟩ := other (o := .xd [("value", v)]) A1.rel n1
  have := h1 hk dx v σ Z2 X2 R2 (A1.se.ext X2 A1.rel) (by rw [e2, upd_same]) (RV.ext X2 A1.rel _ _ r1)
  rw [e2] at this
  exact this
/-- try: .. except C as x: y = x -/
theorem try_pst {c : Fid} {i j : Nat} {o : Out} {cv : Value} (hm : ∀ f, G.kc f = true → PySem.W.exmOne G.K (.ref (G.ca f)) cv = some (C.sub f c)) (hK : X.K = G.K) (h : PstS G W E Z (o.catch fun f v ρ1 μ1 => if C.sub f c = true then (eS C cl (.cons (.asg (.nm j) (.v i)) .nil) (ρ1.set i (some (.exc f v))) μ1).unset i else .exc f v ρ1 μ1)) :
    PstS G (wTry X.K cv i j W E) E Z o := by
  cases o with
  | exc f d ρ1 μ1 =>
    intro kf dd w σ' Z2 x R se hdd r
    refine ⟨C.sub f c, by rw [hK]; exact hm f kf, fun hs => ⟨dd, rfl, fun a ha => ?_⟩, fun hs => ?_⟩
    · have h1 : PstS G W E Z (if C.sub f c = true then (eS C cl (.cons (.asg (.nm j) (.v i)) .nil) (ρ1.set i (some (.exc f d))) μ1).unset i else .exc f d ρ1 μ1) := h
      rw [if_pos hs] at h1
      have h2 : PstS G W E Z (((lift (getV (ρ1.set i (some (.exc f d))) i) μ1).out (ρ1.set i (some (.exc f d))) fun d1 μ2 => .next ((ρ1.set i (some (.exc f d))).set j (some d1)) μ2).unset i) := by
        have e1 : eS C cl (.cons (.asg (.nm j) (.v i)) .nil) (ρ1.set i (some (.exc f d))) μ1 = (lift (getV (ρ1.set i (some (.exc f d))) i) μ1).out (ρ1.set i (some (.exc f d))) fun d1 μ2 => .next ((ρ1.set i (some (.exc f d))).set j (some d1)) μ2 := by
          show (((lift (getV (ρ1.set i (some (.exc f d))) i) μ1).out _ fun d1 μ2 => _).seq _) = _
          cases getV (ρ1.set i (some (.exc f d))) i <;> rfl
        rw [← e1]; exact h1
      cases hg : getV (ρ1.set i (some (.exc f d))) i with
      | none => rw [hg] at h2; exact False.elim h2
      | some d1 =>
        have ed : d1 = .exc f d := by
          unfold getV at hg
          by_cases hi : i < ρ1.length
          · rw [List.getElem?_set_self hi] at hg
            exact (Option.some.inj hg).symm
          · rw [List.getElem?_eq_none (by simpa using hi)] at hg; cases hg
        rw [hg, ed] at h2
        obtain ⟨Z3, e3, X3, R3⟩ := other (o := ExV (.ref (G.ca f)) a dd) R ha
        have ne : dd ≠ a := fun e => by rw [e, ha] at hdd; cases hdd
        have rv : RV G Z3 (.exc f d) (.ref a) := ⟨kf, a, dd, w, rfl, by rw [e3, upd_same], by rw [e3, upd_ne ne]; exact hdd, RV.ext X3 R _ _ r⟩
        have se3 := ((((se.ext X3 R).set i rv).set j rv).unset i)
        have := (show PstS G W E Z (.next (((ρ1.set i (some (.exc f d))).set j (some (.exc f d))).set i none) μ1) from h2) _ Z3 (x.trans X3) R3 se3
        rw [e3] at this
        exact this
    · have h1 : PstS G W E Z (if C.sub f c = true then (eS C cl (.cons (.asg (.nm j) (.v i)) .nil) (ρ1.set i (some (.exc f d))) μ1).unset i else .exc f d ρ1 μ1) := h
      rw [if_neg (by rw [hs]; decide)] at h1
      exact h1 kf dd w σ' Z2 x R se hdd r
  | next ρ1 μ1 => exact h
  | brk ρ1 μ1 => exact h
  | cont ρ1 μ1 => exact h
  | ret d μ1 => exact h
  | err => exact h
end
end PyE
set_option maxRecDepth 100000
set_option maxHeartbeats 4000000
/-! every statement -/
namespace PyE
open PySem PySem.Spec PyProof.Rows L2
/-- a statement's surroundings -/
structure CxS (G : Gi) (C : Cfg) (T : Tb) (cl : Cl) (n : En) (W : WX) (k : Nat) (X : Cx) : Prop extends CxE G C T cl n W k X where
  pass : PassesOwn (model X.prog X.w) X.A X.env X.xe
  stk : X.stack = X.env :: X.outer
  frm : X.env.frame = some X.env.locals
  ex : X.ex = []
section
variable {G : Gi} {C : Cfg} {T : Tb} {cl : Cl} {n : En} {W : WX} {k : Nat} {X : Cx} {σ : L2.St} {H : Hp} {E : Ends} {Z Z' : Wd} {ρ : Ro} {μ : Mu}
theorem ps_run {st : Stmt} {t : TS} (h : ∀ (pins : List (Addr × Obj)) (s : Shared) (σ : L2.St) (H : Hp), Inv X pins σ H s → PS X st t) : PS X st t := ⟨fun pins s σ H E I q => (h pins s σ H I).run pins s σ H E I q⟩
theorem kind_of (c : CxE G C T cl n W k X) {pins : List (Addr × Obj)} {s : Shared} (I : Inv X pins σ H s) : X.env.scope.kind = .function := I.ok.kind
/-- the comprehension's reading, frozen or a cell -/
theorem ps_comp (c : CxS G C T cl n W k X) {i : Nat} {t : Tg} {it cd e : CE} {y : Str} {py pos spos : Pos} {elt tg iter : Expr} {ifs : List Expr} {scope : Scope} {m' : Ro → Mu → Res D} (hy : isTo n y i = true)
    (p : PE X (.ListComp elt [⟨tg, iter, ifs, 0⟩] scope pos) (tE G W m'))
    (h : (ckI T it n tg iter && noSet iter && blkC n.N n.sc scope (ownOf n.N t.slots) && ckT (n.blk scope) t tg && ckC T cd (n.blk scope) ifs && ckE T e (n.blk scope) elt) = true)
    (hm : ∀ σ H Q, tE G W m' σ H Q → tL G W (eL C cl t it cd e) σ H Q) : PS X (.Assign [.Name y py] (.ListComp elt [⟨tg, iter, ifs, 0⟩] scope pos) spos) (tAsg (tE G W m') (gName i)) := by
  obtain ⟨g1, g2, g3⟩ := c.to hy
  have nd : X.N.Nodup := by rw [c.N]; exact c.nd
  refine ps_run fun pins s σ H I => ?_
  have hk := kind_of c.toCxE I
  by_cases hb : swB n scope y py pos = true
  · simp only [Bool.and_eq_true] at h
    obtain ⟨⟨⟨⟨⟨h1, h2⟩, h3⟩, h4⟩, h5⟩, h6⟩ := h
    have ok : BlkOk X.N X.env.scope scope (ownOf n.N t.slots) := by rw [c.N, c.sc]; exact blkOk_by h3
    have hl : X.env.scope.names.lookup y = some .local := by
      rw [c.sc]
      unfold swB at hb
      simp only [Bool.and_eq_true] at hb
      exact isLocal_of hb.1.1
    have q := ps_setLc (pos := pos) (py := py) (spos := spos) c.calm nd g1 hl (by rw [sw_name (n := n) hk c.sc, hb]) ((snd_all it).i n W X tg iter c.toCxE h1) ok (fun s H Ca l fp => k_tg (blk_cx c.toCxE s H Ca l fp) h4)
      (fun s H Ca l fp => (snd_all cd).c _ _ _ _ (blk_cx c.toCxE s H Ca l fp) h5) (fun s H Ca l fp => ((snd_all e).e _ _ _ _ (blk_cx c.toCxE s H Ca l fp) h6).1) (fold_noset h2)
    rw [set_own] at q
    exact ps_mono q fun E σ H z => lc_read (hm _ _ _ z)
  · have hb' : swB n scope y py pos = false := by simpa using hb
    exact ps_set nd g1 g2 p (by rw [sw_name (n := n) hk c.sc, hb']) g3
theorem ps_comp2 (c : CxS G C T cl n W k X) {i : Nat} {t t1 : Tg} {it it1 cd e : CE} {y : Str} {py pos spos : Pos} {elt tg iter tg1 iter1 : Expr} {ifs : List Expr} {scope : Scope} {m' : Ro → Mu → Res D} (hy : isTo n y i = true)
    (p : PE X (.ListComp elt [⟨tg, iter, [], 0⟩, ⟨tg1, iter1, ifs, 0⟩] scope pos) (tE G W m'))
    (h : (ckI T it n tg iter && noSet iter && noSet iter1 && blkC n.N n.sc scope (ownOf n.N (t.slots ++ t1.slots)) && ckT (n.blk scope) t tg && ckI T it1 (n.blk scope) tg1 iter1 && ckT (n.blk scope) t1 tg1 && ckC T cd (n.blk scope) ifs && ckE T e (n.blk scope) elt) = true)
    (hm : ∀ σ H Q, tE G W m' σ H Q → tL G W (eL2 C cl t it t1 it1 cd e) σ H Q) : PS X (.Assign [.Name y py] (.ListComp elt [⟨tg, iter, [], 0⟩, ⟨tg1, iter1, ifs, 0⟩] scope pos) spos) (tAsg (tE G W m') (gName i)) := by
  obtain ⟨g1, g2, g3⟩ := c.to hy
  have nd : X.N.Nodup := by rw [c.N]; exact c.nd
  refine ps_run fun pins s σ H I => ?_
  have hk := kind_of c.toCxE I
  by_cases hb : swB n scope y py pos = true
  · simp only [Bool.and_eq_true] at h
    obtain ⟨⟨⟨⟨⟨⟨⟨⟨h1, h2⟩, h3⟩, h4⟩, h5⟩, h6⟩, h7⟩, h8⟩, h9⟩ := h
    have ok : BlkOk X.N X.env.scope scope (ownOf n.N (t.slots ++ t1.slots)) := by rw [c.N, c.sc]; exact blkOk_by h4
    have hl : X.env.scope.names.lookup y = some .local := by
      rw [c.sc]
      unfold swB at hb
      simp only [Bool.and_eq_true] at hb
      exact isLocal_of hb.1.1
    have q := ps_setLc2 (pos := pos) (py := py) (spos := spos) (vs1 := t1.slots) c.calm nd g1 hl (by rw [sw_name (n := n) hk c.sc, hb]) ((snd_all it).i n W X tg iter c.toCxE h1) ok (fun i hi => by rw [set_own]; exact List.mem_append_right _ hi) (fun s H Ca l fp => k_tg (blk_cx c.toCxE s H Ca l fp) h5) (fun s H Ca l fp => pts_nil)
      (fun s H Ca l fp => (snd_all it1).i _ _ _ _ _ (blk_cx c.toCxE s H Ca l fp) h6) (fun s H Ca l fp => k_tg (blk_cx c.toCxE s H Ca l fp) h7) (fun s H Ca l fp => (snd_all cd).c _ _ _ _ (blk_cx c.toCxE s H Ca l fp) h8) (fun s H Ca l fp => ((snd_all e).e _ _ _ _ (blk_cx c.toCxE s H Ca l fp) h9).1) (fold_noset h2) (fun env x => fold_noset h3 x)
    rw [set_own] at q
    exact ps_mono q fun E σ H z => lc2_read (hm _ _ _ z)
  · have hb' : swB n scope y py pos = false := by simpa using hb
    exact ps_set nd g1 g2 p (by rw [sw_name (n := n) hk c.sc, hb']) g3
theorem sole_of {v t : Expr} {l : Nat} {env : Env} (h : noComp v = true) : swapsWithSole [t] v l env = pure false := by
  show swapsWith v (some t) l env = pure false
  exact noComp_sw h
theorem tup_of {v : Expr} {es : List Expr} {j l : Nat} {p : Pos} {env : Env} : swapsWithSole [.Tuple es j p] v l env = pure false := by
  show swapsWith v (some (.Tuple es j p)) l env = pure false
  cases v <;> rfl
theorem s_asg (c : CxS G C T cl n W k X) {t : Tg} {e : CE} {tg v : Expr} {pos : Pos} (h : ckAsg T t e n tg v = true) : PS X (.Assign [tg] v pos) (tS G W (eS C cl (.asg t e))) := by
  have nd : X.N.Nodup := by rw [c.N]; exact c.nd
  unfold ckAsg at h
  split at h
  · rename_i i y py
    rw [Bool.and_eq_true, Bool.and_eq_true] at h
    obtain ⟨⟨h1, h2⟩, h3⟩ := h
    obtain ⟨g1, g2, g3⟩ := c.to h1
    have p := ((snd_all e).e n W X v c.toCxE h3).1
    refine ps_mono ?_ fun E σ H q => r_asgN q
    by_cases hv : noComp v = true
    · exact ps_set nd g1 g2 p (noComp_sw hv) g3
    · have hv' : noComp v = false := by simpa using hv
      rw [hv', Bool.false_or] at h2
      unfold isCompE at h2
      split at h2
      · unfold ckE at h3
        split at h3
        · exact ps_comp c h1 p h3 fun σ H Q q => l_frz (eE_comp_eq _ _ _ _) q
        · cases h3
      · unfold ckE at h3
        split at h3
        · exact ps_comp c h1 p h3 fun σ H Q q => l_cell (eE_ccomp_eq _ _ _ _) q
        · cases h3
      · unfold ckE at h3
        split at h3
        · exact ps_comp2 c h1 p h3 fun σ H Q q => l_frz (eE_comp2_eq _ _ _ _ _ _) q
        · cases h3
      · unfold ckE at h3
        split at h3
        · exact ps_comp2 c h1 p h3 fun σ H Q q => l_cell (eE_ccomp2_eq _ _ _ _ _ _) q
        · cases h3
      · cases h2
  · rename_i i j x px y py kt pt
    rw [Bool.and_eq_true, Bool.and_eq_true] at h
    obtain ⟨⟨h1, h2⟩, h3⟩ := h
    obtain ⟨g1, g2, g3⟩ := c.to h1
    obtain ⟨f1, f2, f3⟩ := c.to h2
    split at h3
    · rename_i ht
      have p := ((snd_all e).e n W X v c.toCxE h3).1
      have gt : PG X (.Tuple [.Name x px, .Name y py] kt pt) (gT G (.tp [i, j])) := k_tg c.toCxE (by
        show isTos n [.Name x px, .Name y py] [i, j] = true
        show (isTo n x i && (isTo n y j && true)) = true
        rw [h1, h2]; rfl)
      exact ps_mono (ps_asg p gt tup_of (sw2n c.sc ht) rfl) fun E σ H q => r_asg q
    · split at h3
      · rename_i es vs k2 pt2 _
        simp only [Bool.and_eq_true] at h3
        obtain ⟨⟨⟨h4, h5⟩, h6⟩, h7⟩ := h3
        have hv : ∃ a b, vs = [a, b] := by
          have := of_decide_eq_true h4
          cases vs with
          | nil => cases this
          | cons a r => cases r with
            | nil => cases this
            | cons b r => cases r with
              | nil => exact ⟨a, b, rfl⟩
              | cons _ _ => simp at this
        obtain ⟨a, b, rfl⟩ := hv
        refine ps_mono (ps_run fun pins s σ H I => ?_) fun E σ H q => r_par2 q
        have hl := h5
        unfold swS at hl
        simp only [Bool.and_eq_true] at hl
        exact ps_par c.calm nd g1 f1 (of_decide_eq_true h6) (by rw [c.sc]; exact isLocal_of hl.1.1.1.1.1.1) (by rw [c.sc]; exact isLocal_of hl.1.1.1.1.1.2) (its_pa ((snd_all es).a n W X _ c.toCxE h7)) (sw2 (kind_of c.toCxE I) c.sc h5) rfl
      · cases h3
  · rename_i i j l x px y py z pz kt pt
    simp only [Bool.and_eq_true] at h
    obtain ⟨⟨⟨h1, h2⟩, h0⟩, h3⟩ := h
    obtain ⟨g1, g2, g3⟩ := c.to h1
    obtain ⟨f1, f2, f3⟩ := c.to h2
    obtain ⟨e1, e2, e3⟩ := c.to h0
    split at h3
    · rename_i ht
      have p := ((snd_all e).e n W X v c.toCxE h3).1
      have gt : PG X (.Tuple [.Name x px, .Name y py, .Name z pz] kt pt) (gT G (.tp [i, j, l])) := k_tg c.toCxE (by
        show (isTo n x i && (isTo n y j && (isTo n z l && true))) = true
        rw [h1, h2, h0]; rfl)
      exact ps_mono (ps_asg p gt tup_of (sw3n c.sc ht) rfl) fun E σ H q => r_asg q
    · split at h3
      · rename_i es vs k2 pt2 _
        simp only [Bool.and_eq_true] at h3
        obtain ⟨⟨⟨⟨⟨h4, h5⟩, h6⟩, h7⟩, h8⟩, h9⟩ := h3
        have hv : ∃ a b d, vs = [a, b, d] := by
          have := of_decide_eq_true h4
          cases vs with
          | nil => cases this
          | cons a r => cases r with
            | nil => cases this
            | cons b r => cases r with
              | nil => cases this
              | cons d r => cases r with
                | nil => exact ⟨a, b, d, rfl⟩
                | cons _ _ => simp at this
        obtain ⟨a, b, d, rfl⟩ := hv
        refine ps_mono (ps_run fun pins s σ H I => ?_) fun E σ H q => r_par3 q
        have hl := h5
        unfold swS3 at hl
        simp only [Bool.and_eq_true] at hl
        exact ps_par3 c.calm nd g1 f1 e1 (of_decide_eq_true h6) (of_decide_eq_true h7) (of_decide_eq_true h8) (by rw [c.sc]; exact isLocal_of hl.1.1.1.1.1.1.1.1.1.1) (by rw [c.sc]; exact isLocal_of hl.1.1.1.1.1.1.1.1.1.2) (by rw [c.sc]; exact isLocal_of hl.1.1.1.1.1.1.1.1.2) (its_pa ((snd_all es).a n W X _ c.toCxE h9)) (sw3 (kind_of c.toCxE I) c.sc h5) rfl
      · cases h3
  · cases h
theorem s_sub (c : CxS G C T cl n W k X) {o i e : CE} {xo xi v : Expr} {p pos : Pos} (h : (noSlice xi && noComp v && ckE T o n xo && ckE T i n xi && ckE T e n v) = true) : PS X (.Assign [.Subscript xo xi p] v pos) (tS G W (eS C cl (.sub o i e))) := by
  simp only [Bool.and_eq_true] at h
  obtain ⟨⟨⟨⟨h1, h2⟩, h3⟩, h4⟩, h5⟩ := h
  have po := ((snd_all o).e n W X xo c.toCxE h3).1
  have pi := ((snd_all i).e n W X xi c.toCxE h4).1
  have pv := ((snd_all e).e n W X v c.toCxE h5).1
  have gs : PG X (.Subscript xo xi p) (gSub (tE G W (eE C cl o)) (tE G W (eE C cl i)) (tSetS G)) := pg_sub po pi s_set (fun v => by cases xi <;> first | rfl | cases h1)
  exact ps_mono (ps_asg pv gs (sole_of h2) rfl rfl) fun E σ H q => r_sub q
theorem ps_bad {st : Stmt} : PS X st (tS G W (eS C cl .bad)) := ps_mono ps_never fun E σ H ⟨_, _, _, _, q⟩ => q
mutual
theorem s_st : ∀ (s : CS) (st : Stmt) {W : WX} {X : Cx}, CxS G C T cl n W k X → ckS T s n st = true → PS X st (tS G W (eS C cl s))
  | .bad, st, W, X, c, h => ps_bad
  | .asg t e, st, W, X, c, h => by
    unfold ckS at h
    split at h
    · exact s_asg c h
    · cases h
  | .sub o i e, st, W, X, c, h => by
    unfold ckS at h
    split at h
    · exact s_sub c h
    · cases h
  | .ex e, st, W, X, c, h => by
    unfold ckS at h
    split at h
    · rw [Bool.and_eq_true] at h
      exact ps_mono (ps_expr ((snd_all e).e n W X _ c.toCxE h.2).1 (noComp_sw h.1)) fun E σ H q => r_ex q
    · cases h
  | .ret e, st, W, X, c, h => by
    unfold ckS at h
    split at h
    · exact ps_mono (ps_ret ((snd_all e).e n W X _ c.toCxE h).1) fun E σ H q => r_ret q
    · cases h
  | .retn, st, W, X, c, h => by
    unfold ckS at h
    split at h
    · exact ps_mono ps_retN fun E σ H q => r_retn q
    · cases h
  | .if_ t a b, st, W, X, c, h => by
    unfold ckS at h
    split at h
    · simp only [Bool.and_eq_true] at h
      exact ps_mono (ps_if ((snd_all t).e n W X _ c.toCxE h.1.1).2 (s_sts a _ c h.1.2) (s_sts b _ c h.2)) fun E σ H q => r_if q
    · cases h
  | .for_ t it b, st, W, X, c, h => by
    unfold ckS at h
    split at h
    · simp only [Bool.and_eq_true] at h
      exact ps_mono (ps_for c.pass c.calm ((snd_all it).i n W X _ _ c.toCxE h.1.2) (k_tg c.toCxE h.1.1.1) (s_sts b _ c h.2) (fold_noset h.1.1.2)) fun E σ H q => r_for q
    · cases h
  | .while_ t b, st, W, X, c, h => by
    unfold ckS at h
    split at h
    · simp only [Bool.and_eq_true] at h
      exact ps_mono (ps_while c.pass ((snd_all t).e n W X _ c.toCxE h.1).2 (s_sts b _ c h.2)) fun E σ H q => r_while q
    · cases h
  | .pass, st, W, X, c, h => by
    unfold ckS at h
    split at h
    · exact ps_mono ps_pass fun E σ H ⟨Z, ρ, μ, A, q⟩ => (show PstS G W E Z (.next ρ μ) from q).next A
    · cases h
  | .brk, st, W, X, c, h => by
    unfold ckS at h
    split at h
    · exact ps_mono ps_break fun E σ H ⟨Z, ρ, μ, A, q⟩ => by
        have q' := (show PstS G W E Z (.brk ρ μ) from q) σ Z (Ext.refl _) A.rel A.se
        rw [A.hp] at q'
        exact q'
    · cases h
  | .cont, st, W, X, c, h => by
    unfold ckS at h
    split at h
    · exact ps_mono ps_continue fun E σ H ⟨Z, ρ, μ, A, q⟩ => by
        have q' := (show PstS G W E Z (.cont ρ μ) from q) σ Z (Ext.refl _) A.rel A.se
        rw [A.hp] at q'
        exact q'
    · cases h
  | .aug _ _ _, st, W, X, c, h => by cases h
  | .augs _ _ _ _, st, W, X, c, h => by cases h
  | .raise f e, st, W, X, c, h => by
    unfold ckS at h
    split at h
    · simp only [Bool.and_eq_true] at h
      exact s_raise c.toCxE h.1.1 h.1.2 h.2
    · cases h
  | .try_ b f i hd, st, W, X, c, h => by
    unfold ckS at h
    split at h
    · rename_i j i' body x np nn y yp n2 vp ap hp pos
      simp only [Bool.and_eq_true] at h
      obtain ⟨⟨⟨⟨⟨⟨⟨⟨h1, h2⟩, h3⟩, h4⟩, h5⟩, h6⟩, h7⟩, h8⟩, h9⟩ := h
      have e1 : i' = i := of_decide_eq_true h1
      have e2 : n2 = nn := of_decide_eq_true h2
      subst e1
      subst e2
      obtain ⟨g1, g2, g3⟩ := c.to h4
      obtain ⟨t1, t2, t3⟩ := c.to h6
      obtain ⟨k1, k2, k3, k4⟩ := c.clsN h3
      have nd : X.N.Nodup := by rw [c.N]; exact c.nd
      have hl : X.env.kindOf n2 = some .local := by
        show X.env.scope.names.lookup n2 = _
        rw [c.sc]; exact isLocal_of h5
      refine ps_mono (ps_tryx (tb := fun W2 => tS G W2 (eS C cl b)) c.stk c.frm nd g1 t1 hl t2 t3 (beq_eq_false_iff_ne.mpr (of_decide_eq_true h7)) (beq_eq_false_iff_ne.mpr (of_decide_eq_true h8)) (List.getElem?_eq_some_iff.mp g1).1 ⟨k1, k2, .inl k3⟩ c.tk c.ex (fun W2 pn xe tk2 ps2 => s_sts b body
        { wk := c.wk, prog := c.prog, w := c.w, K := c.K, mg := c.mg, base := c.base, calm := c.calm, N := c.N, nd := c.nd, sc := c.sc, fn := c.fn, room := c.room, gd := c.gd, tk := tk2, pass := ps2, stk := c.stk, frm := c.frm, ex := c.ex } h9)) fun E σ H q => ?_
      obtain ⟨Z, ρ, μ, A, q⟩ := q
      exact ⟨Z, ρ, μ, A, try_pst (fun f2 hf2 => c.wk.xm f2 f hf2 k4) c.K q⟩
    · cases h
  | .nil, st, W, X, c, h => by cases h
  | .cons _ _, st, W, X, c, h => by cases h
theorem s_sts : ∀ (s : CS) (sts : List Stmt) {W : WX} {X : Cx}, CxS G C T cl n W k X → ckSs T s n sts = true → PSs X sts (tS G W (eS C cl s))
  | .nil, sts, W, X, c, h => by
    unfold ckSs at h
    have e : sts = [] := List.isEmpty_iff.mp h
    subst e
    exact pss_mono pss_nil fun E σ H q => r_nil q
  | .cons s r, sts, W, X, c, h => by
    unfold ckSs at h
    split at h
    · rw [Bool.and_eq_true] at h
      exact pss_mono (pss_cons (s_st s _ c h.1) (s_sts r _ c h.2)) fun E σ H q => r_cons q
    · cases h
  | .bad, sts, W, X, c, h => by cases h
  | .asg _ _, sts, W, X, c, h => by cases h
  | .sub _ _ _, sts, W, X, c, h => by cases h
  | .ex _, sts, W, X, c, h => by cases h
  | .ret _, sts, W, X, c, h => by cases h
  | .retn, sts, W, X, c, h => by cases h
  | .if_ _ _ _, sts, W, X, c, h => by cases h
  | .for_ _ _ _, sts, W, X, c, h => by cases h
  | .while_ _ _, sts, W, X, c, h => by cases h
  | .pass, sts, W, X, c, h => by cases h
  | .brk, sts, W, X, c, h => by cases h
  | .cont, sts, W, X, c, h => by cases h
  | .aug _ _ _, sts, W, X, c, h => by cases h
  | .augs _ _ _ _, sts, W, X, c, h => by cases h
  | .raise _ _, sts, W, X, c, h => by cases h
  | .try_ _ _ _ _, sts, W, X, c, h => by cases h
end
end
end PyE
set_option maxRecDepth 100000
set_option maxHeartbeats 4000000
/-! functions -/
namespace PyE
open PySem PySem.Spec PyProof.Rows L2
section
variable {G : Gi} {C : Cfg} {T : Tb} {cl : Cl} {n : En} {W : WX} {k : Nat} {X : Cx} {σ : L2.St} {H : Hp} {E : Ends} {Z Z' : Wd} {ρ : Ro} {μ μ1 : Mu}
/-- the callee's own cells, frozen -/
def Wd.left (Z : Wd) (n : Nat) : Wd := ⟨Z.th.take n, fun a => Z.S a ∨ a ∈ Z.th.drop n, Z.H⟩
mutual
theorem RV.und {m : Nat} (h : Z.th.length ≤ m) : ∀ (d : D) (v : V), RV G Z d v → D.und m d = true
  | .none, _, _ => rfl
  | .bl _, _, _ => rfl
  | .int _, _, _ => rfl
  | .str _, _, _ => rfl
  | .fn _, _, _ => rfl
  | .dct, _, _ => rfl
  | .scr _, _, _ => rfl
  | .tup ds, v, q => by
    obtain ⟨a, vs, _, _, _, r⟩ := q
    exact RVs.und h ds vs r
  | .lst ds, v, q => by
    obtain ⟨a, vs, _, _, _, _, r⟩ := q
    exact RVs.und h ds vs r
  | .ref i, v, q => by
    obtain ⟨a, e, _⟩ := q
    have := (List.getElem?_eq_some_iff.mp e).1
    exact decide_eq_true (by omega)
  | .exc c d, v, q => by
    obtain ⟨_, a, dd, w, _, _, _, r⟩ := q
    exact RV.und h d w r
theorem RVs.und {m : Nat} (h : Z.th.length ≤ m) : ∀ (ds : List D) (vs : List V), RVs G Z ds vs → D.undL m ds = true
  | [], _, _ => rfl
  | d :: ds, vs, q => by
    obtain ⟨v, r, _, h1, h2⟩ := q
    show (D.und m d && D.undL m ds) = true
    rw [RV.und h d v h1, RVs.und h ds r h2]; rfl
end
mutual
theorem RV.left {m : Nat} : ∀ (d : D) (v : V), D.und m d = true → RV G Z d v → RV G (Z.left m) d v
  | .none, _, _, h => h
  | .bl _, _, _, h => h
  | .int _, _, _, h => h
  | .str _, _, _, h => h
  | .fn _, _, _, h => h
  | .dct, _, _, h => h
  | .scr _, _, _, h => h
  | .tup ds, v, u, q => by
    obtain ⟨a, vs, e, s, z, r⟩ := q
    exact ⟨a, vs, e, s, z, RVs.left ds vs u r⟩
  | .lst ds, v, u, q => by
    obtain ⟨a, vs, e, s, t, z, r⟩ := q
    exact ⟨a, vs, e, .inl s, t, z, RVs.left ds vs u r⟩
  | .ref i, v, u, q => by
    obtain ⟨a, e, z⟩ := q
    have hi : i < m := of_decide_eq_true u
    exact ⟨a, by show (Z.th.take m)[i]? = some a; rw [List.getElem?_take_of_lt hi]; exact e, z⟩
  | .exc c d, v, u, q => by
    obtain ⟨kc, a, dd, w, e, q1, q2, r⟩ := q
    exact ⟨kc, a, dd, w, e, q1, q2, RV.left d w u r⟩
theorem RVs.left {m : Nat} : ∀ (ds : List D) (vs : List V), D.undL m ds = true → RVs G Z ds vs → RVs G (Z.left m) ds vs
  | [], _, _, h => h
  | d :: ds, vs, u, q => by
    have u' : (D.und m d && D.undL m ds) = true := u
    rw [Bool.and_eq_true] at u'
    obtain ⟨v, r, e, h1, h2⟩ := q
    exact ⟨v, r, e, RV.left d v u'.1 h1, RVs.left ds r u'.2 h2⟩
end
mutual
theorem RV.off {m : Nat} {R : Nat → Option D} (hR : ∀ i a d', m ≤ i → Z.th[i]? = some a → R i = some d' → RV G (Z.left m) d' (.ref a)) : ∀ (d d' : D) (v : V), D.off m R d = some d' → RV G Z d v → RV G (Z.left m) d' v
  | .none, d', v, e, h => by cases e; exact h
  | .bl _, d', v, e, h => by cases e; exact h
  | .int _, d', v, e, h => by cases e; exact h
  | .str _, d', v, e, h => by cases e; exact h
  | .fn _, d', v, e, h => by cases e; exact h
  | .dct, d', v, e, h => by cases e; exact h
  | .scr _, d', v, e, h => by cases e; exact h
  | .tup ds, d', v, e, q => by
    obtain ⟨es, e1, e2⟩ := Option.map_eq_some_iff.mp (show (D.offL m R ds).map .tup = some d' from e)
    subst e2
    obtain ⟨a, vs, e, s, z, r⟩ := q
    have q2 := RVs.off hR ds es vs e1 r
    exact ⟨a, vs, e, s, by rw [q2.length, ← r.length]; exact z, q2⟩
  | .lst ds, d', v, e, q => by
    obtain ⟨es, e1, e2⟩ := Option.map_eq_some_iff.mp (show (D.offL m R ds).map .lst = some d' from e)
    subst e2
    obtain ⟨a, vs, e, s, t, z, r⟩ := q
    have q2 := RVs.off hR ds es vs e1 r
    exact ⟨a, vs, e, .inl s, t, by rw [q2.length, ← r.length]; exact z, q2⟩
  | .ref i, d', v, e, q => by
    obtain ⟨a, e1, rfl⟩ := q
    have e' : (if i < m then some (D.ref i) else R i) = some d' := e
    by_cases hi : i < m
    · rw [if_pos hi] at e'
      cases e'
      exact ⟨a, by show (Z.th.take m)[i]? = some a; rw [List.getElem?_take_of_lt hi]; exact e1, rfl⟩
    · rw [if_neg hi] at e'
      exact hR i a d' (by omega) e1 e'
  | .exc c d, d', v, e, q => by
    obtain ⟨es, e1, e2⟩ := Option.map_eq_some_iff.mp (show (D.off m R d).map (.exc c) = some d' from e)
    subst e2
    obtain ⟨kc, a, dd, w, e, q1, q2, r⟩ := q
    exact ⟨kc, a, dd, w, e, q1, q2, RV.off hR d es w e1 r⟩
theorem RVs.off {m : Nat} {R : Nat → Option D} (hR : ∀ i a d', m ≤ i → Z.th[i]? = some a → R i = some d' → RV G (Z.left m) d' (.ref a)) : ∀ (ds es : List D) (vs : List V), D.offL m R ds = some es → RVs G Z ds vs → RVs G (Z.left m) es vs
  | [], es, vs, e, h => by cases e; exact h
  | d :: ds, es, vs, e, q => by
    obtain ⟨x, e1, e⟩ := Option.bind_eq_some_iff.mp (show (D.off m R d).bind (fun a => (D.offL m R ds).map fun b => a :: b) = some es from e)
    obtain ⟨r', e2, e3⟩ := Option.map_eq_some_iff.mp e
    subst e3
    obtain ⟨v, r, e, h1, h2⟩ := q
    exact ⟨v, r, e, RV.off hR d x v e1 h1, RVs.off hR ds r' r e2 h2⟩
end
theorem tab_left (R : Rel G Z μ) {m : Nat} : ∀ (fuel i : Nat) (a : Addr) (d' : D), m ≤ i → Z.th[i]? = some a → tabD m μ fuel i = some d' → RV G (Z.left m) d' (.ref a)
  | 0, i, a, d', _, _, e => by cases e
  | f + 1, i, a, d', hi, ha, e => by
    have e' : (match μ[i]? with
      | some xs => (D.offL m (tabD m μ f) xs).map .lst
      | none => none) = some d' := e
    split at e'
    · rename_i xs hx
      obtain ⟨es, e1, e2⟩ := Option.map_eq_some_iff.mp e'
      subst e2
      obtain ⟨vs, q1, q2, q3⟩ := R.cell i a xs ha hx
      have q4 := RVs.off (fun i a d' => tab_left R f i a d') xs es vs e1 q2
      refine ⟨a, vs, rfl, .inr ?_, q1, by rw [q4.length, ← q2.length]; exact q3, q4⟩
      rw [List.mem_iff_getElem?]
      exact ⟨i - m, by rw [List.getElem?_drop]; rw [show m + (i - m) = i from by omega]; exact ha⟩
    · cases e'
theorem left_ext (R : Rel G Z μ) (x : Ext Z Z') (R' : Rel G Z' μ1) : Ext Z (Z'.left μ.length) where
  pre := by
    obtain ⟨t, e⟩ := x.pre
    show Z.th <+: Z'.th.take μ.length
    rw [← e, ← R.len, List.take_append_of_le_length (Nat.le_refl _), List.take_length]
    exact List.prefix_refl _
  fresh := fun a h => x.fresh a (List.mem_of_mem_take h)
  sub := fun a h => .inl (x.sub a h)
  new := fun a h => h.elim (x.new a) fun h => by
    right
    obtain ⟨t, e⟩ := x.pre
    rw [← e, ← R.len, List.drop_append_of_le_length (Nat.le_refl _), List.drop_length, List.nil_append] at h
    refine (x.fresh a (by rw [← e]; exact List.mem_append_right _ h)).elim (fun q => ?_) id
    have nd := R'.nd
    rw [← e] at nd
    exact absurd rfl ((List.nodup_append.mp nd).2.2 a q a h)
  keep := fun a o h q => x.keep a o h q
  dom := fun a h => x.dom a h
theorem left_rel (R : Rel G Z μ) (x : Ext Z Z') (R' : Rel G Z' μ1) (h : ∀ i, i < μ.length → μ1[i]? = μ[i]? ∨ ∃ xs, μ1[i]? = some xs ∧ D.undL μ.length xs = true) : Rel G (Z'.left μ.length) (μ1.take μ.length) where
  len := by
    show (Z'.th.take μ.length).length = _
    rw [List.length_take, List.length_take, R'.len]
  nd := R'.nd.sublist (List.take_sublist _ _)
  cell := fun i a ds h1 h2 => by
    have hi : i < μ.length := by
      have := (List.getElem?_eq_some_iff.mp h1).1
      have e : (Z'.left μ.length).th = Z'.th.take μ.length := rfl
      rw [e, List.length_take] at this
      omega
    have h1' : Z'.th[i]? = some a := by
      have e : (Z'.th.take μ.length)[i]? = some a := h1
      rw [List.getElem?_take_of_lt hi] at e; exact e
    rw [List.getElem?_take_of_lt hi] at h2
    obtain ⟨vs, q1, q2, q3⟩ := R'.cell i a ds h1' h2
    refine ⟨vs, q1, RVs.left ds vs ?_ q2, q3⟩
    rcases h i hi with e | ⟨xs, e1, e2⟩
    · rw [h2] at e
      have ha : Z.th[i]? = some a := by
        obtain ⟨t, et⟩ := x.pre
        rw [← et, List.getElem?_append_left (by rw [R.len]; exact hi)] at h1'
        exact h1'
      obtain ⟨ws, _, w2, _⟩ := R.cell i a ds ha e.symm
      exact RVs.und (by rw [R.len]; exact Nat.le_refl _) ds ws w2
    · rw [h2] at e1
      cases e1
      exact e2
  sep := fun a h q => by
    rcases h with h | h
    · exact R'.sep a h (List.mem_of_mem_take q)
    · have nd := R'.nd
      rw [← List.take_append_drop μ.length Z'.th] at nd
      exact absurd rfl ((List.nodup_append.mp nd).2.2 a q a h)
  has := fun a h => by
    rcases h with h | h
    · exact R'.has a h
    · obtain ⟨vs, e⟩ := R'.atCell (List.mem_of_mem_drop h)
      show Z'.H a ≠ none
      rw [e]
      simp
open Classical in
/-- a callee's end -/
theorem fin_ok (R : Rel G Z μ) (x : Ext Z Z') (R' : Rel G Z' μ1) {d : D} {v : V} (r : RV G Z' d v) {kk : D → Mu → Res D} (h : fin μ d μ1 kk ≠ .err) : ∃ Z2 d2 μ2, Z2.H = Z'.H ∧ Ext Z Z2 ∧ Rel G Z2 μ2 ∧ RV G Z2 d2 v ∧ fin μ d μ1 kk = kk d2 μ2 := by
  unfold fin at h ⊢
  by_cases h1 : μ1.length = μ.length
  · rw [if_pos h1]
    exact ⟨Z', d, μ1, rfl, x, R', r, rfl⟩
  · rw [if_neg h1] at h ⊢
    by_cases h2 : ∀ i, i < μ.length → μ1[i]? = μ[i]? ∨ ∃ xs, μ1[i]? = some xs ∧ D.undL μ.length xs = true
    · rw [if_pos h2] at h ⊢
      cases e : d.off μ.length (tabD μ.length μ1 FUEL) with
      | none => rw [e] at h; exact absurd rfl h
      | some d2 => exact ⟨Z'.left μ.length, d2, μ1.take μ.length, rfl, left_ext R x R', left_rel R x R' h2, RV.off (fun i a d' => tab_left R' FUEL i a d') d d2 v e r, rfl⟩
    · rw [if_neg h2] at h
      exact absurd rfl h
/-- the body's wish, from the call's -/
theorem leave_ok {Wf : XK} {Q : VK} {o : Out} (R : Rel G Z μ) (h : Pst G (fun c d _ H => Wf c d H) [] (RV G) Z (leave μ o) Q) : PstS G (fun c d _ H => Wf c d H) { nx := fun _ H' => Q .non H', rt := Q } Z o := by
  have ne : ∀ {r : Res D}, Pst G (fun c d _ H => Wf c d H) [] (RV G) Z r Q → r ≠ .err := fun {r} q z => by rw [z] at q; exact q
  cases o with
  | next ρ' μ' =>
    intro σ' Z' x R' s
    have h' : Pst G (fun c d _ H => Wf c d H) [] (RV G) Z (fin μ D.none μ' .ok) Q := h
    obtain ⟨Z2, d2, μ2, e1, e2, e3, e4, e5⟩ := fin_ok (kk := .ok) R x R' (d := .none) (v := .non) rfl (ne h')
    rw [e5] at h'
    have := h' .non Z2 e2 e3 e4
    rw [e1] at this
    exact this
  | ret d μ' =>
    intro v Z' x R' r
    have h' : Pst G (fun c d _ H => Wf c d H) [] (RV G) Z (fin μ d μ' .ok) Q := h
    obtain ⟨Z2, d2, μ2, e1, e2, e3, e4, e5⟩ := fin_ok (kk := .ok) R x R' r (ne h')
    rw [e5] at h'
    have := h' v Z2 e2 e3 e4
    rw [e1] at this
    exact this
  | exc c d ρ' μ' =>
    intro kc dd w σ' Z' x R' s ed r
    have h' : Pst G (fun c d _ H => Wf c d H) [] (RV G) Z (fin μ d μ' (.exc c)) Q := h
    obtain ⟨Z2, d2, μ2, e1, e2, e3, e4, e5⟩ := fin_ok (kk := .exc c) R x R' r (ne h')
    rw [e5] at h'
    have := (show ExP G (fun c d _ H => Wf c d H) [] Z c d2 μ2 from h') kc dd w Z2 e2 e3 (by rw [e1]; exact ed) e4
    rw [e1] at this
    exact this
  | brk ρ' μ' => exact False.elim h
  | cont ρ' μ' => exact False.elim h
  | err => exact False.elim h
/-! ### a cell handed back -/
mutual
theorem leaveD_ok {Wf : XK} {Q : VK} {o : Out} (h : Pst G (fun c d _ H => Wf c d H) [] (RV G) Z (leaveD o) Q) : PstS G (fun c d _ H => Wf c d H) { nx := fun _ H' => Q .non H', rt := Q } Z o := by
  cases o with
  | next ρ1 μ1 => exact fun σ' Z' x R' _ => h .non Z' x R' rfl
  | ret d μ1 => exact fun v Z' x R' r => h v Z' x R' r
  | exc c d ρ1 μ1 => exact fun kc dd w σ' Z' x R' _ e r => h kc dd w Z' x R' e r
  | brk ρ1 μ1 => exact h.elim
  | cont ρ1 μ1 => exact h.elim
  | err => exact h.elim
theorem RV.cut {Z2 : Wd} {m : Nat} (hth : ∀ i, i < m → Z2.th[i]? = Z.th[i]?) (hS : ∀ a, Z.S a → Z2.S a) (hH : Z2.H = Z.H) : ∀ (d : D) (v : V), D.und m d = true → RV G Z d v → RV G Z2 d v
  | .none, _, _, h => h
  | .bl _, _, _, h => h
  | .int _, _, _, h => h
  | .str _, _, _, h => h
  | .fn _, _, _, h => h
  | .dct, _, _, ⟨a, e, q⟩ => ⟨a, e, by rw [hH]; exact q⟩
  | .scr _, _, _, ⟨a, e, q, z⟩ => ⟨a, e, q.imp (fun ⟨o, q⟩ => ⟨o, by rw [hH]; exact q⟩) id, z⟩
  | .tup ds, v, u, q => by
    obtain ⟨a, vs, e, s, z, r⟩ := q
    exact ⟨a, vs, e, by rw [hH]; exact s, z, RVs.cut hth hS hH ds vs u r⟩
  | .lst ds, v, u, q => by
    obtain ⟨a, vs, e, s, t, z, r⟩ := q
    exact ⟨a, vs, e, hS a s, by rw [hH]; exact t, z, RVs.cut hth hS hH ds vs u r⟩
  | .ref i, v, u, q => by
    obtain ⟨a, e, z⟩ := q
    have hi : i < m := of_decide_eq_true u
    exact ⟨a, by rw [hth i hi]; exact e, z⟩
  | .exc c d, v, u, q => by
    obtain ⟨kc, a, dd, w, e, q1, q2, r⟩ := q
    exact ⟨kc, a, dd, w, e, by rw [hH]; exact q1, by rw [hH]; exact q2, RV.cut hth hS hH d w u r⟩
theorem RVs.cut {Z2 : Wd} {m : Nat} (hth : ∀ i, i < m → Z2.th[i]? = Z.th[i]?) (hS : ∀ a, Z.S a → Z2.S a) (hH : Z2.H = Z.H) : ∀ (ds : List D) (vs : List V), D.undL m ds = true → RVs G Z ds vs → RVs G Z2 ds vs
  | [], _, _, h => h
  | d :: ds, vs, u, q => by
    have u' : (D.und m d && D.undL m ds) = true := u
    rw [Bool.and_eq_true] at u'
    obtain ⟨v, r, e, h1, h2⟩ := q
    exact ⟨v, r, e, RV.cut hth hS hH d v u'.1 h1, RVs.cut hth hS hH ds r u'.2 h2⟩
end
open Classical in
theorem keep_ok (R : Rel G Z μ) (x : Ext Z Z') (R' : Rel G Z' μ1) {i : Nat} {v : V} (r : RV G Z' (.ref i) v) (h : keepC μ i μ1 ≠ .err) : ∃ Z2 d2 μ2, Z2.H = Z'.H ∧ Ext Z Z2 ∧ Rel G Z2 μ2 ∧ RV G Z2 d2 v ∧ keepC μ i μ1 = .ok d2 μ2 := by
  unfold keepC at h ⊢
  cases e : μ1[i]? with
  | none => rw [e] at h; exact absurd rfl h
  | some xs =>
    rw [e] at h
    have h' : (if μ.length ≤ i ∧ D.undL μ.length xs = true ∧ (∀ i, i < μ.length → μ1[i]? = μ[i]? ∨ ∃ ys, μ1[i]? = some ys ∧ D.undL μ.length ys = true) then Res.ok (D.ref μ.length) (μ1.take μ.length ++ [xs]) else .err) ≠ .err := h
    by_cases hc : μ.length ≤ i ∧ D.undL μ.length xs = true ∧ (∀ i, i < μ.length → μ1[i]? = μ[i]? ∨ ∃ ys, μ1[i]? = some ys ∧ D.undL μ.length ys = true)
    · obtain ⟨hi, hu, ha⟩ := hc
      obtain ⟨a, ea, ev⟩ := r
      have hl1 : μ.length ≤ Z'.th.length := by have := (List.getElem?_eq_some_iff.mp ea).1; omega
      let Z2 : Wd := ⟨Z'.th.take μ.length ++ [a], Z'.S, Z'.H⟩
      have hlt : (Z'.th.take μ.length).length = μ.length := by rw [List.length_take]; omega
      have aD : a ∈ Z'.th.drop μ.length := by
        rw [List.mem_iff_getElem?]
        exact ⟨i - μ.length, by rw [List.getElem?_drop, show μ.length + (i - μ.length) = i from by omega]; exact ea⟩
      have nd := R'.nd
      rw [← List.take_append_drop μ.length Z'.th] at nd
      have nd' := List.nodup_append.mp nd
      have aN : a ∉ Z'.th.take μ.length := fun q => nd'.2.2 a q a aD rfl
      have E1 := left_ext R x R'
      have E2 : Ext Z Z2 := by
        refine ⟨?_, fun b q => x.fresh b ?_, x.sub, x.new, x.keep, x.dom⟩
        · obtain ⟨t, et⟩ := x.pre
          have e1 : Z'.th.take μ.length = Z.th := by rw [← et, ← R.len, List.take_append_of_le_length (Nat.le_refl _), List.take_length]
          show Z.th <+: Z'.th.take μ.length ++ [a]
          rw [e1]
          exact List.prefix_append _ _
        · rcases List.mem_append.mp q with q | q
          · exact List.mem_of_mem_take q
          · rw [List.mem_singleton.mp q]; exact List.mem_of_getElem? ea
      have hth : ∀ j, j < μ.length → Z2.th[j]? = Z'.th[j]? := fun j hj => by
        show (Z'.th.take μ.length ++ [a])[j]? = _
        rw [List.getElem?_append_left (by rw [hlt]; exact hj), List.getElem?_take_of_lt hj]
      have hl2 : (μ1.take μ.length).length = μ.length := by rw [List.length_take, ← R'.len]; omega
      refine ⟨Z2, .ref μ.length, μ1.take μ.length ++ [xs], rfl, E2, ⟨?_, ?_, fun j b ds h1 h2 => ?_, fun b hb q => ?_, fun b hb => R'.has b hb⟩, ⟨a, ?_, ev⟩, ?_⟩
      · show (Z'.th.take μ.length ++ [a]).length = _
        rw [List.length_append, List.length_append, hlt, hl2]; rfl
      · exact List.nodup_append.mpr ⟨nd'.1, List.nodup_cons.mpr ⟨by simp, List.nodup_nil⟩, fun b hb d hd e => aN (by rw [List.mem_singleton.mp hd] at e; rw [← e]; exact hb)⟩
      · have h1' : (Z'.th.take μ.length ++ [a])[j]? = some b := h1
        by_cases hj : j < μ.length
        · rw [hth j hj] at h1
          rw [List.getElem?_append_left (by rw [hl2]; exact hj), List.getElem?_take_of_lt hj] at h2
          obtain ⟨vs, q1, q2, q3⟩ := R'.cell j b ds h1 h2
          refine ⟨vs, q1, RVs.cut hth (fun _ q => q) rfl ds vs ?_ q2, q3⟩
          rcases ha j hj with e | ⟨ys, e1, e2⟩
          · rw [h2] at e
            have hb : Z.th[j]? = some b := by
              obtain ⟨t, et⟩ := x.pre
              rw [← et, List.getElem?_append_left (by rw [R.len]; exact hj)] at h1
              exact h1
            obtain ⟨ws, _, w2, _⟩ := R.cell j b ds hb e.symm
            exact RVs.und (by rw [R.len]; exact Nat.le_refl _) ds ws w2
          · rw [h2] at e1
            cases e1
            exact e2
        · have hj2 : j = μ.length := by
            have := (List.getElem?_eq_some_iff.mp h1').1
            rw [List.length_append, hlt, List.length_singleton] at this
            omega
          subst hj2
          rw [List.getElem?_append_right (by rw [hlt]; exact Nat.le_refl _), hlt, Nat.sub_self] at h1'
          rw [List.getElem?_append_right (by rw [hl2]; exact Nat.le_refl _), hl2, Nat.sub_self] at h2
          have eb : a = b := by simpa using h1'
          have ed : xs = ds := by simpa using h2
          rw [← eb, ← ed]
          obtain ⟨vs, q1, q2, q3⟩ := R'.cell i a xs ea e
          exact ⟨vs, q1, RVs.cut hth (fun _ q => q) rfl xs vs hu q2, q3⟩
      · rcases List.mem_append.mp q with q | q
        · exact R'.sep b hb (List.mem_of_mem_take q)
        · rw [List.mem_singleton.mp q] at hb
          exact R'.sep a hb (List.mem_of_getElem? ea)
      · show (Z'.th.take μ.length ++ [a])[μ.length]? = some a
        rw [List.getElem?_append_right (by rw [hlt]; exact Nat.le_refl _), hlt, Nat.sub_self]; rfl
      · show (if μ.length ≤ i ∧ D.undL μ.length xs = true ∧ (∀ i, i < μ.length → μ1[i]? = μ[i]? ∨ ∃ ys, μ1[i]? = some ys ∧ D.undL μ.length ys = true) then Res.ok (D.ref μ.length) (μ1.take μ.length ++ [xs]) else .err) = _
        rw [if_pos ⟨hi, hu, ha⟩]
    · rw [if_neg hc] at h'
      exact absurd rfl h'
theorem leaveK_ok {Wf : XK} {Q : VK} {o : Out} (R : Rel G Z μ) (h : Pst G (fun c d _ H => Wf c d H) [] (RV G) Z (leaveK μ o) Q) : PstS G (fun c d _ H => Wf c d H) { nx := fun _ H' => Q .non H', rt := Q } Z o := by
  cases o with
  | ret d μ' =>
    cases d with
    | ref i =>
      intro v Z' x R' r
      have h' : Pst G (fun c d _ H => Wf c d H) [] (RV G) Z (keepC μ i μ') Q := h
      obtain ⟨Z2, d2, μ2, e1, e2, e3, e4, e5⟩ := keep_ok R x R' r (fun z => by rw [z] at h'; exact h')
      rw [e5] at h'
      have := h' v Z2 e2 e3 e4
      rw [e1] at this
      exact this
    | _ => exact False.elim h
  | exc c d ρ' μ' => exact leave_ok R h
  | next ρ' μ' => exact False.elim h
  | brk ρ' μ' => exact False.elim h
  | cont ρ' μ' => exact False.elim h
  | err => exact False.elim h
end
end PyE
set_option maxRecDepth 100000
set_option maxHeartbeats 4000000
/-! functions, level by level -/
namespace PyE
open PySem PySem.Spec PyProof.Rows L2
/-- a function's text in the program -/
structure FdOk (G : Gi) (T : Tb) (tbl : Fid → Option Def) (f : Fid) : Prop where
  ex : ∃ (df : Def) (oc : Value) (od : Option Addr) (name qual : Str) (params : Arguments) (body : List Stmt) (scope : Scope) (dV kV doc pm cdv ct : Value) (an : Option Addr) (osl : Array (Option Value)) (N ps : List Str),
    tbl f = some df ∧ G.K.lookup (G.fa f) = some ⟨oc, od, .func (PySem.W.fnOf name qual params body scope dV kV doc pm an cdv ct), osl⟩ ∧ PySem.W.codeIn G.K cdv qual = true ∧ FnScope N ps scope ∧
      df.np = ps.length ∧ T.ps f = ps.length ∧ df.ns = N.length ∧ ps.length ≤ N.length ∧ ckSs T df.body ⟨N, scope, fun _ => true⟩ body = true ∧
      (∀ (s : Shared) (us : List Value), G.K.In s.heap → us.length = ps.length → BindsTo s (PySem.W.fnOf name qual params body scope dV kV doc pm an cdv ct) ⟨us, []⟩ (ps.zip us)) ∧
      ∀ i ks perm, (i, ks, perm) ∈ kwOf T f → ∀ (s : Shared) (us ws : List Value), G.K.In s.heap → us.length = i → ws.length = ks.length → BindsTo s (PySem.W.fnOf name qual params body scope dV kV doc pm an cdv ct) ⟨us, ks.zip ws⟩ (ps.zip (permL perm (us ++ ws)))
section
variable {G : Gi} {C : Cfg} {T : Tb} {tbl : Fid → Option Def}
theorem rvs_start {Z : Wd} {ds : List D} {vs : List V} (r : RVs G Z ds vs) (m : Nat) : SE G Z (vs.map some ++ List.replicate m none) (ds.map some ++ List.replicate m none) := by
  refine ⟨by simp [r.length], fun i d h => ?_⟩
  by_cases hi : i < ds.length
  · rw [List.getElem?_append_left (by simpa using hi), List.getElem?_map] at h
    cases e : ds[i]? with
    | none => rw [e] at h; cases h
    | some d' =>
      rw [e] at h
      cases h
      obtain ⟨v, e1, e2⟩ := r.get e
      refine ⟨v, ?_, e2⟩
      rw [List.getElem?_append_left (by rw [List.length_map, ← r.length]; exact hi), List.getElem?_map, e1]; rfl
  · rw [List.getElem?_append_right (by simpa using hi)] at h
    rw [List.getElem?_replicate] at h
    split at h <;> cases h
theorem level (tb : TbOk G T) (gf : GF G C) (sys : SysK G.K) (er : ErF G) (xm : ∀ f c, G.kc f = true → G.kc c = true → PySem.W.exmOne G.K (.ref (G.ca f)) (.ref (G.ca c)) = some (C.sub f c)) (fd : ∀ f, G.kf f = true → FdOk G T tbl f) : ∀ k, Wk G C T (run C tbl k) k
  | 0 => ⟨tb, gf, sys, fun f hf => by
      obtain ⟨df, oc, od, name, qual, params, body, scope, dV, kV, doc, pm, cdv, ct, an, osl, N, ps, e1, lk, hcd, S, e2, e3, e4, e5, ck, bd, bk⟩ := (fd f hf).ex
      exact ⟨⟨_, ps, e3.symm, bk, bd, fun A outer s H args us vs Q E _ _ _ _ _ h => by
        obtain ⟨_, Z, μ, ds, _, _, _, h⟩ := h
        exact False.elim h⟩, fun ds μ h => absurd rfl h⟩, er, xm⟩
  | k + 1 => by
    have IH := level tb gf sys er xm fd k
    refine ⟨tb, gf, sys, fun f hf => ?_, er, xm⟩
    obtain ⟨df, oc, od, name, qual, params, body, scope, dV, kV, doc, pm, cdv, ct, an, osl, N, ps, e1, lk, hcd, S, e2, e3, e4, e5, ck, bd, bk⟩ := (fd f hf).ex
    refine ⟨⟨_, ps, e3.symm, bk, bd, fun A outer s H args us vs Q E gd hr e0 hb r hsp => ?_⟩, fun ds μ h => ?_⟩
    rotate_left
    · by_cases hd : ds.length = df.np
      · rw [hd, e2, e3]
      · refine absurd ?_ h
        show (match tbl f with | some df => call1 C (run C tbl k) df ds μ | none => .err) = _
        rw [e1]
        show call1 C (run C tbl k) df ds μ = _
        unfold call1
        rw [if_neg hd]
    obtain ⟨hl, Z, μ, ds, eH, R, rv, hp⟩ := hsp
    have hl' : vs.length = ps.length := by rw [hl, e3]
    have KX : G.K.In s.heap := e0.mod.kin.keeps fun b o e => (e0.bs b o e).1
    have lim : s.heap.NoLimit := e0.mod.nolimit.keeps fun b o e => (e0.bs b o e).1
    have hkind : ∀ y ∈ ps.zip us, scope.names.lookup y.1 = some .local ∨ (scope.names.lookup y.1 = some .cell ∧ ((cellsFrom (s.heap.objs.size + 1) scope.names []).lookup y.1).isSome = true) := fun ⟨x, v⟩ hy => by
      rcases S.par x (List.of_mem_zip hy).1 with q | q
      · exact .inl q
      · exact .inr ⟨q, PySem.W.cellsFrom_some _ _ _ (.inl q)⟩
    refine codeAny_call_function hr.depth (KX _ _ lk) rfl S.co S.gen rfl (PySem.W.codeRec_of KX hcd) (hb _ _ _ _ ?_)
    refine wpAny_newFunctionEnv_cells S.kind hkind fun env he s1 x => ?_
    subst he
    refine ⟨lim.keeps x.toInCall.keep, codeAny_func ?_⟩
    let X := cxOf (CX G.P G.w) G.P G.w G.K G.mg G.base N qual scope (G.fa f) cdv A outer s H E
    have cs : CxS G C T (run C tbl k) ⟨N, scope, fun _ => true⟩ (fun c d _ H => E c d H) k X := {
      wk := IH, prog := rfl, w := rfl, K := rfl, mg := rfl, base := rfl, calm := rfl, N := rfl, nd := S.nd, sc := rfl, fn := rfl, room := hr.deeper _, gd := gd
      tk := takes_of (X := X) rfl rfl rfl rfl
      pass := passes_of (X := X) (K := fun e s'' => CX G.P G.w outer H s E e s'') rfl
      stk := rfl, frm := rfl, ex := rfl }
    have I : Inv X [] (start N vs) H s1 := inv_start S hr.hd e0 hl' r x
    have hbody := s_sts df.body body cs ck
    have hw : tS G (fun c d _ H => E c d H) (eS C (run C tbl k) df.body) { nx := fun _ H' => Q .non H', rt := Q } (start N vs) H := by
      have hrun : run C tbl (k + 1) f ds μ = call1 C (run C tbl k) df ds μ := by
        show (match tbl f with | some df => call1 C (run C tbl k) df ds μ | none => .err) = _
        rw [e1]
      rw [hrun] at hp
      unfold call1 at hp
      have hld : ds.length = df.np := by rw [rv.length, hl', e2]
      rw [if_pos hld] at hp
      have hend : PstS G (fun c d _ H => E c d H) { nx := fun _ H' => Q .non H', rt := Q } Z (eS C (run C tbl k) df.body (ds.map some ++ List.replicate (df.ns - df.np) none) μ) := by
        by_cases hk : df.kp = true
        · rw [if_pos hk] at hp; exact leaveK_ok R hp
        · rw [if_neg hk] at hp
          by_cases hd : df.dp = true
          · rw [if_pos hd] at hp; exact leaveD_ok hp
          · rw [if_neg hd] at hp; exact leave_ok R hp
      refine ⟨Z, _, μ, ⟨eH, ?_, R⟩, hend⟩
      have e6 : start N vs = vs.map some ++ List.replicate (df.ns - df.np) none := by
        unfold L2.start
        rw [hl', e4, e2]
      rw [e6]
      exact rvs_start rv _
    refine wpAny_mono (hbody.run [] s1 (start N vs) H _ I hw) (fun fl s' hs => ?_) fun e s' hs => hs
    have fin : ∀ {σ' : L2.St} {H' : Hp} {v : V} {u : Value}, Inv X [] σ' H' s' → RelV v u → Q v H' → L2.CE outer G.P G.w H s Q u s' := fun {σ' H' v u} J rv q => ⟨v, H', J.os, J.bare, J.base, J.hok, rv, q⟩
    cases fl with
    | ret u =>
      obtain ⟨v, σ', H', J, rv, q⟩ := hs
      exact fin J rv q
    | next =>
      obtain ⟨σ', H', J, q⟩ := hs
      exact fin (v := V.non) (u := Value.none) J rfl q
    | brk =>
      obtain ⟨_, _, _, q⟩ := hs
      exact False.elim q
    | cont =>
      obtain ⟨_, _, _, q⟩ := hs
      exact False.elim q
end
end PyE
set_option maxRecDepth 100000
set_option maxHeartbeats 4000000
/-! a law's end -/
namespace PyE
open PySem PySem.Spec PyProof.Rows L2
/-- the law at the heap behind the top: its def's promise over every ground -/
theorem law_g {Pr : Program} {wo : World} {KK : PySem.W.Frag} {gm bm : Str → Option Value} {fL aS : Addr} {st : Shared} {us : List Value} {zs : List Int} {sp : Heap → Sp}
    (inK : KK.In st.heap) (nsG : st.heap.Ns mainGlobals gm) (nsB : st.heap.Ns builtinsNs bm) (bb : ∀ x : Str, x ≠ "__name__" → bm x = bootBuiltins x) (nl : st.heap.NoLimit) (ng : st.gens = #[])
    (atS : st.heap.get? aS = some { cls := .type "list", data := .seq us.toArray }) (iz : IntsAre us zs) (short : zs.length ≤ sizeLine)
    (run : ∀ (gr : Heap), KK.In gr → gr.Ns mainGlobals gm → ∀ (H : Hp) (Q : VK) (Ex : XK), Env0 Pr wo KK gm gr callerA [] st H → sp gr [.ref aS] H Q Ex → codeAny (model Pr wo) callerA (.call (.ref fL) ⟨[.ref aS], []⟩) (CR (CX Pr wo) [] Pr wo H st Q Ex) st)
    (say : ∀ (gr : Heap) (H : Hp), ((∃ o, H aS = some (.frz o (.lst (zs.map .int)))) ∨ (∀ H, SqL KK H aS (zs.map .int))) → sp gr [.ref aS] H (fun v _ => v = .bl true) fun _ _ _ => False) :
    codeAny (model Pr wo) callerA (.call (.ref fL) ⟨[.ref aS], []⟩) (fun r s' => r = .ok (.ret (.bool true)) ∧ OldK st.heap s'.heap ∧ s'.os = st.os ∧ AllBare s'.gens) st := by
  have rvs := vals_ints iz
  have lenU := iz.length
  have main : ∀ H : Hp, Only H → ((∃ o, H aS = some (.frz o (.lst (zs.map .int)))) ∨ (∀ H, SqL KK H aS (zs.map .int))) → HOk Pr wo H st.heap → (∀ b, H b ≠ none → b = aS) → (H aS ≠ none → KK.lookup aS = none) →
      codeAny (model Pr wo) callerA (.call (.ref fL) ⟨[.ref aS], []⟩) (fun r s' => r = .ok (.ret (.bool true)) ∧ OldK st.heap s'.heap ∧ s'.os = st.os ∧ AllBare s'.gens) st := by
    intro H only sq ok oneA noK
    have nothing : ∀ {b : Addr}, b ≠ aS → H b = none := fun {b} hb => by
      cases q : H b with
      | none => rfl
      | some u => exact absurd (oneA b (by rw [q]; simp)) hb
    have hidden : ∀ {b : Addr} {o : Obj}, st.heap.get? b = some o → H b = none → (hidT st.heap H).get? b = some o := fun e m => hidT_get e m
    have dictFree : ∀ {b : Addr} {o : Obj} {es : Array DictEntry} {ep : Nat}, st.heap.get? b = some o → o.data = .dict es ep → H b = none := fun {b o es ep} e d => nothing fun z => by
      rw [z, atS] at e
      cases e
      cases (show Data.seq us.toArray _ = Data.dict es ep from d)
    have nsOf : ∀ {b : Addr} {m : Str → Option Value}, st.heap.Ns b m → (hidT st.heap H).Ns b m := fun {b m} ⟨o, es, ep, e, d, r⟩ => ⟨o, es, ep, hidden e (dictFree e d), d, r⟩
    have kIn : KK.In (hidT st.heap H) := fun b o e => hidden (inK b o e) (by
      by_cases z : b = aS
      · cases q : H b with
        | none => rfl
        | some u =>
          have := noK (by rw [← z, q]; simp)
          rw [← z, e] at this
          cases this
      · exact nothing z)
    have md : Mod KK gm (hidT st.heap H) := ⟨kIn, nsOf nsG, ⟨bm, nsOf nsB, bb⟩, let ⟨mc, h1, h2⟩ := nl; ⟨mc, nsOf h1, h2⟩⟩
    have en : Env0 Pr wo KK gm (hidT st.heap H) callerA [] st H := ⟨rfl, md, fun b o e => of_hidT e, Nat.le_of_eq (hidT_size _ _), trivial, fun b hb => absurd (show b ∈ ([] : List Addr) from hb) (by simp), ok, .of_eq ng⟩
    refine codeAny_mono (run _ kIn (nsOf nsG) H _ _ en (say _ H sq)) fun r s' h => ?_
    cases r with
    | error e =>
      obtain ⟨_, _, _, _, _, _, _, _, _, _, _, _, z⟩ := h
      exact False.elim z
    | ok fl =>
      cases fl with
      | next => exact False.elim h
      | brk => exact False.elim h
      | cont => exact False.elim h
      | ret u =>
        obtain ⟨v, H', os, bare, un, ok', rv', q⟩ := h
        have eq : v = .bl true := q
        subst eq
        obtain rfl : u = Value.bool true := rv'
        refine ⟨rfl, OldK.of_keep fun b o e => ?_, os, bare⟩
        cases q : H b with
        | none => exact un.keep b o e q (by intro z; exact absurd (show b ∈ ([] : List Addr) from z) (by simp)) (by simp)
        | some u =>
          rcases only b with z | ⟨ob, xs, z⟩
          · rw [q] at z; cases z
          · obtain ⟨e1, _⟩ := ok b _ z
            obtain ⟨e2, _⟩ := ok' b _ (un.frzs b ob _ z)
            rw [e] at e1; cases e1
            exact e2
  cases hk : KK.lookup aS with
  | some o =>
    have e := inK aS o hk
    rw [atS] at e
    cases e
    refine main (fun _ => none) (fun _ => .inl rfl) (.inr fun H => .inr ⟨_, us.toArray, _, hk, rfl, rfl, rfl, by rw [List.size_toArray, lenU]; exact short, by simpa using rvs⟩) (fun b u z => ?_) (fun b z => absurd rfl z) fun z => absurd rfl z
    cases (show (none : Option HO) = some u from z)
  | none =>
    refine main (fun b => if b = aS then some (.frz { cls := .type "list", data := .seq us.toArray } (.lst (zs.map V.int))) else none) (fun b => ?_) (.inl ⟨{ cls := .type "list", data := .seq us.toArray }, if_pos rfl⟩) (fun b u z => ?_) (fun b z => ?_) fun _ => hk
    · by_cases hb : b = aS
      · exact .inr ⟨_, _, if_pos hb⟩
      · exact .inl (if_neg hb)
    · by_cases hb : b = aS
      · cases (if_pos hb).symm.trans z
        subst hb
        exact ⟨atS, by rw [List.length_map]; exact short, us, _, rvs, atS⟩
      · cases (if_neg hb).symm.trans z
    · by_cases hb : b = aS
      · exact hb
      · exact absurd (if_neg hb) z
/-- the promise, from what the law's def computes -/
theorem say_of {G : Gi} {m : List D → Mu → Res D} {a : Addr} {ns : List Int} {H : Hp} (hl : ns.length ≤ LIM) (hm : m [.scr ns] [] = .ok (.bl true) []) (sq : (∃ o, H a = some (.frz o (.lst (ns.map .int)))) ∨ (∀ H, SqL G.K H a (ns.map .int))) :
    spOf G 1 m [.ref a] H (fun v _ => v = .bl true) fun _ _ _ => False := by
  refine ⟨rfl, ⟨[], fun _ => False, H⟩, [], [.scr ns], rfl, ⟨rfl, List.nodup_nil, fun n a ds h => by simp at h, fun a h => h.elim, fun a h => h.elim⟩, ⟨.ref a, [], rfl, ⟨a, rfl, sq, hl⟩, rfl⟩, ?_⟩
  rw [hm]
  exact fun v Z' _ _ r => r
/-- the whole: what is told of the head, and what is computed -/
theorem walk_g {l : PySem.W.OpenLaw} {nm kk : Nat} {q : Program} {loose : List Str} {XP : (Str → Option Value) → Heap → Prop} {YP : World → Heap → Prop} {d : DefRec}
    (hn : l.most = some nm) (hn2 : nm ≤ sizeLine) (hdf : d.params.defaults = []) (hr : Room (kk + 2) callerA)
    (F : ∀ (wo : World) (gm : Str → Option Value) (fa : Addr) (h : Heap), YP wo h → h.Ns mainGlobals gm → gm d.name = some (.ref fa) →
      ∃ (G : Heap → Gi) (KK : PySem.W.Frag) (m : List D → Mu → Res D), (∀ b, (G b).P = l.prog ∧ (G b).w = wo ∧ (G b).K = KK ∧ (G b).mg = gm ∧ (G b).base = b) ∧ KK.In h ∧
        (∀ ns : List Int, ns.length ≤ nm → m [.scr ns] [] = .ok (.bl true) []) ∧ ∀ b, KK.In b → b.Ns mainGlobals gm → ∃ kw fd ps, ps.length = 1 ∧ FnG (G b) kw fd ps kk fa (spOf (G b) 1 m)) :
    PySem.W.WalkO q loose XP YP l.row.toRowW d [] (fun f vs => PySem.call f vs) := by
  refine Att.attach_call hn hdf fun w s₀ s₁ mg mb fa o pm cd doc a vs ns G Y ho hd hcd hmg hobj hints hlen hg => ?_
  obtain ⟨Gi', KK, m, hG, KX, hm, hF⟩ := F w mg fa _ Y G.T.g hmg
  refine law_g (sp := fun b => spOf (Gi' b) 1 m) KX G.T.g G.T.b G.T.builtins G.T.nolimit hg hobj hints (Nat.le_trans hlen hn2) (fun b k1 k2 H Q Ex en hs => ?_) fun b H sq => say_of (by rw [LIM_eq]; exact Nat.le_trans hlen hn2) (hm ns hlen) (by rw [(hG b).2.2.1]; exact sq)
  obtain ⟨e1, e2, e3, e4, e5⟩ := hG b
  obtain ⟨kw, fd, ps, hp, hf⟩ := hF b k1 k2
  have := hf.run callerA [] s₁ H ⟨[.ref a], []⟩ [.ref a] [.ref a] Q Ex rfl hr (by rw [e1, e2, e3, e4, e5]; exact en) (hf.bind s₁ [.ref a] (by rw [e3]; exact KX) hp.symm) (.cons rfl .nil) hs
  rw [e1, e2] at this
  exact this
end PyE
set_option maxRecDepth 100000
set_option maxHeartbeats 4000000
/-! own errors: the tests -/
namespace PyE
open PySem PySem.Spec PyProof.Rows L2
def oexB (K : PySem.W.Frag) (C : Addr) : Bool := match K.lookup C with
  | some ⟨.type "type", _, .cls cd, sl⟩ => (match cd.mro, sl.toList with
    | .ref C' :: bm, [_, _, _, _, some (.builtin n), _] => decide (C' = C) && decide (n = "ValueError.__new__") && !cd.hasDel && cd.hasDict && PySem.HandSPX.refsVE bm
    | _, _ => false)
  | _ => false
theorem oexB_ok {K : PySem.W.Frag} {C : Addr} (h : oexB K C = true) : ∃ nm q N bs bm sn sub ab col dd k0 k1 k2 k3 k5, K.lookup C = some (excClassObj nm q C N bs bm true sn sub ab col dd k0 k1 k2 k3 k5 "ValueError.__new__") ∧ PySem.HandSPX.refsVE bm = true := by
  unfold oexB at h
  split at h
  · rename_i dd cd sl ho
    split at h
    · rename_i C' bm k0 k1 k2 k3 n k5 hm hs
      simp only [Bool.and_eq_true, Bool.not_eq_true'] at h
      obtain ⟨⟨⟨⟨h1, h2⟩, h3⟩, h4⟩, h5⟩ := h
      have e1 := of_decide_eq_true h1
      have e2 := of_decide_eq_true h2
      subst e1 e2
      obtain ⟨nm, bs, mro, ns, qn, hd, sn, sub, ab, col, del⟩ := cd
      dsimp only at hm h3 h4
      subst hm h3 h4
      obtain ⟨l⟩ := sl
      simp only at hs
      subst hs
      exact ⟨_, _, _, _, _, _, _, _, _, _, _, _, _, _, _, ho, h5⟩
    · cases h
  · cases h
/-- __init__'s text: its qualified name, scope, cell, defaults, code -/
def iniTxt (fd : FuncData) : Option (Str × Addr × Addr × Addr) := match fd with
  | ⟨nm, q, ⟨[], [⟨a1, _, _⟩, ⟨a2, _, _⟩], none, [], [], none, _⟩, .stmts [.Expr (.Call (.Attribute (.Call (.Name s1 _) [] [] _) i1 p3) [.Name v1 _] [] p5) _, .Assign [.Attribute (.Name s2 _) v2 _] (.Name v3 _) _], sc, g, [(cn, cc)], .ref T, _, _, _, _, .ref cda, _, b⟩ =>
    if (decide (nm = "__init__") && decide (a1 = "self") && decide (a2 = "value") && decide (s1 = "super") && decide (i1 = "__init__") && decide (v1 = "value") && decide (s2 = "self") && decide (v2 = "value") && decide (v3 = "value") && decide (g = mainGlobals) && decide (b = builtinsNs) && decide (cn = "__class__") &&
      (p3.endLine == p5.line) && decide (sc.names = iniN) && decide (sc.kind = .function) && decide (sc.isCoroutine = false) && decide (sc.isGenerator = false)) = true then some (q, cc, T, cda) else none
  | _ => none
def cellAt (K : PySem.W.Frag) (cc : Addr) : Option Addr := match K.lookup cc with
  | some ⟨_, _, .cell (some (.ref D)), _⟩ => some D
  | _ => none
def fileB (K : PySem.W.Frag) (cda : Addr) (fl : Str) : Bool := match K.lookup cda with
  | some ⟨_, _, .fields vs, _⟩ => (match (vs[2]? : Option Value) with
    | some (Value.str file _) => fl == file
    | _ => false)
  | _ => false
def oneB (K : PySem.W.Frag) (T : Addr) : Bool := match K.lookup T with
  | some ⟨_, _, .seq its _, _⟩ => decide (its.size = 1)
  | _ => false
/-- the def at fI: what class its cell tells -/
def iniD (K : PySem.W.Frag) (fl : Str) (fI : Addr) : Option Addr := match K.lookup fI with
  | some ⟨_, _, .func fd, _⟩ => (iniTxt fd).bind fun x => if (PySem.W.codeIn K (.ref x.2.2.2) x.1 && fileB K x.2.2.2 fl && oneB K x.2.2.1) = true then cellAt K x.2.1 else none
  | _ => none
def icB (K : PySem.W.Frag) (C D : Addr) : Bool := oexB K C && decide (PySem.W.findIn K (.ref C) "__setattr__" = some (some (.builtin "object.__setattr__"))) && decide (PySem.W.subIn K (.ref C) (.type "BaseException") = some true) && decide (PySem.W.typeIn K (.ref C) = some (.type "type")) && PySem.W.keepIn K (.ref C) &&
  decide (PySem.W.mroIn K C (.ref D) = some true) && decide (PySem.W.ks_superIn K C D "__init__" = some (some (.builtin "ValueError.__init__"))) && decide (PySem.W.subIn K (.ref C) (.type "ValueError") = some true) && decide (PySem.W.nsIn K cStatics "thirdparty.any" = some none) && decide (PySem.W.findIn K (.ref C) "value" = some none) && (PySem.W.clsIn K D).isSome
def erB (K : PySem.W.Frag) (fl : Str) (C : Addr) : Bool := match PySem.W.findIn K (.ref C) "__init__" with
  | some (some (.ref fI)) => decide (PySem.W.typeIn K (.ref fI) = some (.type "function")) && (match iniD K fl fI with
    | some D => icB K C D
    | none => false)
  | _ => false
theorem fileB_ok {K : PySem.W.Frag} {cda : Addr} {fl : Str} (h : fileB K cda fl = true) : ∃ ccl cdd vs ccs file tf, K.lookup cda = some ⟨ccl, cdd, .fields vs, ccs⟩ ∧ vs[2]? = some (.str file tf) ∧ (fl == file) = true := by
  unfold fileB at h
  split at h
  · rename_i a b vs c ho
    split at h
    · rename_i file tf e
      exact ⟨_, _, _, _, _, _, ho, e, h⟩
    · cases h
  · cases h
theorem cellAt_ok {K : PySem.W.Frag} {cc D : Addr} (h : cellAt K cc = some D) : ∃ cl cld csl, K.lookup cc = some ⟨cl, cld, .cell (some (.ref D)), csl⟩ := by
  unfold cellAt at h
  split at h
  · cases h
    exact ⟨_, _, _, by assumption⟩
  · cases h
theorem oneB_ok {K : PySem.W.Frag} {T : Addr} (h : oneB K T = true) : ∃ o d n, K.lookup T = some o ∧ o.data = .seq #[d] n := by
  unfold oneB at h
  split at h
  · rename_i a b its n c ho
    have e := of_decide_eq_true h
    obtain ⟨l⟩ := its
    match l, e with
    | [d], _ => exact ⟨_, d, n, ho, rfl⟩
  · cases h
theorem icB_ok {K : PySem.W.Frag} {C D : Addr} (h : icB K C D = true) : IniC K C D ∧ ∃ cd, PySem.W.clsIn K D = some cd := by
  unfold icB at h
  simp only [Bool.and_eq_true] at h
  obtain ⟨⟨⟨⟨⟨⟨⟨⟨⟨⟨h1, h2⟩, h3⟩, h4⟩, h5⟩, h6⟩, h7⟩, h8⟩, h9⟩, h10⟩, h11⟩ := h
  exact ⟨⟨⟨oexB_ok h1, of_decide_eq_true h2, of_decide_eq_true h3, of_decide_eq_true h4, h5⟩, of_decide_eq_true h6, of_decide_eq_true h7, of_decide_eq_true h8, of_decide_eq_true h9, of_decide_eq_true h10⟩, Option.isSome_iff_exists.mp h11⟩
theorem iniD_ok {P : Program} {K : PySem.W.Frag} {mg : Str → Option Value} {fI D : Addr} {fl : Str} (h : iniD K fl fI = some D) (hf : P.main.file = fl) (ms : mg "super" = none) (tp : (P.main.scope.names.lookup ("super" : Str)).isSome = false) (hc : ∃ cd, PySem.W.clsIn K D = some cd) :
    ∃ fd, IniF P K mg fI fd D ∧ Binds K fd ["self", "value"] [] := by
  unfold iniD at h
  split at h
  · rename_i oc od fd osl ho
    obtain ⟨⟨q, cc, T, cda⟩, e1, e2⟩ := Option.bind_eq_some_iff.mp h
    dsimp only at e2
    split at e2
    · rename_i hcs
      simp only [Bool.and_eq_true] at hcs
      obtain ⟨⟨c1, c2⟩, c3⟩ := hcs
      unfold iniTxt at e1
      split at e1
      · split at e1
        · rename_i nm q' a1 an1 ap1 a2 an2 ap2 dfl s1 sp1 sp2 i1 p3 v1 vp1 p5 p6 s2 p7 v2 p8 v3 p9 pa sc g cn cc' T' kV doc pm an cda' ct b hb
          simp only [Bool.and_eq_true] at hb
          obtain ⟨⟨⟨⟨⟨⟨⟨⟨⟨⟨⟨⟨⟨⟨⟨⟨b1, b2⟩, b3⟩, b4⟩, b5⟩, b6⟩, b7⟩, b8⟩, b9⟩, b10⟩, b11⟩, b12⟩, b13⟩, b14⟩, b15⟩, b16⟩, b17⟩ := hb
          cases e1
          have d1 := of_decide_eq_true b1
          have d2 := of_decide_eq_true b2
          have d3 := of_decide_eq_true b3
          have d4 := of_decide_eq_true b4
          have d5 := of_decide_eq_true b5
          have d6 := of_decide_eq_true b6
          have d7 := of_decide_eq_true b7
          have d8 := of_decide_eq_true b8
          have d9 := of_decide_eq_true b9
          have d10 := of_decide_eq_true b10
          have d11 := of_decide_eq_true b11
          have d12 := of_decide_eq_true b12
          subst d1 d2 d3 d4 d5 d6 d7 d8 d9 d10 d11 d12
          obtain ⟨o, d, n, lT, oT⟩ := oneB_ok c3
          refine ⟨_, ⟨⟨oc, od, osl, _, _, sc, _, _, _, _, _, _, cda, cc, _, _, _, _, _, _, _, _, _, _, _, b13, rfl, ho, c1, by rw [hf]; exact fileB_ok c2, cellAt_ok e2, rfl, rfl, of_decide_eq_true b14, of_decide_eq_true b15, of_decide_eq_true b16, of_decide_eq_true b17⟩, hc, ms, tp⟩, fun s us X hl => ?_⟩
          match us, hl with
          | [u1, u2], _ => exact BindsTo.of_looks fun M => looks_items X lT oT (.of_pure (by rfl))
        · cases e1
      · cases e1
    · cases e2
  · cases h
end PyE
set_option maxRecDepth 100000
set_option maxHeartbeats 4000000
/-! the head: what is told of the written part -/
namespace PyE
open PySem PySem.Spec PyProof.Rows L2
/-- the law's names: functions, classes -/
structure Nm where
  fs : List Str
  cs : List Str
  gl : List (Str × GK)
def Nm.f (m : Nm) (i : Fid) : Str := (m.fs[i]?).getD ""
def Nm.c (m : Nm) (i : Fid) : Str := (m.cs[i]?).getD ""
def dvOf : D → Option He.Dv
  | .none => some .non
  | .bl b => some (.bl b)
  | .int i => some (.int i)
  | .str s => some (.str s)
  | _ => none
def dvsOf : List D → Option (List He.Dv)
  | [] => some []
  | d :: ds => (dvOf d).bind fun a => (dvsOf ds).map fun b => a :: b
def conB (K : PySem.W.Frag) (x : Str) : D → Bool
  | .int i => (He.Fa.int x i).ok K
  | .str s => (He.Fa.str x s).ok K
  | .tup ds => (He.Fa.glo x).ok K && (match dvsOf ds with
    | some vs => He.tupB K x vs && decide (ds.length ≤ 1000)
    | none => false)
  | _ => false
def glB (m : Nm) (K : PySem.W.Frag) (x : Str) : GK → Bool
  | .fn f => (He.Fa.glo x).ok K && decide (m.f f = x) && decide (f < m.fs.length)
  | .cls c => (He.Fa.glo x).ok K && decide (m.c c = x) && decide (c < m.cs.length)
  | .con d => conB K x d
  | .blt => (He.Fa.free x).ok K
def sysB (K : PySem.W.Frag) : Bool := match K.lookup sysModules with
  | some o => decide (o.cls = .type "dict")
  | none => false
def xcB (K : PySem.W.Frag) (C : Addr) : Bool := (PySem.W.clsIn K C).isSome && decide (PySem.W.findIn K (.ref C) "__getattribute__" = some (some (.builtin "BaseException.__getattribute__"))) && decide (PySem.W.findIn K (.ref C) "__getattr__" = some none) &&
  decide (PySem.W.subIn K (.ref C) (.type "BaseException") = some true) && PySem.W.hasDictIn K C && decide (PySem.W.findIn K (.ref C) "__class__" = some (some (.builtin "object.__class__"))) && decide (PySem.W.specialIn K (.builtin "object.__class__") "__get__" = some (some (.builtin "getset_descriptor.__get__"))) &&
  decide (PySem.W.takesIn K (.builtin "object.__class__") = some true) && decide (PySem.W.mroIn K C (.type "object") = some true) && decide (PySem.W.findIn K (.ref C) "value" = some none)
theorem xcB_ok {K : PySem.W.Frag} {C : Addr} (h : xcB K C = true) : XcF K C := by
  unfold xcB at h
  simp only [Bool.and_eq_true] at h
  obtain ⟨⟨⟨⟨⟨⟨⟨⟨⟨h1, h2⟩, h3⟩, h4⟩, h5⟩, h6⟩, h7⟩, h8⟩, h9⟩, h10⟩ := h
  exact ⟨h1, of_decide_eq_true h2, of_decide_eq_true h3, of_decide_eq_true h4, h5, of_decide_eq_true h6, of_decide_eq_true h7, of_decide_eq_true h8, of_decide_eq_true h9, of_decide_eq_true h10⟩
def flS : Str := "/claim/cut.py"
/-- of the classes: two by two, with ValueError -/
def clsB (m : Nm) (C : Cfg) (K : PySem.W.Frag) : Bool := (List.range m.cs.length).all fun i => xcB K (He.ga K (m.c i)) && erB K flS (He.ga K (m.c i)) && decide (PySem.W.kitOne K (.ref (He.ga K (m.c i))) (.type "ValueError") = some true) &&
  (List.range m.cs.length).all fun j => decide (PySem.W.kitOne K (.ref (He.ga K (m.c i))) (.ref (He.ga K (m.c j))) = some (C.sub i j)) && decide (PySem.W.exmOne K (.ref (He.ga K (m.c i))) (.ref (He.ga K (m.c j))) = some (C.sub i j))
def exB (m : Nm) (C : Cfg) (K : PySem.W.Frag) : Bool := sysB K && m.gl.all (fun p => glB m K p.1 p.2) && clsB m C K
/-! ### the hook -/
abbrev AlE : Type := He.AlD × Bool
def obsK (m : Nm) (C : Cfg) (fa : List He.Fa) (fn : List He.DefD) (K : PySem.W.Frag) : AlE := (He.obsD fa fn K, exB m C K)
def obsE (m : Nm) (C : Cfg) (n : Nat) (fa : List He.Fa) (fn : List He.DefD) (g : Addr → Option Obj) : AlE := obsK m C fa fn (He.frG g (sysModules :: cStatics :: He.asD g n))
def hookE (m : Nm) (C : Cfg) (n : Nat) (fa : List He.Fa) (fn : List He.DefD) : PySem.W.Hook where
  α := AlE
  obs := fun s => obsE m C n fa fn s.heap.get?
  val := fun _ => (He.valD fn, true)
  says := fun _ h => ∃ K : PySem.W.Frag, K.In h ∧ He.SaysD fa fn K ∧ exB m C K = true
  of := fun _ _ e => ⟨_, He.frG_in, congrArg Prod.fst e, congrArg Prod.snd e⟩
  keeps := fun _ _ _ ⟨K, hK, c⟩ k => ⟨K, PySem.W.Frag.In.keeps hK k, c⟩
theorem obsE_eq {m : Nm} {C : Cfg} {n : Nat} {fa : List He.Fa} {fn : List He.DefD} {g : Addr → Option Obj} {s : Shared} (h : ∀ a, g a = s.heap.get? a) : obsE m C n fa fn g = (hookE m C n fa fn).obs s := by
  have e : g = s.heap.get? := funext h
  rw [e] <;> rfl
/-! ### what it tells -/
def gOf (m : Nm) (P : Program) (w : World) (K : PySem.W.Frag) (mg : Str → Option Value) (b : Heap) : Gi := ⟨P, w, K, mg, b, fun f => He.ga K (m.f f), fun c => He.ga K (m.c c), fun c => decide (c < m.cs.length), fun f => decide (f < m.fs.length)⟩
section
variable {m : Nm} {C : Cfg} {P : Program} {w : World} {K : PySem.W.Frag} {mg : Str → Option Value} {b h : Heap}
theorem ex_sys (e : exB m C K = true) : SysK K := by
  unfold exB at e
  simp only [Bool.and_eq_true] at e
  have e1 := e.1.1
  unfold sysB at e1
  split at e1
  · exact ⟨_, by assumption, of_decide_eq_true e1⟩
  · cases e1
theorem ex_at (e : exB m C K = true) (c : Nat) (hc : c < m.cs.length) : xcB K (He.ga K (m.c c)) = true ∧ erB K flS (He.ga K (m.c c)) = true ∧ PySem.W.kitOne K (.ref (He.ga K (m.c c))) (.type "ValueError") = some true ∧
    ∀ j, j < m.cs.length → PySem.W.kitOne K (.ref (He.ga K (m.c c))) (.ref (He.ga K (m.c j))) = some (C.sub c j) ∧ PySem.W.exmOne K (.ref (He.ga K (m.c c))) (.ref (He.ga K (m.c j))) = some (C.sub c j) := by
  unfold exB at e
  simp only [Bool.and_eq_true] at e
  have e1 := e.2
  unfold clsB at e1
  rw [List.all_eq_true] at e1
  have := e1 c (List.mem_range.mpr hc)
  simp only [Bool.and_eq_true, List.all_eq_true] at this
  exact ⟨this.1.1.1, this.1.1.2, of_decide_eq_true this.1.2, fun j hj => ⟨of_decide_eq_true (this.2 j (List.mem_range.mpr hj)).1, of_decide_eq_true (this.2 j (List.mem_range.mpr hj)).2⟩⟩
theorem ex_gf (e : exB m C K = true) : GF (gOf m P w K mg b) C :=
  ⟨fun c hc => xcB_ok (ex_at e c (of_decide_eq_true hc)).1, fun c k hc hk => ((ex_at e c (of_decide_eq_true hc)).2.2.2 k (of_decide_eq_true hk)).1, fun c hc => (ex_at e c (of_decide_eq_true hc)).2.2.1⟩
theorem ex_xm (e : exB m C K = true) : ∀ f c, (gOf m P w K mg b).kc f = true → (gOf m P w K mg b).kc c = true → PySem.W.exmOne K (.ref (He.ga K (m.c f))) (.ref (He.ga K (m.c c))) = some (C.sub f c) := fun f c hf hc => ((ex_at e f (of_decide_eq_true hf)).2.2.2 c (of_decide_eq_true hc)).2
theorem ex_er (e : exB m C K = true) (h : m.cs.length = 0 ∨ (P.main.file = flS ∧ mg "super" = none ∧ (P.main.scope.names.lookup ("super" : Str)).isSome = false)) : ErF (gOf m P w K mg b) := fun c hc => by
  have hc' : c < m.cs.length := of_decide_eq_true hc
  obtain ⟨hf, ms, tp⟩ := h.resolve_left (fun z => by rw [z] at hc'; exact absurd hc' (Nat.not_lt_zero _))
  have q := (ex_at e c hc').2.1
  unfold erB at q
  split at q
  · rename_i fI hi
    rw [Bool.and_eq_true] at q
    obtain ⟨q1, q2⟩ := q
    split at q2
    · rename_i D hD
      obtain ⟨i1, i2⟩ := icB_ok q2
      obtain ⟨fd, f1, f2⟩ := iniD_ok (P := P) (mg := mg) hD hf ms tp i2
      exact ⟨fI, D, fd, f1, i1, hi, of_decide_eq_true q1, f2⟩
    · cases q2
  · cases q
theorem dvs_rv {G : Gi} {Z : Wd} : ∀ {ds : List D} {vs : List He.Dv}, dvsOf ds = some vs → RVs G Z ds (vs.map (He.Dv.v K))
  | [], vs, e => by cases e; rfl
  | d :: ds, vs, e => by
    obtain ⟨a, e1, e⟩ := Option.bind_eq_some_iff.mp (show (dvOf d).bind (fun a => (dvsOf ds).map fun b => a :: b) = some vs from e)
    obtain ⟨r, e2, e3⟩ := Option.map_eq_some_iff.mp e
    subst e3
    refine ⟨_, _, rfl, ?_, dvs_rv e2⟩
    cases d <;> first | (cases e1; rfl) | cases e1
theorem mem_of_lookup {α : Type} {x : Str} {k : α} : ∀ {l : List (Str × α)}, l.lookup x = some k → (x, k) ∈ l
  | [], h => by cases h
  | (y, q) :: r, h => by
    rw [List.lookup_cons] at h
    split at h
    · rename_i he
      have e : x = y := by simpa using he
      cases h
      rw [e]
      exact List.mem_cons_self
    · exact List.mem_cons_of_mem _ (mem_of_lookup h)
theorem ex_tb {ps : Fid → Nat} {kw : List (Fid × Nat × List Str × List Nat)} {al : List (Fid × Fid)} (e : exB m C K = true) (X : K.In h) (N : h.Ns mainGlobals mg) (keep : ∀ f, f < m.fs.length → PySem.W.keepIn K (.ref (He.ga K (m.f f))) = true) (hal : al.all (fun p => decide (m.f p.1 = m.f p.2) && decide (p.1 < m.fs.length)) = true := by decide +kernel) : TbOk (gOf m P w K mg b) ⟨m.gl, ps, kw, al⟩ := by
  unfold exB at e
  simp only [Bool.and_eq_true] at e
  have e1 := e.1.2
  rw [List.all_eq_true] at e1
  have at_ : ∀ x k, m.gl.lookup x = some k → glB m K x k = true := fun x k hx => by
    exact e1 (x, k) (mem_of_lookup hx)
  refine ⟨fun x f hx => ?_, fun f g hfg => ?_, fun f hf => keep f (of_decide_eq_true hf), fun x d hx => ?_, fun x c hx => ?_, fun x hx => ?_⟩
  · have q := at_ x _ hx
    simp only [glB, Bool.and_eq_true] at q
    obtain ⟨⟨q1, q2⟩, q3⟩ := q
    exact ⟨(He.glo_ok X N q1).trans (by show _ = some (Value.ref (He.ga K (m.f f))); rw [of_decide_eq_true q2]), q3⟩
  · have q := List.all_eq_true.mp hal _ (List.contains_iff_mem.mp hfg)
    rw [Bool.and_eq_true] at q
    exact ⟨by show He.ga K (m.f f) = He.ga K (m.f g); rw [show m.f f = m.f g from of_decide_eq_true q.1], q.2⟩
  · have q := at_ x _ hx
    have q' : conB K x d = true := q
    unfold conB at q'
    split at q'
    · obtain ⟨t, e⟩ := He.int_ok X N q'
      exact ⟨.int _, _, e, ⟨t, rfl⟩, fun Z => rfl⟩
    · obtain ⟨t, e⟩ := He.str_ok X N q'
      exact ⟨.str _, _, e, ⟨t, rfl⟩, fun Z => rfl⟩
    · rw [Bool.and_eq_true] at q'
      obtain ⟨q1, q2⟩ := q'
      split at q2
      · rename_i vs ev
        rw [Bool.and_eq_true] at q2
        have hz := of_decide_eq_true q2.2
        exact ⟨.ref (He.ga K x), _, He.glo_ok X N q1, rfl, fun Z => ⟨_, _, rfl, He.tupB_ok q2.1 Z.H, by unfold LIM; omega, dvs_rv ev⟩⟩
      · cases q2
    · cases q'
  · have q := at_ x _ hx
    simp only [glB, Bool.and_eq_true] at q
    obtain ⟨⟨q1, q2⟩, q3⟩ := q
    exact ⟨(He.glo_ok X N q1).trans (by show _ = some (Value.ref (He.ga K (m.c c))); rw [of_decide_eq_true q2]), q3⟩
  · exact He.free_ok X N (at_ x _ hx)
theorem FunD.bindsK {x qual : Str} {params : Arguments} {body : List Stmt} {scope : Scope} {kws : List (Str × V)} {f : Addr} {fd : FuncData} {i : Nat} {ks ps : List Str} {perm : List Nat} (F : FunD K x qual params body scope [] kws f fd)
    (h : ∀ (kV doc pm : Value) (an : Option Addr) (cdv ct : Value) (us ws : List Value), us.length = i → ws.length = ks.length → bindArgs (PySem.W.fnOf x qual params body scope .none kV doc pm an cdv ct) ⟨us, ks.zip ws⟩ = pure (ps.zip (permL perm (us ++ ws)))) (s : Shared) (us ws : List Value) (h1 : us.length = i) (h2 : ws.length = ks.length) : BindsTo s fd ⟨us, ks.zip ws⟩ (ps.zip (permL perm (us ++ ws))) := by
  obtain ⟨oc, od, dV, kV, doc, pm, an, cdv, ct, osl, rfl, lk, hcd, hD, hK⟩ := F.ex
  rcases hD with ⟨_, rfl⟩ | ⟨e, _⟩
  · exact .of_eq (h kV doc pm an cdv ct us ws h1 h2)
  · exact absurd rfl e
/-- a def of the head is a function's text -/
theorem fd_of {T : Tb} {tbl : Fid → Option Def} {f : Fid} {df : Def} {x qual : Str} {params : Arguments} {body : List Stmt} {scope : Scope} {fd : FuncData} {N ps : List Str} {kws : List (Str × V)} (F : FunD K x qual params body scope [] kws (He.ga K (m.f f)) fd) (e1 : tbl f = some df) (S : FnScope N ps scope)
    (e2 : df.np = ps.length) (e3 : T.ps f = ps.length) (e4 : df.ns = N.length) (e5 : ps.length ≤ N.length) (ck : ckSs T df.body ⟨N, scope, fun _ => true⟩ body = true)
    (hb : ∀ (kV doc pm : Value) (an : Option Addr) (cdv ct : Value) (us : List Value), us.length = ps.length → bindArgs (PySem.W.fnOf x qual params body scope .none kV doc pm an cdv ct) ⟨us, []⟩ = pure (ps.zip us))
    (hk : ∀ i ks perm, (i, ks, perm) ∈ kwOf T f → ∀ (kV doc pm : Value) (an : Option Addr) (cdv ct : Value) (us ws : List Value), us.length = i → ws.length = ks.length → bindArgs (PySem.W.fnOf x qual params body scope .none kV doc pm an cdv ct) ⟨us, ks.zip ws⟩ = pure (ps.zip (permL perm (us ++ ws)))) : FdOk (gOf m P w K mg b) T tbl f := by
  have bd := FunD.bindsA F hb
  have bk := fun i ks perm hm => FunD.bindsK F (hk i ks perm hm)
  obtain ⟨oc, od, dV, kV, doc, pm, an, cdv, ct, osl, rfl, lk, hcd, hD, hK⟩ := F.ex
  exact ⟨df, oc, od, x, qual, params, body, scope, dV, kV, doc, pm, cdv, ct, an, osl, N, ps, e1, lk, hcd, S, e2, e3, e4, e5, ck, fun s us _ hl => bd s us hl, fun i ks perm hm s us ws _ h1 h2 => bk i ks perm hm s us ws h1 h2⟩
end
end PyE
set_option maxRecDepth 100000
set_option maxHeartbeats 0
namespace PyE
open PySem

def c_LookError : Fid := 0
def c_InvalidLook : Fid := 1
def c_InvalidTable : Fid := 2
def c_Unlike : Fid := 3
def f_is_whole : Fid := 0
def f_common_divisor : Fid := 1
def f_lowest : Fid := 2
def f_is_fraction : Fid := 3
def f_is_amount : Fid := 4
def f_plus : Fid := 5
def f_times : Fid := 6
def f_summed : Fid := 7
def f_are_chances : Fid := 8
def f_product : Fid := 9
def f_is_look_by : Fid := 10
def f_check_look : Fid := 11
def f_marks_of : Fid := 12
def f_is_table_by : Fid := 13
def f_is_any_table : Fid := 14
def f_check_table : Fid := 15
def f_through : Fid := 16
def f_blurred_by : Fid := 17
def f_blurred : Fid := 18
def f_check_any_table : Fid := 19
def f_tables_behind : Fid := 20
def f__law_hash : Fid := 21
def f__law_random : Fid := 22
def f__law_cell : Fid := 23
def f__law_generator : Fid := 24
def f__law_pick : Fid := 25
def f__law_frac : Fid := 26
def f__law_add : Fid := 27
def f__law_mul : Fid := 28
def f__law_exact : Fid := 29
def f__law_lists : Fid := 30
def f__law_own : Fid := 31
def f__law_chances : Fid := 32
def f__law_look : Fid := 33
def f__law_table : Fid := 34
def f__law_total : Fid := 35
def f__law_product : Fid := 36
def f__law_blurred : Fid := 37
def f__law_bad_look : Fid := 38
def f__law_caught : Fid := 39
def f__law_behind_both : Fid := 40
def f__law_bad_table : Fid := 41
def f_law : Fid := 42
def f_blurred_d : Fid := 43
def f_tables_behind_d : Fid := 44
def f_blurred_by_d : Fid := 45
def f_through_d : Fid := 46
def b_is_whole : CS := (.cons (.ret (.and_ (.op (.isi [.tint]) (.cons (.v 0) .nil)) (.not_ (.op (.isi [.tbool]) (.cons (.v 0) .nil))))) .nil)
def df_is_whole : Def := ⟨1, 1, b_is_whole, false, false⟩
def b_common_divisor : CS := (.cons (.asg (.tp [0, 1]) (.op .tup (.cons (.op .abs (.cons (.v 0) .nil)) (.cons (.op .abs (.cons (.v 1) .nil)) .nil)))) (.cons (.while_ (.op .gt (.cons (.v 1) (.cons (.con (.int 0)) .nil))) (.cons (.asg (.tp [0, 1]) (.op .tup (.cons (.v 1) (.cons (.op .mod (.cons (.v 0) (.cons (.v 1) .nil))) .nil)))) .nil)) (.cons (.ret (.v 0)) .nil)))
def df_common_divisor : Def := ⟨2, 2, b_common_divisor, false, false⟩
def b_lowest : CS := (.cons (.if_ (.op .lt (.cons (.v 1) (.cons (.con (.int 0)) .nil))) (.cons (.asg (.tp [0, 1]) (.op .tup (.cons (.op .sub (.cons (.con (.int 0)) (.cons (.v 0) .nil))) (.cons (.op .sub (.cons (.con (.int 0)) (.cons (.v 1) .nil))) .nil)))) .nil) .nil) (.cons (.asg (.nm 2) (.call f_common_divisor [0, 1] (.cons (.v 0) (.cons (.v 1) .nil)))) (.cons (.ret (.op .tup (.cons (.op .fdiv (.cons (.v 0) (.cons (.v 2) .nil))) (.cons (.op .fdiv (.cons (.v 1) (.cons (.v 2) .nil))) .nil)))) .nil)))
def df_lowest : Def := ⟨2, 3, b_lowest, false, false⟩
def b_is_fraction : CS := (.cons (.if_ (.or_ (.not_ (.op (.isi [.ttuple]) (.cons (.v 0) .nil))) (.or_ (.op .ne (.cons (.op .len (.cons (.v 0) .nil)) (.cons (.con (.int 2)) .nil))) (.or_ (.not_ (.call f_is_whole [0] (.cons (.op .idx (.cons (.v 0) (.cons (.con (.int 0)) .nil))) .nil))) (.not_ (.call f_is_whole [0] (.cons (.op .idx (.cons (.v 0) (.cons (.con (.int 1)) .nil))) .nil)))))) (.cons (.ret (.con (.bl false))) .nil) .nil) (.cons (.ret (.and_ (.op .gt (.cons (.op .idx (.cons (.v 0) (.cons (.con (.int 1)) .nil))) (.cons (.con (.int 0)) .nil))) (.op .eq (.cons (.call f_common_divisor [0, 1] (.cons (.op .idx (.cons (.v 0) (.cons (.con (.int 0)) .nil))) (.cons (.op .idx (.cons (.v 0) (.cons (.con (.int 1)) .nil))) .nil))) (.cons (.con (.int 1)) .nil))))) .nil))
def df_is_fraction : Def := ⟨1, 1, b_is_fraction, false, false⟩
def b_is_amount : CS := (.cons (.ret (.and_ (.call f_is_fraction [0] (.cons (.v 0) .nil)) (.op .ge (.cons (.op .idx (.cons (.v 0) (.cons (.con (.int 0)) .nil))) (.cons (.con (.int 0)) .nil))))) .nil)
def df_is_amount : Def := ⟨1, 1, b_is_amount, false, false⟩
def b_plus : CS := (.cons (.ret (.call f_lowest [0, 1] (.cons (.op .add (.cons (.op .mul (.cons (.op .idx (.cons (.v 0) (.cons (.con (.int 0)) .nil))) (.cons (.op .idx (.cons (.v 1) (.cons (.con (.int 1)) .nil))) .nil))) (.cons (.op .mul (.cons (.op .idx (.cons (.v 1) (.cons (.con (.int 0)) .nil))) (.cons (.op .idx (.cons (.v 0) (.cons (.con (.int 1)) .nil))) .nil))) .nil))) (.cons (.op .mul (.cons (.op .idx (.cons (.v 0) (.cons (.con (.int 1)) .nil))) (.cons (.op .idx (.cons (.v 1) (.cons (.con (.int 1)) .nil))) .nil))) .nil)))) .nil)
def df_plus : Def := ⟨2, 2, b_plus, false, false⟩
def b_times : CS := (.cons (.ret (.call f_lowest [0, 1] (.cons (.op .mul (.cons (.op .idx (.cons (.v 0) (.cons (.con (.int 0)) .nil))) (.cons (.op .idx (.cons (.v 1) (.cons (.con (.int 0)) .nil))) .nil))) (.cons (.op .mul (.cons (.op .idx (.cons (.v 0) (.cons (.con (.int 1)) .nil))) (.cons (.op .idx (.cons (.v 1) (.cons (.con (.int 1)) .nil))) .nil))) .nil)))) .nil)
def df_times : Def := ⟨2, 2, b_times, false, false⟩
def b_summed : CS := (.cons (.asg (.nm 1) (.op .tup (.cons (.con (.int 0)) (.cons (.con (.int 1)) .nil)))) (.cons (.for_ (.nm 2) (.iseq (.v 0)) (.cons (.asg (.nm 1) (.call f_plus [0, 1] (.cons (.v 1) (.cons (.v 2) .nil)))) .nil)) (.cons (.ret (.v 1)) .nil)))
def df_summed : Def := ⟨1, 3, b_summed, false, false⟩
def b_are_chances : CS := (.cons (.if_ (.or_ (.not_ (.op (.isi [.tlist]) (.cons (.v 0) .nil))) (.or_ (.op .ne (.cons (.op .len (.cons (.v 0) .nil)) (.cons (.v 1) .nil))) (.not_ (.op .all (.cons (.comp (.nm 2) (.iseq (.v 0)) .nil (.call f_is_amount [0] (.cons (.v 2) .nil))) .nil))))) (.cons (.ret (.con (.bl false))) .nil) .nil) (.cons (.ret (.op .eq (.cons (.call f_summed [0] (.cons (.v 0) .nil)) (.cons (.op .tup (.cons (.con (.int 1)) (.cons (.con (.int 1)) .nil))) .nil)))) .nil))
def df_are_chances : Def := ⟨2, 3, b_are_chances, false, false⟩
def b_product : CS := (.cons (.ret (.call f_summed [0] (.cons (.comp (.tp [2, 3]) (.izip true (.v 0) (.v 1)) .nil (.call f_times [0, 1] (.cons (.v 2) (.cons (.v 3) .nil)))) .nil))) .nil)
def df_product : Def := ⟨2, 4, b_product, false, false⟩
def b_is_look_by : CS := (.cons (.if_ (.or_ (.not_ (.op (.isi [.ttuple]) (.cons (.v 0) .nil))) (.or_ (.op .ne (.cons (.op .len (.cons (.v 0) .nil)) (.cons (.con (.int 2)) .nil))) (.or_ (.not_ (.op (.isi [.tstr]) (.cons (.op .idx (.cons (.v 0) (.cons (.con (.int 0)) .nil))) .nil))) (.op .ne (.cons (.op .idx (.cons (.v 0) (.cons (.con (.int 0)) .nil))) (.cons (.con (.str (PySem.Str.ofString "look"))) .nil)))))) (.cons (.ret (.con (.bl false))) .nil) .nil) (.cons (.asg (.nm 1) (.op .idx (.cons (.v 0) (.cons (.con (.int 1)) .nil)))) (.cons (.if_ (.or_ (.not_ (.op (.isi [.tlist]) (.cons (.v 1) .nil))) (.or_ (.not_ (.chain .le .le (.con (.int 1)) (.op .len (.cons (.v 1) .nil)) (.con (.int 6)))) (.not_ (.op (.isi [.tlist]) (.cons (.op .idx (.cons (.v 1) (.cons (.con (.int 0)) .nil))) .nil))))) (.cons (.ret (.con (.bl false))) .nil) .nil) (.cons (.ret (.and_ (.chain .le .le (.con (.int 1)) (.op .len (.cons (.op .idx (.cons (.v 1) (.cons (.con (.int 0)) .nil))) .nil)) (.con (.int 8))) (.op .all (.cons (.comp (.nm 2) (.iseq (.v 1)) .nil (.call f_are_chances [0, 1] (.cons (.v 2) (.cons (.op .len (.cons (.op .idx (.cons (.v 1) (.cons (.con (.int 0)) .nil))) .nil)) .nil)))) .nil)))) .nil))))
def df_is_look_by : Def := ⟨1, 3, b_is_look_by, false, false⟩
def b_check_look : CS := (.cons (.if_ (.not_ (.call f_is_look_by [0] (.cons (.v 0) .nil))) (.cons (.raise c_InvalidLook (.cons (.v 0) .nil)) .nil) .nil) .nil)
def df_check_look : Def := ⟨1, 1, b_check_look, false, false⟩
def b_marks_of : CS := (.cons (.ret (.op .len (.cons (.op .idx (.cons (.op .idx (.cons (.v 0) (.cons (.con (.int 1)) .nil))) (.cons (.con (.int 0)) .nil))) .nil))) .nil)
def df_marks_of : Def := ⟨1, 1, b_marks_of, false, false⟩
def b_is_table_by : CS := (.cons (.ret (.and_ (.op (.isi [.tlist]) (.cons (.v 0) .nil)) (.and_ (.op .eq (.cons (.op .len (.cons (.v 0) .nil)) (.cons (.v 1) .nil))) (.op .all (.cons (.comp (.nm 3) (.iseq (.v 0)) .nil (.call f_are_chances [0, 1] (.cons (.v 3) (.cons (.v 2) .nil)))) .nil))))) .nil)
def df_is_table_by : Def := ⟨3, 4, b_is_table_by, false, false⟩
def b_is_any_table : CS := (.cons (.if_ (.or_ (.not_ (.op (.isi [.tlist]) (.cons (.v 0) .nil))) (.or_ (.op .eq (.cons (.v 0) (.cons (.op .lst .nil) .nil))) (.or_ (.not_ (.op (.isi [.tlist]) (.cons (.op .idx (.cons (.v 0) (.cons (.con (.int 0)) .nil))) .nil))) (.not_ (.chain .le .le (.con (.int 1)) (.op .len (.cons (.op .idx (.cons (.v 0) (.cons (.con (.int 0)) .nil))) .nil)) (.v 1)))))) (.cons (.ret (.con (.bl false))) .nil) .nil) (.cons (.ret (.call f_is_table_by [0, 1, 2] (.cons (.v 0) (.cons (.op .len (.cons (.v 0) .nil)) (.cons (.op .len (.cons (.op .idx (.cons (.v 0) (.cons (.con (.int 0)) .nil))) .nil)) .nil))))) .nil))
def df_is_any_table : Def := ⟨2, 2, b_is_any_table, false, false⟩
def b_check_table : CS := (.cons (.if_ (.or_ (.not_ (.call f_is_any_table [0, 1] (.cons (.v 1) (.cons (.con (.int 8)) .nil)))) (.op .ne (.cons (.op .len (.cons (.v 1) .nil)) (.cons (.call f_marks_of [0] (.cons (.v 0) .nil)) .nil)))) (.cons (.raise c_InvalidTable (.cons (.v 1) .nil)) .nil) .nil) .nil)
def df_check_table : Def := ⟨2, 2, b_check_table, false, false⟩
def b_through : CS := (.cons (.ret (.comp (.nm 2) (.irng1 (.op .len (.cons (.op .idx (.cons (.v 1) (.cons (.con (.int 0)) .nil))) .nil))) .nil (.call f_product [0, 1] (.cons (.v 0) (.cons (.comp (.nm 3) (.iseq (.v 1)) .nil (.op .idx (.cons (.v 3) (.cons (.v 2) .nil)))) .nil))))) .nil)
def df_through : Def := ⟨2, 4, b_through, false, false⟩
def b_blurred_by : CS := (.cons (.ret (.op .tup (.cons (.con (.str (PySem.Str.ofString "look"))) (.cons (.comp (.nm 2) (.iseq (.op .idx (.cons (.v 0) (.cons (.con (.int 1)) .nil)))) .nil (.call f_through [0, 1] (.cons (.v 2) (.cons (.v 1) .nil)))) .nil)))) .nil)
def df_blurred_by : Def := ⟨2, 3, b_blurred_by, false, false⟩
def b_blurred : CS := (.cons (.ex (.call f_check_look [0] (.cons (.v 0) .nil))) (.cons (.ex (.call f_check_table [0, 1] (.cons (.v 0) (.cons (.v 1) .nil)))) (.cons (.ret (.call f_blurred_by [0, 1] (.cons (.v 0) (.cons (.v 1) .nil)))) .nil)))
def df_blurred : Def := ⟨2, 2, b_blurred, false, false⟩
def b_check_any_table : CS := (.cons (.if_ (.or_ (.not_ (.call f_is_any_table [0, 1] (.cons (.v 0) (.cons (.con (.int 8)) .nil)))) (.op .gt (.cons (.op .len (.cons (.v 0) .nil)) (.cons (.con (.int 8)) .nil)))) (.cons (.raise c_InvalidTable (.cons (.v 0) .nil)) .nil) .nil) .nil)
def df_check_any_table : Def := ⟨1, 1, b_check_any_table, false, false⟩
def b_tables_behind : CS := (.cons (.ex (.call f_check_any_table [0] (.cons (.v 0) .nil))) (.cons (.ex (.call f_check_any_table [0] (.cons (.v 1) .nil))) (.cons (.if_ (.op .ne (.cons (.op .len (.cons (.v 1) .nil)) (.cons (.op .len (.cons (.op .idx (.cons (.v 0) (.cons (.con (.int 0)) .nil))) .nil)) .nil))) (.cons (.raise c_Unlike (.cons (.v 1) .nil)) .nil) .nil) (.cons (.ret (.comp (.nm 2) (.iseq (.v 0)) .nil (.call f_through [0, 1] (.cons (.v 2) (.cons (.v 1) .nil))))) .nil))))
def df_tables_behind : Def := ⟨2, 3, b_tables_behind, false, false⟩
def b__law_hash : CS := (.cons (.asg (.nm 2) (.op .mod (.cons (.op .int_ (.cons (.op .add (.cons (.op .add (.cons (.op .add (.cons (.op .mul (.cons (.v 0) (.cons (.con (.int 1220147)) .nil))) (.cons (.op .mul (.cons (.op .mul (.cons (.con (.int 16777903)) (.cons (.v 1) .nil))) (.cons (.v 1) .nil))) .nil))) (.cons (.op .mul (.cons (.con (.int 223)) (.cons (.v 1) .nil))) .nil))) (.cons (.con (.int 97)) .nil))) .nil)) (.cons (.con (.int 2147483629)) .nil)))) (.cons (.asg (.nm 2) (.op .mod (.cons (.op .int_ (.cons (.op .add (.cons (.op .add (.cons (.op .mul (.cons (.v 2) (.cons (.v 2) .nil))) (.cons (.op .mul (.cons (.con (.int 69019)) (.cons (.v 1) .nil))) .nil))) (.cons (.con (.int 32416187)) .nil))) .nil)) (.cons (.con (.int 2147483587)) .nil)))) (.cons (.ret (.op .mod (.cons (.op .int_ (.cons (.op .mul (.cons (.v 2) (.cons (.con (.int 48271)) .nil))) .nil)) (.cons (.con (.int 2147483647)) .nil)))) .nil)))
def df__law_hash : Def := ⟨2, 3, b__law_hash, false, false⟩
def b__law_random : CS := (.cons (.if_ (.op .gt (.cons (.op .idx (.cons (.v 0) (.cons (.con (.int 0)) .nil))) (.cons (.con (.int 0)) .nil))) (.cons (.asg (.nm 2) (.op .mod (.cons (.op .int_ (.cons (.op .idx (.cons (.v 0) (.cons (.con (.int 0)) .nil))) .nil)) (.cons (.v 1) .nil)))) (.cons (.sub (.v 0) (.con (.int 0)) (.op .fdiv (.cons (.op .idx (.cons (.v 0) (.cons (.con (.int 0)) .nil))) (.cons (.v 1) .nil)))) (.cons (.ret (.v 2)) .nil))) .nil) (.cons (.asg (.nm 2) (.con (.int 0))) (.cons (.for_ (.nm 3) (.irng1 (.op .add (.cons (.con (.int 1)) (.cons (.op .fdiv (.cons (.op .bitlen (.cons (.v 1) .nil)) (.cons (.con (.int 30)) .nil))) .nil)))) (.cons (.sub (.v 0) (.con (.int 2)) (.op .add (.cons (.op .idx (.cons (.v 0) (.cons (.con (.int 2)) .nil))) (.cons (.con (.int 1)) .nil)))) (.cons (.asg (.nm 2) (.op .add (.cons (.op .mul (.cons (.v 2) (.cons (.con (.int 2147483587)) .nil))) (.cons (.call f__law_hash [0, 1] (.cons (.op .idx (.cons (.v 0) (.cons (.con (.int 1)) .nil))) (.cons (.op .idx (.cons (.v 0) (.cons (.con (.int 2)) .nil))) .nil))) .nil)))) .nil))) (.cons (.ret (.op .mod (.cons (.op .int_ (.cons (.v 2) .nil)) (.cons (.v 1) .nil)))) .nil))))
def df__law_random : Def := ⟨2, 4, b__law_random, false, false⟩
def b__law_cell : CS := (.cons (.if_ (.op .lt (.cons (.v 1) (.cons (.op .len (.cons (.v 0) .nil)) .nil))) (.cons (.ret (.op .idx (.cons (.v 0) (.cons (.v 1) .nil)))) .nil) .nil) (.cons (.ret (.op .mod (.cons (.op .sum1 (.cons (.op (.slc false true) (.cons (.v 0) (.cons (.con (.int 1)) .nil))) .nil)) (.cons (.con (.int 1000003)) .nil)))) .nil))
def df__law_cell : Def := ⟨2, 2, b__law_cell, false, false⟩
def b__law_generator : CS := (.cons (.asg (.nm 2) (.call f__law_cell [0, 1] (.cons (.v 0) (.cons (.v 1) .nil)))) (.cons (.ret (.cell (.op .lst (.cons (.op .mod (.cons (.op .int_ (.cons (.op .max2 (.cons (.op .sub (.cons (.v 2) (.cons (.op .pow (.cons (.con (.int 10)) (.cons (.con (.int 18)) .nil))) .nil))) (.cons (.con (.int 0)) .nil))) .nil)) (.cons (.op .pow (.cons (.op .pow (.cons (.con (.int 10)) (.cons (.con (.int 60)) .nil))) (.cons (.con (.int 10)) .nil))) .nil))) (.cons (.op .mod (.cons (.op .int_ (.cons (.v 2) .nil)) (.cons (.con (.int 2147483647)) .nil))) (.cons (.op .mul (.cons (.con (.int 1000)) (.cons (.v 1) .nil))) .nil)))))) .nil))
def df__law_generator : Def := ⟨2, 3, b__law_generator, true, false⟩
def b__law_pick : CS := (.cons (.ret (.op .idx (.cons (.v 1) (.cons (.call f__law_random [0, 1] (.cons (.v 0) (.cons (.op .len (.cons (.v 1) .nil)) .nil))) .nil)))) .nil)
def df__law_pick : Def := ⟨2, 2, b__law_pick, false, false⟩
def b__law_frac : CS := (.cons (.asg (.tp [2, 3]) (.op .tup (.cons (.v 1) (.cons (.op .abs (.cons (.v 0) .nil)) .nil)))) (.cons (.while_ (.op .gt (.cons (.v 3) (.cons (.con (.int 0)) .nil))) (.cons (.asg (.tp [2, 3]) (.op .tup (.cons (.v 3) (.cons (.op .mod (.cons (.op .int_ (.cons (.v 2) .nil)) (.cons (.v 3) .nil))) .nil)))) .nil)) (.cons (.ret (.op .tup (.cons (.op .fdiv (.cons (.v 0) (.cons (.v 2) .nil))) (.cons (.op .fdiv (.cons (.v 1) (.cons (.v 2) .nil))) .nil)))) .nil)))
def df__law_frac : Def := ⟨2, 4, b__law_frac, false, false⟩
def b__law_add : CS := (.cons (.ret (.call f__law_frac [0, 1] (.cons (.op .add (.cons (.op .mul (.cons (.op .idx (.cons (.v 0) (.cons (.con (.int 0)) .nil))) (.cons (.op .idx (.cons (.v 1) (.cons (.con (.int 1)) .nil))) .nil))) (.cons (.op .mul (.cons (.op .idx (.cons (.v 1) (.cons (.con (.int 0)) .nil))) (.cons (.op .idx (.cons (.v 0) (.cons (.con (.int 1)) .nil))) .nil))) .nil))) (.cons (.op .mul (.cons (.op .idx (.cons (.v 0) (.cons (.con (.int 1)) .nil))) (.cons (.op .idx (.cons (.v 1) (.cons (.con (.int 1)) .nil))) .nil))) .nil)))) .nil)
def df__law_add : Def := ⟨2, 2, b__law_add, false, false⟩
def b__law_mul : CS := (.cons (.ret (.call f__law_frac [0, 1] (.cons (.op .mul (.cons (.op .idx (.cons (.v 0) (.cons (.con (.int 0)) .nil))) (.cons (.op .idx (.cons (.v 1) (.cons (.con (.int 0)) .nil))) .nil))) (.cons (.op .mul (.cons (.op .idx (.cons (.v 0) (.cons (.con (.int 1)) .nil))) (.cons (.op .idx (.cons (.v 1) (.cons (.con (.int 1)) .nil))) .nil))) .nil)))) .nil)
def df__law_mul : Def := ⟨2, 2, b__law_mul, false, false⟩
def b__law_exact : CS := (.cons (.if_ (.op (.isi [.tlist, .ttuple]) (.cons (.v 0) .nil)) (.cons (.if_ (.or_ (.op .ne (.cons (.op (.isi [.tlist]) (.cons (.v 0) .nil)) (.cons (.op (.isi [.tlist]) (.cons (.v 1) .nil)) .nil))) (.op .ne (.cons (.op (.isi [.ttuple]) (.cons (.v 0) .nil)) (.cons (.op (.isi [.ttuple]) (.cons (.v 1) .nil)) .nil)))) (.cons (.ret (.con (.bl false))) .nil) .nil) (.cons (.ret (.and_ (.op .eq (.cons (.op .len (.cons (.v 1) .nil)) (.cons (.op .len (.cons (.v 0) .nil)) .nil))) (.op .eq (.cons (.comp (.nm 2) (.irng1 (.op .len (.cons (.v 0) .nil))) (.cons (.not_ (.call f__law_exact [0, 1] (.cons (.op .idx (.cons (.v 0) (.cons (.v 2) .nil))) (.cons (.op .idx (.cons (.v 1) (.cons (.v 2) .nil))) .nil)))) .nil) (.v 2)) (.cons (.op .lst .nil) .nil))))) .nil)) .nil) (.cons (.if_ (.or_ (.op .isn (.cons (.v 0) .nil)) (.op (.isi [.tbool]) (.cons (.v 0) .nil))) (.cons (.ret (.or_ (.and_ (.op .isn (.cons (.v 0) .nil)) (.op .isn (.cons (.v 1) .nil))) (.or_ (.and_ (.op (.isb true) (.cons (.v 0) .nil)) (.op (.isb true) (.cons (.v 1) .nil))) (.and_ (.op (.isb false) (.cons (.v 0) .nil)) (.op (.isb false) (.cons (.v 1) .nil)))))) .nil) .nil) (.cons (.if_ (.op (.isi [.tstr]) (.cons (.v 0) .nil)) (.cons (.ret (.and_ (.op (.isi [.tstr]) (.cons (.v 1) .nil)) (.op .eq (.cons (.v 1) (.cons (.v 0) .nil))))) .nil) .nil) (.cons (.ret (.and_ (.op (.isi [.tint]) (.cons (.v 1) .nil)) (.and_ (.not_ (.op (.isi [.tbool]) (.cons (.v 1) .nil))) (.op .eq (.cons (.v 1) (.cons (.v 0) .nil)))))) .nil))))
def df__law_exact : Def := ⟨2, 3, b__law_exact, false, false⟩
def b__law_lists : CS := (.cons (.asg (.nm 1) (.ite (.op (.isi [.tlist]) (.cons (.v 0) .nil)) (.op .lst (.cons (.v 0) .nil)) (.op .lst .nil))) (.cons (.for_ (.nm 2) (.iseq (.ite (.op (.isi [.tlist, .ttuple]) (.cons (.v 0) .nil)) (.v 0) (.op .lst .nil))) (.cons (.asg (.nm 1) (.op .add (.cons (.v 1) (.cons (.call f__law_lists [0] (.cons (.v 2) .nil)) .nil)))) .nil)) (.cons (.ret (.v 1)) .nil)))
def df__law_lists : Def := ⟨1, 3, b__law_lists, false, false⟩
def b__law_own : CS := (.cons (.asg (.tp [4, 5]) (.op .tup (.cons (.op .repr (.cons (.v 2) .nil)) (.cons (.call f__law_lists [0] (.cons (.v 1) .nil)) .nil)))) (.cons (.for_ (.nm 3) (.irng1 (.op .min2 (.cons (.con (.int 6)) (.cons (.op .len (.cons (.v 5) .nil)) .nil)))) (.cons (.asg (.nm 6) (.op .idx (.cons (.v 5) (.cons (.call f__law_random [0, 1] (.cons (.v 0) (.cons (.op .len (.cons (.v 5) .nil)) .nil))) .nil)))) (.cons (.ex (.mop .append (.v 6) (.cons (.con (.str (PySem.Str.ofString "mark"))) .nil))) (.cons (.if_ (.or_ (.op .ne (.cons (.op (.scnt (PySem.Str.ofString "'mark'")) (.cons (.op .repr (.cons (.v 1) .nil)) .nil)) (.cons (.con (.int 1)) .nil))) (.op .ne (.cons (.op .repr (.cons (.v 2) .nil)) (.cons (.v 4) .nil)))) (.cons (.ret (.con (.bl false))) .nil) .nil) (.cons (.ex (.mop .pop (.v 6) .nil)) .nil))))) (.cons (.ret (.con (.bl true))) .nil)))
def df__law_own : Def := ⟨3, 7, b__law_own, false, false⟩
def b__law_chances : CS := (.cons (.asg (.nm 2) (.comp (.nm 4) (.irng1 (.v 1)) .nil (.call f__law_pick [0, 1] (.cons (.v 0) (.cons (.op .lst (.cons (.con (.int 0)) (.cons (.con (.int 1)) (.cons (.con (.int 1)) (.cons (.con (.int 2)) (.cons (.con (.int 3)) .nil)))))) .nil))))) (.cons (.asg (.nm 3) (.op .sum1 (.cons (.v 2) .nil))) (.cons (.ret (.ite (.op .gt (.cons (.v 3) (.cons (.con (.int 0)) .nil))) (.comp (.nm 5) (.iseq (.v 2)) .nil (.call f__law_frac [0, 1] (.cons (.v 5) (.cons (.v 3) .nil)))) (.op .add (.cons (.op .lst (.cons (.op .tup (.cons (.con (.int 1)) (.cons (.con (.int 1)) .nil))) .nil)) (.cons (.op .mul (.cons (.op .lst (.cons (.op .tup (.cons (.con (.int 0)) (.cons (.con (.int 1)) .nil))) .nil)) (.cons (.op .sub (.cons (.v 1) (.cons (.con (.int 1)) .nil))) .nil))) .nil))))) .nil)))
def df__law_chances : Def := ⟨2, 6, b__law_chances, false, false⟩
def b__law_look : CS := (.cons (.ret (.op .tup (.cons (.con (.str (PySem.Str.ofString "look"))) (.cons (.comp (.nm 3) (.irng1 (.v 1)) .nil (.call f__law_chances [0, 1] (.cons (.v 0) (.cons (.v 2) .nil)))) .nil)))) .nil)
def df__law_look : Def := ⟨3, 4, b__law_look, false, false⟩
def b__law_table : CS := (.cons (.ret (.comp (.nm 3) (.irng1 (.v 1)) .nil (.call f__law_chances [0, 1] (.cons (.v 0) (.cons (.v 2) .nil))))) .nil)
def df__law_table : Def := ⟨3, 4, b__law_table, false, false⟩
def b__law_total : CS := (.cons (.asg (.nm 1) (.op .tup (.cons (.con (.int 0)) (.cons (.con (.int 1)) .nil)))) (.cons (.for_ (.nm 2) (.iseq (.v 0)) (.cons (.asg (.nm 1) (.call f__law_add [0, 1] (.cons (.v 1) (.cons (.v 2) .nil)))) .nil)) (.cons (.ret (.v 1)) .nil)))
def df__law_total : Def := ⟨1, 3, b__law_total, false, false⟩
def b__law_product : CS := (.cons (.ret (.call f__law_total [0] (.cons (.comp (.tp [2, 3]) (.izip false (.v 0) (.v 1)) .nil (.call f__law_mul [0, 1] (.cons (.v 2) (.cons (.v 3) .nil)))) .nil))) .nil)
def df__law_product : Def := ⟨2, 4, b__law_product, false, false⟩
def b__law_blurred : CS := (.cons (.ret (.op .tup (.cons (.con (.str (PySem.Str.ofString "look"))) (.cons (.comp (.nm 2) (.iseq (.op .idx (.cons (.v 0) (.cons (.con (.int 1)) .nil)))) .nil (.comp (.nm 3) (.irng1 (.op .len (.cons (.op .idx (.cons (.v 1) (.cons (.con (.int 0)) .nil))) .nil))) .nil (.call f__law_product [0, 1] (.cons (.v 2) (.cons (.comp (.nm 4) (.iseq (.v 1)) .nil (.op .idx (.cons (.v 4) (.cons (.v 3) .nil)))) .nil))))) .nil)))) .nil)
def df__law_blurred : Def := ⟨2, 5, b__law_blurred, false, false⟩
def b__law_bad_look : CS := (.cons (.asg (.nm 2) (.op .idx (.cons (.v 1) (.cons (.con (.int 1)) .nil)))) (.cons (.asg (.nm 3) (.op .lst (.cons (.con .none) (.cons (.op .tup .nil) (.cons (.op .list (.cons (.v 1) .nil)) (.cons (.op .tup (.cons (.con (.str (PySem.Str.ofString "Look"))) (.cons (.v 2) .nil))) (.cons (.op .tup (.cons (.con (.str (PySem.Str.ofString "look"))) .nil)) (.cons (.op .tup (.cons (.con (.str (PySem.Str.ofString "look"))) (.cons (.v 2) (.cons (.v 2) .nil)))) (.cons (.op .tup (.cons (.con (.str (PySem.Str.ofString "look"))) (.cons (.op .lst .nil) .nil))) (.cons (.op .tup (.cons (.con (.str (PySem.Str.ofString "look"))) (.cons (.op .tuple (.cons (.v 2) .nil)) .nil))) .nil)))))))))) (.cons (.asg (.nm 3) (.op .add (.cons (.v 3) (.cons (.op .lst (.cons (.op .tup (.cons (.con (.str (PySem.Str.ofString "look"))) (.cons (.op .mul (.cons (.op .lst (.cons (.op .lst .nil) .nil)) (.cons (.op .len (.cons (.v 2) .nil)) .nil))) .nil))) (.cons (.op .tup (.cons (.con (.str (PySem.Str.ofString "look"))) (.cons (.op .mul (.cons (.v 2) (.cons (.con (.int 7)) .nil))) .nil))) (.cons (.op .tup (.cons (.con (.str (PySem.Str.ofString "look"))) (.cons (.op .lst (.cons (.op .mul (.cons (.op .idx (.cons (.v 2) (.cons (.con (.int 0)) .nil))) (.cons (.con (.int 9)) .nil))) .nil)) .nil))) .nil)))) .nil)))) (.cons (.asg (.nm 4) (.op .lst (.cons (.op .add (.cons (.op .idx (.cons (.v 2) (.cons (.con (.int 0)) .nil))) (.cons (.op .lst (.cons (.op .tup (.cons (.con (.int 0)) (.cons (.con (.int 1)) .nil))) .nil)) .nil))) (.cons (.op .add (.cons (.op (.slc true false) (.cons (.op .idx (.cons (.v 2) (.cons (.con (.int 0)) .nil))) (.cons (.con (.int 1)) .nil))) (.cons (.op .lst (.cons (.op .tup (.cons (.con (.int 1)) (.cons (.con (.int 97)) .nil))) .nil)) .nil))) (.cons (.op .tuple (.cons (.op .idx (.cons (.v 2) (.cons (.con (.int 0)) .nil))) .nil)) (.cons (.con .none) (.cons (.op .mul (.cons (.op .lst (.cons (.con (.int 1)) .nil)) (.cons (.op .len (.cons (.op .idx (.cons (.v 2) (.cons (.con (.int 0)) .nil))) .nil)) .nil))) (.cons (.op .mul (.cons (.op .lst (.cons (.op .tup (.cons (.con (.int 2)) (.cons (.con (.int 2)) .nil))) .nil)) (.cons (.op .len (.cons (.op .idx (.cons (.v 2) (.cons (.con (.int 0)) .nil))) .nil)) .nil))) (.cons (.op .mul (.cons (.op .lst (.cons (.op .tup (.cons (.con (.int 1)) (.cons (.con (.int 1)) .nil))) .nil)) (.cons (.op .add (.cons (.op .len (.cons (.op .idx (.cons (.v 2) (.cons (.con (.int 0)) .nil))) .nil)) (.cons (.con (.int 1)) .nil))) .nil))) .nil))))))))) (.cons (.asg (.nm 4) (.op .add (.cons (.v 4) (.cons (.op .lst (.cons (.ite (.op .gt (.cons (.op .len (.cons (.op .idx (.cons (.v 2) (.cons (.con (.int 0)) .nil))) .nil)) (.cons (.con (.int 1)) .nil))) (.op .add (.cons (.op .lst (.cons (.op .tup (.cons (.op .sub (.cons (.con (.int 0)) (.cons (.con (.int 1)) .nil))) (.cons (.con (.int 1)) .nil))) (.cons (.op .tup (.cons (.con (.int 2)) (.cons (.con (.int 1)) .nil))) .nil))) (.cons (.op .mul (.cons (.op .lst (.cons (.op .tup (.cons (.con (.int 0)) (.cons (.con (.int 1)) .nil))) .nil)) (.cons (.op .sub (.cons (.op .len (.cons (.op .idx (.cons (.v 2) (.cons (.con (.int 0)) .nil))) .nil)) (.cons (.con (.int 2)) .nil))) .nil))) .nil))) (.op .lst (.cons (.op .tup (.cons (.con (.int 1)) (.cons (.con (.int 2)) .nil))) .nil))) (.cons (.op .add (.cons (.op (.slc false true) (.cons (.op .idx (.cons (.v 2) (.cons (.con (.int 0)) .nil))) (.cons (.op .neg (.cons (.con (.int 1)) .nil)) .nil))) (.cons (.op .lst (.cons (.con .none) .nil)) .nil))) .nil))) .nil)))) (.cons (.asg (.nm 5) (.op .add (.cons (.comp (.nm 6) (.iseq (.op (.slc true false) (.cons (.v 4) (.cons (.con (.int 1)) .nil)))) .nil (.op .tup (.cons (.con (.str (PySem.Str.ofString "look"))) (.cons (.op .add (.cons (.op (.slc false true) (.cons (.v 2) (.cons (.op .neg (.cons (.con (.int 1)) .nil)) .nil))) (.cons (.op .lst (.cons (.v 6) .nil)) .nil))) .nil)))) (.cons (.op .lst (.cons (.op .tup (.cons (.con (.str (PySem.Str.ofString "look"))) (.cons (.op .add (.cons (.v 2) (.cons (.op .lst (.cons (.op .idx (.cons (.v 4) (.cons (.con (.int 0)) .nil))) .nil)) .nil))) .nil))) .nil)) .nil)))) (.cons (.if_ (.op .lt (.cons (.op .len (.cons (.v 2) .nil)) (.cons (.con (.int 5)) .nil))) (.cons (.asg (.nm 5) (.op .add (.cons (.v 5) (.cons (.comp (.nm 6) (.iseq (.v 4)) .nil (.op .tup (.cons (.con (.str (PySem.Str.ofString "look"))) (.cons (.op .add (.cons (.op .lst (.cons (.op .idx (.cons (.v 2) (.cons (.con (.int 0)) .nil))) (.cons (.v 6) .nil))) (.cons (.v 2) .nil))) .nil)))) .nil)))) .nil) .nil) (.cons (.ret (.call f__law_pick [0, 1] (.cons (.v 0) (.cons (.op .add (.cons (.v 3) (.cons (.v 5) .nil))) .nil)))) .nil))))))))
def df__law_bad_look : Def := ⟨2, 7, b__law_bad_look, false, false⟩
def b__law_caught : CS := (.cons (.asg (.tp [4, 5]) (.op .tup (.cons (.con .none) (.cons (.op .repr (.cons (.v 1) .nil)) .nil)))) (.cons (.try_ (.cons (.ex (.ite (.op .eq (.cons (.v 0) (.cons (.con (.int 0)) .nil))) (.call f_blurred [0, 1] (.cons (.op .idx (.cons (.v 1) (.cons (.con (.int 0)) .nil))) (.cons (.op .idx (.cons (.v 1) (.cons (.con (.int 1)) .nil))) .nil))) (.call f_tables_behind [0, 1] (.cons (.op .idx (.cons (.v 1) (.cons (.con (.int 1)) .nil))) (.cons (.op .idx (.cons (.v 1) (.cons (.con (.int 2)) .nil))) .nil))))) .nil) c_LookError 2 (.cons (.asg (.nm 4) (.v 2)) .nil)) (.cons (.if_ (.or_ (.op .isn (.cons (.v 4) .nil)) (.op .ne (.cons (.op .repr (.cons (.v 1) .nil)) (.cons (.v 5) .nil)))) (.cons (.ret (.con (.str (PySem.Str.ofString "none")))) .nil) .nil) (.cons (.asg (.nm 3) (.op .lst (.cons (.op (.isi [.tcls c_InvalidLook]) (.cons (.v 4) .nil)) (.cons (.op (.isi [.tcls c_InvalidTable]) (.cons (.v 4) .nil)) (.cons (.op (.isi [.tcls c_Unlike]) (.cons (.v 4) .nil)) .nil))))) (.cons (.ret (.op .repr (.cons (.op .add (.cons (.v 3) (.cons (.op .lst (.cons (.op .attr (.cons (.v 4) .nil)) .nil)) .nil))) .nil))) .nil)))))
def df__law_caught : Def := ⟨2, 6, b__law_caught, false, false⟩
def b__law_behind_both : CS := (.cons (.ret (.comp (.nm 2) (.iseq (.v 0)) .nil (.comp (.nm 3) (.irng1 (.op .len (.cons (.op .idx (.cons (.v 1) (.cons (.con (.int 0)) .nil))) .nil))) .nil (.call f__law_product [0, 1] (.cons (.v 2) (.cons (.comp (.nm 4) (.iseq (.v 1)) .nil (.op .idx (.cons (.v 4) (.cons (.v 3) .nil)))) .nil)))))) .nil)
def df__law_behind_both : Def := ⟨2, 5, b__law_behind_both, false, false⟩
def b__law_bad_table : CS := (.cons (.asg (.nm 2) (.cell (.op .lst (.cons (.con .none) (.cons (.op .tup .nil) (.cons (.op .lst .nil) (.cons (.op .tuple (.cons (.v 1) .nil)) (.cons (.op .add (.cons (.op (.slc false true) (.cons (.v 1) (.cons (.op .neg (.cons (.con (.int 1)) .nil)) .nil))) (.cons (.op .lst (.cons (.con .none) .nil)) .nil))) (.cons (.op .add (.cons (.op (.slc false true) (.cons (.v 1) (.cons (.op .neg (.cons (.con (.int 1)) .nil)) .nil))) (.cons (.op .lst (.cons (.op .tuple (.cons (.op .idx (.cons (.v 1) (.cons (.op .neg (.cons (.con (.int 1)) .nil)) .nil))) .nil)) .nil)) .nil))) (.cons (.op .mul (.cons (.op .lst (.cons (.op .lst .nil) .nil)) (.cons (.op .len (.cons (.v 1) .nil)) .nil))) .nil)))))))))) (.cons (.ex (.mop .append (.v 2) (.cons (.ite (.op .gt (.cons (.op .len (.cons (.v 1) .nil)) (.cons (.con (.int 1)) .nil))) (.op .add (.cons (.comp (.nm 4) (.iseq (.op (.slc false true) (.cons (.v 1) (.cons (.op .neg (.cons (.con (.int 1)) .nil)) .nil)))) .nil (.op .add (.cons (.v 4) (.cons (.op .lst (.cons (.op .tup (.cons (.con (.int 0)) (.cons (.con (.int 1)) .nil))) .nil)) .nil)))) (.cons (.op .lst (.cons (.op .idx (.cons (.v 1) (.cons (.op .neg (.cons (.con (.int 1)) .nil)) .nil))) .nil)) .nil))) (.op .lst (.cons (.op .lst (.cons (.op .tup (.cons (.con (.int 1)) (.cons (.con (.int 2)) .nil))) .nil)) .nil))) .nil))) (.cons (.asg (.nm 2) (.cell (.op .add (.cons (.v 2) (.cons (.op .lst (.cons (.op .add (.cons (.op (.slc false true) (.cons (.v 1) (.cons (.op .neg (.cons (.con (.int 1)) .nil)) .nil))) (.cons (.op .lst (.cons (.op .add (.cons (.op (.slc true false) (.cons (.op .idx (.cons (.v 1) (.cons (.op .neg (.cons (.con (.int 1)) .nil)) .nil))) (.cons (.con (.int 1)) .nil))) (.cons (.op .lst (.cons (.op .tup (.cons (.con (.int 1)) (.cons (.con (.int 97)) .nil))) .nil)) .nil))) .nil)) .nil))) (.cons (.op .mul (.cons (.op .lst (.cons (.op .add (.cons (.op .lst (.cons (.op .tup (.cons (.con (.int 1)) (.cons (.con (.int 1)) .nil))) .nil)) (.cons (.op .mul (.cons (.op .lst (.cons (.op .tup (.cons (.con (.int 0)) (.cons (.con (.int 1)) .nil))) .nil)) (.cons (.con (.int 8)) .nil))) .nil))) .nil)) (.cons (.op .len (.cons (.v 1) .nil)) .nil))) (.cons (.op .add (.cons (.op (.slc false true) (.cons (.v 1) (.cons (.op .neg (.cons (.con (.int 1)) .nil)) .nil))) (.cons (.op .lst (.cons (.op .mul (.cons (.op .lst (.cons (.con (.int 1)) .nil)) (.cons (.op .len (.cons (.op .idx (.cons (.v 1) (.cons (.con (.int 0)) .nil))) .nil)) .nil))) .nil)) .nil))) (.cons (.op .mul (.cons (.op .lst (.cons (.op .tup (.cons (.con (.int 1)) (.cons (.con (.int 1)) .nil))) .nil)) (.cons (.op .len (.cons (.v 1) .nil)) .nil))) (.cons (.con .dct) .nil)))))) .nil))))) (.cons (.asg (.nm 3) (.op .len (.cons (.op .idx (.cons (.v 1) (.cons (.con (.int 0)) .nil))) .nil))) (.cons (.asg (.nm 2) (.cell (.op .add (.cons (.v 2) (.cons (.op .lst (.cons (.op .add (.cons (.op .lst (.cons (.con .none) .nil)) (.cons (.op (.slc true false) (.cons (.v 1) (.cons (.con (.int 1)) .nil))) .nil))) (.cons (.op .add (.cons (.op .lst (.cons (.op .add (.cons (.op .lst (.cons (.op .tup (.cons (.con (.int 1)) (.cons (.con (.int 2)) .nil))) .nil)) (.cons (.op .mul (.cons (.op .lst (.cons (.op .tup (.cons (.con (.int 0)) (.cons (.con (.int 1)) .nil))) .nil)) (.cons (.op .sub (.cons (.v 3) (.cons (.con (.int 1)) .nil))) .nil))) .nil))) .nil)) (.cons (.op (.slc true false) (.cons (.v 1) (.cons (.con (.int 1)) .nil))) .nil))) .nil))) .nil))))) (.cons (.asg (.nm 2) (.cell (.op .add (.cons (.v 2) (.cons (.op .mul (.cons (.op .lst (.cons (.op .add (.cons (.op .lst (.cons (.op .add (.cons (.op .lst (.cons (.op .tup (.cons (.op .sub (.cons (.con (.int 0)) (.cons (.con (.int 1)) .nil))) (.cons (.con (.int 1)) .nil))) (.cons (.op .tup (.cons (.con (.int 2)) (.cons (.con (.int 1)) .nil))) .nil))) (.cons (.op .mul (.cons (.op .lst (.cons (.op .tup (.cons (.con (.int 0)) (.cons (.con (.int 1)) .nil))) .nil)) (.cons (.op .sub (.cons (.v 3) (.cons (.con (.int 2)) .nil))) .nil))) .nil))) .nil)) (.cons (.op (.slc true false) (.cons (.v 1) (.cons (.con (.int 1)) .nil))) .nil))) .nil)) (.cons (.op .int_ (.cons (.op .gt (.cons (.v 3) (.cons (.con (.int 1)) .nil))) .nil)) .nil))) .nil))))) (.cons (.ret (.call f__law_pick [0, 1] (.cons (.v 0) (.cons (.v 2) .nil)))) .nil)))))))
def df__law_bad_table : Def := ⟨2, 5, b__law_bad_table, false, false⟩
def b_law : CS := (.cons (.for_ (.nm 1) (.irng1 (.con (.int 4))) (.cons (.asg (.nm 2) (.call f__law_generator [0, 1] (.cons (.v 0) (.cons (.v 1) .nil)))) (.cons (.asg (.nm 3) (.call f__law_look [0, 1, 2] (.cons (.v 2) (.cons (.op .add (.cons (.con (.int 1)) (.cons (.call f__law_random [0, 1] (.cons (.v 2) (.cons (.con (.int 4)) .nil))) .nil))) (.cons (.op .add (.cons (.con (.int 1)) (.cons (.call f__law_random [0, 1] (.cons (.v 2) (.cons (.con (.int 5)) .nil))) .nil))) .nil))))) (.cons (.asg (.nm 4) (.call f__law_table [0, 1, 2] (.cons (.v 2) (.cons (.op .len (.cons (.op .idx (.cons (.op .idx (.cons (.v 3) (.cons (.con (.int 1)) .nil))) (.cons (.con (.int 0)) .nil))) .nil)) (.cons (.op .add (.cons (.con (.int 1)) (.cons (.call f__law_random [0, 1] (.cons (.v 2) (.cons (.con (.int 5)) .nil))) .nil))) .nil))))) (.cons (.asg (.nm 5) (.call f__law_table [0, 1, 2] (.cons (.v 2) (.cons (.op .len (.cons (.op .idx (.cons (.v 4) (.cons (.con (.int 0)) .nil))) .nil)) (.cons (.op .add (.cons (.con (.int 1)) (.cons (.call f__law_random [0, 1] (.cons (.v 2) (.cons (.con (.int 5)) .nil))) .nil))) .nil))))) (.cons (.asg (.tp [12, 13]) (.op .tup (.cons (.op .repr (.cons (.op .lst (.cons (.v 3) (.cons (.v 4) (.cons (.v 5) .nil)))) .nil)) (.cons (.call f__law_behind_both [0, 1] (.cons (.v 4) (.cons (.v 5) .nil))) .nil)))) (.cons (.asg (.nm 6) (.op .lst (.cons (.call f__law_blurred [0, 1] (.cons (.v 3) (.cons (.v 4) .nil))) (.cons (.v 13) (.cons (.call f__law_blurred [0, 1] (.cons (.call f__law_blurred [0, 1] (.cons (.v 3) (.cons (.v 4) .nil))) (.cons (.v 5) .nil))) .nil))))) (.cons (.asg (.nm 7) (.cell (.op .lst (.cons (.call f_blurred_d [0, 1] (.cons (.v 3) (.cons (.v 4) .nil))) (.cons (.call f_tables_behind_d [0, 1] (.cons (.v 4) (.cons (.v 5) .nil))) (.cons (.call f_blurred_d [0, 1] (.cons (.v 3) (.cons (.v 13) .nil))) .nil)))))) (.cons (.asg (.nm 8) (.op .lst (.cons (.call f_blurred [1, 0] (.cons (.v 4) (.cons (.v 3) .nil))) (.cons (.call f_tables_behind [1, 0] (.cons (.v 5) (.cons (.v 4) .nil))) (.cons (.call f_blurred [0, 1] (.cons (.call f_blurred [0, 1] (.cons (.v 3) (.cons (.v 4) .nil))) (.cons (.v 5) .nil))) .nil))))) (.cons (.if_ (.or_ (.not_ (.call f__law_exact [0, 1] (.cons (.op .lst (.cons (.v 6) (.cons (.v 6) .nil))) (.cons (.op .lst (.cons (.v 7) (.cons (.v 8) .nil))) .nil)))) (.not_ (.call f__law_own [0, 1, 2] (.cons (.v 2) (.cons (.v 7) (.cons (.op .lst (.cons (.v 3) (.cons (.v 4) (.cons (.v 5) .nil)))) .nil)))))) (.cons (.ret (.con (.bl false))) .nil) .nil) (.cons (.asg (.tp [14, 15]) (.op .tup (.cons (.call f__law_bad_look [0, 1] (.cons (.v 2) (.cons (.v 3) .nil))) (.cons (.call f__law_bad_table [0, 1] (.cons (.v 2) (.cons (.v 4) .nil))) .nil)))) (.cons (.asg (.nm 9) (.cell (.op .lst (.cons (.op .tup (.cons (.con (.int 0)) (.cons (.op .tup (.cons (.v 14) (.cons (.v 15) .nil))) (.cons (.op .lst (.cons (.con (.bl true)) (.cons (.con (.bl false)) (.cons (.con (.bl false)) (.cons (.v 14) .nil))))) .nil)))) (.cons (.op .tup (.cons (.con (.int 0)) (.cons (.op .tup (.cons (.v 3) (.cons (.v 15) .nil))) (.cons (.op .lst (.cons (.con (.bl false)) (.cons (.con (.bl true)) (.cons (.con (.bl false)) (.cons (.v 15) .nil))))) .nil)))) (.cons (.op .tup (.cons (.con (.int 1)) (.cons (.op .tup (.cons (.con .none) (.cons (.v 15) (.cons (.con (.str (PySem.Str.ofString "x"))) .nil)))) (.cons (.op .lst (.cons (.con (.bl false)) (.cons (.con (.bl true)) (.cons (.con (.bl false)) (.cons (.v 15) .nil))))) .nil)))) .nil)))))) (.cons (.asg (.nm 9) (.cell (.op .add (.cons (.v 9) (.cons (.op .lst (.cons (.op .tup (.cons (.con (.int 0)) (.cons (.op .tup (.cons (.v 3) (.cons (.op .add (.cons (.v 4) (.cons (.v 4) .nil))) .nil))) (.cons (.op .lst (.cons (.con (.bl false)) (.cons (.con (.bl true)) (.cons (.con (.bl false)) (.cons (.op .add (.cons (.v 4) (.cons (.v 4) .nil))) .nil))))) .nil)))) (.cons (.op .tup (.cons (.con (.int 1)) (.cons (.op .tup (.cons (.con .none) (.cons (.v 4) (.cons (.v 15) .nil)))) (.cons (.op .lst (.cons (.con (.bl false)) (.cons (.con (.bl true)) (.cons (.con (.bl false)) (.cons (.v 15) .nil))))) .nil)))) .nil))) .nil))))) (.cons (.ex (.mop .append (.v 9) (.cons (.op .tup (.cons (.con (.int 1)) (.cons (.op .tup (.cons (.con .none) (.cons (.v 4) (.cons (.op .add (.cons (.v 5) (.cons (.op .lst (.cons (.op .idx (.cons (.v 5) (.cons (.con (.int 0)) .nil))) .nil)) .nil))) .nil)))) (.cons (.op .lst (.cons (.con (.bl false)) (.cons (.con (.bl false)) (.cons (.con (.bl true)) (.cons (.op .add (.cons (.v 5) (.cons (.op .lst (.cons (.op .idx (.cons (.v 5) (.cons (.con (.int 0)) .nil))) .nil)) .nil))) .nil))))) .nil)))) .nil))) (.cons (.asg (.nm 9) (.cell (.op .add (.cons (.v 9) (.cons (.op .mul (.cons (.op .lst (.cons (.op .tup (.cons (.con (.int 0)) (.cons (.op .tup (.cons (.v 3) (.cons (.op (.slc true false) (.cons (.v 4) (.cons (.con (.int 1)) .nil))) .nil))) (.cons (.op .lst (.cons (.con (.bl false)) (.cons (.con (.bl true)) (.cons (.con (.bl false)) (.cons (.op (.slc true false) (.cons (.v 4) (.cons (.con (.int 1)) .nil))) .nil))))) .nil)))) .nil)) (.cons (.op .int_ (.cons (.op .gt (.cons (.op .len (.cons (.v 4) .nil)) (.cons (.con (.int 1)) .nil))) .nil)) .nil))) .nil))))) (.cons (.asg (.nm 10) (.call f__law_table [0, 1, 2] (.cons (.v 2) (.cons (.con (.int 8)) (.cons (.con (.int 8)) .nil))))) (.cons (.asg (.nm 11) (.op .add (.cons (.v 10) (.cons (.op (.slc false true) (.cons (.v 10) (.cons (.con (.int 1)) .nil))) .nil)))) (.cons (.asg (.nm 9) (.cell (.op .add (.cons (.v 9) (.cons (.op .lst (.cons (.op .tup (.cons (.con (.int 1)) (.cons (.op .tup (.cons (.con .none) (.cons (.v 11) (.cons (.con (.str (PySem.Str.ofString "x"))) .nil)))) (.cons (.op .lst (.cons (.con (.bl false)) (.cons (.con (.bl true)) (.cons (.con (.bl false)) (.cons (.v 11) .nil))))) .nil)))) (.cons (.op .tup (.cons (.con (.int 1)) (.cons (.op .tup (.cons (.con .none) (.cons (.v 4) (.cons (.v 11) .nil)))) (.cons (.op .lst (.cons (.con (.bl false)) (.cons (.con (.bl true)) (.cons (.con (.bl false)) (.cons (.v 11) .nil))))) .nil)))) .nil))) .nil))))) (.cons (.if_ (.not_ (.call f__law_exact [0, 1] (.cons (.call f__law_behind_both [0, 1] (.cons (.v 10) (.cons (.v 10) .nil))) (.cons (.call f_tables_behind [0, 1] (.cons (.v 10) (.cons (.v 10) .nil))) .nil)))) (.cons (.ret (.con (.bl false))) .nil) .nil) (.cons (.if_ (.or_ (.op .ne (.cons (.comp (.nm 16) (.iseq (.v 9)) (.cons (.op .ne (.cons (.call f__law_caught [0, 1] (.cons (.op .idx (.cons (.v 16) (.cons (.con (.int 0)) .nil))) (.cons (.op .idx (.cons (.v 16) (.cons (.con (.int 1)) .nil))) .nil))) (.cons (.op .repr (.cons (.op .idx (.cons (.v 16) (.cons (.con (.int 2)) .nil))) .nil)) .nil))) .nil) (.v 16)) (.cons (.op .lst .nil) .nil))) (.op .ne (.cons (.op .repr (.cons (.op .lst (.cons (.v 3) (.cons (.v 4) (.cons (.v 5) .nil)))) .nil)) (.cons (.v 12) .nil)))) (.cons (.ret (.con (.bl false))) .nil) .nil) .nil)))))))))))))))))))) (.cons (.ret (.con (.bl true))) .nil))
def df_law : Def := ⟨1, 17, b_law, false, false⟩
def b_blurred_d : CS := (.cons (.ex (.call f_check_look [0] (.cons (.v 0) .nil))) (.cons (.ex (.call f_check_table [0, 1] (.cons (.v 0) (.cons (.v 1) .nil)))) (.cons (.ret (.call f_blurred_by_d [0, 1] (.cons (.v 0) (.cons (.v 1) .nil)))) .nil)))
def df_blurred_d : Def := ⟨2, 2, b_blurred_d, false, true⟩
def b_tables_behind_d : CS := (.cons (.ex (.call f_check_any_table [0] (.cons (.v 0) .nil))) (.cons (.ex (.call f_check_any_table [0] (.cons (.v 1) .nil))) (.cons (.if_ (.op .ne (.cons (.op .len (.cons (.v 1) .nil)) (.cons (.op .len (.cons (.op .idx (.cons (.v 0) (.cons (.con (.int 0)) .nil))) .nil)) .nil))) (.cons (.raise c_Unlike (.cons (.v 1) .nil)) .nil) .nil) (.cons (.ret (.cell (.comp (.nm 2) (.iseq (.v 0)) .nil (.call f_through_d [0, 1] (.cons (.v 2) (.cons (.v 1) .nil)))))) .nil))))
def df_tables_behind_d : Def := ⟨2, 3, b_tables_behind_d, false, true⟩
def b_blurred_by_d : CS := (.cons (.ret (.op .tup (.cons (.con (.str (PySem.Str.ofString "look"))) (.cons (.cell (.comp (.nm 2) (.iseq (.op .idx (.cons (.v 0) (.cons (.con (.int 1)) .nil)))) .nil (.call f_through_d [0, 1] (.cons (.v 2) (.cons (.v 1) .nil))))) .nil)))) .nil)
def df_blurred_by_d : Def := ⟨2, 3, b_blurred_by_d, false, true⟩
def b_through_d : CS := (.cons (.ret (.cell (.comp (.nm 2) (.irng1 (.op .len (.cons (.op .idx (.cons (.v 1) (.cons (.con (.int 0)) .nil))) .nil))) .nil (.call f_product [0, 1] (.cons (.v 0) (.cons (.comp (.nm 3) (.iseq (.v 1)) .nil (.op .idx (.cons (.v 3) (.cons (.v 2) .nil)))) .nil)))))) .nil)
def df_through_d : Def := ⟨2, 4, b_through_d, false, true⟩
def dfL0 : List Def := [df_is_whole, df_common_divisor, df_lowest, df_is_fraction, df_is_amount, df_plus, df_times, df_summed, df_are_chances, df_product, df_is_look_by, df_check_look, df_marks_of, df_is_table_by, df_is_any_table]
def dfL1 : List Def := [df_check_table, df_through, df_blurred_by, df_blurred, df_check_any_table, df_tables_behind, df__law_hash, df__law_random, df__law_cell, df__law_generator, df__law_pick, df__law_frac, df__law_add, df__law_mul, df__law_exact]
def dfL2 : List Def := [df__law_lists, df__law_own, df__law_chances, df__law_look, df__law_table, df__law_total, df__law_product, df__law_blurred, df__law_bad_look, df__law_caught, df__law_behind_both, df__law_bad_table, df_law, df_blurred_d, df_tables_behind_d]
def dfL3 : List Def := [df_blurred_by_d, df_through_d]
def dfL : List Def := dfL0 ++ dfL1 ++ dfL2 ++ dfL3
def tbl : Fid → Option Def := fun i => dfL[i]?
def subL : List (Nat × Nat) := [(0, 0), (1, 0), (1, 1), (2, 2), (2, 0), (3, 3), (3, 0)]
def C : Cfg := ⟨fun i j => subL.contains (i, j), 16777216⟩
@[simp] theorem sub_LookError_LookError : C.sub c_LookError c_LookError = true := by decide +kernel
@[simp] theorem sub_LookError_InvalidLook : C.sub c_LookError c_InvalidLook = false := by decide +kernel
@[simp] theorem sub_LookError_InvalidTable : C.sub c_LookError c_InvalidTable = false := by decide +kernel
@[simp] theorem sub_LookError_Unlike : C.sub c_LookError c_Unlike = false := by decide +kernel
@[simp] theorem sub_InvalidLook_LookError : C.sub c_InvalidLook c_LookError = true := by decide +kernel
@[simp] theorem sub_InvalidLook_InvalidLook : C.sub c_InvalidLook c_InvalidLook = true := by decide +kernel
@[simp] theorem sub_InvalidLook_InvalidTable : C.sub c_InvalidLook c_InvalidTable = false := by decide +kernel
@[simp] theorem sub_InvalidLook_Unlike : C.sub c_InvalidLook c_Unlike = false := by decide +kernel
@[simp] theorem sub_InvalidTable_LookError : C.sub c_InvalidTable c_LookError = true := by decide +kernel
@[simp] theorem sub_InvalidTable_InvalidLook : C.sub c_InvalidTable c_InvalidLook = false := by decide +kernel
@[simp] theorem sub_InvalidTable_InvalidTable : C.sub c_InvalidTable c_InvalidTable = true := by decide +kernel
@[simp] theorem sub_InvalidTable_Unlike : C.sub c_InvalidTable c_Unlike = false := by decide +kernel
@[simp] theorem sub_Unlike_LookError : C.sub c_Unlike c_LookError = true := by decide +kernel
@[simp] theorem sub_Unlike_InvalidLook : C.sub c_Unlike c_InvalidLook = false := by decide +kernel
@[simp] theorem sub_Unlike_InvalidTable : C.sub c_Unlike c_InvalidTable = false := by decide +kernel
@[simp] theorem sub_Unlike_Unlike : C.sub c_Unlike c_Unlike = true := by decide +kernel
theorem run_is_whole (k : Nat) (ds : List D) (μ : Mu) : run C tbl (k + 1) f_is_whole ds μ = call1 C (run C tbl k) df_is_whole ds μ := rfl
theorem run_common_divisor (k : Nat) (ds : List D) (μ : Mu) : run C tbl (k + 1) f_common_divisor ds μ = call1 C (run C tbl k) df_common_divisor ds μ := rfl
theorem run_lowest (k : Nat) (ds : List D) (μ : Mu) : run C tbl (k + 1) f_lowest ds μ = call1 C (run C tbl k) df_lowest ds μ := rfl
theorem run_is_fraction (k : Nat) (ds : List D) (μ : Mu) : run C tbl (k + 1) f_is_fraction ds μ = call1 C (run C tbl k) df_is_fraction ds μ := rfl
theorem run_is_amount (k : Nat) (ds : List D) (μ : Mu) : run C tbl (k + 1) f_is_amount ds μ = call1 C (run C tbl k) df_is_amount ds μ := rfl
theorem run_plus (k : Nat) (ds : List D) (μ : Mu) : run C tbl (k + 1) f_plus ds μ = call1 C (run C tbl k) df_plus ds μ := rfl
theorem run_times (k : Nat) (ds : List D) (μ : Mu) : run C tbl (k + 1) f_times ds μ = call1 C (run C tbl k) df_times ds μ := rfl
theorem run_summed (k : Nat) (ds : List D) (μ : Mu) : run C tbl (k + 1) f_summed ds μ = call1 C (run C tbl k) df_summed ds μ := rfl
theorem run_are_chances (k : Nat) (ds : List D) (μ : Mu) : run C tbl (k + 1) f_are_chances ds μ = call1 C (run C tbl k) df_are_chances ds μ := rfl
theorem run_product (k : Nat) (ds : List D) (μ : Mu) : run C tbl (k + 1) f_product ds μ = call1 C (run C tbl k) df_product ds μ := rfl
theorem run_is_look_by (k : Nat) (ds : List D) (μ : Mu) : run C tbl (k + 1) f_is_look_by ds μ = call1 C (run C tbl k) df_is_look_by ds μ := rfl
theorem run_check_look (k : Nat) (ds : List D) (μ : Mu) : run C tbl (k + 1) f_check_look ds μ = call1 C (run C tbl k) df_check_look ds μ := rfl
theorem run_marks_of (k : Nat) (ds : List D) (μ : Mu) : run C tbl (k + 1) f_marks_of ds μ = call1 C (run C tbl k) df_marks_of ds μ := rfl
theorem run_is_table_by (k : Nat) (ds : List D) (μ : Mu) : run C tbl (k + 1) f_is_table_by ds μ = call1 C (run C tbl k) df_is_table_by ds μ := rfl
theorem run_is_any_table (k : Nat) (ds : List D) (μ : Mu) : run C tbl (k + 1) f_is_any_table ds μ = call1 C (run C tbl k) df_is_any_table ds μ := rfl
theorem run_check_table (k : Nat) (ds : List D) (μ : Mu) : run C tbl (k + 1) f_check_table ds μ = call1 C (run C tbl k) df_check_table ds μ := rfl
theorem run_through (k : Nat) (ds : List D) (μ : Mu) : run C tbl (k + 1) f_through ds μ = call1 C (run C tbl k) df_through ds μ := rfl
theorem run_blurred_by (k : Nat) (ds : List D) (μ : Mu) : run C tbl (k + 1) f_blurred_by ds μ = call1 C (run C tbl k) df_blurred_by ds μ := rfl
theorem run_blurred (k : Nat) (ds : List D) (μ : Mu) : run C tbl (k + 1) f_blurred ds μ = call1 C (run C tbl k) df_blurred ds μ := rfl
theorem run_check_any_table (k : Nat) (ds : List D) (μ : Mu) : run C tbl (k + 1) f_check_any_table ds μ = call1 C (run C tbl k) df_check_any_table ds μ := rfl
theorem run_tables_behind (k : Nat) (ds : List D) (μ : Mu) : run C tbl (k + 1) f_tables_behind ds μ = call1 C (run C tbl k) df_tables_behind ds μ := rfl
theorem run__law_hash (k : Nat) (ds : List D) (μ : Mu) : run C tbl (k + 1) f__law_hash ds μ = call1 C (run C tbl k) df__law_hash ds μ := rfl
theorem run__law_random (k : Nat) (ds : List D) (μ : Mu) : run C tbl (k + 1) f__law_random ds μ = call1 C (run C tbl k) df__law_random ds μ := rfl
theorem run__law_cell (k : Nat) (ds : List D) (μ : Mu) : run C tbl (k + 1) f__law_cell ds μ = call1 C (run C tbl k) df__law_cell ds μ := rfl
theorem run__law_generator (k : Nat) (ds : List D) (μ : Mu) : run C tbl (k + 1) f__law_generator ds μ = call1 C (run C tbl k) df__law_generator ds μ := rfl
theorem run__law_pick (k : Nat) (ds : List D) (μ : Mu) : run C tbl (k + 1) f__law_pick ds μ = call1 C (run C tbl k) df__law_pick ds μ := rfl
theorem run__law_frac (k : Nat) (ds : List D) (μ : Mu) : run C tbl (k + 1) f__law_frac ds μ = call1 C (run C tbl k) df__law_frac ds μ := rfl
theorem run__law_add (k : Nat) (ds : List D) (μ : Mu) : run C tbl (k + 1) f__law_add ds μ = call1 C (run C tbl k) df__law_add ds μ := rfl
theorem run__law_mul (k : Nat) (ds : List D) (μ : Mu) : run C tbl (k + 1) f__law_mul ds μ = call1 C (run C tbl k) df__law_mul ds μ := rfl
theorem run__law_exact (k : Nat) (ds : List D) (μ : Mu) : run C tbl (k + 1) f__law_exact ds μ = call1 C (run C tbl k) df__law_exact ds μ := rfl
theorem run__law_lists (k : Nat) (ds : List D) (μ : Mu) : run C tbl (k + 1) f__law_lists ds μ = call1 C (run C tbl k) df__law_lists ds μ := rfl
theorem run__law_own (k : Nat) (ds : List D) (μ : Mu) : run C tbl (k + 1) f__law_own ds μ = call1 C (run C tbl k) df__law_own ds μ := rfl
theorem run__law_chances (k : Nat) (ds : List D) (μ : Mu) : run C tbl (k + 1) f__law_chances ds μ = call1 C (run C tbl k) df__law_chances ds μ := rfl
theorem run__law_look (k : Nat) (ds : List D) (μ : Mu) : run C tbl (k + 1) f__law_look ds μ = call1 C (run C tbl k) df__law_look ds μ := rfl
theorem run__law_table (k : Nat) (ds : List D) (μ : Mu) : run C tbl (k + 1) f__law_table ds μ = call1 C (run C tbl k) df__law_table ds μ := rfl
theorem run__law_total (k : Nat) (ds : List D) (μ : Mu) : run C tbl (k + 1) f__law_total ds μ = call1 C (run C tbl k) df__law_total ds μ := rfl
theorem run__law_product (k : Nat) (ds : List D) (μ : Mu) : run C tbl (k + 1) f__law_product ds μ = call1 C (run C tbl k) df__law_product ds μ := rfl
theorem run__law_blurred (k : Nat) (ds : List D) (μ : Mu) : run C tbl (k + 1) f__law_blurred ds μ = call1 C (run C tbl k) df__law_blurred ds μ := rfl
theorem run__law_bad_look (k : Nat) (ds : List D) (μ : Mu) : run C tbl (k + 1) f__law_bad_look ds μ = call1 C (run C tbl k) df__law_bad_look ds μ := rfl
theorem run__law_caught (k : Nat) (ds : List D) (μ : Mu) : run C tbl (k + 1) f__law_caught ds μ = call1 C (run C tbl k) df__law_caught ds μ := rfl
theorem run__law_behind_both (k : Nat) (ds : List D) (μ : Mu) : run C tbl (k + 1) f__law_behind_both ds μ = call1 C (run C tbl k) df__law_behind_both ds μ := rfl
theorem run__law_bad_table (k : Nat) (ds : List D) (μ : Mu) : run C tbl (k + 1) f__law_bad_table ds μ = call1 C (run C tbl k) df__law_bad_table ds μ := rfl
theorem run_law (k : Nat) (ds : List D) (μ : Mu) : run C tbl (k + 1) f_law ds μ = call1 C (run C tbl k) df_law ds μ := rfl
theorem run_blurred_d (k : Nat) (ds : List D) (μ : Mu) : run C tbl (k + 1) f_blurred_d ds μ = call1 C (run C tbl k) df_blurred_d ds μ := rfl
theorem run_tables_behind_d (k : Nat) (ds : List D) (μ : Mu) : run C tbl (k + 1) f_tables_behind_d ds μ = call1 C (run C tbl k) df_tables_behind_d ds μ := rfl
theorem run_blurred_by_d (k : Nat) (ds : List D) (μ : Mu) : run C tbl (k + 1) f_blurred_by_d ds μ = call1 C (run C tbl k) df_blurred_by_d ds μ := rfl
theorem run_through_d (k : Nat) (ds : List D) (μ : Mu) : run C tbl (k + 1) f_through_d ds μ = call1 C (run C tbl k) df_through_d ds μ := rfl
end PyE
set_option maxRecDepth 100000
set_option maxHeartbeats 0
namespace PyE
open PySem

open PySem.Spec PyProof.Rows L2
def top (i : Nat) : Stmt := PySem.Challenge.pw_lookstell_k03_whole_looks_blurred.main.body.getD i (.Pass ⟨0, 0, 0, 0⟩)
def fsL0 : List PySem.Str := [PySem.Str.ofString "is_whole", PySem.Str.ofString "common_divisor", PySem.Str.ofString "lowest", PySem.Str.ofString "is_fraction", PySem.Str.ofString "is_amount", PySem.Str.ofString "plus", PySem.Str.ofString "times", PySem.Str.ofString "summed", PySem.Str.ofString "are_chances", PySem.Str.ofString "product", PySem.Str.ofString "is_look_by", PySem.Str.ofString "check_look", PySem.Str.ofString "marks_of", PySem.Str.ofString "is_table_by", PySem.Str.ofString "is_any_table"]
def fsL1 : List PySem.Str := [PySem.Str.ofString "check_table", PySem.Str.ofString "through", PySem.Str.ofString "blurred_by", PySem.Str.ofString "blurred", PySem.Str.ofString "check_any_table", PySem.Str.ofString "tables_behind", PySem.Str.ofString "_law_hash", PySem.Str.ofString "_law_random", PySem.Str.ofString "_law_cell", PySem.Str.ofString "_law_generator", PySem.Str.ofString "_law_pick", PySem.Str.ofString "_law_frac", PySem.Str.ofString "_law_add", PySem.Str.ofString "_law_mul", PySem.Str.ofString "_law_exact"]
def fsL2 : List PySem.Str := [PySem.Str.ofString "_law_lists", PySem.Str.ofString "_law_own", PySem.Str.ofString "_law_chances", PySem.Str.ofString "_law_look", PySem.Str.ofString "_law_table", PySem.Str.ofString "_law_total", PySem.Str.ofString "_law_product", PySem.Str.ofString "_law_blurred", PySem.Str.ofString "_law_bad_look", PySem.Str.ofString "_law_caught", PySem.Str.ofString "_law_behind_both", PySem.Str.ofString "_law_bad_table", PySem.Str.ofString "law", PySem.Str.ofString "blurred", PySem.Str.ofString "tables_behind"]
def fsL3 : List PySem.Str := [PySem.Str.ofString "blurred_by", PySem.Str.ofString "through"]
def fsL : List PySem.Str := fsL0 ++ fsL1 ++ fsL2 ++ fsL3
def csL0 : List PySem.Str := [PySem.Str.ofString "LookError", PySem.Str.ofString "InvalidLook", PySem.Str.ofString "InvalidTable", PySem.Str.ofString "Unlike"]
def csL : List PySem.Str := csL0
def glL0 : List (PySem.Str × GK) := [(PySem.Str.ofString "is_whole", .fn f_is_whole), (PySem.Str.ofString "common_divisor", .fn f_common_divisor), (PySem.Str.ofString "lowest", .fn f_lowest), (PySem.Str.ofString "is_fraction", .fn f_is_fraction), (PySem.Str.ofString "is_amount", .fn f_is_amount), (PySem.Str.ofString "plus", .fn f_plus), (PySem.Str.ofString "times", .fn f_times), (PySem.Str.ofString "summed", .fn f_summed), (PySem.Str.ofString "are_chances", .fn f_are_chances), (PySem.Str.ofString "product", .fn f_product), (PySem.Str.ofString "is_look_by", .fn f_is_look_by), (PySem.Str.ofString "check_look", .fn f_check_look), (PySem.Str.ofString "marks_of", .fn f_marks_of), (PySem.Str.ofString "is_table_by", .fn f_is_table_by), (PySem.Str.ofString "is_any_table", .fn f_is_any_table)]
def glL1 : List (PySem.Str × GK) := [(PySem.Str.ofString "check_table", .fn f_check_table), (PySem.Str.ofString "through", .fn f_through), (PySem.Str.ofString "blurred_by", .fn f_blurred_by), (PySem.Str.ofString "blurred", .fn f_blurred), (PySem.Str.ofString "check_any_table", .fn f_check_any_table), (PySem.Str.ofString "tables_behind", .fn f_tables_behind), (PySem.Str.ofString "_law_hash", .fn f__law_hash), (PySem.Str.ofString "_law_random", .fn f__law_random), (PySem.Str.ofString "_law_cell", .fn f__law_cell), (PySem.Str.ofString "_law_generator", .fn f__law_generator), (PySem.Str.ofString "_law_pick", .fn f__law_pick), (PySem.Str.ofString "_law_frac", .fn f__law_frac), (PySem.Str.ofString "_law_add", .fn f__law_add), (PySem.Str.ofString "_law_mul", .fn f__law_mul), (PySem.Str.ofString "_law_exact", .fn f__law_exact)]
def glL2 : List (PySem.Str × GK) := [(PySem.Str.ofString "_law_lists", .fn f__law_lists), (PySem.Str.ofString "_law_own", .fn f__law_own), (PySem.Str.ofString "_law_chances", .fn f__law_chances), (PySem.Str.ofString "_law_look", .fn f__law_look), (PySem.Str.ofString "_law_table", .fn f__law_table), (PySem.Str.ofString "_law_total", .fn f__law_total), (PySem.Str.ofString "_law_product", .fn f__law_product), (PySem.Str.ofString "_law_blurred", .fn f__law_blurred), (PySem.Str.ofString "_law_bad_look", .fn f__law_bad_look), (PySem.Str.ofString "_law_caught", .fn f__law_caught), (PySem.Str.ofString "_law_behind_both", .fn f__law_behind_both), (PySem.Str.ofString "_law_bad_table", .fn f__law_bad_table), (PySem.Str.ofString "law", .fn f_law), (PySem.Str.ofString "LookError", .cls 0), (PySem.Str.ofString "InvalidLook", .cls 1)]
def glL3 : List (PySem.Str × GK) := [(PySem.Str.ofString "InvalidTable", .cls 2), (PySem.Str.ofString "Unlike", .cls 3), (PySem.Str.ofString "MOST_STANDINGS", .con (.int 6)), (PySem.Str.ofString "MOST_MARKS", .con (.int 8)), (PySem.Str.ofString "ValueError", .blt), (PySem.Str.ofString "abs", .blt), (PySem.Str.ofString "all", .blt), (PySem.Str.ofString "bool", .blt), (PySem.Str.ofString "int", .blt), (PySem.Str.ofString "isinstance", .blt), (PySem.Str.ofString "len", .blt), (PySem.Str.ofString "list", .blt), (PySem.Str.ofString "max", .blt), (PySem.Str.ofString "min", .blt), (PySem.Str.ofString "range", .blt)]
def glL4 : List (PySem.Str × GK) := [(PySem.Str.ofString "repr", .blt), (PySem.Str.ofString "str", .blt), (PySem.Str.ofString "sum", .blt), (PySem.Str.ofString "super", .blt), (PySem.Str.ofString "tuple", .blt), (PySem.Str.ofString "zip", .blt)]
def glL : List (PySem.Str × GK) := glL0 ++ glL1 ++ glL2 ++ glL3 ++ glL4
def psL : List Nat := [1, 2, 2, 1, 1, 2, 2, 1, 2, 2, 1, 1, 1, 3, 2, 2, 2, 2, 2, 1, 2, 2, 2, 2, 2, 2, 2, 2, 2, 2, 1, 3, 2, 3, 3, 1, 2, 2, 2, 2, 2, 2, 1, 2, 2, 2, 2]
def nm : Nm := ⟨fsL, csL, glL⟩
def kwL : List (Fid × Nat × List PySem.Str × List Nat) := [(f_blurred, 0, [PySem.Str.ofString "table", PySem.Str.ofString "look"], [1, 0]), (f_tables_behind, 0, [PySem.Str.ofString "other", PySem.Str.ofString "one"], [1, 0])]
def alL : List (Fid × Fid) := [(f_blurred_d, f_blurred), (f_tables_behind_d, f_tables_behind), (f_blurred_by_d, f_blurred_by), (f_through_d, f_through)]
def tbT : Tb := ⟨glL, fun f => (psL[f]?).getD 0, kwL, alL⟩
def nN0 : List PySem.Str := [PySem.Str.ofString "value"]
def pN0 : List PySem.Str := [PySem.Str.ofString "value"]
theorem sc0 : FnScope nN0 pN0 (defScope (top 6)) := ⟨by kernel_rfl, by kernel_rfl, by kernel_rfl, by decide +kernel, by kernel_rfl, by decide +kernel, by decide +kernel⟩
theorem ck0 : ckSs tbT b_is_whole ⟨nN0, defScope (top 6), fun _ => true⟩ (defBody (top 6)) = true := by decide +kernel
def nN1 : List PySem.Str := [PySem.Str.ofString "one", PySem.Str.ofString "other"]
def pN1 : List PySem.Str := [PySem.Str.ofString "one", PySem.Str.ofString "other"]
theorem sc1 : FnScope nN1 pN1 (defScope (top 7)) := ⟨by kernel_rfl, by kernel_rfl, by kernel_rfl, by decide +kernel, by kernel_rfl, by decide +kernel, by decide +kernel⟩
theorem ck1 : ckSs tbT b_common_divisor ⟨nN1, defScope (top 7), fun _ => true⟩ (defBody (top 7)) = true := by decide +kernel
def nN2 : List PySem.Str := [PySem.Str.ofString "top", PySem.Str.ofString "under", PySem.Str.ofString "common"]
def pN2 : List PySem.Str := [PySem.Str.ofString "top", PySem.Str.ofString "under"]
theorem sc2 : FnScope nN2 pN2 (defScope (top 8)) := ⟨by kernel_rfl, by kernel_rfl, by kernel_rfl, by decide +kernel, by kernel_rfl, by decide +kernel, by decide +kernel⟩
theorem ck2 : ckSs tbT b_lowest ⟨nN2, defScope (top 8), fun _ => true⟩ (defBody (top 8)) = true := by decide +kernel
def nN3 : List PySem.Str := [PySem.Str.ofString "value"]
def pN3 : List PySem.Str := [PySem.Str.ofString "value"]
theorem sc3 : FnScope nN3 pN3 (defScope (top 9)) := ⟨by kernel_rfl, by kernel_rfl, by kernel_rfl, by decide +kernel, by kernel_rfl, by decide +kernel, by decide +kernel⟩
theorem ck3 : ckSs tbT b_is_fraction ⟨nN3, defScope (top 9), fun _ => true⟩ (defBody (top 9)) = true := by decide +kernel
def nN4 : List PySem.Str := [PySem.Str.ofString "value"]
def pN4 : List PySem.Str := [PySem.Str.ofString "value"]
theorem sc4 : FnScope nN4 pN4 (defScope (top 10)) := ⟨by kernel_rfl, by kernel_rfl, by kernel_rfl, by decide +kernel, by kernel_rfl, by decide +kernel, by decide +kernel⟩
theorem ck4 : ckSs tbT b_is_amount ⟨nN4, defScope (top 10), fun _ => true⟩ (defBody (top 10)) = true := by decide +kernel
def nN5 : List PySem.Str := [PySem.Str.ofString "one", PySem.Str.ofString "other"]
def pN5 : List PySem.Str := [PySem.Str.ofString "one", PySem.Str.ofString "other"]
theorem sc5 : FnScope nN5 pN5 (defScope (top 11)) := ⟨by kernel_rfl, by kernel_rfl, by kernel_rfl, by decide +kernel, by kernel_rfl, by decide +kernel, by decide +kernel⟩
theorem ck5 : ckSs tbT b_plus ⟨nN5, defScope (top 11), fun _ => true⟩ (defBody (top 11)) = true := by decide +kernel
def nN6 : List PySem.Str := [PySem.Str.ofString "one", PySem.Str.ofString "other"]
def pN6 : List PySem.Str := [PySem.Str.ofString "one", PySem.Str.ofString "other"]
theorem sc6 : FnScope nN6 pN6 (defScope (top 12)) := ⟨by kernel_rfl, by kernel_rfl, by kernel_rfl, by decide +kernel, by kernel_rfl, by decide +kernel, by decide +kernel⟩
theorem ck6 : ckSs tbT b_times ⟨nN6, defScope (top 12), fun _ => true⟩ (defBody (top 12)) = true := by decide +kernel
def nN7 : List PySem.Str := [PySem.Str.ofString "some", PySem.Str.ofString "found", PySem.Str.ofString "one"]
def pN7 : List PySem.Str := [PySem.Str.ofString "some"]
theorem sc7 : FnScope nN7 pN7 (defScope (top 13)) := ⟨by kernel_rfl, by kernel_rfl, by kernel_rfl, by decide +kernel, by kernel_rfl, by decide +kernel, by decide +kernel⟩
theorem ck7 : ckSs tbT b_summed ⟨nN7, defScope (top 13), fun _ => true⟩ (defBody (top 13)) = true := by decide +kernel
def nN8 : List PySem.Str := [PySem.Str.ofString "value", PySem.Str.ofString "many", PySem.Str.ofString "one"]
def pN8 : List PySem.Str := [PySem.Str.ofString "value", PySem.Str.ofString "many"]
theorem sc8 : FnScope nN8 pN8 (defScope (top 14)) := ⟨by kernel_rfl, by kernel_rfl, by kernel_rfl, by decide +kernel, by kernel_rfl, by decide +kernel, by decide +kernel⟩
theorem ck8 : ckSs tbT b_are_chances ⟨nN8, defScope (top 14), fun _ => true⟩ (defBody (top 14)) = true := by decide +kernel
def nN9 : List PySem.Str := [PySem.Str.ofString "weights", PySem.Str.ofString "numbers", PySem.Str.ofString "weight", PySem.Str.ofString "number"]
def pN9 : List PySem.Str := [PySem.Str.ofString "weights", PySem.Str.ofString "numbers"]
theorem sc9 : FnScope nN9 pN9 (defScope (top 15)) := ⟨by kernel_rfl, by kernel_rfl, by kernel_rfl, by decide +kernel, by kernel_rfl, by decide +kernel, by decide +kernel⟩
theorem ck9 : ckSs tbT b_product ⟨nN9, defScope (top 15), fun _ => true⟩ (defBody (top 15)) = true := by decide +kernel
def nN10 : List PySem.Str := [PySem.Str.ofString "value", PySem.Str.ofString "rows", PySem.Str.ofString "row"]
def pN10 : List PySem.Str := [PySem.Str.ofString "value"]
theorem sc10 : FnScope nN10 pN10 (defScope (top 19)) := ⟨by kernel_rfl, by kernel_rfl, by kernel_rfl, by decide +kernel, by kernel_rfl, by decide +kernel, by decide +kernel⟩
theorem ck10 : ckSs tbT b_is_look_by ⟨nN10, defScope (top 19), fun _ => true⟩ (defBody (top 19)) = true := by decide +kernel
def nN11 : List PySem.Str := [PySem.Str.ofString "look"]
def pN11 : List PySem.Str := [PySem.Str.ofString "look"]
theorem sc11 : FnScope nN11 pN11 (defScope (top 20)) := ⟨by kernel_rfl, by kernel_rfl, by kernel_rfl, by decide +kernel, by kernel_rfl, by decide +kernel, by decide +kernel⟩
theorem ck11 : ckSs tbT b_check_look ⟨nN11, defScope (top 20), fun _ => true⟩ (defBody (top 20)) = true := by decide +kernel
def nN12 : List PySem.Str := [PySem.Str.ofString "look"]
def pN12 : List PySem.Str := [PySem.Str.ofString "look"]
theorem sc12 : FnScope nN12 pN12 (defScope (top 21)) := ⟨by kernel_rfl, by kernel_rfl, by kernel_rfl, by decide +kernel, by kernel_rfl, by decide +kernel, by decide +kernel⟩
theorem ck12 : ckSs tbT b_marks_of ⟨nN12, defScope (top 21), fun _ => true⟩ (defBody (top 21)) = true := by decide +kernel
def nN13 : List PySem.Str := [PySem.Str.ofString "value", PySem.Str.ofString "many", PySem.Str.ofString "wide", PySem.Str.ofString "row"]
def pN13 : List PySem.Str := [PySem.Str.ofString "value", PySem.Str.ofString "many", PySem.Str.ofString "wide"]
theorem sc13 : FnScope nN13 pN13 (defScope (top 22)) := ⟨by kernel_rfl, by kernel_rfl, by kernel_rfl, by decide +kernel, by kernel_rfl, by decide +kernel, by decide +kernel⟩
theorem ck13 : ckSs tbT b_is_table_by ⟨nN13, defScope (top 22), fun _ => true⟩ (defBody (top 22)) = true := by decide +kernel
def nN14 : List PySem.Str := [PySem.Str.ofString "value", PySem.Str.ofString "most"]
def pN14 : List PySem.Str := [PySem.Str.ofString "value", PySem.Str.ofString "most"]
theorem sc14 : FnScope nN14 pN14 (defScope (top 23)) := ⟨by kernel_rfl, by kernel_rfl, by kernel_rfl, by decide +kernel, by kernel_rfl, by decide +kernel, by decide +kernel⟩
theorem ck14 : ckSs tbT b_is_any_table ⟨nN14, defScope (top 23), fun _ => true⟩ (defBody (top 23)) = true := by decide +kernel
def nN15 : List PySem.Str := [PySem.Str.ofString "look", PySem.Str.ofString "table"]
def pN15 : List PySem.Str := [PySem.Str.ofString "look", PySem.Str.ofString "table"]
theorem sc15 : FnScope nN15 pN15 (defScope (top 24)) := ⟨by kernel_rfl, by kernel_rfl, by kernel_rfl, by decide +kernel, by kernel_rfl, by decide +kernel, by decide +kernel⟩
theorem ck15 : ckSs tbT b_check_table ⟨nN15, defScope (top 24), fun _ => true⟩ (defBody (top 24)) = true := by decide +kernel
def nN16 : List PySem.Str := [PySem.Str.ofString "row", PySem.Str.ofString "table", PySem.Str.ofString "at", PySem.Str.ofString "chances"]
def pN16 : List PySem.Str := [PySem.Str.ofString "row", PySem.Str.ofString "table"]
theorem sc16 : FnScope nN16 pN16 (defScope (top 26)) := ⟨by kernel_rfl, by kernel_rfl, by kernel_rfl, by decide +kernel, by kernel_rfl, by decide +kernel, by decide +kernel⟩
theorem ck16 : ckSs tbT b_through ⟨nN16, defScope (top 26), fun _ => true⟩ (defBody (top 26)) = true := by decide +kernel
def nN17 : List PySem.Str := [PySem.Str.ofString "look", PySem.Str.ofString "table", PySem.Str.ofString "row"]
def pN17 : List PySem.Str := [PySem.Str.ofString "look", PySem.Str.ofString "table"]
theorem sc17 : FnScope nN17 pN17 (defScope (top 27)) := ⟨by kernel_rfl, by kernel_rfl, by kernel_rfl, by decide +kernel, by kernel_rfl, by decide +kernel, by decide +kernel⟩
theorem ck17 : ckSs tbT b_blurred_by ⟨nN17, defScope (top 27), fun _ => true⟩ (defBody (top 27)) = true := by decide +kernel
def nN18 : List PySem.Str := [PySem.Str.ofString "look", PySem.Str.ofString "table"]
def pN18 : List PySem.Str := [PySem.Str.ofString "look", PySem.Str.ofString "table"]
theorem sc18 : FnScope nN18 pN18 (defScope (top 28)) := ⟨by kernel_rfl, by kernel_rfl, by kernel_rfl, by decide +kernel, by kernel_rfl, by decide +kernel, by decide +kernel⟩
theorem ck18 : ckSs tbT b_blurred ⟨nN18, defScope (top 28), fun _ => true⟩ (defBody (top 28)) = true := by decide +kernel
def nN19 : List PySem.Str := [PySem.Str.ofString "table"]
def pN19 : List PySem.Str := [PySem.Str.ofString "table"]
theorem sc19 : FnScope nN19 pN19 (defScope (top 29)) := ⟨by kernel_rfl, by kernel_rfl, by kernel_rfl, by decide +kernel, by kernel_rfl, by decide +kernel, by decide +kernel⟩
theorem ck19 : ckSs tbT b_check_any_table ⟨nN19, defScope (top 29), fun _ => true⟩ (defBody (top 29)) = true := by decide +kernel
def nN20 : List PySem.Str := [PySem.Str.ofString "one", PySem.Str.ofString "other", PySem.Str.ofString "row"]
def pN20 : List PySem.Str := [PySem.Str.ofString "one", PySem.Str.ofString "other"]
theorem sc20 : FnScope nN20 pN20 (defScope (top 30)) := ⟨by kernel_rfl, by kernel_rfl, by kernel_rfl, by decide +kernel, by kernel_rfl, by decide +kernel, by decide +kernel⟩
theorem ck20 : ckSs tbT b_tables_behind ⟨nN20, defScope (top 30), fun _ => true⟩ (defBody (top 30)) = true := by decide +kernel
def nN21 : List PySem.Str := [PySem.Str.ofString "seed", PySem.Str.ofString "index", PySem.Str.ofString "mixed"]
def pN21 : List PySem.Str := [PySem.Str.ofString "seed", PySem.Str.ofString "index"]
theorem sc21 : FnScope nN21 pN21 (defScope (top 32)) := ⟨by kernel_rfl, by kernel_rfl, by kernel_rfl, by decide +kernel, by kernel_rfl, by decide +kernel, by decide +kernel⟩
theorem ck21 : ckSs tbT b__law_hash ⟨nN21, defScope (top 32), fun _ => true⟩ (defBody (top 32)) = true := by decide +kernel
def nN22 : List PySem.Str := [PySem.Str.ofString "generator", PySem.Str.ofString "bound", PySem.Str.ofString "drawn", PySem.Str.ofString "turn"]
def pN22 : List PySem.Str := [PySem.Str.ofString "generator", PySem.Str.ofString "bound"]
theorem sc22 : FnScope nN22 pN22 (defScope (top 33)) := ⟨by kernel_rfl, by kernel_rfl, by kernel_rfl, by decide +kernel, by kernel_rfl, by decide +kernel, by decide +kernel⟩
theorem ck22 : ckSs tbT b__law_random ⟨nN22, defScope (top 33), fun _ => true⟩ (defBody (top 33)) = true := by decide +kernel
def nN23 : List PySem.Str := [PySem.Str.ofString "script", PySem.Str.ofString "index"]
def pN23 : List PySem.Str := [PySem.Str.ofString "script", PySem.Str.ofString "index"]
theorem sc23 : FnScope nN23 pN23 (defScope (top 34)) := ⟨by kernel_rfl, by kernel_rfl, by kernel_rfl, by decide +kernel, by kernel_rfl, by decide +kernel, by decide +kernel⟩
theorem ck23 : ckSs tbT b__law_cell ⟨nN23, defScope (top 34), fun _ => true⟩ (defBody (top 34)) = true := by decide +kernel
def nN24 : List PySem.Str := [PySem.Str.ofString "script", PySem.Str.ofString "index", PySem.Str.ofString "seed"]
def pN24 : List PySem.Str := [PySem.Str.ofString "script", PySem.Str.ofString "index"]
theorem sc24 : FnScope nN24 pN24 (defScope (top 35)) := ⟨by kernel_rfl, by kernel_rfl, by kernel_rfl, by decide +kernel, by kernel_rfl, by decide +kernel, by decide +kernel⟩
theorem ck24 : ckSs tbT b__law_generator ⟨nN24, defScope (top 35), fun _ => true⟩ (defBody (top 35)) = true := by decide +kernel
def nN25 : List PySem.Str := [PySem.Str.ofString "generator", PySem.Str.ofString "things"]
def pN25 : List PySem.Str := [PySem.Str.ofString "generator", PySem.Str.ofString "things"]
theorem sc25 : FnScope nN25 pN25 (defScope (top 36)) := ⟨by kernel_rfl, by kernel_rfl, by kernel_rfl, by decide +kernel, by kernel_rfl, by decide +kernel, by decide +kernel⟩
theorem ck25 : ckSs tbT b__law_pick ⟨nN25, defScope (top 36), fun _ => true⟩ (defBody (top 36)) = true := by decide +kernel
def nN26 : List PySem.Str := [PySem.Str.ofString "top", PySem.Str.ofString "under", PySem.Str.ofString "one", PySem.Str.ofString "other"]
def pN26 : List PySem.Str := [PySem.Str.ofString "top", PySem.Str.ofString "under"]
theorem sc26 : FnScope nN26 pN26 (defScope (top 37)) := ⟨by kernel_rfl, by kernel_rfl, by kernel_rfl, by decide +kernel, by kernel_rfl, by decide +kernel, by decide +kernel⟩
theorem ck26 : ckSs tbT b__law_frac ⟨nN26, defScope (top 37), fun _ => true⟩ (defBody (top 37)) = true := by decide +kernel
def nN27 : List PySem.Str := [PySem.Str.ofString "one", PySem.Str.ofString "other"]
def pN27 : List PySem.Str := [PySem.Str.ofString "one", PySem.Str.ofString "other"]
theorem sc27 : FnScope nN27 pN27 (defScope (top 38)) := ⟨by kernel_rfl, by kernel_rfl, by kernel_rfl, by decide +kernel, by kernel_rfl, by decide +kernel, by decide +kernel⟩
theorem ck27 : ckSs tbT b__law_add ⟨nN27, defScope (top 38), fun _ => true⟩ (defBody (top 38)) = true := by decide +kernel
def nN28 : List PySem.Str := [PySem.Str.ofString "one", PySem.Str.ofString "other"]
def pN28 : List PySem.Str := [PySem.Str.ofString "one", PySem.Str.ofString "other"]
theorem sc28 : FnScope nN28 pN28 (defScope (top 39)) := ⟨by kernel_rfl, by kernel_rfl, by kernel_rfl, by decide +kernel, by kernel_rfl, by decide +kernel, by decide +kernel⟩
theorem ck28 : ckSs tbT b__law_mul ⟨nN28, defScope (top 39), fun _ => true⟩ (defBody (top 39)) = true := by decide +kernel
def nN29 : List PySem.Str := [PySem.Str.ofString "due", PySem.Str.ofString "told", PySem.Str.ofString "at"]
def pN29 : List PySem.Str := [PySem.Str.ofString "due", PySem.Str.ofString "told"]
theorem sc29 : FnScope nN29 pN29 (defScope (top 40)) := ⟨by kernel_rfl, by kernel_rfl, by kernel_rfl, by decide +kernel, by kernel_rfl, by decide +kernel, by decide +kernel⟩
theorem ck29 : ckSs tbT b__law_exact ⟨nN29, defScope (top 40), fun _ => true⟩ (defBody (top 40)) = true := by decide +kernel
def nN30 : List PySem.Str := [PySem.Str.ofString "thing", PySem.Str.ofString "found", PySem.Str.ofString "part"]
def pN30 : List PySem.Str := [PySem.Str.ofString "thing"]
theorem sc30 : FnScope nN30 pN30 (defScope (top 41)) := ⟨by kernel_rfl, by kernel_rfl, by kernel_rfl, by decide +kernel, by kernel_rfl, by decide +kernel, by decide +kernel⟩
theorem ck30 : ckSs tbT b__law_lists ⟨nN30, defScope (top 41), fun _ => true⟩ (defBody (top 41)) = true := by decide +kernel
def nN31 : List PySem.Str := [PySem.Str.ofString "generator", PySem.Str.ofString "told", PySem.Str.ofString "given", PySem.Str.ofString "turn", PySem.Str.ofString "kept", PySem.Str.ofString "some", PySem.Str.ofString "one"]
def pN31 : List PySem.Str := [PySem.Str.ofString "generator", PySem.Str.ofString "told", PySem.Str.ofString "given"]
theorem sc31 : FnScope nN31 pN31 (defScope (top 42)) := ⟨by kernel_rfl, by kernel_rfl, by kernel_rfl, by decide +kernel, by kernel_rfl, by decide +kernel, by decide +kernel⟩
theorem ck31 : ckSs tbT b__law_own ⟨nN31, defScope (top 42), fun _ => true⟩ (defBody (top 42)) = true := by decide +kernel
def nN32 : List PySem.Str := [PySem.Str.ofString "generator", PySem.Str.ofString "wide", PySem.Str.ofString "counts", PySem.Str.ofString "whole", PySem.Str.ofString "at", PySem.Str.ofString "count"]
def pN32 : List PySem.Str := [PySem.Str.ofString "generator", PySem.Str.ofString "wide"]
theorem sc32 : FnScope nN32 pN32 (defScope (top 43)) := ⟨by kernel_rfl, by kernel_rfl, by kernel_rfl, by decide +kernel, by kernel_rfl, by decide +kernel, by decide +kernel⟩
theorem ck32 : ckSs tbT b__law_chances ⟨nN32, defScope (top 43), fun _ => true⟩ (defBody (top 43)) = true := by decide +kernel
def nN33 : List PySem.Str := [PySem.Str.ofString "generator", PySem.Str.ofString "many", PySem.Str.ofString "wide", PySem.Str.ofString "standing"]
def pN33 : List PySem.Str := [PySem.Str.ofString "generator", PySem.Str.ofString "many", PySem.Str.ofString "wide"]
theorem sc33 : FnScope nN33 pN33 (defScope (top 44)) := ⟨by kernel_rfl, by kernel_rfl, by kernel_rfl, by decide +kernel, by kernel_rfl, by decide +kernel, by decide +kernel⟩
theorem ck33 : ckSs tbT b__law_look ⟨nN33, defScope (top 44), fun _ => true⟩ (defBody (top 44)) = true := by decide +kernel
def nN34 : List PySem.Str := [PySem.Str.ofString "generator", PySem.Str.ofString "many", PySem.Str.ofString "wide", PySem.Str.ofString "at"]
def pN34 : List PySem.Str := [PySem.Str.ofString "generator", PySem.Str.ofString "many", PySem.Str.ofString "wide"]
theorem sc34 : FnScope nN34 pN34 (defScope (top 45)) := ⟨by kernel_rfl, by kernel_rfl, by kernel_rfl, by decide +kernel, by kernel_rfl, by decide +kernel, by decide +kernel⟩
theorem ck34 : ckSs tbT b__law_table ⟨nN34, defScope (top 45), fun _ => true⟩ (defBody (top 45)) = true := by decide +kernel
def nN35 : List PySem.Str := [PySem.Str.ofString "parts", PySem.Str.ofString "found", PySem.Str.ofString "part"]
def pN35 : List PySem.Str := [PySem.Str.ofString "parts"]
theorem sc35 : FnScope nN35 pN35 (defScope (top 46)) := ⟨by kernel_rfl, by kernel_rfl, by kernel_rfl, by decide +kernel, by kernel_rfl, by decide +kernel, by decide +kernel⟩
theorem ck35 : ckSs tbT b__law_total ⟨nN35, defScope (top 46), fun _ => true⟩ (defBody (top 46)) = true := by decide +kernel
def nN36 : List PySem.Str := [PySem.Str.ofString "one", PySem.Str.ofString "other", PySem.Str.ofString "here", PySem.Str.ofString "there"]
def pN36 : List PySem.Str := [PySem.Str.ofString "one", PySem.Str.ofString "other"]
theorem sc36 : FnScope nN36 pN36 (defScope (top 47)) := ⟨by kernel_rfl, by kernel_rfl, by kernel_rfl, by decide +kernel, by kernel_rfl, by decide +kernel, by decide +kernel⟩
theorem ck36 : ckSs tbT b__law_product ⟨nN36, defScope (top 47), fun _ => true⟩ (defBody (top 47)) = true := by decide +kernel
def nN37 : List PySem.Str := [PySem.Str.ofString "look", PySem.Str.ofString "table", PySem.Str.ofString "row", PySem.Str.ofString "at", PySem.Str.ofString "chances"]
def pN37 : List PySem.Str := [PySem.Str.ofString "look", PySem.Str.ofString "table"]
theorem sc37 : FnScope nN37 pN37 (defScope (top 48)) := ⟨by kernel_rfl, by kernel_rfl, by kernel_rfl, by decide +kernel, by kernel_rfl, by decide +kernel, by decide +kernel⟩
theorem ck37 : ckSs tbT b__law_blurred ⟨nN37, defScope (top 48), fun _ => true⟩ (defBody (top 48)) = true := by decide +kernel
def nN38 : List PySem.Str := [PySem.Str.ofString "generator", PySem.Str.ofString "look", PySem.Str.ofString "rows", PySem.Str.ofString "odd", PySem.Str.ofString "bad", PySem.Str.ofString "some", PySem.Str.ofString "one"]
def pN38 : List PySem.Str := [PySem.Str.ofString "generator", PySem.Str.ofString "look"]
theorem sc38 : FnScope nN38 pN38 (defScope (top 49)) := ⟨by kernel_rfl, by kernel_rfl, by kernel_rfl, by decide +kernel, by kernel_rfl, by decide +kernel, by decide +kernel⟩
theorem ck38 : ckSs tbT b__law_bad_look ⟨nN38, defScope (top 49), fun _ => true⟩ (defBody (top 49)) = true := by decide +kernel
def nN39 : List PySem.Str := [PySem.Str.ofString "door", PySem.Str.ofString "args", PySem.Str.ofString "error", PySem.Str.ofString "kinds", PySem.Str.ofString "caught", PySem.Str.ofString "kept"]
def pN39 : List PySem.Str := [PySem.Str.ofString "door", PySem.Str.ofString "args"]
theorem sc39 : FnScope nN39 pN39 (defScope (top 50)) := ⟨by kernel_rfl, by kernel_rfl, by kernel_rfl, by decide +kernel, by kernel_rfl, by decide +kernel, by decide +kernel⟩
theorem ck39 : ckSs tbT b__law_caught ⟨nN39, defScope (top 50), fun _ => true⟩ (defBody (top 50)) = true := by decide +kernel
def nN40 : List PySem.Str := [PySem.Str.ofString "one", PySem.Str.ofString "other", PySem.Str.ofString "row", PySem.Str.ofString "at", PySem.Str.ofString "chances"]
def pN40 : List PySem.Str := [PySem.Str.ofString "one", PySem.Str.ofString "other"]
theorem sc40 : FnScope nN40 pN40 (defScope (top 51)) := ⟨by kernel_rfl, by kernel_rfl, by kernel_rfl, by decide +kernel, by kernel_rfl, by decide +kernel, by decide +kernel⟩
theorem ck40 : ckSs tbT b__law_behind_both ⟨nN40, defScope (top 51), fun _ => true⟩ (defBody (top 51)) = true := by decide +kernel
def nN41 : List PySem.Str := [PySem.Str.ofString "generator", PySem.Str.ofString "table", PySem.Str.ofString "odd", PySem.Str.ofString "wide", PySem.Str.ofString "row"]
def pN41 : List PySem.Str := [PySem.Str.ofString "generator", PySem.Str.ofString "table"]
theorem sc41 : FnScope nN41 pN41 (defScope (top 52)) := ⟨by kernel_rfl, by kernel_rfl, by kernel_rfl, by decide +kernel, by kernel_rfl, by decide +kernel, by decide +kernel⟩
theorem ck41 : ckSs tbT b__law_bad_table ⟨nN41, defScope (top 52), fun _ => true⟩ (defBody (top 52)) = true := by decide +kernel
def nN42 : List PySem.Str := [PySem.Str.ofString "script", PySem.Str.ofString "index", PySem.Str.ofString "generator", PySem.Str.ofString "look", PySem.Str.ofString "one", PySem.Str.ofString "other", PySem.Str.ofString "dues", PySem.Str.ofString "told", PySem.Str.ofString "named", PySem.Str.ofString "asks", PySem.Str.ofString "eight", PySem.Str.ofString "nine", PySem.Str.ofString "kept", PySem.Str.ofString "both", PySem.Str.ofString "strange", PySem.Str.ofString "bad", PySem.Str.ofString "ask"]
def pN42 : List PySem.Str := [PySem.Str.ofString "script"]
theorem sc42 : FnScope nN42 pN42 (defScope (top 53)) := ⟨by kernel_rfl, by kernel_rfl, by kernel_rfl, by decide +kernel, by kernel_rfl, by decide +kernel, by decide +kernel⟩
theorem ck42 : ckSs tbT b_law ⟨nN42, defScope (top 53), fun _ => true⟩ (defBody (top 53)) = true := by decide +kernel
def nN43 : List PySem.Str := [PySem.Str.ofString "look", PySem.Str.ofString "table"]
def pN43 : List PySem.Str := [PySem.Str.ofString "look", PySem.Str.ofString "table"]
theorem sc43 : FnScope nN43 pN43 (defScope (top 28)) := ⟨by kernel_rfl, by kernel_rfl, by kernel_rfl, by decide +kernel, by kernel_rfl, by decide +kernel, by decide +kernel⟩
theorem ck43 : ckSs tbT b_blurred_d ⟨nN43, defScope (top 28), fun _ => true⟩ (defBody (top 28)) = true := by decide +kernel
def nN44 : List PySem.Str := [PySem.Str.ofString "one", PySem.Str.ofString "other", PySem.Str.ofString "row"]
def pN44 : List PySem.Str := [PySem.Str.ofString "one", PySem.Str.ofString "other"]
theorem sc44 : FnScope nN44 pN44 (defScope (top 30)) := ⟨by kernel_rfl, by kernel_rfl, by kernel_rfl, by decide +kernel, by kernel_rfl, by decide +kernel, by decide +kernel⟩
theorem ck44 : ckSs tbT b_tables_behind_d ⟨nN44, defScope (top 30), fun _ => true⟩ (defBody (top 30)) = true := by decide +kernel
def nN45 : List PySem.Str := [PySem.Str.ofString "look", PySem.Str.ofString "table", PySem.Str.ofString "row"]
def pN45 : List PySem.Str := [PySem.Str.ofString "look", PySem.Str.ofString "table"]
theorem sc45 : FnScope nN45 pN45 (defScope (top 27)) := ⟨by kernel_rfl, by kernel_rfl, by kernel_rfl, by decide +kernel, by kernel_rfl, by decide +kernel, by decide +kernel⟩
theorem ck45 : ckSs tbT b_blurred_by_d ⟨nN45, defScope (top 27), fun _ => true⟩ (defBody (top 27)) = true := by decide +kernel
def nN46 : List PySem.Str := [PySem.Str.ofString "row", PySem.Str.ofString "table", PySem.Str.ofString "at", PySem.Str.ofString "chances"]
def pN46 : List PySem.Str := [PySem.Str.ofString "row", PySem.Str.ofString "table"]
theorem sc46 : FnScope nN46 pN46 (defScope (top 26)) := ⟨by kernel_rfl, by kernel_rfl, by kernel_rfl, by decide +kernel, by kernel_rfl, by decide +kernel, by decide +kernel⟩
theorem ck46 : ckSs tbT b_through_d ⟨nN46, defScope (top 26), fun _ => true⟩ (defBody (top 26)) = true := by decide +kernel
def dfn (x : PySem.Str) (i : Nat) : He.DefD := ⟨(x, none), x, x, defArgs (top i), defBody (top i), defScope (top i), [], []⟩
def fn0 : List He.DefD := [dfn (PySem.Str.ofString "is_whole") 6, dfn (PySem.Str.ofString "common_divisor") 7, dfn (PySem.Str.ofString "lowest") 8, dfn (PySem.Str.ofString "is_fraction") 9, dfn (PySem.Str.ofString "is_amount") 10, dfn (PySem.Str.ofString "plus") 11, dfn (PySem.Str.ofString "times") 12, dfn (PySem.Str.ofString "summed") 13, dfn (PySem.Str.ofString "are_chances") 14, dfn (PySem.Str.ofString "product") 15, dfn (PySem.Str.ofString "is_look_by") 19, dfn (PySem.Str.ofString "check_look") 20, dfn (PySem.Str.ofString "marks_of") 21, dfn (PySem.Str.ofString "is_table_by") 22, dfn (PySem.Str.ofString "is_any_table") 23, dfn (PySem.Str.ofString "check_table") 24, dfn (PySem.Str.ofString "through") 26, dfn (PySem.Str.ofString "blurred_by") 27, dfn (PySem.Str.ofString "blurred") 28, dfn (PySem.Str.ofString "check_any_table") 29, dfn (PySem.Str.ofString "tables_behind") 30, dfn (PySem.Str.ofString "_law_hash") 32, dfn (PySem.Str.ofString "_law_random") 33, dfn (PySem.Str.ofString "_law_cell") 34, dfn (PySem.Str.ofString "_law_generator") 35, dfn (PySem.Str.ofString "_law_pick") 36, dfn (PySem.Str.ofString "_law_frac") 37, dfn (PySem.Str.ofString "_law_add") 38, dfn (PySem.Str.ofString "_law_mul") 39, dfn (PySem.Str.ofString "_law_exact") 40, dfn (PySem.Str.ofString "_law_lists") 41, dfn (PySem.Str.ofString "_law_own") 42, dfn (PySem.Str.ofString "_law_chances") 43, dfn (PySem.Str.ofString "_law_look") 44, dfn (PySem.Str.ofString "_law_table") 45, dfn (PySem.Str.ofString "_law_total") 46, dfn (PySem.Str.ofString "_law_product") 47, dfn (PySem.Str.ofString "_law_blurred") 48, dfn (PySem.Str.ofString "_law_bad_look") 49, dfn (PySem.Str.ofString "_law_caught") 50]
def fn1 : List He.DefD := [dfn (PySem.Str.ofString "_law_behind_both") 51, dfn (PySem.Str.ofString "_law_bad_table") 52, dfn (PySem.Str.ofString "law") 53]
def fn : List He.DefD := fn0 ++ fn1
def fa : List He.Fa := []
def names0 : List PySem.Str := [PySem.Str.ofString "LookError", PySem.Str.ofString "InvalidLook", PySem.Str.ofString "InvalidTable", PySem.Str.ofString "Unlike", PySem.Str.ofString "is_whole", PySem.Str.ofString "common_divisor", PySem.Str.ofString "lowest", PySem.Str.ofString "is_fraction", PySem.Str.ofString "is_amount", PySem.Str.ofString "plus", PySem.Str.ofString "times", PySem.Str.ofString "summed", PySem.Str.ofString "are_chances", PySem.Str.ofString "product", PySem.Str.ofString "MOST_STANDINGS", PySem.Str.ofString "MOST_MARKS", PySem.Str.ofString "is_look_by", PySem.Str.ofString "check_look", PySem.Str.ofString "marks_of", PySem.Str.ofString "is_table_by"]
def names1 : List PySem.Str := [PySem.Str.ofString "is_any_table", PySem.Str.ofString "check_table", PySem.Str.ofString "through", PySem.Str.ofString "blurred_by", PySem.Str.ofString "blurred", PySem.Str.ofString "check_any_table", PySem.Str.ofString "tables_behind", PySem.Str.ofString "_law_hash", PySem.Str.ofString "_law_random", PySem.Str.ofString "_law_cell", PySem.Str.ofString "_law_generator", PySem.Str.ofString "_law_pick", PySem.Str.ofString "_law_frac", PySem.Str.ofString "_law_add", PySem.Str.ofString "_law_mul", PySem.Str.ofString "_law_exact", PySem.Str.ofString "_law_lists", PySem.Str.ofString "_law_own", PySem.Str.ofString "_law_chances", PySem.Str.ofString "_law_look"]
def names2 : List PySem.Str := [PySem.Str.ofString "_law_table", PySem.Str.ofString "_law_total", PySem.Str.ofString "_law_product", PySem.Str.ofString "_law_blurred", PySem.Str.ofString "_law_bad_look", PySem.Str.ofString "_law_caught", PySem.Str.ofString "_law_behind_both", PySem.Str.ofString "_law_bad_table"]
def names : List PySem.Str := names0 ++ names1 ++ names2
abbrev R : PySem.W.OpenRow := PySem.W.OpenLaw.row PySem.Challenge.rw_lookstell_k03_whole_looks_blurred
def dLaw : DefRec := HandSHeadRun.topDef R.prog 53
def qv : Program := PySem.W.view R.prog [53]
abbrev hk : PySem.W.Hook := hookE nm C 5 fa fn
def ob (s : PySem.W.SharedT) : AlE := obsE nm C 5 fa fn (HandSHeadRun.getT s)
theorem ob_eq (s : PySem.W.SharedT) : ob s = hk.obs s.abs := obsE_eq (HandSHeadRun.getT_eq s)
theorem runH (w : World) : HandSHeadRun.RunEq R qv hk ob 8000 names w := by
  intro os
  kernel_rfl
theorem kw_all0 : True := trivial
theorem kw_all1 {T : Tb} {f : Fid} {P : Nat → List PySem.Str → List Nat → Prop} {e0 : Nat × List PySem.Str × List Nat} (h : kwOf T f = [e0]) (he0 : P e0.1 e0.2.1 e0.2.2) : ∀ i ks perm, (i, ks, perm) ∈ kwOf T f → P i ks perm := by
  intro i ks perm hm
  rw [h] at hm
  simp only [List.mem_cons, List.not_mem_nil, or_false] at hm
  rcases hm with rfl
  · exact he0
theorem kwf0 : kwOf tbT 0 = [] := by decide +kernel
theorem kwf1 : kwOf tbT 1 = [] := by decide +kernel
theorem kwf2 : kwOf tbT 2 = [] := by decide +kernel
theorem kwf3 : kwOf tbT 3 = [] := by decide +kernel
theorem kwf4 : kwOf tbT 4 = [] := by decide +kernel
theorem kwf5 : kwOf tbT 5 = [] := by decide +kernel
theorem kwf6 : kwOf tbT 6 = [] := by decide +kernel
theorem kwf7 : kwOf tbT 7 = [] := by decide +kernel
theorem kwf8 : kwOf tbT 8 = [] := by decide +kernel
theorem kwf9 : kwOf tbT 9 = [] := by decide +kernel
theorem kwf10 : kwOf tbT 10 = [] := by decide +kernel
theorem kwf11 : kwOf tbT 11 = [] := by decide +kernel
theorem kwf12 : kwOf tbT 12 = [] := by decide +kernel
theorem kwf13 : kwOf tbT 13 = [] := by decide +kernel
theorem kwf14 : kwOf tbT 14 = [] := by decide +kernel
theorem kwf15 : kwOf tbT 15 = [] := by decide +kernel
theorem kwf16 : kwOf tbT 16 = [] := by decide +kernel
theorem kwf17 : kwOf tbT 17 = [] := by decide +kernel
theorem kwf18 : kwOf tbT 18 = [(0, [PySem.Str.ofString "table", PySem.Str.ofString "look"], [1, 0])] := by decide +kernel
theorem kwf19 : kwOf tbT 19 = [] := by decide +kernel
theorem kwf20 : kwOf tbT 20 = [(0, [PySem.Str.ofString "other", PySem.Str.ofString "one"], [1, 0])] := by decide +kernel
theorem kwf21 : kwOf tbT 21 = [] := by decide +kernel
theorem kwf22 : kwOf tbT 22 = [] := by decide +kernel
theorem kwf23 : kwOf tbT 23 = [] := by decide +kernel
theorem kwf24 : kwOf tbT 24 = [] := by decide +kernel
theorem kwf25 : kwOf tbT 25 = [] := by decide +kernel
theorem kwf26 : kwOf tbT 26 = [] := by decide +kernel
theorem kwf27 : kwOf tbT 27 = [] := by decide +kernel
theorem kwf28 : kwOf tbT 28 = [] := by decide +kernel
theorem kwf29 : kwOf tbT 29 = [] := by decide +kernel
theorem kwf30 : kwOf tbT 30 = [] := by decide +kernel
theorem kwf31 : kwOf tbT 31 = [] := by decide +kernel
theorem kwf32 : kwOf tbT 32 = [] := by decide +kernel
theorem kwf33 : kwOf tbT 33 = [] := by decide +kernel
theorem kwf34 : kwOf tbT 34 = [] := by decide +kernel
theorem kwf35 : kwOf tbT 35 = [] := by decide +kernel
theorem kwf36 : kwOf tbT 36 = [] := by decide +kernel
theorem kwf37 : kwOf tbT 37 = [] := by decide +kernel
theorem kwf38 : kwOf tbT 38 = [] := by decide +kernel
theorem kwf39 : kwOf tbT 39 = [] := by decide +kernel
theorem kwf40 : kwOf tbT 40 = [] := by decide +kernel
theorem kwf41 : kwOf tbT 41 = [] := by decide +kernel
theorem kwf42 : kwOf tbT 42 = [] := by decide +kernel
theorem kwf43 : kwOf tbT 43 = [] := by decide +kernel
theorem kwf44 : kwOf tbT 44 = [] := by decide +kernel
theorem kwf45 : kwOf tbT 45 = [] := by decide +kernel
theorem kwf46 : kwOf tbT 46 = [] := by decide +kernel
section
variable {P : Program} {w : World} {K : PySem.W.Frag} {mg : PySem.Str → Option Value} {b : Heap}
theorem fdA (c : He.SaysD fa fn K) : ∀ f, f < 47 → PySem.W.keepIn K (.ref (He.ga K (nm.f f))) = true ∧ FdOk (gOf nm P w K mg b) tbT tbl f
  | 0, _ => by
    obtain ⟨fd, Fd⟩ := c.def_ 0 (d := dfn (PySem.Str.ofString "is_whole") 6) (by rfl)
    exact ⟨Fd.kp, fd_of (df := df_is_whole) Fd rfl sc0 rfl rfl rfl (by decide) ck0 (fun _ _ _ _ _ _ us hl => match us, hl with | [_], _ => rfl) (fun i ks pm hm => absurd (show (i, ks, pm) ∈ ([] : List (Nat × List PySem.Str × List Nat)) from (kwf0 ▸ hm)) List.not_mem_nil)⟩
  | 1, _ => by
    obtain ⟨fd, Fd⟩ := c.def_ 1 (d := dfn (PySem.Str.ofString "common_divisor") 7) (by rfl)
    exact ⟨Fd.kp, fd_of (df := df_common_divisor) Fd rfl sc1 rfl rfl rfl (by decide) ck1 (fun _ _ _ _ _ _ us hl => match us, hl with | [_, _], _ => rfl) (fun i ks pm hm => absurd (show (i, ks, pm) ∈ ([] : List (Nat × List PySem.Str × List Nat)) from (kwf1 ▸ hm)) List.not_mem_nil)⟩
  | 2, _ => by
    obtain ⟨fd, Fd⟩ := c.def_ 2 (d := dfn (PySem.Str.ofString "lowest") 8) (by rfl)
    exact ⟨Fd.kp, fd_of (df := df_lowest) Fd rfl sc2 rfl rfl rfl (by decide) ck2 (fun _ _ _ _ _ _ us hl => match us, hl with | [_, _], _ => rfl) (fun i ks pm hm => absurd (show (i, ks, pm) ∈ ([] : List (Nat × List PySem.Str × List Nat)) from (kwf2 ▸ hm)) List.not_mem_nil)⟩
  | 3, _ => by
    obtain ⟨fd, Fd⟩ := c.def_ 3 (d := dfn (PySem.Str.ofString "is_fraction") 9) (by rfl)
    exact ⟨Fd.kp, fd_of (df := df_is_fraction) Fd rfl sc3 rfl rfl rfl (by decide) ck3 (fun _ _ _ _ _ _ us hl => match us, hl with | [_], _ => rfl) (fun i ks pm hm => absurd (show (i, ks, pm) ∈ ([] : List (Nat × List PySem.Str × List Nat)) from (kwf3 ▸ hm)) List.not_mem_nil)⟩
  | 4, _ => by
    obtain ⟨fd, Fd⟩ := c.def_ 4 (d := dfn (PySem.Str.ofString "is_amount") 10) (by rfl)
    exact ⟨Fd.kp, fd_of (df := df_is_amount) Fd rfl sc4 rfl rfl rfl (by decide) ck4 (fun _ _ _ _ _ _ us hl => match us, hl with | [_], _ => rfl) (fun i ks pm hm => absurd (show (i, ks, pm) ∈ ([] : List (Nat × List PySem.Str × List Nat)) from (kwf4 ▸ hm)) List.not_mem_nil)⟩
  | 5, _ => by
    obtain ⟨fd, Fd⟩ := c.def_ 5 (d := dfn (PySem.Str.ofString "plus") 11) (by rfl)
    exact ⟨Fd.kp, fd_of (df := df_plus) Fd rfl sc5 rfl rfl rfl (by decide) ck5 (fun _ _ _ _ _ _ us hl => match us, hl with | [_, _], _ => rfl) (fun i ks pm hm => absurd (show (i, ks, pm) ∈ ([] : List (Nat × List PySem.Str × List Nat)) from (kwf5 ▸ hm)) List.not_mem_nil)⟩
  | 6, _ => by
    obtain ⟨fd, Fd⟩ := c.def_ 6 (d := dfn (PySem.Str.ofString "times") 12) (by rfl)
    exact ⟨Fd.kp, fd_of (df := df_times) Fd rfl sc6 rfl rfl rfl (by decide) ck6 (fun _ _ _ _ _ _ us hl => match us, hl with | [_, _], _ => rfl) (fun i ks pm hm => absurd (show (i, ks, pm) ∈ ([] : List (Nat × List PySem.Str × List Nat)) from (kwf6 ▸ hm)) List.not_mem_nil)⟩
  | 7, _ => by
    obtain ⟨fd, Fd⟩ := c.def_ 7 (d := dfn (PySem.Str.ofString "summed") 13) (by rfl)
    exact ⟨Fd.kp, fd_of (df := df_summed) Fd rfl sc7 rfl rfl rfl (by decide) ck7 (fun _ _ _ _ _ _ us hl => match us, hl with | [_], _ => rfl) (fun i ks pm hm => absurd (show (i, ks, pm) ∈ ([] : List (Nat × List PySem.Str × List Nat)) from (kwf7 ▸ hm)) List.not_mem_nil)⟩
  | 8, _ => by
    obtain ⟨fd, Fd⟩ := c.def_ 8 (d := dfn (PySem.Str.ofString "are_chances") 14) (by rfl)
    exact ⟨Fd.kp, fd_of (df := df_are_chances) Fd rfl sc8 rfl rfl rfl (by decide) ck8 (fun _ _ _ _ _ _ us hl => match us, hl with | [_, _], _ => rfl) (fun i ks pm hm => absurd (show (i, ks, pm) ∈ ([] : List (Nat × List PySem.Str × List Nat)) from (kwf8 ▸ hm)) List.not_mem_nil)⟩
  | 9, _ => by
    obtain ⟨fd, Fd⟩ := c.def_ 9 (d := dfn (PySem.Str.ofString "product") 15) (by rfl)
    exact ⟨Fd.kp, fd_of (df := df_product) Fd rfl sc9 rfl rfl rfl (by decide) ck9 (fun _ _ _ _ _ _ us hl => match us, hl with | [_, _], _ => rfl) (fun i ks pm hm => absurd (show (i, ks, pm) ∈ ([] : List (Nat × List PySem.Str × List Nat)) from (kwf9 ▸ hm)) List.not_mem_nil)⟩
  | 10, _ => by
    obtain ⟨fd, Fd⟩ := c.def_ 10 (d := dfn (PySem.Str.ofString "is_look_by") 19) (by rfl)
    exact ⟨Fd.kp, fd_of (df := df_is_look_by) Fd rfl sc10 rfl rfl rfl (by decide) ck10 (fun _ _ _ _ _ _ us hl => match us, hl with | [_], _ => rfl) (fun i ks pm hm => absurd (show (i, ks, pm) ∈ ([] : List (Nat × List PySem.Str × List Nat)) from (kwf10 ▸ hm)) List.not_mem_nil)⟩
  | 11, _ => by
    obtain ⟨fd, Fd⟩ := c.def_ 11 (d := dfn (PySem.Str.ofString "check_look") 20) (by rfl)
    exact ⟨Fd.kp, fd_of (df := df_check_look) Fd rfl sc11 rfl rfl rfl (by decide) ck11 (fun _ _ _ _ _ _ us hl => match us, hl with | [_], _ => rfl) (fun i ks pm hm => absurd (show (i, ks, pm) ∈ ([] : List (Nat × List PySem.Str × List Nat)) from (kwf11 ▸ hm)) List.not_mem_nil)⟩
  | 12, _ => by
    obtain ⟨fd, Fd⟩ := c.def_ 12 (d := dfn (PySem.Str.ofString "marks_of") 21) (by rfl)
    exact ⟨Fd.kp, fd_of (df := df_marks_of) Fd rfl sc12 rfl rfl rfl (by decide) ck12 (fun _ _ _ _ _ _ us hl => match us, hl with | [_], _ => rfl) (fun i ks pm hm => absurd (show (i, ks, pm) ∈ ([] : List (Nat × List PySem.Str × List Nat)) from (kwf12 ▸ hm)) List.not_mem_nil)⟩
  | 13, _ => by
    obtain ⟨fd, Fd⟩ := c.def_ 13 (d := dfn (PySem.Str.ofString "is_table_by") 22) (by rfl)
    exact ⟨Fd.kp, fd_of (df := df_is_table_by) Fd rfl sc13 rfl rfl rfl (by decide) ck13 (fun _ _ _ _ _ _ us hl => match us, hl with | [_, _, _], _ => rfl) (fun i ks pm hm => absurd (show (i, ks, pm) ∈ ([] : List (Nat × List PySem.Str × List Nat)) from (kwf13 ▸ hm)) List.not_mem_nil)⟩
  | 14, _ => by
    obtain ⟨fd, Fd⟩ := c.def_ 14 (d := dfn (PySem.Str.ofString "is_any_table") 23) (by rfl)
    exact ⟨Fd.kp, fd_of (df := df_is_any_table) Fd rfl sc14 rfl rfl rfl (by decide) ck14 (fun _ _ _ _ _ _ us hl => match us, hl with | [_, _], _ => rfl) (fun i ks pm hm => absurd (show (i, ks, pm) ∈ ([] : List (Nat × List PySem.Str × List Nat)) from (kwf14 ▸ hm)) List.not_mem_nil)⟩
  | 15, _ => by
    obtain ⟨fd, Fd⟩ := c.def_ 15 (d := dfn (PySem.Str.ofString "check_table") 24) (by rfl)
    exact ⟨Fd.kp, fd_of (df := df_check_table) Fd rfl sc15 rfl rfl rfl (by decide) ck15 (fun _ _ _ _ _ _ us hl => match us, hl with | [_, _], _ => rfl) (fun i ks pm hm => absurd (show (i, ks, pm) ∈ ([] : List (Nat × List PySem.Str × List Nat)) from (kwf15 ▸ hm)) List.not_mem_nil)⟩
  | 16, _ => by
    obtain ⟨fd, Fd⟩ := c.def_ 16 (d := dfn (PySem.Str.ofString "through") 26) (by rfl)
    exact ⟨Fd.kp, fd_of (df := df_through) Fd rfl sc16 rfl rfl rfl (by decide) ck16 (fun _ _ _ _ _ _ us hl => match us, hl with | [_, _], _ => rfl) (fun i ks pm hm => absurd (show (i, ks, pm) ∈ ([] : List (Nat × List PySem.Str × List Nat)) from (kwf16 ▸ hm)) List.not_mem_nil)⟩
  | 17, _ => by
    obtain ⟨fd, Fd⟩ := c.def_ 17 (d := dfn (PySem.Str.ofString "blurred_by") 27) (by rfl)
    exact ⟨Fd.kp, fd_of (df := df_blurred_by) Fd rfl sc17 rfl rfl rfl (by decide) ck17 (fun _ _ _ _ _ _ us hl => match us, hl with | [_, _], _ => rfl) (fun i ks pm hm => absurd (show (i, ks, pm) ∈ ([] : List (Nat × List PySem.Str × List Nat)) from (kwf17 ▸ hm)) List.not_mem_nil)⟩
  | 18, _ => by
    obtain ⟨fd, Fd⟩ := c.def_ 18 (d := dfn (PySem.Str.ofString "blurred") 28) (by rfl)
    exact ⟨Fd.kp, fd_of (df := df_blurred) Fd rfl sc18 rfl rfl rfl (by decide) ck18 (fun _ _ _ _ _ _ us hl => match us, hl with | [_, _], _ => rfl) (kw_all1 kwf18 (fun _ _ _ _ _ _ us ws h1 h2 => match us, ws, h1, h2 with | [], [_, _], _, _ => rfl))⟩
  | 19, _ => by
    obtain ⟨fd, Fd⟩ := c.def_ 19 (d := dfn (PySem.Str.ofString "check_any_table") 29) (by rfl)
    exact ⟨Fd.kp, fd_of (df := df_check_any_table) Fd rfl sc19 rfl rfl rfl (by decide) ck19 (fun _ _ _ _ _ _ us hl => match us, hl with | [_], _ => rfl) (fun i ks pm hm => absurd (show (i, ks, pm) ∈ ([] : List (Nat × List PySem.Str × List Nat)) from (kwf19 ▸ hm)) List.not_mem_nil)⟩
  | 20, _ => by
    obtain ⟨fd, Fd⟩ := c.def_ 20 (d := dfn (PySem.Str.ofString "tables_behind") 30) (by rfl)
    exact ⟨Fd.kp, fd_of (df := df_tables_behind) Fd rfl sc20 rfl rfl rfl (by decide) ck20 (fun _ _ _ _ _ _ us hl => match us, hl with | [_, _], _ => rfl) (kw_all1 kwf20 (fun _ _ _ _ _ _ us ws h1 h2 => match us, ws, h1, h2 with | [], [_, _], _, _ => rfl))⟩
  | 21, _ => by
    obtain ⟨fd, Fd⟩ := c.def_ 21 (d := dfn (PySem.Str.ofString "_law_hash") 32) (by rfl)
    exact ⟨Fd.kp, fd_of (df := df__law_hash) Fd rfl sc21 rfl rfl rfl (by decide) ck21 (fun _ _ _ _ _ _ us hl => match us, hl with | [_, _], _ => rfl) (fun i ks pm hm => absurd (show (i, ks, pm) ∈ ([] : List (Nat × List PySem.Str × List Nat)) from (kwf21 ▸ hm)) List.not_mem_nil)⟩
  | 22, _ => by
    obtain ⟨fd, Fd⟩ := c.def_ 22 (d := dfn (PySem.Str.ofString "_law_random") 33) (by rfl)
    exact ⟨Fd.kp, fd_of (df := df__law_random) Fd rfl sc22 rfl rfl rfl (by decide) ck22 (fun _ _ _ _ _ _ us hl => match us, hl with | [_, _], _ => rfl) (fun i ks pm hm => absurd (show (i, ks, pm) ∈ ([] : List (Nat × List PySem.Str × List Nat)) from (kwf22 ▸ hm)) List.not_mem_nil)⟩
  | 23, _ => by
    obtain ⟨fd, Fd⟩ := c.def_ 23 (d := dfn (PySem.Str.ofString "_law_cell") 34) (by rfl)
    exact ⟨Fd.kp, fd_of (df := df__law_cell) Fd rfl sc23 rfl rfl rfl (by decide) ck23 (fun _ _ _ _ _ _ us hl => match us, hl with | [_, _], _ => rfl) (fun i ks pm hm => absurd (show (i, ks, pm) ∈ ([] : List (Nat × List PySem.Str × List Nat)) from (kwf23 ▸ hm)) List.not_mem_nil)⟩
  | 24, _ => by
    obtain ⟨fd, Fd⟩ := c.def_ 24 (d := dfn (PySem.Str.ofString "_law_generator") 35) (by rfl)
    exact ⟨Fd.kp, fd_of (df := df__law_generator) Fd rfl sc24 rfl rfl rfl (by decide) ck24 (fun _ _ _ _ _ _ us hl => match us, hl with | [_, _], _ => rfl) (fun i ks pm hm => absurd (show (i, ks, pm) ∈ ([] : List (Nat × List PySem.Str × List Nat)) from (kwf24 ▸ hm)) List.not_mem_nil)⟩
  | 25, _ => by
    obtain ⟨fd, Fd⟩ := c.def_ 25 (d := dfn (PySem.Str.ofString "_law_pick") 36) (by rfl)
    exact ⟨Fd.kp, fd_of (df := df__law_pick) Fd rfl sc25 rfl rfl rfl (by decide) ck25 (fun _ _ _ _ _ _ us hl => match us, hl with | [_, _], _ => rfl) (fun i ks pm hm => absurd (show (i, ks, pm) ∈ ([] : List (Nat × List PySem.Str × List Nat)) from (kwf25 ▸ hm)) List.not_mem_nil)⟩
  | 26, _ => by
    obtain ⟨fd, Fd⟩ := c.def_ 26 (d := dfn (PySem.Str.ofString "_law_frac") 37) (by rfl)
    exact ⟨Fd.kp, fd_of (df := df__law_frac) Fd rfl sc26 rfl rfl rfl (by decide) ck26 (fun _ _ _ _ _ _ us hl => match us, hl with | [_, _], _ => rfl) (fun i ks pm hm => absurd (show (i, ks, pm) ∈ ([] : List (Nat × List PySem.Str × List Nat)) from (kwf26 ▸ hm)) List.not_mem_nil)⟩
  | 27, _ => by
    obtain ⟨fd, Fd⟩ := c.def_ 27 (d := dfn (PySem.Str.ofString "_law_add") 38) (by rfl)
    exact ⟨Fd.kp, fd_of (df := df__law_add) Fd rfl sc27 rfl rfl rfl (by decide) ck27 (fun _ _ _ _ _ _ us hl => match us, hl with | [_, _], _ => rfl) (fun i ks pm hm => absurd (show (i, ks, pm) ∈ ([] : List (Nat × List PySem.Str × List Nat)) from (kwf27 ▸ hm)) List.not_mem_nil)⟩
  | 28, _ => by
    obtain ⟨fd, Fd⟩ := c.def_ 28 (d := dfn (PySem.Str.ofString "_law_mul") 39) (by rfl)
    exact ⟨Fd.kp, fd_of (df := df__law_mul) Fd rfl sc28 rfl rfl rfl (by decide) ck28 (fun _ _ _ _ _ _ us hl => match us, hl with | [_, _], _ => rfl) (fun i ks pm hm => absurd (show (i, ks, pm) ∈ ([] : List (Nat × List PySem.Str × List Nat)) from (kwf28 ▸ hm)) List.not_mem_nil)⟩
  | 29, _ => by
    obtain ⟨fd, Fd⟩ := c.def_ 29 (d := dfn (PySem.Str.ofString "_law_exact") 40) (by rfl)
    exact ⟨Fd.kp, fd_of (df := df__law_exact) Fd rfl sc29 rfl rfl rfl (by decide) ck29 (fun _ _ _ _ _ _ us hl => match us, hl with | [_, _], _ => rfl) (fun i ks pm hm => absurd (show (i, ks, pm) ∈ ([] : List (Nat × List PySem.Str × List Nat)) from (kwf29 ▸ hm)) List.not_mem_nil)⟩
  | 30, _ => by
    obtain ⟨fd, Fd⟩ := c.def_ 30 (d := dfn (PySem.Str.ofString "_law_lists") 41) (by rfl)
    exact ⟨Fd.kp, fd_of (df := df__law_lists) Fd rfl sc30 rfl rfl rfl (by decide) ck30 (fun _ _ _ _ _ _ us hl => match us, hl with | [_], _ => rfl) (fun i ks pm hm => absurd (show (i, ks, pm) ∈ ([] : List (Nat × List PySem.Str × List Nat)) from (kwf30 ▸ hm)) List.not_mem_nil)⟩
  | 31, _ => by
    obtain ⟨fd, Fd⟩ := c.def_ 31 (d := dfn (PySem.Str.ofString "_law_own") 42) (by rfl)
    exact ⟨Fd.kp, fd_of (df := df__law_own) Fd rfl sc31 rfl rfl rfl (by decide) ck31 (fun _ _ _ _ _ _ us hl => match us, hl with | [_, _, _], _ => rfl) (fun i ks pm hm => absurd (show (i, ks, pm) ∈ ([] : List (Nat × List PySem.Str × List Nat)) from (kwf31 ▸ hm)) List.not_mem_nil)⟩
  | 32, _ => by
    obtain ⟨fd, Fd⟩ := c.def_ 32 (d := dfn (PySem.Str.ofString "_law_chances") 43) (by rfl)
    exact ⟨Fd.kp, fd_of (df := df__law_chances) Fd rfl sc32 rfl rfl rfl (by decide) ck32 (fun _ _ _ _ _ _ us hl => match us, hl with | [_, _], _ => rfl) (fun i ks pm hm => absurd (show (i, ks, pm) ∈ ([] : List (Nat × List PySem.Str × List Nat)) from (kwf32 ▸ hm)) List.not_mem_nil)⟩
  | 33, _ => by
    obtain ⟨fd, Fd⟩ := c.def_ 33 (d := dfn (PySem.Str.ofString "_law_look") 44) (by rfl)
    exact ⟨Fd.kp, fd_of (df := df__law_look) Fd rfl sc33 rfl rfl rfl (by decide) ck33 (fun _ _ _ _ _ _ us hl => match us, hl with | [_, _, _], _ => rfl) (fun i ks pm hm => absurd (show (i, ks, pm) ∈ ([] : List (Nat × List PySem.Str × List Nat)) from (kwf33 ▸ hm)) List.not_mem_nil)⟩
  | 34, _ => by
    obtain ⟨fd, Fd⟩ := c.def_ 34 (d := dfn (PySem.Str.ofString "_law_table") 45) (by rfl)
    exact ⟨Fd.kp, fd_of (df := df__law_table) Fd rfl sc34 rfl rfl rfl (by decide) ck34 (fun _ _ _ _ _ _ us hl => match us, hl with | [_, _, _], _ => rfl) (fun i ks pm hm => absurd (show (i, ks, pm) ∈ ([] : List (Nat × List PySem.Str × List Nat)) from (kwf34 ▸ hm)) List.not_mem_nil)⟩
  | 35, _ => by
    obtain ⟨fd, Fd⟩ := c.def_ 35 (d := dfn (PySem.Str.ofString "_law_total") 46) (by rfl)
    exact ⟨Fd.kp, fd_of (df := df__law_total) Fd rfl sc35 rfl rfl rfl (by decide) ck35 (fun _ _ _ _ _ _ us hl => match us, hl with | [_], _ => rfl) (fun i ks pm hm => absurd (show (i, ks, pm) ∈ ([] : List (Nat × List PySem.Str × List Nat)) from (kwf35 ▸ hm)) List.not_mem_nil)⟩
  | 36, _ => by
    obtain ⟨fd, Fd⟩ := c.def_ 36 (d := dfn (PySem.Str.ofString "_law_product") 47) (by rfl)
    exact ⟨Fd.kp, fd_of (df := df__law_product) Fd rfl sc36 rfl rfl rfl (by decide) ck36 (fun _ _ _ _ _ _ us hl => match us, hl with | [_, _], _ => rfl) (fun i ks pm hm => absurd (show (i, ks, pm) ∈ ([] : List (Nat × List PySem.Str × List Nat)) from (kwf36 ▸ hm)) List.not_mem_nil)⟩
  | 37, _ => by
    obtain ⟨fd, Fd⟩ := c.def_ 37 (d := dfn (PySem.Str.ofString "_law_blurred") 48) (by rfl)
    exact ⟨Fd.kp, fd_of (df := df__law_blurred) Fd rfl sc37 rfl rfl rfl (by decide) ck37 (fun _ _ _ _ _ _ us hl => match us, hl with | [_, _], _ => rfl) (fun i ks pm hm => absurd (show (i, ks, pm) ∈ ([] : List (Nat × List PySem.Str × List Nat)) from (kwf37 ▸ hm)) List.not_mem_nil)⟩
  | 38, _ => by
    obtain ⟨fd, Fd⟩ := c.def_ 38 (d := dfn (PySem.Str.ofString "_law_bad_look") 49) (by rfl)
    exact ⟨Fd.kp, fd_of (df := df__law_bad_look) Fd rfl sc38 rfl rfl rfl (by decide) ck38 (fun _ _ _ _ _ _ us hl => match us, hl with | [_, _], _ => rfl) (fun i ks pm hm => absurd (show (i, ks, pm) ∈ ([] : List (Nat × List PySem.Str × List Nat)) from (kwf38 ▸ hm)) List.not_mem_nil)⟩
  | 39, _ => by
    obtain ⟨fd, Fd⟩ := c.def_ 39 (d := dfn (PySem.Str.ofString "_law_caught") 50) (by rfl)
    exact ⟨Fd.kp, fd_of (df := df__law_caught) Fd rfl sc39 rfl rfl rfl (by decide) ck39 (fun _ _ _ _ _ _ us hl => match us, hl with | [_, _], _ => rfl) (fun i ks pm hm => absurd (show (i, ks, pm) ∈ ([] : List (Nat × List PySem.Str × List Nat)) from (kwf39 ▸ hm)) List.not_mem_nil)⟩
  | 40, _ => by
    obtain ⟨fd, Fd⟩ := c.def_ 40 (d := dfn (PySem.Str.ofString "_law_behind_both") 51) (by rfl)
    exact ⟨Fd.kp, fd_of (df := df__law_behind_both) Fd rfl sc40 rfl rfl rfl (by decide) ck40 (fun _ _ _ _ _ _ us hl => match us, hl with | [_, _], _ => rfl) (fun i ks pm hm => absurd (show (i, ks, pm) ∈ ([] : List (Nat × List PySem.Str × List Nat)) from (kwf40 ▸ hm)) List.not_mem_nil)⟩
  | 41, _ => by
    obtain ⟨fd, Fd⟩ := c.def_ 41 (d := dfn (PySem.Str.ofString "_law_bad_table") 52) (by rfl)
    exact ⟨Fd.kp, fd_of (df := df__law_bad_table) Fd rfl sc41 rfl rfl rfl (by decide) ck41 (fun _ _ _ _ _ _ us hl => match us, hl with | [_, _], _ => rfl) (fun i ks pm hm => absurd (show (i, ks, pm) ∈ ([] : List (Nat × List PySem.Str × List Nat)) from (kwf41 ▸ hm)) List.not_mem_nil)⟩
  | 42, _ => by
    obtain ⟨fd, Fd⟩ := c.def_ 42 (d := dfn (PySem.Str.ofString "law") 53) (by rfl)
    exact ⟨Fd.kp, fd_of (df := df_law) Fd rfl sc42 rfl rfl rfl (by decide) ck42 (fun _ _ _ _ _ _ us hl => match us, hl with | [_], _ => rfl) (fun i ks pm hm => absurd (show (i, ks, pm) ∈ ([] : List (Nat × List PySem.Str × List Nat)) from (kwf42 ▸ hm)) List.not_mem_nil)⟩
  | 43, _ => by
    obtain ⟨fd, Fd⟩ := c.def_ 18 (d := dfn (PySem.Str.ofString "blurred") 28) (by rfl)
    exact ⟨Fd.kp, fd_of (df := df_blurred_d) Fd rfl sc43 rfl rfl rfl (by decide) ck43 (fun _ _ _ _ _ _ us hl => match us, hl with | [_, _], _ => rfl) (fun i ks pm hm => absurd (show (i, ks, pm) ∈ ([] : List (Nat × List PySem.Str × List Nat)) from (kwf43 ▸ hm)) List.not_mem_nil)⟩
  | 44, _ => by
    obtain ⟨fd, Fd⟩ := c.def_ 20 (d := dfn (PySem.Str.ofString "tables_behind") 30) (by rfl)
    exact ⟨Fd.kp, fd_of (df := df_tables_behind_d) Fd rfl sc44 rfl rfl rfl (by decide) ck44 (fun _ _ _ _ _ _ us hl => match us, hl with | [_, _], _ => rfl) (fun i ks pm hm => absurd (show (i, ks, pm) ∈ ([] : List (Nat × List PySem.Str × List Nat)) from (kwf44 ▸ hm)) List.not_mem_nil)⟩
  | 45, _ => by
    obtain ⟨fd, Fd⟩ := c.def_ 17 (d := dfn (PySem.Str.ofString "blurred_by") 27) (by rfl)
    exact ⟨Fd.kp, fd_of (df := df_blurred_by_d) Fd rfl sc45 rfl rfl rfl (by decide) ck45 (fun _ _ _ _ _ _ us hl => match us, hl with | [_, _], _ => rfl) (fun i ks pm hm => absurd (show (i, ks, pm) ∈ ([] : List (Nat × List PySem.Str × List Nat)) from (kwf45 ▸ hm)) List.not_mem_nil)⟩
  | 46, _ => by
    obtain ⟨fd, Fd⟩ := c.def_ 16 (d := dfn (PySem.Str.ofString "through") 26) (by rfl)
    exact ⟨Fd.kp, fd_of (df := df_through_d) Fd rfl sc46 rfl rfl rfl (by decide) ck46 (fun _ _ _ _ _ _ us hl => match us, hl with | [_, _], _ => rfl) (fun i ks pm hm => absurd (show (i, ks, pm) ∈ ([] : List (Nat × List PySem.Str × List Nat)) from (kwf46 ▸ hm)) List.not_mem_nil)⟩
  | k + 47, h => absurd h (Nat.not_lt_of_le (Nat.le_add_left ..))
end
theorem g_e : PySem.W.opening R.prog = PySem.W.plainProg R.prog.main.scope.names := by kernel_rfl
theorem g_f : ∀ s, fenceModules? R.prog s = some s := fun s => by kernel_rfl
theorem g_def : PySem.W.defOf qv R.name = some (dLaw, []) := by kernel_rfl
theorem g_p : R.prog.theDef R.name = some (dLaw.params, dLaw.body, dLaw.scope) := by kernel_rfl
theorem g_kw : PySem.W.kwWritten? dLaw.params.kwonlyargs dLaw.params.kw_defaults = some [] := by kernel_rfl
theorem g_wr : (!R.writes || R.records.isEmpty) = true := by rfl
theorem g_k1 : R.wellSaid = true := by decide +kernel
theorem g_ok : (PySem.W.chainsOk qv && PySem.W.opensWell R.prog && (PySem.W.frees R.toRowW && R.within.isEmpty)) = true := by decide +kernel
theorem g_b : R.prog.bare := ⟨rfl, rfl, rfl, rfl, rfl, by decide +kernel⟩
theorem g_hw : R.toRowW.promised := by w_witness2
theorem g_most : (PySem.Challenge.rw_lookstell_k03_whole_looks_blurred).most = some 63 := by kernel_rfl
theorem g_dfl : dLaw.params.defaults = [] := by kernel_rfl
theorem g_name : dLaw.name = ("law" : PySem.Str) := by kernel_rfl
theorem g_file : R.prog.main.file = flS := by kernel_rfl
theorem g_su : nm.gl.lookup ("super" : PySem.Str) = some .blt := by kernel_rfl
theorem g_tp : (R.prog.main.scope.names.lookup ("super" : PySem.Str)).isSome = false := by kernel_rfl
theorem g_er {wo : World} {K : PySem.W.Frag} {gm : PySem.Str → Option Value} {h : Heap} (T0 : TbOk (gOf nm R.prog wo K gm h) tbT) : nm.cs.length = 0 ∨ (R.prog.main.file = flS ∧ gm "super" = none ∧ (R.prog.main.scope.names.lookup ("super" : PySem.Str)).isSome = false) := .inr ⟨g_file, T0.blt _ g_su, g_tp⟩
theorem g_lk : nm.gl.lookup ("law" : PySem.Str) = some (.fn f_law) := by kernel_rfl
theorem g_len : nm.fs.length = 47 := by decide +kernel
theorem g_call (LV : Nat) (hr : Room (LV + 2) callerA) (say : ∀ ns : List Int, ns.length ≤ 63 → run C tbl LV f_law [.scr ns] [] = .ok (.bl true) []) : PySem.W.WalkO qv names (PySem.W.XL qv []) hk.says R.toRowW dLaw [] fun f vs => PySem.call f vs := by
  refine walk_g (l := PySem.Challenge.rw_lookstell_k03_whole_looks_blurred) (nm := 63) (kk := LV) g_most (by decide) g_dfl hr ?F
  intro wo gm fa' h Y N hmg0
  obtain ⟨K, KX, c, e⟩ := Y
  rw [g_name] at hmg0
  have keep : ∀ f, f < nm.fs.length → PySem.W.keepIn K (.ref (He.ga K (nm.f f))) = true := fun f hf => (fdA (P := R.prog) (w := wo) (mg := gm) (b := h) c f (by rw [← g_len]; exact hf)).1
  have T0 : TbOk (gOf nm R.prog wo K gm h) tbT := ex_tb e KX N keep
  have hl : He.ga K (nm.f f_law) = fa' := by
    have q := (T0.fn ("law" : PySem.Str) f_law g_lk).1
    have q2 := hmg0.symm.trans q
    cases q2
    rfl
  have W : ∀ b : Heap, Wk (gOf nm R.prog wo K gm b) C tbT (run C tbl LV) LV := fun b =>
    level (ex_tb (b := b) e KX N keep) (ex_gf e) (ex_sys e) (ex_er e (g_er T0)) (ex_xm e) (fun f hf => (fdA c f (by rw [← g_len]; exact of_decide_eq_true hf)).2) LV
  refine ⟨fun b => gOf nm R.prog wo K gm b, K, run C tbl LV f_law, fun b => ⟨rfl, rfl, rfl, rfl, rfl⟩, KX, say, fun b hb hn => ?_⟩
  obtain ⟨fd, ps, e1, e2⟩ := ((W b).fn f_law (decide_eq_true (p := f_law < nm.fs.length) (by rw [g_len]; decide))).ex
  rw [show (gOf nm R.prog wo K gm b).fa f_law = fa' from hl] at e2
  exact ⟨_, fd, ps, e1, e2⟩
theorem the_end (LV : Nat) (hr : Room (LV + 2) callerA) (say : ∀ ns : List Int, ns.length ≤ 63 → run C tbl LV f_law [.scr ns] [] = .ok (.bl true) []) : R.Holds :=
  HandSHeadRun.head_any (r := R) (q := qv) (H := hk) (ob := ob) (M := 8000) (loose := names) (d := dLaw) (kwd := []) ob_eq g_e g_f runH g_def g_p g_kw g_wr g_k1 g_ok g_b g_hw (g_call LV hr say)
end PyE

set_option maxRecDepth 100000
/-! mathematics: fractions as values -/
namespace PyE
open PySem
def fr (q : Rat) : D := .tup [.int q.num, .int (q.den : Int)]
/-- numbers below 2^n -/
def Bd (n : Nat) (q : Rat) : Prop := q.num.natAbs < 2 ^ n ∧ q.den < 2 ^ n
theorem mulOk_of {i j : Int} {n : Nat} (h1 : i.natAbs < 2 ^ n) (h2 : j.natAbs < 2 ^ n) (hn : n < 40000000) : mulOk i j = true := by
  have h : ∀ k : Nat, k < 2 ^ n → k.log2 < n + 1 := fun k hk => by
    by_cases z : k = 0
    · subst z; rw [show Nat.log2 0 = 0 from by decide]; omega
    · have := (Nat.log2_lt z).mpr hk
      omega
  have a := h _ h1
  have b := h _ h2
  unfold mulOk
  exact decide_eq_true (by omega)
theorem divOk_of {j : Int} (h1 : j.natAbs < 2 ^ 9000) (h2 : j ≠ 0) : divOk j = true := by
  have z : j.natAbs ≠ 0 := by omega
  have := (Nat.log2_lt z).mpr h1
  unfold divOk
  rw [decide_eq_true h2, decide_eq_true this]
  rfl
theorem nat_fmod (a b : Nat) : (a : Int).fmod (b : Int) = ((a % b : Nat) : Int) := by
  rw [Int.fmod_eq_emod_of_nonneg _ (by omega)]; rfl
theorem gcd_step (a b : Nat) (h : 0 < b) : b.gcd (a % b) = a.gcd b := by
  rw [Nat.gcd_comm b, ← Nat.gcd_rec, Nat.gcd_comm]
theorem mod_half (b r : Nat) (h : 0 < r) (hb : r < b) : 2 * (b % r) < b := by
  have h1 := Nat.mod_lt b h
  have h2 := Nat.div_add_mod b r
  have h3 : 1 ≤ b / r := (Nat.one_le_div_iff h).mpr (Nat.le_of_lt hb)
  have h4 : r * 1 ≤ r * (b / r) := Nat.mul_le_mul_left r h3
  omega
theorem natAbs_fdiv_gcd (top : Int) (g : Nat) (h : (g : Int) ∣ top) : top.fdiv g = top / g := by
  rw [Int.fdiv_eq_ediv_of_nonneg _ (by omega)]
/-- a fraction in lowest terms -/
theorem fr_lowest (top : Int) (under : Nat) (h : under ≠ 0) : fr (mkRat top under) = .tup [.int (top.fdiv ((Nat.gcd top.natAbs under : Nat) : Int)), .int ((under : Int).fdiv ((Nat.gcd top.natAbs under : Nat) : Int))] := by
  unfold fr
  rw [Rat.num_mkRat, Rat.den_mkRat, if_neg h, if_neg h]
  rw [Int.fdiv_eq_ediv_of_nonneg _ (by omega), Int.fdiv_eq_ediv_of_nonneg _ (by omega), Nat.gcd_comm]
  rfl
theorem fr_add (a b : Rat) : mkRat (a.num * b.den + b.num * a.den) (a.den * b.den) = a + b := (Rat.add_def' a b).symm
theorem fr_sub (a b : Rat) : mkRat (a.num * b.den - b.num * a.den) (a.den * b.den) = a - b := (Rat.sub_def' a b).symm
theorem fr_mul (a b : Rat) : mkRat (a.num * b.num) (a.den * b.den) = a * b := (Rat.mul_def' a b).symm
theorem Bd.mono {m n : Nat} {q : Rat} (h : Bd m q) (hn : m ≤ n) : Bd n q := by
  have := Nat.pow_le_pow_right (n := 2) (by decide) hn
  exact ⟨Nat.lt_of_lt_of_le h.1 this, Nat.lt_of_lt_of_le h.2 this⟩
theorem mkRat_bd {n : Nat} {top : Int} {under : Nat} (h1 : top.natAbs < 2 ^ n) (h2 : under < 2 ^ n) (h : under ≠ 0) : Bd n (mkRat top under) := by
  refine ⟨?_, ?_⟩
  · rw [Rat.num_mkRat, if_neg h]
    refine Nat.lt_of_le_of_lt ?_ h1
    rw [Int.natAbs_ediv_of_dvd (Int.ofNat_dvd_left.mpr (Nat.gcd_dvd_right ..))]
    exact Nat.div_le_self ..
  · rw [Rat.den_mkRat, if_neg h]
    exact Nat.lt_of_le_of_lt (Nat.div_le_self ..) h2
theorem mul_lt_pow {a b m n : Nat} (h1 : a < 2 ^ m) (h2 : b < 2 ^ n) : a * b < 2 ^ (m + n) := by
  rw [Nat.pow_add]
  exact Nat.mul_lt_mul'' h1 h2
theorem num_add_lt {a b : Rat} {m n : Nat} (ha : Bd m a) (hb : Bd n b) : (a.num * b.den + b.num * a.den).natAbs < 2 ^ (m + n + 1) := by
  have h1 := mul_lt_pow ha.1 hb.2
  have h2 := mul_lt_pow hb.1 ha.2
  rw [Nat.add_comm n m] at h2
  have e1 : (a.num * b.den).natAbs = a.num.natAbs * b.den := by rw [Int.natAbs_mul]; rfl
  have e2 : (b.num * a.den).natAbs = b.num.natAbs * a.den := by rw [Int.natAbs_mul]; rfl
  have := Int.natAbs_add_le (a.num * b.den) (b.num * a.den)
  rw [e1, e2] at this
  rw [Nat.pow_succ]
  omega
theorem num_sub_lt {a b : Rat} {m n : Nat} (ha : Bd m a) (hb : Bd n b) : (a.num * b.den - b.num * a.den).natAbs < 2 ^ (m + n + 1) := by
  have h1 := mul_lt_pow ha.1 hb.2
  have h2 := mul_lt_pow hb.1 ha.2
  rw [Nat.add_comm n m] at h2
  have e1 : (a.num * b.den).natAbs = a.num.natAbs * b.den := by rw [Int.natAbs_mul]; rfl
  have e2 : (b.num * a.den).natAbs = b.num.natAbs * a.den := by rw [Int.natAbs_mul]; rfl
  have := Int.natAbs_sub_le (a.num * b.den) (b.num * a.den)
  rw [e1, e2] at this
  rw [Nat.pow_succ]
  omega
theorem num_mul_lt {a b : Rat} {m n : Nat} (ha : Bd m a) (hb : Bd n b) : (a.num * b.num).natAbs < 2 ^ (m + n) := by
  rw [Int.natAbs_mul]
  exact mul_lt_pow ha.1 hb.1
theorem den_mul_lt {a b : Rat} {m n : Nat} (ha : Bd m a) (hb : Bd n b) : a.den * b.den < 2 ^ (m + n) := mul_lt_pow ha.2 hb.2
theorem den_mul_ne (a b : Rat) : a.den * b.den ≠ 0 := Nat.mul_ne_zero a.den_nz b.den_nz
theorem Bd.add {a b : Rat} {m n : Nat} (ha : Bd m a) (hb : Bd n b) : Bd (m + n + 1) (a + b) := by
  rw [← fr_add]
  exact mkRat_bd (num_add_lt ha hb) (Nat.lt_trans (den_mul_lt ha hb) (Nat.pow_lt_pow_right (by decide) (by omega))) (den_mul_ne a b)
theorem Bd.sub {a b : Rat} {m n : Nat} (ha : Bd m a) (hb : Bd n b) : Bd (m + n + 1) (a - b) := by
  rw [← fr_sub]
  exact mkRat_bd (num_sub_lt ha hb) (Nat.lt_trans (den_mul_lt ha hb) (Nat.pow_lt_pow_right (by decide) (by omega))) (den_mul_ne a b)
theorem Bd.mul {a b : Rat} {m n : Nat} (ha : Bd m a) (hb : Bd n b) : Bd (m + n) (a * b) := by
  rw [← fr_mul]
  exact mkRat_bd (num_mul_lt ha hb) (den_mul_lt ha hb) (den_mul_ne a b)
theorem Bd.zero : Bd 1 0 := ⟨by decide, by decide⟩
theorem Bd.one : Bd 1 1 := ⟨by decide, by decide⟩
theorem Bd.sum {n : Nat} : ∀ {l : List Rat}, (∀ q ∈ l, Bd n q) → Bd ((n + 1) * l.length + 1) l.sum
  | [], _ => Bd.zero
  | q :: l, h => by
    have h1 := h q (List.mem_cons_self ..)
    have h2 := Bd.sum fun x hx => h x (List.mem_cons_of_mem _ hx)
    rw [List.sum_cons]
    refine (h1.add h2).mono ?_
    rw [List.length_cons, Nat.mul_succ]
    omega
end PyE
set_option maxRecDepth 100000
/-! operators on known values -/
namespace PyE
open PySem
section
variable {C : Cfg} {cl : Cl} {μ : Mu} {ρ : Ro}
/-! equality -/
mutual
def okd : Nat → D → Bool
  | _, .none => true
  | _, .bl _ => true
  | _, .int _ => true
  | _, .str s => PyData.canLay0 (.str s)
  | n, .tup xs => (match n with | 0 => false | m + 1 => okdL m xs)
  | n, .lst xs => (match n with | 0 => false | m + 1 => okdL m xs)
  | _, .ref _ => false
  | _, .fn _ => false
  | _, .dct => false
  | _, .exc _ _ => false
  | _, .scr _ => false
def okdL : Nat → List D → Bool
  | _, [] => true
  | n, x :: xs => okd n x && okdL n xs
end
mutual
def D.pd : D → PyData
  | .none => .none
  | .bl b => .bool b
  | .int i => .int i
  | .str s => .str s
  | .tup xs => .tuple (D.pdL xs)
  | .lst xs => .list (D.pdL xs)
  | .ref _ => .none
  | .fn _ => .none
  | .dct => .dict []
  | .exc _ _ => .none
  | .scr xs => .list (xs.map .int)
def D.pdL : List D → List PyData
  | [] => []
  | x :: xs => D.pd x :: D.pdL xs
end
def eqd (x y : D) : Bool := PyData.eqv x.pd y.pd
def eqdL (x y : List D) : Bool := PyData.eqvAll (D.pdL x) (D.pdL y)
@[simp] theorem eqd_int (i j : Int) : eqd (.int i) (.int j) = decide (i = j) := by simp [eqd, D.pd, PyData.eqv]; rfl
@[simp] theorem eqd_str (i j : Str) : eqd (.str i) (.str j) = (i == j) := by simp [eqd, D.pd, PyData.eqv]
@[simp] theorem eqd_bl (i j : Bool) : eqd (.bl i) (.bl j) = (i == j) := by simp [eqd, D.pd, PyData.eqv]
@[simp] theorem eqd_tup (x y : List D) : eqd (.tup x) (.tup y) = eqdL x y := by simp [eqd, eqdL, D.pd, PyData.eqv]
@[simp] theorem eqd_lst (x y : List D) : eqd (.lst x) (.lst y) = eqdL x y := by simp [eqd, eqdL, D.pd, PyData.eqv]
@[simp] theorem eqdL_nil : eqdL [] [] = true := (rfl)
@[simp] theorem eqdL_cons (a b : D) (x y : List D) : eqdL (a :: x) (b :: y) = (eqd a b && eqdL x y) := by simp [eqd, eqdL, D.pdL, PyData.eqvAll]
@[simp] theorem eqdL_nc (b : D) (y : List D) : eqdL [] (b :: y) = false := (rfl)
@[simp] theorem eqdL_cn (b : D) (y : List D) : eqdL (b :: y) [] = false := (rfl)
mutual
theorem okd_py (R : Nat → Option PyData) : ∀ (n : Nat) (d : D), okd n d = true → d.py R = some d.pd ∧ d.pd.canLay0 = true ∧ d.pd.depth ≤ n
  | n, .none, _ => ⟨rfl, rfl, Nat.zero_le _⟩
  | n, .bl _, _ => ⟨rfl, rfl, Nat.zero_le _⟩
  | n, .int _, _ => ⟨rfl, rfl, Nat.zero_le _⟩
  | n, .str s, h => ⟨rfl, h, Nat.zero_le _⟩
  | 0, .tup xs, h => by cases h
  | n + 1, .tup xs, h => by
    obtain ⟨h1, h2, h3⟩ := okdL_py R n xs h
    exact ⟨by simp [D.py, D.pd, h1], h2, by simp [D.pd, PyData.depth]; omega⟩
  | 0, .lst xs, h => by cases h
  | n + 1, .lst xs, h => by
    obtain ⟨h1, h2, h3⟩ := okdL_py R n xs h
    exact ⟨by simp [D.py, D.pd, h1], h2, by simp [D.pd, PyData.depth]; omega⟩
  | _, .ref _, h => by cases h
  | _, .fn _, h => by cases h
  | _, .dct, h => by cases h
  | _, .exc _ _, h => by cases h
  | _, .scr _, h => by cases h
theorem okdL_py (R : Nat → Option PyData) : ∀ (n : Nat) (xs : List D), okdL n xs = true → D.pyL R xs = some (D.pdL xs) ∧ PyData.canLayAll0 (D.pdL xs) = true ∧ PyData.depthAll (D.pdL xs) ≤ n
  | n, [], _ => ⟨rfl, rfl, Nat.zero_le _⟩
  | n, x :: xs, h => by
    have h' : (okd n x && okdL n xs) = true := by cases n <;> exact h
    rw [Bool.and_eq_true] at h'
    obtain ⟨a1, a2, a3⟩ := okd_py R n x h'.1
    obtain ⟨b1, b2, b3⟩ := okdL_py R n xs h'.2
    refine ⟨by simp [D.pyL, D.pdL, a1, b1], by simp [D.pdL, PyData.canLayAll0, a2, b2], by simp [D.pdL, PyData.depthAll]; omega⟩
end
theorem eqD_of {x y : D} (h1 : okd 60 x = true) (h2 : okd 60 y = true) : eqD μ x y = some (eqd x y) := by
  obtain ⟨a1, a2, a3⟩ := okd_py (tab μ FUEL) 60 x h1
  obtain ⟨b1, b2, b3⟩ := okd_py (tab μ FUEL) 60 y h2
  have s1 : SeqAt.shaped x.pd = true := by unfold SeqAt.shaped; rw [a2, decide_eq_true (by omega)]; rfl
  have s2 : SeqAt.shaped y.pd = true := by unfold SeqAt.shaped; rw [b2, decide_eq_true (by omega)]; rfl
  unfold eqD view
  rw [a1, b1]
  simp [s1, s2, eqd]
theorem opR_eq {x y : D} (h1 : okd 60 x = true) (h2 : okd 60 y = true) : opR C .eq [x, y] μ = .ok (.bl (eqd x y)) μ := by
  show lift (((eqD μ x y).map fun b => PR.v (.bl b)).map prD) μ = _
  rw [eqD_of h1 h2]; rfl
theorem opR_ne {x y : D} (h1 : okd 60 x = true) (h2 : okd 60 y = true) : opR C .ne [x, y] μ = .ok (.bl (!eqd x y)) μ := by
  show lift (((eqD μ x y).map fun b => PR.v (.bl !b)).map prD) μ = _
  rw [eqD_of h1 h2]; rfl
@[simp] theorem okd_int (n : Nat) (i : Int) : okd n (.int i) = true := by cases n <;> rfl
@[simp] theorem okd_bl (n : Nat) (i : Bool) : okd n (.bl i) = true := by cases n <;> rfl
@[simp] theorem okd_none (n : Nat) : okd n .none = true := by cases n <;> rfl
@[simp] theorem okd_fr (n : Nat) (q : Rat) : okd (n + 1) (fr q) = true := by cases n <;> rfl
@[simp] theorem okd_fr60 (q : Rat) : okd 60 (fr q) = true := (rfl)
@[simp] theorem okd_lst (n : Nat) (l : List D) : okd (n + 1) (.lst l) = okdL n l := by cases n <;> rfl
@[simp] theorem okd_tup (n : Nat) (l : List D) : okd (n + 1) (.tup l) = okdL n l := by cases n <;> rfl
@[simp] theorem okdL_nil (n : Nat) : okdL n [] = true := by cases n <;> rfl
@[simp] theorem okdL_cons (n : Nat) (x : D) (l : List D) : okdL n (x :: l) = (okd n x && okdL n l) := by cases n <;> rfl
theorem okdL_map {α : Type} {f : α → D} {n : Nat} : ∀ {l : List α}, (∀ x ∈ l, okd n (f x) = true) → okdL n (l.map f) = true
  | [], _ => by simp
  | x :: l, h => by
    rw [List.map_cons, okdL_cons, h x (List.mem_cons_self ..), okdL_map fun y hy => h y (List.mem_cons_of_mem _ hy)]; rfl
@[simp] theorem opR_eq_int (i j : Int) : opR C .eq [.int i, .int j] μ = .ok (.bl (decide (i = j))) μ := by rw [opR_eq (by simp) (by simp), eqd_int]
@[simp] theorem opR_ne_int (i j : Int) : opR C .ne [.int i, .int j] μ = .ok (.bl (!decide (i = j))) μ := by rw [opR_ne (by simp) (by simp), eqd_int]
@[simp] theorem eqd_fr (a b : Rat) : eqd (fr a) (fr b) = decide (a = b) := by
  unfold fr
  rw [eqd_tup, eqdL_cons, eqdL_cons, eqdL_nil, eqd_int, eqd_int, Bool.and_true]
  by_cases h : a = b
  · subst h; simp
  · have : ¬ (a.num = b.num ∧ (a.den : Int) = (b.den : Int)) := fun z => h (Rat.ext z.1 (by omega))
    rw [decide_eq_false h]
    by_cases h1 : a.num = b.num
    · have h2 : ¬ ((a.den : Int) = (b.den : Int)) := fun z => this ⟨h1, z⟩
      rw [decide_eq_false h2, Bool.and_false]
    · rw [decide_eq_false h1, Bool.false_and]
theorem fr_zero : fr 0 = .tup [.int 0, .int 1] := rfl
theorem fr_one : fr 1 = .tup [.int 1, .int 1] := rfl
@[simp] theorem opR_eq_fr (a b : Rat) : opR C .eq [fr a, fr b] μ = .ok (.bl (decide (a = b))) μ := by rw [opR_eq (by simp) (by simp), eqd_fr]
@[simp] theorem opR_ne_fr (a b : Rat) : opR C .ne [fr a, fr b] μ = .ok (.bl (!decide (a = b))) μ := by rw [opR_ne (by simp) (by simp), eqd_fr]
@[simp] theorem opR_eq_fr0 (a : Rat) : opR C .eq [fr a, .tup [.int 0, .int 1]] μ = .ok (.bl (decide (a = 0))) μ := opR_eq_fr a 0
@[simp] theorem opR_eq_fr1 (a : Rat) : opR C .eq [fr a, .tup [.int 1, .int 1]] μ = .ok (.bl (decide (a = 1))) μ := opR_eq_fr a 1
/-! lists of known values -/
theorem eqdL_map {α : Type} {f : α → D} (hf : ∀ x y, eqd (f x) (f y) = true ↔ x = y) : ∀ (l m : List α), eqdL (l.map f) (m.map f) = true ↔ l = m
  | [], [] => by simp
  | [], b :: m => by simp
  | a :: l, [] => by simp
  | a :: l, b :: m => by
    rw [List.map_cons, List.map_cons, eqdL_cons, Bool.and_eq_true, hf, eqdL_map hf l m, List.cons.injEq]
/-! items -/
theorem opR_idx_of {d x : D} {xs : List D} {i : Nat} (h : items μ d = some xs) (hx : xs[i]? = some x) : opR C .idx [d, .int (i : Int)] μ = .ok x μ := by
  have hl : i < xs.length := (List.getElem?_eq_some_iff.mp hx).1
  show lift ((((items μ d).bind fun xs => (place (i : Int) xs.length).bind fun k => (xs[k]?).map PR.v)).map prD) μ = _
  have hp : place (i : Int) xs.length = some i := by
    unfold place
    rw [if_pos (by omega), if_pos (by omega)]
    simp
  rw [h]
  simp [hp, hx, prD]
theorem opR_idx_lst {x : D} {xs : List D} {i : Nat} (hx : xs[i]? = some x) : opR C .idx [.lst xs, .int (i : Int)] μ = .ok x μ := opR_idx_of rfl hx
@[simp] theorem opR_idx_tup0 (x : D) (xs : List D) : opR C .idx [.tup (x :: xs), .int 0] μ = .ok x μ := opR_idx_of (i := 0) rfl rfl
@[simp] theorem opR_idx_tup1 (x y : D) (xs : List D) : opR C .idx [.tup (x :: y :: xs), .int 1] μ = .ok y μ := opR_idx_of (i := 1) rfl rfl
@[simp] theorem opR_idx_tup2 (x y z : D) (xs : List D) : opR C .idx [.tup (x :: y :: z :: xs), .int 2] μ = .ok z μ := opR_idx_of (i := 2) rfl rfl
@[simp] theorem opR_idx_lst0 (x : D) (xs : List D) : opR C .idx [.lst (x :: xs), .int 0] μ = .ok x μ := opR_idx_of (i := 0) rfl rfl
@[simp] theorem opR_idx_fr0 (q : Rat) : opR C .idx [fr q, .int 0] μ = .ok (.int q.num) μ := opR_idx_tup0 _ _
@[simp] theorem opR_idx_fr1 (q : Rat) : opR C .idx [fr q, .int 1] μ = .ok (.int (q.den : Int)) μ := opR_idx_tup1 _ _ _
@[simp] theorem opR_len_lst (xs : List D) : opR C .len [.lst xs] μ = .ok (.int (xs.length : Int)) μ := (rfl)
@[simp] theorem opR_len_tup (xs : List D) : opR C .len [.tup xs] μ = .ok (.int (xs.length : Int)) μ := (rfl)
@[simp] theorem opR_len_scr (xs : List Int) : opR C .len [.scr xs] μ = .ok (.int (xs.length : Int)) μ := by
  show Res.ok (D.int (((xs.map D.int).length : Nat) : Int)) μ = _
  rw [List.length_map]
@[simp] theorem opR_len_fr (q : Rat) : opR C .len [fr q] μ = .ok (.int 2) μ := (rfl)
theorem opR_len_ref {n : Nat} {xs : List D} (h : μ[n]? = some xs) : opR C .len [.ref n] μ = .ok (.int (xs.length : Int)) μ := by
  show lift ((((items μ (.ref n)).map fun xs => PR.v (.int xs.length))).map prD) μ = _
  rw [show items μ (.ref n) = some xs from h]; rfl
theorem asBools_map {α : Type} (p : α → Bool) : ∀ l : List α, asBools (l.map fun x => .bl (p x)) = some (l.map p)
  | [] => rfl
  | x :: l => by simp [asBools, asBools_map p l]
theorem asInts_map {α : Type} (p : α → Int) : ∀ l : List α, asInts (l.map fun x => .int (p x)) = some (l.map p)
  | [] => rfl
  | x :: l => by simp [asInts, asInts_map p l]
@[simp] theorem opR_all_map {α : Type} (p : α → Bool) (l : List α) : opR C .all [.lst (l.map fun x => .bl (p x))] μ = .ok (.bl (l.all p)) μ := by
  show lift ((((some (l.map fun x => D.bl (p x))).bind fun xs => (asBools xs).map fun l => PR.v (.bl (l.all id)))).map prD) μ = _
  simp [asBools_map, prD]
@[simp] theorem opR_any_map {α : Type} (p : α → Bool) (l : List α) : opR C .any [.lst (l.map fun x => .bl (p x))] μ = .ok (.bl (l.any p)) μ := by
  show lift ((((some (l.map fun x => D.bl (p x))).bind fun xs => (asBools xs).map fun l => PR.v (.bl (l.any id)))).map prD) μ = _
  simp [asBools_map, prD]
@[simp] theorem opR_sum_map {α : Type} (p : α → Int) (l : List α) : opR C .sum1 [.lst (l.map fun x => .int (p x))] μ = .ok (.int (l.map p).sum) μ := by
  show lift ((((some (l.map fun x => D.int (p x))).bind fun xs => (asInts xs).map fun l => PR.v (.int l.sum))).map prD) μ = _
  simp [asInts_map, prD]
@[simp] theorem opR_isn (x : D) : opR C .isn [x] μ = .ok (.bl (isNone x)) μ := (rfl)
@[simp] theorem opR_notn (x : D) : opR C .notn [x] μ = .ok (.bl !(isNone x)) μ := (rfl)
@[simp] theorem opR_isb (b : Bool) (x : D) : opR C (.isb b) [x] μ = .ok (.bl (isBl b x)) μ := (rfl)
@[simp] theorem isNone_none : isNone .none = true := (rfl)
@[simp] theorem opR_isi (ts : List Ty) (x : D) : opR C (.isi ts) [x] μ = lift ((isiS C.sub x ts).map .bl) μ := by
  show lift (((isiS C.sub x ts).map fun b => PR.v (.bl b)).map prD) μ = _
  cases isiS C.sub x ts <;> rfl
@[simp] theorem isiS_nil (sub : Fid → Fid → Bool) (x : D) : isiS sub x [] = some false := (rfl)
@[simp] theorem isiS_cons (sub : Fid → Fid → Bool) (x : D) (t : Ty) (ts : List Ty) : isiS sub x (t :: ts) = (tyIs sub x t).bind fun b => (isiS sub x ts).map fun r => b || r := (rfl)
@[simp] theorem tyIs_int_tint (sub : Fid → Fid → Bool) (i : Int) : tyIs sub (.int i) .tint = some true := (rfl)
@[simp] theorem tyIs_int_tbool (sub : Fid → Fid → Bool) (i : Int) : tyIs sub (.int i) .tbool = some false := (rfl)
@[simp] theorem tyIs_int_tstr (sub : Fid → Fid → Bool) (i : Int) : tyIs sub (.int i) .tstr = some false := (rfl)
@[simp] theorem tyIs_int_tlist (sub : Fid → Fid → Bool) (i : Int) : tyIs sub (.int i) .tlist = some false := (rfl)
@[simp] theorem tyIs_int_ttuple (sub : Fid → Fid → Bool) (i : Int) : tyIs sub (.int i) .ttuple = some false := (rfl)
@[simp] theorem tyIs_int_tdict (sub : Fid → Fid → Bool) (i : Int) : tyIs sub (.int i) .tdict = some false := (rfl)
@[simp] theorem isNone_int (i : Int) : isNone (.int i) = false := (rfl)
@[simp] theorem isBl_int (b : Bool) (i : Int) : isBl b (.int i) = false := (rfl)
@[simp] theorem tyIs_bl_tint (sub : Fid → Fid → Bool) (b : Bool) : tyIs sub (.bl b) .tint = some true := (rfl)
@[simp] theorem tyIs_bl_tbool (sub : Fid → Fid → Bool) (b : Bool) : tyIs sub (.bl b) .tbool = some true := (rfl)
@[simp] theorem tyIs_bl_tstr (sub : Fid → Fid → Bool) (b : Bool) : tyIs sub (.bl b) .tstr = some false := (rfl)
@[simp] theorem tyIs_bl_tlist (sub : Fid → Fid → Bool) (b : Bool) : tyIs sub (.bl b) .tlist = some false := (rfl)
@[simp] theorem tyIs_bl_ttuple (sub : Fid → Fid → Bool) (b : Bool) : tyIs sub (.bl b) .ttuple = some false := (rfl)
@[simp] theorem tyIs_bl_tdict (sub : Fid → Fid → Bool) (b : Bool) : tyIs sub (.bl b) .tdict = some false := (rfl)
@[simp] theorem isNone_bl (b : Bool) : isNone (.bl b) = false := (rfl)
@[simp] theorem tyIs_str_tint (sub : Fid → Fid → Bool) (s : Str) : tyIs sub (.str s) .tint = some false := (rfl)
@[simp] theorem tyIs_str_tbool (sub : Fid → Fid → Bool) (s : Str) : tyIs sub (.str s) .tbool = some false := (rfl)
@[simp] theorem tyIs_str_tstr (sub : Fid → Fid → Bool) (s : Str) : tyIs sub (.str s) .tstr = some true := (rfl)
@[simp] theorem tyIs_str_tlist (sub : Fid → Fid → Bool) (s : Str) : tyIs sub (.str s) .tlist = some false := (rfl)
@[simp] theorem tyIs_str_ttuple (sub : Fid → Fid → Bool) (s : Str) : tyIs sub (.str s) .ttuple = some false := (rfl)
@[simp] theorem tyIs_str_tdict (sub : Fid → Fid → Bool) (s : Str) : tyIs sub (.str s) .tdict = some false := (rfl)
@[simp] theorem isNone_str (s : Str) : isNone (.str s) = false := (rfl)
@[simp] theorem isBl_str (b : Bool) (s : Str) : isBl b (.str s) = false := (rfl)
@[simp] theorem tyIs_tup_tint (sub : Fid → Fid → Bool) (xs : List D) : tyIs sub (.tup xs) .tint = some false := (rfl)
@[simp] theorem tyIs_tup_tbool (sub : Fid → Fid → Bool) (xs : List D) : tyIs sub (.tup xs) .tbool = some false := (rfl)
@[simp] theorem tyIs_tup_tstr (sub : Fid → Fid → Bool) (xs : List D) : tyIs sub (.tup xs) .tstr = some false := (rfl)
@[simp] theorem tyIs_tup_tlist (sub : Fid → Fid → Bool) (xs : List D) : tyIs sub (.tup xs) .tlist = some false := (rfl)
@[simp] theorem tyIs_tup_ttuple (sub : Fid → Fid → Bool) (xs : List D) : tyIs sub (.tup xs) .ttuple = some true := (rfl)
@[simp] theorem tyIs_tup_tdict (sub : Fid → Fid → Bool) (xs : List D) : tyIs sub (.tup xs) .tdict = some false := (rfl)
@[simp] theorem isNone_tup (xs : List D) : isNone (.tup xs) = false := (rfl)
@[simp] theorem isBl_tup (b : Bool) (xs : List D) : isBl b (.tup xs) = false := (rfl)
@[simp] theorem tyIs_lst_tint (sub : Fid → Fid → Bool) (xs : List D) : tyIs sub (.lst xs) .tint = some false := (rfl)
@[simp] theorem tyIs_lst_tbool (sub : Fid → Fid → Bool) (xs : List D) : tyIs sub (.lst xs) .tbool = some false := (rfl)
@[simp] theorem tyIs_lst_tstr (sub : Fid → Fid → Bool) (xs : List D) : tyIs sub (.lst xs) .tstr = some false := (rfl)
@[simp] theorem tyIs_lst_tlist (sub : Fid → Fid → Bool) (xs : List D) : tyIs sub (.lst xs) .tlist = some true := (rfl)
@[simp] theorem tyIs_lst_ttuple (sub : Fid → Fid → Bool) (xs : List D) : tyIs sub (.lst xs) .ttuple = some false := (rfl)
@[simp] theorem tyIs_lst_tdict (sub : Fid → Fid → Bool) (xs : List D) : tyIs sub (.lst xs) .tdict = some false := (rfl)
@[simp] theorem isNone_lst (xs : List D) : isNone (.lst xs) = false := (rfl)
@[simp] theorem isBl_lst (b : Bool) (xs : List D) : isBl b (.lst xs) = false := (rfl)
@[simp] theorem tyIs_ref_tint (sub : Fid → Fid → Bool) (n : Nat) : tyIs sub (.ref n) .tint = some false := (rfl)
@[simp] theorem tyIs_ref_tbool (sub : Fid → Fid → Bool) (n : Nat) : tyIs sub (.ref n) .tbool = some false := (rfl)
@[simp] theorem tyIs_ref_tstr (sub : Fid → Fid → Bool) (n : Nat) : tyIs sub (.ref n) .tstr = some false := (rfl)
@[simp] theorem tyIs_ref_tlist (sub : Fid → Fid → Bool) (n : Nat) : tyIs sub (.ref n) .tlist = some true := (rfl)
@[simp] theorem tyIs_ref_ttuple (sub : Fid → Fid → Bool) (n : Nat) : tyIs sub (.ref n) .ttuple = some false := (rfl)
@[simp] theorem tyIs_ref_tdict (sub : Fid → Fid → Bool) (n : Nat) : tyIs sub (.ref n) .tdict = some false := (rfl)
@[simp] theorem isNone_ref (n : Nat) : isNone (.ref n) = false := (rfl)
@[simp] theorem isBl_ref (b : Bool) (n : Nat) : isBl b (.ref n) = false := (rfl)
@[simp] theorem tyIs_scr_tint (sub : Fid → Fid → Bool) (l : List Int) : tyIs sub (.scr l) .tint = some false := (rfl)
@[simp] theorem tyIs_scr_tbool (sub : Fid → Fid → Bool) (l : List Int) : tyIs sub (.scr l) .tbool = some false := (rfl)
@[simp] theorem tyIs_scr_tstr (sub : Fid → Fid → Bool) (l : List Int) : tyIs sub (.scr l) .tstr = some false := (rfl)
@[simp] theorem tyIs_scr_tlist (sub : Fid → Fid → Bool) (l : List Int) : tyIs sub (.scr l) .tlist = some true := (rfl)
@[simp] theorem tyIs_scr_ttuple (sub : Fid → Fid → Bool) (l : List Int) : tyIs sub (.scr l) .ttuple = some false := (rfl)
@[simp] theorem tyIs_scr_tdict (sub : Fid → Fid → Bool) (l : List Int) : tyIs sub (.scr l) .tdict = some false := (rfl)
@[simp] theorem isNone_scr (l : List Int) : isNone (.scr l) = false := (rfl)
@[simp] theorem isBl_scr (b : Bool) (l : List Int) : isBl b (.scr l) = false := (rfl)
@[simp] theorem tyIs_dct_tint (sub : Fid → Fid → Bool)  : tyIs sub (.dct) .tint = some false := (rfl)
@[simp] theorem tyIs_dct_tbool (sub : Fid → Fid → Bool)  : tyIs sub (.dct) .tbool = some false := (rfl)
@[simp] theorem tyIs_dct_tstr (sub : Fid → Fid → Bool)  : tyIs sub (.dct) .tstr = some false := (rfl)
@[simp] theorem tyIs_dct_tlist (sub : Fid → Fid → Bool)  : tyIs sub (.dct) .tlist = some false := (rfl)
@[simp] theorem tyIs_dct_ttuple (sub : Fid → Fid → Bool)  : tyIs sub (.dct) .ttuple = some false := (rfl)
@[simp] theorem tyIs_dct_tdict (sub : Fid → Fid → Bool)  : tyIs sub (.dct) .tdict = some true := (rfl)
@[simp] theorem isNone_dct  : isNone (.dct) = false := (rfl)
@[simp] theorem isBl_dct (b : Bool)  : isBl b (.dct) = false := (rfl)
@[simp] theorem tyIs_none_tint (sub : Fid → Fid → Bool)  : tyIs sub (.none) .tint = some false := (rfl)
@[simp] theorem tyIs_none_tbool (sub : Fid → Fid → Bool)  : tyIs sub (.none) .tbool = some false := (rfl)
@[simp] theorem tyIs_none_tstr (sub : Fid → Fid → Bool)  : tyIs sub (.none) .tstr = some false := (rfl)
@[simp] theorem tyIs_none_tlist (sub : Fid → Fid → Bool)  : tyIs sub (.none) .tlist = some false := (rfl)
@[simp] theorem tyIs_none_ttuple (sub : Fid → Fid → Bool)  : tyIs sub (.none) .ttuple = some false := (rfl)
@[simp] theorem tyIs_none_tdict (sub : Fid → Fid → Bool)  : tyIs sub (.none) .tdict = some false := (rfl)
@[simp] theorem isBl_none (b : Bool)  : isBl b (.none) = false := (rfl)
@[simp] theorem tyIs_fr_tint (sub : Fid → Fid → Bool) (q : Rat) : tyIs sub (fr q) .tint = some false := (rfl)
@[simp] theorem tyIs_fr_tbool (sub : Fid → Fid → Bool) (q : Rat) : tyIs sub (fr q) .tbool = some false := (rfl)
@[simp] theorem tyIs_fr_tstr (sub : Fid → Fid → Bool) (q : Rat) : tyIs sub (fr q) .tstr = some false := (rfl)
@[simp] theorem tyIs_fr_tlist (sub : Fid → Fid → Bool) (q : Rat) : tyIs sub (fr q) .tlist = some false := (rfl)
@[simp] theorem tyIs_fr_ttuple (sub : Fid → Fid → Bool) (q : Rat) : tyIs sub (fr q) .ttuple = some true := (rfl)
@[simp] theorem tyIs_fr_tdict (sub : Fid → Fid → Bool) (q : Rat) : tyIs sub (fr q) .tdict = some false := (rfl)
@[simp] theorem isNone_fr (q : Rat) : isNone (fr q) = false := (rfl)
@[simp] theorem isBl_fr (b : Bool) (q : Rat) : isBl b (fr q) = false := (rfl)
@[simp] theorem isBl_bl (b c : Bool) : isBl b (.bl c) = (b == c) := (rfl)
/-! lists made, walked -/
@[simp] theorem okAt_nil (xs : List D) : (⟨xs, []⟩ : Src).okAt = fun _ => true := (rfl)
@[simp] theorem srcS_lst (xs : List D) : srcS μ (.lst xs) = some ⟨xs, []⟩ := (rfl)
@[simp] theorem srcS_tup (xs : List D) : srcS μ (.tup xs) = some ⟨xs, []⟩ := (rfl)
@[simp] theorem srcE_lst (xs : List D) : srcE μ (.lst xs) = some ⟨enumD xs, []⟩ := (rfl)
theorem srcZ_lst (b : Bool) (xs ys : List D) (h : xs.length = ys.length) : srcZ b μ (.lst xs) (.lst ys) = some ⟨zipD xs ys, []⟩ := by
  show (if b = true ∧ xs.length ≠ ys.length then none else _) = _
  rw [if_neg (fun z => z.2 h)]; rfl
@[simp] theorem srcZ_false (xs ys : List D) : srcZ false μ (.lst xs) (.lst ys) = some ⟨zipD xs ys, []⟩ := (rfl)
theorem srcR1_nat (n : Nat) (h : n ≤ 1000000) : srcR1 (.int (n : Int)) = some ⟨rangeD 0 n, []⟩ := by
  show (if (n : Int) ≤ LIM ∧ -(2 ^ 62) ≤ (n : Int) then some (⟨rangeD 0 (n : Int).toNat, []⟩ : Src) else none) = _
  rw [if_pos ⟨by unfold LIM; omega, by omega⟩]
  simp
theorem rangeD0 (n : Nat) : rangeD 0 n = (List.range n).map fun k : Nat => D.int (k : Int) := by
  unfold rangeD
  simp
theorem zipD_map {α β : Type} (f : α → D) (g : β → D) : ∀ (l : List α) (m : List β), zipD (l.map f) (m.map g) = (l.zip m).map fun p => D.tup [f p.1, g p.2]
  | [], _ => by simp [zipD]
  | _ :: _, [] => by simp [zipD]
  | a :: l, b :: m => by
    have := zipD_map f g l m
    simp only [zipD] at this ⊢
    simp [this]
/-- a comprehension without a test, its body's values known -/
theorem cm_map {α : Type} {t : Tg} {e : CE} {ok : Mu → Bool} {f g : α → D} (hok : ok μ = true) : ∀ {l : List α}, (∀ x ∈ l, ((lift (setT μ t (f x) (wipe ρ t.slots)) μ).bind fun ρ1 μ2 => eE C cl e ρ1 μ2) = .ok (g x) μ) → cm C cl t .nil e ρ ok (l.map f) μ = .ok (l.map g) μ
  | [], _ => by rw [List.map_nil, cm_nil, if_pos hok]; rfl
  | x :: l, h => by
    have h1 := h x (List.mem_cons_self ..)
    have h2 := cm_map (t := t) (e := e) hok (l := l) fun y hy => h y (List.mem_cons_of_mem _ hy)
    rw [List.map_cons, cm_cons, if_pos hok]
    cases q : setT μ t (f x) (wipe ρ t.slots) with
    | none => rw [q] at h1; cases h1
    | some ρ1 =>
      rw [q] at h1
      have h1' : eE C cl e ρ1 μ = .ok (g x) μ := h1
      simp [h1', h2]
/-- with a test -/
theorem cm_filter {α : Type} {t : Tg} {c e : CE} {ok : Mu → Bool} {f g : α → D} {p : α → Bool} (hok : ok μ = true) : ∀ {l : List α}, (∀ x ∈ l, ∃ ρ1, setT μ t (f x) (wipe ρ t.slots) = some ρ1 ∧ eC C cl c ρ1 μ = .ok (p x) μ ∧ (p x = true → eE C cl e ρ1 μ = .ok (g x) μ)) →
    cm C cl t c e ρ ok (l.map f) μ = .ok ((l.filter p).map g) μ
  | [], _ => by rw [List.map_nil, cm_nil, if_pos hok]; rfl
  | x :: l, h => by
    obtain ⟨ρ1, q1, q2, q3⟩ := h x (List.mem_cons_self ..)
    have h2 := cm_filter (t := t) (e := e) (c := c) (g := g) (p := p) hok (l := l) fun y hy => h y (List.mem_cons_of_mem _ hy)
    rw [List.map_cons, cm_cons, if_pos hok]
    rw [q1]
    cases hp : p x with
    | true => simp [q2, hp, q3 hp, h2, List.filter_cons]
    | false => simp [q2, hp, h2, List.filter_cons]
@[simp] theorem asB_bl (b : Bool) : asB (.bl b) = some b := (rfl)
@[simp] theorem asRef_ref (n : Nat) : asRef (.ref n) = some n := (rfl)
theorem mul_nd {a b : Rat} (ha : Bd 4000 a) (hb : Bd 4000 b) : opR C .mul [.int a.num, .int (b.den : Int)] μ = .ok (.int (a.num * (b.den : Int))) μ := opR_mul (mulOk_of (j := (b.den : Int)) ha.1 hb.2 (by decide))
theorem mul_dn {a b : Rat} (ha : Bd 4000 a) (hb : Bd 4000 b) : opR C .mul [.int (b.den : Int), .int a.num] μ = .ok (.int ((b.den : Int) * a.num)) μ := opR_mul (mulOk_of (i := (b.den : Int)) hb.2 ha.1 (by decide))
theorem mul_nn {a b : Rat} (ha : Bd 4000 a) (hb : Bd 4000 b) : opR C .mul [.int a.num, .int b.num] μ = .ok (.int (a.num * b.num)) μ := opR_mul (mulOk_of ha.1 hb.1 (by decide))
theorem mul_dd {a b : Rat} (ha : Bd 4000 a) (hb : Bd 4000 b) : opR C .mul [.int (a.den : Int), .int (b.den : Int)] μ = .ok (.int ((a.den : Int) * (b.den : Int))) μ := opR_mul (mulOk_of (i := (a.den : Int)) (j := (b.den : Int)) ha.2 hb.2 (by decide))
end
end PyE
set_option maxRecDepth 100000
/-! rows, looks, games as values -/
namespace PyE
open PySem
def row (l : List Rat) : D := .lst (l.map fr)
def rows (l : List (List Rat)) : D := .lst (l.map row)
def intsD (l : List Int) : D := .lst (l.map .int)
def lookD (l : List (List Rat)) : D := .tup [.str (PySem.Str.ofString "look"), rows l]
def gameD (l : List (List Rat)) : D := .tup [.str (PySem.Str.ofString "game"), rows l]
section
variable {C : Cfg} {cl : Cl} {μ : Mu} {ρ : Ro}
@[simp] theorem tyIs_row_tint (sub : Fid → Fid → Bool) (l : List Rat) : tyIs sub (row l) .tint = some false := (rfl)
@[simp] theorem tyIs_row_tbool (sub : Fid → Fid → Bool) (l : List Rat) : tyIs sub (row l) .tbool = some false := (rfl)
@[simp] theorem tyIs_row_tstr (sub : Fid → Fid → Bool) (l : List Rat) : tyIs sub (row l) .tstr = some false := (rfl)
@[simp] theorem tyIs_row_tlist (sub : Fid → Fid → Bool) (l : List Rat) : tyIs sub (row l) .tlist = some true := (rfl)
@[simp] theorem tyIs_row_ttuple (sub : Fid → Fid → Bool) (l : List Rat) : tyIs sub (row l) .ttuple = some false := (rfl)
@[simp] theorem tyIs_row_tdict (sub : Fid → Fid → Bool) (l : List Rat) : tyIs sub (row l) .tdict = some false := (rfl)
@[simp] theorem isNone_row (l : List Rat) : isNone (row l) = false := (rfl)
@[simp] theorem isBl_row (b : Bool) (l : List Rat) : isBl b (row l) = false := (rfl)
@[simp] theorem tyIs_rows_tint (sub : Fid → Fid → Bool) (l : List (List Rat)) : tyIs sub (rows l) .tint = some false := (rfl)
@[simp] theorem tyIs_rows_tbool (sub : Fid → Fid → Bool) (l : List (List Rat)) : tyIs sub (rows l) .tbool = some false := (rfl)
@[simp] theorem tyIs_rows_tstr (sub : Fid → Fid → Bool) (l : List (List Rat)) : tyIs sub (rows l) .tstr = some false := (rfl)
@[simp] theorem tyIs_rows_tlist (sub : Fid → Fid → Bool) (l : List (List Rat)) : tyIs sub (rows l) .tlist = some true := (rfl)
@[simp] theorem tyIs_rows_ttuple (sub : Fid → Fid → Bool) (l : List (List Rat)) : tyIs sub (rows l) .ttuple = some false := (rfl)
@[simp] theorem tyIs_rows_tdict (sub : Fid → Fid → Bool) (l : List (List Rat)) : tyIs sub (rows l) .tdict = some false := (rfl)
@[simp] theorem isNone_rows (l : List (List Rat)) : isNone (rows l) = false := (rfl)
@[simp] theorem isBl_rows (b : Bool) (l : List (List Rat)) : isBl b (rows l) = false := (rfl)
@[simp] theorem tyIs_intsD_tint (sub : Fid → Fid → Bool) (l : List Int) : tyIs sub (intsD l) .tint = some false := (rfl)
@[simp] theorem tyIs_intsD_tbool (sub : Fid → Fid → Bool) (l : List Int) : tyIs sub (intsD l) .tbool = some false := (rfl)
@[simp] theorem tyIs_intsD_tstr (sub : Fid → Fid → Bool) (l : List Int) : tyIs sub (intsD l) .tstr = some false := (rfl)
@[simp] theorem tyIs_intsD_tlist (sub : Fid → Fid → Bool) (l : List Int) : tyIs sub (intsD l) .tlist = some true := (rfl)
@[simp] theorem tyIs_intsD_ttuple (sub : Fid → Fid → Bool) (l : List Int) : tyIs sub (intsD l) .ttuple = some false := (rfl)
@[simp] theorem tyIs_intsD_tdict (sub : Fid → Fid → Bool) (l : List Int) : tyIs sub (intsD l) .tdict = some false := (rfl)
@[simp] theorem isNone_intsD (l : List Int) : isNone (intsD l) = false := (rfl)
@[simp] theorem isBl_intsD (b : Bool) (l : List Int) : isBl b (intsD l) = false := (rfl)
@[simp] theorem tyIs_lookD_tint (sub : Fid → Fid → Bool) (l : List (List Rat)) : tyIs sub (lookD l) .tint = some false := (rfl)
@[simp] theorem tyIs_lookD_tbool (sub : Fid → Fid → Bool) (l : List (List Rat)) : tyIs sub (lookD l) .tbool = some false := (rfl)
@[simp] theorem tyIs_lookD_tstr (sub : Fid → Fid → Bool) (l : List (List Rat)) : tyIs sub (lookD l) .tstr = some false := (rfl)
@[simp] theorem tyIs_lookD_tlist (sub : Fid → Fid → Bool) (l : List (List Rat)) : tyIs sub (lookD l) .tlist = some false := (rfl)
@[simp] theorem tyIs_lookD_ttuple (sub : Fid → Fid → Bool) (l : List (List Rat)) : tyIs sub (lookD l) .ttuple = some true := (rfl)
@[simp] theorem tyIs_lookD_tdict (sub : Fid → Fid → Bool) (l : List (List Rat)) : tyIs sub (lookD l) .tdict = some false := (rfl)
@[simp] theorem isNone_lookD (l : List (List Rat)) : isNone (lookD l) = false := (rfl)
@[simp] theorem isBl_lookD (b : Bool) (l : List (List Rat)) : isBl b (lookD l) = false := (rfl)
@[simp] theorem tyIs_gameD_tint (sub : Fid → Fid → Bool) (l : List (List Rat)) : tyIs sub (gameD l) .tint = some false := (rfl)
@[simp] theorem tyIs_gameD_tbool (sub : Fid → Fid → Bool) (l : List (List Rat)) : tyIs sub (gameD l) .tbool = some false := (rfl)
@[simp] theorem tyIs_gameD_tstr (sub : Fid → Fid → Bool) (l : List (List Rat)) : tyIs sub (gameD l) .tstr = some false := (rfl)
@[simp] theorem tyIs_gameD_tlist (sub : Fid → Fid → Bool) (l : List (List Rat)) : tyIs sub (gameD l) .tlist = some false := (rfl)
@[simp] theorem tyIs_gameD_ttuple (sub : Fid → Fid → Bool) (l : List (List Rat)) : tyIs sub (gameD l) .ttuple = some true := (rfl)
@[simp] theorem tyIs_gameD_tdict (sub : Fid → Fid → Bool) (l : List (List Rat)) : tyIs sub (gameD l) .tdict = some false := (rfl)
@[simp] theorem isNone_gameD (l : List (List Rat)) : isNone (gameD l) = false := (rfl)
@[simp] theorem isBl_gameD (b : Bool) (l : List (List Rat)) : isBl b (gameD l) = false := (rfl)
@[simp] theorem len_row (l : List Rat) : opR C .len [row l] μ = .ok (.int (l.length : Int)) μ := by rw [row, opR_len_lst, List.length_map]
@[simp] theorem srcS_row (l : List Rat) : srcS μ (row l) = some ⟨l.map fr, []⟩ := (rfl)
@[simp] theorem truth_row (l : List Rat) : truth μ (row l) = some (!l.isEmpty) := by rw [row, truth_lst, List.isEmpty_map]
theorem idx_row (l : List Rat) {i : Nat} {x : _} (h : l[i]? = some x) : opR C .idx [row l, .int (i : Int)] μ = .ok (fr x) μ := opR_idx_lst (by rw [List.getElem?_map, h]; rfl)
theorem idx0_row {x : _} {l : _} : opR C .idx [row (x :: l), .int 0] μ = .ok (fr x) μ := idx_row (x :: l) (i := 0) rfl
@[simp] theorem len_rows (l : List (List Rat)) : opR C .len [rows l] μ = .ok (.int (l.length : Int)) μ := by rw [rows, opR_len_lst, List.length_map]
@[simp] theorem srcS_rows (l : List (List Rat)) : srcS μ (rows l) = some ⟨l.map row, []⟩ := (rfl)
@[simp] theorem truth_rows (l : List (List Rat)) : truth μ (rows l) = some (!l.isEmpty) := by rw [rows, truth_lst, List.isEmpty_map]
theorem idx_rows (l : List (List Rat)) {i : Nat} {x : _} (h : l[i]? = some x) : opR C .idx [rows l, .int (i : Int)] μ = .ok (row x) μ := opR_idx_lst (by rw [List.getElem?_map, h]; rfl)
theorem idx0_rows {x : _} {l : _} : opR C .idx [rows (x :: l), .int 0] μ = .ok (row x) μ := idx_rows (x :: l) (i := 0) rfl
@[simp] theorem len_intsD (l : List Int) : opR C .len [intsD l] μ = .ok (.int (l.length : Int)) μ := by rw [intsD, opR_len_lst, List.length_map]
@[simp] theorem srcS_intsD (l : List Int) : srcS μ (intsD l) = some ⟨l.map .int, []⟩ := (rfl)
@[simp] theorem truth_intsD (l : List Int) : truth μ (intsD l) = some (!l.isEmpty) := by rw [intsD, truth_lst, List.isEmpty_map]
theorem idx_intsD (l : List Int) {i : Nat} {x : _} (h : l[i]? = some x) : opR C .idx [intsD l, .int (i : Int)] μ = .ok (.int x) μ := opR_idx_lst (by rw [List.getElem?_map, h]; rfl)
theorem idx0_intsD {x : _} {l : _} : opR C .idx [intsD (x :: l), .int 0] μ = .ok (.int x) μ := idx_intsD (x :: l) (i := 0) rfl
theorem okd_row (n : Nat) (l : List Rat) : okd (n + 2) (row l) = true := by rw [row, okd_lst]; exact okdL_map fun q _ => okd_fr n q
theorem okd_rows (n : Nat) (l : List (List Rat)) : okd (n + 3) (rows l) = true := by rw [rows, okd_lst]; exact okdL_map fun q _ => okd_row n q
theorem okd_intsD (n : Nat) (l : List Int) : okd (n + 2) (intsD l) = true := by rw [intsD, okd_lst]; exact okdL_map fun q _ => okd_int _ q
theorem eqd_row (l m : List Rat) : eqd (row l) (row m) = true ↔ l = m := by rw [row, row, eqd_lst]; exact eqdL_map (fun x y => by rw [eqd_fr, decide_eq_true_iff]) l m
theorem eqd_rows (l m : List (List Rat)) : eqd (rows l) (rows m) = true ↔ l = m := by rw [rows, rows, eqd_lst]; exact eqdL_map eqd_row l m
theorem eqd_intsD (l m : List Int) : eqd (intsD l) (intsD m) = true ↔ l = m := by rw [intsD, intsD, eqd_lst]; exact eqdL_map (fun x y => by rw [eqd_int, decide_eq_true_iff]) l m
@[simp] theorem len_lookD (l : List (List Rat)) : opR C .len [lookD l] μ = .ok (.int 2) μ := (rfl)
@[simp] theorem idx0_lookD (l : List (List Rat)) : opR C .idx [lookD l, .int 0] μ = .ok (.str (PySem.Str.ofString "look")) μ := opR_idx_tup0 _ _
@[simp] theorem idx1_lookD (l : List (List Rat)) : opR C .idx [lookD l, .int 1] μ = .ok (rows l) μ := opR_idx_tup1 _ _ _
@[simp] theorem ne_look : opR C .ne [.str (PySem.Str.ofString "look"), .str (PySem.Str.ofString "look")] μ = .ok (.bl false) μ := by rw [opR_ne (by decide +kernel) (by decide +kernel)]; rfl
@[simp] theorem len_gameD (l : List (List Rat)) : opR C .len [gameD l] μ = .ok (.int 2) μ := (rfl)
@[simp] theorem idx0_gameD (l : List (List Rat)) : opR C .idx [gameD l, .int 0] μ = .ok (.str (PySem.Str.ofString "game")) μ := opR_idx_tup0 _ _
@[simp] theorem idx1_gameD (l : List (List Rat)) : opR C .idx [gameD l, .int 1] μ = .ok (rows l) μ := opR_idx_tup1 _ _ _
@[simp] theorem ne_game : opR C .ne [.str (PySem.Str.ofString "game"), .str (PySem.Str.ofString "game")] μ = .ok (.bl false) μ := by rw [opR_ne (by decide +kernel) (by decide +kernel)]; rfl
theorem sumLists_lst {μ : Mu} {α : Type} (f : α → List D) : ∀ ls : List α, sumLists μ (ls.map fun x => .lst (f x)) = some (ls.map f).flatten
  | [] => rfl
  | l :: ls => by
    show ((litems μ (.lst (f l))).bind fun xs => (sumLists μ (ls.map fun x => .lst (f x))).map fun ys => xs ++ ys) = _
    rw [sumLists_lst f ls]; rfl
theorem sum2_lst {α : Type} (f : α → List D) (ls : List α) (h0 : ls ≠ []) (h : (ls.map f).flatten.length ≤ 1000000) (μ : Mu) : opR C .sum2 [.lst (ls.map fun x => .lst (f x)), .lst []] μ = .ok (.lst (ls.map f).flatten) μ := by
  have e : sum2S μ (.lst (ls.map fun x => .lst (f x))) (.lst []) = some (.new (ls.map f).flatten) := by
    show (if (ls.map fun x => D.lst (f x)).isEmpty = true then some (PR.v (.lst [])) else (sumLists μ (ls.map fun x => D.lst (f x))).bind newL) = _
    have hne : ¬ (ls.map fun x => D.lst (f x)).isEmpty = true := by
      cases ls with
      | nil => exact absurd rfl h0
      | cons _ _ => simp
    rw [if_neg hne, sumLists_lst]
    show newL _ = _
    unfold newL
    rw [if_pos (by unfold LIM; omega)]
  show lift ((sum2S μ (.lst (ls.map fun x => .lst (f x))) (.lst [])).map prD) μ = _
  rw [e]; rfl
end
end PyE
set_option maxRecDepth 100000
/-! texts: a mark stands once -/
namespace PyE
open PySem
/-- nowhere "ar", no "a" at the end -/
def cln : List Nat → Bool
  | [] => true
  | [c] => c != 97
  | a :: b :: r => !(a == 97 && b == 114) && cln (b :: r)
theorem cln_append : ∀ {a b : List Nat}, cln a = true → cln b = true → cln (a ++ b) = true
  | [], b, _, h => h
  | [c], [], h, _ => h
  | [c], x :: r, h, h2 => by
    show (!(c == 97 && x == 114) && cln (x :: r)) = true
    rw [h2, Bool.and_true]
    have : (c == 97) = false := by
      have h' : (c != 97) = true := h
      simpa using h'
    rw [this]; rfl
  | c :: d :: r, b, h, h2 => by
    have h' : (!(c == 97 && d == 114) && cln (d :: r)) = true := h
    rw [Bool.and_eq_true] at h'
    show (!(c == 97 && d == 114) && cln (d :: r ++ b)) = true
    rw [h'.1, cln_append h'.2 h2]; rfl
theorem cln_free : ∀ {l : List Nat}, 97 ∉ l → cln l = true
  | [], _ => rfl
  | [c], h => by
    show (c != 97) = true
    simp at h ⊢
    exact fun e => h e.symm
  | c :: d :: r, h => by
    have h1 : (c == 97) = false := by
      simp at h ⊢
      exact fun e => h.1 e.symm
    show (!(c == 97 && d == 114) && cln (d :: r)) = true
    rw [h1, cln_free fun z => h (List.mem_cons_of_mem _ z)]; rfl
theorem cln_no : ∀ {l : List Nat} (_ : cln l = true) (i : Nat), l[i]? = some 97 → l[i + 1]? = some 114 → False
  | [], _, i, h, _ => by simp at h
  | [c], h, 0, h1, h2 => by simp at h2
  | [c], h, i + 1, h1, h2 => by simp at h1
  | c :: d :: r, h, 0, h1, h2 => by
    have h' : (!(c == 97 && d == 114) && cln (d :: r)) = true := h
    simp at h1 h2
    subst h1; subst h2
    simp at h'
  | c :: d :: r, h, i + 1, h1, h2 => by
    have h' : (!(c == 97 && d == 114) && cln (d :: r)) = true := h
    rw [Bool.and_eq_true] at h'
    exact cln_no h'.2 i (by simpa using h1) (by simpa using h2)
theorem cln_last : ∀ {l : List Nat} (_ : cln l = true) (x : Nat) (hx : l.getLast? = some x), x ≠ 97
  | [], _, x, h => by simp at h
  | [c], h, x, hx => by
    have h' : (c != 97) = true := h
    simp at hx
    subst hx
    simpa using h'
  | c :: d :: r, h, x, hx => by
    have h' : (!(c == 97 && d == 114) && cln (d :: r)) = true := h
    rw [Bool.and_eq_true] at h'
    exact cln_last h'.2 x (by simpa using hx)
def mkL : List Nat := [39, 109, 97, 114, 107, 39]
/-- where "ar" stands -/
theorem ar_at {p q : List Nat} (hp : cln p = true) (hq : cln q = true) (i : Nat) (h1 : (p ++ mkL ++ q)[i]? = some 97) (h2 : (p ++ mkL ++ q)[i + 1]? = some 114) : i = p.length + 2 := by
  have hpm : cln (p ++ [39, 109]) = true := cln_append hp (by decide)
  have e : p ++ mkL ++ q = (p ++ [39, 109]) ++ ([97, 114] ++ ([107, 39] ++ q)) := by simp [mkL]
  rw [e] at h1 h2
  have lp : (p ++ [39, 109]).length = p.length + 2 := by simp
  by_cases c1 : i + 1 < p.length + 2
  · rw [List.getElem?_append_left (by omega)] at h1 h2
    exact (cln_no hpm i h1 h2).elim
  by_cases c2 : i < p.length + 2
  · rw [List.getElem?_append_left (by omega)] at h1
    have : (p ++ [39, 109])[i]? = some 109 := by
      rw [List.getElem?_append_right (by omega), show i - p.length = 1 by omega]; rfl
    rw [this] at h1
    cases h1
  rw [List.getElem?_append_right (by omega), lp] at h1 h2
  obtain ⟨j, rfl⟩ : ∃ j, i = p.length + 2 + j := ⟨i - (p.length + 2), by omega⟩
  rw [show p.length + 2 + j - (p.length + 2) = j by omega] at h1
  rw [show p.length + 2 + j + 1 - (p.length + 2) = j + 1 by omega] at h2
  have hq2 : cln ([107, 39] ++ q) = true := cln_append (by decide) hq
  match j with
  | 0 => rfl
  | 1 => simp at h1
  | j + 2 =>
    rw [List.getElem?_append_right (by simp)] at h1 h2
    exact (cln_no hq2 j (by simpa using h1) (by simpa using h2)).elim
theorem count_one {x y : Str} {i0 : Nat} (hy : 1 ≤ y.length) (h : ∀ i, StrLaws.At x y x.length i ↔ i = i0) : Txt.count x y = 1 := by
  obtain ⟨f, hc, hn⟩ := StrLaws.occ_tight x y hy
  have hi0 := (h i0).mpr rfl
  have key : (Builtin.Str.occurrences x y 0 x.length (x.length + 1)).length = 1 := by
    generalize Builtin.Str.occurrences x y 0 x.length (x.length + 1) = l at hc
    match l, hc with
    | [], hc =>
      have e : f = 0 := hc
      exact absurd hi0 (hn i0 (by omega))
    | [a], _ => rfl
    | a :: b :: r, hc =>
      obtain ⟨_, h1, _, h2⟩ := hc
      obtain ⟨h3, h4, _, _⟩ := h2
      have e1 := (h a).mp h1
      have e2 := (h b).mp h4
      omega
  unfold Txt.count
  rw [key]; rfl
theorem subAt_list {x y : Str} {i : Nat} : Builtin.Str.subAt x y i = true ↔ (x.cps.toList.drop i).take y.length = y.cps.toList := by
  unfold Builtin.Str.subAt
  rw [beq_iff_eq, ← Array.toList_inj, Array.toList_extract]
  show List.take (i + y.length - i) (List.drop i x.cps.toList) = _ ↔ _
  rw [show i + y.length - i = y.length by omega]
def mkS : Str := Str.ofString "'mark'"
theorem mkS_list : mkS.cps.toList = mkL := by decide +kernel
theorem mkS_len : mkS.length = 6 := by decide +kernel
theorem count_mark {x : Str} {p q : List Nat} (e : x.cps.toList = p ++ mkL ++ q) (hp : cln p = true) (hq : cln q = true) : Txt.count x mkS = 1 := by
  refine count_one (i0 := p.length) (by rw [mkS_len]; decide) fun i => ⟨fun ⟨h1, h2⟩ => ?_, fun h => ?_⟩
  · rw [subAt_list, e, mkS_len, mkS_list] at h2
    have g : ∀ j, j < 6 → (p ++ mkL ++ q)[i + j]? = mkL[j]? := fun j hj => by
      have z := congrArg (fun l => l[j]?) h2
      simp only [List.getElem?_take_of_lt hj, List.getElem?_drop] at z
      exact z
    have := ar_at hp hq (i + 2) (g 2 (by decide)) (g 3 (by decide))
    omega
  · subst h
    refine ⟨?_, ?_⟩
    · have : x.length = x.cps.toList.length := by simp [Str.length]
      rw [this, e, mkS_len]
      simp [mkL]
    · rw [subAt_list, e, mkS_len, mkS_list, List.append_assoc, List.drop_left, List.take_left' (by rfl)]
/-! shown values -/
mutual
def cleanD : D → Bool
  | .none => true
  | .bl _ => true
  | .int _ => true
  | .str s => cln (reprText s).cps.toList
  | .tup xs => cleanL xs
  | .lst xs => cleanL xs
  | _ => false
def cleanL : List D → Bool
  | [] => true
  | x :: xs => cleanD x && cleanL xs
end
theorem cl_str {s : String} {l : List Nat} (h : (Str.ofString s).cps.toList = l) (hc : cln l = true) : cln (Str.ofString s).cps.toList = true := by rw [h]; exact hc
theorem cln_join {α : Type} (f : α → Str) : ∀ (l : List α), (∀ x ∈ l, cln (f x).cps.toList = true) → cln (Str.join ", " (l.map f)).cps.toList = true
  | [], _ => by show cln (Str.join ", " []).cps.toList = true; decide
  | [x], h => h x (List.mem_cons_self ..)
  | x :: y :: r, h => by
    show cln (f x ++ ", " ++ Str.join ", " ((y :: r).map f)).cps.toList = true
    rw [PyProof.Rows.cps_toList_append, PyProof.Rows.cps_toList_append]
    exact cln_append (cln_append (h x (List.mem_cons_self ..)) (by decide)) (cln_join f (y :: r) fun z hz => h z (List.mem_cons_of_mem _ hz))
theorem shownAll_map : ∀ xs : List PyData, PyData.shownAll xs = xs.map PyData.shown
  | [] => PyData.shownAll_nil
  | x :: xs => by rw [PyData.shownAll_cons, shownAll_map xs]; rfl
theorem pdL_map : ∀ xs : List D, D.pdL xs = xs.map D.pd
  | [] => rfl
  | x :: xs => by show D.pd x :: D.pdL xs = _; rw [pdL_map xs]; rfl
theorem cln_tail (n : Nat) : cln ((if (n == 1) = true then ",)" else ")" : String) : Str).cps.toList = true := by
  by_cases h : (n == 1) = true
  · rw [if_pos h]; decide
  · rw [if_neg h]; decide
theorem cleanL_mem : ∀ {xs : List D}, cleanL xs = true → ∀ x ∈ xs, cleanD x = true
  | [], _, x, h => by simp at h
  | y :: ys, h, x, hx => by
    have h' : (cleanD y && cleanL ys) = true := h
    rw [Bool.and_eq_true] at h'
    rcases List.mem_cons.mp hx with rfl | hx
    · exact h'.1
    · exact cleanL_mem h'.2 x hx
theorem cleanL_of : ∀ {xs : List D}, (∀ x ∈ xs, cleanD x = true) → cleanL xs = true
  | [], _ => rfl
  | y :: ys, h => by
    show (cleanD y && cleanL ys) = true
    rw [h y (List.mem_cons_self ..), cleanL_of fun x hx => h x (List.mem_cons_of_mem _ hx)]; rfl
mutual
theorem clean_shown : ∀ (d : D), cleanD d = true → cln d.pd.shown.cps.toList = true
  | .none, _ => by show cln (PyData.none).shown.cps.toList = true; rw [PyData.shown_none]; decide
  | .bl b, _ => by
    show cln (PyData.bool b).shown.cps.toList = true
    rw [PyData.shown_bool]
    cases b
    · decide
    · decide
  | .int i, _ => cln_free (PyProof.Rows.shown_int_free' (by omega) i)
  | .str s, h => by show cln (PyData.str s).shown.cps.toList = true; rw [PyData.shown_str]; exact h
  | .tup xs, h => by
    show cln (PyData.tuple (D.pdL xs)).shown.cps.toList = true
    rw [PyData.shown_tuple, shownAll_map, PyProof.Rows.cps_toList_append, PyProof.Rows.cps_toList_append]
    exact cln_append (cln_append (by decide) (cln_join _ _ (clean_shownL xs h))) (cln_tail _)
  | .lst xs, h => by
    show cln (PyData.list (D.pdL xs)).shown.cps.toList = true
    rw [PyData.shown_list, shownAll_map, PyProof.Rows.cps_toList_append, PyProof.Rows.cps_toList_append]
    exact cln_append (cln_append (by decide) (cln_join _ _ (clean_shownL xs h))) (by decide)
  | .ref _, h => by cases h
  | .fn _, h => by cases h
  | .dct, h => by cases h
  | .exc _ _, h => by cases h
  | .scr _, h => by cases h
theorem clean_shownL : ∀ (xs : List D), cleanL xs = true → ∀ p ∈ D.pdL xs, cln p.shown.cps.toList = true
  | [], _, p, hp => by simp [D.pdL] at hp
  | x :: xs, h, p, hp => by
    have h' : (cleanD x && cleanL xs) = true := h
    rw [Bool.and_eq_true] at h'
    rcases List.mem_cons.mp (show p ∈ x.pd :: D.pdL xs from hp) with rfl | hp
    · exact clean_shown x h'.1
    · exact clean_shownL xs h'.2 p hp
end
/-- one list of it with a mark behind -/
def markD : D := .str (Str.ofString "mark")
mutual
def Mk1 : D → D → Prop
  | .tup xs, dm => ∃ ys, dm = .tup ys ∧ Mk1L xs ys
  | .lst xs, dm => dm = .lst (xs ++ [markD]) ∨ ∃ ys, dm = .lst ys ∧ Mk1L xs ys
  | _, _ => False
def Mk1L : List D → List D → Prop
  | [], _ => False
  | x :: xs, ys => (∃ y, ys = y :: xs ∧ Mk1 x y) ∨ ∃ r, ys = x :: r ∧ Mk1L xs r
end
def HasMk (l : List Nat) : Prop := ∃ p q, l = p ++ mkL ++ q ∧ cln p = true ∧ cln q = true
theorem HasMk.left {a l : List Nat} (ha : cln a = true) : HasMk l → HasMk (a ++ l) := fun ⟨p, q, e, h1, h2⟩ => ⟨a ++ p, q, by rw [e]; simp, cln_append ha h1, h2⟩
theorem HasMk.right {a l : List Nat} (ha : cln a = true) : HasMk l → HasMk (l ++ a) := fun ⟨p, q, e, h1, h2⟩ => ⟨p, q ++ a, by rw [e]; simp, h1, cln_append h2 ha⟩
theorem hasMk_mark : HasMk markD.pd.shown.cps.toList := ⟨[], [], by show (PyData.str (Str.ofString "mark")).shown.cps.toList = _; rw [PyData.shown_str]; decide +kernel, rfl, rfl⟩
theorem join_cons_ne (x : Str) {r : List Str} (h : r ≠ []) : Str.join ", " (x :: r) = x ++ ", " ++ Str.join ", " r := by
  cases r with
  | nil => exact absurd rfl h
  | cons y r => rfl
theorem hasMk_join_end : ∀ (l : List PyData), (∀ p ∈ l, cln p.shown.cps.toList = true) → HasMk (Str.join ", " ((l ++ [markD.pd]).map PyData.shown)).cps.toList
  | [], _ => hasMk_mark
  | x :: r, h => by
    rw [List.cons_append, List.map_cons, join_cons_ne _ (by simp), PyProof.Rows.cps_toList_append, PyProof.Rows.cps_toList_append]
    exact (hasMk_join_end r fun z hz => h z (List.mem_cons_of_mem _ hz)).left (cln_append (h x (List.mem_cons_self ..)) (by decide))
mutual
theorem mk_shown : ∀ (d dm : D), cleanD d = true → Mk1 d dm → HasMk dm.pd.shown.cps.toList
  | .tup xs, dm, h, m => by
    obtain ⟨ys, rfl, m⟩ := m
    show HasMk (PyData.tuple (D.pdL ys)).shown.cps.toList
    rw [PyData.shown_tuple, shownAll_map, PyProof.Rows.cps_toList_append, PyProof.Rows.cps_toList_append]
    exact ((mk_shownL xs ys h m).left (by decide)).right (cln_tail _)
  | .lst xs, dm, h, m => by
    rcases m with rfl | ⟨ys, rfl, m⟩
    · show HasMk (PyData.list (D.pdL (xs ++ [markD]))).shown.cps.toList
      rw [PyData.shown_list, shownAll_map, PyProof.Rows.cps_toList_append, PyProof.Rows.cps_toList_append, pdL_map, List.map_append, ← pdL_map]
      exact ((hasMk_join_end _ (clean_shownL xs h)).left (by decide)).right (by decide)
    · show HasMk (PyData.list (D.pdL ys)).shown.cps.toList
      rw [PyData.shown_list, shownAll_map, PyProof.Rows.cps_toList_append, PyProof.Rows.cps_toList_append]
      exact ((mk_shownL xs ys h m).left (by decide)).right (by decide)
  | .none, _, _, m => m.elim
  | .bl _, _, _, m => m.elim
  | .int _, _, _, m => m.elim
  | .str _, _, _, m => m.elim
  | .ref _, _, _, m => m.elim
  | .fn _, _, _, m => m.elim
  | .dct, _, _, m => m.elim
  | .exc _ _, _, _, m => m.elim
  | .scr _, _, _, m => m.elim
theorem mk_shownL : ∀ (xs ys : List D), cleanL xs = true → Mk1L xs ys → HasMk (Str.join ", " ((D.pdL ys).map PyData.shown)).cps.toList
  | [], _, _, m => m.elim
  | x :: xs, ys, h, m => by
    have h' : (cleanD x && cleanL xs) = true := h
    rw [Bool.and_eq_true] at h'
    rcases m with ⟨y, rfl, m⟩ | ⟨r, rfl, m⟩
    · have hy := mk_shown x y h'.1 m
      show HasMk (Str.join ", " (y.pd.shown :: (D.pdL xs).map PyData.shown)).cps.toList
      by_cases z : (D.pdL xs).map PyData.shown = []
      · rw [z]; exact hy
      · rw [join_cons_ne _ z, PyProof.Rows.cps_toList_append, PyProof.Rows.cps_toList_append, List.append_assoc]
        exact hy.right (cln_append (by decide) (cln_join _ _ (clean_shownL xs h'.2)))
    · have hr := mk_shownL xs r h'.2 m
      show HasMk (Str.join ", " (x.pd.shown :: (D.pdL r).map PyData.shown)).cps.toList
      have z : (D.pdL r).map PyData.shown ≠ [] := by
        cases xs with
        | nil => exact m.elim
        | cons a s =>
          rcases m with ⟨y, rfl, _⟩ | ⟨r', rfl, _⟩ <;> simp [D.pdL]
      rw [join_cons_ne _ z, PyProof.Rows.cps_toList_append, PyProof.Rows.cps_toList_append]
      exact hr.left (cln_append (clean_shown x h'.1) (by decide))
end
theorem mk_count {d dm : D} (h : cleanD d = true) (m : Mk1 d dm) : Txt.count dm.pd.shown mkS = 1 := by
  obtain ⟨p, q, e, h1, h2⟩ := mk_shown d dm h m
  exact count_mark e h1 h2
end PyE
set_option maxRecDepth 100000
/-! values with cells of their own at every depth -/
namespace PyE
open PySem
mutual
/-- y reads as the frozen x; the lists in it are the cells S, in order -/
def Own (μ : Mu) : D → D → List Nat → Prop
  | .none, y, S => y = .none ∧ S = []
  | .bl b, y, S => y = .bl b ∧ S = []
  | .int i, y, S => y = .int i ∧ S = []
  | .str s, y, S => y = .str s ∧ S = []
  | .tup xs, y, S => ∃ ys, y = .tup ys ∧ OwnL μ xs ys S
  | .lst xs, y, S => ∃ r ys S', y = .ref r ∧ μ[r]? = some ys ∧ S = r :: S' ∧ OwnL μ xs ys S'
  | _, _, _ => False
def OwnL (μ : Mu) : List D → List D → List Nat → Prop
  | [], ys, S => ys = [] ∧ S = []
  | x :: xs, ys, S => ∃ y r S1 S2, ys = y :: r ∧ S = S1 ++ S2 ∧ Own μ x y S1 ∧ OwnL μ xs r S2
end
mutual
theorem Own.same {μ μ' : Mu} : ∀ (x y : D) (S : List Nat), (∀ r ∈ S, μ'[r]? = μ[r]?) → Own μ x y S → Own μ' x y S
  | .none, _, _, _, h => h
  | .bl _, _, _, _, h => h
  | .int _, _, _, _, h => h
  | .str _, _, _, _, h => h
  | .tup xs, y, S, g, h => by
    obtain ⟨ys, e, h⟩ := h
    exact ⟨ys, e, OwnL.same xs ys S g h⟩
  | .lst xs, y, S, g, h => by
    obtain ⟨r, ys, S', e, e1, rfl, h⟩ := h
    exact ⟨r, ys, S', e, by rw [g r (List.mem_cons_self ..), e1], rfl, OwnL.same xs ys S' (fun q hq => g q (List.mem_cons_of_mem _ hq)) h⟩
  | .ref _, _, _, _, h => h.elim
  | .fn _, _, _, _, h => h.elim
  | .dct, _, _, _, h => h.elim
  | .exc _ _, _, _, _, h => h.elim
  | .scr _, _, _, _, h => h.elim
theorem OwnL.same {μ μ' : Mu} : ∀ (xs ys : List D) (S : List Nat), (∀ r ∈ S, μ'[r]? = μ[r]?) → OwnL μ xs ys S → OwnL μ' xs ys S
  | [], _, _, _, h => h
  | x :: xs, ys, S, g, h => by
    obtain ⟨y, r, S1, S2, e, rfl, h1, h2⟩ := h
    exact ⟨y, r, S1, S2, e, rfl, Own.same x y S1 (fun q hq => g q (List.mem_append_left _ hq)) h1, OwnL.same xs r S2 (fun q hq => g q (List.mem_append_right _ hq)) h2⟩
end
mutual
theorem Own.lt {μ : Mu} : ∀ (x y : D) (S : List Nat), Own μ x y S → ∀ r ∈ S, r < μ.length
  | .none, _, _, h, r, hr => by rw [h.2] at hr; simp at hr
  | .bl _, _, _, h, r, hr => by rw [h.2] at hr; simp at hr
  | .int _, _, _, h, r, hr => by rw [h.2] at hr; simp at hr
  | .str _, _, _, h, r, hr => by rw [h.2] at hr; simp at hr
  | .tup xs, y, S, h, r, hr => by
    obtain ⟨ys, e, h⟩ := h
    exact OwnL.lt xs ys S h r hr
  | .lst xs, y, S, h, r, hr => by
    obtain ⟨q, ys, S', e, e1, rfl, h⟩ := h
    rcases List.mem_cons.mp hr with rfl | hr
    · exact (List.getElem?_eq_some_iff.mp e1).1
    · exact OwnL.lt xs ys S' h r hr
  | .ref _, _, _, h, _, _ => h.elim
  | .fn _, _, _, h, _, _ => h.elim
  | .dct, _, _, h, _, _ => h.elim
  | .exc _ _, _, _, h, _, _ => h.elim
  | .scr _, _, _, h, _, _ => h.elim
theorem OwnL.lt {μ : Mu} : ∀ (xs ys : List D) (S : List Nat), OwnL μ xs ys S → ∀ r ∈ S, r < μ.length
  | [], _, _, h, r, hr => by rw [h.2] at hr; simp at hr
  | x :: xs, ys, S, h, r, hr => by
    obtain ⟨y, q, S1, S2, e, rfl, h1, h2⟩ := h
    rcases List.mem_append.mp hr with hr | hr
    · exact Own.lt x y S1 h1 r hr
    · exact OwnL.lt xs q S2 h2 r hr
end
mutual
/-- what is read -/
theorem Own.py {μ : Mu} : ∀ (n k : Nat) (x y : D) (S : List Nat), okd n x = true → n ≤ k → Own μ x y S → y.py (tab μ k) = some x.pd
  | _, _, .none, _, _, _, _, h => by rw [h.1]; rfl
  | _, _, .bl _, _, _, _, _, h => by rw [h.1]; rfl
  | _, _, .int _, _, _, _, _, h => by rw [h.1]; rfl
  | _, _, .str _, _, _, _, _, h => by rw [h.1]; rfl
  | 0, _, .tup _, _, _, o, _, _ => by cases o
  | n + 1, k, .tup xs, y, S, o, hk, h => by
    obtain ⟨ys, rfl, h⟩ := h
    show (D.pyL (tab μ k) ys).map PyData.tuple = _
    rw [OwnL.py n k xs ys S (by rw [okd_tup] at o; exact o) (by omega) h]; rfl
  | 0, _, .lst _, _, _, o, _, _ => by cases o
  | n + 1, 0, .lst xs, y, S, o, hk, h => by omega
  | n + 1, k + 1, .lst xs, y, S, o, hk, h => by
    obtain ⟨r, ys, S', rfl, e1, rfl, h⟩ := h
    show tab μ (k + 1) r = _
    unfold tab
    rw [e1]
    show (D.pyL (tab μ k) ys).map PyData.list = _
    rw [OwnL.py n k xs ys S' (by rw [okd_lst] at o; exact o) (by omega) h]; rfl
  | _, _, .ref _, _, _, _, _, h => h.elim
  | _, _, .fn _, _, _, _, _, h => h.elim
  | _, _, .dct, _, _, _, _, h => h.elim
  | _, _, .exc _ _, _, _, _, _, h => h.elim
  | _, _, .scr _, _, _, _, _, h => h.elim
theorem OwnL.py {μ : Mu} : ∀ (n k : Nat) (xs ys : List D) (S : List Nat), okdL n xs = true → n ≤ k → OwnL μ xs ys S → D.pyL (tab μ k) ys = some (D.pdL xs)
  | _, _, [], _, _, _, _, h => by rw [h.1]; rfl
  | n, k, x :: xs, ys, S, o, hk, h => by
    obtain ⟨y, r, S1, S2, rfl, rfl, h1, h2⟩ := h
    rw [okdL_cons, Bool.and_eq_true] at o
    show (D.py (tab μ k) y).bind (fun a => (D.pyL (tab μ k) r).map fun b => a :: b) = _
    rw [Own.py n k x y S1 o.1 hk h1, OwnL.py n k xs r S2 o.2 hk h2]; rfl
end
mutual
/-- a mark behind one of its lists -/
theorem Own.mark {μ : Mu} : ∀ (x y : D) (S : List Nat) (r : Nat) (zs : List D), r ∈ S → S.Nodup → μ[r]? = some zs → Own μ x y S → ∃ dm, Mk1 x dm ∧ Own (μ.set r (zs ++ [markD])) dm y S
  | .none, _, _, _, _, hr, _, _, h => by rw [h.2] at hr; simp at hr
  | .bl _, _, _, _, _, hr, _, _, h => by rw [h.2] at hr; simp at hr
  | .int _, _, _, _, _, hr, _, _, h => by rw [h.2] at hr; simp at hr
  | .str _, _, _, _, _, hr, _, _, h => by rw [h.2] at hr; simp at hr
  | .tup xs, y, S, r, zs, hr, nd, hz, h => by
    obtain ⟨ys, e, h⟩ := h
    obtain ⟨ds, m, o⟩ := OwnL.mark xs ys S r zs hr nd hz h
    exact ⟨.tup ds, ⟨ds, rfl, m⟩, ⟨ys, e, o⟩⟩
  | .lst xs, y, S, r, zs, hr, nd, hz, h => by
    obtain ⟨q, ys, S', e, e1, rfl, h⟩ := h
    have nd' := List.nodup_cons.mp nd
    have hl : r < μ.length := (List.getElem?_eq_some_iff.mp hz).1
    by_cases hq : q = r
    · subst hq
      rw [hz] at e1
      cases e1
      refine ⟨.lst (xs ++ [markD]), .inl rfl, ⟨q, zs ++ [markD], S', e, by rw [List.getElem?_set_self hl], rfl, ?_⟩⟩
      have key : ∀ (xs ys : List D) (S : List Nat), OwnL μ xs ys S → q ∉ S → OwnL (μ.set q (zs ++ [markD])) (xs ++ [markD]) (ys ++ [markD]) S := by
        intro xs
        induction xs with
        | nil =>
          intro ys S h _
          obtain ⟨rfl, rfl⟩ := h
          exact ⟨markD, [], [], [], rfl, rfl, ⟨rfl, rfl⟩, rfl, rfl⟩
        | cons x xs ih =>
          intro ys S h hn
          obtain ⟨y, r, S1, S2, rfl, rfl, h1, h2⟩ := h
          refine ⟨y, r ++ [markD], S1, S2, rfl, rfl, Own.same x y S1 (fun p hp => ?_) h1, ih r S2 h2 fun z => hn (List.mem_append_right _ z)⟩
          rw [List.getElem?_set_ne]
          intro z; subst z
          exact hn (List.mem_append_left _ hp)
      exact key xs zs S' h nd'.1
    · have hr' : r ∈ S' := by
        rcases List.mem_cons.mp hr with z | z
        · exact absurd z.symm hq
        · exact z
      obtain ⟨ds, m, o⟩ := OwnL.mark xs ys S' r zs hr' nd'.2 hz h
      exact ⟨.lst ds, .inr ⟨ds, rfl, m⟩, ⟨q, ys, S', e, by rw [List.getElem?_set_ne (fun z => hq z.symm), e1], rfl, o⟩⟩
  | .ref _, _, _, _, _, _, _, _, h => h.elim
  | .fn _, _, _, _, _, _, _, _, h => h.elim
  | .dct, _, _, _, _, _, _, _, h => h.elim
  | .exc _ _, _, _, _, _, _, _, _, h => h.elim
  | .scr _, _, _, _, _, _, _, _, h => h.elim
theorem OwnL.mark {μ : Mu} : ∀ (xs ys : List D) (S : List Nat) (r : Nat) (zs : List D), r ∈ S → S.Nodup → μ[r]? = some zs → OwnL μ xs ys S → ∃ ds, Mk1L xs ds ∧ OwnL (μ.set r (zs ++ [markD])) ds ys S
  | [], _, _, _, _, hr, _, _, h => by rw [h.2] at hr; simp at hr
  | x :: xs, ys, S, r, zs, hr, nd, hz, h => by
    obtain ⟨y, q, S1, S2, e, rfl, h1, h2⟩ := h
    obtain ⟨n1, n2, n3⟩ := List.nodup_append.mp nd
    by_cases c : r ∈ S1
    · obtain ⟨d, m, o⟩ := Own.mark x y S1 r zs c n1 hz h1
      refine ⟨d :: xs, .inl ⟨d, rfl, m⟩, ⟨y, q, S1, S2, e, rfl, o, OwnL.same xs q S2 (fun p hp => ?_) h2⟩⟩
      rw [List.getElem?_set_ne]
      intro z; subst z
      exact n3 r c r hp rfl
    · have c2 : r ∈ S2 := (List.mem_append.mp hr).resolve_left c
      obtain ⟨ds, m, o⟩ := OwnL.mark xs q S2 r zs c2 n2 hz h2
      refine ⟨x :: ds, .inr ⟨ds, rfl, m⟩, ⟨y, q, S1, S2, e, rfl, Own.same x y S1 (fun p hp => ?_) h1, o⟩⟩
      rw [List.getElem?_set_ne]
      intro z; subst z
      exact c hp
end
end PyE
set_option maxRecDepth 100000
/-! repr -/
namespace PyE
open PySem
/-- shown text, of signs -/
def sgn (l : List Nat) : Bool := l.all fun c => decide (c < 0x110000)
theorem sgn_append {a b : List Nat} (h : sgn a = true) (h2 : sgn b = true) : sgn (a ++ b) = true := by unfold sgn at *; rw [List.all_append, h, h2]; rfl
set_option exponentiation.threshold 2000
def BIG : Nat := 2 ^ 1900
theorem BIG_of {a n : Nat} (h : a < 2 ^ n) (hn : n ≤ 1900 := by decide) : a < BIG := Nat.lt_of_lt_of_le h (Nat.pow_le_pow_right (by decide) hn)
theorem BIG_log {a : Nat} (h : a < BIG) (z : a ≠ 0) : a.log2 < 1900 := (Nat.log2_lt z).mpr h
mutual
def rp : Nat → D → Bool
  | _, .none => true
  | _, .bl _ => true
  | _, .int i => decide (i.natAbs < BIG)
  | _, .str s => sgn s.cps.toList && sgn (reprText s).cps.toList
  | n, .tup xs => (match n with | 0 => false | m + 1 => rpL m xs)
  | n, .lst xs => (match n with | 0 => false | m + 1 => rpL m xs)
  | n, .dct => (match n with | 0 => false | _ + 1 => true)
  | _, .ref _ => false
  | _, .fn _ => false
  | _, .exc _ _ => false
  | _, .scr _ => false
def rpL : Nat → List D → Bool
  | _, [] => true
  | n, x :: xs => rp n x && rpL n xs
end
mutual
def wt : D → Nat
  | .int _ => 600
  | .str s => (reprText s).length
  | .tup xs => wtL xs + 3
  | .lst xs => wtL xs + 3
  | _ => 5
def wtL : List D → Nat
  | [] => 0
  | x :: xs => wt x + 2 + wtL xs
end
@[simp] theorem rp_none (n : Nat) : rp n .none = true := by cases n <;> rfl
@[simp] theorem rp_bl (n : Nat) (b : Bool) : rp n (.bl b) = true := by cases n <;> rfl
@[simp] theorem rp_int (n : Nat) (i : Int) : rp n (.int i) = decide (i.natAbs < BIG) := by cases n <;> rfl
@[simp] theorem rp_str (n : Nat) (s : Str) : rp n (.str s) = (sgn s.cps.toList && sgn (reprText s).cps.toList) := by cases n <;> rfl
@[simp] theorem rp_lst (n : Nat) (l : List D) : rp (n + 1) (.lst l) = rpL n l := by cases n <;> rfl
@[simp] theorem rp_tup (n : Nat) (l : List D) : rp (n + 1) (.tup l) = rpL n l := by cases n <;> rfl
@[simp] theorem rp_dct (n : Nat) : rp (n + 1) .dct = true := by cases n <;> rfl
@[simp] theorem rpL_nil (n : Nat) : rpL n [] = true := by cases n <;> rfl
@[simp] theorem rpL_cons (n : Nat) (x : D) (l : List D) : rpL n (x :: l) = (rp n x && rpL n l) := by cases n <;> rfl
theorem rpL_of {n : Nat} : ∀ {l : List D}, (∀ x ∈ l, rp n x = true) → rpL n l = true
  | [], _ => by simp
  | x :: l, h => by rw [rpL_cons, h x (List.mem_cons_self ..), rpL_of fun y hy => h y (List.mem_cons_of_mem _ hy)]; rfl
theorem rpL_mem {n : Nat} : ∀ {l : List D}, rpL n l = true → ∀ x ∈ l, rp n x = true
  | [], _, x, hx => by simp at hx
  | y :: l, h, x, hx => by
    rw [rpL_cons, Bool.and_eq_true] at h
    rcases List.mem_cons.mp hx with rfl | hx
    · exact h.1
    · exact rpL_mem h.2 x hx
theorem rpL_map {α : Type} {f : α → D} {n : Nat} {l : List α} (h : ∀ x ∈ l, rp n (f x) = true) : rpL n (l.map f) = true := rpL_of fun d hd => by
  obtain ⟨x, hx, rfl⟩ := List.mem_map.mp hd
  exact h x hx
@[simp] theorem rpL_append (n : Nat) (a b : List D) : rpL n (a ++ b) = (rpL n a && rpL n b) := by
  induction a with
  | nil => simp
  | cons x a ih => simp [ih, Bool.and_assoc]
mutual
theorem rp_mono : ∀ (n m : Nat) (d : D), n ≤ m → rp n d = true → rp m d = true
  | _, _, .none, _, _ => by simp
  | _, _, .bl _, _, _ => by simp
  | _, _, .int _, _, h => by simpa using h
  | _, _, .str _, _, h => by simpa using h
  | 0, _, .tup xs, _, h => by cases h
  | n + 1, 0, .tup xs, hn, h => by omega
  | n + 1, m + 1, .tup xs, hn, h => by rw [rp_tup] at h ⊢; exact rpL_mono n m xs (by omega) h
  | 0, _, .lst xs, _, h => by cases h
  | n + 1, 0, .lst xs, hn, h => by omega
  | n + 1, m + 1, .lst xs, hn, h => by rw [rp_lst] at h ⊢; exact rpL_mono n m xs (by omega) h
  | 0, _, .dct, _, h => by cases h
  | n + 1, 0, .dct, hn, h => by omega
  | n + 1, m + 1, .dct, hn, h => by simp
  | _, _, .ref _, _, h => by cases h
  | _, _, .fn _, _, h => by cases h
  | _, _, .exc _ _, _, h => by cases h
  | _, _, .scr _, _, h => by cases h
theorem rpL_mono : ∀ (n m : Nat) (l : List D), n ≤ m → rpL n l = true → rpL m l = true
  | _, _, [], _, _ => by simp
  | n, m, x :: xs, hn, h => by
    rw [rpL_cons, Bool.and_eq_true] at h ⊢
    exact ⟨rp_mono n m x hn h.1, rpL_mono n m xs hn h.2⟩
end
theorem big10 : BIG < 10 ^ 590 := by decide +kernel
theorem int_len {i : Int} (h : i.natAbs < BIG) : (PyData.int i).shown.length ≤ 591 ∧ sgn (PyData.int i).shown.cps.toList = true := by
  constructor
  · have e := int_text_length_le10 (k := 590) (by decide) (Nat.lt_trans h big10)
    rw [PyData.shown_int]
    show (Str.ofString (toString i)).length ≤ 591
    rw [ofString_length]; exact e
  · unfold sgn
    rw [List.all_eq_true]
    intro c hc
    rw [PyData.shown_int, PyProof.Rows.signs_ofString] at hc
    obtain ⟨ch, hm, rfl⟩ := List.mem_map.mp hc
    rcases PyProof.Rows.int_sign i ch hm with hd | hd
    · have := PyProof.Rows.digit_range hd
      exact decide_eq_true (by omega)
    · rw [hd]; decide
theorem len_toList (x : Str) : x.length = x.cps.toList.length := by simp [Str.length]
theorem len_append (a b : Str) : (a ++ b).length = a.length + b.length := by
  rw [len_toList, PyProof.Rows.cps_toList_append, List.length_append, ← len_toList, ← len_toList]
theorem join_facts : ∀ (l : List D) (ts : List Str), ts = (D.pdL l).map PyData.shown → (∀ d ∈ l, d.pd.shown.length ≤ wt d ∧ sgn d.pd.shown.cps.toList = true) → (Str.join ", " ts).length ≤ wtL l ∧ sgn (Str.join ", " ts).cps.toList = true
  | [], ts, e, _ => by subst e; exact ⟨by decide, by decide⟩
  | [x], ts, e, h => by
    subst e
    obtain ⟨h1, h2⟩ := h x (List.mem_cons_self ..)
    exact ⟨by show x.pd.shown.length ≤ wt x + 2 + 0; omega, h2⟩
  | x :: y :: r, ts, e, h => by
    subst e
    obtain ⟨h1, h2⟩ := h x (List.mem_cons_self ..)
    obtain ⟨h3, h4⟩ := join_facts (y :: r) _ rfl fun d hd => h d (List.mem_cons_of_mem _ hd)
    show (x.pd.shown ++ ", " ++ Str.join ", " ((D.pdL (y :: r)).map PyData.shown)).length ≤ _ ∧ sgn (x.pd.shown ++ ", " ++ Str.join ", " ((D.pdL (y :: r)).map PyData.shown)).cps.toList = true
    rw [len_append, len_append, PyProof.Rows.cps_toList_append, PyProof.Rows.cps_toList_append]
    refine ⟨?_, sgn_append (sgn_append h2 (by decide)) h4⟩
    have : (((", " : String) : Str)).length = 2 := by decide
    show x.pd.shown.length + (((", " : String) : Str)).length + _ ≤ wt x + 2 + wtL (y :: r)
    omega
mutual
theorem rp_shown : ∀ (n : Nat) (d : D), rp n d = true → d.pd.showable = true ∧ d.pd.depth ≤ n ∧ d.pd.shown.length ≤ wt d ∧ sgn d.pd.shown.cps.toList = true
  | _, .none, _ => ⟨rfl, Nat.zero_le _, by show (PyData.none).shown.length ≤ _; rw [PyData.shown_none]; decide, by show sgn (PyData.none).shown.cps.toList = true; rw [PyData.shown_none]; decide⟩
  | _, .bl b, _ => ⟨rfl, Nat.zero_le _, by show (PyData.bool b).shown.length ≤ _; rw [PyData.shown_bool]; cases b <;> decide, by show sgn (PyData.bool b).shown.cps.toList = true; rw [PyData.shown_bool]; cases b <;> decide⟩
  | _, .int i, h => by
    rw [rp_int, decide_eq_true_iff] at h
    obtain ⟨h1, h2⟩ := int_len h
    refine ⟨?_, Nat.zero_le _, Nat.le_trans h1 (show 591 ≤ 600 by decide), h2⟩
    show decide (i.natAbs.log2 < 1920) = true
    by_cases z : i.natAbs = 0
    · rw [z]; decide
    · have := BIG_log h z
      exact decide_eq_true (by omega)
  | _, .str s, h => by
    rw [rp_str, Bool.and_eq_true] at h
    exact ⟨rfl, Nat.zero_le _, by show (PyData.str s).shown.length ≤ _; rw [PyData.shown_str]; exact Nat.le_refl _, by show sgn (PyData.str s).shown.cps.toList = true; rw [PyData.shown_str]; exact h.2⟩
  | 0, .tup xs, h => by cases h
  | n + 1, .tup xs, h => by
    rw [rp_tup] at h
    obtain ⟨h1, h2, h3⟩ := rpL_shown n xs h
    obtain ⟨j1, j2⟩ := join_facts xs _ rfl h3
    refine ⟨h1, by show PyData.depthAll (D.pdL xs) + 1 ≤ _; omega, ?_, ?_⟩
    · show (PyData.tuple (D.pdL xs)).shown.length ≤ wtL xs + 3
      rw [PyData.shown_tuple, shownAll_map, len_append, len_append]
      have e1 : (((if ((D.pdL xs).length == 1) = true then ",)" else ")" : String) : Str)).length ≤ 2 := by split <;> decide
      have e2 : ((("(" : String) : Str)).length = 1 := by decide
      omega
    · show sgn (PyData.tuple (D.pdL xs)).shown.cps.toList = true
      rw [PyData.shown_tuple, shownAll_map, PyProof.Rows.cps_toList_append, PyProof.Rows.cps_toList_append]
      refine sgn_append (sgn_append (by decide) j2) ?_
      split <;> decide
  | 0, .lst xs, h => by cases h
  | n + 1, .lst xs, h => by
    rw [rp_lst] at h
    obtain ⟨h1, h2, h3⟩ := rpL_shown n xs h
    obtain ⟨j1, j2⟩ := join_facts xs _ rfl h3
    refine ⟨h1, by show PyData.depthAll (D.pdL xs) + 1 ≤ _; omega, ?_, ?_⟩
    · show (PyData.list (D.pdL xs)).shown.length ≤ wtL xs + 3
      rw [PyData.shown_list, shownAll_map, len_append, len_append]
      have e2 : ((("[" : String) : Str)).length = 1 := by decide
      have e3 : ((("]" : String) : Str)).length = 1 := by decide
      omega
    · show sgn (PyData.list (D.pdL xs)).shown.cps.toList = true
      rw [PyData.shown_list, shownAll_map, PyProof.Rows.cps_toList_append, PyProof.Rows.cps_toList_append]
      exact sgn_append (sgn_append (by decide) j2) (by decide)
  | 0, .dct, h => by cases h
  | n + 1, .dct, h => ⟨rfl, by show PyData.depth (.dict []) ≤ n + 1; simp [PyData.depth, PyData.depthKv], by show (PyData.dict []).shown.length ≤ 5; simp only [PyData.shown, PyData.shownKv]; decide, by show sgn (PyData.dict []).shown.cps.toList = true; simp only [PyData.shown, PyData.shownKv]; decide⟩
  | _, .ref _, h => by cases h
  | _, .fn _, h => by cases h
  | _, .exc _ _, h => by cases h
  | _, .scr _, h => by cases h
theorem rpL_shown : ∀ (n : Nat) (xs : List D), rpL n xs = true → PyData.showableAll (D.pdL xs) = true ∧ PyData.depthAll (D.pdL xs) ≤ n ∧ ∀ d ∈ xs, d.pd.shown.length ≤ wt d ∧ sgn d.pd.shown.cps.toList = true
  | n, [], _ => ⟨rfl, Nat.zero_le _, fun d h => by simp at h⟩
  | n, x :: xs, h => by
    rw [rpL_cons, Bool.and_eq_true] at h
    obtain ⟨a1, a2, a3⟩ := rp_shown n x h.1
    obtain ⟨b1, b2, b3⟩ := rpL_shown n xs h.2
    refine ⟨by show (PyData.showable x.pd && PyData.showableAll (D.pdL xs)) = true; rw [a1, b1]; rfl, by show max (PyData.depth x.pd) (PyData.depthAll (D.pdL xs)) ≤ n; omega, fun d hd => ?_⟩
    rcases List.mem_cons.mp hd with rfl | hd
    · exact a3
    · exact b3 d hd
end
mutual
theorem rp_py (R : Nat → Option PyData) : ∀ (n : Nat) (d : D), rp n d = true → d.py R = some d.pd
  | _, .none, _ => rfl
  | _, .bl _, _ => rfl
  | _, .int _, _ => rfl
  | _, .str _, _ => rfl
  | 0, .tup _, h => by cases h
  | n + 1, .tup xs, h => by
    show (D.pyL R xs).map PyData.tuple = _
    rw [rpL_py R n xs (by rw [rp_tup] at h; exact h)]; rfl
  | 0, .lst _, h => by cases h
  | n + 1, .lst xs, h => by
    show (D.pyL R xs).map PyData.list = _
    rw [rpL_py R n xs (by rw [rp_lst] at h; exact h)]; rfl
  | _, .dct, _ => rfl
  | _, .ref _, h => by cases h
  | _, .fn _, h => by cases h
  | _, .exc _ _, h => by cases h
  | _, .scr _, h => by cases h
theorem rpL_py (R : Nat → Option PyData) : ∀ (n : Nat) (xs : List D), rpL n xs = true → D.pyL R xs = some (D.pdL xs)
  | _, [], _ => rfl
  | n, x :: xs, h => by
    rw [rpL_cons, Bool.and_eq_true] at h
    show (D.py R x).bind (fun a => (D.pyL R xs).map fun b => a :: b) = _
    rw [rp_py R n x h.1, rpL_py R n xs h.2]; rfl
end
/-- the text of a value -/
def txt (d : D) : D := .str d.pd.shown
theorem repr_view {C : Cfg} {μ : Mu} {y x : D} {n : Nat} (hv : view μ y = some x.pd) (h : rp n x = true) (hn : n ≤ 60) (hw : wt x ≤ 16000000) : opR C .repr [y] μ = .ok (txt x) μ := by
  obtain ⟨h1, h2, h3, h4⟩ := rp_shown n x h
  have ok : reprOk x.pd = true := by
    unfold reprOk
    rw [h1, decide_eq_true (show x.pd.shown.length ≤ LIM by unfold LIM; omega), decide_eq_true (by omega)]; rfl
  show lift (((view μ y).bind fun a => if reprOk a = true then some (PR.v (.str a.shown)) else none).map prD) μ = _
  rw [hv]
  show lift ((if reprOk x.pd = true then some (PR.v (.str x.pd.shown)) else none).map prD) μ = _
  rw [if_pos ok]; rfl
theorem repr_ok {C : Cfg} {μ : Mu} {x : D} {n : Nat} (h : rp n x = true) (hn : n ≤ 60) (hw : wt x ≤ 16000000) : opR C .repr [x] μ = .ok (txt x) μ := repr_view (rp_py _ n x h) h hn hw
theorem txt_okd {x : D} {n : Nat} (h : rp n x = true) : okd 60 (txt x) = true := by
  have h4 := (rp_shown n x h).2.2.2
  show PyData.canLay0 (.str x.pd.shown) = true
  show PyData.strOk x.pd.shown = true
  unfold PyData.strOk
  unfold sgn at h4
  rw [← Array.all_toList]; exact h4
theorem ne_txt {C : Cfg} {μ : Mu} {x : D} {n : Nat} (h : rp n x = true) : opR C .ne [txt x, txt x] μ = .ok (.bl false) μ := by
  rw [opR_ne (txt_okd h) (txt_okd h), txt, eqd_str]
  simp
theorem eq_txt {C : Cfg} {μ : Mu} {x : D} {n : Nat} (h : rp n x = true) : opR C .eq [txt x, txt x] μ = .ok (.bl true) μ := by
  rw [opR_eq (txt_okd h) (txt_okd h), txt, eqd_str]
  simp
/-! with cells -/
mutual
theorem Own.pyr {μ : Mu} : ∀ (n k : Nat) (x y : D) (S : List Nat), rp n x = true → n ≤ k → Own μ x y S → y.py (tab μ k) = some x.pd
  | _, _, .none, _, _, _, _, h => by rw [h.1]; rfl
  | _, _, .bl _, _, _, _, _, h => by rw [h.1]; rfl
  | _, _, .int _, _, _, _, _, h => by rw [h.1]; rfl
  | _, _, .str _, _, _, _, _, h => by rw [h.1]; rfl
  | 0, _, .tup _, _, _, o, _, _ => by cases o
  | n + 1, k, .tup xs, y, S, o, hk, h => by
    obtain ⟨ys, rfl, h⟩ := h
    show (D.pyL (tab μ k) ys).map PyData.tuple = _
    rw [OwnL.pyr n k xs ys S (by rw [rp_tup] at o; exact o) (by omega) h]; rfl
  | 0, _, .lst _, _, _, o, _, _ => by cases o
  | n + 1, 0, .lst xs, y, S, o, hk, h => by omega
  | n + 1, k + 1, .lst xs, y, S, o, hk, h => by
    obtain ⟨r, ys, S', rfl, e1, rfl, h⟩ := h
    show tab μ (k + 1) r = _
    unfold tab
    rw [e1]
    show (D.pyL (tab μ k) ys).map PyData.list = _
    rw [OwnL.pyr n k xs ys S' (by rw [rp_lst] at o; exact o) (by omega) h]; rfl
  | _, _, .ref _, _, _, _, _, h => h.elim
  | _, _, .fn _, _, _, _, _, h => h.elim
  | _, _, .dct, _, _, _, _, h => h.elim
  | _, _, .exc _ _, _, _, _, _, h => h.elim
  | _, _, .scr _, _, _, _, _, h => h.elim
theorem OwnL.pyr {μ : Mu} : ∀ (n k : Nat) (xs ys : List D) (S : List Nat), rpL n xs = true → n ≤ k → OwnL μ xs ys S → D.pyL (tab μ k) ys = some (D.pdL xs)
  | _, _, [], _, _, _, _, h => by rw [h.1]; rfl
  | n, k, x :: xs, ys, S, o, hk, h => by
    obtain ⟨y, r, S1, S2, rfl, rfl, h1, h2⟩ := h
    rw [rpL_cons, Bool.and_eq_true] at o
    show (D.py (tab μ k) y).bind (fun a => (D.pyL (tab μ k) r).map fun b => a :: b) = _
    rw [Own.pyr n k x y S1 o.1 hk h1, OwnL.pyr n k xs r S2 o.2 hk h2]; rfl
end
mutual
theorem mk_rp : ∀ (n : Nat) (x dm : D), rp n x = true → Mk1 x dm → rp n dm = true ∧ wt dm ≤ wt x + 8
  | 0, .tup _, _, o, _ => by cases o
  | n + 1, .tup xs, dm, o, m => by
    obtain ⟨ys, rfl, m⟩ := m
    rw [rp_tup] at o ⊢
    obtain ⟨h1, h2⟩ := mk_rpL n xs ys o m
    exact ⟨h1, by show wtL ys + 3 ≤ wtL xs + 3 + 8; omega⟩
  | 0, .lst _, _, o, _ => by cases o
  | n + 1, .lst xs, dm, o, m => by
    rw [rp_lst] at o
    rcases m with rfl | ⟨ys, rfl, m⟩
    · rw [rp_lst]
      have hm : rp n markD = true := by rw [markD, rp_str]; decide +kernel
      refine ⟨by rw [rpL_append, o, rpL_cons, hm]; simp, ?_⟩
      have : ∀ l : List D, wtL (l ++ [markD]) = wtL l + 8 := by
        intro l
        induction l with
        | nil => decide +kernel
        | cons a l ih => show wt a + 2 + wtL (l ++ [markD]) = wt a + 2 + wtL l + 8; omega
      show wtL (xs ++ [markD]) + 3 ≤ wtL xs + 3 + 8
      rw [this]; omega
    · rw [rp_lst]
      obtain ⟨h1, h2⟩ := mk_rpL n xs ys o m
      exact ⟨h1, by show wtL ys + 3 ≤ wtL xs + 3 + 8; omega⟩
  | _, .none, _, _, m => m.elim
  | _, .bl _, _, _, m => m.elim
  | _, .int _, _, _, m => m.elim
  | _, .str _, _, _, m => m.elim
  | _, .ref _, _, _, m => m.elim
  | _, .fn _, _, _, m => m.elim
  | _, .dct, _, _, m => m.elim
  | _, .exc _ _, _, _, m => m.elim
  | _, .scr _, _, _, m => m.elim
theorem mk_rpL : ∀ (n : Nat) (xs ys : List D), rpL n xs = true → Mk1L xs ys → rpL n ys = true ∧ wtL ys ≤ wtL xs + 8
  | _, [], _, _, m => m.elim
  | n, x :: xs, ys, o, m => by
    rw [rpL_cons, Bool.and_eq_true] at o
    rcases m with ⟨y, rfl, m⟩ | ⟨r, rfl, m⟩
    · obtain ⟨h1, h2⟩ := mk_rp n x y o.1 m
      exact ⟨by rw [rpL_cons, h1, o.2]; rfl, by show wt y + 2 + wtL xs ≤ wt x + 2 + wtL xs + 8; omega⟩
    · obtain ⟨h1, h2⟩ := mk_rpL n xs r o.2 m
      exact ⟨by rw [rpL_cons, o.1, h1]; rfl, by show wt x + 2 + wtL r ≤ wt x + 2 + wtL xs + 8; omega⟩
end
theorem OwnL.wl {μ : Mu} : ∀ (xs ys : List D) (S : List Nat), OwnL μ xs ys S → 2 * ys.length ≤ wtL xs
  | [], ys, S, h => by rw [h.1]; exact Nat.zero_le _
  | x :: xs, ys, S, h => by
    obtain ⟨y, q, S1, S2, rfl, rfl, h1, h2⟩ := h
    have := OwnL.wl xs q S2 h2
    rw [List.length_cons]
    show _ ≤ wt x + 2 + wtL xs
    omega
mutual
theorem Own.wlen {μ : Mu} : ∀ (x y : D) (S : List Nat) (r : Nat) (zs : List D), r ∈ S → μ[r]? = some zs → Own μ x y S → 2 * zs.length ≤ wt x
  | .none, _, _, _, _, hr, _, h => by rw [h.2] at hr; simp at hr
  | .bl _, _, _, _, _, hr, _, h => by rw [h.2] at hr; simp at hr
  | .int _, _, _, _, _, hr, _, h => by rw [h.2] at hr; simp at hr
  | .str _, _, _, _, _, hr, _, h => by rw [h.2] at hr; simp at hr
  | .tup xs, y, S, r, zs, hr, hz, h => by
    obtain ⟨ys, e, h⟩ := h
    have := OwnL.wlen xs ys S r zs hr hz h
    show _ ≤ wtL xs + 3
    omega
  | .lst xs, y, S, r, zs, hr, hz, h => by
    obtain ⟨q, ys, S', e, e1, rfl, h⟩ := h
    show _ ≤ wtL xs + 3
    rcases List.mem_cons.mp hr with rfl | hr
    · rw [hz] at e1
      cases e1
      have := OwnL.wl xs zs S' h
      omega
    · have := OwnL.wlen xs ys S' r zs hr hz h
      omega
  | .ref _, _, _, _, _, _, _, h => h.elim
  | .fn _, _, _, _, _, _, _, h => h.elim
  | .dct, _, _, _, _, _, _, h => h.elim
  | .exc _ _, _, _, _, _, _, _, h => h.elim
  | .scr _, _, _, _, _, _, _, h => h.elim
theorem OwnL.wlen {μ : Mu} : ∀ (xs ys : List D) (S : List Nat) (r : Nat) (zs : List D), r ∈ S → μ[r]? = some zs → OwnL μ xs ys S → 2 * zs.length ≤ wtL xs
  | [], _, _, _, _, hr, _, h => by rw [h.2] at hr; simp at hr
  | x :: xs, ys, S, r, zs, hr, hz, h => by
    obtain ⟨y, q, S1, S2, rfl, rfl, h1, h2⟩ := h
    show _ ≤ wt x + 2 + wtL xs
    rcases List.mem_append.mp hr with hr | hr
    · have := Own.wlen x y S1 r zs hr hz h1
      omega
    · have := OwnL.wlen xs q S2 r zs hr hz h2
      omega
end
end PyE
set_option maxRecDepth 100000
/-! one statement at a time -/
namespace PyE
open PySem
section
variable {C : Cfg} {cl : Cl} {ρ ρ' : Ro} {μ μ' : Mu}
theorem eS_go {s r : CS} {o : Out} (h : eS C cl s ρ μ = .next ρ' μ') (k : eS C cl r ρ' μ' = o) : eS C cl (.cons s r) ρ μ = o := by
  rw [eS_cons, h, seq_next, k]
theorem eS_out {s r : CS} {d : D} (h : eS C cl s ρ μ = .ret d μ') : eS C cl (.cons s r) ρ μ = .ret d μ' := by
  rw [eS_cons, h, seq_ret]
theorem eS_throw {s r : CS} {c : Fid} {d : D} (h : eS C cl s ρ μ = .exc c d ρ' μ') : eS C cl (.cons s r) ρ μ = .exc c d ρ' μ' := by
  rw [eS_cons, h, seq_exc]
/-- an if whose test is known -/
theorem eS_yes {t : CE} {a b r : CS} {o : Out} (h : eT C cl t ρ μ = .ok true μ') (k : eS C cl (.cons (.cons a .nil) r) ρ μ' = o) : True := trivial
theorem eS_then {t : CE} {a b : CS} {o : Out} (h : eT C cl t ρ μ = .ok true μ') (k : eS C cl a ρ μ' = o) : eS C cl (.if_ t a b) ρ μ = o := by
  rw [eS_if, h, out_ok, if_pos rfl, k]
theorem eS_else {t : CE} {a b : CS} {o : Out} (h : eT C cl t ρ μ = .ok false μ') (k : eS C cl b ρ μ' = o) : eS C cl (.if_ t a b) ρ μ = o := by
  rw [eS_if, h, out_ok, if_neg (by decide), k]
/-- a call's end -/
theorem call_go {df : Def} {args : List D} {d : D} {r : Res D} (h1 : args.length = df.np) (h2 : df.kp = false) (h3 : df.dp = false) (hb : eS C cl df.body (args.map some ++ List.replicate (df.ns - df.np) none) μ = .ret d μ') (hl : leave μ (.ret d μ') = r) : call1 C cl df args μ = r := by
  unfold call1
  rw [if_pos h1, if_neg (by rw [h2]; decide), if_neg (by rw [h3]; decide), hb, hl]
theorem call_deep {df : Def} {args : List D} {d : D} (h1 : args.length = df.np) (h2 : df.kp = false) (h3 : df.dp = true) (hb : eS C cl df.body (args.map some ++ List.replicate (df.ns - df.np) none) μ = .ret d μ') : call1 C cl df args μ = .ok d μ' := by
  unfold call1
  rw [if_pos h1, if_neg (by rw [h2]; decide), if_pos h3, hb]; rfl
theorem leave_same (d : D) : leave μ (.ret d μ) = .ok d μ := fin_same d _
end
/-- a law that goes through so many turns -/
theorem law_for {C : Cfg} {cl : Cl} {body : CS} {n m : Nat} {ns : List Int} (hm : m ≤ 1000)
    (step : ∀ i, i < m → ∀ (μ : Mu) (ts : List (Option D)), ts.length = n → ∃ (ts' : List (Option D)) (μ' : Mu), ts'.length = n ∧ eS C cl body ((some (.scr ns) :: ts).set 1 (some (.int (i : Int)))) μ = .next (some (.scr ns) :: ts') μ') :
    ∃ μ', eS C cl (.cons (.for_ (.nm 1) (.irng1 (.con (.int (m : Int)))) body) (.cons (.ret (.con (.bl true))) .nil)) (some (.scr ns) :: List.replicate n none) [] = .ret (.bl true) μ' := by
  have key : ∀ (l : List Nat) (μ : Mu) (ts : List (Option D)), (∀ i ∈ l, i < m) → ts.length = n → ∃ (ts' : List (Option D)) (μ' : Mu), fo C cl (.nm 1) body (fun _ => true) (l.map fun i : Nat => .int (i : Int)) (some (.scr ns) :: ts) μ = .next (some (.scr ns) :: ts') μ' := by
    intro l
    induction l with
    | nil => intro μ ts _ _; exact ⟨ts, μ, by rw [List.map_nil, fo_nil, if_pos rfl]⟩
    | cons i l ih =>
      intro μ ts h ht
      obtain ⟨ts1, μ1, h1, e1⟩ := step i (h i (List.mem_cons_self ..)) μ ts ht
      obtain ⟨ts2, μ2, e2⟩ := ih μ1 ts1 (fun j hj => h j (List.mem_cons_of_mem _ hj)) h1
      refine ⟨ts2, μ2, ?_⟩
      rw [List.map_cons, fo_cons, if_pos rfl, setT_nm, lift_some, out_ok, e1, turn_next, e2]
  obtain ⟨ts', μ', e⟩ := key (List.range m) [] (List.replicate n none) (fun i hi => List.mem_range.mp hi) (List.length_replicate ..)
  have sr : srcR1 (.int (m : Int)) = some ⟨(List.range m).map fun i : Nat => .int (i : Int), []⟩ := by
    rw [srcR1_nat m (by omega), rangeD0]
  refine ⟨μ', ?_⟩
  rw [eS_cons, eS_for, eI_irng1, eE_con, bind_ok, sr, lift_some, out_ok, okAt_nil, e, seq_next, eS_cons, eS_ret, eE_con, out_ok, seq_ret]
theorem law_end {C : Cfg} {cl : Cl} {df : Def} {ns : List Int} {μ' : Mu} (h1 : df.np = 1) (h2 : df.kp = false) (h3 : df.dp = false) (h : eS C cl df.body (some (.scr ns) :: List.replicate (df.ns - 1) none) [] = .ret (.bl true) μ') : call1 C cl df [.scr ns] [] = .ok (.bl true) [] := by
  refine call_go (by rw [h1]; rfl) h2 h3 (by rw [h1]; exact h) ?_
  show fin [] (.bl true) μ' .ok = _
  unfold fin
  split
  · rename_i h
    rw [List.eq_nil_of_length_eq_zero h]
  · split
    · rfl
    · rename_i h
      exact absurd (fun i hi => absurd hi (Nat.not_lt_zero _)) h
/-- a loop that keeps the store -/
theorem fo_all {C : Cfg} {cl : Cl} {t : Tg} {b : CS} {ok : Mu → Bool} {μ : Mu} {P : Ro → Prop} (hok : ok μ = true) : ∀ {l : List D}, (∀ d ∈ l, ∀ ρ, P ρ → ∃ ρ1 ρ', setT μ t d ρ = some ρ1 ∧ eS C cl b ρ1 μ = .next ρ' μ ∧ P ρ') → ∀ ρ, P ρ → ∃ ρ', fo C cl t b ok l ρ μ = .next ρ' μ ∧ P ρ'
  | [], _, ρ, h => ⟨ρ, by rw [fo_nil, if_pos hok], h⟩
  | d :: l, H, ρ, h => by
    obtain ⟨ρ1, ρ2, e1, e2, h2⟩ := H d (List.mem_cons_self ..) ρ h
    obtain ⟨ρ3, e3, h3⟩ := fo_all (P := P) hok (l := l) (fun x hx => H x (List.mem_cons_of_mem _ hx)) ρ2 h2
    exact ⟨ρ3, by rw [fo_cons, if_pos hok, e1, lift_some, out_ok, e2, turn_next, e3], h3⟩
end PyE
set_option maxRecDepth 100000
/-! new cells -/
namespace PyE
open PySem
def New (μ : Mu) (x y : D) (μ' : Mu) : Prop := (∃ cs, μ' = μ ++ cs) ∧ ∃ S, Own μ' x y S ∧ S.Nodup ∧ ∀ r ∈ S, μ.length ≤ r
def NewL (μ : Mu) (xs ys : List D) (μ' : Mu) : Prop := (∃ cs, μ' = μ ++ cs) ∧ ∃ S, OwnL μ' xs ys S ∧ S.Nodup ∧ ∀ r ∈ S, μ.length ≤ r
mutual
/-- no lists -/
def nol : D → Bool
  | .none => true
  | .bl _ => true
  | .int _ => true
  | .str _ => true
  | .tup xs => nolL xs
  | _ => false
def nolL : List D → Bool
  | [] => true
  | x :: xs => nol x && nolL xs
end
mutual
theorem nol_own {μ : Mu} : ∀ (x : D), nol x = true → Own μ x x []
  | .none, _ => ⟨rfl, rfl⟩
  | .bl _, _ => ⟨rfl, rfl⟩
  | .int _, _ => ⟨rfl, rfl⟩
  | .str _, _ => ⟨rfl, rfl⟩
  | .tup xs, h => ⟨xs, rfl, nolL_own xs h⟩
  | .lst _, h => by cases h
  | .ref _, h => by cases h
  | .fn _, h => by cases h
  | .dct, h => by cases h
  | .exc _ _, h => by cases h
  | .scr _, h => by cases h
theorem nolL_own {μ : Mu} : ∀ (xs : List D), nolL xs = true → OwnL μ xs xs []
  | [], _ => ⟨rfl, rfl⟩
  | x :: xs, h => by
    have h' : (nol x && nolL xs) = true := h
    rw [Bool.and_eq_true] at h'
    exact ⟨x, xs, [], [], rfl, rfl, nol_own x h'.1, nolL_own xs h'.2⟩
end
theorem nolL_of {α : Type} {f : α → D} : ∀ {l : List α}, (∀ x ∈ l, nol (f x) = true) → nolL (l.map f) = true
  | [], _ => rfl
  | x :: l, h => by
    show (nol (f x) && nolL (l.map f)) = true
    rw [h x (List.mem_cons_self ..), nolL_of fun y hy => h y (List.mem_cons_of_mem _ hy)]; rfl
theorem New.atom {μ : Mu} {x : D} (h : nol x = true) : New μ x x μ := ⟨⟨[], by simp⟩, [], nol_own x h, List.nodup_nil, fun _ h => by simp at h⟩
theorem NewL.atoms {μ : Mu} {xs : List D} (h : nolL xs = true) : NewL μ xs xs μ := ⟨⟨[], by simp⟩, [], nolL_own xs h, List.nodup_nil, fun _ h => by simp at h⟩
theorem NewL.nil {μ : Mu} : NewL μ [] [] μ := NewL.atoms rfl
theorem New.le {μ μ' : Mu} {x y : D} (h : New μ x y μ') : μ.length ≤ μ'.length := by
  obtain ⟨⟨cs, rfl⟩, _⟩ := h
  simp
theorem NewL.le {μ μ' : Mu} {x y : List D} (h : NewL μ x y μ') : μ.length ≤ μ'.length := by
  obtain ⟨⟨cs, rfl⟩, _⟩ := h
  simp
theorem ext_at {μ : Mu} {cs : List (List D)} {r : Nat} (h : r < μ.length) : (μ ++ cs)[r]? = μ[r]? := List.getElem?_append_left h
theorem NewL.cons {μ μ1 μ2 : Mu} {x y : D} {xs ys : List D} (h1 : New μ x y μ1) (h2 : NewL μ1 xs ys μ2) : NewL μ (x :: xs) (y :: ys) μ2 := by
  have l1 := h1.le
  obtain ⟨⟨c1, rfl⟩, S1, o1, n1, g1⟩ := h1
  obtain ⟨⟨c2, rfl⟩, S2, o2, n2, g2⟩ := h2
  refine ⟨⟨c1 ++ c2, by simp⟩, S1 ++ S2, ⟨y, ys, S1, S2, rfl, rfl, o1.same _ _ _ fun r hr => ext_at (o1.lt _ _ _ r hr), o2⟩, ?_, fun r hr => ?_⟩
  · refine List.nodup_append.mpr ⟨n1, n2, fun a ha b hb e => ?_⟩
    subst e
    have := o1.lt _ _ _ a ha
    have := g2 a hb
    omega
  · rcases List.mem_append.mp hr with hr | hr
    · exact g1 r hr
    · have := g2 r hr
      omega
theorem NewL.append {μ μ1 μ2 : Mu} {xs ys xs' ys' : List D} (h1 : NewL μ xs ys μ1) (h2 : NewL μ1 xs' ys' μ2) : NewL μ (xs ++ xs') (ys ++ ys') μ2 := by
  have l1 := h1.le
  obtain ⟨⟨c1, rfl⟩, S1, o1, n1, g1⟩ := h1
  obtain ⟨⟨c2, rfl⟩, S2, o2, n2, g2⟩ := h2
  have key : ∀ (xs ys : List D) (S1 : List Nat), OwnL (μ ++ c1) xs ys S1 → OwnL (μ ++ c1 ++ c2) (xs ++ xs') (ys ++ ys') (S1 ++ S2) := by
    intro xs
    induction xs with
    | nil => intro ys S1 h; obtain ⟨rfl, rfl⟩ := h; exact o2
    | cons x xs ih =>
      intro ys S1 h
      obtain ⟨y, r, T1, T2, rfl, rfl, h1, h2⟩ := h
      exact ⟨y, r ++ ys', T1, T2 ++ S2, rfl, by simp, h1.same _ _ _ fun q hq => ext_at (h1.lt _ _ _ q hq), ih r T2 h2⟩
  refine ⟨⟨c1 ++ c2, by simp⟩, S1 ++ S2, key xs ys S1 o1, ?_, fun r hr => ?_⟩
  · refine List.nodup_append.mpr ⟨n1, n2, fun a ha b hb e => ?_⟩
    subst e
    have := o1.lt _ _ _ a ha
    have := g2 a hb
    omega
  · rcases List.mem_append.mp hr with hr | hr
    · exact g1 r hr
    · have := g2 r hr
      omega
theorem New.cell {μ μ1 : Mu} {xs ys : List D} (h : NewL μ xs ys μ1) : New μ (.lst xs) (.ref μ1.length) (μ1 ++ [ys]) := by
  have l1 := h.le
  obtain ⟨⟨c1, rfl⟩, S1, o1, n1, g1⟩ := h
  refine ⟨⟨c1 ++ [ys], by simp⟩, (μ ++ c1).length :: S1, ⟨_, ys, S1, rfl, ?_, rfl, o1.same _ _ _ fun r hr => ext_at (o1.lt _ _ _ r hr)⟩, ?_, fun r hr => ?_⟩
  · rw [List.getElem?_append_right (Nat.le_refl _), Nat.sub_self]; rfl
  · refine List.nodup_cons.mpr ⟨fun z => ?_, n1⟩
    have := o1.lt _ _ _ _ z
    omega
  · rcases List.mem_cons.mp hr with rfl | hr
    · exact l1
    · exact g1 r hr
theorem New.tup {μ μ1 : Mu} {xs ys : List D} (h : NewL μ xs ys μ1) : New μ (.tup xs) (.tup ys) μ1 := by
  obtain ⟨e, S1, o1, n1, g1⟩ := h
  exact ⟨e, S1, ⟨ys, rfl, o1⟩, n1, g1⟩
/-- a comprehension of new values -/
theorem cm_new {C : Cfg} {α : Type} {f h : α → D} {t : Tg} {e : CE} {cl : Cl} {ρ : Ro} : ∀ {l : List α} {μ : Mu}, (∀ x ∈ l, ∀ μ, ∃ y μ', ((lift (setT μ t (f x) (wipe ρ t.slots)) μ).bind fun ρ1 μ2 => eE C cl e ρ1 μ2) = .ok y μ' ∧ New μ (h x) y μ') →
    ∃ ys μ', cm C cl t .nil e ρ (fun _ => true) (l.map f) μ = .ok ys μ' ∧ NewL μ (l.map h) ys μ'
  | [], μ, _ => ⟨[], μ, by rw [List.map_nil, cm_nil, if_pos rfl], NewL.nil⟩
  | x :: l, μ, H => by
    obtain ⟨y, μ1, e1, n1⟩ := H x (List.mem_cons_self ..) μ
    obtain ⟨ys, μ2, e2, n2⟩ := cm_new (l := l) (μ := μ1) fun z hz => H z (List.mem_cons_of_mem _ hz)
    refine ⟨y :: ys, μ2, ?_, NewL.cons n1 n2⟩
    rw [List.map_cons, cm_cons, if_pos rfl]
    cases q : setT μ t (f x) (wipe ρ t.slots) with
    | none => rw [q] at e1; cases e1
    | some ρ1 =>
      rw [q] at e1
      have h1' : eE C cl e ρ1 μ = .ok y μ1 := e1
      simp [h1', e2]

/-! reading, of cells and of frozen lists -/
mutual
def Rd (μ : Mu) : D → D → Prop
  | .none, y => y = .none
  | .bl b, y => y = .bl b
  | .int i, y => y = .int i
  | .str s, y => y = .str s
  | .tup xs, y => ∃ ys, y = .tup ys ∧ RdL μ xs ys
  | .lst xs, y => ∃ ys, (y = .lst ys ∨ ∃ r, y = .ref r ∧ μ[r]? = some ys) ∧ RdL μ xs ys
  | _, _ => False
def RdL (μ : Mu) : List D → List D → Prop
  | [], ys => ys = []
  | x :: xs, ys => ∃ y r, ys = y :: r ∧ Rd μ x y ∧ RdL μ xs r
end
mutual
theorem Own.rd {μ : Mu} : ∀ (x y : D) (S : List Nat), Own μ x y S → Rd μ x y
  | .none, _, _, h => h.1
  | .bl _, _, _, h => h.1
  | .int _, _, _, h => h.1
  | .str _, _, _, h => h.1
  | .tup xs, y, S, h => by
    obtain ⟨ys, e, h⟩ := h
    exact ⟨ys, e, OwnL.rd xs ys S h⟩
  | .lst xs, y, S, h => by
    obtain ⟨r, ys, S', e, e1, _, h⟩ := h
    exact ⟨ys, .inr ⟨r, e, e1⟩, OwnL.rd xs ys S' h⟩
  | .ref _, _, _, h => h.elim
  | .fn _, _, _, h => h.elim
  | .dct, _, _, h => h.elim
  | .exc _ _, _, _, h => h.elim
  | .scr _, _, _, h => h.elim
theorem OwnL.rd {μ : Mu} : ∀ (xs ys : List D) (S : List Nat), OwnL μ xs ys S → RdL μ xs ys
  | [], _, _, h => h.1
  | x :: xs, ys, S, h => by
    obtain ⟨y, q, S1, S2, e, _, h1, h2⟩ := h
    exact ⟨y, q, e, Own.rd x y S1 h1, OwnL.rd xs q S2 h2⟩
end
mutual
theorem Rd.refl {μ : Mu} : ∀ (n : Nat) (x : D), okd n x = true → Rd μ x x
  | _, .none, _ => rfl
  | _, .bl _, _ => rfl
  | _, .int _, _ => rfl
  | _, .str _, _ => rfl
  | 0, .tup _, h => by cases h
  | n + 1, .tup xs, h => ⟨xs, rfl, RdL.refl n xs (by rw [okd_tup] at h; exact h)⟩
  | 0, .lst _, h => by cases h
  | n + 1, .lst xs, h => ⟨xs, .inl rfl, RdL.refl n xs (by rw [okd_lst] at h; exact h)⟩
  | _, .ref _, h => by cases h
  | _, .fn _, h => by cases h
  | _, .dct, h => by cases h
  | _, .exc _ _, h => by cases h
  | _, .scr _, h => by cases h
theorem RdL.refl {μ : Mu} : ∀ (n : Nat) (x : List D), okdL n x = true → RdL μ x x
  | _, [], _ => rfl
  | n, x :: xs, h => by
    rw [okdL_cons, Bool.and_eq_true] at h
    exact ⟨x, xs, rfl, Rd.refl n x h.1, RdL.refl n xs h.2⟩
end
theorem RdL.length {μ : Mu} : ∀ {xs ys : List D}, RdL μ xs ys → ys.length = xs.length
  | [], ys, h => by rw [show ys = [] from h]
  | x :: xs, ys, h => by
    obtain ⟨y, r, rfl, _, h⟩ := h
    rw [List.length_cons, List.length_cons, h.length]
theorem RdL.get {μ : Mu} : ∀ {xs ys : List D} {i : Nat} {x : D}, RdL μ xs ys → xs[i]? = some x → ∃ y, ys[i]? = some y ∧ Rd μ x y
  | [], ys, i, x, h, e => by simp at e
  | a :: xs, ys, 0, x, h, e => by
    obtain ⟨y, r, rfl, h1, _⟩ := h
    simp at e
    subst e
    exact ⟨y, rfl, h1⟩
  | a :: xs, ys, i + 1, x, h, e => by
    obtain ⟨y, r, rfl, _, h⟩ := h
    exact h.get (i := i) (by simpa using e)
/-! how many lists -/
mutual
def cntD : D → Nat
  | .tup xs => cntL xs
  | .lst xs => cntL xs + 1
  | _ => 0
def cntL : List D → Nat
  | [] => 0
  | x :: xs => cntD x + cntL xs
end
mutual
theorem Own.cnt {μ : Mu} : ∀ (x y : D) (S : List Nat), Own μ x y S → S.length = cntD x
  | .none, _, _, h => by rw [h.2]; rfl
  | .bl _, _, _, h => by rw [h.2]; rfl
  | .int _, _, _, h => by rw [h.2]; rfl
  | .str _, _, _, h => by rw [h.2]; rfl
  | .tup xs, y, S, h => by
    obtain ⟨ys, e, h⟩ := h
    exact OwnL.cnt xs ys S h
  | .lst xs, y, S, h => by
    obtain ⟨r, ys, S', e, e1, rfl, h⟩ := h
    show S'.length + 1 = cntL xs + 1
    rw [OwnL.cnt xs ys S' h]
  | .ref _, _, _, h => h.elim
  | .fn _, _, _, h => h.elim
  | .dct, _, _, h => h.elim
  | .exc _ _, _, _, h => h.elim
  | .scr _, _, _, h => h.elim
theorem OwnL.cnt {μ : Mu} : ∀ (xs ys : List D) (S : List Nat), OwnL μ xs ys S → S.length = cntL xs
  | [], _, _, h => by rw [h.2]; rfl
  | x :: xs, ys, S, h => by
    obtain ⟨y, q, S1, S2, e, rfl, h1, h2⟩ := h
    show (S1 ++ S2).length = cntD x + cntL xs
    rw [List.length_append, Own.cnt x y S1 h1, OwnL.cnt xs q S2 h2]
end
theorem cntL_map {α : Type} {f : α → D} {c : Nat} : ∀ {l : List α}, (∀ x ∈ l, cntD (f x) ≤ c) → cntL (l.map f) ≤ l.length * c
  | [], _ => Nat.zero_le _
  | x :: l, h => by
    show cntD (f x) + cntL (l.map f) ≤ _
    have := h x (List.mem_cons_self ..)
    have := cntL_map fun y hy => h y (List.mem_cons_of_mem _ hy)
    rw [List.length_cons, Nat.succ_mul]
    omega
theorem cntD_row (l : List Rat) : cntD (row l) ≤ 1 := by
  show cntL (l.map fr) + 1 ≤ 1
  have := cntL_map (f := fr) (c := 0) (l := l) fun q _ => Nat.le_refl _
  omega
theorem cntD_rows (l : List (List Rat)) : cntD (rows l) ≤ l.length + 1 := by
  show cntL (l.map row) + 1 ≤ _
  have := cntL_map (f := row) (c := 1) (l := l) fun q _ => cntD_row q
  omega
theorem cntD_look (l : List (List Rat)) : cntD (lookD l) ≤ l.length + 1 := by
  show 0 + (cntD (rows l) + 0) ≤ _
  have := cntD_rows l
  omega
/-! a list that grows, its items new -/
def Acc (μ M : Mu) (xs ys : List D) : Prop := (∃ cs, M = μ ++ ys :: cs) ∧ ∃ S, OwnL M xs ys S ∧ S.Nodup ∧ ∀ r ∈ S, μ.length < r
theorem Acc.nil {μ : Mu} : Acc μ (μ ++ [[]]) [] [] := ⟨⟨[], rfl⟩, [], ⟨rfl, rfl⟩, List.nodup_nil, fun _ h => by simp at h⟩
theorem Acc.at {μ M : Mu} {xs ys : List D} (h : Acc μ M xs ys) : M[μ.length]? = some ys := by
  obtain ⟨⟨cs, rfl⟩, _⟩ := h
  simp
theorem Acc.lt {μ M : Mu} {xs ys : List D} (h : Acc μ M xs ys) : μ.length < M.length := by
  obtain ⟨⟨cs, rfl⟩, _⟩ := h
  simp
theorem OwnL.length {μ : Mu} : ∀ {xs ys : List D} {S : List Nat}, OwnL μ xs ys S → ys.length = xs.length
  | [], ys, S, h => by rw [h.1]
  | x :: xs, ys, S, h => by
    obtain ⟨y, r, S1, S2, rfl, _, _, h⟩ := h
    rw [List.length_cons, List.length_cons, h.length]
theorem Acc.len {μ M : Mu} {xs ys : List D} (h : Acc μ M xs ys) : ys.length = xs.length := by
  obtain ⟨_, S, o, _⟩ := h
  exact o.length
theorem OwnL.append {μ : Mu} : ∀ {xs ys xs' ys' : List D} {S S' : List Nat}, OwnL μ xs ys S → OwnL μ xs' ys' S' → OwnL μ (xs ++ xs') (ys ++ ys') (S ++ S')
  | [], ys, xs', ys', S, S', h, h' => by obtain ⟨rfl, rfl⟩ := h; exact h'
  | x :: xs, ys, xs', ys', S, S', h, h' => by
    obtain ⟨y, r, S1, S2, rfl, rfl, h1, h2⟩ := h
    exact ⟨y, r ++ ys', S1, S2 ++ S', rfl, by simp, h1, h2.append h'⟩
theorem Acc.push {μ M M' : Mu} {xs ys : List D} {x y : D} (h : Acc μ M xs ys) (n : New M x y M') (hl : xs.length ≤ 1000000) :
    mopS M' .append (.ref μ.length) [y] = some (.none, M'.set μ.length (ys ++ [y])) ∧ Acc μ (M'.set μ.length (ys ++ [y])) (xs ++ [x]) (ys ++ [y]) := by
  have hlt := h.lt
  have hat := h.at
  have hlen := h.len
  obtain ⟨⟨cs, rfl⟩, S, o, nd, lo⟩ := h
  obtain ⟨⟨cs', rfl⟩, S', o', nd', lo'⟩ := n
  have hat' : (μ ++ ys :: cs ++ cs')[μ.length]? = some ys := by simp
  have e : (μ ++ ys :: cs ++ cs').set μ.length (ys ++ [y]) = μ ++ (ys ++ [y]) :: (cs ++ cs') := by
    rw [List.append_assoc, List.set_append_right _ _ (Nat.le_refl _), Nat.sub_self]; rfl
  refine ⟨?_, ⟨cs ++ cs', e⟩, S ++ S', ?_, ?_, fun r hr => ?_⟩
  · show ((μ ++ ys :: cs ++ cs')[μ.length]?).bind (fun xs => if xs.length < LIM then some (D.none, (μ ++ ys :: cs ++ cs').set μ.length (xs ++ [y])) else none) = _
    rw [hat']
    show (if ys.length < LIM then some (D.none, (μ ++ ys :: cs ++ cs').set μ.length (ys ++ [y])) else none) = _
    rw [if_pos (by unfold LIM; omega)]
  · have key : ∀ r, r ≠ μ.length → ((μ ++ ys :: cs ++ cs').set μ.length (ys ++ [y]))[r]? = (μ ++ ys :: cs ++ cs')[r]? := fun r hr => List.getElem?_set_ne (fun z => hr z.symm)
    refine OwnL.append (o.same _ _ _ fun r hr => ?_) ⟨y, [], S', [], rfl, by simp, o'.same _ _ _ fun r hr => ?_, rfl, rfl⟩
    · rw [key r (by have := lo r hr; omega)]
      exact ext_at (o.lt _ _ _ r hr)
    · exact key r (by have := lo' r hr; omega)
  · refine List.nodup_append.mpr ⟨nd, nd', fun a ha b hb z => ?_⟩
    subst z
    have := o.lt _ _ _ a ha
    have := lo' a hb
    omega
  · rcases List.mem_append.mp hr with hr | hr
    · exact lo r hr
    · have := lo' r hr
      omega
theorem Acc.done {μ M : Mu} {xs ys : List D} (h : Acc μ M xs ys) : New μ (.lst xs) (.ref μ.length) M := by
  have hat := h.at
  obtain ⟨⟨cs, rfl⟩, S, o, nd, lo⟩ := h
  refine ⟨⟨ys :: cs, rfl⟩, μ.length :: S, ⟨_, ys, S, rfl, hat, rfl, o⟩, List.nodup_cons.mpr ⟨fun z => ?_, nd⟩, fun r hr => ?_⟩
  · have := lo _ z
    omega
  · rcases List.mem_cons.mp hr with rfl | hr
    · exact Nat.le_refl _
    · have := lo r hr
      omega
end PyE
set_option maxRecDepth 100000
namespace PyE
open PySem
def tGcd : CE := .op .gt (.cons (.v 1) (.cons (.con (.int 0)) .nil))
def bGcd : CS := .cons (.asg (.tp [0, 1]) (.op .tup (.cons (.v 1) (.cons (.op .mod (.cons (.v 0) (.cons (.v 1) .nil))) .nil)))) .nil
theorem wgcd1 (cl : Cl) (f : Nat) (a b : Int) (μ : Mu) (h : 0 < b) : wh C cl tGcd bGcd (f + 1) [some (.int a), some (.int b)] μ = wh C cl tGcd bGcd f [some (.int b), some (.int (a.fmod b))] μ := by
  rw [wh_succ]
  simp [tGcd, bGcd, h]
  rw [opR_mod (by omega)]
  simp
theorem wgcd0 (cl : Cl) (f : Nat) (a : Int) (μ : Mu) : wh C cl tGcd bGcd (f + 1) [some (.int a), some (.int 0)] μ = .next [some (.int a), some (.int 0)] μ := by
  rw [wh_succ]
  simp [tGcd, bGcd]
theorem while_gcd (cl : Cl) : ∀ (n a b fuel : Nat) (μ : Mu), b < 2 ^ n → 2 * n + 1 < fuel →
    wh C cl tGcd bGcd fuel [some (.int (a : Int)), some (.int (b : Int))] μ = .next [some (.int ((a.gcd b : Nat) : Int)), some (.int 0)] μ := by
  intro n
  induction n with
  | zero =>
    intro a b fuel μ hb hf
    obtain ⟨f, rfl⟩ : ∃ f, fuel = f + 1 := ⟨fuel - 1, by omega⟩
    have : b = 0 := by omega
    subst this
    rw [show ((0 : Nat) : Int) = 0 from rfl, wgcd0, Nat.gcd_zero_right]
  | succ n ih =>
    intro a b fuel μ hb hf
    obtain ⟨f, rfl⟩ : ∃ f, fuel = f + 2 := ⟨fuel - 2, by omega⟩
    by_cases h0 : b = 0
    · subst h0
      rw [show ((0 : Nat) : Int) = 0 from rfl, wgcd0, Nat.gcd_zero_right]
    rw [wgcd1 _ _ _ _ _ (by omega), nat_fmod]
    by_cases h1 : a % b = 0
    · rw [h1, show ((0 : Nat) : Int) = 0 from rfl, wgcd0, ← gcd_step a b (by omega), h1, Nat.gcd_zero_right]
    rw [wgcd1 _ _ _ _ _ (by omega), nat_fmod, ih _ _ _ _ (by have := mod_half b (a % b) (by omega) (Nat.mod_lt _ (by omega)); rw [Nat.pow_succ] at hb; omega) (by omega)]
    rw [gcd_step b (a % b) (by omega), gcd_step a b (by omega)]
theorem common_divisor_ok (k : Nat) (μ : Mu) (a b : Int) (h : b.natAbs < 2 ^ 8000000) : run C tbl (k + 1) f_common_divisor [.int a, .int b] μ = .ok (.int ((a.natAbs.gcd b.natAbs : Nat) : Int)) μ := by
  rw [run_common_divisor]
  have e := while_gcd (run C tbl k) 8000000 a.natAbs b.natAbs C.W μ h (by decide)
  unfold tGcd bGcd at e
  simp [call1, df_common_divisor, b_common_divisor, e]
theorem gcd_bd {a : Int} {b : Nat} (h : b < 2 ^ 8999) (h0 : b ≠ 0) : divOk ((Nat.gcd a.natAbs b : Nat) : Int) = true := by
  have hg : Nat.gcd a.natAbs b ≠ 0 := fun z => h0 (Nat.gcd_eq_zero_iff.mp z).2
  have hl : Nat.gcd a.natAbs b ≤ b := Nat.le_of_dvd (by omega) (Nat.gcd_dvd_right ..)
  refine divOk_of ?_ (by omega)
  have := Nat.pow_lt_pow_right (a := 2) (m := 8999) (n := 9000) (by decide) (by decide)
  show Nat.gcd a.natAbs b < _
  omega
theorem pow_le {n m : Nat} (h : n ≤ m) {a : Nat} (ha : a < 2 ^ n) : a < 2 ^ m := Nat.lt_of_lt_of_le ha (Nat.pow_le_pow_right (by decide) h)
theorem lowest_ok (k : Nat) (μ : Mu) (a : Int) (b : Nat) (h : b < 2 ^ 8999) (h0 : b ≠ 0) : run C tbl (k + 2) f_lowest [.int a, .int (b : Int)] μ = .ok (fr (mkRat a b)) μ := by
  rw [run_lowest]
  have hn : ¬ ((b : Int) < 0) := by omega
  have e := common_divisor_ok k μ a b (pow_le (by decide) h)
  have d := gcd_bd (a := a) h h0
  simp [call1, df_lowest, b_lowest, hn, e]
  rw [opR_fdiv d]
  simp
  rw [opR_fdiv d]
  simp [fr_lowest _ _ h0]
theorem plus_ok (k : Nat) (μ : Mu) {a b : Rat} (ha : Bd 4000 a) (hb : Bd 4000 b) : run C tbl (k + 3) f_plus [fr a, fr b] μ = .ok (fr (a + b)) μ := by
  have e := lowest_ok k μ (a.num * b.den + b.num * a.den) (a.den * b.den) (pow_le (by decide) (den_mul_lt ha hb)) (den_mul_ne a b)
  rw [Int.natCast_mul, fr_add] at e
  rw [run_plus]
  simp [call1, df_plus, b_plus, mul_nd ha hb, mul_nd hb ha, mul_dd ha hb, e]

theorem times_ok (k : Nat) (μ : Mu) {a b : Rat} (ha : Bd 4000 a) (hb : Bd 4000 b) : run C tbl (k + 3) f_times [fr a, fr b] μ = .ok (fr (a * b)) μ := by
  have e := lowest_ok k μ (a.num * b.num) (a.den * b.den) (pow_le (by decide) (den_mul_lt ha hb)) (den_mul_ne a b)
  rw [Int.natCast_mul, fr_mul] at e
  rw [run_times]
  simp [call1, df_times, b_times, mul_nn ha hb, mul_dd ha hb, e]
theorem is_whole_int (k : Nat) (μ : Mu) (i : Int) : run C tbl (k + 1) f_is_whole [.int i] μ = .ok (.bl true) μ := by
  rw [run_is_whole]
  simp [call1, df_is_whole, b_is_whole]
theorem is_fraction_ok (k : Nat) (μ : Mu) {q : Rat} (h : Bd 4000 q) : run C tbl (k + 2) f_is_fraction [fr q] μ = .ok (.bl true) μ := by
  rw [run_is_fraction]
  have e := common_divisor_ok k μ q.num q.den (pow_le (by decide) h.2)
  have r : q.num.natAbs.gcd q.den = 1 := q.reduced
  have p : (0 : Int) < (q.den : Int) := by have := q.den_pos; omega
  rw [show ((q.den : Int).natAbs) = q.den from rfl, r] at e
  replace e : run C tbl (k + 1) f_common_divisor [.int q.num, .int (q.den : Int)] μ = .ok (.int 1) μ := e
  simp [call1, df_is_fraction, b_is_fraction, is_whole_int, e, q.den_pos]
theorem is_amount_ok (k : Nat) (μ : Mu) {q : Rat} (h : Bd 4000 q) : run C tbl (k + 3) f_is_amount [fr q] μ = .ok (.bl (decide (0 ≤ q))) μ := by
  rw [run_is_amount]
  simp [call1, df_is_amount, b_is_amount, is_fraction_ok _ _ h]
end PyE
set_option maxRecDepth 100000
namespace PyE
open PySem
theorem summed_loop (k : Nat) (μ : Mu) (L : D) {n : Nat} : ∀ (l : List Rat) (acc : Rat) (m : Nat) (o : Option D), (∀ q ∈ l, Bd n q) → Bd m acc → m + (n + 1) * l.length ≤ 4000 → n ≤ 4000 →
    ∃ o', fo C (run C tbl (k + 3)) (.nm 2) (.cons (.asg (.nm 1) (.call f_plus [0, 1] (.cons (.v 1) (.cons (.v 2) .nil)))) .nil) (fun _ => true) (l.map fr) [some L, some (fr acc), o] μ = .next [some L, some (fr (acc + l.sum)), o'] μ
  | [], acc, m, o, _, _, _, _ => ⟨o, by rw [List.map_nil, fo_nil, if_pos rfl, List.sum_nil, Rat.add_zero]⟩
  | q :: l, acc, m, o, h, ha, hz, hn => by
    have hq := h q (List.mem_cons_self ..)
    rw [List.length_cons, Nat.mul_succ] at hz
    have e := plus_ok k μ (ha.mono (n := 4000) (by omega)) (hq.mono (n := 4000) hn)
    obtain ⟨o', ih⟩ := summed_loop k μ L l (acc + q) (m + n + 1) (some (fr q)) (fun x hx => h x (List.mem_cons_of_mem _ hx)) (ha.add hq) (by omega) hn
    refine ⟨o', ?_⟩
    rw [List.map_cons, fo_cons, if_pos rfl]
    simp  at ih ⊢
    simp [e, ih, Rat.add_assoc]
theorem summed_ok (k : Nat) (μ : Mu) {l : List Rat} {n : Nat} (h : ∀ q ∈ l, Bd n q) (hz : (n + 1) * (l.length + 1) ≤ 4000) : run C tbl (k + 4) f_summed [row l] μ = .ok (fr l.sum) μ := by
  rw [run_summed]
  rw [Nat.mul_succ] at hz
  obtain ⟨o', e⟩ := summed_loop k μ (row l) l 0 1 none h Bd.zero (by omega) (by omega)
  simp [call1, df_summed, b_summed, row] at e ⊢
  rw [fr_zero, Rat.zero_add] at e
  simp [e]
theorem length_zip_eq {α β : Type} {l : List α} {m : List β} (h : l.length = m.length) : (l.zip m).length = l.length := by rw [List.length_zip]; omega
def mulL (l m : List Rat) : List Rat := List.zipWith (· * ·) l m
theorem mulL_zip (l m : List Rat) : mulL l m = (l.zip m).map fun p => p.1 * p.2 := by unfold mulL; rw [List.zip, List.map_zipWith]
def dot (l m : List Rat) : Rat := (mulL l m).sum
theorem Bd_mulL {n n' : Nat} {l m : List Rat} (hl : ∀ q ∈ l, Bd n q) (hm : ∀ q ∈ m, Bd n' q) : ∀ q ∈ mulL l m, Bd (n + n') q := by
  intro q hq
  rw [mulL_zip] at hq
  obtain ⟨p, hp, rfl⟩ := List.mem_map.mp hq
  exact (hl _ (List.of_mem_zip hp).1).mul (hm _ (List.of_mem_zip hp).2)
theorem length_mulL {l m : List Rat} (h : l.length = m.length) : (mulL l m).length = l.length := by unfold mulL; rw [List.length_zipWith]; omega
theorem product_ok (k : Nat) (μ : Mu) {l m : List Rat} {n n' : Nat} (h : l.length = m.length) (hl : ∀ q ∈ l, Bd n q) (hm : ∀ q ∈ m, Bd n' q) (hz : (n + n' + 1) * (l.length + 1) ≤ 4000) :
    run C tbl (k + 5) f_product [row l, row m] μ = .ok (fr (dot l m)) μ := by
  have e := summed_ok k μ (Bd_mulL hl hm) (by rw [length_mulL h]; exact hz)
  rw [row, mulL_zip, List.map_map] at e
  replace e : run C tbl (k + 4) f_summed [.lst ((l.zip m).map fun p => fr (p.1 * p.2))] μ = .ok (fr (dot l m)) μ := by rw [dot, mulL_zip]; exact e
  have hnn : n + n' + 1 ≤ 4000 := Nat.le_trans (Nat.le_mul_of_pos_right _ (by omega : 0 < l.length + 1)) hz
  rw [run_product]
  have c : ∀ ρ : Ro, ρ.length = 4 → cm C (run C tbl (k + 4)) (.tp [2, 3]) .nil (.call f_times [0, 1] (.cons (.v 2) (.cons (.v 3) .nil))) ρ (fun _ => true) ((l.zip m).map fun p => .tup [fr p.1, fr p.2]) μ = .ok ((l.zip m).map fun p => fr (p.1 * p.2)) μ := fun ρ hρ => by
    refine cm_map rfl fun p hp => ?_
    match ρ, hρ with
    | [a, b, c, d], _ =>
      have ht := times_ok (k + 1) μ ((hl _ (List.of_mem_zip hp).1).mono (n := 4000) (by omega)) ((hm _ (List.of_mem_zip hp).2).mono (n := 4000) (by omega))
      simp [wipe, Tg.slots, ht]
  simp [call1, df_product, b_product, row, srcZ_lst _ _ _ (show (l.map fr).length = (m.map fr).length by simpa using h), zipD_map, c, e]
end PyE
set_option maxRecDepth 100000
namespace PyE
open PySem
theorem bnd {n m c d : Nat} (h : n ≤ c) (h' : m ≤ d) (hz : (c + 1) * (d + 1) ≤ 4000 := by decide) : (n + 1) * (m + 1) ≤ 4000 := Nat.le_trans (Nat.mul_le_mul (by omega) (by omega)) hz
theorem bnd0 {n m : Nat} (hz : (n + 1) * (m + 1) ≤ 4000) : n + 1 ≤ 4000 := Nat.le_trans (Nat.le_mul_of_pos_right _ (by omega)) hz
theorem are_chances_ok (k : Nat) (μ : Mu) {l : List Rat} {n : Nat} {many : Int} (h : ∀ q ∈ l, Bd n q) (hz : (n + 1) * (l.length + 1) ≤ 4000) (hm : (l.length : Int) = many) (h0 : ∀ q ∈ l, 0 ≤ q) (h1 : l.sum = 1) :
    run C tbl (k + 5) f_are_chances [row l, .int many] μ = .ok (.bl true) μ := by
  have hnn := bnd0 hz
  have e := summed_ok k μ h hz
  rw [h1] at e
  have c : cm C (run C tbl (k + 4)) (.nm 2) .nil (.call f_is_amount [0] (.cons (.v 2) .nil)) [some (row l), some (.int many), none] (fun _ => true) (l.map fr) μ = .ok (l.map fun q => .bl (decide (0 ≤ q))) μ := by
    refine cm_map rfl fun q hq => ?_
    have ht := is_amount_ok (k + 1) μ ((h q hq).mono (n := 4000) (by omega))
    simp [wipe, Tg.slots, ht]
  have hall : (l.all fun q => decide (0 ≤ q)) = true := List.all_eq_true.mpr fun q hq => decide_eq_true (h0 q hq)
  subst hm
  rw [run_are_chances]
  simp [call1, df_are_chances, b_are_chances, c, hall, e]
/-- the greatest, from the left -/
def gmax (l : List Rat) : Rat := l.foldl (fun a b => if a < b then b else a) (l.headD 0)
/-! looks, games -/
structure LookOk (n w : Nat) (l : List (List Rat)) : Prop where
  len : 1 ≤ l.length ∧ l.length ≤ 6
  wid : 1 ≤ w ∧ w ≤ 8
  row : ∀ r ∈ l, r.length = w ∧ (∀ q ∈ r, Bd n q ∧ 0 ≤ q) ∧ r.sum = 1
theorem is_look_by_ok (k : Nat) (μ : Mu) {l : List (List Rat)} {n w : Nat} (h : LookOk n w l) (hn : n ≤ 400) : run C tbl (k + 6) f_is_look_by [lookD l] μ = .ok (.bl true) μ := by
  rw [run_is_look_by]
  cases hl : l with
  | nil => have := h.len; simp [hl] at this
  | cons r0 l' =>
    rw [← hl]
    have i0 : ∀ {μ : Mu}, opR C .idx [rows l, .int 0] μ = .ok (row r0) μ := fun {μ} => by rw [hl]; exact idx0_rows
    have hl0 := (h.row r0 (by rw [hl]; exact List.mem_cons_self ..)).1
    have a1 := h.len
    have a2 := h.wid
    rw [← hl0] at a2
    have c : cm C (run C tbl (k + 5)) (.nm 2) .nil (.call f_are_chances [0, 1] (.cons (.v 2) (.cons (.op .len (.cons (.op .idx (.cons (.v 1) (.cons (.con (.int 0)) .nil))) .nil)) .nil))) [some (lookD l), some (rows l), none] (fun _ => true) (l.map row) μ
      = .ok (l.map fun q => .bl ((fun _ => true) q)) μ := by
      refine cm_map rfl fun r hr => ?_
      obtain ⟨h1, h2, h3⟩ := h.row r hr
      have ht := are_chances_ok k μ (n := n) (many := (r0.length : Int)) (fun q hq => (h2 q hq).1) (by rw [h1]; exact bnd (c := 400) (d := 8) hn (by have := h.wid; omega)) (by rw [h1, hl0]) (fun q hq => (h2 q hq).2) h3
      simp [wipe, Tg.slots, i0, ht]
    simp [call1, df_is_look_by, b_is_look_by, i0, c, show (1 : Int) ≤ (l.length : Int) by omega, show (l.length : Int) ≤ 6 by omega, show (1 : Int) ≤ (r0.length : Int) by omega, show (r0.length : Int) ≤ 8 by omega]
end PyE
set_option maxRecDepth 100000
namespace PyE
open PySem
theorem check_look_ok (k : Nat) (μ : Mu) {l : List (List Rat)} {n w : Nat} (h : LookOk n w l) (hn : n ≤ 400) : run C tbl (k + 7) f_check_look [lookD l] μ = .ok .none μ := by
  rw [run_check_look]
  simp [call1, df_check_look, b_check_look, is_look_by_ok k μ h hn]
theorem LookOk.head {n w : Nat} {l : List (List Rat)} (h : LookOk n w l) : ∃ r0 l', l = r0 :: l' ∧ r0.length = w := by
  cases l with
  | nil => have := h.len; simp at this
  | cons r0 l' => exact ⟨r0, l', rfl, (h.row r0 (List.mem_cons_self ..)).1⟩
theorem marks_of_ok (k : Nat) (μ : Mu) {l : List (List Rat)} {n w : Nat} (h : LookOk n w l) : run C tbl (k + 1) f_marks_of [lookD l] μ = .ok (.int (w : Int)) μ := by
  obtain ⟨r0, l', rfl, hw⟩ := h.head
  rw [run_marks_of]
  simp [call1, df_marks_of, b_marks_of, idx0_rows, hw]
/-- a column -/
def col (l : List (List Rat)) (m : Nat) : List Rat := l.map fun r => r.getD m 0
structure BelOk (n s : Nat) (b : List Rat) : Prop where
  len : b.length = s
  bd : ∀ q ∈ b, Bd n q
  nn : ∀ q ∈ b, 0 ≤ q
  sum : b.sum = 1
structure GameOk (n w : Nat) (l : List (List Rat)) : Prop where
  len : 1 ≤ l.length ∧ l.length ≤ 8
  wid : 1 ≤ w ∧ w ≤ 6
  row : ∀ r ∈ l, r.length = w ∧ ∀ q ∈ r, Bd n q
theorem GameOk.head {n w : Nat} {l : List (List Rat)} (h : GameOk n w l) : ∃ r0 l', l = r0 :: l' ∧ r0.length = w := by
  cases l with
  | nil => have := h.len; simp at this
  | cons r0 l' => exact ⟨r0, l', rfl, (h.row r0 (List.mem_cons_self ..)).1⟩
theorem Bd_col {l : List (List Rat)} {n m : Nat} (h : ∀ r ∈ l, ∀ q ∈ r, Bd n q) (hn : 1 ≤ n) : ∀ q ∈ col l m, Bd n q := by
  intro q hq
  obtain ⟨r, hr, rfl⟩ := List.mem_map.mp hq
  show Bd n (r.getD m 0)
  rw [List.getD_eq_getElem?_getD]
  cases e : r[m]? with
  | none => exact Bd.zero.mono hn
  | some x => exact h r hr x (List.mem_of_getElem? e)
theorem length_col (l : List (List Rat)) (m : Nat) : (col l m).length = l.length := by unfold col; rw [List.length_map]
def paysL (l : List (List Rat)) (b : List Rat) (g : List (List Rat)) (m : Nat) : List Rat := g.map fun p => dot (mulL b (col l m)) p
def worthL (l : List (List Rat)) (b : List Rat) (g : List (List Rat)) (w : Nat) : Rat := ((List.range w).map fun m => gmax (paysL l b g m)).sum
theorem gmax_mem {l : List Rat} (h : l ≠ []) : gmax l ∈ l := by
  have aux : ∀ (l : List Rat) (a : Rat), l.foldl (fun a b => if a < b then b else a) a = a ∨ l.foldl (fun a b => if a < b then b else a) a ∈ l := by
    intro l
    induction l with
    | nil => intro a; exact .inl rfl
    | cons b l ih =>
      intro a
      rw [List.foldl_cons]
      by_cases hlt : a < b
      · rw [if_pos hlt]
        rcases ih b with q | q
        · exact .inr (by rw [q]; exact List.mem_cons_self ..)
        · exact .inr (List.mem_cons_of_mem _ q)
      · rw [if_neg hlt]
        rcases ih a with q | q
        · exact .inl q
        · exact .inr (List.mem_cons_of_mem _ q)
  cases l with
  | nil => exact absurd rfl h
  | cons b l =>
    unfold gmax
    rcases aux (b :: l) b with q | q
    · rw [show (b :: l).headD 0 = b from rfl, q]; exact List.mem_cons_self ..
    · exact q
theorem le_gmax {l : List Rat} {q : Rat} (h : q ∈ l) : q ≤ gmax l := by
  have aux : ∀ (l : List Rat) (a : Rat), a ≤ l.foldl (fun a b => if a < b then b else a) a ∧ ∀ q ∈ l, q ≤ l.foldl (fun a b => if a < b then b else a) a := by
    intro l
    induction l with
    | nil => intro a; exact ⟨Rat.le_refl, fun q h => by simp at h⟩
    | cons b l ih =>
      intro a
      rw [List.foldl_cons]
      by_cases hlt : a < b
      · rw [if_pos hlt]
        obtain ⟨h1, h2⟩ := ih b
        refine ⟨Rat.le_trans (Rat.le_of_lt hlt) h1, fun q hq => ?_⟩
        rcases List.mem_cons.mp hq with rfl | hq
        · exact h1
        · exact h2 q hq
      · rw [if_neg hlt]
        obtain ⟨h1, h2⟩ := ih a
        refine ⟨h1, fun q hq => ?_⟩
        rcases List.mem_cons.mp hq with rfl | hq
        · exact Rat.le_trans (Rat.not_lt.mp hlt) h1
        · exact h2 q hq
  exact (aux l _).2 q h
theorem Bd_dot {l m : List Rat} {n n' s : Nat} (hl : ∀ q ∈ l, Bd n q) (hm : ∀ q ∈ m, Bd n' q) (h1 : l.length = s) (h2 : m.length = s) : Bd ((n + n' + 1) * s + 1) (dot l m) := by
  have := Bd.sum (Bd_mulL hl hm)
  rw [length_mulL (by rw [h1, h2]), h1] at this
  exact this
theorem Bd_pays {l g : List (List Rat)} {b : List Rat} {m n n1 n2 w s : Nat} (h : LookOk n w l) (hb : BelOk n1 s b) (hg : GameOk n2 s g) (hl : l.length = s) (hn : n + n1 + n2 ≤ 70) (hn0 : 1 ≤ n) : ∀ q ∈ paysL l b g m, Bd 427 q := by
  intro q hq
  obtain ⟨p, hp, rfl⟩ := List.mem_map.mp hq
  have lm : (mulL b (col l m)).length = s := by rw [length_mulL (by rw [length_col, hb.len, hl]), hb.len]
  have hs := h.len.2
  refine (Bd_dot (n := n1 + n) (n' := n2) (Bd_mulL hb.bd (Bd_col (fun r hr q hq => ((h.row r hr).2.1 q hq).1) hn0)) (hg.row p hp).2 lm (hg.row p hp).1).mono ?_
  have := Nat.mul_le_mul (show n1 + n + n2 + 1 ≤ 71 by omega) (show s ≤ 6 by omega)
  omega
theorem pays_ne {l g : List (List Rat)} {b : List Rat} {m n2 s : Nat} (hg : GameOk n2 s g) : paysL l b g m ≠ [] := by
  obtain ⟨r0, l', rfl, _⟩ := hg.head
  simp [paysL]
end PyE
set_option maxRecDepth 100000
namespace PyE
open PySem
/-! the law's own numbers -/
theorem mulI {C : Cfg} (i j : Int) (h1 : i.natAbs ≤ 1000000000000000000000000000000) (h2 : j.natAbs ≤ 1000000000000000000000000000000) : ∀ μ, opR C .mul [.int i, .int j] μ = .ok (.int (i * j)) μ := fun μ =>
  opR_mul (mulOk_of (n := 200) (Nat.lt_of_le_of_lt h1 (by decide)) (Nat.lt_of_le_of_lt h2 (by decide)) (by decide))
theorem modI {C : Cfg} (i j : Int) (h : j ≠ 0) : ∀ μ, opR C .mod [.int i, .int j] μ = .ok (.int (i.fmod j)) μ := fun μ => opR_mod h
theorem hash_ok (k : Nat) (μ : Mu) (b c : Int) (hb : 0 ≤ b ∧ b < 2147483647) (hc : 0 ≤ c ∧ c ≤ 1000000000) : ∃ r : Int, (0 ≤ r ∧ r < 2147483647) ∧ run C tbl (k + 1) f__law_hash [.int b, .int c] μ = .ok (.int r) μ := by
  have m1 := mulI (C := C) b 1220147 (by omega) (by omega)
  have m2 := mulI (C := C) 16777903 c (by omega) (by omega)
  have m3 := mulI (C := C) (16777903 * c) c (by omega) (by omega)
  have m4 := mulI (C := C) 223 c (by omega) (by omega)
  have m5 := mulI (C := C) 69019 c (by omega) (by omega)
  obtain ⟨x, hx⟩ : ∃ x, x = b * 1220147 + 16777903 * c * c + 223 * c + 97 := ⟨_, rfl⟩
  have a1 := Int.fmod_nonneg_of_pos x (b := 2147483629) (by decide)
  have a2 := Int.fmod_lt_of_pos x (b := 2147483629) (by decide)
  have d1 := modI (C := C) x 2147483629 (by decide)
  obtain ⟨y, hy⟩ : ∃ y, y = x.fmod 2147483629 := ⟨_, rfl⟩
  have m6 := mulI (C := C) y y (by omega) (by omega)
  obtain ⟨z, hz⟩ : ∃ z, z = y * y + 69019 * c + 32416187 := ⟨_, rfl⟩
  have b1 := Int.fmod_nonneg_of_pos z (b := 2147483587) (by decide)
  have b2 := Int.fmod_lt_of_pos z (b := 2147483587) (by decide)
  have d2 := modI (C := C) z 2147483587 (by decide)
  obtain ⟨u, hu⟩ : ∃ u, u = z.fmod 2147483587 := ⟨_, rfl⟩
  have m7 := mulI (C := C) u 48271 (by omega) (by omega)
  have d3 := modI (C := C) (u * 48271) 2147483647 (by decide)
  refine ⟨(u * 48271).fmod 2147483647, ⟨Int.fmod_nonneg_of_pos _ (by decide), Int.fmod_lt_of_pos _ (by decide)⟩, ?_⟩
  rw [run__law_hash]
  simp [call1, df__law_hash, b__law_hash, m1, m2, m3, m4, m5, ← hx, d1, ← hy, m6, ← hz, d2, ← hu, m7, d3]
/-- a generator's state: cell n -/
def Gn (n N : Nat) (μ : Mu) : Prop := ∃ a b c : Int, μ[n]? = some [.int a, .int b, .int c] ∧ 0 ≤ a ∧ (0 ≤ b ∧ b < 2147483647) ∧ 0 ≤ c ∧ c ≤ N
theorem Gn.mono {n N M : Nat} {μ : Mu} (h : Gn n N μ) (hN : N ≤ M) : Gn n M μ := by
  obtain ⟨a, b, c, h1, h2, h3, h4, h5⟩ := h
  exact ⟨a, b, c, h1, h2, h3, h4, by omega⟩
/-- only cell n is changed -/
def Up (n : Nat) (μ μ' : Mu) : Prop := ∃ xs, μ' = μ.set n xs
theorem Up.refl' {n : Nat} {μ : Mu} {xs : List D} (h : μ[n]? = some xs) : Up n μ μ := by
  refine ⟨xs, (List.ext_getElem? fun i => ?_)⟩
  by_cases e : n = i
  · subst e
    rw [List.getElem?_set_self (List.getElem?_eq_some_iff.mp h).1, h]
  · rw [List.getElem?_set_ne e]
theorem Up.trans {n : Nat} {μ μ1 μ2 : Mu} (h : Up n μ μ1) (h' : Up n μ1 μ2) : Up n μ μ2 := by
  obtain ⟨xs, rfl⟩ := h
  obtain ⟨ys, rfl⟩ := h'
  exact ⟨ys, by rw [List.set_set]⟩
theorem Up.length {n : Nat} {μ μ' : Mu} (h : Up n μ μ') : μ'.length = μ.length := by
  obtain ⟨xs, rfl⟩ := h
  rw [List.length_set]
theorem Gn.up {n N : Nat} {μ : Mu} (h : Gn n N μ) : Up n μ μ := by
  obtain ⟨a, b, c, h1, _⟩ := h
  exact Up.refl' h1
theorem fin_up {n : Nat} {μ μ' : Mu} (h : Up n μ μ') (d : D) (k : D → Mu → Res D) : fin μ d μ' k = k d μ' := if_pos h.length
theorem leave_up {n : Nat} {μ μ' : Mu} (h : Up n μ μ') (d : D) : leave μ (.ret d μ') = .ok d μ' := fin_up h d _
theorem subS_ok {n i : Nat} {μ : Mu} {xs : List D} {d : D} (h : μ[n]? = some xs) (hi : i < xs.length) : subS μ (.ref n) (.int (i : Int)) d = some (μ.set n (xs.set i d)) := by
  show ((μ[n]?).bind fun xs => (place (i : Int) xs.length).map fun k => μ.set n (xs.set k d)) = _
  rw [h]
  have : place (i : Int) xs.length = some i := by
    unfold place
    rw [if_pos (by omega), if_pos (by omega)]
    simp
  simp [this]
theorem ibits_small {b : Int} (h0 : 0 < b) (h : b < 1000) : (ibits b : Int).fdiv 30 = 0 := by
  have h1 : b.natAbs.log2 < 10 := (Nat.log2_lt (by omega)).mpr (by omega)
  unfold ibits
  rw [if_neg (by omega), Int.fdiv_eq_ediv_of_nonneg _ (by decide)]
  omega
theorem random_ok (k : Nat) {μ : Mu} {n N : Nat} (b : Int) (hb0 : 0 < b) (hb : b < 1000) (hN : N < 1000000000) (G : Gn n N μ) :
    ∃ (r : Int) (μ' : Mu), (0 ≤ r ∧ r < b) ∧ Up n μ μ' ∧ Gn n (N + 1) μ' ∧ run C tbl (k + 2) f__law_random [.ref n, .int b] μ = .ok (.int r) μ' := by
  obtain ⟨g0, g1, g2, h, a0, a1, a2, a3⟩ := G
  have hl : n < μ.length := (List.getElem?_eq_some_iff.mp h).1
  have i0 : opR C .idx [.ref n, .int 0] μ = .ok (.int g0) μ := opR_idx_of (i := 0) h rfl
  have i1 : opR C .idx [.ref n, .int 1] μ = .ok (.int g1) μ := opR_idx_of (i := 1) h rfl
  have i2 : opR C .idx [.ref n, .int 2] μ = .ok (.int g2) μ := opR_idx_of (i := 2) h rfl
  rw [run__law_random]
  by_cases hg : 0 < g0
  · have d := modI (C := C) g0 b (by omega)
    have f : opR C .fdiv [.int g0, .int b] μ = .ok (.int (g0.fdiv b)) μ := opR_fdiv (divOk_of (Nat.lt_trans (show b.natAbs < 2 ^ 10 by omega) (Nat.pow_lt_pow_right (by decide) (by decide))) (by omega))
    have s0 : subS μ (.ref n) (.int 0) (.int (g0.fdiv b)) = some (μ.set n [.int (g0.fdiv b), .int g1, .int g2]) := subS_ok (i := 0) h (by simp)
    have up : Up n μ (μ.set n [.int (g0.fdiv b), .int g1, .int g2]) := ⟨_, rfl⟩
    refine ⟨g0.fmod b, _, ⟨Int.fmod_nonneg_of_pos _ hb0, Int.fmod_lt_of_pos _ hb0⟩, up, ⟨g0.fdiv b, g1, g2, List.getElem?_set_self hl, ?_, a1, a2, by omega⟩, ?_⟩
    · rw [Int.fdiv_eq_ediv_of_nonneg _ (by omega)]
      exact Int.ediv_nonneg a0 (by omega)
    · simp [call1, df__law_random, b__law_random, i0, hg, d, f, s0, leave_up up]
  · obtain ⟨r, hr, hh⟩ := hash_ok k (μ.set n [.int g0, .int g1, .int (g2 + 1)]) g1 (g2 + 1) a1 ⟨by omega, by omega⟩
    have s2 : subS μ (.ref n) (.int 2) (.int (g2 + 1)) = some (μ.set n [.int g0, .int g1, .int (g2 + 1)]) := subS_ok (i := 2) h (by simp)
    have up : Up n μ (μ.set n [.int g0, .int g1, .int (g2 + 1)]) := ⟨_, rfl⟩
    have hs : (μ.set n [.int g0, .int g1, .int (g2 + 1)])[n]? = some [.int g0, .int g1, .int (g2 + 1)] := List.getElem?_set_self hl
    have j1 : opR C .idx [.ref n, .int 1] (μ.set n [.int g0, .int g1, .int (g2 + 1)]) = .ok (.int g1) (μ.set n [.int g0, .int g1, .int (g2 + 1)]) := opR_idx_of (i := 1) hs rfl
    have j2 : opR C .idx [.ref n, .int 2] (μ.set n [.int g0, .int g1, .int (g2 + 1)]) = .ok (.int (g2 + 1)) (μ.set n [.int g0, .int g1, .int (g2 + 1)]) := opR_idx_of (i := 2) hs rfl
    have fd : ∀ μ, opR C .fdiv [.int (ibits b : Nat), .int 30] μ = .ok (.int ((ibits b : Int).fdiv 30)) μ := fun μ => opR_fdiv (divOk_of (Nat.lt_trans (show (30 : Int).natAbs < 2 ^ 10 by decide) (Nat.pow_lt_pow_right (by decide) (by decide))) (by omega))
    have bl : ∀ μ, opR C .bitlen [.int b] μ = .ok (.int (ibits b : Nat)) μ := fun μ => rfl
    have m0 := mulI (C := C) 0 2147483587 (by decide) (by decide)
    have d := modI (C := C) r b (by omega)
    have sr : srcR1 (.int 1) = some ⟨[.int 0], []⟩ := by rw [show (1 : Int) = ((1 : Nat) : Int) from rfl, srcR1_nat 1 (by decide), rangeD0]; rfl
    refine ⟨r.fmod b, _, ⟨Int.fmod_nonneg_of_pos _ hb0, Int.fmod_lt_of_pos _ hb0⟩, up, ⟨g0, g1, g2 + 1, hs, a0, a1, by omega, by omega⟩, ?_⟩
    simp [call1, df__law_random, b__law_random, i0, hg, bl, fd, ibits_small hb0 hb, sr, fo_cons, fo_nil, i2, s2, j1, j2, hh, m0, d, leave_up up]
end PyE
set_option maxRecDepth 100000
namespace PyE
open PySem
theorem slc_scr {C : Cfg} (ns : List Int) (μ : Mu) : opR C (.slc false true) [.scr ns, .int 1] μ = .ok (.lst ((ns.take 1).map .int)) μ := by
  have e : cut (ns.map D.int) 0 (clamp 1 (ns.map D.int).length) = (ns.take 1).map .int := by
    cases ns with
    | nil => rfl
    | cons a r =>
      have : clamp 1 ((a :: r).map D.int).length = 1 := by
        unfold clamp
        rw [if_pos (by decide), List.length_map, List.length_cons]
        show min 1 (r.length + 1) = 1
        omega
      rw [this]; rfl
  show Res.ok (D.lst (cut (ns.map D.int) 0 (clamp 1 (ns.map D.int).length))) μ = _
  rw [e]
theorem sum_ints {C : Cfg} (l : List Int) (μ : Mu) : opR C .sum1 [.lst (l.map .int)] μ = .ok (.int l.sum) μ := by
  have := opR_sum_map (C := C) (μ := μ) (fun x : Int => x) l
  rw [List.map_id'] at this
  exact this
theorem cell_ok (k : Nat) (μ : Mu) (ns : List Int) (i : Nat) : ∃ r : Int, run C tbl (k + 1) f__law_cell [.scr ns, .int (i : Int)] μ = .ok (.int r) μ := by
  rw [run__law_cell]
  by_cases h : i < ns.length
  · have e : opR C .idx [.scr ns, .int (i : Int)] μ = .ok (.int ns[i]) μ := opR_idx_of (xs := ns.map D.int) rfl (by rw [List.getElem?_map, List.getElem?_eq_getElem h]; rfl)
    have h' : (i : Int) < (ns.length : Int) := by omega
    exact ⟨ns[i], by simp [call1, df__law_cell, b__law_cell, h, e]⟩
  · have d := modI (C := C) (ns.take 1).sum 1000003 (by decide)
    refine ⟨(ns.take 1).sum.fmod 1000003, ?_⟩
    simp only [call1, df__law_cell, b__law_cell]
    have sm := fun μ => sum_ints (C := C) (ns.take 1) μ
    rw [List.map_take] at sm
    simp [h, slc_scr, sm, d]
theorem pow_c {C : Cfg} {i j : Int} (h : 0 ≤ j ∧ ibits i * j.toNat ≤ 100000000) (μ : Mu) : opR C .pow [.int i, .int j] μ = .ok (.int (i ^ j.toNat)) μ := by
  show lift ((powS i j).map prD) μ = _
  unfold powS
  rw [if_pos h]; rfl
theorem max2_c {C : Cfg} (i j : Int) (μ : Mu) : opR C .max2 [.int i, .int j] μ = .ok (.int (if j > i then j else i)) μ := rfl
open Classical in
theorem keepC_new {μ : Mu} {xs : List D} (h : D.undL μ.length xs = true) : keepC μ μ.length (μ ++ [xs]) = .ok (.ref μ.length) (μ ++ [xs]) := by
  unfold keepC
  rw [List.getElem?_append_right (Nat.le_refl _), Nat.sub_self]
  show (if _ then _ else _ : Res D) = _
  refine (if_pos ⟨Nat.le_refl _, h, fun i hi => .inl (List.getElem?_append_left hi)⟩).trans ?_
  rw [List.take_left' rfl]
theorem generator_ok (k : Nat) (μ : Mu) (ns : List Int) (i : Nat) (hi : i ≤ 9) : ∃ xs, Gn μ.length 10000 (μ ++ [xs]) ∧ run C tbl (k + 2) f__law_generator [.scr ns, .int (i : Int)] μ = .ok (.ref μ.length) (μ ++ [xs]) := by
  obtain ⟨r, e⟩ := cell_ok k μ ns i
  obtain ⟨a, ha, p1⟩ : ∃ a : Int, 0 < a ∧ ∀ μ, opR C .pow [.int 10, .int 18] μ = .ok (.int a) μ := ⟨_, by decide, pow_c (C := C) (i := 10) (j := 18) (by decide)⟩
  obtain ⟨b, q, hq0, p2, p3⟩ : ∃ b q : Int, 0 < q ∧ (∀ μ, opR C .pow [.int 10, .int 60] μ = .ok (.int b) μ) ∧ ∀ μ, opR C .pow [.int b, .int 10] μ = .ok (.int q) μ := ⟨_, _, by decide, pow_c (C := C) (i := 10) (j := 60) (by decide), pow_c (C := C) (i := 10 ^ (60 : Int).toNat) (j := 10) (by decide)⟩
  obtain ⟨x, hx⟩ : ∃ x : Int, x = (if (0 : Int) > r - a then 0 else r - a) := ⟨_, rfl⟩
  have hm : ∀ μ, opR C .max2 [.int (r - a), .int 0] μ = .ok (.int x) μ := fun μ => by rw [max2_c, hx]
  have d1 := modI (C := C) x q (by omega)
  have d2 := modI (C := C) r 2147483647 (by decide)
  have m1 := mulI (C := C) 1000 (i : Int) (by decide) (by omega)
  refine ⟨[.int (x.fmod q), .int (r.fmod 2147483647), .int (1000 * (i : Int))], ⟨_, _, _, by rw [List.getElem?_append_right (Nat.le_refl _), Nat.sub_self]; rfl, Int.fmod_nonneg_of_pos _ hq0, ⟨Int.fmod_nonneg_of_pos _ (by decide), Int.fmod_lt_of_pos _ (by decide)⟩, by omega, by omega⟩, ?_⟩
  rw [run__law_generator]
  have lst : ∀ (vs : List D) (μ : Mu), (lift ((opS C μ .lst vs).bind prN) μ) = .ok vs μ := fun vs μ => rfl
  have kn := keepC_new (μ := μ) (xs := [.int (x.fmod q), .int (r.fmod 2147483647), .int (1000 * (i : Int))]) rfl
  have lk : ∀ (k : Nat) (μ1 : Mu), leaveK μ (.ret (.ref k) μ1) = keepC μ k μ1 := fun _ _ => rfl
  simp [call1, df__law_generator, b__law_generator, e, p1, p2, p3, hm, d1, d2, m1, lst, lk, kn]
theorem pick_ok (k : Nat) {μ : Mu} {n N : Nat} (xs : List D) (h0 : xs ≠ []) (h1 : xs.length < 1000) (hN : N < 1000000000) (G : Gn n N μ) :
    ∃ (d : D) (μ' : Mu), d ∈ xs ∧ Up n μ μ' ∧ Gn n (N + 1) μ' ∧ run C tbl (k + 3) f__law_pick [.ref n, .lst xs] μ = .ok d μ' := by
  have hl : 0 < xs.length := List.length_pos_iff.mpr h0
  obtain ⟨r, μ', hr, up, G', e⟩ := random_ok k (xs.length : Int) (by omega) (by omega) hN G
  obtain ⟨m, rfl⟩ : ∃ m : Nat, r = (m : Int) := ⟨r.toNat, by omega⟩
  have hm : m < xs.length := by omega
  refine ⟨xs[m], μ', List.getElem_mem hm, up, G', ?_⟩
  have i := opR_idx_lst (C := C) (μ := μ') (List.getElem?_eq_getElem hm)
  rw [run__law_pick]
  simp [call1, df__law_pick, b__law_pick, e, i, leave_up up]
/-! fractions again -/
def tGcd2 : CE := .op .gt (.cons (.v 3) (.cons (.con (.int 0)) .nil))
def bGcd2 : CS := .cons (.asg (.tp [2, 3]) (.op .tup (.cons (.v 3) (.cons (.op .mod (.cons (.op .int_ (.cons (.v 2) .nil)) (.cons (.v 3) .nil))) .nil)))) .nil
theorem wgcd21 (cl : Cl) (f : Nat) (x y : Option D) (a b : Int) (μ : Mu) (h : 0 < b) : wh C cl tGcd2 bGcd2 (f + 1) [x, y, some (.int a), some (.int b)] μ = wh C cl tGcd2 bGcd2 f [x, y, some (.int b), some (.int (a.fmod b))] μ := by
  rw [wh_succ]
  simp [tGcd2, bGcd2, h]
  rw [opR_mod (by omega)]
  simp
theorem wgcd20 (cl : Cl) (f : Nat) (x y : Option D) (a : Int) (μ : Mu) : wh C cl tGcd2 bGcd2 (f + 1) [x, y, some (.int a), some (.int 0)] μ = .next [x, y, some (.int a), some (.int 0)] μ := by
  rw [wh_succ]
  simp [tGcd2, bGcd2]
theorem while_gcd2 (cl : Cl) (x y : Option D) : ∀ (n a b fuel : Nat) (μ : Mu), b < 2 ^ n → 2 * n + 1 < fuel →
    wh C cl tGcd2 bGcd2 fuel [x, y, some (.int (a : Int)), some (.int (b : Int))] μ = .next [x, y, some (.int ((a.gcd b : Nat) : Int)), some (.int 0)] μ := by
  intro n
  induction n with
  | zero =>
    intro a b fuel μ hb hf
    obtain ⟨f, rfl⟩ : ∃ f, fuel = f + 1 := ⟨fuel - 1, by omega⟩
    have : b = 0 := by omega
    subst this
    rw [show ((0 : Nat) : Int) = 0 from rfl, wgcd20, Nat.gcd_zero_right]
  | succ n ih =>
    intro a b fuel μ hb hf
    obtain ⟨f, rfl⟩ : ∃ f, fuel = f + 2 := ⟨fuel - 2, by omega⟩
    by_cases h0 : b = 0
    · subst h0
      rw [show ((0 : Nat) : Int) = 0 from rfl, wgcd20, Nat.gcd_zero_right]
    rw [wgcd21 _ _ _ _ _ _ _ (by omega), nat_fmod]
    by_cases h1 : a % b = 0
    · rw [h1, show ((0 : Nat) : Int) = 0 from rfl, wgcd20, ← gcd_step a b (by omega), h1, Nat.gcd_zero_right]
    rw [wgcd21 _ _ _ _ _ _ _ (by omega), nat_fmod, ih _ _ _ _ (by have := mod_half b (a % b) (by omega) (Nat.mod_lt _ (by omega)); rw [Nat.pow_succ] at hb; omega) (by omega)]
    rw [gcd_step b (a % b) (by omega), gcd_step a b (by omega)]
theorem frac_ok (k : Nat) (μ : Mu) (a : Int) (b : Nat) (ha : a.natAbs < 2 ^ 8000000) (h : b < 2 ^ 8999) (h0 : b ≠ 0) : run C tbl (k + 1) f__law_frac [.int a, .int (b : Int)] μ = .ok (fr (mkRat a b)) μ := by
  have e := while_gcd2 (run C tbl k) (some (.int a)) (some (.int (b : Int))) 8000000 b a.natAbs C.W μ ha (by decide)
  rw [Nat.gcd_comm] at e
  unfold tGcd2 bGcd2 at e
  have d := gcd_bd (a := a) h h0
  rw [run__law_frac]
  simp [call1, df__law_frac, b__law_frac, e]
  rw [opR_fdiv d]
  simp
  rw [opR_fdiv d]
  simp [fr_lowest _ _ h0]
theorem law_add_ok (k : Nat) (μ : Mu) {a b : Rat} (ha : Bd 4000 a) (hb : Bd 4000 b) : run C tbl (k + 2) f__law_add [fr a, fr b] μ = .ok (fr (a + b)) μ := by
  have e := frac_ok k μ (a.num * b.den + b.num * a.den) (a.den * b.den) (pow_le (by decide) (num_add_lt ha hb)) (pow_le (by decide) (den_mul_lt ha hb)) (den_mul_ne a b)
  rw [Int.natCast_mul, fr_add] at e
  rw [run__law_add]
  simp [call1, df__law_add, b__law_add, mul_nd ha hb, mul_nd hb ha, mul_dd ha hb, e]
theorem law_mul_ok (k : Nat) (μ : Mu) {a b : Rat} (ha : Bd 4000 a) (hb : Bd 4000 b) : run C tbl (k + 2) f__law_mul [fr a, fr b] μ = .ok (fr (a * b)) μ := by
  have e := frac_ok k μ (a.num * b.num) (a.den * b.den) (pow_le (by decide) (num_mul_lt ha hb)) (pow_le (by decide) (den_mul_lt ha hb)) (den_mul_ne a b)
  rw [Int.natCast_mul, fr_mul] at e
  rw [run__law_mul]
  simp [call1, df__law_mul, b__law_mul, mul_nn ha hb, mul_dd ha hb, e]
end PyE
set_option maxRecDepth 100000
namespace PyE
open PySem
/-! one value and itself -/
mutual
def okx : Nat → D → Bool
  | _, .none => true
  | _, .bl _ => true
  | _, .int _ => true
  | _, .str s => PyData.canLay0 (.str s)
  | n, .tup xs => (match n with | 0 => false | m + 1 => decide (xs.length ≤ 1000) && okxL m xs)
  | n, .lst xs => (match n with | 0 => false | m + 1 => decide (xs.length ≤ 1000) && okxL m xs)
  | _, .ref _ => false
  | _, .fn _ => false
  | _, .dct => false
  | _, .exc _ _ => false
  | _, .scr _ => false
def okxL : Nat → List D → Bool
  | _, [] => true
  | n, x :: xs => okx n x && okxL n xs
end
theorem okxL_mem {n : Nat} : ∀ {xs : List D}, okxL n xs = true → ∀ x ∈ xs, okx n x = true
  | [], _, x, h => by simp at h
  | y :: ys, h, x, hx => by
    have h' : (okx n y && okxL n ys) = true := by cases n <;> exact h
    rw [Bool.and_eq_true] at h'
    rcases List.mem_cons.mp hx with rfl | hx
    · exact h'.1
    · exact okxL_mem h'.2 x hx
theorem okxL_of {n : Nat} : ∀ {xs : List D}, (∀ x ∈ xs, okx n x = true) → okxL n xs = true
  | [], _ => by cases n <;> rfl
  | y :: ys, h => by
    have : okxL n (y :: ys) = (okx n y && okxL n ys) := by cases n <;> rfl
    rw [this, h y (List.mem_cons_self ..), okxL_of fun x hx => h x (List.mem_cons_of_mem _ hx)]; rfl
@[simp] theorem okx_int (n : Nat) (i : Int) : okx n (.int i) = true := by cases n <;> rfl
@[simp] theorem okx_bl (n : Nat) (i : Bool) : okx n (.bl i) = true := by cases n <;> rfl
@[simp] theorem okx_none (n : Nat) : okx n .none = true := by cases n <;> rfl
@[simp] theorem okx_lst (n : Nat) (l : List D) : okx (n + 1) (.lst l) = (decide (l.length ≤ 1000) && okxL n l) := by cases n <;> rfl
@[simp] theorem okx_tup (n : Nat) (l : List D) : okx (n + 1) (.tup l) = (decide (l.length ≤ 1000) && okxL n l) := by cases n <;> rfl
@[simp] theorem okxL_nil (n : Nat) : okxL n [] = true := by cases n <;> rfl
@[simp] theorem okxL_cons (n : Nat) (x : D) (l : List D) : okxL n (x :: l) = (okx n x && okxL n l) := by cases n <;> rfl
@[simp] theorem okx_fr (n : Nat) (q : Rat) : okx (n + 1) (fr q) = true := by rw [fr, okx_tup]; simp
@[simp] theorem okx_row (n : Nat) (l : List Rat) (h : l.length ≤ 1000) : okx (n + 2) (row l) = true := by
  rw [row, okx_lst, List.length_map, decide_eq_true h, okxL_of]
  · rfl
  · intro x hx
    obtain ⟨q, _, rfl⟩ := List.mem_map.mp hx
    exact okx_fr n q
theorem opR_eq_str {C : Cfg} {s : Str} (h : PyData.canLay0 (.str s) = true) (μ : Mu) : opR C .eq [.str s, .str s] μ = .ok (.bl true) μ := by
  have o : okd 60 (.str s) = true := h
  rw [opR_eq o o, eqd_str]
  simp
@[simp] theorem opR_ne_bl {C : Cfg} (a b : Bool) (μ : Mu) : opR C .ne [.bl a, .bl b] μ = .ok (.bl !(a == b)) μ := by rw [opR_ne (by simp) (by simp), eqd_bl]
@[simp] theorem opR_eq_nil {C : Cfg} (μ : Mu) : opR C .eq [.lst [], .lst []] μ = .ok (.bl true) μ := by rw [opR_eq (by simp) (by simp)]; rfl
theorem exact_ok : ∀ (n : Nat) (k : Nat) (μ : Mu) (x : D), okx n x = true → run C tbl (k + n + 1) f__law_exact [x, x] μ = .ok (.bl true) μ := by
  have seq : ∀ (n k : Nat) (μ : Mu) (xs : List D) (x : D), items μ x = some xs → xs.length ≤ 1000 → (∀ d ∈ xs, run C tbl (k + n + 1) f__law_exact [d, d] μ = .ok (.bl true) μ) →
      cm C (run C tbl (k + n + 1)) (.nm 2) (.cons (.not_ (.call f__law_exact [0, 1] (.cons (.op .idx (.cons (.v 0) (.cons (.v 2) .nil))) (.cons (.op .idx (.cons (.v 1) (.cons (.v 2) .nil))) .nil)))) .nil) (.v 2) [some x, some x, none] (fun _ => true) ((List.range xs.length).map fun k : Nat => D.int (k : Int)) μ = .ok [] μ := by
    intro n k μ xs x hi hl h
    have := cm_filter (C := C) (cl := run C tbl (k + n + 1)) (ρ := [some x, some x, none]) (μ := μ) (t := .nm 2) (c := .cons (.not_ (.call f__law_exact [0, 1] (.cons (.op .idx (.cons (.v 0) (.cons (.v 2) .nil))) (.cons (.op .idx (.cons (.v 1) (.cons (.v 2) .nil))) .nil)))) .nil) (e := .v 2)
      (ok := fun _ => true) (f := fun k : Nat => D.int (k : Int)) (g := fun k : Nat => D.int (k : Int)) (p := fun _ => false) rfl (l := List.range xs.length) (fun m hm => by
        have hm' := List.mem_range.mp hm
        have i := opR_idx_of (C := C) hi (List.getElem?_eq_getElem hm')
        refine ⟨[some x, some x, some (.int (m : Int))], rfl, ?_, fun z => by cases z⟩
        simp [i, h _ (List.getElem_mem hm')])
    rw [this]
    simp
  intro n
  induction n with
  | zero =>
    intro k μ x h
    rw [Nat.add_zero, run__law_exact]
    cases x with
    | tup xs => cases h
    | lst xs => cases h
    | str s => simp [call1, df__law_exact, b__law_exact, opR_eq_str (show PyData.canLay0 (.str s) = true from h)]
    | int i => simp [call1, df__law_exact, b__law_exact]
    | bl b => cases b <;> simp [call1, df__law_exact, b__law_exact]
    | none => simp [call1, df__law_exact, b__law_exact]
    | _ => cases h
  | succ n ih =>
    intro k μ x h
    rw [show k + (n + 1) + 1 = (k + n + 1) + 1 by omega, run__law_exact]
    cases x with
    | tup xs =>
      rw [okx_tup, Bool.and_eq_true, decide_eq_true_iff] at h
      have s := seq n k μ xs (.tup xs) rfl h.1 fun d hd => ih k μ d (okxL_mem h.2 d hd)
      simp [call1, df__law_exact, b__law_exact, srcR1_nat xs.length (by omega), rangeD0, s]
    | lst xs =>
      rw [okx_lst, Bool.and_eq_true, decide_eq_true_iff] at h
      have s := seq n k μ xs (.lst xs) rfl h.1 fun d hd => ih k μ d (okxL_mem h.2 d hd)
      simp [call1, df__law_exact, b__law_exact, srcR1_nat xs.length (by omega), rangeD0, s]
    | str s => simp [call1, df__law_exact, b__law_exact, opR_eq_str (show PyData.canLay0 (.str s) = true from h)]
    | int i => simp [call1, df__law_exact, b__law_exact]
    | bl b => cases b <;> simp [call1, df__law_exact, b__law_exact]
    | none => simp [call1, df__law_exact, b__law_exact]
    | _ => cases h
end PyE
set_option maxRecDepth 100000
namespace PyE
open PySem
/-- a comprehension that draws -/
theorem cm_gen {α : Type} {n dN B : Nat} {f : α → D} {P : D → Prop} {t : Tg} {e : CE} {cl : Cl} {ρ : Ro} {l0 : List α} (step : ∀ (N : Nat) (μ : Mu), Gn n N μ → N < B → ∀ x ∈ l0, ∃ (d : D) (μ' : Mu), P d ∧ Up n μ μ' ∧ Gn n (N + dN) μ' ∧
      ((lift (setT μ t (f x) (wipe ρ t.slots)) μ).bind fun ρ1 μ2 => eE C cl e ρ1 μ2) = .ok d μ') :
    ∀ (l : List α), (∀ x ∈ l, x ∈ l0) → ∀ (N : Nat) (μ : Mu), Gn n N μ → N + dN * l.length < B → ∃ (ds : List D) (μ' : Mu), ds.length = l.length ∧ (∀ d ∈ ds, P d) ∧ Up n μ μ' ∧ Gn n (N + dN * l.length) μ' ∧ cm C cl t .nil e ρ (fun _ => true) (l.map f) μ = .ok ds μ'
  | [], _, N, μ, G, _ => ⟨[], μ, rfl, fun _ h => by simp at h, G.up, G, by rw [List.map_nil, cm_nil, if_pos rfl]⟩
  | x :: l, hs, N, μ, G, hB => by
    rw [List.length_cons, Nat.mul_succ] at hB
    obtain ⟨d, μ1, p, u1, G1, e1⟩ := step N μ G (by omega) x (hs x (List.mem_cons_self ..))
    obtain ⟨ds, μ2, hl, hp, u2, G2, e2⟩ := cm_gen step l (fun y hy => hs y (List.mem_cons_of_mem _ hy)) (N + dN) μ1 G1 (by omega)
    refine ⟨d :: ds, μ2, by simp [hl], fun y hy => ?_, u1.trans u2, G2.mono (by rw [List.length_cons, Nat.mul_succ]; omega), ?_⟩
    · rcases List.mem_cons.mp hy with rfl | hy
      · exact p
      · exact hp y hy
    rw [List.map_cons, cm_cons, if_pos rfl]
    cases q : setT μ t (f x) (wipe ρ t.slots) with
    | none => rw [q] at e1; cases e1
    | some ρ1 =>
      rw [q] at e1
      have h1' : eE C cl e ρ1 μ = .ok d μ1 := e1
      simp [h1', e2]
theorem exists_map {α β : Type} {f : α → β} {P : α → Prop} : ∀ {ds : List β}, (∀ d ∈ ds, ∃ a, d = f a ∧ P a) → ∃ as : List α, ds = as.map f ∧ ∀ a ∈ as, P a
  | [], _ => ⟨[], rfl, fun _ h => by simp at h⟩
  | d :: ds, h => by
    obtain ⟨a, rfl, p⟩ := h d (List.mem_cons_self ..)
    obtain ⟨as, rfl, ps⟩ := exists_map fun x hx => h x (List.mem_cons_of_mem _ hx)
    refine ⟨a :: as, rfl, fun y hy => ?_⟩
    rcases List.mem_cons.mp hy with rfl | hy
    · exact p
    · exact ps y hy
theorem sum_nat (cs : List Nat) : (cs.map fun c : Nat => (c : Int)).sum = ((cs.sum : Nat) : Int) := by
  induction cs with
  | nil => rfl
  | cons c cs ih => simp [ih]
theorem mkRat_add' (a b : Int) (n : Nat) (h : n ≠ 0) : mkRat a n + mkRat b n = mkRat (a + b) n := by
  rw [Rat.mkRat_add_mkRat _ _ h h, ← Int.add_mul, Rat.mkRat_mul_right h]
theorem sum_mkRat {n : Nat} (h : n ≠ 0) : ∀ cs : List Nat, (cs.map fun c : Nat => mkRat (c : Int) n).sum = mkRat ((cs.sum : Nat) : Int) n
  | [] => by simp
  | c :: cs => by
    rw [List.map_cons, List.sum_cons, sum_mkRat h cs, mkRat_add' _ _ _ h, List.sum_cons]; rfl
theorem mkRat_self' {n : Nat} (h : n ≠ 0) : mkRat (n : Int) n = 1 := by
  have : mkRat (1 * (n : Int)) (1 * n) = mkRat 1 1 := Rat.mkRat_mul_right h
  rw [Int.one_mul, Nat.one_mul] at this
  rw [this]; rfl
theorem sum_le3 : ∀ {cs : List Nat}, (∀ c ∈ cs, c ≤ 3) → cs.sum ≤ 3 * cs.length
  | [], _ => Nat.le_refl _
  | c :: cs, h => by
    have h1 := h c (List.mem_cons_self ..)
    have h2 := sum_le3 fun x hx => h x (List.mem_cons_of_mem _ hx)
    rw [List.sum_cons, List.length_cons]
    omega
theorem mkRat_nn {a : Int} {n : Nat} (ha : 0 ≤ a) : 0 ≤ mkRat a n := by
  rw [← Rat.divInt_ofNat]
  exact Rat.divInt_nonneg ha (by omega)
theorem sum_rep0 : ∀ n : Nat, (List.replicate n (0 : Rat)).sum = 0
  | 0 => rfl
  | n + 1 => by rw [List.replicate_succ, List.sum_cons, sum_rep0 n, Rat.zero_add]
theorem flat_rep {α : Type} (x : α) : ∀ n : Nat, (List.replicate n [x]).flatten = List.replicate n x
  | 0 => rfl
  | n + 1 => by rw [List.replicate_succ, List.flatten_cons, flat_rep x n]; rfl
theorem mul_lst {C : Cfg} (x : D) (j : Nat) (h : j ≤ 1000000) (μ : Mu) : opR C .mul [.lst [x], .int (j : Int)] μ = .ok (.lst (List.replicate j x)) μ := by
  show lift ((if rng62 (j : Int) = true ∧ [x].length * (j : Int).toNat ≤ LIM then some (PR.new (List.replicate (j : Int).toNat [x]).flatten) else none).map prD) μ = _
  rw [if_pos ⟨by unfold rng62; rw [decide_eq_true (by omega), decide_eq_true (by omega)]; rfl, by unfold LIM; simp; omega⟩]
  simp [prD, flat_rep]
theorem add_lst {C : Cfg} (xs ys : List D) (h : xs.length + ys.length ≤ 1000000) (μ : Mu) : opR C .add [.lst xs, .lst ys] μ = .ok (.lst (xs ++ ys)) μ := by
  show lift ((newL (xs ++ ys)).map prD) μ = _
  unfold newL
  rw [if_pos (by rw [List.length_append]; unfold LIM; omega)]; rfl
theorem chances_ok (k : Nat) {μ : Mu} {n N w : Nat} (hw : 1 ≤ w ∧ w ≤ 8) (hN : N + w < 1000000000) (G : Gn n N μ) :
    ∃ (l : List Rat) (μ' : Mu), BelOk 5 w l ∧ Up n μ μ' ∧ Gn n (N + w) μ' ∧ run C tbl (k + 4) f__law_chances [.ref n, .int (w : Int)] μ = .ok (row l) μ' := by
  obtain ⟨ds, μ', hl, hp, u, G', e⟩ := cm_gen (n := n) (dN := 1) (B := 1000000000) (f := fun m : Nat => D.int (m : Int)) (P := fun d => ∃ c : Nat, d = .int (c : Int) ∧ c ≤ 3) (t := .nm 4) (cl := run C tbl (k + 3))
    (e := .call f__law_pick [0, 1] (.cons (.v 0) (.cons (.op .lst (.cons (.con (.int 0)) (.cons (.con (.int 1)) (.cons (.con (.int 1)) (.cons (.con (.int 2)) (.cons (.con (.int 3)) .nil)))))) .nil)))
    (ρ := [some (.ref n), some (.int (w : Int)), none, none, none, none]) (l0 := List.range w) (fun N μ G hN x hx => by
      obtain ⟨d, μ', hd, u, G', e⟩ := pick_ok k [.int 0, .int 1, .int 1, .int 2, .int 3] (by simp) (by simp) hN G
      refine ⟨d, μ', ?_, u, G', by simp [wipe, Tg.slots, e]⟩
      simp at hd
      rcases hd with rfl | rfl | rfl | rfl
      · exact ⟨0, rfl, by decide⟩
      · exact ⟨1, rfl, by decide⟩
      · exact ⟨2, rfl, by decide⟩
      · exact ⟨3, rfl, by decide⟩) (List.range w) (fun _ h => h) N μ G (by rw [List.length_range]; omega)
  rw [List.length_range] at hl G'
  rw [Nat.one_mul] at G'
  obtain ⟨cs, rfl, hc⟩ := exists_map hp
  rw [List.length_map] at hl
  have hs := sum_le3 hc
  have hsum : ∀ μ, opR C .sum1 [.lst (cs.map fun c : Nat => .int (c : Int))] μ = .ok (.int ((cs.sum : Nat) : Int)) μ := fun μ => by rw [opR_sum_map, sum_nat]
  by_cases h0 : 0 < cs.sum
  · have hne : cs.sum ≠ 0 := by omega
    refine ⟨cs.map fun c : Nat => mkRat (c : Int) cs.sum, μ', ⟨by rw [List.length_map, hl], fun q hq => ?_, fun q hq => ?_, by rw [sum_mkRat hne, mkRat_self' hne]⟩, u, G', ?_⟩
    · obtain ⟨c, hcm, rfl⟩ := List.mem_map.mp hq
      have := hc c hcm
      exact mkRat_bd (by show c < 2 ^ 5; omega) (by omega) hne
    · obtain ⟨c, hcm, rfl⟩ := List.mem_map.mp hq
      exact mkRat_nn (by omega)
    · have c2 : cm C (run C tbl (k + 3)) (.nm 5) .nil (.call f__law_frac [0, 1] (.cons (.v 5) (.cons (.v 3) .nil))) [some (.ref n), some (.int (w : Int)), some (.lst (cs.map fun c : Nat => .int (c : Int))), some (.int ((cs.sum : Nat) : Int)), none, none] (fun _ => true) (cs.map fun c : Nat => .int (c : Int)) μ' = .ok (cs.map fun c : Nat => fr (mkRat (c : Int) cs.sum)) μ' := by
        refine cm_map rfl fun c hcm => ?_
        have h3 := hc c hcm
        have ht := frac_ok (k + 2) μ' (c : Int) cs.sum (pow_le (n := 5) (by decide) (by show c < 2 ^ 5; omega)) (pow_le (n := 5) (by decide) (by omega)) hne
        simp [wipe, Tg.slots, ht]
      rw [run__law_chances]
      simp only [call1, df__law_chances, b__law_chances]
      simp [srcR1_nat w (by omega), rangeD0, e, hsum, h0, c2, leave_up u]
      rw [row, List.map_map]; rfl
  · have hz : cs.sum = 0 := by omega
    obtain ⟨w', hw'⟩ : ∃ w', w = w' + 1 := ⟨w - 1, by omega⟩
    have hwi : (w : Int) - 1 = (w' : Int) := by omega
    refine ⟨1 :: List.replicate w' 0, μ', ⟨by simp [hw'], fun q hq => ?_, fun q hq => ?_, by rw [List.sum_cons, sum_rep0, Rat.add_zero]⟩, u, G', ?_⟩
    · rcases List.mem_cons.mp hq with rfl | hq
      · exact Bd.one.mono (by decide)
      · rw [List.eq_of_mem_replicate hq]; exact Bd.zero.mono (by decide)
    · rcases List.mem_cons.mp hq with rfl | hq
      · decide
      · rw [List.eq_of_mem_replicate hq]; decide
    · rw [run__law_chances]
      have m := mul_lst (C := C) (.tup [.int 0, .int 1]) w' (by omega)
      have a := fun μ => add_lst (C := C) [.tup [.int 1, .int 1]] (List.replicate w' (.tup [.int 0, .int 1])) (by simp; omega) μ
      simp only [call1, df__law_chances, b__law_chances]
      simp [srcR1_nat w (by omega), rangeD0, e, hsum, hz, hwi, m, a, leave_up u]
      rw [row, List.map_cons, List.map_replicate, fr_one, fr_zero]
end PyE
set_option maxRecDepth 100000
namespace PyE
open PySem
theorem look_ok (k : Nat) {μ : Mu} {n N s w : Nat} (hs : 1 ≤ s ∧ s ≤ 6) (hw : 1 ≤ w ∧ w ≤ 8) (hN : N + 1000 < 1000000000) (G : Gn n N μ) :
    ∃ (l : List (List Rat)) (μ' : Mu), LookOk 5 w l ∧ l.length = s ∧ Up n μ μ' ∧ Gn n (N + 48) μ' ∧ run C tbl (k + 5) f__law_look [.ref n, .int (s : Int), .int (w : Int)] μ = .ok (lookD l) μ' := by
  obtain ⟨ds, μ', hl, hp, u, G', e⟩ := cm_gen (n := n) (dN := w) (B := 999999990) (f := fun m : Nat => D.int (m : Int)) (P := fun d => ∃ l : List Rat, d = row l ∧ BelOk 5 w l) (t := .nm 3) (cl := run C tbl (k + 4))
    (e := .call f__law_chances [0, 1] (.cons (.v 0) (.cons (.v 2) .nil)))
    (ρ := [some (.ref n), some (.int (s : Int)), some (.int (w : Int)), none]) (l0 := List.range s) (fun N μ G hN x hx => by
      obtain ⟨l, μ', hl, u, G', e⟩ := chances_ok k hw (by omega) G
      exact ⟨row l, μ', ⟨l, rfl, hl⟩, u, G', by simp [wipe, Tg.slots, e]⟩) (List.range s) (fun _ h => h) N μ G (by
        rw [List.length_range]
        have := Nat.mul_le_mul hw.2 hs.2
        omega)
  rw [List.length_range] at hl G'
  obtain ⟨ls, rfl, hc⟩ := exists_map hp
  rw [List.length_map] at hl
  refine ⟨ls, μ', ⟨by omega, hw, fun r hr => ⟨(hc r hr).len, fun q hq => ⟨(hc r hr).bd q hq, (hc r hr).nn q hq⟩, (hc r hr).sum⟩⟩, hl, u, G'.mono (by have := Nat.mul_le_mul hw.2 hs.2; omega), ?_⟩
  rw [run__law_look]
  simp [call1, df__law_look, b__law_look, srcR1_nat s (by omega), rangeD0, e, leave_up u]
  rfl
theorem subI {C : Cfg} (i j : Int) : ∀ μ, opR C .sub [.int i, .int j] μ = .ok (.int (i - j)) μ := fun μ => rfl
end PyE
set_option maxRecDepth 100000
namespace PyE
open PySem
theorem okAt_ref {μ : Mu} {n : Nat} {xs ys : List D} (h : μ[n]? = some ys) : (⟨xs, [(n, ys)]⟩ : Src).okAt μ = true := by
  unfold Src.okAt
  simp [h]
theorem srcS_ref {μ : Mu} {n : Nat} {xs : List D} (h : μ[n]? = some xs) : srcS μ (.ref n) = some ⟨xs, [(n, xs)]⟩ := by
  show (μ[n]?).map (fun xs => (⟨xs, guard (.ref n) xs⟩ : Src)) = _
  rw [h]; rfl
mutual
theorem lists_ok : ∀ (n k : Nat) (μ : Mu) (x y : D) (S : List Nat), rp n x = true → S.length ≤ 100000 → Own μ x y S → run C tbl (k + n + 1) f__law_lists [y] μ = .ok (.lst (S.map .ref)) μ
  | n, k, μ, .none, y, S, _, _, h => by
    obtain ⟨rfl, rfl⟩ := h
    rw [run__law_lists]; simp [call1, df__law_lists, b__law_lists, fo_nil]
  | n, k, μ, .bl _, y, S, _, _, h => by
    obtain ⟨rfl, rfl⟩ := h
    rw [run__law_lists]; simp [call1, df__law_lists, b__law_lists, fo_nil]
  | n, k, μ, .int _, y, S, _, _, h => by
    obtain ⟨rfl, rfl⟩ := h
    rw [run__law_lists]; simp [call1, df__law_lists, b__law_lists, fo_nil]
  | n, k, μ, .str _, y, S, _, _, h => by
    obtain ⟨rfl, rfl⟩ := h
    rw [run__law_lists]; simp [call1, df__law_lists, b__law_lists, fo_nil]
  | 0, _, _, .tup _, _, _, o, _, _ => by cases o
  | n + 1, k, μ, .tup xs, y, S, o, hl, h => by
    obtain ⟨ys, rfl, h⟩ := h
    obtain ⟨o', e⟩ := listsL_ok n k μ (fun _ => true) (fun _ => rfl) xs ys S (.tup ys) [] none (by rw [rp_tup] at o; exact o) (by simpa using hl) h
    rw [show k + (n + 1) + 1 = (k + n + 1) + 1 by omega, run__law_lists]
    simp at e
    simp [call1, df__law_lists, b__law_lists, e]
  | 0, _, _, .lst _, _, _, o, _, _ => by cases o
  | n + 1, k, μ, .lst xs, y, S, o, hl, h => by
    obtain ⟨r, ys, S', rfl, e1, rfl, h⟩ := h
    obtain ⟨o', e⟩ := listsL_ok n k μ ((⟨ys, [(r, ys)]⟩ : Src).okAt) (fun h => okAt_ref e1) xs ys S' (.ref r) [r] none (by rw [rp_lst] at o; exact o) (by simp at hl ⊢; omega) h
    rw [show k + (n + 1) + 1 = (k + n + 1) + 1 by omega, run__law_lists]
    simp at e
    simp [call1, df__law_lists, b__law_lists, srcS_ref e1, e]
  | _, _, _, .ref _, _, _, _, _, h => h.elim
  | _, _, _, .fn _, _, _, _, _, h => h.elim
  | _, _, _, .dct, _, _, _, _, h => h.elim
  | _, _, _, .exc _ _, _, _, _, _, h => h.elim
  | _, _, _, .scr _, _, _, _, _, h => h.elim
theorem listsL_ok : ∀ (n k : Nat) (μ : Mu) (ok : Mu → Bool) (hok : True → ok μ = true) (xs ys : List D) (S : List Nat) (y0 : D) (acc : List Nat) (o : Option D), rpL n xs = true → acc.length + S.length ≤ 100000 → OwnL μ xs ys S →
    ∃ o', fo C (run C tbl (k + n + 1)) (.nm 2) (.cons (.asg (.nm 1) (.op .add (.cons (.v 1) (.cons (.call f__law_lists [0] (.cons (.v 2) .nil)) .nil)))) .nil) ok ys [some y0, some (.lst (acc.map .ref)), o] μ = .next [some y0, some (.lst ((acc ++ S).map .ref)), o'] μ
  | n, k, μ, ok, hok, [], ys, S, y0, acc, o, _, _, h => by
    obtain ⟨rfl, rfl⟩ := h
    exact ⟨o, by rw [fo_nil, if_pos (hok trivial), List.append_nil]⟩
  | n, k, μ, ok, hok, x :: xs, ys, S, y0, acc, o, hr, hl, h => by
    obtain ⟨y, r, S1, S2, rfl, rfl, h1, h2⟩ := h
    rw [rpL_cons, Bool.and_eq_true] at hr
    rw [List.length_append] at hl
    have e := lists_ok n k μ x y S1 hr.1 (by omega) h1
    obtain ⟨o', ih⟩ := listsL_ok n k μ ok hok xs r S2 y0 (acc ++ S1) (some y) hr.2 (by rw [List.length_append]; omega) h2
    refine ⟨o', ?_⟩
    have ad := fun μ => add_lst (C := C) (acc.map .ref) (S1.map .ref) (by rw [List.length_map, List.length_map]; omega) μ
    rw [fo_cons, if_pos (hok trivial)]
    rw [List.map_append] at ih
    simp [e, ad]
    rw [ih]
    simp
end
def fo3 : CS := (.cons (.asg (.nm 6) (.op .idx (.cons (.v 5) (.cons (.call f__law_random [0, 1] (.cons (.v 0) (.cons (.op .len (.cons (.v 5) .nil)) .nil))) .nil)))) (.cons (.ex (.mop .append (.v 6) (.cons (.con (.str (PySem.Str.ofString "mark"))) .nil))) (.cons (.if_ (.or_ (.op .ne (.cons (.op (.scnt (PySem.Str.ofString "'mark'")) (.cons (.op .repr (.cons (.v 1) .nil)) .nil)) (.cons (.con (.int 1)) .nil))) (.op .ne (.cons (.op .repr (.cons (.v 2) .nil)) (.cons (.v 4) .nil)))) (.cons (.ret (.con (.bl false))) .nil) .nil) (.cons (.ex (.mop .pop (.v 6) .nil)) .nil))))
theorem scnt_ok {C : Cfg} {μ : Mu} (d : D) (s : Str) : opR C (.scnt s) [txt d] μ = .ok (.int (Txt.count d.pd.shown s)) μ := rfl
theorem Own.up {n : Nat} {μ μ' : Mu} {x y : D} {S : List Nat} (u : Up n μ μ') (hn : n ∉ S) (h : Own μ x y S) : Own μ' x y S := by
  obtain ⟨xs, rfl⟩ := u
  exact h.same _ _ _ fun r hr => List.getElem?_set_ne fun e => hn (by rw [e]; exact hr)
theorem own_turn (k : Nat) {μ : Mu} {n N : Nat} {x y g : D} {S : List Nat} {t o : Option D} (hN : N < 999999990) (G : Gn n N μ) (h : Own μ x y S) (hn : n ∉ S) (nd : S.Nodup) (h0 : S ≠ []) (hl : S.length < 1000) (hr : rp 8 x = true) (hw : wt x ≤ 15000000) (hc : cleanD x = true)
    (hg : rp 60 g = true) (hgw : wt g ≤ 15000000) : ∃ (o' : Option D) (μ' : Mu), Up n μ μ' ∧ Gn n (N + 1) μ' ∧
      eS C (run C tbl (k + 2)) fo3 [some (.ref n), some y, some g, t, some (txt g), some (.lst (S.map .ref)), o] μ = .next [some (.ref n), some y, some g, t, some (txt g), some (.lst (S.map .ref)), o'] μ' := by
  have hp : 0 < S.length := List.length_pos_iff.mpr h0
  obtain ⟨r, μ1, hrr, up, G1, e⟩ := random_ok k (S.length : Int) (by omega) (by omega) (by omega) G
  obtain ⟨m, rfl⟩ : ∃ m : Nat, r = (m : Int) := ⟨r.toNat, by omega⟩
  have hm : m < S.length := by omega
  have h1 := h.up up hn
  have hmem : S[m] ∈ S := List.getElem_mem hm
  have hlt := h1.lt _ _ _ _ hmem
  obtain ⟨zs, hz⟩ : ∃ zs, μ1[S[m]]? = some zs := ⟨μ1[S[m]], List.getElem?_eq_getElem hlt⟩
  obtain ⟨dm, mk, om⟩ := h1.mark _ _ _ _ zs hmem nd hz
  obtain ⟨rm, wm⟩ := mk_rp 8 x dm hr mk
  have i := opR_idx_lst (C := C) (μ := μ1) (xs := S.map D.ref) (i := m) (x := .ref S[m]) (by rw [List.getElem?_map, List.getElem?_eq_getElem hm]; rfl)
  have hne : n ≠ S[m] := fun z => hn (by rw [z]; exact hmem)
  have hzl : zs.length < LIM := by
    have := h1.wlen _ _ _ _ zs hmem hz
    unfold LIM
    omega
  have ap : mopS μ1 .append (.ref S[m]) [markD] = some (.none, μ1.set S[m] (zs ++ [markD])) := by
    show (μ1[S[m]]?).bind (fun xs => if xs.length < LIM then some (D.none, μ1.set S[m] (xs ++ [markD])) else none) = _
    rw [hz]
    show (if zs.length < LIM then some (D.none, μ1.set S[m] (zs ++ [markD])) else none) = _
    rw [if_pos hzl]
  have r1 := repr_view (C := C) (μ := μ1.set S[m] (zs ++ [markD])) (om.pyr 8 8 _ _ _ rm (by decide)) rm (by decide) (by omega)
  have r2 := repr_ok (C := C) (μ := μ1.set S[m] (zs ++ [markD])) hg (by decide) (by omega)
  have cn := mk_count hc mk
  have hs : (μ1.set S[m] (zs ++ [markD]))[S[m]]? = some (zs ++ [markD]) := List.getElem?_set_self hlt
  have pp : mopS (μ1.set S[m] (zs ++ [markD])) .pop (.ref S[m]) [] = some (markD, μ1) := by
    show ((μ1.set S[m] (zs ++ [markD]))[S[m]]?).bind (fun xs => (xs[xs.length - 1]?).map fun d => (d, (μ1.set S[m] (zs ++ [markD])).set S[m] xs.dropLast)) = _
    rw [hs]
    have : μ1.set S[m] zs = μ1 := by
      refine List.ext_getElem? fun j => ?_
      by_cases ej : S[m] = j
      · rw [← ej, List.getElem?_set_self hlt, hz]
      · rw [List.getElem?_set_ne ej]
    simp [this]
  refine ⟨some (.ref S[m]), μ1, up, G1, ?_⟩
  have sc := fun μ => scnt_ok (C := C) (μ := μ) dm mkS
  rw [cn] at sc
  have nt := ne_txt (C := C) (μ := μ1.set S[m] (zs ++ [markD])) hg
  unfold markD at ap pp r1 r2 nt
  unfold mkS at sc
  simp [fo3, e, i, ap, r1, sc, r2, nt, lift2, pp, markD]
theorem own_loop (k : Nat) {n : Nat} {x y g : D} {S : List Nat} (hn : n ∉ S) (nd : S.Nodup) (h0 : S ≠ []) (hl : S.length < 1000) (hr : rp 8 x = true) (hw : wt x ≤ 15000000) (hc : cleanD x = true)
    (hg : rp 60 g = true) (hgw : wt g ≤ 15000000) : ∀ (l : List Int) (N : Nat) (μ : Mu) (t o : Option D), N + l.length < 999999990 → Gn n N μ → Own μ x y S → ∃ (t' o' : Option D) (μ' : Mu), Up n μ μ' ∧ Gn n (N + l.length) μ' ∧
      fo C (run C tbl (k + 2)) (.nm 3) fo3 (fun _ => true) (l.map .int) [some (.ref n), some y, some g, t, some (txt g), some (.lst (S.map .ref)), o] μ = .next [some (.ref n), some y, some g, t', some (txt g), some (.lst (S.map .ref)), o'] μ'
  | [], N, μ, t, o, hN, G, h => ⟨t, o, μ, G.up, G, by rw [List.map_nil, fo_nil, if_pos rfl]⟩
  | i :: l, N, μ, t, o, hN, G, h => by
    rw [List.length_cons] at hN
    obtain ⟨o1, μ1, u1, G1, e1⟩ := own_turn k (t := some (.int i)) (o := o) (by omega) G h hn nd h0 hl hr hw hc hg hgw
    obtain ⟨t2, o2, μ2, u2, G2, e2⟩ := own_loop k hn nd h0 hl hr hw hc hg hgw l (N + 1) μ1 (some (.int i)) o1 (by omega) G1 (h.up u1 hn)
    refine ⟨t2, o2, μ2, u1.trans u2, G2.mono (by rw [List.length_cons]; omega), ?_⟩
    rw [List.map_cons, fo_cons, if_pos rfl, setT_nm, lift_some, out_ok]
    show ((eS C (run C tbl (k + 2)) fo3 [some (.ref n), some y, some g, some (.int i), some (txt g), some (.lst (S.map .ref)), o] μ).turn _) = _
    rw [e1, turn_next, e2]
/-- cells of one's own: the law's look at it -/
theorem own_ok (k : Nat) {μ : Mu} {n N : Nat} {x y g : D} {S : List Nat} (hN : N < 999999980) (G : Gn n N μ) (h : Own μ x y S) (hn : n ∉ S) (nd : S.Nodup) (hl : S.length < 1000) (hr : rp 8 x = true) (hw : wt x ≤ 15000000) (hc : cleanD x = true)
    (hg : rp 60 g = true) (hgw : wt g ≤ 15000000) : ∃ μ' : Mu, Up n μ μ' ∧ Gn n (N + 6) μ' ∧ run C tbl (k + 10) f__law_own [.ref n, y, g] μ = .ok (.bl true) μ' := by
  have e1 := lists_ok 8 k μ x y S hr (by omega) h
  have e2 := repr_ok (C := C) (μ := μ) hg (by decide) (by omega)
  by_cases h0 : S = []
  · subst h0
    refine ⟨μ, G.up, G.mono (by omega), ?_⟩
    rw [run__law_own]
    have sr : srcR1 (.int 0) = some ⟨[], []⟩ := rfl
    have mn : ∀ μ, opR C .min2 [.int 6, .int 0] μ = .ok (.int 0) μ := fun _ => rfl
    simp only [List.map_nil] at e1
    simp [call1, df__law_own, b__law_own, e1, e2, mn, sr, fo_nil]
  · have hp : 0 < S.length := List.length_pos_iff.mpr h0
    obtain ⟨c, hc1, hc2⟩ : ∃ c : Nat, c ≤ 6 ∧ (if (S.length : Int) < 6 then (S.length : Int) else 6) = (c : Int) := by
      by_cases hh : (S.length : Int) < 6
      · exact ⟨S.length, by omega, if_pos hh⟩
      · exact ⟨6, by omega, if_neg hh⟩
    have mn : ∀ μ, opR C .min2 [.int 6, .int (S.length : Int)] μ = .ok (.int (c : Int)) μ := fun μ => by rw [← hc2]; rfl
    obtain ⟨t', o', μ', u, G', e⟩ := own_loop (k + 7) hn nd h0 hl hr hw hc hg hgw ((List.range c).map fun i : Nat => (i : Int)) N μ none none (by rw [List.length_map, List.length_range]; omega) G h
    rw [List.map_map] at e
    rw [List.length_map, List.length_range] at G'
    replace e : fo C (run C tbl (k + 7 + 2)) (.nm 3) fo3 (fun _ => true) ((List.range c).map fun i : Nat => .int (i : Int)) [some (.ref n), some y, some g, none, some (txt g), some (.lst (S.map .ref)), none] μ = _ := e
    refine ⟨μ', u, G'.mono (by omega), ?_⟩
    rw [run__law_own]
    unfold fo3 at e
    simp [call1, df__law_own, b__law_own, e1, e2, mn, srcR1_nat c (by omega), rangeD0, e, leave_up u]
end PyE
set_option maxRecDepth 100000
/-! what is a look, a table, .. : of any value -/
namespace PyE
open PySem
mutual
/-- numbers of 400 bits -/
def sm : D → Bool
  | .int i => decide (i.natAbs < 2 ^ 400)
  | .tup xs => smL xs
  | .lst xs => smL xs
  | .ref _ => false
  | .fn _ => false
  | .exc _ _ => false
  | .scr _ => false
  | _ => true
def smL : List D → Bool
  | [] => true
  | x :: xs => sm x && smL xs
end
@[simp] theorem sm_none : sm .none = true := (rfl)
@[simp] theorem sm_bl (b : Bool) : sm (.bl b) = true := (rfl)
@[simp] theorem sm_str (b : Str) : sm (.str b) = true := (rfl)
@[simp] theorem sm_dct : sm .dct = true := (rfl)
@[simp] theorem sm_int (i : Int) : sm (.int i) = decide (i.natAbs < 2 ^ 400) := (rfl)
@[simp] theorem sm_tup (xs : List D) : sm (.tup xs) = smL xs := (rfl)
@[simp] theorem sm_lst (xs : List D) : sm (.lst xs) = smL xs := (rfl)
@[simp] theorem smL_nil : smL [] = true := (rfl)
@[simp] theorem smL_cons (x : D) (xs : List D) : smL (x :: xs) = (sm x && smL xs) := (rfl)
theorem smL_mem : ∀ {l : List D}, smL l = true → ∀ x ∈ l, sm x = true
  | [], _, x, hx => by simp at hx
  | y :: l, h, x, hx => by
    rw [smL_cons, Bool.and_eq_true] at h
    rcases List.mem_cons.mp hx with rfl | hx
    · exact h.1
    · exact smL_mem h.2 x hx
theorem smL_of : ∀ {l : List D}, (∀ x ∈ l, sm x = true) → smL l = true
  | [], _ => rfl
  | y :: l, h => by rw [smL_cons, h y (List.mem_cons_self ..), smL_of fun x hx => h x (List.mem_cons_of_mem _ hx)]; rfl
theorem tyIs_sm (sub : Fid → Fid → Bool) {d : D} (h : sm d = true) (t : Ty) (ht : (match t with | .tcls _ => false | .tval => false | _ => true) = true) : tyIs sub d t = some (tyB d t) := by
  cases d <;> first | exact absurd h Bool.false_ne_true | (cases t <;> first | rfl | exact absurd ht Bool.false_ne_true)
def whB : D → Bool
  | .int _ => true
  | _ => false
theorem is_whole_any (k : Nat) (μ : Mu) {d : D} (h : sm d = true) : run C tbl (k + 1) f_is_whole [d] μ = .ok (.bl (whB d)) μ := by
  rw [run_is_whole]
  cases d <;> first | (simp [call1, df_is_whole, b_is_whole, whB]; done) | cases h
def fracB : D → Bool
  | .tup [.int a, .int b] => decide (0 < b) && decide (a.natAbs.gcd b.natAbs = 1)
  | _ => false
theorem fracB_fr (q : Rat) : fracB (fr q) = true := by
  have p := q.den_pos
  show (decide ((0 : Int) < (q.den : Int)) && decide (q.num.natAbs.gcd ((q.den : Int).natAbs) = 1)) = true
  rw [decide_eq_true (by omega), decide_eq_true (show q.num.natAbs.gcd ((q.den : Int).natAbs) = 1 from q.reduced)]; rfl
theorem fr_of {d : D} (h : fracB d = true) : ∃ q, d = fr q := by
  unfold fracB at h
  split at h
  · rename_i a b
    rw [Bool.and_eq_true, decide_eq_true_iff, decide_eq_true_iff] at h
    refine ⟨⟨a, b.natAbs, by omega, h.2⟩, ?_⟩
    unfold fr
    rw [show ((b.natAbs : Nat) : Int) = b by omega]
  · cases h
theorem is_fraction_any (k : Nat) (μ : Mu) {d : D} (h : sm d = true) : run C tbl (k + 2) f_is_fraction [d] μ = .ok (.bl (fracB d)) μ := by
  rw [run_is_fraction]
  cases d with
  | tup xs =>
    match xs, h with
    | [], _ => simp [call1, df_is_fraction, b_is_fraction, fracB]
    | [x], _ => simp [call1, df_is_fraction, b_is_fraction, fracB]
    | x :: y :: z :: r, _ =>
      have : ¬ ((r.length : Int) + 1 + 1 + 1 = 2) := by omega
      simp [call1, df_is_fraction, b_is_fraction, fracB, this]
    | [x, y], h =>
      simp at h
      have e1 := is_whole_any k μ h.1
      have e2 := is_whole_any k μ h.2
      by_cases wx : whB x = true
      · by_cases wy : whB y = true
        · cases x <;> first | cases wx | skip
          cases y <;> first | cases wy | skip
          rename_i a b
          simp at h
          have e := common_divisor_ok k μ a b (pow_le (n := 400) (by decide) h.2)
          simp [whB] at e1 e2
          by_cases hb : 0 < b
          · simp [call1, df_is_fraction, b_is_fraction, fracB, e1, e2, e, hb]
            norm_cast
          · simp [call1, df_is_fraction, b_is_fraction, fracB, e1, e2, e, hb]
        · have f : fracB (.tup [x, y]) = false := by
            unfold fracB
            split
            · rename_i heq
              simp at heq
              rw [heq.2] at wy
              exact absurd rfl wy
            · rfl
          rw [show whB y = false by simpa using wy] at e2
          simp [call1, df_is_fraction, b_is_fraction, e1, e2, wx, f]
      · have f : fracB (.tup [x, y]) = false := by
          unfold fracB
          split
          · rename_i heq
            simp at heq
            rw [heq.1] at wx
            exact absurd rfl wx
          · rfl
        rw [show whB x = false by simpa using wx] at e1
        simp [call1, df_is_fraction, b_is_fraction, e1, f]
  | _ => first | (simp [call1, df_is_fraction, b_is_fraction, fracB]; done) | cases h
def amB (d : D) : Bool := fracB d && (match d with | .tup (.int a :: _) => decide (0 ≤ a) | _ => false)
theorem amB_fr (q : Rat) : amB (fr q) = decide (0 ≤ q) := by
  unfold amB
  rw [fracB_fr, Bool.true_and]
  unfold fr
  show decide (0 ≤ q.num) = _
  exact decide_eq_decide.mpr Rat.num_nonneg
theorem am_of {d : D} (h : amB d = true) : ∃ q, d = fr q ∧ 0 ≤ q := by
  have h' := h
  unfold amB at h
  rw [Bool.and_eq_true] at h
  obtain ⟨q, rfl⟩ := fr_of h.1
  rw [amB_fr, decide_eq_true_iff] at h'
  exact ⟨q, rfl, h'⟩
theorem is_amount_any (k : Nat) (μ : Mu) {d : D} (h : sm d = true) : run C tbl (k + 3) f_is_amount [d] μ = .ok (.bl (amB d)) μ := by
  have e := is_fraction_any k μ h
  rw [run_is_amount]
  cases hf : fracB d with
  | true =>
    obtain ⟨q, rfl⟩ := fr_of hf
    rw [hf] at e
    simp [call1, df_is_amount, b_is_amount, e, amB_fr, Rat.num_nonneg]
  | false =>
    rw [hf] at e
    have : amB d = false := by unfold amB; rw [hf]; rfl
    simp [call1, df_is_amount, b_is_amount, e, this]
def ratOf : D → Rat
  | .tup [.int a, .int b] => mkRat a b.natAbs
  | _ => 0
@[simp] theorem ratOf_fr (q : Rat) : ratOf (fr q) = q := by
  show mkRat q.num ((q.den : Int).natAbs) = q
  exact Rat.mkRat_self q
def chB (n : Nat) : D → Bool
  | .lst xs => decide (xs.length = n) && xs.all amB && decide ((xs.map ratOf).sum = 1)
  | _ => false
theorem frs_of : ∀ {xs : List D}, xs.all amB = true → ∃ qs : List Rat, xs = qs.map fr ∧ ∀ q ∈ qs, 0 ≤ q
  | [], _ => ⟨[], rfl, fun _ h => by simp at h⟩
  | x :: xs, h => by
    rw [List.all_cons, Bool.and_eq_true] at h
    obtain ⟨q, rfl, h0⟩ := am_of h.1
    obtain ⟨qs, rfl, hs⟩ := frs_of h.2
    refine ⟨q :: qs, rfl, fun p hp => ?_⟩
    rcases List.mem_cons.mp hp with rfl | hp
    · exact h0
    · exact hs p hp
theorem sm_fr {q : Rat} (h : sm (fr q) = true) : Bd 400 q := by
  unfold fr at h
  simp at h
  exact h
theorem sm_fr_of {q : Rat} (h : Bd 400 q) : sm (fr q) = true := by
  unfold fr
  simp
  exact h
theorem all_id {C : Cfg} {μ : Mu} (p : D → Bool) (l : List D) : opR C .all [.lst (l.map fun x => .bl (p x))] μ = .ok (.bl (l.all p)) μ := opR_all_map p l
theorem are_chances_any (k : Nat) (μ : Mu) {d : D} {n : Nat} (h : sm d = true) (hn : n ≤ 8) : run C tbl (k + 5) f_are_chances [d, .int (n : Int)] μ = .ok (.bl (chB n d)) μ := by
  rw [run_are_chances]
  cases d with
  | lst xs =>
    by_cases hl : xs.length = n
    · have c := cm_map (C := C) (cl := run C tbl (k + 4)) (μ := μ) (ρ := [some (.lst xs), some (.int (n : Int)), none]) (t := .nm 2) (e := .call f_is_amount [0] (.cons (.v 2) .nil)) (ok := fun _ => true) (f := fun x : D => x) (g := fun x => .bl (amB x)) rfl (l := xs) (fun x hx => by
        have := is_amount_any (k + 1) μ (smL_mem h x hx)
        simp [wipe, Tg.slots, this])
      rw [List.map_id'] at c
      subst hl
      by_cases ha : xs.all amB = true
      · obtain ⟨qs, hx, hq⟩ := frs_of ha
        have e := summed_ok k μ (l := qs) (n := 400) (fun q hq => sm_fr (smL_mem h _ (by rw [hx]; exact List.mem_map.mpr ⟨q, hq, rfl⟩))) (by rw [hx, List.length_map] at hn; exact bnd (c := 400) (d := 8) (Nat.le_refl _) hn)
        unfold row at e
        rw [← hx] at e
        have s : (xs.map ratOf).sum = qs.sum := by
          rw [hx, List.map_map, show (ratOf ∘ fr) = id from funext fun q => ratOf_fr q, List.map_id]
        simp [call1, df_are_chances, b_are_chances, c, all_id, ha, e, chB, s]
      · have ha' : xs.all amB = false := by simpa using ha
        simp [call1, df_are_chances, b_are_chances, c, all_id, ha', chB]
    · have : ¬ ((xs.length : Int) = (n : Int)) := by omega
      simp [call1, df_are_chances, b_are_chances, chB, this, hl]
  | _ => first | (simp [call1, df_are_chances, b_are_chances, chB]; done) | cases h
end PyE
set_option maxRecDepth 100000
namespace PyE
open PySem
@[simp] theorem as01_nil : as01 [] = some .none := (rfl)
@[simp] theorem as01_one (d : D) : as01 [d] = some d := (rfl)
theorem opR_all_id {C : Cfg} {μ : Mu} (p : D → Bool) (l : List D) : opR C .all [.lst (l.map fun x => .bl (p x))] μ = .ok (.bl (l.all p)) μ := opR_all_map p l
theorem idx0_cons {C : Cfg} {μ : Mu} (x : D) (l : List D) : opR C .idx [.lst (x :: l), .int 0] μ = .ok x μ := opR_idx_lst0 x l
def lkB (d : D) : Bool := match d with
  | .tup [.str s, .lst (.lst r0 :: rs)] => decide (s = Str.ofString "look") && decide ((rs.length : Int) + 1 ≤ 6) && decide (1 ≤ (r0.length : Int)) && decide ((r0.length : Int) ≤ 8) && (D.lst r0 :: rs).all (chB r0.length)
  | _ => false
theorem ne_str {C : Cfg} {μ : Mu} {s t : Str} (h1 : PyData.canLay0 (.str s) = true) (h2 : PyData.canLay0 (.str t) = true) : opR C .ne [.str s, .str t] μ = .ok (.bl !(s == t)) μ := by
  rw [opR_ne (show okd 60 (.str s) = true from h1) (show okd 60 (.str t) = true from h2), eqd_str]
theorem canLay_of {s : Str} (h : sgn s.cps.toList = true) : PyData.canLay0 (.str s) = true := by
  show PyData.strOk s = true
  unfold PyData.strOk
  unfold sgn at h
  rw [← Array.all_toList]; exact h
theorem tyB_lst_lst (l : List D) : tyB (.lst l) .tlist = true := rfl
theorem is_look_by_any (k : Nat) (μ : Mu) {d : D} {n : Nat} (h : sm d = true) (hr : rp n d = true) : run C tbl (k + 6) f_is_look_by [d] μ = .ok (.bl (lkB d)) μ := by
  rw [run_is_look_by]
  cases d with
  | tup xs =>
    match xs, h, hr with
    | [], _, _ => simp [call1, df_is_look_by, b_is_look_by, lkB]
    | [x], _, _ => simp [call1, df_is_look_by, b_is_look_by, lkB]
    | x :: y :: z :: r, _, _ =>
      have : ¬ ((r.length : Int) + 1 + 1 + 1 = 2) := by omega
      simp [call1, df_is_look_by, b_is_look_by, lkB, this]
    | [x, y], h, hr =>
      cases n with
      | zero => cases hr
      | succ n =>
      simp at h hr
      have t1 := fun (t : Ty) ht => tyIs_sm C.sub h.1 t ht
      have t2 := fun (t : Ty) ht => tyIs_sm C.sub h.2 t ht
      cases x with
      | str s =>
        rw [rp_str, Bool.and_eq_true] at hr
        have es := fun μ => ne_str (C := C) (μ := μ) (s := s) (t := Str.ofString "look") (canLay_of hr.1.1) (by decide +kernel)
        by_cases hs : s = Str.ofString "look"
        · subst hs
          simp only [beq_self_eq_true] at es
          cases y with
          | lst rows =>
            cases rows with
            | nil => simp [call1, df_is_look_by, b_is_look_by, lkB, es]
            | cons r0 rs =>
              have t0 := fun (t : Ty) ht => tyIs_sm C.sub (smL_mem h.2 r0 (List.mem_cons_self ..)) t ht
              cases r0 with
              | lst r0 =>
                by_cases c1 : ((rs.length : Int) + 1 ≤ 6)
                · by_cases c2 : 1 ≤ (r0.length : Int) ∧ (r0.length : Int) ≤ 8
                  · have c := cm_map (C := C) (cl := run C tbl (k + 5)) (μ := μ) (ρ := [some (.tup [.str (Str.ofString "look"), .lst (.lst r0 :: rs)]), some (.lst (.lst r0 :: rs)), none]) (t := .nm 2) (e := .call f_are_chances [0, 1] (.cons (.v 2) (.cons (.op .len (.cons (.op .idx (.cons (.v 1) (.cons (.con (.int 0)) .nil))) .nil)) .nil))) (ok := fun _ => true) (f := fun x : D => x) (g := fun x => .bl (chB r0.length x)) rfl (l := .lst r0 :: rs) (fun x hx => by
                      have := are_chances_any k μ (n := r0.length) (smL_mem h.2 x hx) (by omega)
                      simp [wipe, Tg.slots, this])
                    rw [List.map_id'] at c
                    have al := fun μ => opR_all_id (C := C) (μ := μ) (chB r0.length) (.lst r0 :: rs)
                    rw [List.map_cons] at al c
                    have c3 : 1 ≤ r0.length := by omega
                    have c4 : (r0.length : Int) ≤ 8 := c2.2
                    have c5 : (1 : Int) ≤ (r0.length : Int) := c2.1
                    simp [call1, df_is_look_by, b_is_look_by, lkB, es, c1, c3, c4, c5, c, al, show (1 : Int) ≤ (rs.length : Int) + 1 by omega]
                  · have f : lkB (.tup [.str (Str.ofString "look"), .lst (.lst r0 :: rs)]) = false := by
                      simp only [lkB]
                      by_cases c3 : 1 ≤ (r0.length : Int)
                      · have c4 : ¬ ((r0.length : Int) ≤ 8) := fun z => c2 ⟨c3, z⟩
                        simp [c4]
                      · simp [c3]
                    by_cases c3 : 1 ≤ (r0.length : Int)
                    · have c4 : ¬ ((r0.length : Int) ≤ 8) := fun z => c2 ⟨c3, z⟩
                      simp [call1, df_is_look_by, b_is_look_by, f, es, c1, c3, c4, show (1 : Int) ≤ (rs.length : Int) + 1 by omega]
                    · simp [call1, df_is_look_by, b_is_look_by, f, es, c1, c3, show (1 : Int) ≤ (rs.length : Int) + 1 by omega]
                · have f : lkB (.tup [.str (Str.ofString "look"), .lst (.lst r0 :: rs)]) = false := by simp only [lkB]; simp [c1]
                  simp [call1, df_is_look_by, b_is_look_by, f, es, c1, show (1 : Int) ≤ (rs.length : Int) + 1 by omega]
              | _ => first
                | exact absurd (smL_mem h.2 _ (List.mem_cons_self ..)) Bool.false_ne_true
                | (by_cases c1 : ((rs.length : Int) + 1 ≤ 6)
                   · simp [call1, df_is_look_by, b_is_look_by, lkB, es, c1, show (1 : Int) ≤ (rs.length : Int) + 1 by omega]
                   · simp [call1, df_is_look_by, b_is_look_by, lkB, es, c1, show (1 : Int) ≤ (rs.length : Int) + 1 by omega])
          | _ => first
            | exact absurd h.2 Bool.false_ne_true
            | (simp [call1, df_is_look_by, b_is_look_by, lkB, es]; done)
        · have hs' : (s == Str.ofString "look") = false := by simpa using hs
          simp only [hs'] at es
          have f : lkB (.tup [.str s, y]) = false := by
            unfold lkB
            split
            · rename_i heq
              simp at heq
              obtain ⟨rfl, _⟩ := heq
              simp [hs]
            · rfl
          simp [call1, df_is_look_by, b_is_look_by, f, es]
      | _ => first
        | exact absurd h.1 Bool.false_ne_true
        | (simp [call1, df_is_look_by, b_is_look_by, lkB]; done)
  | _ => first | exact absurd h Bool.false_ne_true | (simp [call1, df_is_look_by, b_is_look_by, lkB]; done)
theorem check_look_any (k : Nat) (μ : Mu) {d : D} {n : Nat} (h : sm d = true) (hr : rp n d = true) (hl : lkB d = false) : run C tbl (k + 7) f_check_look [d] μ = .exc c_InvalidLook d μ := by
  rw [run_check_look]
  simp [call1, df_check_look, b_check_look, is_look_by_any k μ h hr, hl]
end PyE
set_option maxRecDepth 100000
/-! values of a size that can be shown -/
namespace PyE
open PySem
/-- bits of ints; empty dicts; texts that a mark can be told from -/
structure Fl where
  b : Nat
  dc : Bool
  cl : Bool
mutual
def okf (F : Fl) : Nat → D → Bool
  | _, .none => true
  | _, .bl _ => true
  | _, .int i => decide (i.natAbs < 2 ^ F.b)
  | _, .str s => sgn s.cps.toList && sgn (reprText s).cps.toList && (!F.cl || cln (reprText s).cps.toList)
  | n, .tup xs => (match n with | 0 => false | m + 1 => okfL F m xs)
  | n, .lst xs => (match n with | 0 => false | m + 1 => okfL F m xs)
  | n, .dct => (match n with | 0 => false | _ + 1 => F.dc)
  | _, .ref _ => false
  | _, .fn _ => false
  | _, .exc _ _ => false
  | _, .scr _ => false
def okfL (F : Fl) : Nat → List D → Bool
  | _, [] => true
  | n, x :: xs => okf F n x && okfL F n xs
end
section
variable {F G : Fl}
@[simp] theorem okf_none (n : Nat) : okf F n .none = true := by cases n <;> rfl
@[simp] theorem okf_bl (n : Nat) (b : Bool) : okf F n (.bl b) = true := by cases n <;> rfl
@[simp] theorem okf_int (n : Nat) (i : Int) : okf F n (.int i) = decide (i.natAbs < 2 ^ F.b) := by cases n <;> rfl
@[simp] theorem okf_str (n : Nat) (s : Str) : okf F n (.str s) = (sgn s.cps.toList && sgn (reprText s).cps.toList && (!F.cl || cln (reprText s).cps.toList)) := by cases n <;> rfl
@[simp] theorem okf_lst (n : Nat) (l : List D) : okf F (n + 1) (.lst l) = okfL F n l := by cases n <;> rfl
@[simp] theorem okf_tup (n : Nat) (l : List D) : okf F (n + 1) (.tup l) = okfL F n l := by cases n <;> rfl
@[simp] theorem okf_dct (n : Nat) : okf F (n + 1) .dct = F.dc := by cases n <;> rfl
@[simp] theorem okfL_nil (n : Nat) : okfL F n [] = true := by cases n <;> rfl
@[simp] theorem okfL_cons (n : Nat) (x : D) (l : List D) : okfL F n (x :: l) = (okf F n x && okfL F n l) := by cases n <;> rfl
@[simp] theorem okfL_append (n : Nat) (a b : List D) : okfL F n (a ++ b) = (okfL F n a && okfL F n b) := by
  induction a with
  | nil => simp
  | cons x a ih => simp [ih, Bool.and_assoc]
def Fl.le (F G : Fl) : Prop := F.b ≤ G.b ∧ (F.dc = true → G.dc = true) ∧ (G.cl = true → F.cl = true)
theorem Fl.le_refl (F : Fl) : F.le F := ⟨Nat.le_refl _, id, id⟩
mutual
theorem okf_mono (h : F.le G) : ∀ (n m : Nat) (d : D), n ≤ m → okf F n d = true → okf G m d = true
  | _, _, .none, _, _ => by simp
  | _, _, .bl _, _, _ => by simp
  | _, _, .int i, _, q => by
    rw [okf_int, decide_eq_true_iff] at q ⊢
    exact Nat.lt_of_lt_of_le q (Nat.pow_le_pow_right (by decide) h.1)
  | _, _, .str _, _, q => by
    rw [okf_str, Bool.and_eq_true] at q ⊢
    refine ⟨q.1, ?_⟩
    have q2 := q.2
    cases hg : G.cl with
    | false => rfl
    | true => rw [h.2.2 hg] at q2; exact q2
  | 0, _, .tup xs, _, q => by cases q
  | n + 1, 0, .tup xs, hn, q => by omega
  | n + 1, m + 1, .tup xs, hn, q => by rw [okf_tup] at q ⊢; exact okfL_mono h n m xs (by omega) q
  | 0, _, .lst xs, _, q => by cases q
  | n + 1, 0, .lst xs, hn, q => by omega
  | n + 1, m + 1, .lst xs, hn, q => by rw [okf_lst] at q ⊢; exact okfL_mono h n m xs (by omega) q
  | 0, _, .dct, _, q => by cases q
  | n + 1, 0, .dct, hn, q => by omega
  | n + 1, m + 1, .dct, hn, q => by rw [okf_dct] at q ⊢; exact h.2.1 q
  | _, _, .ref _, _, q => by cases q
  | _, _, .fn _, _, q => by cases q
  | _, _, .exc _ _, _, q => by cases q
  | _, _, .scr _, _, q => by cases q
theorem okfL_mono (h : F.le G) : ∀ (n m : Nat) (l : List D), n ≤ m → okfL F n l = true → okfL G m l = true
  | _, _, [], _, _ => by simp
  | n, m, x :: xs, hn, q => by
    rw [okfL_cons, Bool.and_eq_true] at q ⊢
    exact ⟨okf_mono h n m x hn q.1, okfL_mono h n m xs hn q.2⟩
end
mutual
theorem okf_rp (hF : F.b ≤ 1900) : ∀ (n : Nat) (d : D), okf F n d = true → rp n d = true
  | _, .none, _ => by simp
  | _, .bl _, _ => by simp
  | _, .int i, q => by
    rw [okf_int, decide_eq_true_iff] at q
    rw [rp_int, decide_eq_true_iff]
    exact BIG_of q hF
  | _, .str _, q => by
    rw [okf_str, Bool.and_eq_true] at q
    rw [rp_str]; exact q.1
  | 0, .tup xs, q => by cases q
  | n + 1, .tup xs, q => by rw [okf_tup] at q; rw [rp_tup]; exact okfL_rp hF n xs q
  | 0, .lst xs, q => by cases q
  | n + 1, .lst xs, q => by rw [okf_lst] at q; rw [rp_lst]; exact okfL_rp hF n xs q
  | 0, .dct, q => by cases q
  | n + 1, .dct, q => by simp
  | _, .ref _, q => by cases q
  | _, .fn _, q => by cases q
  | _, .exc _ _, q => by cases q
  | _, .scr _, q => by cases q
theorem okfL_rp (hF : F.b ≤ 1900) : ∀ (n : Nat) (l : List D), okfL F n l = true → rpL n l = true
  | _, [], _ => by simp
  | n, x :: xs, q => by
    rw [okfL_cons, Bool.and_eq_true] at q
    rw [rpL_cons, okf_rp hF n x q.1, okfL_rp hF n xs q.2]; rfl
end
mutual
theorem okf_sm (hF : F.b ≤ 400) : ∀ (n : Nat) (d : D), okf F n d = true → sm d = true
  | _, .none, _ => rfl
  | _, .bl _, _ => rfl
  | _, .int i, q => by
    rw [okf_int, decide_eq_true_iff] at q
    rw [sm_int, decide_eq_true_iff]
    exact Nat.lt_of_lt_of_le q (Nat.pow_le_pow_right (by decide) hF)
  | _, .str _, q => rfl
  | 0, .tup xs, q => by cases q
  | n + 1, .tup xs, q => by rw [okf_tup] at q; exact okfL_sm hF n xs q
  | 0, .lst xs, q => by cases q
  | n + 1, .lst xs, q => by rw [okf_lst] at q; exact okfL_sm hF n xs q
  | _, .dct, q => rfl
  | _, .ref _, q => by cases q
  | _, .fn _, q => by cases q
  | _, .exc _ _, q => by cases q
  | _, .scr _, q => by cases q
theorem okfL_sm (hF : F.b ≤ 400) : ∀ (n : Nat) (l : List D), okfL F n l = true → smL l = true
  | _, [], _ => rfl
  | n, x :: xs, q => by
    rw [okfL_cons, Bool.and_eq_true] at q
    rw [smL_cons, okf_sm hF n x q.1, okfL_sm hF n xs q.2]; rfl
end
mutual
theorem okf_okd (hF : F.dc = false) : ∀ (n : Nat) (d : D), okf F n d = true → okd n d = true
  | _, .none, _ => by simp
  | _, .bl _, _ => by simp
  | _, .int i, q => by simp
  | n, .str s, q => by
    rw [okf_str, Bool.and_eq_true, Bool.and_eq_true] at q
    have : PyData.canLay0 (.str s) = true := canLay_of q.1.1
    cases n <;> exact this
  | 0, .tup xs, q => by cases q
  | n + 1, .tup xs, q => by rw [okf_tup] at q; rw [okd_tup]; exact okfL_okd hF n xs q
  | 0, .lst xs, q => by cases q
  | n + 1, .lst xs, q => by rw [okf_lst] at q; rw [okd_lst]; exact okfL_okd hF n xs q
  | 0, .dct, q => by cases q
  | n + 1, .dct, q => by rw [okf_dct, hF] at q; cases q
  | _, .ref _, q => by cases q
  | _, .fn _, q => by cases q
  | _, .exc _ _, q => by cases q
  | _, .scr _, q => by cases q
theorem okfL_okd (hF : F.dc = false) : ∀ (n : Nat) (l : List D), okfL F n l = true → okdL n l = true
  | _, [], _ => by simp
  | n, x :: xs, q => by
    rw [okfL_cons, Bool.and_eq_true] at q
    rw [okdL_cons, okf_okd hF n x q.1, okfL_okd hF n xs q.2]; rfl
end
mutual
theorem okf_clean (hF : F.cl = true) (hd : F.dc = false) : ∀ (n : Nat) (d : D), okf F n d = true → cleanD d = true
  | _, .none, _ => rfl
  | _, .bl _, _ => rfl
  | _, .int i, q => rfl
  | n, .str s, q => by
    rw [okf_str, Bool.and_eq_true, hF] at q
    exact q.2
  | 0, .tup xs, q => by cases q
  | n + 1, .tup xs, q => by rw [okf_tup] at q; exact okfL_clean hF hd n xs q
  | 0, .lst xs, q => by cases q
  | n + 1, .lst xs, q => by rw [okf_lst] at q; exact okfL_clean hF hd n xs q
  | 0, .dct, q => by cases q
  | n + 1, .dct, q => by rw [okf_dct, hd] at q; cases q
  | _, .ref _, q => by cases q
  | _, .fn _, q => by cases q
  | _, .exc _ _, q => by cases q
  | _, .scr _, q => by cases q
theorem okfL_clean (hF : F.cl = true) (hd : F.dc = false) : ∀ (n : Nat) (l : List D), okfL F n l = true → cleanL l = true
  | _, [], _ => rfl
  | n, x :: xs, q => by
    rw [okfL_cons, Bool.and_eq_true] at q
    show (cleanD x && cleanL xs) = true
    rw [okf_clean hF hd n x q.1, okfL_clean hF hd n xs q.2]; rfl
end
structure V (F : Fl) (n B : Nat) (d : D) : Prop where
  ok : okf F n d = true
  wt : wt d ≤ B
structure VL (F : Fl) (n B : Nat) (xs : List D) : Prop where
  ok : okfL F n xs = true
  wt : wtL xs ≤ B
/-- looks and the like; with empty dicts; what is told -/
def F4 : Fl := ⟨400, false, false⟩
def FD : Fl := ⟨400, true, false⟩
def FC : Fl := ⟨1900, false, true⟩
theorem V.rp {n B : Nat} {d : D} (h : V F n B d) (hF : F.b ≤ 1900 := by decide) : rp n d = true := okf_rp hF n d h.ok
theorem V.sm {n B : Nat} {d : D} (h : V F n B d) (hF : F.b ≤ 400 := by decide) : sm d = true := okf_sm hF n d h.ok
theorem V.okd {n B : Nat} {d : D} (h : V F n B d) (hF : F.dc = false := by decide) : okd n d = true := okf_okd hF n d h.ok
theorem V.clean {n B : Nat} {d : D} (h : V F n B d) (hF : F.cl = true := by decide) (hd : F.dc = false := by decide) : cleanD d = true := okf_clean hF hd n d h.ok
theorem okd_mono : ∀ (n m : Nat) (d : D), n ≤ m → PyE.okd n d = true → PyE.okd m d = true := by
  intro n m d hn h
  have key : ∀ (n : Nat), (∀ d m, n ≤ m → PyE.okd n d = true → PyE.okd m d = true) ∧ (∀ l m, n ≤ m → okdL n l = true → okdL m l = true) := by
    intro n
    induction n with
    | zero =>
      have a : ∀ d m, 0 ≤ m → PyE.okd 0 d = true → PyE.okd m d = true := by
        intro d m _ h
        cases d <;> first | (simp; done) | cases h | skip
        cases m <;> exact h
      refine ⟨a, fun l => ?_⟩
      induction l with
      | nil => intro m _ _; simp
      | cons x l ih =>
        intro m hm h
        rw [okdL_cons, Bool.and_eq_true] at h ⊢
        exact ⟨a x m hm h.1, ih m hm h.2⟩
    | succ n ih =>
      have a : ∀ d m, n + 1 ≤ m → PyE.okd (n + 1) d = true → PyE.okd m d = true := by
        intro d m hm h
        obtain ⟨m, rfl⟩ : ∃ j, m = j + 1 := ⟨m - 1, by omega⟩
        cases d <;> first | (simp; done) | cases h | skip
        · exact h
        · rw [okd_tup] at h ⊢; exact ih.2 _ m (by omega) h
        · rw [okd_lst] at h ⊢; exact ih.2 _ m (by omega) h
      refine ⟨a, fun l => ?_⟩
      induction l with
      | nil => intro m _ _; simp
      | cons x l ihl =>
        intro m hm h
        rw [okdL_cons, Bool.and_eq_true] at h ⊢
        exact ⟨a x m hm h.1, ihl m hm h.2⟩
  exact (key n).1 d m hn h
theorem V.okd60 {n B : Nat} {d : D} (h : V F n B d) (hn : n ≤ 60 := by decide) (hF : F.dc = false := by decide) : PyE.okd 60 d = true := okd_mono n 60 d hn (h.okd hF)
theorem V.fl {n B : Nat} {d : D} (h : V F n B d) (hF : F.b ≤ G.b ∧ (F.dc = true → G.dc = true) ∧ (G.cl = true → F.cl = true) := by decide) : V G n B d := ⟨okf_mono hF n n d (Nat.le_refl _) h.ok, h.wt⟩
theorem V.mono {n m A B : Nat} {d : D} (h : V F n A d) (hn : n ≤ m) (hB : A ≤ B) : V F m B d := ⟨okf_mono F.le_refl n m d hn h.ok, Nat.le_trans h.wt hB⟩
theorem VL.mono {n m A B : Nat} {d : List D} (h : VL F n A d) (hn : n ≤ m) (hB : A ≤ B) : VL F m B d := ⟨okfL_mono F.le_refl n m d hn h.ok, Nat.le_trans h.wt hB⟩
theorem VL.nil {n B : Nat} : VL F n B [] := ⟨by simp, Nat.zero_le _⟩
theorem VL.cons {n A B : Nat} {x : D} {xs : List D} (h : V F n A x) (h2 : VL F n B xs) : VL F n (A + 2 + B) (x :: xs) :=
  ⟨by rw [okfL_cons, h.ok, h2.ok]; rfl, by show PyE.wt x + 2 + wtL xs ≤ _; have := h.wt; have := h2.wt; omega⟩
theorem wtL_append : ∀ (xs ys : List D), wtL (xs ++ ys) = wtL xs + wtL ys
  | [], ys => by show wtL ys = 0 + wtL ys; omega
  | x :: xs, ys => by show wt x + 2 + wtL (xs ++ ys) = wt x + 2 + wtL xs + wtL ys; rw [wtL_append xs ys]; omega
theorem VL.append {n A B : Nat} {xs ys : List D} (h : VL F n A xs) (h2 : VL F n B ys) : VL F n (A + B) (xs ++ ys) :=
  ⟨by rw [okfL_append, h.ok, h2.ok]; rfl, by rw [wtL_append]; have := h.wt; have := h2.wt; omega⟩
theorem VL.one {n A : Nat} {x : D} (h : V F n A x) : VL F n (A + 2) [x] := VL.cons (B := 0) h VL.nil
theorem VL.rep {n A : Nat} {xs : List D} (h : VL F n A xs) : ∀ j : Nat, VL F n (j * A) (List.replicate j xs).flatten
  | 0 => VL.nil
  | j + 1 => by
    rw [List.replicate_succ, List.flatten_cons]
    exact (h.append (h.rep j)).mono (Nat.le_refl _) (by rw [Nat.succ_mul]; omega)
theorem VL.rep1 {n A : Nat} {x : D} (h : V F n A x) : ∀ j : Nat, VL F n (j * (A + 2)) (List.replicate j x)
  | 0 => VL.nil
  | j + 1 => by
    rw [List.replicate_succ]
    exact (VL.cons h (VL.rep1 h j)).mono (Nat.le_refl _) (by rw [Nat.succ_mul]; omega)
theorem VL.map {α : Type} {f : α → D} {n A : Nat} : ∀ {l : List α}, (∀ x ∈ l, V F n A (f x)) → VL F n (l.length * (A + 2)) (l.map f)
  | [], _ => VL.nil
  | x :: l, h => by
    rw [List.map_cons]
    exact (VL.cons (h x (List.mem_cons_self ..)) (VL.map fun y hy => h y (List.mem_cons_of_mem _ hy))).mono (Nat.le_refl _) (by rw [List.length_cons, Nat.succ_mul]; omega)
theorem VL.of {n A : Nat} {l : List D} (h : ∀ x ∈ l, V F n A x) : VL F n (l.length * (A + 2)) l := by
  have := VL.map (f := fun x : D => x) h
  rw [List.map_id'] at this
  exact this
theorem VL.drop1 {n A : Nat} {xs : List D} (h : VL F n A xs) : VL F n A (xs.drop 1) := by
  cases xs with
  | nil => exact h
  | cons x xs =>
    have h1 := h.ok
    have h3 : PyE.wt x + 2 + wtL xs ≤ A := h.wt
    rw [okfL_cons, Bool.and_eq_true] at h1
    exact ⟨h1.2, by show wtL xs ≤ A; omega⟩
theorem VL.sub {n A : Nat} {xs ys : List D} (h : VL F n A (xs ++ ys)) : VL F n A xs ∧ VL F n A ys := by
  have h1 := h.ok
  have h3 := h.wt
  rw [okfL_append, Bool.and_eq_true] at h1
  rw [wtL_append] at h3
  exact ⟨⟨h1.1, by omega⟩, ⟨h1.2, by omega⟩⟩
theorem VL.dropLast {n A : Nat} {xs : List D} (h : VL F n A xs) : VL F n A xs.dropLast := by
  by_cases z : xs = []
  · subst z; exact h
  · have e := List.dropLast_concat_getLast z
    rw [← e] at h
    exact h.sub.1
theorem V.lst {n A : Nat} {xs : List D} (h : VL F n A xs) : V F (n + 1) (A + 3) (.lst xs) := ⟨by rw [okf_lst]; exact h.ok, by show wtL xs + 3 ≤ _; have := h.wt; omega⟩
theorem V.tup {n A : Nat} {xs : List D} (h : VL F n A xs) : V F (n + 1) (A + 3) (.tup xs) := ⟨by rw [okf_tup]; exact h.ok, by show wtL xs + 3 ≤ _; have := h.wt; omega⟩
theorem V.none {n : Nat} : V F n 5 .none := ⟨by simp, Nat.le_refl _⟩
theorem V.bl {n : Nat} (b : Bool) : V F n 5 (.bl b) := ⟨by simp, Nat.le_refl _⟩
theorem V.dct {n : Nat} (h : F.dc = true := by decide) : V F (n + 1) 5 .dct := ⟨by simp [h], Nat.le_refl _⟩
theorem V.int {n : Nat} {i : Int} (h : i.natAbs < 2 ^ F.b) : V F n 600 (.int i) := ⟨by rw [okf_int, decide_eq_true_iff]; exact h, Nat.le_refl _⟩
theorem V.int' {n : Nat} {i : Int} (h : i.natAbs < 1000000000000) (hF : 40 ≤ F.b := by decide) : V F n 600 (.int i) := V.int (Nat.lt_of_lt_of_le (Nat.lt_trans h (show 1000000000000 < 2 ^ 40 by decide)) (Nat.pow_le_pow_right (by decide) hF))
theorem V.str {n B : Nat} {s : Str} (h : (sgn s.cps.toList && sgn (reprText s).cps.toList && cln (reprText s).cps.toList) = true) (hB : (reprText s).length ≤ B) : V F n B (.str s) := ⟨by
  rw [Bool.and_eq_true] at h
  rw [okf_str, h.1, h.2]; simp, hB⟩
theorem V.fr {n : Nat} {q : Rat} (h : Bd F.b q) : V F (n + 1) 1207 (fr q) := V.tup (A := 1204) (VL.cons (A := 600) (B := 602) (V.int h.1) (VL.cons (A := 600) (B := 0) (V.int (show (q.den : Int).natAbs < _ from h.2)) VL.nil))
theorem V.row {n : Nat} {l : List Rat} (h : ∀ q ∈ l, Bd F.b q) : V F (n + 2) (l.length * 1209 + 3) (row l) := V.lst (VL.map (A := 1207) fun q hq => V.fr (h q hq))
theorem V.rows {n m : Nat} {l : List (List Rat)} (h : ∀ r ∈ l, r.length ≤ m ∧ ∀ q ∈ r, Bd F.b q) : V F (n + 3) (l.length * (m * 1209 + 5) + 3) (rows l) :=
  V.lst (VL.map (A := m * 1209 + 3) fun r hr => (V.row (h r hr).2).mono (Nat.le_refl _) (by have := Nat.mul_le_mul_right 1209 (h r hr).1; omega))
theorem V.look {n m : Nat} {l : List (List Rat)} (h : ∀ r ∈ l, r.length ≤ m ∧ ∀ q ∈ r, Bd F.b q) : V F (n + 4) (l.length * (m * 1209 + 5) + 30) (lookD l) :=
  (V.tup (VL.cons (A := 6) (V.str (by decide +kernel) (by decide +kernel)) (VL.cons (B := 0) (V.rows (n := n) h) VL.nil))).mono (Nat.le_refl _) (by omega)
end
end PyE
set_option maxRecDepth 100000
/-! what is no look, drawn -/
namespace PyE
open PySem
section
variable {C : Cfg}
theorem mul_gen (xs : List D) (j : Nat) (h : xs.length * j ≤ 1000000) (hj : j ≤ 1000000) (μ : Mu) : opR C .mul [.lst xs, .int (j : Int)] μ = .ok (.lst (List.replicate j xs).flatten) μ := by
  show lift ((if rng62 (j : Int) = true ∧ xs.length * (j : Int).toNat ≤ LIM then some (PR.new (List.replicate (j : Int).toNat xs).flatten) else none).map prD) μ = _
  rw [if_pos ⟨by unfold rng62; rw [decide_eq_true (by omega), decide_eq_true (by omega)]; rfl, by unfold LIM; simp; omega⟩]
  simp [prD]
theorem slc_from1 (xs : List D) (μ : Mu) : opR C (.slc true false) [.lst xs, .int 1] μ = .ok (.lst (xs.drop 1)) μ := by
  have e : cut xs (clamp 1 xs.length) xs.length = xs.drop 1 := by
    unfold cut
    rw [List.take_length]
    cases xs with
    | nil => rfl
    | cons a r =>
      rw [show clamp 1 (a :: r).length = 1 by unfold clamp; rw [if_pos (by decide), List.length_cons]; show min 1 (r.length + 1) = 1; omega]
  show Res.ok (D.lst (cut xs (clamp 1 xs.length) xs.length)) μ = _
  rw [e]
theorem slc_tom1 (xs : List D) (μ : Mu) : opR C (.slc false true) [.lst xs, .int (-1)] μ = .ok (.lst xs.dropLast) μ := by
  have e : cut xs 0 (clamp (-1) xs.length) = xs.dropLast := by
    unfold cut
    rw [List.drop_zero, List.dropLast_eq_take]
    congr 1
    unfold clamp
    rw [if_neg (by decide)]
    omega
  show Res.ok (D.lst (cut xs 0 (clamp (-1) xs.length))) μ = _
  rw [e]
theorem list_tup (xs : List D) (μ : Mu) : opR C .list [.tup xs] μ = .ok (.lst xs) μ := rfl
theorem tuple_lst (xs : List D) (μ : Mu) : opR C .tuple [.lst xs] μ = .ok (.tup xs) μ := rfl
theorem list_lst (xs : List D) (μ : Mu) : opR C .list [.lst xs] μ = .ok (.lst xs) μ := rfl
theorem sub_int (i j : Int) (μ : Mu) : opR C .sub [.int i, .int j] μ = .ok (.int (i - j)) μ := rfl
end
def z01 : D := .tup [.int 0, .int 1]
def z11 : D := .tup [.int 1, .int 1]
/-- lists of rows that are no look's -/
def badRows (w : Nat) (X : List D) : List D := [.lst (X ++ [.tup [.int 0, .int 1]]), .lst (X.drop 1 ++ [.tup [.int 1, .int 97]]), .tup X, .none, .lst (List.replicate w (.int 1)), .lst (List.replicate w (.tup [.int 2, .int 2])), .lst (List.replicate (w + 1) (.tup [.int 1, .int 1])),
  .lst (if 1 < w then (.tup [.int (-1), .int 1] :: .tup [.int 2, .int 1] :: List.replicate (w - 2) (.tup [.int 0, .int 1])) else [.tup [.int 1, .int 2]]), .lst (X.dropLast ++ [.none])]
abbrev kS : D := .str (Str.ofString "look")
def badLooks (w : Nat) (X R : List D) : List D :=
  [.none, .tup [], .lst [kS, .lst R], .tup [.str (Str.ofString "Look"), .lst R], .tup [kS], .tup [kS, .lst R, .lst R], .tup [kS, .lst []], .tup [kS, .tup R]] ++
  [.tup [kS, .lst (List.replicate R.length (.lst []))], .tup [kS, .lst (List.replicate 7 R).flatten], .tup [kS, .lst [.lst (List.replicate 9 X).flatten]]] ++
  (((badRows w X).drop 1).map (fun one => .tup [kS, .lst (R.dropLast ++ [one])]) ++ [.tup [kS, .lst (R ++ [.lst (X ++ [.tup [.int 0, .int 1]])])]] ++
  (if R.length < 5 then (badRows w X).map (fun one => .tup [kS, .lst (.lst X :: one :: R)]) else []))
theorem bad_look_run (k : Nat) {μ : Mu} {n N w : Nat} {X R : List D} {l' : List D} (hw : 1 ≤ w ∧ w ≤ 8) (hX : X.length = w) (hR : R = .lst X :: l') (hRl : R.length ≤ 6) (hN : N < 1000000000) (G : Gn n N μ) :
    ∃ (d : D) (μ' : Mu), d ∈ badLooks w X R ∧ Up n μ μ' ∧ Gn n (N + 1) μ' ∧ run C tbl (k + 4) f__law_bad_look [.ref n, .tup [kS, .lst R]] μ = .ok d μ' := by
  have hb : (badLooks w X R).length < 1000 := by
    unfold badLooks badRows
    simp
    split <;> simp
  obtain ⟨d, μ', hd, u, G', e⟩ := pick_ok k (badLooks w X R) (by unfold badLooks; simp) hb hN G
  refine ⟨d, μ', hd, u, G', ?_⟩
  have i0 : ∀ μ, opR C .idx [.lst R, .int 0] μ = .ok (.lst X) μ := fun μ => by rw [hR]; exact opR_idx_lst0 _ _
  have c1 : ∀ (B : List D) (a b d e f g : Option D) (μ : Mu), cm C (run C tbl (k + 3)) (.nm 6) .nil (.op .tup (.cons (.con kS) (.cons (.op .add (.cons (.op (.slc false true) (.cons (.v 2) (.cons (.op .neg (.cons (.con (.int 1)) .nil)) .nil))) (.cons (.op .lst (.cons (.v 6) .nil)) .nil))) .nil))) [a, b, some (.lst R), d, e, f, g] (fun _ => true) B μ
      = .ok (B.map fun one => .tup [kS, .lst (R.dropLast ++ [one])]) μ := by
    intro B a b d e f g μ
    have := cm_map (C := C) (cl := run C tbl (k + 3)) (μ := μ) (ρ := [a, b, some (.lst R), d, e, f, g]) (t := .nm 6) (e := .op .tup (.cons (.con kS) (.cons (.op .add (.cons (.op (.slc false true) (.cons (.v 2) (.cons (.op .neg (.cons (.con (.int 1)) .nil)) .nil))) (.cons (.op .lst (.cons (.v 6) .nil)) .nil))) .nil))) (ok := fun _ => true) (f := fun x : D => x) (g := fun one => .tup [kS, .lst (R.dropLast ++ [one])]) rfl (l := B) (fun x hx => by
      have ad := add_lst (C := C) R.dropLast [x] (by simp; omega) μ
      simp [wipe, Tg.slots, slc_tom1, ad])
    rw [List.map_id'] at this
    exact this
  have c2 : ∀ (B : List D) (a b d e f g : Option D) (μ : Mu), cm C (run C tbl (k + 3)) (.nm 6) .nil (.op .tup (.cons (.con kS) (.cons (.op .add (.cons (.op .lst (.cons (.op .idx (.cons (.v 2) (.cons (.con (.int 0)) .nil))) (.cons (.v 6) .nil))) (.cons (.v 2) .nil))) .nil))) [a, b, some (.lst R), d, e, f, g] (fun _ => true) B μ
      = .ok (B.map fun one => .tup [kS, .lst (.lst X :: one :: R)]) μ := by
    intro B a b d e f g μ
    have := cm_map (C := C) (cl := run C tbl (k + 3)) (μ := μ) (ρ := [a, b, some (.lst R), d, e, f, g]) (t := .nm 6) (e := .op .tup (.cons (.con kS) (.cons (.op .add (.cons (.op .lst (.cons (.op .idx (.cons (.v 2) (.cons (.con (.int 0)) .nil))) (.cons (.v 6) .nil))) (.cons (.v 2) .nil))) .nil))) (ok := fun _ => true) (f := fun x : D => x) (g := fun one => .tup [kS, .lst (.lst X :: one :: R)]) rfl (l := B) (fun x hx => by
      have ad := add_lst (C := C) [.lst X, x] R (by simp; omega) μ
      simp [wipe, Tg.slots, i0, ad])
    rw [List.map_id'] at this
    exact this
  have lX : ∀ μ, opR C .len [.lst X] μ = .ok (.int (w : Int)) μ := fun μ => by rw [opR_len_lst, hX]
  have m5 : ∀ (x : D) μ, opR C .mul [.lst [x], .int ((w : Int) + 1)] μ = .ok (.lst (List.replicate (w + 1) x)) μ := fun x μ => mul_lst (C := C) x (w + 1) (by omega) μ
  have m1 : ∀ (x : D) μ, opR C .mul [.lst [x], .int (w : Int)] μ = .ok (.lst (List.replicate w x)) μ := fun x μ => mul_lst (C := C) x w (by omega) μ
  have m4 : ∀ (x : D) μ, opR C .mul [.lst [x], .int (R.length : Int)] μ = .ok (.lst (List.replicate R.length x)) μ := fun x μ => mul_lst (C := C) x R.length (by omega) μ
  have iR : ∀ μ, opR C .idx [.tup [kS, .lst R], .int 1] μ = .ok (.lst R) μ := fun μ => opR_idx_tup1 _ _ _
  have m2 : ∀ μ, opR C .mul [.lst R, .int 7] μ = .ok (.lst (List.replicate 7 R).flatten) μ := fun μ => mul_gen (C := C) R 7 (by omega) (by omega) μ
  have m3 : ∀ μ, opR C .mul [.lst X, .int 9] μ = .ok (.lst (List.replicate 9 X).flatten) μ := fun μ => mul_gen (C := C) X 9 (by omega) (by omega) μ
  have u' := leave_up u
  rw [run__law_bad_look]
  unfold badLooks at e
  refine call_go rfl rfl rfl ?_ (u' d)
  show eS C (run C tbl (k + 3)) b__law_bad_look [some (.ref n), some (.tup [kS, .lst R]), none, none, none, none, none] μ = _
  unfold b__law_bad_look
  apply eS_go
  case h =>
    simp (maxSteps := 5000000) (disch := (first | omega | (simp; done) | (simp; omega))) [] <;> (first | exact ⟨rfl, rfl⟩ | fail "step")
  apply eS_go
  case h =>
    simp (maxSteps := 5000000) (disch := (first | omega | (simp; done) | (simp; omega))) [list_tup, tuple_lst] <;> (first | exact ⟨rfl, rfl⟩ | fail "step")
  apply eS_go
  case h =>
    simp (maxSteps := 5000000) (disch := (first | omega | (simp; done) | (simp; omega))) [m4, add_lst, m2, m3, i0] <;> (first | exact ⟨rfl, rfl⟩ | fail "step")
  apply eS_go
  case h =>
    simp (maxSteps := 5000000) (disch := (first | omega | (simp; done) | (simp; omega))) [i0, add_lst, m1, tuple_lst, slc_from1, lX, m5] <;> (first | exact ⟨rfl, rfl⟩ | fail "step")
  have l5 : ∀ μ, opR C .lt [.int (R.length : Int), .int 5] μ = .ok (.bl (decide (R.length < 5))) μ := fun μ => by
    rw [opR_lt, show decide ((R.length : Int) < 5) = decide (R.length < 5) from decide_eq_decide.mpr ⟨fun h => by omega, fun h => by omega⟩]
  by_cases h1 : 1 < w
  · have m6 : ∀ (x : D) μ, opR C .mul [.lst [x], .int ((w : Int) - 2)] μ = .ok (.lst (List.replicate (w - 2) x)) μ := fun x μ => by
      rw [show (w : Int) - 2 = ((w - 2 : Nat) : Int) by omega]
      exact mul_lst (C := C) x (w - 2) (by omega) μ
    have h1' : (1 : Int) < (w : Int) := by omega
    apply eS_go
    case h =>
      simp (maxSteps := 5000000) (disch := (first | omega | (simp; done) | (simp; omega))) [i0, lX, h1', h1, add_lst, sub_int, m6, slc_tom1] <;> (first | exact ⟨rfl, rfl⟩ | fail "step")
    unfold badRows at e
    apply eS_go
    case h =>
      simp (maxSteps := 5000000) (disch := (first | omega | (simp; done) | (simp; omega))) [slc_from1, c1, add_lst] <;> (first | exact ⟨rfl, rfl⟩ | fail "step")
    by_cases h5 : R.length < 5
    · simp [h1, h5] at e
      apply eS_go
      case h =>
        simp (maxSteps := 5000000) (disch := (first | omega | (simp; done) | (simp; omega))) [l5, h5, c2, add_lst] <;> (first | exact ⟨rfl, rfl⟩ | fail "step")
      simp (maxSteps := 5000000) (disch := (first | omega | (simp; done) | (simp; omega))) [add_lst, e]
    · simp [h1, h5] at e
      apply eS_go
      case h =>
        simp (maxSteps := 5000000) (disch := (first | omega | (simp; done) | (simp; omega))) [l5, h5] <;> (first | exact ⟨rfl, rfl⟩ | fail "step")
      simp (maxSteps := 5000000) (disch := (first | omega | (simp; done) | (simp; omega))) [add_lst, e]
  · have hw1 : w = 1 := by omega
    subst hw1
    apply eS_go
    case h =>
      simp (maxSteps := 5000000) (disch := (first | omega | (simp; done) | (simp; omega))) [i0, lX, add_lst, slc_tom1] <;> (first | exact ⟨rfl, rfl⟩ | fail "step")
    unfold badRows at e
    apply eS_go
    case h =>
      simp (maxSteps := 5000000) (disch := (first | omega | (simp; done) | (simp; omega))) [slc_from1, c1, add_lst] <;> (first | exact ⟨rfl, rfl⟩ | fail "step")
    by_cases h5 : R.length < 5
    · simp [h5] at e
      apply eS_go
      case h =>
        simp (maxSteps := 5000000) (disch := (first | omega | (simp; done) | (simp; omega))) [l5, h5, c2, add_lst] <;> (first | exact ⟨rfl, rfl⟩ | fail "step")
      simp (maxSteps := 5000000) (disch := (first | omega | (simp; done) | (simp; omega))) [add_lst, e]
    · simp [h5] at e
      apply eS_go
      case h =>
        simp (maxSteps := 5000000) (disch := (first | omega | (simp; done) | (simp; omega))) [l5, h5] <;> (first | exact ⟨rfl, rfl⟩ | fail "step")
      simp (maxSteps := 5000000) (disch := (first | omega | (simp; done) | (simp; omega))) [add_lst, e]
end PyE
set_option maxRecDepth 100000
namespace PyE
open PySem
theorem lkB_mem {s : Str} {L : List D} {one : D} (hm : one ∈ L) (h : ∀ n, chB n one = false) : lkB (.tup [.str s, .lst L]) = false := by
  unfold lkB
  split
  · rename_i heq
    simp at heq
    obtain ⟨rfl, rfl⟩ := heq
    rename_i r0 rs
    have : (D.lst r0 :: rs).all (chB r0.length) = false := by
      rw [List.all_eq_false]
      exact ⟨one, hm, by rw [h]; decide⟩
    rw [this, Bool.and_false]
  · rfl
theorem lkB_head {s : Str} {X L : List D} {one : D} (hm : one ∈ L) (h : chB X.length one = false) : lkB (.tup [.str s, .lst (.lst X :: L)]) = false := by
  have : (D.lst X :: L).all (chB X.length) = false := by
    rw [List.all_eq_false]
    exact ⟨one, List.mem_cons_of_mem _ hm, by rw [h]; decide⟩
  show (_ && (D.lst X :: L).all (chB X.length)) = false
  rw [this, Bool.and_false]
theorem lkB_long {s : Str} {X L : List D} (h : 6 ≤ L.length) : lkB (.tup [.str s, .lst (.lst X :: L)]) = false := by
  show (decide (s = Str.ofString "look") && decide ((L.length : Int) + 1 ≤ 6) && decide (1 ≤ (X.length : Int)) && decide ((X.length : Int) ≤ 8) && (D.lst X :: L).all (chB X.length)) = false
  rw [decide_eq_false (show ¬ ((L.length : Int) + 1 ≤ 6) by omega)]
  simp
theorem chB_am {n : Nat} {L : List D} {one : D} (hm : one ∈ L) (h : amB one = false) : chB n (.lst L) = false := by
  show (decide (L.length = n) && L.all amB && decide ((L.map ratOf).sum = 1)) = false
  have : L.all amB = false := by
    rw [List.all_eq_false]
    exact ⟨one, hm, by rw [h]; decide⟩
  rw [this]
  simp
theorem chB_sum {n : Nat} {L : List D} (h : (L.map ratOf).sum ≠ 1) : chB n (.lst L) = false := by
  show (decide (L.length = n) && L.all amB && decide ((L.map ratOf).sum = 1)) = false
  rw [decide_eq_false h, Bool.and_false]
theorem chB_len {n : Nat} {L : List D} (h : L.length ≠ n) : chB n (.lst L) = false := by
  show (decide (L.length = n) && L.all amB && decide ((L.map ratOf).sum = 1)) = false
  rw [decide_eq_false h]
  simp
theorem sum_rep1 : ∀ n : Nat, (List.replicate n (1 : Rat)).sum = n
  | 0 => rfl
  | n + 1 => by rw [List.replicate_succ, List.sum_cons, sum_rep1 n]; simp [Rat.natCast_add, Rat.add_comm]
theorem ratOf_map (r : List Rat) : (r.map fr).map ratOf = r := by
  rw [List.map_map, show (ratOf ∘ fr) = id from funext fun q => ratOf_fr q, List.map_id]
theorem ratOf_lit (a : Int) (b : Nat) : ratOf (.tup [.int a, .int (b : Int)]) = mkRat a b := rfl
/-- rows that are nobody's -/
theorem badRows_no {w : Nat} {r : List Rat} (hw : 1 ≤ w) (hr : r.length = w) (hs : r.sum = 1) (hq : ∀ q ∈ r, Bd 5 q ∧ 0 ≤ q) : ∀ d ∈ (badRows w (r.map fr)).drop 1, ∀ n, chB n d = false := by
  intro d hd n
  obtain ⟨q, r', rfl⟩ : ∃ q r', r = q :: r' := by
    cases r with
    | nil => simp at hr; omega
    | cons q r' => exact ⟨q, r', rfl⟩
  simp only [badRows, List.drop_succ_cons, List.drop_zero, List.mem_cons, List.not_mem_nil, or_false] at hd
  rcases hd with rfl | rfl | rfl | rfl | rfl | rfl | rfl | rfl
  · refine chB_sum ?_
    rw [List.map_cons, List.drop_succ_cons, List.drop_zero, List.map_append, ratOf_map, List.sum_append]
    show r'.sum + ([mkRat 1 97] : List Rat).sum ≠ 1
    rw [List.sum_cons] at hs
    intro z
    have e : q = mkRat 1 97 := by
      have : ([mkRat 1 97] : List Rat).sum = mkRat 1 97 := by rw [List.sum_cons, List.sum_nil, Rat.add_zero]
      rw [this] at z
      grind
    have b := (hq q (List.mem_cons_self ..)).1.2
    rw [e] at b
    exact absurd b (by decide +kernel)
  · rfl
  · rfl
  · exact chB_am (one := .int 1) (List.mem_replicate.mpr ⟨by omega, rfl⟩) rfl
  · exact chB_am (one := .tup [.int 2, .int 2]) (List.mem_replicate.mpr ⟨by omega, rfl⟩) (by decide +kernel)
  · refine chB_sum ?_
    rw [List.map_replicate, show ratOf (.tup [.int 1, .int 1]) = 1 from by decide +kernel, sum_rep1]
    intro z
    have : ((w + 1 : Nat) : Rat) = ((1 : Nat) : Rat) := z
    have := Rat.natCast_inj.mp this
    omega
  · by_cases h1 : 1 < w
    · rw [if_pos h1]
      exact chB_am (one := .tup [.int (-1), .int 1]) (List.mem_cons_self ..) (by decide +kernel)
    · rw [if_neg h1]
      exact chB_sum (by decide +kernel)
  · exact chB_am (one := .none) (List.mem_append_right _ (List.mem_singleton.mpr rfl)) rfl
theorem badLooks_no {w : Nat} {l : List (List Rat)} {r0 : List Rat} {l' : List (List Rat)} (hl : l = r0 :: l') (L : LookOk 5 w l) : ∀ d ∈ badLooks w (r0.map fr) (l.map row), lkB d = false := by
  intro d hd
  have h0 := L.row r0 (by rw [hl]; exact List.mem_cons_self ..)
  have no := badRows_no L.wid.1 h0.1 h0.2.2 h0.2.1
  have hX : (r0.map fr).length = w := by rw [List.length_map, h0.1]
  have hR : l.map row = .lst (r0.map fr) :: l'.map row := by rw [hl]; rfl
  have ch0 : chB (r0.map fr).length (.lst (r0.map fr ++ [.tup [.int 0, .int 1]])) = false := chB_len (by simp)
  unfold badLooks at hd
  rw [List.mem_append, List.mem_append, List.mem_append, List.mem_append] at hd
  rcases hd with (hd | hd) | ((hd | hd) | hd)
  · simp only [List.mem_cons, List.not_mem_nil, or_false] at hd
    rcases hd with rfl | rfl | rfl | rfl | rfl | rfl | rfl | rfl
    · rfl
    · rfl
    · rfl
    · unfold lkB
      split
      · rename_i s r0 rs heq
        simp at heq
        have : decide (s = Str.ofString "look") = false := by rw [← heq.1]; decide +kernel
        rw [this]; simp
      · rfl
    · rfl
    · simp [lkB]
    · rfl
    · rfl
  · simp only [List.mem_cons, List.not_mem_nil, or_false] at hd
    rcases hd with rfl | rfl | rfl
    · have : (l.map row).length = l'.length + 1 := by rw [hR]; simp
      rw [this, List.replicate_succ]
      show (_ && _ && decide (1 ≤ ((([] : List D).length : Nat) : Int)) && _ && _) = false
      simp
    · have e : (List.replicate 7 (l.map row)).flatten = .lst (r0.map fr) :: (l'.map row ++ (List.replicate 6 (l.map row)).flatten) := by
        rw [List.replicate_succ, List.flatten_cons, hR]; simp
      rw [e]
      refine lkB_long ?_
      rw [List.length_append]
      have : (List.replicate 6 (l.map row)).flatten.length = 6 * (l.map row).length := by simp; omega
      have l1 := L.len.1
      rw [List.length_map] at this
      omega
    · show (_ && _ && _ && decide ((((List.replicate 9 (r0.map fr)).flatten.length : Nat) : Int) ≤ 8) && _) = false
      have : (List.replicate 9 (r0.map fr)).flatten.length = 9 * w := by simp [h0.1]; omega
      have l1 := L.wid.1
      rw [this, decide_eq_false (show ¬ (((9 * w : Nat) : Int) ≤ 8) by omega)]
      simp
  · obtain ⟨one, ho, rfl⟩ := List.mem_map.mp hd
    exact lkB_mem (List.mem_append_right _ (List.mem_singleton.mpr rfl)) (no one ho)
  · rw [List.mem_singleton] at hd
    subst hd
    rw [hR]
    exact lkB_head (List.mem_append_right _ (List.mem_singleton.mpr rfl)) ch0
  · split at hd
    · obtain ⟨one, ho, rfl⟩ := List.mem_map.mp hd
      have ho' : one = .lst (r0.map fr ++ [.tup [.int 0, .int 1]]) ∨ one ∈ (badRows w (r0.map fr)).drop 1 := by
        unfold badRows at ho ⊢
        exact List.mem_cons.mp ho
      rcases ho' with rfl | ho'
      · exact lkB_head (List.mem_cons_self ..) ch0
      · exact lkB_mem (List.mem_cons_of_mem _ (List.mem_cons_self ..)) (no one ho')
    · simp at hd
end PyE
set_option maxRecDepth 100000
namespace PyE
open PySem
theorem V.tI {F : Fl} {n : Nat} {a b : Int} (ha : a.natAbs < 1000 := by decide) (hb : b.natAbs < 1000 := by decide) (hF : 40 ≤ F.b := by decide) : V F (n + 1) 1207 (.tup [.int a, .int b]) :=
  V.tup (A := 1204) (VL.cons (A := 600) (B := 602) (V.int' (by omega) hF) (VL.cons (A := 600) (B := 0) (V.int' (by omega) hF) VL.nil))
theorem badRows_V {w : Nat} {r : List Rat} (hw : w ≤ 8) (hr : r.length = w) (hq : ∀ q ∈ r, Bd 5 q) : ∀ d ∈ badRows w (r.map fr), V F4 3 20000 d := by
  intro d hd
  have X : VL F4 1 9672 (r.map fr) := (VL.map (A := 1207) fun q hq' => V.fr ((hq q hq').mono (by decide))).mono (Nat.le_refl _) (by have := Nat.mul_le_mul_right 1209 (show r.length ≤ 8 by omega); omega)
  unfold badRows at hd
  simp only [List.mem_cons, List.not_mem_nil, or_false] at hd
  rcases hd with rfl | rfl | rfl | rfl | rfl | rfl | rfl | rfl | rfl
  · exact (V.lst (X.append (VL.one V.tI))).mono (by decide) (by decide)
  · exact (V.lst (X.drop1.append (VL.one V.tI))).mono (by decide) (by decide)
  · exact (V.tup X).mono (by decide) (by decide)
  · exact V.none.mono (Nat.le_refl _) (by decide)
  · exact (V.lst (VL.rep1 (n := 1) (V.int' (i := 1) (by decide)) w)).mono (by decide) (by omega)
  · exact (V.lst (VL.rep1 (n := 1) (V.tI (a := 2) (b := 2)) w)).mono (by decide) (by omega)
  · exact (V.lst (VL.rep1 (n := 1) (V.tI (a := 1) (b := 1)) (w + 1))).mono (by decide) (by omega)
  · split
    · exact (V.lst (VL.cons (V.tI (n := 0)) (VL.cons V.tI (VL.rep1 (V.tI (a := 0) (b := 1)) (w - 2))))).mono (by decide) (by omega)
    · exact (V.lst (VL.one (V.tI (n := 0)))).mono (by decide) (by decide)
  · exact (V.lst (X.dropLast.append (VL.one V.none))).mono (by decide) (by decide)
theorem kS_V {F : Fl} {n : Nat} : V F n 6 kS := V.str (by decide +kernel) (by decide +kernel)
theorem badLooks_V {w : Nat} {l : List (List Rat)} {r0 : List Rat} {l' : List (List Rat)} (hl : l = r0 :: l') (L : LookOk 5 w l) : ∀ d ∈ badLooks w (r0.map fr) (l.map row), V F4 6 1000000 d := by
  intro d hd
  have h0 := L.row r0 (by rw [hl]; exact List.mem_cons_self ..)
  have lw := L.wid.2
  have ll := L.len.2
  have X : VL F4 1 9672 (r0.map fr) := (VL.map (A := 1207) fun q hq' => V.fr ((h0.2.1 q hq').1.mono (by decide))).mono (Nat.le_refl _) (by have := Nat.mul_le_mul_right 1209 (show r0.length ≤ 8 by omega); omega)
  have R : VL F4 3 58070 (l.map row) := (VL.map (A := 9675) fun r hr => (V.row (n := 1) (l := r) fun q hq' => ((L.row r hr).2.1 q hq').1.mono (by decide)).mono (Nat.le_refl _) (by have := Nat.mul_le_mul_right 1209 (show r.length ≤ 8 by have := (L.row r hr).1; omega); omega)).mono (Nat.le_refl _) (by have := Nat.mul_le_mul_right 9677 ll; omega)
  have BR := badRows_V lw h0.1 fun q hq => (h0.2.1 q hq).1
  have lk : ∀ {xs : List D} {A : Nat}, VL F4 3 A xs → A ≤ 900000 → V F4 6 1000000 (.tup [kS, .lst xs]) := fun h hA => (V.tup (VL.cons kS_V (VL.one (V.lst h)))).mono (by decide) (by omega)
  unfold badLooks at hd
  rw [List.mem_append, List.mem_append, List.mem_append, List.mem_append] at hd
  rcases hd with (hd | hd) | ((hd | hd) | hd)
  · simp only [List.mem_cons, List.not_mem_nil, or_false] at hd
    rcases hd with rfl | rfl | rfl | rfl | rfl | rfl | rfl | rfl
    · exact V.none.mono (Nat.le_refl _) (by decide)
    · exact (V.tup (n := 0) (VL.nil (B := 0))).mono (by decide) (by decide)
    · exact (V.lst (VL.cons kS_V (VL.one (V.lst R)))).mono (by decide) (by decide)
    · exact (V.tup (VL.cons (A := 6) (V.str (by decide +kernel) (by decide +kernel)) (VL.one (V.lst R)))).mono (by decide) (by decide)
    · exact (V.tup (n := 0) (VL.one kS_V)).mono (by decide) (by decide)
    · exact (V.tup (VL.cons kS_V (VL.cons (V.lst R) (VL.one (V.lst R))))).mono (by decide) (by decide)
    · exact lk (VL.nil (B := 0)) (by decide)
    · exact (V.tup (VL.cons kS_V (VL.one (V.tup R)))).mono (by decide) (by decide)
  · simp only [List.mem_cons, List.not_mem_nil, or_false] at hd
    rcases hd with rfl | rfl | rfl
    · exact lk (VL.rep1 (n := 3) (V.lst (n := 2) (VL.nil (B := 0))) _) (by rw [List.length_map]; omega)
    · exact lk (VL.rep R 7) (by decide)
    · exact lk ((VL.one (V.lst (VL.rep X 9))).mono (by decide) (Nat.le_refl _)) (by decide)
  · obtain ⟨one, ho, rfl⟩ := List.mem_map.mp hd
    exact lk (R.dropLast.append (VL.one (BR one (List.mem_of_mem_drop ho)))) (by decide)
  · rw [List.mem_singleton] at hd
    subst hd
    exact lk (R.append (VL.one (BR (.lst (r0.map fr ++ [.tup [.int 0, .int 1]])) (List.mem_cons_self ..)))) (by decide)
  · split at hd
    · obtain ⟨one, ho, rfl⟩ := List.mem_map.mp hd
      exact lk (VL.cons ((V.lst X).mono (by decide) (Nat.le_refl _)) (VL.cons (BR one ho) R)) (by decide)
    · simp at hd
structure BadLook (d : D) : Prop where
  v : V F4 6 1000000 d
  no : lkB d = false
theorem bad_look_ok (k : Nat) {μ : Mu} {n N w : Nat} {l : List (List Rat)} (L : LookOk 5 w l) (hN : N < 1000000000) (G : Gn n N μ) :
    ∃ (d : D) (μ' : Mu), BadLook d ∧ Up n μ μ' ∧ Gn n (N + 1) μ' ∧ run C tbl (k + 4) f__law_bad_look [.ref n, lookD l] μ = .ok d μ' := by
  obtain ⟨r0, l', hl, hw⟩ := L.head
  have ll := L.len.2
  obtain ⟨d, μ', hd, u, G', e⟩ := bad_look_run k (n := n) (N := N) (w := w) (X := r0.map fr) (R := l.map row) (l' := l'.map row) L.wid (by rw [List.length_map, hw]) (by rw [hl]; rfl) (by rw [List.length_map]; omega) hN G
  exact ⟨d, μ', ⟨badLooks_V hl L d hd, badLooks_no hl L d hd⟩, u, G', e⟩
end PyE
set_option maxRecDepth 100000
/-! tables -/
namespace PyE
open PySem
/-- n bits, m rows of w chances each -/
structure TabOk (n m w : Nat) (T : List (List Rat)) : Prop where
  len : T.length = m
  wid : 1 ≤ w ∧ w ≤ 8
  pos : 1 ≤ m ∧ m ≤ 8
  row : ∀ r ∈ T, r.length = w ∧ (∀ q ∈ r, Bd n q ∧ 0 ≤ q) ∧ r.sum = 1
theorem TabOk.head {n m w : Nat} {l : List (List Rat)} (h : TabOk n m w l) : ∃ r0 l', l = r0 :: l' ∧ r0.length = w := by
  cases l with
  | nil => have := h.len; have := h.pos; simp at *; omega
  | cons r0 l' => exact ⟨r0, l', rfl, (h.row r0 (List.mem_cons_self ..)).1⟩
theorem table_ok (k : Nat) {μ : Mu} {n N m w : Nat} (hm : 1 ≤ m ∧ m ≤ 8) (hw : 1 ≤ w ∧ w ≤ 8) (hN : N + 1000 < 1000000000) (G : Gn n N μ) :
    ∃ (T : List (List Rat)) (μ' : Mu), TabOk 5 m w T ∧ Up n μ μ' ∧ Gn n (N + 64) μ' ∧ run C tbl (k + 5) f__law_table [.ref n, .int (m : Int), .int (w : Int)] μ = .ok (rows T) μ' := by
  obtain ⟨ds, μ', hl, hp, u, G', e⟩ := cm_gen (n := n) (dN := w) (B := 999999990) (f := fun m : Nat => D.int (m : Int)) (P := fun d => ∃ l : List Rat, d = row l ∧ BelOk 5 w l) (t := .nm 3) (cl := run C tbl (k + 4))
    (e := .call f__law_chances [0, 1] (.cons (.v 0) (.cons (.v 2) .nil)))
    (ρ := [some (.ref n), some (.int (m : Int)), some (.int (w : Int)), none]) (l0 := List.range m) (fun N μ G hN x hx => by
      obtain ⟨l, μ', hl, u, G', e⟩ := chances_ok k hw (by omega) G
      exact ⟨row l, μ', ⟨l, rfl, hl⟩, u, G', by simp [wipe, Tg.slots, e]⟩) (List.range m) (fun _ h => h) N μ G (by
        rw [List.length_range]
        have := Nat.mul_le_mul hw.2 hm.2
        omega)
  rw [List.length_range] at hl G'
  obtain ⟨ls, rfl, hc⟩ := exists_map hp
  rw [List.length_map] at hl
  refine ⟨ls, μ', ⟨hl, hw, hm, fun r hr => ⟨(hc r hr).len, fun q hq => ⟨(hc r hr).bd q hq, (hc r hr).nn q hq⟩, (hc r hr).sum⟩⟩, u, G'.mono (by have := Nat.mul_le_mul hw.2 hm.2; omega), ?_⟩
  rw [run__law_table]
  simp [call1, df__law_table, b__law_table, srcR1_nat m (by omega), rangeD0, e, leave_up u]
  rfl
/-- chances through a table -/
def thr (r : List Rat) (T : List (List Rat)) (w : Nat) : List Rat := (List.range w).map fun j => dot r (col T j)
def thrs (l : List (List Rat)) (T : List (List Rat)) (w : Nat) : List (List Rat) := l.map fun r => thr r T w
theorem getD_cm {μ : Mu} {r : List Rat} {j : Nat} (h : j < r.length) : opR C .idx [row r, .int (j : Int)] μ = .ok (fr (r.getD j 0)) μ := idx_row r (by rw [List.getD_eq_getElem?_getD, List.getElem?_eq_getElem h]; rfl)
theorem TabOk.bd {n m w : Nat} {T : List (List Rat)} (h : TabOk n m w T) : ∀ r ∈ T, ∀ q ∈ r, Bd n q := fun r hr q hq => ((h.row r hr).2.1 q hq).1
theorem through_ok (k : Nat) (μ : Mu) {n n' m w : Nat} {T : List (List Rat)} {r : List Rat} (h : TabOk n m w T) (hr : r.length = m) (hq : ∀ q ∈ r, Bd n' q) (hn : n' + n ≤ 400) (hn1 : 1 ≤ n) :
    run C tbl (k + 6) f_through [row r, rows T] μ = .ok (row (thr r T w)) μ := by
  obtain ⟨r0, T', hT, hw⟩ := h.head
  have i0 : ∀ {μ : Mu}, opR C .idx [rows T, .int 0] μ = .ok (row r0) μ := fun {μ} => by rw [hT]; exact idx0_rows
  have ci : ∀ j, j < w → ∀ μ, cm C (run C tbl (k + 5)) (.nm 3) .nil (.op .idx (.cons (.v 3) (.cons (.v 2) .nil))) [some (row r), some (rows T), some (.int (j : Int)), none] (fun _ => true) (T.map row) μ = .ok (T.map fun c => fr (c.getD j 0)) μ := fun j hj μ => by
    refine cm_map rfl fun c hc => ?_
    have e := getD_cm (μ := μ) (r := c) (j := j) (by rw [(h.row c hc).1]; exact hj)
    simp [wipe, Tg.slots, e]
  have co : cm C (run C tbl (k + 5)) (.nm 2) .nil (.call f_product [0, 1] (.cons (.v 0) (.cons (.comp (.nm 3) (.iseq (.v 1)) .nil (.op .idx (.cons (.v 3) (.cons (.v 2) .nil)))) .nil))) [some (row r), some (rows T), none, none] (fun _ => true) ((List.range w).map fun j : Nat => .int (j : Int)) μ = .ok ((List.range w).map fun j => fr (dot r (col T j))) μ := by
    refine cm_map rfl fun j hj => ?_
    have hj' := List.mem_range.mp hj
    have e := product_ok k μ (l := r) (m := col T j) (n := n') (n' := n) (by rw [length_col, h.len, hr]) hq (Bd_col h.bd hn1) (by rw [hr]; exact bnd (c := 400) (d := 8) (by omega) h.pos.2)
    have e' : run C tbl (k + 5) f_product [row r, .lst (T.map fun c => fr (c.getD j 0))] μ = .ok (fr (dot r (col T j))) μ := by
      rw [show D.lst (T.map fun c => fr (c.getD j 0)) = row (col T j) by rw [row, col, List.map_map]; rfl, e]
    simp only [List.getD_eq_getElem?_getD] at e' ci
    simp [wipe, Tg.slots, ci j hj', e']
  rw [run_through]
  simp [call1, df_through, b_through, i0, hw, srcR1_nat w (by have := h.wid; omega), rangeD0, co]
  rw [row, thr, List.map_map]; rfl
theorem blurred_by_ok (k : Nat) (μ : Mu) {n n' m w : Nat} {T l : List (List Rat)} (h : TabOk n m w T) (L : LookOk n' m l) (hn : n' + n ≤ 400) (hn1 : 1 ≤ n) :
    run C tbl (k + 7) f_blurred_by [lookD l, rows T] μ = .ok (lookD (thrs l T w)) μ := by
  have c : cm C (run C tbl (k + 6)) (.nm 2) .nil (.call f_through [0, 1] (.cons (.v 2) (.cons (.v 1) .nil))) [some (lookD l), some (rows T), none] (fun _ => true) (l.map row) μ = .ok (l.map fun r => row (thr r T w)) μ := by
    refine cm_map rfl fun r hr => ?_
    have e := through_ok k μ (r := r) h (L.row r hr).1 (fun q hq => ((L.row r hr).2.1 q hq).1) hn hn1
    simp [wipe, Tg.slots, e]
  rw [run_blurred_by]
  simp [call1, df_blurred_by, b_blurred_by, c]
  rw [lookD, rows, thrs, List.map_map]; rfl
/-! of any value -/
def tbB (m w : Nat) : D → Bool
  | .lst rs => decide (rs.length = m) && rs.all (chB w)
  | _ => false
theorem is_table_by_any (k : Nat) (μ : Mu) {d : D} {m w : Nat} (h : sm d = true) (hw : w ≤ 8) : run C tbl (k + 6) f_is_table_by [d, .int (m : Int), .int (w : Int)] μ = .ok (.bl (tbB m w d)) μ := by
  rw [run_is_table_by]
  cases d with
  | lst rs =>
    have c := cm_map (C := C) (cl := run C tbl (k + 5)) (μ := μ) (ρ := [some (.lst rs), some (.int (m : Int)), some (.int (w : Int)), none]) (t := .nm 3) (e := .call f_are_chances [0, 1] (.cons (.v 3) (.cons (.v 2) .nil))) (ok := fun _ => true) (f := fun x : D => x) (g := fun x => .bl (chB w x)) rfl (l := rs) (fun x hx => by
      have := are_chances_any k μ (n := w) (smL_mem h x hx) hw
      simp [wipe, Tg.slots, this])
    rw [List.map_id'] at c
    have al := fun μ => opR_all_id (C := C) (μ := μ) (chB w) rs
    by_cases hl : rs.length = m
    · have hl' : (rs.length : Int) = (m : Int) := by omega
      simp [call1, df_is_table_by, b_is_table_by, tbB, c, al, hl]
    · have hl' : ¬ (rs.length : Int) = (m : Int) := by omega
      simp [call1, df_is_table_by, b_is_table_by, tbB, hl, hl']
  | _ => first | exact absurd h Bool.false_ne_true | (simp [call1, df_is_table_by, b_is_table_by, tbB]; done)
def anyB (most : Nat) : D → Bool
  | .lst (.lst r0 :: rs) => decide (1 ≤ r0.length) && decide (r0.length ≤ most) && (D.lst r0 :: rs).all (chB r0.length)
  | _ => false
theorem eq_nil {μ : Mu} {xs : List D} (h : okd 60 (.lst xs) = true) : opR C .eq [.lst xs, .lst []] μ = .ok (.bl xs.isEmpty) μ := by
  rw [opR_eq h (by simp), eqd_lst]
  cases xs <;> rfl
theorem is_any_table_any (k : Nat) (μ : Mu) {d : D} {most : Nat} (h : sm d = true) (ho : okd 60 d = true ∨ d = .dct) (hm : most ≤ 8) : run C tbl (k + 7) f_is_any_table [d, .int (most : Int)] μ = .ok (.bl (anyB most d)) μ := by
  rw [run_is_any_table]
  cases d with
  | lst rs =>
    have ho' : okd 60 (.lst rs) = true := by
      rcases ho with h | h
      · exact h
      · cases h
    have en := fun μ => eq_nil (μ := μ) ho'
    cases rs with
    | nil => simp [call1, df_is_any_table, b_is_any_table, anyB, en]
    | cons r0 rs =>
      cases r0 with
      | lst r0 =>
        by_cases c1 : 1 ≤ r0.length
        · by_cases c2 : r0.length ≤ most
          · have e := is_table_by_any k μ (m := (D.lst r0 :: rs).length) (w := r0.length) h (by omega)
            have c1' : (1 : Int) ≤ (r0.length : Int) := by omega
            have c2' : (r0.length : Int) ≤ (most : Int) := by omega
            simp at e
            simp [call1, df_is_any_table, b_is_any_table, anyB, en, c1, c2, c1', c2', e, tbB]
          · have c2' : ¬ (r0.length : Int) ≤ (most : Int) := by omega
            simp [call1, df_is_any_table, b_is_any_table, anyB, en, c1, c2, c2']
        · have c1' : ¬ (1 : Int) ≤ (r0.length : Int) := by omega
          simp [call1, df_is_any_table, b_is_any_table, anyB, en, c1, c1']
      | _ => first
        | exact absurd (smL_mem h _ (List.mem_cons_self ..)) Bool.false_ne_true
        | (simp [call1, df_is_any_table, b_is_any_table, anyB, en]; done)
  | _ => first | exact absurd h Bool.false_ne_true | (simp [call1, df_is_any_table, b_is_any_table, anyB]; done)
end PyE
set_option maxRecDepth 100000
namespace PyE
open PySem
theorem rd_items {μ : Mu} {xs ys : List D} {y : D} (h : y = .lst ys ∨ ∃ r, y = .ref r ∧ μ[r]? = some ys) : items μ y = some ys := by
  rcases h with rfl | ⟨r, rfl, h⟩
  · rfl
  · exact h
/-- exact, of what reads so -/
theorem exact_rd : ∀ (n : Nat) (k : Nat) (μ : Mu) (x y : D), okx n x = true → Rd μ x y → run C tbl (k + n + 1) f__law_exact [x, y] μ = .ok (.bl true) μ := by
  have seq : ∀ (n k : Nat) (μ : Mu) (xs ys : List D) (x y : D), items μ x = some xs → items μ y = some ys → xs.length ≤ 1000 → RdL μ xs ys → (∀ d e, d ∈ xs → Rd μ d e → run C tbl (k + n + 1) f__law_exact [d, e] μ = .ok (.bl true) μ) →
      cm C (run C tbl (k + n + 1)) (.nm 2) (.cons (.not_ (.call f__law_exact [0, 1] (.cons (.op .idx (.cons (.v 0) (.cons (.v 2) .nil))) (.cons (.op .idx (.cons (.v 1) (.cons (.v 2) .nil))) .nil)))) .nil) (.v 2) [some x, some y, none] (fun _ => true) ((List.range xs.length).map fun k : Nat => D.int (k : Int)) μ = .ok [] μ := by
    intro n k μ xs ys x y hx hy hl hr h
    have := cm_filter (C := C) (cl := run C tbl (k + n + 1)) (ρ := [some x, some y, none]) (μ := μ) (t := .nm 2) (c := .cons (.not_ (.call f__law_exact [0, 1] (.cons (.op .idx (.cons (.v 0) (.cons (.v 2) .nil))) (.cons (.op .idx (.cons (.v 1) (.cons (.v 2) .nil))) .nil)))) .nil) (e := .v 2)
      (ok := fun _ => true) (f := fun k : Nat => D.int (k : Int)) (g := fun k : Nat => D.int (k : Int)) (p := fun _ => false) rfl (l := List.range xs.length) (fun m hm => by
        have hm' := List.mem_range.mp hm
        obtain ⟨b, hb, rb⟩ := hr.get (List.getElem?_eq_getElem hm')
        have i := opR_idx_of (C := C) hx (List.getElem?_eq_getElem hm')
        have i2 := opR_idx_of (C := C) hy hb
        refine ⟨[some x, some y, some (.int (m : Int))], rfl, ?_, fun z => by cases z⟩
        simp [i, i2, h _ _ (List.getElem_mem hm') rb])
    rw [this]
    simp
  intro n
  induction n with
  | zero =>
    intro k μ x y h hr
    rw [Nat.add_zero, run__law_exact]
    cases x with
    | tup xs => cases h
    | lst xs => cases h
    | str s => subst hr; simp [call1, df__law_exact, b__law_exact, opR_eq_str (show PyData.canLay0 (.str s) = true from h)]
    | int i => subst hr; simp [call1, df__law_exact, b__law_exact]
    | bl b => subst hr; cases b <;> simp [call1, df__law_exact, b__law_exact]
    | none => subst hr; simp [call1, df__law_exact, b__law_exact]
    | _ => cases h
  | succ n ih =>
    intro k μ x y h hr
    rw [show k + (n + 1) + 1 = (k + n + 1) + 1 by omega, run__law_exact]
    cases x with
    | tup xs =>
      rw [okx_tup, Bool.and_eq_true, decide_eq_true_iff] at h
      obtain ⟨ys, rfl, hr⟩ := hr
      have hl := hr.length
      have s := seq n k μ xs ys (.tup xs) (.tup ys) rfl rfl h.1 hr fun d e hd hr => ih k μ d e (okxL_mem h.2 d hd) hr
      simp [call1, df__law_exact, b__law_exact, srcR1_nat xs.length (by omega), rangeD0, s, hl]
    | lst xs =>
      rw [okx_lst, Bool.and_eq_true, decide_eq_true_iff] at h
      obtain ⟨ys, hy, hr⟩ := hr
      have hl := hr.length
      have s := seq n k μ xs ys (.lst xs) y rfl (rd_items (xs := xs) hy) h.1 hr fun d e hd hr => ih k μ d e (okxL_mem h.2 d hd) hr
      rcases hy with rfl | ⟨r, rfl, hy⟩
      · simp [call1, df__law_exact, b__law_exact, srcR1_nat xs.length (by omega), rangeD0, s, hl]
      · simp [call1, df__law_exact, b__law_exact, srcR1_nat xs.length (by omega), rangeD0, s, hl, opR_len_ref hy]
    | str s => subst hr; simp [call1, df__law_exact, b__law_exact, opR_eq_str (show PyData.canLay0 (.str s) = true from h)]
    | int i => subst hr; simp [call1, df__law_exact, b__law_exact]
    | bl b => subst hr; cases b <;> simp [call1, df__law_exact, b__law_exact]
    | none => subst hr; simp [call1, df__law_exact, b__law_exact]
    | _ => cases h
end PyE
set_option maxRecDepth 100000
namespace PyE
open PySem
/-! what is a table, a look -/
theorem chB_row (n : Nat) (r : List Rat) : chB n (row r) = (decide (r.length = n) && r.all (fun q => decide (0 ≤ q)) && decide (r.sum = 1)) := by
  show (decide ((r.map fr).length = n) && (r.map fr).all amB && decide (((r.map fr).map ratOf).sum = 1)) = _
  rw [List.length_map, List.all_map, ratOf_map]
  congr 2
  exact congrArg r.all (funext fun q => amB_fr q)
theorem chB_good {n w : Nat} {r : List Rat} (h : r.length = w ∧ (∀ q ∈ r, Bd n q ∧ 0 ≤ q) ∧ r.sum = 1) : chB w (row r) = true := by
  rw [chB_row, decide_eq_true h.1, decide_eq_true h.2.2, List.all_eq_true.mpr fun q hq => decide_eq_true (h.2.1 q hq).2]; rfl
/-- m rows, or more, of w chances -/
structure RowsOk (n w : Nat) (T : List (List Rat)) : Prop where
  ne : T ≠ []
  wid : 1 ≤ w ∧ w ≤ 8
  row : ∀ r ∈ T, r.length = w ∧ (∀ q ∈ r, Bd n q ∧ 0 ≤ q) ∧ r.sum = 1
theorem TabOk.rowsOk {n m w : Nat} {T : List (List Rat)} (h : TabOk n m w T) : RowsOk n w T := ⟨fun z => by have a := h.len; have b := h.pos; rw [z] at a; simp at a; omega, h.wid, h.row⟩
theorem anyB_good {n w : Nat} {T : List (List Rat)} (h : RowsOk n w T) : anyB 8 (rows T) = true := by
  cases T with
  | nil => exact absurd rfl h.ne
  | cons r0 T' =>
    have h0 := (h.row r0 (List.mem_cons_self ..)).1
    show (decide (1 ≤ (r0.map fr).length) && decide ((r0.map fr).length ≤ 8) && ((r0 :: T').map row).all (chB (r0.map fr).length)) = true
    rw [List.length_map, h0, decide_eq_true h.wid.1, decide_eq_true h.wid.2, List.all_map, show ((r0 :: T').all (chB w ∘ PyE.row)) = true from List.all_eq_true.mpr fun r hr => chB_good (h.row r hr)]; rfl
theorem RowsOk.V {F : Fl} {n w m : Nat} {T : List (List Rat)} (h : RowsOk n w T) (hn : n ≤ F.b) (hm : T.length ≤ m) (k : Nat) : PyE.V F (k + 3) (m * 9677 + 3) (rows T) :=
  (V.rows (n := k) (m := 8) fun r hr => ⟨by rw [(h.row r hr).1]; exact h.wid.2, fun q hq => ((h.row r hr).2.1 q hq).1.mono hn⟩).mono (Nat.le_refl _) (by have := Nat.mul_le_mul_right 9677 hm; omega)
theorem LookOk.V {F : Fl} {n w : Nat} {T : List (List Rat)} (h : LookOk n w T) (hn : n ≤ F.b) (k : Nat) : PyE.V F (k + 4) 60000 (lookD T) :=
  (V.look (n := k) (m := 8) fun r hr => ⟨by rw [(h.row r hr).1]; exact h.wid.2, fun q hq => ((h.row r hr).2.1 q hq).1.mono hn⟩).mono (Nat.le_refl _) (by have := Nat.mul_le_mul_right 9677 h.len.2; omega)
theorem marks_of' (k : Nat) (μ : Mu) {l : List (List Rat)} {n w : Nat} (h : LookOk n w l) : run C tbl (k + 1) f_marks_of [lookD l] μ = .ok (.int (w : Int)) μ := marks_of_ok k μ h
/-- a table that goes with a look -/
def tabB (w : Nat) (d : D) : Bool := anyB 8 d && (match d with | .lst xs => decide (xs.length = w) | _ => false)
theorem anyB_lst {d : D} {m : Nat} (h : anyB m d = true) : ∃ xs, d = .lst xs := by
  cases d <;> first | exact ⟨_, rfl⟩ | cases h
theorem check_table_any (k : Nat) (μ : Mu) {l : List (List Rat)} {n w : Nat} {d : D} (L : LookOk n w l) (h : sm d = true) (ho : okd 60 d = true ∨ d = .dct) :
    run C tbl (k + 8) f_check_table [lookD l, d] μ = if tabB w d = true then .ok .none μ else .exc c_InvalidTable d μ := by
  have e := is_any_table_any k μ (most := 8) h ho (by decide)
  have e2 := marks_of_ok (k + 6) μ L
  rw [run_check_table]
  cases ha : anyB 8 d with
  | false =>
    rw [ha] at e
    have : tabB w d = false := by unfold tabB; rw [ha]; rfl
    rw [this]
    simp [call1, df_check_table, b_check_table] at e ⊢
    simp [e]
  | true =>
    obtain ⟨xs, rfl⟩ := anyB_lst ha
    rw [ha] at e
    by_cases hl : xs.length = w
    · have : tabB w (.lst xs) = true := by unfold tabB; rw [ha]; exact decide_eq_true hl
      rw [this]
      have hl' : (xs.length : Int) = (w : Int) := by omega
      simp [call1, df_check_table, b_check_table] at e ⊢
      simp [e, e2, hl]
    · have : tabB w (.lst xs) = false := by unfold tabB; rw [ha]; exact decide_eq_false hl
      rw [this]
      have hl' : ¬ (xs.length : Int) = (w : Int) := by omega
      simp [call1, df_check_table, b_check_table] at e ⊢
      simp [e, e2, hl']
def tab8B (d : D) : Bool := anyB 8 d && (match d with | .lst xs => decide (xs.length ≤ 8) | _ => false)
theorem check_any_table_any (k : Nat) (μ : Mu) {d : D} (h : sm d = true) (ho : okd 60 d = true ∨ d = .dct) :
    run C tbl (k + 8) f_check_any_table [d] μ = if tab8B d = true then .ok .none μ else .exc c_InvalidTable d μ := by
  have e := is_any_table_any k μ (most := 8) h ho (by decide)
  rw [run_check_any_table]
  cases ha : anyB 8 d with
  | false =>
    rw [ha] at e
    have : tab8B d = false := by unfold tab8B; rw [ha]; rfl
    rw [this]
    simp [call1, df_check_any_table, b_check_any_table] at e ⊢
    simp [e]
  | true =>
    obtain ⟨xs, rfl⟩ := anyB_lst ha
    rw [ha] at e
    by_cases hl : xs.length ≤ 8
    · have : tab8B (.lst xs) = true := by unfold tab8B; rw [ha]; exact decide_eq_true hl
      rw [this]
      have hl' : ¬ (8 : Int) < (xs.length : Int) := by omega
      simp [call1, df_check_any_table, b_check_any_table] at e ⊢
      simp [e, hl']
    · have : tab8B (.lst xs) = false := by unfold tab8B; rw [ha]; exact decide_eq_false hl
      rw [this]
      have hl' : (8 : Int) < (xs.length : Int) := by omega
      simp [call1, df_check_any_table, b_check_any_table] at e ⊢
      simp [e, hl']
theorem TabOk.sm {n m w : Nat} {T : List (List Rat)} (h : TabOk n m w T) (hn : n ≤ 400) : PyE.sm (rows T) = true := (h.rowsOk.V (F := F4) hn (Nat.le_of_eq h.len) 0).sm
theorem TabOk.okd {n m w : Nat} {T : List (List Rat)} (h : TabOk n m w T) : PyE.okd 60 (rows T) = true := okd_rows 57 T
theorem TabOk.tab {n m w : Nat} {T : List (List Rat)} (h : TabOk n m w T) : tabB m (rows T) = true := by
  unfold tabB
  rw [anyB_good h.rowsOk]
  show decide ((T.map PyE.row).length = m) = true
  rw [List.length_map, decide_eq_true h.len]
theorem TabOk.tab8 {n m w : Nat} {T : List (List Rat)} (h : TabOk n m w T) : tab8B (rows T) = true := by
  unfold tab8B
  rw [anyB_good h.rowsOk]
  show decide ((T.map PyE.row).length ≤ 8) = true
  rw [List.length_map, h.len, decide_eq_true h.pos.2]
theorem check_table_ok (k : Nat) (μ : Mu) {l T : List (List Rat)} {n n' m w : Nat} (L : LookOk n m l) (h : TabOk n' m w T) (hn : n' ≤ 400) : run C tbl (k + 8) f_check_table [lookD l, rows T] μ = .ok .none μ := by
  rw [check_table_any k μ L (h.sm hn) (.inl h.okd), if_pos h.tab]
theorem check_any_table_ok (k : Nat) (μ : Mu) {T : List (List Rat)} {n' m w : Nat} (h : TabOk n' m w T) (hn : n' ≤ 400) : run C tbl (k + 8) f_check_any_table [rows T] μ = .ok .none μ := by
  rw [check_any_table_any k μ (h.sm hn) (.inl h.okd), if_pos h.tab8]
theorem blurred_ok (k : Nat) (μ : Mu) {n n' m w : Nat} {T l : List (List Rat)} (h : TabOk n m w T) (L : LookOk n' m l) (hn : n' + n ≤ 400) (hn1 : 1 ≤ n) : run C tbl (k + 9) f_blurred [lookD l, rows T] μ = .ok (lookD (thrs l T w)) μ := by
  rw [run_blurred]
  simp [call1, df_blurred, b_blurred, check_look_ok (k + 1) μ L (by omega), check_table_ok k μ L h (by omega), blurred_by_ok (k + 1) μ h L hn hn1]
theorem tables_behind_ok (k : Nat) (μ : Mu) {n n' m w v : Nat} {T U : List (List Rat)} (h : TabOk n m w T) (h' : TabOk n' w v U) (hn : n + n' ≤ 400) (hn1 : 1 ≤ n') : run C tbl (k + 9) f_tables_behind [rows T, rows U] μ = .ok (rows (thrs T U v)) μ := by
  obtain ⟨r0, T', hT, hw⟩ := h.head
  have i0 : ∀ {μ : Mu}, opR C .idx [rows T, .int 0] μ = .ok (row r0) μ := fun {μ} => by rw [hT]; exact idx0_rows
  have c : cm C (run C tbl (k + 8)) (.nm 2) .nil (.call f_through [0, 1] (.cons (.v 2) (.cons (.v 1) .nil))) [some (rows T), some (rows U), none] (fun _ => true) (T.map row) μ = .ok (T.map fun r => row (thr r U v)) μ := by
    refine cm_map rfl fun r hr => ?_
    have e := through_ok (k + 2) μ (r := r) h' (h.row r hr).1 (fun q hq => ((h.row r hr).2.1 q hq).1) hn hn1
    simp [wipe, Tg.slots, e]
  rw [run_tables_behind]
  simp [call1, df_tables_behind, b_tables_behind, check_any_table_ok k μ h (by omega), check_any_table_ok k μ h' (by omega), i0, hw, h'.len, c]
  rw [rows, thrs, List.map_map]; rfl
end PyE
set_option maxRecDepth 100000
namespace PyE
open PySem
theorem total_loop (k : Nat) (μ : Mu) (L : D) {n : Nat} : ∀ (l : List Rat) (acc : Rat) (m : Nat) (o : Option D), (∀ q ∈ l, Bd n q) → Bd m acc → m + (n + 1) * l.length ≤ 4000 → n ≤ 4000 →
    ∃ o', fo C (run C tbl (k + 2)) (.nm 2) (.cons (.asg (.nm 1) (.call f__law_add [0, 1] (.cons (.v 1) (.cons (.v 2) .nil)))) .nil) (fun _ => true) (l.map fr) [some L, some (fr acc), o] μ = .next [some L, some (fr (acc + l.sum)), o'] μ
  | [], acc, m, o, _, _, _, _ => ⟨o, by rw [List.map_nil, fo_nil, if_pos rfl, List.sum_nil, Rat.add_zero]⟩
  | q :: l, acc, m, o, h, ha, hz, hn => by
    have hq := h q (List.mem_cons_self ..)
    rw [List.length_cons, Nat.mul_succ] at hz
    have e := law_add_ok k μ (ha.mono (n := 4000) (by omega)) (hq.mono (n := 4000) hn)
    obtain ⟨o', ih⟩ := total_loop k μ L l (acc + q) (m + n + 1) (some (fr q)) (fun x hx => h x (List.mem_cons_of_mem _ hx)) (ha.add hq) (by omega) hn
    refine ⟨o', ?_⟩
    rw [List.map_cons, fo_cons, if_pos rfl]
    simp [e, ih, Rat.add_assoc]
theorem total_ok (k : Nat) (μ : Mu) {l : List Rat} {n : Nat} (h : ∀ q ∈ l, Bd n q) (hz : (n + 1) * (l.length + 1) ≤ 4000) : run C tbl (k + 3) f__law_total [row l] μ = .ok (fr l.sum) μ := by
  rw [run__law_total]
  rw [Nat.mul_succ] at hz
  obtain ⟨o', e⟩ := total_loop k μ (row l) l 0 1 none h Bd.zero (by omega) (by omega)
  rw [fr_zero, Rat.zero_add] at e
  simp [call1, df__law_total, b__law_total, e]
theorem law_product_ok (k : Nat) (μ : Mu) {l m : List Rat} {n n' : Nat} (h : l.length = m.length) (hl : ∀ q ∈ l, Bd n q) (hm : ∀ q ∈ m, Bd n' q) (hz : (n + n' + 1) * (l.length + 1) ≤ 4000) :
    run C tbl (k + 4) f__law_product [row l, row m] μ = .ok (fr (dot l m)) μ := by
  have hnn := bnd0 hz
  have e := total_ok k μ (Bd_mulL hl hm) (by rw [length_mulL h]; exact hz)
  rw [row, mulL_zip, List.map_map] at e
  replace e : run C tbl (k + 3) f__law_total [.lst ((l.zip m).map fun p => fr (p.1 * p.2))] μ = .ok (fr (dot l m)) μ := by rw [dot, mulL_zip]; exact e
  have z : srcZ false μ (row l) (row m) = some ⟨(l.zip m).map fun p => .tup [fr p.1, fr p.2], []⟩ := by
    unfold row
    rw [srcZ_false, zipD_map]
  have c : cm C (run C tbl (k + 3)) (.tp [2, 3]) .nil (.call f__law_mul [0, 1] (.cons (.v 2) (.cons (.v 3) .nil))) [some (row l), some (row m), none, none] (fun _ => true) ((l.zip m).map fun p => .tup [fr p.1, fr p.2]) μ = .ok ((l.zip m).map fun p => fr (p.1 * p.2)) μ := by
    refine cm_map rfl fun p hp => ?_
    have ht := law_mul_ok (k + 1) μ ((hl _ (List.of_mem_zip hp).1).mono (n := 4000) (by omega)) ((hm _ (List.of_mem_zip hp).2).mono (n := 4000) (by omega))
    simp [wipe, Tg.slots, ht]
  rw [run__law_product]
  simp [call1, df__law_product, b__law_product, z, c, e]
end PyE
set_option maxRecDepth 100000
/-! with cells of one's own -/
namespace PyE
open PySem
theorem nol_fr (q : Rat) : nol (fr q) = true := rfl
theorem row_new {μ : Mu} (l : List Rat) : New μ (row l) (.ref μ.length) (μ ++ [l.map fr]) := New.cell (NewL.atoms (nolL_of fun q _ => nol_fr q))
theorem through_new (k : Nat) (μ : Mu) {n n' m w : Nat} {T : List (List Rat)} {r : List Rat} (h : TabOk n m w T) (hr : r.length = m) (hq : ∀ q ∈ r, Bd n' q) (hn : n' + n ≤ 400) (hn1 : 1 ≤ n) :
    run C tbl (k + 6) f_through_d [row r, rows T] μ = .ok (.ref μ.length) (μ ++ [(thr r T w).map fr]) := by
  obtain ⟨r0, T', hT, hw⟩ := h.head
  have i0 : ∀ {μ : Mu}, opR C .idx [rows T, .int 0] μ = .ok (row r0) μ := fun {μ} => by rw [hT]; exact idx0_rows
  have ci : ∀ j, j < w → ∀ μ, cm C (run C tbl (k + 5)) (.nm 3) .nil (.op .idx (.cons (.v 3) (.cons (.v 2) .nil))) [some (row r), some (rows T), some (.int (j : Int)), none] (fun _ => true) (T.map row) μ = .ok (T.map fun c => fr (c.getD j 0)) μ := fun j hj μ => by
    refine cm_map rfl fun c hc => ?_
    have e := getD_cm (μ := μ) (r := c) (j := j) (by rw [(h.row c hc).1]; exact hj)
    simp [wipe, Tg.slots, e]
  have co : cm C (run C tbl (k + 5)) (.nm 2) .nil (.call f_product [0, 1] (.cons (.v 0) (.cons (.comp (.nm 3) (.iseq (.v 1)) .nil (.op .idx (.cons (.v 3) (.cons (.v 2) .nil)))) .nil))) [some (row r), some (rows T), none, none] (fun _ => true) ((List.range w).map fun j : Nat => .int (j : Int)) μ = .ok ((List.range w).map fun j => fr (dot r (col T j))) μ := by
    refine cm_map rfl fun j hj => ?_
    have hj' := List.mem_range.mp hj
    have e := product_ok k μ (l := r) (m := col T j) (n := n') (n' := n) (by rw [length_col, h.len, hr]) hq (Bd_col h.bd hn1) (by rw [hr]; exact bnd (c := 400) (d := 8) (by omega) h.pos.2)
    have e' : run C tbl (k + 5) f_product [row r, .lst (T.map fun c => fr (c.getD j 0))] μ = .ok (fr (dot r (col T j))) μ := by
      rw [show D.lst (T.map fun c => fr (c.getD j 0)) = row (col T j) by rw [row, col, List.map_map]; rfl, e]
    simp only [List.getD_eq_getElem?_getD] at e' ci
    simp [wipe, Tg.slots, ci j hj', e']
  rw [run_through_d]
  refine call_deep rfl rfl rfl ?_
  unfold df_through_d b_through_d
  simp [i0, hw, srcR1_nat w (by have := h.wid; omega), rangeD0, co]
  rw [thr, List.map_map]; rfl
theorem blurred_by_new (k : Nat) (μ : Mu) {n n' m w : Nat} {T l : List (List Rat)} (h : TabOk n m w T) (L : LookOk n' m l) (hn : n' + n ≤ 400) (hn1 : 1 ≤ n) :
    ∃ y μ', run C tbl (k + 7) f_blurred_by_d [lookD l, rows T] μ = .ok y μ' ∧ New μ (lookD (thrs l T w)) y μ' := by
  obtain ⟨ys, μ', e, nw⟩ := cm_new (C := C) (cl := run C tbl (k + 6)) (t := .nm 2) (e := .call f_through_d [0, 1] (.cons (.v 2) (.cons (.v 1) .nil))) (ρ := [some (lookD l), some (rows T), none]) (f := row) (h := fun r => row (thr r T w)) (l := l) (μ := μ) (fun r hr μ => by
    have e := through_new k μ (r := r) h (L.row r hr).1 (fun q hq => ((L.row r hr).2.1 q hq).1) hn hn1
    exact ⟨_, _, by simp [wipe, Tg.slots, e], row_new _⟩)
  refine ⟨.tup [.str (Str.ofString "look"), .ref μ'.length], μ' ++ [ys], ?_, ?_⟩
  · rw [run_blurred_by_d]
    refine call_deep rfl rfl rfl ?_
    unfold df_blurred_by_d b_blurred_by_d
    simp [e]
  · have e2 : l.map (fun r => row (thr r T w)) = (thrs l T w).map row := by rw [thrs, List.map_map]; rfl
    rw [e2] at nw
    exact New.tup (NewL.cons (New.atom rfl) (NewL.cons (New.cell nw) NewL.nil))
theorem blurred_new (k : Nat) (μ : Mu) {n n' m w : Nat} {T l : List (List Rat)} (h : TabOk n m w T) (L : LookOk n' m l) (hn : n' + n ≤ 400) (hn1 : 1 ≤ n) :
    ∃ y μ', run C tbl (k + 9) f_blurred_d [lookD l, rows T] μ = .ok y μ' ∧ New μ (lookD (thrs l T w)) y μ' := by
  obtain ⟨y, μ', e, nw⟩ := blurred_by_new (k + 1) μ h L hn hn1
  refine ⟨y, μ', ?_, nw⟩
  rw [run_blurred_d]
  refine call_deep rfl rfl rfl ?_
  unfold df_blurred_d b_blurred_d
  simp [check_look_ok (k + 1) μ L (by omega), check_table_ok k μ L h (by omega), e]
theorem tables_behind_new (k : Nat) (μ : Mu) {n n' m w v : Nat} {T U : List (List Rat)} (h : TabOk n m w T) (h' : TabOk n' w v U) (hn : n + n' ≤ 400) (hn1 : 1 ≤ n') :
    ∃ y μ', run C tbl (k + 9) f_tables_behind_d [rows T, rows U] μ = .ok y μ' ∧ New μ (rows (thrs T U v)) y μ' := by
  obtain ⟨r0, T', hT, hw⟩ := h.head
  have i0 : ∀ {μ : Mu}, opR C .idx [rows T, .int 0] μ = .ok (row r0) μ := fun {μ} => by rw [hT]; exact idx0_rows
  obtain ⟨ys, μ', e, nw⟩ := cm_new (C := C) (cl := run C tbl (k + 8)) (t := .nm 2) (e := .call f_through_d [0, 1] (.cons (.v 2) (.cons (.v 1) .nil))) (ρ := [some (rows T), some (rows U), none]) (f := row) (h := fun r => row (thr r U v)) (l := T) (μ := μ) (fun r hr μ => by
    have e := through_new (k + 2) μ (r := r) h' (h.row r hr).1 (fun q hq => ((h.row r hr).2.1 q hq).1) hn hn1
    exact ⟨_, _, by simp [wipe, Tg.slots, e], row_new _⟩)
  refine ⟨.ref μ'.length, μ' ++ [ys], ?_, ?_⟩
  · rw [run_tables_behind_d]
    refine call_deep rfl rfl rfl ?_
    unfold df_tables_behind_d b_tables_behind_d
    simp [check_any_table_ok k μ h (by omega), check_any_table_ok k μ h' (by omega), i0, hw, h'.len, e]
  · have e2 : T.map (fun r => row (thr r U v)) = (thrs T U v).map row := by rw [thrs, List.map_map]; rfl
    rw [e2] at nw
    exact New.cell nw
/-! the law's own -/
theorem law_thr_cm (k : Nat) (μ : Mu) {n n' m w : Nat} {T : List (List Rat)} {r : List Rat} {a b : D} {o3 o4 : Option D} (h : TabOk n m w T) (hr : r.length = m) (hq : ∀ q ∈ r, Bd n' q) (hn : n' + n ≤ 400) (hn1 : 1 ≤ n) :
    eE C (run C tbl (k + 4)) (.comp (.nm 3) (.irng1 (.op .len (.cons (.op .idx (.cons (.v 1) (.cons (.con (.int 0)) .nil))) .nil))) .nil (.call f__law_product [0, 1] (.cons (.v 2) (.cons (.comp (.nm 4) (.iseq (.v 1)) .nil (.op .idx (.cons (.v 4) (.cons (.v 3) .nil)))) .nil)))) [some a, some (rows T), some (row r), o3, o4] μ = .ok (row (thr r T w)) μ := by
  obtain ⟨r0, T', hT, hw⟩ := h.head
  have i0 : ∀ {μ : Mu}, opR C .idx [rows T, .int 0] μ = .ok (row r0) μ := fun {μ} => by rw [hT]; exact idx0_rows
  have ci : ∀ j, j < w → ∀ μ o, cm C (run C tbl (k + 4)) (.nm 4) .nil (.op .idx (.cons (.v 4) (.cons (.v 3) .nil))) [some a, some (rows T), some (row r), some (.int (j : Int)), o] (fun _ => true) (T.map row) μ = .ok (T.map fun c => fr (c.getD j 0)) μ := fun j hj μ o => by
    refine cm_map rfl fun c hc => ?_
    have e := getD_cm (μ := μ) (r := c) (j := j) (by rw [(h.row c hc).1]; exact hj)
    simp [wipe, Tg.slots, e]
  have co : cm C (run C tbl (k + 4)) (.nm 3) .nil (.call f__law_product [0, 1] (.cons (.v 2) (.cons (.comp (.nm 4) (.iseq (.v 1)) .nil (.op .idx (.cons (.v 4) (.cons (.v 3) .nil)))) .nil))) [some a, some (rows T), some (row r), o3, o4] (fun _ => true) ((List.range w).map fun j : Nat => .int (j : Int)) μ = .ok ((List.range w).map fun j => fr (dot r (col T j))) μ := by
    refine cm_map rfl fun j hj => ?_
    have hj' := List.mem_range.mp hj
    have e := law_product_ok k μ (l := r) (m := col T j) (n := n') (n' := n) (by rw [length_col, h.len, hr]) hq (Bd_col h.bd hn1) (by rw [hr]; exact bnd (c := 400) (d := 8) (by omega) h.pos.2)
    have e' : run C tbl (k + 4) f__law_product [row r, .lst (T.map fun c => fr (c.getD j 0))] μ = .ok (fr (dot r (col T j))) μ := by
      rw [show D.lst (T.map fun c => fr (c.getD j 0)) = row (col T j) by rw [row, col, List.map_map]; rfl, e]
    simp only [List.getD_eq_getElem?_getD] at e' ci
    simp [wipe, Tg.slots, ci j hj', e']
  simp [i0, hw, srcR1_nat w (by have := h.wid; omega), rangeD0, co]
  rw [row, thr, List.map_map]; rfl
theorem law_blurred_ok (k : Nat) (μ : Mu) {n n' m w : Nat} {T l : List (List Rat)} (h : TabOk n m w T) (L : LookOk n' m l) (hn : n' + n ≤ 400) (hn1 : 1 ≤ n) : run C tbl (k + 5) f__law_blurred [lookD l, rows T] μ = .ok (lookD (thrs l T w)) μ := by
  have c := cm_map (C := C) (cl := run C tbl (k + 4)) (μ := μ) (ρ := [some (lookD l), some (rows T), none, none, none]) (t := .nm 2) (e := .comp (.nm 3) (.irng1 (.op .len (.cons (.op .idx (.cons (.v 1) (.cons (.con (.int 0)) .nil))) .nil))) .nil (.call f__law_product [0, 1] (.cons (.v 2) (.cons (.comp (.nm 4) (.iseq (.v 1)) .nil (.op .idx (.cons (.v 4) (.cons (.v 3) .nil)))) .nil)))) (ok := fun _ => true) (f := row) (g := fun r => row (thr r T w)) rfl (l := l) (fun r hr => by
    have e := law_thr_cm k μ (a := lookD l) (b := .none) (o3 := none) (o4 := none) (r := r) h (L.row r hr).1 (fun q hq => ((L.row r hr).2.1 q hq).1) hn hn1
    rw [← e]
    rfl)
  rw [run__law_blurred]
  simp only [call1, df__law_blurred, b__law_blurred]
  simp at c ⊢
  simp [c]
  rw [lookD, rows, thrs, List.map_map]; rfl
theorem law_behind_ok (k : Nat) (μ : Mu) {n n' m w v : Nat} {T U : List (List Rat)} (h : TabOk n m w T) (h' : TabOk n' w v U) (hn : n + n' ≤ 400) (hn1 : 1 ≤ n') : run C tbl (k + 5) f__law_behind_both [rows T, rows U] μ = .ok (rows (thrs T U v)) μ := by
  have c := cm_map (C := C) (cl := run C tbl (k + 4)) (μ := μ) (ρ := [some (rows T), some (rows U), none, none, none]) (t := .nm 2) (e := .comp (.nm 3) (.irng1 (.op .len (.cons (.op .idx (.cons (.v 1) (.cons (.con (.int 0)) .nil))) .nil))) .nil (.call f__law_product [0, 1] (.cons (.v 2) (.cons (.comp (.nm 4) (.iseq (.v 1)) .nil (.op .idx (.cons (.v 4) (.cons (.v 3) .nil)))) .nil)))) (ok := fun _ => true) (f := row) (g := fun r => row (thr r U v)) rfl (l := T) (fun r hr => by
    have e := law_thr_cm k μ (a := rows T) (b := .none) (o3 := none) (o4 := none) (r := r) h' (h.row r hr).1 (fun q hq => ((h.row r hr).2.1 q hq).1) hn hn1
    rw [← e]
    rfl)
  rw [run__law_behind_both]
  simp only [call1, df__law_behind_both, b__law_behind_both]
  simp at c ⊢
  simp [c]
  rw [rows, thrs, List.map_map]; rfl
end PyE
set_option maxRecDepth 100000
namespace PyE
open PySem
theorem sum_le {α : Type} {f g : α → Rat} : ∀ {l : List α}, (∀ x ∈ l, f x ≤ g x) → (l.map f).sum ≤ (l.map g).sum
  | [], _ => Rat.le_refl
  | x :: l, h => by
    have h1 := h x (List.mem_cons_self ..)
    have h2 := sum_le fun y hy => h y (List.mem_cons_of_mem _ hy)
    rw [List.map_cons, List.map_cons, List.sum_cons, List.sum_cons]
    exact Rat.le_trans (Rat.add_le_add_right.mpr h1) (Rat.add_le_add_left.mpr h2)
theorem gmax_eq {l : List Rat} {q : Rat} (h1 : q ∈ l) (h2 : ∀ x ∈ l, x ≤ q) : gmax l = q := Rat.le_antisymm (h2 _ (gmax_mem (List.ne_nil_of_mem h1))) (le_gmax h1)
end PyE
set_option maxRecDepth 100000
namespace PyE
open PySem
def S (n : Nat) (f : Nat → Rat) : Rat := ((List.range n).map f).sum
theorem S_zero (f : Nat → Rat) : S 0 f = 0 := rfl
theorem S_succ (n : Nat) (f : Nat → Rat) : S (n + 1) f = S n f + f n := by
  unfold S
  rw [List.range_succ, List.map_append, List.sum_append, List.map_singleton, List.sum_singleton]
theorem S_congr {n : Nat} {f g : Nat → Rat} (h : ∀ i, i < n → f i = g i) : S n f = S n g := by
  unfold S
  rw [List.map_congr_left fun i hi => h i (List.mem_range.mp hi)]
theorem S_le {n : Nat} {f g : Nat → Rat} (h : ∀ i, i < n → f i ≤ g i) : S n f ≤ S n g := sum_le fun i hi => h i (List.mem_range.mp hi)
theorem S_add (f g : Nat → Rat) : ∀ n, S n (fun i => f i + g i) = S n f + S n g
  | 0 => by rw [S_zero, S_zero, S_zero, Rat.add_zero]
  | n + 1 => by rw [S_succ, S_succ, S_succ, S_add f g n]; grind
theorem S_mul (c : Rat) (f : Nat → Rat) : ∀ n, S n (fun i => c * f i) = c * S n f
  | 0 => by rw [S_zero, S_zero, Rat.mul_zero]
  | n + 1 => by rw [S_succ, S_succ, S_mul c f n, Rat.mul_add]
theorem S_zero' : ∀ n, S n (fun _ => 0) = 0
  | 0 => rfl
  | n + 1 => by rw [S_succ, S_zero' n, Rat.add_zero]
theorem S_swap (f : Nat → Nat → Rat) (m : Nat) : ∀ n, S n (fun i => S m (fun j => f i j)) = S m (fun j => S n (fun i => f i j))
  | 0 => by
    rw [S_zero]
    rw [show (fun j => S 0 fun i => f i j) = fun _ => (0 : Rat) from rfl, S_zero']
  | n + 1 => by
    rw [S_succ, S_swap f m n, ← S_add]
    exact S_congr fun j _ => (S_succ n fun i => f i j).symm
theorem S_delta (n i : Nat) (f : Nat → Rat) (h : i < n) : S n (fun j => if j = i then f j else 0) = f i := by
  induction n with
  | zero => omega
  | succ n ih =>
    rw [S_succ]
    by_cases e : n = i
    · subst e
      rw [if_pos rfl, S_congr (g := fun _ => 0) fun j hj => if_neg (by omega), S_zero', Rat.zero_add]
    · rw [ih (by omega), if_neg e, Rat.add_zero]
theorem sum_S (l : List Rat) : l.sum = S l.length fun i => l.getD i 0 := by
  unfold S
  congr 1
  refine List.ext_getElem (by simp) fun i h1 h2 => ?_
  simp [List.getElem?_eq_getElem h1]
theorem getD_map' {α β : Type} (f : α → β) (l : List α) (i : Nat) (a : α) (b : β) (h : i < l.length) : (l.map f).getD i b = f (l.getD i a) := by
  rw [List.getD_eq_getElem?_getD, List.getD_eq_getElem?_getD, List.getElem?_map, List.getElem?_eq_getElem h]; rfl
theorem dot_S {u v : List Rat} {n : Nat} (hu : u.length = n) (hv : v.length = n) : dot u v = S n fun i => u.getD i 0 * v.getD i 0 := by
  unfold dot mulL
  rw [sum_S, List.length_zipWith, hu, hv, Nat.min_self]
  refine S_congr fun i hi => ?_
  rw [List.getD_eq_getElem?_getD, List.getD_eq_getElem?_getD, List.getD_eq_getElem?_getD, List.getElem?_zipWith, List.getElem?_eq_getElem (by omega), List.getElem?_eq_getElem (by omega)]
  rfl
theorem mulL_at {u v : List Rat} {i : Nat} (hu : i < u.length) (hv : i < v.length) : (mulL u v).getD i 0 = u.getD i 0 * v.getD i 0 := by
  unfold mulL
  rw [List.getD_eq_getElem?_getD, List.getD_eq_getElem?_getD, List.getD_eq_getElem?_getD, List.getElem?_zipWith, List.getElem?_eq_getElem hu, List.getElem?_eq_getElem hv]
  rfl
def at2 (l : List (List Rat)) (i m : Nat) : Rat := (l.getD i []).getD m 0
theorem col_at {l : List (List Rat)} {i m : Nat} (h : i < l.length) : (col l m).getD i 0 = at2 l i m := by
  unfold col at2
  rw [getD_map' _ _ _ [] _ h]
theorem pay_S {l : List (List Rat)} {b p : List Rat} {m s : Nat} (hl : l.length = s) (hb : b.length = s) (hp : p.length = s) : dot (mulL b (col l m)) p = S s fun i => b.getD i 0 * at2 l i m * p.getD i 0 := by
  rw [dot_S (n := s) (by rw [length_mulL (by rw [hb, length_col, hl]), hb]) hp]
  refine S_congr fun i hi => ?_
  rw [mulL_at (by omega) (by rw [length_col]; omega), col_at (by omega)]
theorem worthL_S (l : List (List Rat)) (b : List Rat) (g : List (List Rat)) (w : Nat) : worthL l b g w = S w fun m => gmax (paysL l b g m) := rfl
theorem LookOk.at_sum {n w s : Nat} {l : List (List Rat)} (h : LookOk n w l) (hl : l.length = s) {i : Nat} (hi : i < s) : S w (at2 l i) = 1 := by
  have hm : l.getD i [] ∈ l := by
    rw [List.getD_eq_getElem?_getD, List.getElem?_eq_getElem (by omega)]
    exact List.getElem_mem _
  obtain ⟨h1, _, h3⟩ := h.row _ hm
  rw [sum_S, h1] at h3
  exact h3
theorem LookOk.at_nn {n w s : Nat} {l : List (List Rat)} (h : LookOk n w l) (hl : l.length = s) {i m : Nat} (hi : i < s) : 0 ≤ at2 l i m := by
  have hm : l.getD i [] ∈ l := by
    rw [List.getD_eq_getElem?_getD, List.getElem?_eq_getElem (by omega)]
    exact List.getElem_mem _
  obtain ⟨h1, h2, h3⟩ := h.row _ hm
  unfold at2
  rw [List.getD_eq_getElem?_getD]
  cases e : (l.getD i [])[m]? with
  | none => exact Rat.le_refl
  | some x => exact (h2 x (List.mem_of_getElem? e)).2
theorem pays_best {l g : List (List Rat)} {b : List Rat} {n2 s : Nat} (m : Nat) (hg : GameOk n2 s g) : ∃ p, p ∈ g ∧ gmax (paysL l b g m) = dot (mulL b (col l m)) p := by
  obtain ⟨p, hp, e⟩ := List.mem_map.mp (gmax_mem (pays_ne (l := l) (b := b) (m := m) hg))
  exact ⟨p, hp, e.symm⟩
/-- told nothing -/
theorem nothing_le {l l0 g : List (List Rat)} {b : List Rat} {n w n2 s : Nat} (h : LookOk n w l) (hl : l.length = s) (hb : b.length = s) (hg : GameOk n2 s g) (h0 : l0 = List.replicate s [1]) : worthL l0 b g 1 ≤ worthL l b g w := by
  have hl0 : l0.length = s := by rw [h0, List.length_replicate]
  rw [worthL_S, worthL_S, S_succ, S_zero, Rat.zero_add]
  obtain ⟨p, hp, e⟩ := pays_best (l := l0) (b := b) 0 hg
  rw [e, pay_S hl0 hb (hg.row p hp).1]
  have e2 : (S s fun i => b.getD i 0 * at2 l0 i 0 * p.getD i 0) = S w fun m => dot (mulL b (col l m)) p := by
    rw [S_congr (n := w) (g := fun m => S s fun i => b.getD i 0 * at2 l i m * p.getD i 0) fun m _ => pay_S hl hb (hg.row p hp).1, ← S_swap]
    refine S_congr fun i hi => ?_
    have a1 : at2 l0 i 0 = 1 := by
      unfold at2
      rw [h0, List.getD_eq_getElem?_getD, List.getD_eq_getElem?_getD, List.getElem?_replicate, if_pos hi]; rfl
    rw [S_congr (g := fun m => b.getD i 0 * p.getD i 0 * at2 l i m) fun m _ => by grind, S_mul, h.at_sum hl hi, a1]
    grind
  rw [e2]
  exact S_le fun m _ => le_gmax (List.mem_map.mpr ⟨p, hp, rfl⟩)
/-- all told -/
theorem le_all {l T g : List (List Rat)} {b : List Rat} {n w n2 s : Nat} (h : LookOk n w l) (hl : l.length = s) (hb : b.length = s) (hg : GameOk n2 s g) (hT : T = (List.range s).map fun i => (List.range s).map fun j => if j = i then (1 : Rat) else 0) : worthL l b g w ≤ worthL T b g s := by
  have hTl : T.length = s := by rw [hT, List.length_map, List.length_range]
  have Tat : ∀ i j, i < s → j < s → at2 T i j = if j = i then 1 else 0 := fun i j hi hj => by
    unfold at2
    rw [hT, getD_map' _ _ _ 0 _ (by rw [List.length_range]; exact hi), getD_map' _ _ _ 0 _ (by rw [List.length_range]; exact hj)]
    rw [List.getD_eq_getElem?_getD, List.getD_eq_getElem?_getD, List.getElem?_range hi, List.getElem?_range hj]; rfl
  have Tp : ∀ i, i < s → ∀ p ∈ g, dot (mulL b (col T i)) p = b.getD i 0 * p.getD i 0 := fun i hi p hp => by
    rw [pay_S hTl hb (hg.row p hp).1, S_congr (g := fun j => if j = i then b.getD j 0 * p.getD j 0 else 0) fun j hj => ?_, S_delta s i _ hi]
    rw [Tat j i hj hi]
    by_cases e : j = i
    · rw [if_pos e.symm, if_pos e]; grind
    · rw [if_neg (fun z => e z.symm), if_neg e]; grind
  have M : ∀ m, m < w → gmax (paysL l b g m) ≤ S s fun i => at2 l i m * gmax (paysL T b g i) := fun m _ => by
    obtain ⟨p, hp, e⟩ := pays_best (l := l) (b := b) m hg
    rw [e, pay_S hl hb (hg.row p hp).1]
    refine S_le fun i hi => ?_
    have := le_gmax (l := paysL T b g i) (List.mem_map.mpr ⟨p, hp, rfl⟩)
    rw [Tp i hi p hp] at this
    have := Rat.mul_le_mul_of_nonneg_left this (h.at_nn hl (m := m) hi)
    grind
  rw [worthL_S, worthL_S]
  refine Rat.le_trans (S_le M) ?_
  rw [← S_swap (fun i m => at2 l i m * gmax (paysL T b g i))]
  rw [S_congr (n := s) (g := fun i => gmax (paysL T b g i)) fun i hi => ?_]
  · exact Rat.le_refl
  rw [S_congr (g := fun m => gmax (paysL T b g i) * at2 l i m) fun m _ => by grind, S_mul, h.at_sum hl hi, Rat.mul_one]
/-- mixed beliefs -/
theorem mixed_le {l g : List (List Rat)} {b o x : List Rat} {w n2 s : Nat} {t u : Rat} (hl : l.length = s) (hb : b.length = s) (ho : o.length = s) (hx : x.length = s) (hg : GameOk n2 s g) (ht : 0 ≤ t) (hu : 0 ≤ u)
    (e : ∀ i, i < s → x.getD i 0 = t * b.getD i 0 + u * o.getD i 0) : worthL l x g w ≤ t * worthL l b g w + u * worthL l o g w := by
  rw [worthL_S, worthL_S, worthL_S, ← S_mul, ← S_mul, ← S_add]
  refine S_le fun m _ => ?_
  obtain ⟨p, hp, e1⟩ := pays_best (l := l) (b := x) m hg
  rw [e1]
  have e2 : dot (mulL x (col l m)) p = t * dot (mulL b (col l m)) p + u * dot (mulL o (col l m)) p := by
    rw [pay_S hl hx (hg.row p hp).1, pay_S hl hb (hg.row p hp).1, pay_S hl ho (hg.row p hp).1, ← S_mul, ← S_mul, ← S_add]
    refine S_congr fun i hi => ?_
    rw [e i hi]
    grind
  rw [e2]
  have h1 := Rat.mul_le_mul_of_nonneg_left (le_gmax (l := paysL l b g m) (List.mem_map.mpr ⟨p, hp, rfl⟩)) ht
  have h2 := Rat.mul_le_mul_of_nonneg_left (le_gmax (l := paysL l o g m) (List.mem_map.mpr ⟨p, hp, rfl⟩)) hu
  exact Rat.le_trans (Rat.add_le_add_right.mpr h1) (Rat.add_le_add_left.mpr h2)
theorem gmax_map {l : List Rat} (h : l ≠ []) (f : Rat → Rat) (mono : ∀ x y, x ≤ y → f x ≤ f y) : gmax (l.map f) = f (gmax l) :=
  gmax_eq (List.mem_map.mpr ⟨_, gmax_mem h, rfl⟩) fun x hx => by
    obtain ⟨y, hy, rfl⟩ := List.mem_map.mp hx
    exact mono _ _ (le_gmax hy)
theorem raised_eq {l g : List (List Rat)} {b : List Rat} {n w n2 s : Nat} (a : Rat) (h : LookOk n w l) (hl : l.length = s) (hb : b.length = s) (hs : b.sum = 1) (hg : GameOk n2 s g) : worthL l b (g.map fun p => p.map fun x => x + a) w = worthL l b g w + a := by
  rw [worthL_S, worthL_S]
  have e : ∀ m, m < w → gmax (paysL l b (g.map fun p => p.map fun x => x + a) m) = gmax (paysL l b g m) + a * S s fun i => b.getD i 0 * at2 l i m := fun m _ => by
    have e1 : paysL l b (g.map fun p => p.map fun x => x + a) m = (paysL l b g m).map fun x => x + a * S s fun i => b.getD i 0 * at2 l i m := by
      unfold paysL
      rw [List.map_map, List.map_map]
      refine List.map_congr_left fun p hp => ?_
      have lp := (hg.row p hp).1
      show dot (mulL b (col l m)) (p.map fun x => x + a) = dot (mulL b (col l m)) p + a * S s fun i => b.getD i 0 * at2 l i m
      rw [pay_S hl hb (by rw [List.length_map, lp]), pay_S hl hb lp, ← S_mul, ← S_add]
      refine S_congr fun i hi => ?_
      rw [getD_map' _ _ _ 0 _ (by omega)]
      grind
    rw [e1, gmax_map (pays_ne hg) _ fun x y hxy => Rat.add_le_add_right.mpr hxy]
  rw [S_congr e, S_add, S_mul, ← S_swap]
  rw [S_congr (n := s) (g := fun i => b.getD i 0) fun i hi => by rw [S_mul, h.at_sum hl hi, Rat.mul_one]]
  rw [← hb, ← sum_S, hs, Rat.mul_one]
theorem scaled_eq {l g : List (List Rat)} {b : List Rat} {w n2 s : Nat} (f : Rat) (hf : 0 ≤ f) (hl : l.length = s) (hb : b.length = s) (hg : GameOk n2 s g) : worthL l b (g.map fun p => p.map fun x => x * f) w = worthL l b g w * f := by
  rw [worthL_S, worthL_S, Rat.mul_comm _ f, ← S_mul]
  refine S_congr fun m _ => ?_
  have e1 : paysL l b (g.map fun p => p.map fun x => x * f) m = (paysL l b g m).map fun x => f * x := by
    unfold paysL
    rw [List.map_map, List.map_map]
    refine List.map_congr_left fun p hp => ?_
    have lp := (hg.row p hp).1
    show dot (mulL b (col l m)) (p.map fun x => x * f) = f * dot (mulL b (col l m)) p
    rw [pay_S hl hb (by rw [List.length_map, lp]), pay_S hl hb lp, ← S_mul]
    refine S_congr fun i hi => ?_
    rw [getD_map' _ _ _ 0 _ (by omega)]
    grind
  rw [e1, gmax_map (pays_ne hg) _ fun x y hxy => Rat.mul_le_mul_of_nonneg_left hxy hf]
theorem doubled_eq {l g : List (List Rat)} {b : List Rat} {w n2 s : Nat} {r0 : List Rat} {l' : List (List Rat)} (hg : GameOk n2 s g) (e : g = r0 :: l') : worthL l b (g ++ [r0]) w = worthL l b g w := by
  rw [worthL_S, worthL_S]
  refine S_congr fun m _ => ?_
  have e1 : paysL l b (g ++ [r0]) m = paysL l b g m ++ [dot (mulL b (col l m)) r0] := by
    unfold paysL
    rw [List.map_append]; rfl
  rw [e1]
  refine gmax_eq (List.mem_append_left _ (gmax_mem (pays_ne hg))) fun x hx => ?_
  rcases List.mem_append.mp hx with hx | hx
  · exact le_gmax hx
  · rw [List.mem_singleton.mp hx]
    exact le_gmax (List.mem_map.mpr ⟨r0, by rw [e]; exact List.mem_cons_self .., rfl⟩)
end PyE
set_option maxRecDepth 100000
/-! blurred looks are looks; one table behind another one -/
namespace PyE
open PySem
theorem range_getD {α : Type} (f : Nat → α) (w j : Nat) (a : α) (h : j < w) : ((List.range w).map f).getD j a = f j := by
  rw [List.getD_eq_getElem?_getD, List.getElem?_map, List.getElem?_range h]; rfl
theorem length_thr (r : List Rat) (T : List (List Rat)) (w : Nat) : (thr r T w).length = w := by rw [thr, List.length_map, List.length_range]
theorem col_thrs {T U : List (List Rat)} {v j : Nat} (hj : j < v) : col (thrs T U v) j = T.map fun r => dot r (col U j) := by
  rw [col, thrs, List.map_map]
  refine List.map_congr_left fun r _ => ?_
  exact range_getD _ _ _ _ hj
theorem thr_thrs {T U : List (List Rat)} {r : List Rat} {m w v : Nat} (hr : r.length = m) (hT : T.length = m) (hTr : ∀ t ∈ T, t.length = w) (hU : U.length = w) : thr r (thrs T U v) v = thr (thr r T w) U v := by
  unfold thr
  refine List.map_congr_left fun j hj => ?_
  have hj' := List.mem_range.mp hj
  have e1 := col_thrs (T := T) (U := U) hj'
  rw [e1]
  show _ = dot (thr r T w) (col U j)
  rw [dot_S (n := m) hr (by rw [List.length_map, hT]), dot_S (n := w) (length_thr r T w) (by rw [length_col, hU])]
  have e2 : ∀ i, i < m → r.getD i 0 * (T.map fun t => dot t (col U j)).getD i 0 = S w fun a => r.getD i 0 * at2 T i a * (col U j).getD a 0 := fun i hi => by
    rw [getD_map' _ _ _ [] _ (by omega)]
    have ht : T.getD i [] ∈ T := by
      rw [List.getD_eq_getElem?_getD, List.getElem?_eq_getElem (by omega)]
      exact List.getElem_mem _
    rw [dot_S (n := w) (hTr _ ht) (by rw [length_col, hU]), ← S_mul]
    refine S_congr fun a _ => ?_
    unfold at2
    grind
  have e3 : ∀ a, a < w → (thr r T w).getD a 0 * (col U j).getD a 0 = S m fun i => r.getD i 0 * at2 T i a * (col U j).getD a 0 := fun a ha => by
    have : (thr r T w).getD a 0 = dot r (col T a) := range_getD _ _ _ _ ha
    rw [this, dot_S (n := m) hr (by rw [length_col, hT]), Rat.mul_comm, ← S_mul]
    refine S_congr fun i hi => ?_
    rw [show (col T a).getD i 0 = at2 T i a from col_at (by omega)]
    grind
  rw [S_congr e2, S_swap]
  exact (S_congr e3).symm
theorem thrs_thrs {T U l : List (List Rat)} {m w v : Nat} (hl : ∀ r ∈ l, r.length = m) (hT : T.length = m) (hTr : ∀ t ∈ T, t.length = w) (hU : U.length = w) : thrs l (thrs T U v) v = thrs (thrs l T w) U v := by
  have : thrs (thrs l T w) U v = l.map fun r => thr (thr r T w) U v := by rw [thrs, thrs, List.map_map]; rfl
  rw [this]
  exact List.map_congr_left fun r hr => thr_thrs (hl r hr) hT hTr hU
theorem dotz {u v : List Rat} (hu : ∀ q ∈ u, 0 ≤ q) (hv : ∀ q ∈ v, 0 ≤ q) : 0 ≤ dot u v := by
  unfold dot
  rw [mulL_zip]
  have key : ∀ l : List (Rat × Rat), (∀ p ∈ l, 0 ≤ p.1 ∧ 0 ≤ p.2) → 0 ≤ (l.map fun p => p.1 * p.2).sum := by
    intro l
    induction l with
    | nil => intro _; exact Rat.le_refl
    | cons p l ih =>
      intro h
      rw [List.map_cons, List.sum_cons]
      have h1 := h p (List.mem_cons_self ..)
      exact Rat.add_nonneg (Rat.mul_nonneg h1.1 h1.2) (ih fun q hq => h q (List.mem_cons_of_mem _ hq))
  exact key _ fun p hp => ⟨hu _ (List.of_mem_zip hp).1, hv _ (List.of_mem_zip hp).2⟩
theorem colz {T : List (List Rat)} {j : Nat} (h : ∀ r ∈ T, ∀ q ∈ r, 0 ≤ q) : ∀ q ∈ col T j, 0 ≤ q := by
  intro q hq
  obtain ⟨r, hr, rfl⟩ := List.mem_map.mp hq
  show 0 ≤ r.getD j 0
  rw [List.getD_eq_getElem?_getD]
  cases e : r[j]? with
  | none => exact Rat.le_refl
  | some x => exact h r hr x (List.mem_of_getElem? e)
theorem at2_sum {T : List (List Rat)} {m w i : Nat} (hT : T.length = m) (h : ∀ r ∈ T, r.length = w ∧ r.sum = 1) (hi : i < m) : S w (at2 T i) = 1 := by
  have hm : T.getD i [] ∈ T := by
    rw [List.getD_eq_getElem?_getD, List.getElem?_eq_getElem (by omega)]
    exact List.getElem_mem _
  obtain ⟨h1, h3⟩ := h _ hm
  rw [sum_S, h1] at h3
  exact h3
theorem thr_row {n n' m w : Nat} {T : List (List Rat)} {r : List Rat} (h : TabOk n m w T) (hn1 : 1 ≤ n) (hr : r.length = m ∧ (∀ q ∈ r, Bd n' q ∧ 0 ≤ q) ∧ r.sum = 1) :
    (thr r T w).length = w ∧ (∀ q ∈ thr r T w, Bd ((n' + n + 1) * m + 1) q ∧ 0 ≤ q) ∧ (thr r T w).sum = 1 := by
  refine ⟨length_thr .., fun q hq => ?_, ?_⟩
  · obtain ⟨j, hj, rfl⟩ := List.mem_map.mp hq
    exact ⟨Bd_dot (fun q hq => (hr.2.1 q hq).1) (Bd_col h.bd hn1) hr.1 (by rw [length_col, h.len]), dotz (fun q hq => (hr.2.1 q hq).2) (colz fun t ht q hq => ((h.row t ht).2.1 q hq).2)⟩
  · rw [sum_S, length_thr, S_congr (g := fun j => S m fun i => r.getD i 0 * at2 T i j) fun j hj => ?_]
    · rw [← S_swap]
      rw [S_congr (n := m) (g := fun i => r.getD i 0) fun i hi => by
        rw [S_mul, at2_sum h.len (fun t ht => ⟨(h.row t ht).1, (h.row t ht).2.2⟩) hi, Rat.mul_one]]
      have := hr.2.2
      rw [sum_S, hr.1] at this
      exact this
    · have : (thr r T w).getD j 0 = dot r (col T j) := range_getD _ _ _ _ hj
      rw [this, dot_S (n := m) hr.1 (by rw [length_col, h.len])]
      exact S_congr fun i hi => by rw [col_at (by have := h.len; omega)]
theorem thrs_look {n n' m w : Nat} {T l : List (List Rat)} (h : TabOk n m w T) (hn1 : 1 ≤ n) (L : LookOk n' m l) : LookOk ((n' + n + 1) * m + 1) w (thrs l T w) :=
  ⟨by rw [thrs, List.length_map]; exact L.len, h.wid, fun r hr => by
    obtain ⟨t, ht, rfl⟩ := List.mem_map.mp hr
    exact thr_row h hn1 (L.row t ht)⟩
theorem thrs_tab {n n' m w v : Nat} {T U : List (List Rat)} (h : TabOk n m w T) (h' : TabOk n' w v U) (hn1 : 1 ≤ n') : TabOk ((n + n' + 1) * w + 1) m v (thrs T U v) :=
  ⟨by rw [thrs, List.length_map, h.len], h'.wid, h.pos, fun r hr => by
    obtain ⟨t, ht, rfl⟩ := List.mem_map.mp hr
    exact thr_row h' hn1 (h.row t ht)⟩
theorem LookOk.mono {n n' w : Nat} {l : List (List Rat)} (h : LookOk n w l) (hn : n ≤ n') : LookOk n' w l := ⟨h.len, h.wid, fun r hr => ⟨(h.row r hr).1, fun q hq => ⟨((h.row r hr).2.1 q hq).1.mono hn, ((h.row r hr).2.1 q hq).2⟩, (h.row r hr).2.2⟩⟩
theorem TabOk.mono {n n' m w : Nat} {l : List (List Rat)} (h : TabOk n m w l) (hn : n ≤ n') : TabOk n' m w l := ⟨h.len, h.wid, h.pos, fun r hr => ⟨(h.row r hr).1, fun q hq => ⟨((h.row r hr).2.1 q hq).1.mono hn, ((h.row r hr).2.1 q hq).2⟩, (h.row r hr).2.2⟩⟩
end PyE
set_option maxRecDepth 100000
/-! a callee's cells go -/
namespace PyE
open PySem
mutual
theorem rp_off (n : Nat) (R : Nat → Option D) : ∀ (m : Nat) (d : D), rp m d = true → D.off n R d = some d
  | _, .none, _ => rfl
  | _, .bl _, _ => rfl
  | _, .int _, _ => rfl
  | _, .str _, _ => rfl
  | 0, .tup _, h => by cases h
  | m + 1, .tup xs, h => by
    show (D.offL n R xs).map D.tup = _
    rw [rpL_off n R m xs (by rw [rp_tup] at h; exact h)]; rfl
  | 0, .lst _, h => by cases h
  | m + 1, .lst xs, h => by
    show (D.offL n R xs).map D.lst = _
    rw [rpL_off n R m xs (by rw [rp_lst] at h; exact h)]; rfl
  | _, .dct, _ => rfl
  | _, .ref _, h => by cases h
  | _, .fn _, h => by cases h
  | _, .exc _ _, h => by cases h
  | _, .scr _, h => by cases h
theorem rpL_off (n : Nat) (R : Nat → Option D) : ∀ (m : Nat) (xs : List D), rpL m xs = true → D.offL n R xs = some xs
  | _, [], _ => rfl
  | m, x :: xs, h => by
    rw [rpL_cons, Bool.and_eq_true] at h
    show (D.off n R x).bind (fun a => (D.offL n R xs).map fun b => a :: b) = _
    rw [rp_off n R m x h.1, rpL_off n R m xs h.2]; rfl
end
/-- what was there stays, but for a generator -/
theorem leave_cut {n N m : Nat} {μ μ1 : Mu} {cs : List (List D)} {d : D} (u : Up n μ μ1) (G : Gn n N μ1) (h : rp m d = true) : leave μ (.ret d (μ1 ++ cs)) = .ok d μ1 := by
  show fin μ d (μ1 ++ cs) .ok = _
  have hl := u.length
  unfold fin
  by_cases hc : (μ1 ++ cs).length = μ.length
  · rw [if_pos hc]
    rw [List.length_append] at hc
    rw [List.eq_nil_of_length_eq_zero (show cs.length = 0 by omega), List.append_nil]
  · rw [if_neg hc, if_pos]
    · rw [rp_off μ.length _ m d h, ← hl, List.take_left' rfl]
    · intro i hi
      rw [List.getElem?_append_left (by omega)]
      obtain ⟨xs, rfl⟩ := u
      obtain ⟨a, b, c, e, _⟩ := G
      by_cases hn : n = i
      · subst hn
        exact .inr ⟨_, e, rfl⟩
      · exact .inl (List.getElem?_set_ne hn)
theorem Up.app {n : Nat} {μ μ' : Mu} (u : Up n μ μ') (hn : n < μ.length) (cs : List (List D)) : Up n (μ ++ cs) (μ' ++ cs) := by
  obtain ⟨xs, rfl⟩ := u
  exact ⟨xs, by rw [List.set_append_left _ _ hn]⟩
theorem Gn.lt {n N : Nat} {μ : Mu} (G : Gn n N μ) : n < μ.length := by
  obtain ⟨a, b, c, e, _⟩ := G
  exact (List.getElem?_eq_some_iff.mp e).1
theorem Gn.app {n N : Nat} {μ : Mu} (G : Gn n N μ) (cs : List (List D)) : Gn n N (μ ++ cs) := by
  have hl := G.lt
  obtain ⟨a, b, c, e, r⟩ := G
  exact ⟨a, b, c, by rw [List.getElem?_append_left hl]; exact e, r⟩
/-- of a store with cells behind -/
theorem Up.cut {n : Nat} {μ μ2 : Mu} {cs : List (List D)} (hn : n < μ.length) (u : Up n (μ ++ cs) μ2) : ∃ μ', Up n μ μ' ∧ μ2 = μ' ++ cs := by
  obtain ⟨xs, rfl⟩ := u
  exact ⟨μ.set n xs, ⟨xs, rfl⟩, by rw [List.set_append_left _ _ hn]⟩
theorem Gn.cut {n N : Nat} {μ : Mu} {cs : List (List D)} (hn : n < μ.length) (G : Gn n N (μ ++ cs)) : Gn n N μ := by
  obtain ⟨a, b, c, e, r⟩ := G
  exact ⟨a, b, c, by rw [List.getElem?_append_left hn] at e; exact e, r⟩
theorem pick_ref (k : Nat) {μ : Mu} {n N r : Nat} {xs : List D} (hr : μ[r]? = some xs) (hne : n ≠ r) (h0 : xs ≠ []) (h1 : xs.length < 1000) (hN : N < 1000000000) (G : Gn n N μ) :
    ∃ (d : D) (μ' : Mu), d ∈ xs ∧ Up n μ μ' ∧ Gn n (N + 1) μ' ∧ run C tbl (k + 3) f__law_pick [.ref n, .ref r] μ = .ok d μ' := by
  have hl : 0 < xs.length := List.length_pos_iff.mpr h0
  obtain ⟨q, μ', hq, up, G', e⟩ := random_ok k (xs.length : Int) (by omega) (by omega) hN G
  obtain ⟨m, rfl⟩ : ∃ m : Nat, q = (m : Int) := ⟨q.toNat, by omega⟩
  have hm : m < xs.length := by omega
  refine ⟨xs[m], μ', List.getElem_mem hm, up, G', ?_⟩
  have hr' : μ'[r]? = some xs := by
    obtain ⟨ys, rfl⟩ := up
    rw [List.getElem?_set_ne hne, hr]
  have i := opR_idx_of (C := C) (μ := μ') (d := .ref r) (show items μ' (.ref r) = some xs from hr') (List.getElem?_eq_getElem hm)
  rw [run__law_pick]
  simp [call1, df__law_pick, b__law_pick, e, i, leave_up up, opR_len_ref hr]
end PyE
set_option maxRecDepth 100000
/-! shared: asks, lists of rows, cells that grow -/
namespace PyE
open PySem
theorem mul_int {C : Cfg} (x : D) (j : Int) (h : j ≤ 100000) (h' : -100000 ≤ j) (μ : Mu) : opR C .mul [.lst [x], .int j] μ = .ok (.lst (List.replicate j.toNat x)) μ := by
  show lift ((if rng62 j = true ∧ [x].length * j.toNat ≤ LIM then some (PR.new (List.replicate j.toNat [x]).flatten) else none).map prD) μ = _
  rw [if_pos ⟨by unfold rng62; rw [decide_eq_true (by omega), decide_eq_true (by omega)]; rfl, by unfold LIM; simp; omega⟩]
  simp [prD, flat_rep]
theorem idx_m1 {C : Cfg} {xs : List D} {x : D} (h : xs.getLast? = some x) (μ : Mu) : opR C .idx [.lst xs, .int (-1)] μ = .ok x μ := by
  have hl : 0 < xs.length := by
    cases xs with
    | nil => simp at h
    | cons a r => simp
  show lift ((((some xs).bind fun xs => (place (-1) xs.length).bind fun k => (xs[k]?).map PR.v)).map prD) μ = _
  have hp : place (-1) xs.length = some (xs.length - 1) := by
    unfold place
    rw [if_neg (by decide), if_pos (by omega)]
    congr 1
    omega
  rw [List.getLast?_eq_getElem?] at h
  simp [hp, h, prD]
theorem app_last {μ : Mu} {L : List D} {x : D} (h : L.length ≤ 1000000) : mopS (μ ++ [L]) .append (.ref μ.length) [x] = some (.none, μ ++ [L ++ [x]]) := by
  show ((μ ++ [L])[μ.length]?).bind (fun xs => if xs.length < LIM then some (D.none, (μ ++ [L]).set μ.length (xs ++ [x])) else none) = _
  rw [List.getElem?_append_right (Nat.le_refl _), Nat.sub_self]
  show (if L.length < LIM then some (D.none, (μ ++ [L]).set μ.length (L ++ [x])) else none) = _
  rw [if_pos (by unfold LIM; omega), List.set_append_right _ _ (Nat.le_refl _), Nat.sub_self]; rfl
theorem addN {C : Cfg} {μ : Mu} {r : Nat} {xs ys : List D} (h : μ[r]? = some xs) (hl : xs.length + ys.length ≤ 1000000) : lift ((opS C μ .add [.ref r, .lst ys]).bind prN) μ = .ok (xs ++ ys) μ := by
  have e : opS C μ .add [.ref r, .lst ys] = some (.new (xs ++ ys)) := by
    show (μ[r]?).bind (fun xs => newL (xs ++ ys)) = _
    rw [h]
    show newL (xs ++ ys) = _
    unfold newL
    rw [if_pos (by rw [List.length_append]; unfold LIM; omega)]
  rw [e]; rfl
theorem addN0 {C : Cfg} {μ : Mu} {xs ys : List D} (hl : xs.length + ys.length ≤ 1000000) : lift ((opS C (μ ++ [xs]) .add [.ref μ.length, .lst ys]).bind prN) (μ ++ [xs]) = .ok (xs ++ ys) (μ ++ [xs]) := addN (by simp) hl
theorem addN1 {C : Cfg} {μ : Mu} {a xs ys : List D} (hl : xs.length + ys.length ≤ 1000000) : lift ((opS C (μ ++ [a, xs]) .add [.ref (μ.length + 1), .lst ys]).bind prN) (μ ++ [a, xs]) = .ok (xs ++ ys) (μ ++ [a, xs]) := addN (by simp) hl
theorem addN2 {C : Cfg} {μ : Mu} {a b xs ys : List D} (hl : xs.length + ys.length ≤ 1000000) : lift ((opS C (μ ++ [a, b, xs]) .add [.ref (μ.length + 1 + 1), .lst ys]).bind prN) (μ ++ [a, b, xs]) = .ok (xs ++ ys) (μ ++ [a, b, xs]) := addN (by rw [List.getElem?_append_right (by omega), show μ.length + 1 + 1 - μ.length = 2 by omega]; rfl) hl
@[simp] theorem opR_attr {C : Cfg} (c : Fid) (v : D) (μ : Mu) : opR C .attr [.exc c v] μ = .ok v μ := (rfl)
@[simp] theorem tyIs_exc (sub : Fid → Fid → Bool) (c k : Fid) (v : D) : tyIs sub (.exc c v) (.tcls k) = some (sub c k) := (rfl)
@[simp] theorem isNone_exc (c : Fid) (v : D) : isNone (.exc c v) = false := (rfl)
/-- what is asked of a refusal is so -/
def AskOk (L : Nat) (a : D) : Prop := ∃ door args kinds, a = .tup [door, args, kinds] ∧ (∀ μ, run C tbl L f__law_caught [door, args] μ = .ok (txt kinds) μ) ∧ V FD 30 15000000 kinds
theorem asks_cm {L i : Nat} {ρ : Ro} {ok : Mu → Bool} {μ : Mu} (hi : i < ρ.length) (hok : ok μ = true) : ∀ {A : List D}, (∀ a ∈ A, AskOk L a) →
    cm C (run C tbl L) (.nm i) (.cons (.op .ne (.cons (.call f__law_caught [0, 1] (.cons (.op .idx (.cons (.v i) (.cons (.con (.int 0)) .nil))) (.cons (.op .idx (.cons (.v i) (.cons (.con (.int 1)) .nil))) .nil))) (.cons (.op .repr (.cons (.op .idx (.cons (.v i) (.cons (.con (.int 2)) .nil))) .nil)) .nil))) .nil) (.v i) ρ ok A μ = .ok [] μ := by
  intro A h
  have := cm_filter (C := C) (cl := run C tbl L) (ρ := ρ) (μ := μ) (t := .nm i) (c := .cons (.op .ne (.cons (.call f__law_caught [0, 1] (.cons (.op .idx (.cons (.v i) (.cons (.con (.int 0)) .nil))) (.cons (.op .idx (.cons (.v i) (.cons (.con (.int 1)) .nil))) .nil))) (.cons (.op .repr (.cons (.op .idx (.cons (.v i) (.cons (.con (.int 2)) .nil))) .nil)) .nil))) .nil) (e := .v i) (ok := ok) (f := fun x : D => x) (g := fun x : D => x) (p := fun _ => false) hok (l := A) (fun a ha => by
    obtain ⟨door, args, kinds, rfl, e, v⟩ := h a ha
    have g : getV ((wipe ρ [i]).set i (some (.tup [door, args, kinds]))) i = some (.tup [door, args, kinds]) := by
      unfold getV
      show (match (((ρ.set i none).set i (some (D.tup [door, args, kinds])))[i]?) with | some (some d) => some d | _ => none) = _
      rw [List.set_set, List.getElem?_set_self hi]
    have r := repr_ok (C := C) (μ := μ) (v.rp (by decide)) (by decide) (Nat.le_trans v.wt (by decide))
    have nt := ne_txt (C := C) (μ := μ) (v.rp (by decide))
    refine ⟨_, rfl, ?_, fun z => by cases z⟩
    simp only [Tg.slots]
    simp [g, e, r, nt])
  rw [List.map_id'] at this
  rw [this]
  simp
theorem add_one {C : Cfg} (xs : List D) (x : D) (h : xs.length ≤ 1000) (μ : Mu) : opR C .add [.lst xs, .lst [x]] μ = .ok (.lst (xs ++ [x])) μ := add_lst _ _ (by simp; omega) μ
theorem V2 {F : Fl} {n A B : Nat} {a b : D} (ha : V F n A a) (hb : V F n B b) : V F (n + 1) (A + B + 7) (.tup [a, b]) := (V.tup (VL.cons ha (VL.one hb))).mono (Nat.le_refl _) (by omega)
theorem V3 {F : Fl} {n A B E : Nat} {a b c : D} (ha : V F n A a) (hb : V F n B b) (hc : V F n E c) : V F (n + 1) (A + B + E + 9) (.tup [a, b, c]) := (V.tup (VL.cons ha (VL.cons hb (VL.one hc)))).mono (Nat.le_refl _) (by omega)
theorem okx_rows (n : Nat) {l : List (List Rat)} (h : l.length ≤ 1000) (hr : ∀ r ∈ l, r.length ≤ 1000) : okx (n + 3) (rows l) = true := by
  rw [rows, okx_lst, List.length_map, decide_eq_true h, okxL_of]
  · rfl
  · intro x hx
    obtain ⟨r, hr', rfl⟩ := List.mem_map.mp hx
    exact okx_row n r (hr r hr')
theorem okx_lookD (n : Nat) {l : List (List Rat)} (h : l.length ≤ 1000) (hr : ∀ r ∈ l, r.length ≤ 1000) : okx (n + 4) (lookD l) = true := by
  rw [lookD, okx_tup, okxL_cons, okxL_cons, okx_rows n h hr]
  have : okx (n + 3) (.str (PySem.Str.ofString "look")) = true := (by decide +kernel : PyData.canLay0 (.str (PySem.Str.ofString "look")) = true)
  rw [this]; simp
theorem LookOk.okx {n w : Nat} {l : List (List Rat)} (h : LookOk n w l) (k : Nat) : PyE.okx (k + 4) (lookD l) = true := okx_lookD k (by have := h.len; omega) fun r hr => by have := (h.row r hr).1; have := h.wid; omega
theorem TabOk.okx {n m w : Nat} {l : List (List Rat)} (h : TabOk n m w l) (k : Nat) : PyE.okx (k + 3) (rows l) = true := okx_rows k (by have := h.len; have := h.pos; omega) fun r hr => by have := (h.row r hr).1; have := h.wid; omega
theorem add_rows {C : Cfg} (T U : List (List Rat)) (h : T.length + U.length ≤ 1000) (μ : Mu) : opR C .add [rows T, rows U] μ = .ok (rows (T ++ U)) μ := by
  rw [rows, rows, add_lst _ _ (by rw [List.length_map, List.length_map]; omega), ← List.map_append]; rfl
theorem add_rows1 {C : Cfg} (T : List (List Rat)) (r : List Rat) (h : T.length ≤ 900) (μ : Mu) : opR C .add [rows T, .lst [row r]] μ = .ok (rows (T ++ [r])) μ := add_rows T [r] (by simp; omega) μ
theorem tail_rows {C : Cfg} (T : List (List Rat)) (μ : Mu) : opR C (.slc true false) [rows T, .int 1] μ = .ok (rows T.tail) μ := by
  rw [rows, slc_from1, List.drop_one]
  cases T <;> rfl
theorem take_rows {C : Cfg} (T : List (List Rat)) (μ : Mu) : opR C (.slc false true) [rows T, .int 1] μ = .ok (rows (T.take 1)) μ := by
  have e : cut (T.map row) 0 (clamp 1 (T.map row).length) = (T.take 1).map row := by
    cases T with
    | nil => rfl
    | cons a r =>
      have : clamp 1 ((a :: r).map row).length = 1 := by
        unfold clamp
        rw [if_pos (by decide), List.length_map, List.length_cons]
        show min 1 (r.length + 1) = 1
        omega
      rw [this]; rfl
  show Res.ok (D.lst (cut (T.map row) 0 (clamp 1 (T.map row).length))) μ = _
  rw [e]; rfl
theorem next_of {m : Out} {x : Option D} {n : Nat} {t : List (Option D)} {μ : Mu} (h : m = .next (x :: t) μ) (hl : t.length = n) : ∃ (ts' : List (Option D)) (μ' : Mu), ts'.length = n ∧ m = .next (x :: ts') μ' := ⟨t, μ, hl, h⟩
@[simp] theorem lstN {C : Cfg} (vs : List D) (μ : Mu) : lift ((opS C μ .lst vs).bind prN) μ = .ok vs μ := (rfl)
theorem ne_nil0 {C : Cfg} (μ : Mu) : opR C .ne [.lst [], .lst []] μ = .ok (.bl false) μ := by
  rw [opR_ne (by simp) (by simp)]; rfl
/-- a list of asks that grows, beside a generator -/
structure Ask (n N : Nat) (M : Mu) (r : Nat) (A : List D) : Prop where
  G : Gn n N M
  at_ : M[r]? = some A
  ne : n ≠ r
  len : A.length ≤ 500
theorem Ask.new {n N : Nat} {M : Mu} {A : List D} (G : Gn n N M) (h : A.length ≤ 500) : Ask n N (M ++ [A]) M.length A :=
  ⟨G.app _, by rw [List.getElem?_append_right (Nat.le_refl _), Nat.sub_self]; rfl, by have := G.lt; omega, h⟩
theorem Ask.sum {C : Cfg} {n N r : Nat} {M : Mu} {A : List D} (h : Ask n N M r A) {ys : List D} (hy : ys.length ≤ 500) : lift ((opS C M .add [.ref r, .lst ys]).bind prN) M = .ok (A ++ ys) M := addN h.at_ (by have := h.len; omega)
theorem Ask.add {n N r : Nat} {M : Mu} {A : List D} (h : Ask n N M r A) {ys : List D} (hl : A.length + ys.length ≤ 500) : Ask n N (M ++ [A ++ ys]) M.length (A ++ ys) := Ask.new h.G (by rw [List.length_append]; exact hl)
theorem Ask.app {n N r : Nat} {M : Mu} {A : List D} (h : Ask n N M r A) (y : D) (hl : A.length + 1 ≤ 500) : mopS M .append (.ref r) [y] = some (.none, M.set r (A ++ [y])) ∧ Ask n N (M.set r (A ++ [y])) r (A ++ [y]) := by
  have hr : r < M.length := (List.getElem?_eq_some_iff.mp h.at_).1
  refine ⟨?_, ⟨?_, by rw [List.getElem?_set_self hr], h.ne, by rw [List.length_append]; exact hl⟩⟩
  · show (M[r]?).bind (fun xs => if xs.length < LIM then some (D.none, M.set r (xs ++ [y])) else none) = _
    rw [h.at_]
    show (if A.length < LIM then some (D.none, M.set r (A ++ [y])) else none) = _
    rw [if_pos (by have := h.len; unfold LIM; omega)]
  · obtain ⟨a, b, c, e, q⟩ := h.G
    exact ⟨a, b, c, by rw [List.getElem?_set_ne (fun z => h.ne z.symm)]; exact e, q⟩
theorem Ask.up {n N N' r : Nat} {M M' : Mu} {A : List D} (h : Ask n N M r A) (u : Up n M M') (G : Gn n N' M') : Ask n N' M' r A := by
  refine ⟨G, ?_, h.ne, h.len⟩
  obtain ⟨xs, rfl⟩ := u
  rw [List.getElem?_set_ne h.ne, h.at_]
theorem Ask.src {n N r : Nat} {M : Mu} {A : List D} (h : Ask n N M r A) : srcS M (.ref r) = some ⟨A, [(r, A)]⟩ := srcS_ref h.at_
theorem Ask.cm {n N r L i : Nat} {M : Mu} {A : List D} (h : Ask n N M r A) {ρ : Ro} (hi : i < ρ.length) (all : ∀ a ∈ A, AskOk L a) :
    cm C (run C tbl L) (.nm i) (.cons (.op .ne (.cons (.call f__law_caught [0, 1] (.cons (.op .idx (.cons (.v i) (.cons (.con (.int 0)) .nil))) (.cons (.op .idx (.cons (.v i) (.cons (.con (.int 1)) .nil))) .nil))) (.cons (.op .repr (.cons (.op .idx (.cons (.v i) (.cons (.con (.int 2)) .nil))) .nil)) .nil))) .nil) (.v i) ρ ((⟨A, [(r, A)]⟩ : Src).okAt) A M = .ok [] M := asks_cm hi (okAt_ref h.at_) all
theorem share_nn {r : Nat} : 0 ≤ mkRat (r : Int) 3 := mkRat_nn (by omega)
theorem share_le {r : Nat} (h : r ≤ 3) : mkRat (r : Int) 3 ≤ 1 := by
  have : r = 0 ∨ r = 1 ∨ r = 2 ∨ r = 3 := by omega
  rcases this with rfl | rfl | rfl | rfl <;> decide +kernel
end PyE
set_option maxRecDepth 100000
/-! what is no table, drawn -/
namespace PyE
open PySem
def badTabs (w : Nat) (Y : List D) (T : List (List Rat)) (R : List D) : List D :=
  [.none, .tup [], .lst [], .tup R, .lst (R.dropLast ++ [.none]), .lst (R.dropLast ++ [.tup Y]), .lst (List.replicate T.length (.lst []))] ++
  [.lst (if 1 < T.length then (T.dropLast.map fun r => .lst (r.map fr ++ [.tup [.int 0, .int 1]])) ++ [.lst Y] else [.lst [.tup [.int 1, .int 2]]])] ++
  [.lst (R.dropLast ++ [.lst (Y.tail ++ [.tup [.int 1, .int 97]])]), .lst (List.replicate T.length (.lst (.tup [.int 1, .int 1] :: List.replicate 8 (.tup [.int 0, .int 1])))), .lst (R.dropLast ++ [.lst (List.replicate w (.int 1))]), .lst (List.replicate T.length (.tup [.int 1, .int 1])), .dct] ++
  [.lst (.none :: R.tail), .lst (.lst (.tup [.int 1, .int 2] :: List.replicate (w - 1) (.tup [.int 0, .int 1])) :: R.tail)] ++
  (if 1 < w then [.lst (.lst (.tup [.int (-1), .int 1] :: .tup [.int 2, .int 1] :: List.replicate (w - 2) (.tup [.int 0, .int 1])) :: R.tail)] else [])
theorem bad_table_run (k : Nat) {μ : Mu} {n N m w : Nat} {T T' : List (List Rat)} {r0 y : List Rat} (h : TabOk 5 m w T) (hT : T = r0 :: T') (hy : T.getLast? = some y) {R Y : List D} (hR : R = T.map row) (hY : Y = y.map fr) (hN : N < 1000000000) (G : Gn n N μ) :
    ∃ (d : D) (μ' : Mu), d ∈ badTabs w Y T R ∧ Up n μ μ' ∧ Gn n (N + 1) μ' ∧ (rp 8 d = true → run C tbl (k + 4) f__law_bad_table [.ref n, rows T] μ = .ok d μ') := by
  have hm : 1 ≤ T.length ∧ T.length ≤ 8 := by have := h.len; have := h.pos; omega
  have hw := h.wid
  have w0 : r0.length = w := (h.row r0 (by rw [hT]; exact List.mem_cons_self ..)).1
  have nl := G.lt
  have sl : ∀ (X : List D) μ, opR C .idx [.lst (T.map row), .int 0] μ = .ok (row r0) μ := fun _ μ => by rw [hT]; exact opR_idx_lst0 _ _
  have i0 : ∀ μ, opR C .idx [rows T, .int 0] μ = .ok (row r0) μ := fun μ => sl [] μ
  have im : ∀ μ, opR C .idx [rows T, .int (-1)] μ = .ok (.lst Y) μ := fun μ => idx_m1 (by rw [List.getLast?_map, hy, hY]; rfl) μ
  have s1 : ∀ μ, opR C (.slc false true) [rows T, .int (-1)] μ = .ok (.lst R.dropLast) μ := fun μ => by rw [hR]; exact slc_tom1 _ μ
  have s2 : ∀ μ, opR C (.slc true false) [rows T, .int 1] μ = .ok (.lst R.tail) μ := fun μ => by rw [hR, ← List.drop_one]; exact slc_from1 _ μ
  have tu : ∀ μ, opR C .tuple [rows T] μ = .ok (.tup R) μ := fun μ => by rw [hR]; rfl
  have m4 : ∀ (x : D) μ, opR C .mul [.lst [x], .int (T.length : Int)] μ = .ok (.lst (List.replicate T.length x)) μ := fun x μ => mul_lst (C := C) x T.length (by omega) μ
  have m1 : ∀ (x : D) μ, opR C .mul [.lst [x], .int (w : Int)] μ = .ok (.lst (List.replicate w x)) μ := fun x μ => mul_lst (C := C) x w (by omega) μ
  have m8 : ∀ (x : D) μ, opR C .mul [.lst [x], .int 8] μ = .ok (.lst (List.replicate 8 x)) μ := fun x μ => mul_lst (C := C) x 8 (by omega) μ
  have mw1 : ∀ (x : D) μ, opR C .mul [.lst [x], .int ((w : Int) - 1)] μ = .ok (.lst (List.replicate (w - 1) x)) μ := fun x μ => by
    rw [mul_int _ _ (by omega) (by omega), show ((w : Int) - 1).toNat = w - 1 by omega]
  have mw2 : ∀ (x : D) μ, opR C .mul [.lst [x], .int ((w : Int) - 2)] μ = .ok (.lst (List.replicate (w - 2) x)) μ := fun x μ => by
    rw [mul_int _ _ (by omega) (by omega), show ((w : Int) - 2).toNat = w - 2 by omega]
  have cz : ∀ (a b c d : Option D) (μ : Mu), cm C (run C tbl (k + 3)) (.nm 4) .nil (.op .add (.cons (.v 4) (.cons (.op .lst (.cons (.op .tup (.cons (.con (.int 0)) (.cons (.con (.int 1)) .nil))) .nil)) .nil))) [a, b, c, d, none] (fun _ => true) R.dropLast μ = .ok (T.dropLast.map fun r => .lst (r.map fr ++ [.tup [.int 0, .int 1]])) μ := by
    intro a b c d μ
    rw [hR, ← List.map_dropLast]
    refine cm_map rfl fun r hr => ?_
    have hl := (h.row r ((List.dropLast_sublist T).subset hr)).1
    have ad := add_lst (C := C) (r.map fr) [.tup [.int 0, .int 1]] (by simp; omega) μ
    have ad' : opR C .add [row r, .lst [.tup [.int 0, .int 1]]] μ = _ := ad
    simp [wipe, Tg.slots, ad']
  have sf1 : ∀ μ, opR C (.slc true false) [.lst Y, .int 1] μ = .ok (.lst Y.tail) μ := fun μ => by rw [← List.drop_one]; exact slc_from1 _ μ
  have lst : ∀ (vs : List D) (μ : Mu), (lift ((opS C μ .lst vs).bind prN) μ) = .ok vs μ := fun vs μ => rfl
  have lT : ∀ μ, opR C .len [rows T] μ = .ok (.int (T.length : Int)) μ := fun μ => len_rows T
  have l0 : ∀ μ, opR C .len [row r0] μ = .ok (.int (w : Int)) μ := fun μ => by rw [len_row, w0]
  have hRl : R.length = T.length := by rw [hR, List.length_map]
  have ll : Y.length ≤ 8 := by
    rw [hY, List.length_map]
    have := (h.row y (List.mem_of_getLast? hy)).1
    omega
  obtain ⟨A, hA⟩ : ∃ A : List D, A = [.none, .tup [], .lst [], .tup R, .lst (R.dropLast ++ [.none]), .lst (R.dropLast ++ [.tup Y]), .lst (List.replicate T.length (.lst []))] := ⟨_, rfl⟩
  obtain ⟨B, hB⟩ : ∃ B : D, B = .lst (if 1 < T.length then (T.dropLast.map fun r => .lst (r.map fr ++ [.tup [.int 0, .int 1]])) ++ [.lst Y] else [.lst [.tup [.int 1, .int 2]]]) := ⟨_, rfl⟩
  obtain ⟨B3, hB3⟩ : ∃ B : List D, B = [.lst (R.dropLast ++ [.lst (Y.tail ++ [.tup [.int 1, .int 97]])]), .lst (List.replicate T.length (.lst (.tup [.int 1, .int 1] :: List.replicate 8 (.tup [.int 0, .int 1])))), .lst (R.dropLast ++ [.lst (List.replicate w (.int 1))]), .lst (List.replicate T.length (.tup [.int 1, .int 1])), .dct] := ⟨_, rfl⟩
  obtain ⟨B4, hB4⟩ : ∃ B : List D, B = [.lst (.none :: R.tail), .lst (.lst (.tup [.int 1, .int 2] :: List.replicate (w - 1) (.tup [.int 0, .int 1])) :: R.tail)] := ⟨_, rfl⟩
  obtain ⟨B5, hB5⟩ : ∃ B : List D, B = (if 1 < w then [.lst (.lst (.tup [.int (-1), .int 1] :: .tup [.int 2, .int 1] :: List.replicate (w - 2) (.tup [.int 0, .int 1])) :: R.tail)] else []) := ⟨_, rfl⟩
  have ib : ∀ (b : Bool) μ, opR C .int_ [.bl b] μ = .ok (.int (if b = true then 1 else 0)) μ := fun b μ => rfl
  have m11 : ∀ (x : D) μ, opR C .mul [.lst [x], .int 1] μ = .ok (.lst [x]) μ := fun x μ => mul_int x 1 (by decide) (by decide) μ
  have m00 : ∀ (x : D) μ, opR C .mul [.lst [x], .int 0] μ = .ok (.lst []) μ := fun x μ => mul_int x 0 (by decide) (by decide) μ
  have hbt : badTabs w Y T R = A ++ [B] ++ B3 ++ B4 ++ B5 := by rw [hA, hB, hB3, hB4, hB5]; rfl
  have b5l : B5.length ≤ 1 := by rw [hB5]; split <;> simp
  have hlen : (badTabs w Y T R).length ≤ 16 := by
    rw [hbt, List.length_append, List.length_append, List.length_append, List.length_append, hA, hB3, hB4]
    simp
    omega
  obtain ⟨μ1, hμ1⟩ : ∃ μ1, μ1 = μ ++ [A ++ [B], A ++ [B] ++ B3, A ++ [B] ++ B3 ++ B4, badTabs w Y T R] := ⟨_, rfl⟩
  obtain ⟨d, μ2, hd, u2, G2, e⟩ := pick_ref k (n := n) (N := N) (μ := μ1) (r := μ.length + 1 + 1 + 1) (xs := badTabs w Y T R) (by rw [hμ1, List.getElem?_append_right (by omega), show μ.length + 1 + 1 + 1 - μ.length = 3 by omega]; rfl) (by omega) (by rw [hbt, hA]; simp) (by omega) hN (by rw [hμ1]; exact G.app _)
  rw [hμ1] at u2
  obtain ⟨μ', u', rfl⟩ := u2.cut nl
  have nl' : n < μ'.length := by rw [u'.length]; exact nl
  have G' := G2.cut nl'
  refine ⟨d, μ', hd, u', G', fun hr => ?_⟩
  rw [run__law_bad_table]
  refine call_go rfl rfl rfl ?_ (leave_cut (cs := [A ++ [B], A ++ [B] ++ B3, A ++ [B] ++ B3 ++ B4, badTabs w Y T R]) u' G' hr)
  show eS C (run C tbl (k + 3)) b__law_bad_table [some (.ref n), some (rows T), none, none, none] μ = _
  unfold b__law_bad_table
  have key : ∀ b1 b2 : Bool, (∀ μ, opR C .gt [.int (T.length : Int), .int 1] μ = .ok (.bl b1) μ) → (∀ μ, opR C .gt [.int (w : Int), .int 1] μ = .ok (.bl b2) μ) →
      B = .lst (if b1 = true then (T.dropLast.map fun r => .lst (r.map fr ++ [.tup [.int 0, .int 1]])) ++ [.lst Y] else [.lst [.tup [.int 1, .int 2]]]) →
      B5 = (if b2 = true then [.lst (.lst (.tup [.int (-1), .int 1] :: .tup [.int 2, .int 1] :: List.replicate (w - 2) (.tup [.int 0, .int 1])) :: R.tail)] else []) → 
      eS C (run C tbl (k + 3)) b__law_bad_table [some (.ref n), some (rows T), none, none, none] μ = .ret d (μ' ++ [A ++ [B], A ++ [B] ++ B3, A ++ [B] ++ B3 ++ B4, badTabs w Y T R]) := by
    intro b1 b2 g1 g2 q1 q2
    rw [hμ1, hbt] at e
    rw [hbt]
    clear hbt hlen b5l hμ1 hd hB hB5
    subst hA hB3 hB4
    unfold b__law_bad_table
    cases b1 <;> cases b2 <;> (
      first | rw [if_pos rfl] at q1 | rw [if_neg (by decide)] at q1
      first | rw [if_pos rfl] at q2 | rw [if_neg (by decide)] at q2
      subst q1 q2
      apply eS_go
      case h =>
        simp (maxSteps := 5000000) (disch := (first | omega | (simp; done) | (simp; omega))) [tu, s1, s2, m4, im, tuple_lst, add_lst, lst, lT] <;> exact ⟨rfl, rfl⟩
      apply eS_go
      case h =>
        simp (maxSteps := 5000000) (disch := (first | omega | (simp; done) | (simp; omega))) [lT, g1, s1, cz, add_lst, im, app_last, lift2] <;> exact ⟨rfl, rfl⟩
      apply eS_go
      case h =>
        simp (maxSteps := 5000000) (disch := (first | omega | (simp; done) | (simp; omega))) [lT, i0, s1, im, m4, m8, m1, l0, add_lst, sf1, addN0] <;> exact ⟨rfl, rfl⟩
      apply eS_go
      case h =>
        simp (maxSteps := 5000000) (disch := (first | omega | (simp; done) | (simp; omega))) [i0, l0] <;> exact ⟨rfl, rfl⟩
      apply eS_go
      case h =>
        simp (maxSteps := 5000000) (disch := (first | omega | (simp; done) | (simp; omega))) [s2, add_lst, mw1, addN1, sub_int] <;> exact ⟨rfl, rfl⟩
      apply eS_go
      case h =>
        simp (maxSteps := 5000000) (disch := (first | omega | (simp; done) | (simp; omega))) [s2, add_lst, mw2, addN2, sub_int, g2, ib, m11, m00] <;> exact ⟨rfl, rfl⟩
      simp at e ⊢
      simp [e])
  have w1 : ∀ μ, opR C .gt [.int (T.length : Int), .int 1] μ = .ok (.bl (decide (1 < T.length))) μ := fun μ => by
    rw [opR_gt, show decide ((1 : Int) < (T.length : Int)) = decide (1 < T.length) from decide_eq_decide.mpr ⟨fun h => by omega, fun h => by omega⟩]
  have w2 : ∀ μ, opR C .gt [.int (w : Int), .int 1] μ = .ok (.bl (decide (1 < w))) μ := fun μ => by
    rw [opR_gt, show decide ((1 : Int) < (w : Int)) = decide (1 < w) from decide_eq_decide.mpr ⟨fun h => by omega, fun h => by omega⟩]
  exact key _ _ w1 w2 (by rw [hB]; simp) (by rw [hB5]; simp)
end PyE
set_option maxRecDepth 100000
namespace PyE
open PySem
theorem anyB_mem {m : Nat} {L : List D} {one : D} (hm : one ∈ L) (h : ∀ n, chB n one = false) : anyB m (.lst L) = false := by
  unfold anyB
  split
  · rename_i r0 rs heq
    simp at heq
    subst heq
    have : (D.lst r0 :: rs).all (chB r0.length) = false := by
      rw [List.all_eq_false]
      exact ⟨one, hm, by rw [h]; decide⟩
    rw [this, Bool.and_false]
  · rfl
theorem anyB_head {m : Nat} {L : List D} {x : D} (h : ∀ n, 1 ≤ n → n ≤ m → (∃ r0, x = .lst r0 ∧ r0.length = n) → chB n x = false) : anyB m (.lst (x :: L)) = false := by
  unfold anyB
  split
  · rename_i r0 rs heq
    simp at heq
    obtain ⟨rfl, rfl⟩ := heq
    by_cases h1 : 1 ≤ r0.length
    · by_cases h2 : r0.length ≤ m
      · have := h r0.length h1 h2 ⟨r0, rfl, rfl⟩
        rw [List.all_cons, this]
        simp
      · rw [decide_eq_false h2]; simp
    · rw [decide_eq_false h1]; simp
  · rfl
theorem anyB_hd {m : Nat} {L : List D} {x : D} (h : ∀ n, chB n x = false) : anyB m (.lst (x :: L)) = false := anyB_mem (List.mem_cons_self ..) h
theorem tail97 {r : List Rat} (h : r ≠ []) (hs : r.sum = 1) (hq : ∀ q ∈ r, Bd 5 q) (n : Nat) : chB n (.lst ((r.map fr).tail ++ [.tup [.int 1, .int 97]])) = false := by
  obtain ⟨q, r', rfl⟩ : ∃ q r', r = q :: r' := by
    cases r with
    | nil => exact absurd rfl h
    | cons q r' => exact ⟨q, r', rfl⟩
  refine chB_sum ?_
  rw [List.map_cons, List.tail_cons, List.map_append, ratOf_map, List.sum_append]
  show r'.sum + ([mkRat 1 97] : List Rat).sum ≠ 1
  rw [List.sum_cons] at hs
  intro z
  have e : q = mkRat 1 97 := by
    have : ([mkRat 1 97] : List Rat).sum = mkRat 1 97 := by rw [List.sum_cons, List.sum_nil, Rat.add_zero]
    rw [this] at z
    grind
  have b := (hq q (List.mem_cons_self ..)).2
  rw [e] at b
  exact absurd b (by decide +kernel)
theorem badTabs_no {m w : Nat} {T : List (List Rat)} {y : List Rat} {R Y : List D} (h : TabOk 5 m w T) (hy : T.getLast? = some y) (hR : R = T.map row) (hY : Y = y.map fr) : ∀ d ∈ badTabs w Y T R, anyB 8 d = false := by
  intro d hd
  have hw := h.wid
  have hm : 1 ≤ T.length := by have := h.len; have := h.pos; omega
  have hyT := h.row y (List.mem_of_getLast? hy)
  have y0 : y ≠ [] := fun z => by rw [z] at hyT; have := hyT.1; simp at this; omega
  have nonC : ∀ n, chB n .none = false := fun _ => rfl
  have last : ∀ {one : D}, (∀ n, chB n one = false) → anyB 8 (.lst (R.dropLast ++ [one])) = false := fun h => anyB_mem (List.mem_append_right _ (List.mem_singleton.mpr rfl)) h
  have rep : ∀ {x : D}, (∀ n, 1 ≤ n → n ≤ 8 → (∃ r0, x = .lst r0 ∧ r0.length = n) → chB n x = false) → anyB 8 (.lst (List.replicate T.length x)) = false := fun {x} hx => by
    obtain ⟨j, hj⟩ : ∃ j, T.length = j + 1 := ⟨T.length - 1, by omega⟩
    rw [hj, List.replicate_succ]
    exact anyB_head hx
  unfold badTabs at hd
  simp only [List.mem_append, List.mem_cons, List.not_mem_nil, or_false] at hd
  rcases hd with (((((rfl | rfl | rfl | rfl | rfl | rfl | rfl) | rfl) | (rfl | rfl | rfl | rfl | rfl)) | (rfl | rfl)) | hd)
  · rfl
  · rfl
  · rfl
  · rfl
  · exact last nonC
  · exact last fun _ => rfl
  · exact rep fun n h1 _ ⟨r0, e, hl⟩ => by cases e; simp at hl; omega
  · by_cases h1 : 1 < T.length
    · rw [if_pos h1]
      obtain ⟨r0, r1, T', rfl⟩ : ∃ r0 r1 T', T = r0 :: r1 :: T' := by
        match T, h1 with
        | r0 :: r1 :: T', _ => exact ⟨r0, r1, T', rfl⟩
        | [_], h1 => simp at h1
        | [], h1 => simp at h1
      rw [List.dropLast_cons_cons, List.map_cons, List.cons_append]
      have l0 := (h.row r0 (List.mem_cons_self ..)).1
      have : (D.lst (r0.map fr ++ [.tup [.int 0, .int 1]]) :: (((r1 :: T').dropLast.map fun r => .lst (r.map fr ++ [.tup [.int 0, .int 1]])) ++ [.lst Y])).all (chB (r0.map fr ++ [D.tup [.int 0, .int 1]]).length) = false := by
        rw [List.all_eq_false]
        refine ⟨.lst Y, List.mem_cons_of_mem _ (List.mem_append_right _ (List.mem_singleton.mpr rfl)), ?_⟩
        rw [chB_len]
        · decide
        · rw [hY]
          simp [l0, hyT.1]
      show (_ && _ && List.all _ _) = false
      rw [this, Bool.and_false]
    · rw [if_neg h1]
      exact anyB_hd fun n => chB_sum (by decide +kernel)
  · rw [hY]; exact last (tail97 y0 hyT.2.2 fun q hq => (hyT.2.1 q hq).1)
  · exact rep fun n _ h8 ⟨r0, e, hl⟩ => by
      cases e
      simp at hl
      omega
  · exact last fun n => chB_am (one := .int 1) (List.mem_replicate.mpr ⟨by omega, rfl⟩) rfl
  · exact rep fun n _ _ ⟨r0, e, _⟩ => by cases e
  · rfl
  · exact anyB_hd nonC
  · refine anyB_hd fun n => chB_sum ?_
    rw [List.map_cons, List.map_replicate, show ratOf (.tup [.int 0, .int 1]) = 0 from by decide +kernel, List.sum_cons, sum_rep0, show ratOf (.tup [.int 1, .int 2]) = mkRat 1 2 from rfl]
    decide +kernel
  · split at hd
    · rw [List.mem_singleton] at hd
      subst hd
      exact anyB_hd fun n => chB_am (one := .tup [.int (-1), .int 1]) (List.mem_cons_self ..) (by decide +kernel)
    · simp at hd
theorem badTabs_V {m w : Nat} {T : List (List Rat)} {y : List Rat} {R Y : List D} (h : TabOk 5 m w T) (hy : T.getLast? = some y) (hR : R = T.map row) (hY : Y = y.map fr) : ∀ d ∈ badTabs w Y T R, d = .dct ∨ V F4 4 200000 d := by
  intro d hd
  have hw := h.wid
  have hm : T.length ≤ 8 := by have := h.len; have := h.pos; omega
  have hyT := h.row y (List.mem_of_getLast? hy)
  have X : ∀ r ∈ T, VL F4 1 9672 (r.map fr) := fun r hr => (VL.map (A := 1207) fun q hq' => V.fr (((h.row r hr).2.1 q hq').1.mono (by decide))).mono (Nat.le_refl _) (by have := Nat.mul_le_mul_right 1209 (show r.length ≤ 8 by have := (h.row r hr).1; omega); omega)
  have RV : VL F4 2 77416 R := by
    rw [hR]
    exact (VL.map (A := 9675) fun r hr => V.lst (X r hr)).mono (Nat.le_refl _) (by have := Nat.mul_le_mul_right 9677 hm; omega)
  have YV : VL F4 1 9672 Y := by rw [hY]; exact X y (List.mem_of_getLast? hy)
  have YT : VL F4 1 9672 Y.tail := by rw [← List.drop_one]; exact YV.drop1
  have RT : VL F4 2 77416 R.tail := by rw [← List.drop_one]; exact RV.drop1
  have L : ∀ {xs : List D} {A n : Nat}, VL F4 n A xs → n ≤ 3 → A ≤ 190000 → V F4 4 200000 (.lst xs) := fun h hn hA => (V.lst h).mono (by omega) (by omega)
  have last : ∀ {one : D} {A : Nat}, V F4 2 A one → A ≤ 90000 → V F4 4 200000 (.lst (R.dropLast ++ [one])) := fun h hA => L (RV.dropLast.append (VL.one h)) (by decide) (by omega)
  unfold badTabs at hd
  simp only [List.mem_append, List.mem_cons, List.not_mem_nil, or_false] at hd
  rcases hd with (((((rfl | rfl | rfl | rfl | rfl | rfl | rfl) | rfl) | (rfl | rfl | rfl | rfl | rfl)) | (rfl | rfl)) | hd)
  · exact .inr (V.none.mono (Nat.le_refl _) (by decide))
  · exact .inr ((V.tup (n := 0) (VL.nil (B := 0))).mono (by decide) (by decide))
  · exact .inr ((V.lst (n := 0) (VL.nil (B := 0))).mono (by decide) (by decide))
  · exact .inr ((V.tup RV).mono (by decide) (by decide))
  · exact .inr (last V.none (by decide))
  · exact .inr (last (V.tup YV) (by decide))
  · exact .inr (L (VL.rep1 (V.lst (n := 0) (VL.nil (B := 0))) _) (by decide) (by omega))
  · refine .inr ?_
    split
    · refine L (((VL.map (A := 10900) fun r hr => (V.lst ((X r ((List.dropLast_sublist T).subset hr)).append (VL.one (V.tI (a := 0) (b := 1))))).mono (Nat.le_refl _) (by decide)).append (VL.one (V.lst YV))).mono (Nat.le_refl _) (Nat.le_refl _)) (by decide) ?_
      have : T.dropLast.length ≤ 8 := by rw [List.length_dropLast]; omega
      have := Nat.mul_le_mul_right 10902 this
      omega
    · exact L (VL.one (V.lst (VL.one (V.tI (n := 0))))) (by decide) (by decide)
  · exact .inr (last (V.lst (YT.append (VL.one V.tI))) (by decide))
  · exact .inr (L (VL.rep1 (V.lst (VL.cons (V.tI (n := 0) (a := 1) (b := 1)) (VL.rep1 (V.tI (a := 0) (b := 1)) 8))) _) (by decide) (by have := Nat.mul_le_mul_right (1207 + 2 + 8 * (1207 + 2) + 3 + 2) hm; omega))
  · exact .inr (last (V.lst (VL.rep1 (n := 1) (V.int' (i := 1) (by decide)) w)) (by have := Nat.mul_le_mul_right 602 hw.2; omega))
  · exact .inr (L (VL.rep1 (V.tI (n := 0) (a := 1) (b := 1)) _) (by decide) (by have := Nat.mul_le_mul_right 1209 hm; omega))
  · exact .inl rfl
  · exact .inr (L (VL.cons V.none RT) (by decide) (by decide))
  · exact .inr (L (VL.cons (V.lst (VL.cons (V.tI (n := 0)) (VL.rep1 (V.tI (a := 0) (b := 1)) (w - 1)))) RT) (by decide) (by have := Nat.mul_le_mul_right 1209 (show w - 1 ≤ 8 by omega); omega))
  · split at hd
    · rw [List.mem_singleton] at hd
      subst hd
      exact .inr (L (VL.cons (V.lst (VL.cons (V.tI (n := 0)) (VL.cons V.tI (VL.rep1 (V.tI (a := 0) (b := 1)) (w - 2))))) RT) (by decide) (by have := Nat.mul_le_mul_right 1209 (show w - 2 ≤ 8 by omega); omega))
    · simp at hd
/-- a value that is no table -/
structure BadTab (d : D) : Prop where
  v : V FD 4 200000 d
  ok : okd 60 d = true ∨ d = .dct
  no : anyB 8 d = false
theorem bad_table_ok (k : Nat) {μ : Mu} {n N m w : Nat} {T : List (List Rat)} (h : TabOk 5 m w T) (hN : N < 1000000000) (G : Gn n N μ) :
    ∃ (d : D) (μ' : Mu), BadTab d ∧ Up n μ μ' ∧ Gn n (N + 1) μ' ∧ run C tbl (k + 4) f__law_bad_table [.ref n, rows T] μ = .ok d μ' := by
  obtain ⟨r0, T', hT, _⟩ := h.head
  obtain ⟨y, hy⟩ : ∃ y, T.getLast? = some y := ⟨T.getLast (by rw [hT]; simp), List.getLast?_eq_some_getLast _⟩
  obtain ⟨d, μ', hd, u, G', e⟩ := bad_table_run k h hT hy rfl rfl hN G
  have no := badTabs_no h hy rfl rfl d hd
  rcases badTabs_V h hy rfl rfl d hd with rfl | v
  · exact ⟨_, μ', ⟨V.dct (n := 3) |>.mono (Nat.le_refl _) (by decide), .inr rfl, no⟩, u, G', e (by decide)⟩
  · exact ⟨_, μ', ⟨v.fl, .inl v.okd60, no⟩, u, G', e (rp_mono 4 8 d (by decide) v.rp)⟩
end PyE
set_option maxRecDepth 100000
namespace PyE
open PySem
theorem caught0 (k : Nat) (μ : Mu) {x0 x1 v : D} {c : Fid} {b1 b2 b3 : Bool} (hc : C.sub c c_LookError = true) (s1 : C.sub c c_InvalidLook = b1) (s2 : C.sub c c_InvalidTable = b2) (s3 : C.sub c c_Unlike = b3)
    (h : run C tbl (k + 9) f_blurred [x0, x1] μ = .exc c v μ) (hx : V FD 29 14000000 (.tup [x0, x1])) (hv : V FD 29 14000000 v) :
    run C tbl (k + 10) f__law_caught [.int 0, .tup [x0, x1]] μ = .ok (txt (.lst [.bl b1, .bl b2, .bl b3, v])) μ := by
  have r1 := repr_ok (C := C) (μ := μ) (hx.rp (by decide)) (by decide) (Nat.le_trans hx.wt (by decide))
  have n1 := ne_txt (C := C) (μ := μ) (hx.rp (by decide))
  have w : V FD 30 15000000 (.lst [.bl b1, .bl b2, .bl b3, v]) := (V.lst (VL.cons (V.bl b1) (VL.cons (V.bl b2) (VL.cons (V.bl b3) (VL.one hv))))).mono (by decide) (by decide)
  have r2 := repr_ok (C := C) (μ := μ) (w.rp (by decide)) (by decide) (Nat.le_trans w.wt (by decide))
  rw [run__law_caught]
  simp [call1, df__law_caught, b__law_caught, r1, n1, h, hc, s1, s2, s3, add_one, r2]
theorem caught1 (k : Nat) (μ : Mu) {x0 x1 x2 v : D} {c : Fid} {b1 b2 b3 : Bool} (hc : C.sub c c_LookError = true) (s1 : C.sub c c_InvalidLook = b1) (s2 : C.sub c c_InvalidTable = b2) (s3 : C.sub c c_Unlike = b3)
    (h : run C tbl (k + 9) f_tables_behind [x1, x2] μ = .exc c v μ) (hx : V FD 29 14000000 (.tup [x0, x1, x2])) (hv : V FD 29 14000000 v) :
    run C tbl (k + 10) f__law_caught [.int 1, .tup [x0, x1, x2]] μ = .ok (txt (.lst [.bl b1, .bl b2, .bl b3, v])) μ := by
  have r1 := repr_ok (C := C) (μ := μ) (hx.rp (by decide)) (by decide) (Nat.le_trans hx.wt (by decide))
  have n1 := ne_txt (C := C) (μ := μ) (hx.rp (by decide))
  have w : V FD 30 15000000 (.lst [.bl b1, .bl b2, .bl b3, v]) := (V.lst (VL.cons (V.bl b1) (VL.cons (V.bl b2) (VL.cons (V.bl b3) (VL.one hv))))).mono (by decide) (by decide)
  have r2 := repr_ok (C := C) (μ := μ) (w.rp (by decide)) (by decide) (Nat.le_trans w.wt (by decide))
  rw [run__law_caught]
  simp [call1, df__law_caught, b__law_caught, r1, n1, h, hc, s1, s2, s3, add_one, r2]
end PyE
set_option maxRecDepth 100000
namespace PyE
open PySem
theorem blurred_exc1 (k : Nat) (μ : Mu) {d x : D} (h : BadLook d) : run C tbl (k + 9) f_blurred [d, x] μ = .exc c_InvalidLook d μ := by
  have e := check_look_any (k + 1) μ (h.v.sm) (h.v.rp) h.no
  rw [run_blurred]
  simp [call1, df_blurred, b_blurred, e]
theorem blurred_exc2 (k : Nat) (μ : Mu) {d : D} {l : List (List Rat)} {n m : Nat} (L : LookOk n m l) (hn : n ≤ 400) (h : sm d = true) (ho : okd 60 d = true ∨ d = .dct) (hb : tabB m d = false) : run C tbl (k + 9) f_blurred [lookD l, d] μ = .exc c_InvalidTable d μ := by
  have e := check_table_any k μ L h ho
  rw [hb] at e
  rw [run_blurred]
  simp [call1, df_blurred, b_blurred, e, check_look_ok (k + 1) μ L hn]
theorem tables_exc1 (k : Nat) (μ : Mu) {d x : D} (h : sm d = true) (ho : okd 60 d = true ∨ d = .dct) (hb : tab8B d = false) : run C tbl (k + 9) f_tables_behind [d, x] μ = .exc c_InvalidTable d μ := by
  have e := check_any_table_any k μ h ho
  rw [hb] at e
  rw [run_tables_behind]
  simp [call1, df_tables_behind, b_tables_behind, e]
theorem tables_exc2 (k : Nat) (μ : Mu) {d : D} {T : List (List Rat)} {n m w : Nat} (hT : TabOk n m w T) (hn : n ≤ 400) (h : sm d = true) (ho : okd 60 d = true ∨ d = .dct) (hb : tab8B d = false) : run C tbl (k + 9) f_tables_behind [rows T, d] μ = .exc c_InvalidTable d μ := by
  have e := check_any_table_any k μ h ho
  rw [hb] at e
  rw [run_tables_behind]
  simp [call1, df_tables_behind, b_tables_behind, e, check_any_table_ok k μ hT hn]
theorem tables_exc3 (k : Nat) (μ : Mu) {T U : List (List Rat)} {n n' m w m' w' : Nat} (hT : TabOk n m w T) (hU : TabOk n' m' w' U) (hn : n ≤ 400) (hn' : n' ≤ 400) (hne : m' ≠ w) : run C tbl (k + 9) f_tables_behind [rows T, rows U] μ = .exc c_Unlike (rows U) μ := by
  obtain ⟨r0, T', hT0, hw⟩ := hT.head
  have i0 : ∀ {μ : Mu}, opR C .idx [rows T, .int 0] μ = .ok (row r0) μ := fun {μ} => by rw [hT0]; exact idx0_rows
  have hl := hU.len
  have hne' : ¬ ((m' : Int) = (w : Int)) := by omega
  rw [run_tables_behind]
  simp [call1, df_tables_behind, b_tables_behind, check_any_table_ok k μ hT hn, check_any_table_ok k μ hU hn', i0, hw, hl, hne']
theorem BadTab.tab {d : D} (h : BadTab d) (m : Nat) : tabB m d = false := by unfold tabB; rw [h.no]; rfl
theorem BadTab.tab8 {d : D} (h : BadTab d) : tab8B d = false := by unfold tab8B; rw [h.no]; rfl
section
variable {v x0 x1 x2 : D} {k : Nat}
theorem ask0 {c : Fid} {b1 b2 b3 : Bool} (hc : C.sub c c_LookError = true) (s1 : C.sub c c_InvalidLook = b1) (s2 : C.sub c c_InvalidTable = b2) (s3 : C.sub c c_Unlike = b3)
    (h : ∀ μ, run C tbl (k + 9) f_blurred [x0, x1] μ = .exc c v μ) (hx : V FD 29 14000000 (.tup [x0, x1])) (hv : V FD 29 14000000 v) : AskOk (k + 10) (.tup [.int 0, .tup [x0, x1], .lst [.bl b1, .bl b2, .bl b3, v]]) :=
  ⟨_, _, _, rfl, fun μ => caught0 k μ hc s1 s2 s3 (h μ) hx hv, (V.lst (VL.cons (V.bl b1) (VL.cons (V.bl b2) (VL.cons (V.bl b3) (VL.one hv))))).mono (by decide) (by decide)⟩
theorem ask1 {c : Fid} {b1 b2 b3 : Bool} (hc : C.sub c c_LookError = true) (s1 : C.sub c c_InvalidLook = b1) (s2 : C.sub c c_InvalidTable = b2) (s3 : C.sub c c_Unlike = b3)
    (h : ∀ μ, run C tbl (k + 9) f_tables_behind [x1, x2] μ = .exc c v μ) (hx : V FD 29 14000000 (.tup [x0, x1, x2])) (hv : V FD 29 14000000 v) : AskOk (k + 10) (.tup [.int 1, .tup [x0, x1, x2], .lst [.bl b1, .bl b2, .bl b3, v]]) :=
  ⟨_, _, _, rfl, fun μ => caught1 k μ hc s1 s2 s3 (h μ) hx hv, (V.lst (VL.cons (V.bl b1) (VL.cons (V.bl b2) (VL.cons (V.bl b3) (VL.one hv))))).mono (by decide) (by decide)⟩
end
def xS : D := .str (Str.ofString "x")
theorem xS_V {F : Fl} {n : Nat} : V F n 10 xS := V.str (by decide +kernel) (by decide +kernel)
/-- all that is asked -/
def asksL (l T U N9 : List (List Rat)) (o0 : List Rat) (s b : D) : List D :=
  [.tup [.int 0, .tup [s, b], .lst [.bl true, .bl false, .bl false, s]], .tup [.int 0, .tup [lookD l, b], .lst [.bl false, .bl true, .bl false, b]], .tup [.int 1, .tup [.none, b, xS], .lst [.bl false, .bl true, .bl false, b]]] ++
  [.tup [.int 0, .tup [lookD l, rows (T ++ T)], .lst [.bl false, .bl true, .bl false, rows (T ++ T)]], .tup [.int 1, .tup [.none, rows T, b], .lst [.bl false, .bl true, .bl false, b]]] ++
  [.tup [.int 1, .tup [.none, rows T, rows (U ++ [o0])], .lst [.bl false, .bl false, .bl true, rows (U ++ [o0])]]] ++
  (if 1 < T.length then [.tup [.int 0, .tup [lookD l, rows T.tail], .lst [.bl false, .bl true, .bl false, rows T.tail]]] else []) ++
  [.tup [.int 1, .tup [.none, rows N9, xS], .lst [.bl false, .bl true, .bl false, rows N9]], .tup [.int 1, .tup [.none, rows T, rows N9], .lst [.bl false, .bl true, .bl false, rows N9]]]
theorem tabB_len {m w n : Nat} {T : List (List Rat)} (h : T.length ≠ m) : tabB m (rows T) = false := by
  unfold tabB
  show (_ && decide ((T.map row).length = m)) = false
  rw [List.length_map, decide_eq_false h, Bool.and_false]
theorem tab8B_len {T : List (List Rat)} (h : 8 < T.length) : tab8B (rows T) = false := by
  unfold tab8B
  show (_ && decide ((T.map row).length ≤ 8)) = false
  rw [List.length_map, decide_eq_false (by omega), Bool.and_false]
theorem asks_all (k : Nat) {l T U N9 : List (List Rat)} {o0 : List Rat} {s b : D} {m w v : Nat} (L : LookOk 5 m l) (hT : TabOk 5 m w T) (hU : TabOk 5 w v U) (hw : w ≤ 5) (ho : o0 ∈ U) (hs : BadLook s) (hb : BadTab b) (h9 : RowsOk 5 8 N9) (l9 : N9.length = 9) : ∀ a ∈ asksL l T U N9 o0 s b, AskOk (k + 10) a := by
  intro a ha
  have hTl := hT.len
  have hUl := hU.len
  have hm := hT.pos
  have LV : V FD 10 60000 (lookD l) := L.V (by decide) 6
  have TV : ∀ {Q : List (List Rat)} {w' : Nat}, RowsOk 5 w' Q → Q.length ≤ 16 → V FD 10 200000 (rows Q) := fun h hl => (h.V (by decide) hl 7).mono (Nat.le_refl _) (by decide)
  have bV : V FD 10 200000 b := hb.v.mono (by decide) (Nat.le_refl _)
  have sV : V FD 10 1000000 s := (hs.v.fl (G := FD)).mono (by decide) (Nat.le_refl _)
  have rT := hT.rowsOk
  have rTT : RowsOk 5 w (T ++ T) := ⟨by simp [rT.ne], rT.wid, fun r hr => by rcases List.mem_append.mp hr with h | h <;> exact rT.row r h⟩
  have tU : TabOk 5 (w + 1) v (U ++ [o0]) := ⟨by rw [List.length_append, hUl]; rfl, hU.wid, ⟨by omega, by omega⟩, fun r hr => by
    rcases List.mem_append.mp hr with h | h
    · exact hU.row r h
    · rw [List.mem_singleton.mp h]; exact hU.row o0 ho⟩
  have up : ∀ {x : D} {A n : Nat}, V FD n A x → n ≤ 29 → A ≤ 14000000 → V FD 29 14000000 x := fun h hn hA => h.mono hn hA
  have smr : ∀ {Q : List (List Rat)} {w' : Nat}, RowsOk 5 w' Q → Q.length ≤ 16 → sm (rows Q) = true := fun h hl => (TV h hl).sm
  unfold asksL at ha
  simp only [List.mem_append, List.mem_cons, List.not_mem_nil, or_false] at ha
  rcases ha with (((((rfl | rfl | rfl) | (rfl | rfl)) | rfl) | ha) | (rfl | rfl))
  · exact ask0 (c := c_InvalidLook) (by simp) (by simp) (by simp) (by simp) (fun μ => blurred_exc1 k μ hs) (up (V2 sV bV) (by decide) (by decide)) (up sV (by decide) (by decide))
  · exact ask0 (c := c_InvalidTable) (by simp) (by simp) (by simp) (by simp) (fun μ => blurred_exc2 k μ L (by decide) hb.v.sm hb.ok (hb.tab m)) (up (V2 LV bV) (by decide) (by decide)) (up bV (by decide) (by decide))
  · exact ask1 (c := c_InvalidTable) (by simp) (by simp) (by simp) (by simp) (fun μ => tables_exc1 k μ hb.v.sm hb.ok hb.tab8) (up (V3 V.none bV xS_V) (by decide) (by decide)) (up bV (by decide) (by decide))
  · have hl : (T ++ T).length ≤ 16 := by rw [List.length_append]; omega
    exact ask0 (c := c_InvalidTable) (by simp) (by simp) (by simp) (by simp) (fun μ => blurred_exc2 k μ L (by decide) (smr rTT hl) (.inl (okd_rows 57 _)) (tabB_len (w := 0) (n := 0) (by rw [List.length_append]; omega))) (up (V2 LV (TV rTT hl)) (by decide) (by decide)) (up (TV rTT hl) (by decide) (by decide))
  · exact ask1 (c := c_InvalidTable) (by simp) (by simp) (by simp) (by simp) (fun μ => tables_exc2 k μ hT (by decide) hb.v.sm hb.ok hb.tab8) (up (V3 V.none (TV rT (by omega)) bV) (by decide) (by decide)) (up bV (by decide) (by decide))
  · exact ask1 (c := c_Unlike) (by simp) (by simp) (by simp) (by simp) (fun μ => tables_exc3 k μ hT tU (by decide) (by decide) (by omega)) (up (V3 V.none (TV rT (by omega)) (TV tU.rowsOk (by rw [tU.len]; omega))) (by decide) (by decide)) (up (TV tU.rowsOk (by rw [tU.len]; omega)) (by decide) (by decide))
  · split at ha
    · rename_i h1
      rw [List.mem_singleton] at ha
      subst ha
      have lt : T.tail.length = m - 1 := by rw [List.length_tail, hTl]
      have rt : RowsOk 5 w T.tail := ⟨fun z => by rw [z] at lt; simp at lt; omega, rT.wid, fun r hr => rT.row r (List.mem_of_mem_tail hr)⟩
      exact ask0 (c := c_InvalidTable) (by simp) (by simp) (by simp) (by simp) (fun μ => blurred_exc2 k μ L (by decide) (smr rt (by omega)) (.inl (okd_rows 57 _)) (tabB_len (w := 0) (n := 0) (by omega))) (up (V2 LV (TV rt (by omega))) (by decide) (by decide)) (up (TV rt (by omega)) (by decide) (by decide))
    · simp at ha
  · exact ask1 (c := c_InvalidTable) (by simp) (by simp) (by simp) (by simp) (fun μ => tables_exc1 k μ (smr h9 (by omega)) (.inl (okd_rows 57 _)) (tab8B_len (by omega))) (up (V3 V.none (TV h9 (by omega)) xS_V) (by decide) (by decide)) (up (TV h9 (by omega)) (by decide) (by decide))
  · exact ask1 (c := c_InvalidTable) (by simp) (by simp) (by simp) (by simp) (fun μ => tables_exc2 k μ hT (by decide) (smr h9 (by omega)) (.inl (okd_rows 57 _)) (tab8B_len (by omega))) (up (V3 V.none (TV rT (by omega)) (TV h9 (by omega))) (by decide) (by decide)) (up (TV h9 (by omega)) (by decide) (by decide))
end PyE
set_option maxRecDepth 100000
namespace PyE
open PySem
def lawBody : CS := match b_law with
  | .cons (.for_ _ _ b) _ => b
  | _ => .nil
theorem b_law_eq : b_law = .cons (.for_ (.nm 1) (.irng1 (.con (.int (4 : Nat)))) lawBody) (.cons (.ret (.con (.bl true))) .nil) := rfl
theorem law_step (ns : List Int) (k : Nat) (i : Nat) (hi : i < 4) (μ : Mu) (ts : List (Option D)) (hts : ts.length = 16) :
    ∃ (ts' : List (Option D)) (μ' : Mu), ts'.length = 16 ∧ eS C (run C tbl (k + 20)) lawBody ((some (.scr ns) :: ts).set 1 (some (.int (i : Int)))) μ = .next (some (.scr ns) :: ts') μ' := by
  match ts, hts with
  | [a1, a2, a3, a4, a5, a6, a7, a8, a9, a10, a11, a12, a13, a14, a15, a16], _ =>
  obtain ⟨xs, G0, e0⟩ := generator_ok (k + 18) μ ns i (by omega)
  generalize hn : μ.length = n at *
  obtain ⟨q1, μ1, hq1, u1, G1, e1⟩ := random_ok (k + 18) 4 (by decide) (by decide) (by decide) G0
  obtain ⟨q2, μ2, hq2, u2, G2, e2⟩ := random_ok (k + 18) 5 (by decide) (by decide) (by decide) G1
  obtain ⟨s, hs⟩ : ∃ s : Nat, (1 : Int) + q1 = (s : Int) := ⟨(1 + q1).toNat, by omega⟩
  obtain ⟨m, hm⟩ : ∃ w : Nat, (1 : Int) + q2 = (w : Int) := ⟨(1 + q2).toNat, by omega⟩
  obtain ⟨l, μ3, L, hl, u3, G3, e3⟩ := look_ok (k + 15) (s := s) (w := m) (by omega) (by omega) (by decide) G2
  obtain ⟨q3, μ4, hq3, u4, G4, e4⟩ := random_ok (k + 18) 5 (by decide) (by decide) (by decide) G3
  obtain ⟨w, hw⟩ : ∃ w : Nat, (1 : Int) + q3 = (w : Int) := ⟨(1 + q3).toNat, by omega⟩
  obtain ⟨T, μ5, hT, u5, G5, e5⟩ := table_ok (k + 15) (m := m) (w := w) (by omega) (by omega) (by decide) G4
  obtain ⟨q4, μ6, hq4, u6, G6, e6⟩ := random_ok (k + 18) 5 (by decide) (by decide) (by decide) G5
  obtain ⟨v, hv⟩ : ∃ w : Nat, (1 : Int) + q4 = (w : Int) := ⟨(1 + q4).toNat, by omega⟩
  obtain ⟨U, μ7, hU, u7, G7, e7⟩ := table_ok (k + 15) (m := w) (w := v) (by omega) (by omega) (by decide) G6
  obtain ⟨r0, l', hl0, hw0⟩ := L.head
  have i0 : ∀ {μ : Mu}, opR C .idx [rows l, .int 0] μ = .ok (row r0) μ := fun {μ} => by rw [hl0]; exact idx0_rows
  obtain ⟨t0, T', hT0, ht0⟩ := hT.head
  have iT : ∀ {μ : Mu}, opR C .idx [rows T, .int 0] μ = .ok (row t0) μ := fun {μ} => by rw [hT0]; exact idx0_rows
  obtain ⟨o0, U', hU0, ho0⟩ := hU.head
  have iU : ∀ {μ : Mu}, opR C .idx [rows U, .int 0] μ = .ok (row o0) μ := fun {μ} => by rw [hU0]; exact idx0_rows
  have hm5 : m ≤ 5 := by omega
  have hw5 : w ≤ 5 := by omega
  have hUl := hU.len
  have hTl := hT.len
  -- values
  have bw : (5 + 5 + 1) * w + 1 ≤ 56 := by omega
  have bm : (5 + 5 + 1) * m + 1 ≤ 56 := by omega
  have B1 : LookOk 56 w (thrs l T w) := (thrs_look hT (by decide) L).mono bm
  have B2 : TabOk 56 m v (thrs T U v) := (thrs_tab hT hU (by decide)).mono bw
  have B3 : LookOk 400 v (thrs (thrs l T w) U v) := (thrs_look hU (by decide) B1).mono (by omega)
  have as : thrs l (thrs T U v) v = thrs (thrs l T w) U v := thrs_thrs (fun r hr => (L.row r hr).1) hTl (fun t ht => (hT.row t ht).1) hUl
  have kV : V F4 20 600000 (.lst [lookD l, rows T, rows U]) := (V.lst (VL.cons (L.V (F := F4) (by decide) 6) (VL.cons ((hT.rowsOk.V (F := F4) (by decide) (show T.length ≤ 8 by omega) 7)) (VL.one ((hU.rowsOk.V (F := F4) (by decide) (show U.length ≤ 8 by omega) 7)))))).mono (by decide) (by decide)
  have rk := fun μ => repr_ok (C := C) (μ := μ) kV.rp (by decide) (Nat.le_trans kV.wt (by decide))
  have nk := fun μ => ne_txt (C := C) (μ := μ) kV.rp
  have e8 := fun μ => law_behind_ok (k + 15) μ hT hU (by decide) (by decide)
  have e9 := fun μ => law_blurred_ok (k + 15) μ hT L (by decide) (by decide)
  have e10 := fun μ => law_blurred_ok (k + 15) μ hU B1 (by decide) (by decide)
  obtain ⟨y1, ν1, f1, nw1⟩ := blurred_new (k + 11) μ7 hT L (by decide) (by decide)
  obtain ⟨y2, ν2, f2, nw2⟩ := tables_behind_new (k + 11) ν1 hT hU (by decide) (by decide)
  obtain ⟨y3, ν3, f3, nw3⟩ := blurred_new (k + 11) ν2 B2 L (by decide) (by decide)
  rw [as] at nw3
  have nw := New.cell (NewL.cons nw1 (NewL.cons nw2 (NewL.cons nw3 NewL.nil)))
  obtain ⟨ν4, hν4⟩ : ∃ ν4, ν4 = ν3 ++ [[y1, y2, y3]] := ⟨_, rfl⟩
  rw [← hν4] at nw
  obtain ⟨told, htold⟩ : ∃ x : D, x = .lst [lookD (thrs l T w), rows (thrs T U v), lookD (thrs (thrs l T w) U v)] := ⟨_, rfl⟩
  rw [← htold] at nw
  have g1 := fun μ => blurred_ok (k + 11) μ hT L (by decide) (by decide)
  have g2 := fun μ => tables_behind_ok (k + 11) μ hT hU (by decide) (by decide)
  have g3 := fun μ => blurred_ok (k + 11) μ hU B1 (by decide) (by decide)
  obtain ⟨⟨cs, hcs⟩, S, own, nd, lo⟩ := nw
  have G8 : Gn n (10000 + 1 + 1 + 48 + 1 + 64 + 1 + 64) ν4 := by rw [hcs]; exact (G7.mono (by decide)).app cs
  have n7 := G7.lt
  have hnS : n ∉ S := fun z => by have := lo n z; omega
  have tV : V FC 8 400000 told := by
    rw [htold]
    exact (V.lst (VL.cons (B1.V (F := FC) (by decide) 3) (VL.cons (B2.rowsOk.V (F := FC) (by decide) (show (thrs T U v).length ≤ 8 by rw [B2.len]; omega) 4) (VL.one (B3.V (F := FC) (by decide) 3))))).mono (by decide) (by decide)
  have hS : S.length < 1000 := by
    rw [own.cnt, htold]
    show cntD _ + (cntD _ + (cntD _ + 0)) + 1 < 1000
    have c1 := cntD_look (thrs l T w)
    have c2 := cntD_rows (thrs T U v)
    have c3 := cntD_look (thrs (thrs l T w) U v)
    have := B1.len
    have := B2.len
    have := B3.len
    omega
  obtain ⟨μ8, u8, G9, e11⟩ := own_ok (k + 10) (g := .lst [lookD l, rows T, rows U]) (by decide) G8 own hnS nd hS tV.rp (Nat.le_trans tV.wt (by decide)) tV.clean (kV.mono (m := 60) (by decide) (Nat.le_refl _)).rp (Nat.le_trans kV.wt (by decide))
  have ex : run C tbl (k + 20) f__law_exact [.lst [told, told], .lst [.ref ν3.length, told]] ν4 = .ok (.bl true) ν4 := by
    refine exact_rd 7 (k + 12) ν4 _ _ ?_ ⟨[.ref ν3.length, told], .inl rfl, .ref ν3.length, [told], rfl, own.rd, told, [], rfl, Rd.refl 10 told ?_, rfl⟩
    · have o : okx 6 told = true := by
        rw [htold, okx_lst, okxL_cons, okxL_cons, okxL_cons, B1.okx 1, B2.okx 2, B3.okx 1]; simp
      rw [okx_lst, okxL_cons, okxL_cons, o]; simp
    · exact okd_mono 8 10 _ (by decide) tV.okd
  obtain ⟨st, μ9, hst, u9, G10, e12⟩ := bad_look_ok (k + 16) L (by decide) G9
  obtain ⟨bd, μ10, hbd, u10, G11, e13⟩ := bad_table_ok (k + 16) hT (by decide) G10
  -- what is asked
  obtain ⟨A1, hA1⟩ : ∃ A : List D, A = [.tup [.int 0, .tup [st, bd], .lst [.bl true, .bl false, .bl false, st]], .tup [.int 0, .tup [lookD l, bd], .lst [.bl false, .bl true, .bl false, bd]], .tup [.int 1, .tup [.none, bd, xS], .lst [.bl false, .bl true, .bl false, bd]]] := ⟨_, rfl⟩
  obtain ⟨M1, hM1⟩ : ∃ M, M = μ10 ++ [A1] := ⟨_, rfl⟩
  obtain ⟨A2, hA2⟩ : ∃ A : List D, A = [.tup [.int 0, .tup [lookD l, rows (T ++ T)], .lst [.bl false, .bl true, .bl false, rows (T ++ T)]], .tup [.int 1, .tup [.none, rows T, bd], .lst [.bl false, .bl true, .bl false, bd]]] := ⟨_, rfl⟩
  obtain ⟨A3, hA3⟩ : ∃ A : D, A = .tup [.int 1, .tup [.none, rows T, rows (U ++ [o0])], .lst [.bl false, .bl false, .bl true, rows (U ++ [o0])]] := ⟨_, rfl⟩
  obtain ⟨A4, hA4⟩ : ∃ A : List D, A = (if 1 < m then [.tup [.int 0, .tup [lookD l, rows T.tail], .lst [.bl false, .bl true, .bl false, rows T.tail]]] else []) := ⟨_, rfl⟩
  obtain ⟨P2, hP2⟩ : ∃ P, P = A1 ++ A2 ++ [A3] := ⟨_, rfl⟩
  obtain ⟨P3, hP3⟩ : ∃ P, P = P2 ++ A4 := ⟨_, rfl⟩
  obtain ⟨M2, hM2⟩ : ∃ M, M = M1 ++ [P2] := ⟨_, rfl⟩
  obtain ⟨M3, hM3⟩ : ∃ M, M = M2 ++ [P3] := ⟨_, rfl⟩
  have n10 := G11.lt
  have GM3 : Gn n 20000 M3 := by rw [hM3, hM2, hM1]; exact (((G11.mono (by decide)).app _).app _).app _
  obtain ⟨E, μ11, hE, u11, G12, e14⟩ := table_ok (k + 15) (m := 8) (w := 8) (by decide) (by decide) (by decide) GM3
  obtain ⟨E0, E', hE0, _⟩ := hE.head
  obtain ⟨A5, hA5⟩ : ∃ A : List D, A = [.tup [.int 1, .tup [.none, rows (E ++ E.take 1), xS], .lst [.bl false, .bl true, .bl false, rows (E ++ E.take 1)]], .tup [.int 1, .tup [.none, rows T, rows (E ++ E.take 1)], .lst [.bl false, .bl true, .bl false, rows (E ++ E.take 1)]]] := ⟨_, rfl⟩
  have m3r : μ11[M2.length]? = some P3 := by
    have h : M3[M2.length]? = some P3 := by rw [hM3, List.getElem?_append_right (Nat.le_refl _), Nat.sub_self]; rfl
    obtain ⟨zs, rfl⟩ := u11
    rw [List.getElem?_set_ne (by have : n < M2.length := by rw [hM2, hM1]; simp; omega
                                 omega), h]
  obtain ⟨P4, hP4⟩ : ∃ P, P = P3 ++ A5 := ⟨_, rfl⟩
  obtain ⟨M4, hM4⟩ : ∃ M, M = μ11 ++ [P4] := ⟨_, rfl⟩
  have m4r : M4[μ11.length]? = some P4 := by rw [hM4, List.getElem?_append_right (Nat.le_refl _), Nat.sub_self]; rfl
  have m1r : M1[μ10.length]? = some A1 := by rw [hM1, List.getElem?_append_right (Nat.le_refl _), Nat.sub_self]; rfl
  have m2r : M2[M1.length]? = some P2 := by rw [hM2, List.getElem?_append_right (Nat.le_refl _), Nat.sub_self]; rfl
  have lA1 : A1.length = 3 := by rw [hA1]; rfl
  have lA2 : A2.length = 2 := by rw [hA2]; rfl
  have lA4 : A4.length ≤ 1 := by rw [hA4]; split <;> simp
  have d1 : ∀ ys : List D, ys.length ≤ 100 → lift ((opS C M1 .add [.ref μ10.length, .lst ys]).bind prN) M1 = .ok (A1 ++ ys) M1 := fun ys h => addN m1r (by omega)
  have d2 : ∀ ys : List D, ys.length ≤ 100 → lift ((opS C M2 .add [.ref M1.length, .lst ys]).bind prN) M2 = .ok (P2 ++ ys) M2 := fun ys h => addN m2r (by rw [hP2]; simp; omega)
  have d3 : ∀ ys : List D, ys.length ≤ 100 → lift ((opS C μ11 .add [.ref M2.length, .lst ys]).bind prN) μ11 = .ok (P3 ++ ys) μ11 := fun ys h => addN m3r (by rw [hP3, hP2]; simp; omega)
  have ap : mopS (M1 ++ [A1 ++ A2]) .append (.ref M1.length) [A3] = some (.none, M2) := by
    rw [app_last (by rw [List.length_append]; omega), hM2, hP2]
  have h8 := fun μ => law_behind_ok (k + 15) μ hE hE (by decide) (by decide)
  have h9 := fun μ => tables_behind_ok (k + 11) μ hE hE (by decide) (by decide)
  have B8 := (thrs_tab hE hE (by decide)).okx 4
  have h10 := fun μ => exact_rd 7 (k + 12) μ _ _ B8 (Rd.refl 60 _ (okd_rows 57 _))
  have R9 : RowsOk 5 8 (E ++ E.take 1) := ⟨by rw [hE0]; simp, by decide, fun r hr => by
    rcases List.mem_append.mp hr with h | h
    · exact hE.row r h
    · exact hE.row r (List.mem_of_mem_take h)⟩
  have l9 : (E ++ E.take 1).length = 9 := by rw [List.length_append, hE.len, List.length_take, hE.len]; rfl
  have all := asks_all (k + 10) (o0 := o0) (s := st) (b := bd) L hT hU hw5 (by rw [hU0]; exact List.mem_cons_self ..) hst hbd R9 l9
  have asl : asksL l T U (E ++ E.take 1) o0 st bd = P4 := by
    rw [hP4, hP3, hP2, hA1, hA2, hA3, hA4, hA5, ← hTl]; rfl
  rw [asl] at all
  have sr4 : srcS M4 (.ref μ11.length) = some ⟨P4, [(μ11.length, P4)]⟩ := srcS_ref m4r
  have ca := fun (ρ : Ro) (h : 16 < ρ.length) => asks_cm (L := k + 20) (i := 16) (ρ := ρ) (ok := (⟨P4, [(μ11.length, P4)]⟩ : Src).okAt) (μ := M4) h (okAt_ref m4r) all
  unfold xS at hA1 hA5
  have hA1' := hA1
  have hA2' := hA2
  have ap' := ap
  rw [hA3] at ap'
  have d2' := d2 A4 (by omega)
  rw [← hP3] at d2'
  have d3' := d3 A5 (by rw [hA5]; simp)
  rw [← hP4, hA5] at d3'
  have hA3' := hA3
  have hA4' := hA4
  have hA5' := hA5
  have gm : ∀ μ, opR C .gt [.int (m : Int), .int 1] μ = .ok (.bl (decide (1 < m))) μ := fun μ => by
    rw [opR_gt, show decide ((1 : Int) < (m : Int)) = decide (1 < m) from decide_eq_decide.mpr ⟨fun h => by omega, fun h => by omega⟩]
  have ib : ∀ (b : Bool) μ, opR C .int_ [.bl b] μ = .ok (.int (if b = true then 1 else 0)) μ := fun b μ => rfl
  have mb : ∀ (x : D) μ, opR C .mul [.lst [x], .int (if 1 < m then 1 else 0)] μ = .ok (.lst (if 1 < m then [x] else [])) μ := fun x μ => by
    by_cases h : 1 < m
    · rw [if_pos h, if_pos h]; exact mul_int x 1 (by decide) (by decide) μ
    · rw [if_neg h, if_neg h]; exact mul_int x 0 (by decide) (by decide) μ
  apply next_of
  case h =>
    show eS C (run C tbl (k + 20)) lawBody [some (.scr ns), some (.int (i : Int)), a2, a3, a4, a5, a6, a7, a8, a9, a10, a11, a12, a13, a14, a15, a16] μ = _
    unfold lawBody b_law
    apply eS_go
    case h =>
      simp (maxSteps := 5000000) (disch := (first | omega | (simp; done) | (simp; omega))) [e0] <;> (first | exact ⟨rfl, rfl⟩ | fail "step")
    apply eS_go
    case h =>
      simp (maxSteps := 5000000) (disch := (first | omega | (simp; done) | (simp; omega))) [e1, e2, hs, hm, e3] <;> (first | exact ⟨rfl, rfl⟩ | fail "step")
    apply eS_go
    case h =>
      simp (maxSteps := 5000000) (disch := (first | omega | (simp; done) | (simp; omega))) [i0, hw0, e4, hw, e5] <;> (first | exact ⟨rfl, rfl⟩ | fail "step")
    apply eS_go
    case h =>
      simp (maxSteps := 5000000) (disch := (first | omega | (simp; done) | (simp; omega))) [iT, ht0, e6, hv, e7] <;> (first | exact ⟨rfl, rfl⟩ | fail "step")
    apply eS_go
    case h =>
      simp (maxSteps := 5000000) (disch := (first | omega | (simp; done) | (simp; omega))) [rk, e8] <;> (first | exact ⟨rfl, rfl⟩ | fail "step")
    apply eS_go
    case h =>
      simp (maxSteps := 5000000) (disch := (first | omega | (simp; done) | (simp; omega))) [e9, e10] <;> (first | exact ⟨rfl, rfl⟩ | fail "step")
    rw [← htold]
    apply eS_go
    case h =>
      simp (maxSteps := 5000000) (disch := (first | omega | (simp; done) | (simp; omega))) [f1, f2, f3] <;> (first | exact ⟨rfl, rfl⟩ | fail "step")
    rw [← hν4]
    apply eS_go
    case h =>
      simp (maxSteps := 5000000) (disch := (first | omega | (simp; done) | (simp; omega))) [g1, g2, g3] <;> (first | exact ⟨rfl, rfl⟩ | fail "step")
    rw [← htold]
    apply eS_go
    case h =>
      simp (maxSteps := 5000000) (disch := (first | omega | (simp; done) | (simp; omega))) [ex, e11] <;> (first | exact ⟨rfl, rfl⟩ | fail "step")
    apply eS_go
    case h =>
      simp (maxSteps := 5000000) (disch := (first | omega | (simp; done) | (simp; omega))) [e12, e13] <;> (first | exact ⟨rfl, rfl⟩ | fail "step")
    apply eS_go
    case h =>
      simp (maxSteps := 5000000) (disch := (first | omega | (simp; done) | (simp; omega))) [] <;> (first | exact ⟨rfl, rfl⟩ | fail "step")
    simp only [← hA1', ← hM1]
    apply eS_go
    case h =>
      simp (maxSteps := 5000000) (disch := (first | omega | (simp; done) | (simp; omega))) [add_rows, hTl, d1] <;> (first | exact ⟨rfl, rfl⟩ | fail "step")
    simp only [← hA2']
    apply eS_go
    case h =>
      simp (maxSteps := 5000000) (disch := (first | omega | (simp; done) | (simp; omega))) [add_rows1, iU, hUl, lift2, ap'] <;> (first | exact ⟨rfl, rfl⟩ | fail "step")
    rw [hA4] at d2'
    apply eS_go
    case h =>
      simp (maxSteps := 5000000) (disch := (first | omega | (simp; done) | (simp; omega))) [hTl, gm, ib, tail_rows, mb, d2'] <;> (first | exact ⟨rfl, rfl⟩ | fail "step")
    simp only [← hM3]
    have e14' : run C tbl (k + 20) f__law_table [.ref n, .int 8, .int 8] M3 = .ok (rows E) μ11 := e14
    apply eS_go
    case h =>
      simp (maxSteps := 5000000) (disch := (first | omega | (simp; done) | (simp; omega))) [e14'] <;> (first | exact ⟨rfl, rfl⟩ | fail "step")
    have aE := fun μ => add_rows (C := C) E (E.take 1) (by rw [List.length_take, hE.len]; decide) μ
    apply eS_go
    case h =>
      simp (maxSteps := 5000000) (disch := (first | omega | (simp; done) | (simp; omega))) [take_rows, aE] <;> (first | exact ⟨rfl, rfl⟩ | fail "step")
    apply eS_go
    case h =>
      simp (maxSteps := 5000000) (disch := (first | omega | (simp; done) | (simp; omega))) [d3'] <;> (first | exact ⟨rfl, rfl⟩ | fail "step")
    simp only [← hM4]
    apply eS_go
    case h =>
      simp (maxSteps := 5000000) (disch := (first | omega | (simp; done) | (simp; omega))) [h8, h9, h10] <;> (first | exact ⟨rfl, rfl⟩ | fail "step")
    simp (maxSteps := 5000000) (disch := (first | omega | (simp; done) | (simp; omega))) [sr4, ca, rk, nk, ne_nil0] <;> (first | exact ⟨rfl, rfl⟩ | fail "end")
  case hl => rfl
theorem law_ok (k : Nat) (ns : List Int) : run C tbl (k + 21) f_law [.scr ns] [] = .ok (.bl true) [] := by
  obtain ⟨μ', e⟩ := law_for (C := C) (cl := run C tbl (k + 20)) (body := lawBody) (n := 16) (m := 4) (ns := ns) (by decide) (fun i hi μ ts h => law_step ns k i hi μ ts h)
  rw [run_law]
  exact law_end (μ' := μ') rfl rfl rfl e
end PyE
open PySem PySem.W PyProof.Rows
set_option maxRecDepth 100000 in
set_option maxHeartbeats 0 in
theorem PySem.Challenge.cw_lookstell_k03_whole_looks_blurred_holds : PySem.Challenge.rw_lookstell_k03_whole_looks_blurred.Holds := by
  w_on; o_law
  exact PyE.the_end 21 ⟨rfl, by decide, by decide⟩ (fun ns _ => PyE.law_ok 0 ns)
