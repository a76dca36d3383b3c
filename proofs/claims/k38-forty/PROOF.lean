import PyProof.Rows.All
import Wide.All
import OpenK.AllK
import Wide.FinOn
import PySem.Value
import HandS.ForMost
import HandS.Exc
import HandS.TryOnly
import HandS.WordsExc
import HandS.Flow
import HandS.Style
import HandS.IsInst
import HandS.Walk
import KE.KeyNested
import HandS.TupAny
import HandS.TupMul
import HandS.Wide
import PyProof.NeKinds
import HandS.Dict
import HandS.Text
import HandS.Strs
import HandS.Conv
import HandS.SortInts
import HandS.TupLen
import HandS.CallLocal
import KE.KDictDisplayH
import KE.GoesEnum
import OpenK.KMore
import HandS.Gcd
import HandS.Base
import HandS.Call
import HandS.ExcInit
import HandS.ExcSuper
import HandS.ExcField
import KE.KSuper
import KE.KExcSuper
import HandS.Ends
import HandS.Words
import KE.RegKSuper
import PySem.Challenge.RW_anytwo_k38_forty_statements_searched
set_option Elab.async false
set_option autoImplicit false
set_option maxRecDepth 100000
set_option linter.unusedVariables false
set_option linter.unusedSimpArgs false
/-! AT0: the core language: data D, the abstract heap, core expressions and statements, and what must hold of them (wp). No program in sight. -/
namespace AT
open PySem (Str Addr)

/-! ### data -/
inductive D where
  | non
  | bl (b : Bool)
  | int (i : Int)
  | str (s : Str)
  | tup (ds : List D)
  /-- a list that is read alone (the script) -/
  | rol (ds : List D)
  | ref (a : Addr)
  | fn (f : Nat)
  deriving Inhabited

mutual
/-- == of data, as Python asks it: True is 1, False is 0 -/
def D.eqB : D → D → Bool
  | .non, .non => true
  | .bl a, .bl b => a == b
  | .bl a, .int j => (if a then 1 else 0) == j
  | .int i, .bl b => i == (if b then 1 else 0)
  | .int i, .int j => i == j
  | .str x, .str y => x == y
  | .tup xs, .tup ys => D.eqBs xs ys
  | _, _ => false
def D.eqBs : List D → List D → Bool
  | [], [] => true
  | x :: xs, y :: ys => D.eqB x y && D.eqBs xs ys
  | _, _ => false
end
mutual
/-- data alone: no object, no def within -/
def D.pure : D → Bool
  | .non | .bl _ | .int _ | .str _ => true
  | .tup ds => D.pures ds
  | .ref _ | .fn _ | .rol _ => false
def D.pures : List D → Bool
  | [] => true
  | d :: ds => D.pure d && D.pures ds
end
mutual
def D.depth : D → Nat
  | .tup ds => D.depths ds + 1
  | _ => 0
def D.depths : List D → Nat
  | [] => 0
  | d :: ds => max (D.depth d) (D.depths ds)
end

/-! ### the heap -/
inductive Cell where
  | lst (ds : List D)
  /-- a dict, its pairs in order -/
  | dct (kvs : List (D × D))
  /-- an instance of a class: its fields by number, in the order in which they were stored -/
  | ins (c : Nat) (fs : List (Nat × D))
abbrev Gp := Addr → Option Cell
def up (G : Gp) (a : Addr) (c : Cell) : Gp := fun b => if b = a then some c else G b
def del (G : Gp) (a : Addr) : Gp := fun b => if b = a then none else G b
def Sub (G G' : Gp) : Prop := ∀ a c, G a = some c → G' a = some c
abbrev St := List (Option D)
/-- an exception of an own class that keeps one thing -/
structure Ex where
  cls : Nat
  what : D
abbrev KE := D → Gp → Prop
abbrev KB := Bool → Gp → Prop
abbrev KX := Ex → Gp → Prop
structure KS where
  nx : St → Gp → Prop
  rt : KE
  bk : St → Gp → Prop
  ct : St → Gp → Prop
/-- a call of a def by its number -/
abbrev Orc := Nat → List D → Gp → KE → KX → Prop

/-! ### syntax -/
inductive Bop where
  | add | sub | mul | fdiv | mod | pow
inductive Cop where
  | eq | ne | lt | le | gt | ge | isn | nisn | isb | nisb | inn | nin
inductive Pm where
  | len | intOf | max2 | min2 | minL | tupleOf | listOf | allOf | anyOf | sumOf | append | pop0 | pop1 | index | get1 | get2 | update | sortI | heappush | heappop
/-- what a method is asked of -/
inductive Kd where
  | lst | tup | dct | str
inductive Ty where
  | int | bool | str | tuple
mutual
inductive CE where
  | cst (d : D)
  | var (i : Nat)
  | neg (a : CE)
  | bin (op : Bop) (a b : CE)
  | cmp (op : Cop) (a b : CE)
  | chn (op op' : Cop) (a b c : CE)
  | and (a b : CE)
  | or (a b : CE)
  | not (a : CE)
  | ite (c : CB) (a b : CE)
  | tup (es : CEs)
  | lst (es : CEs)
  | dct (kvs : CKV)
  | idx (a i : CE)
  | sli (a : CE) (lo hi : CO)
  | att (o : CE) (f : Nat)
  | call (f : Nat) (es : CEs)
  /-- with keywords: the arguments in the order in which they are written; which of them comes to each parameter -/
  | kcall (f : Nat) (es : CEs) (to : List Nat)
  | meth (o : CE) (m : Nat) (es : CEs)
  | mk (c : Nat) (es : CEs)
  /-- a def that a name holds -/
  | vcall (g : CE) (es : CEs)
  | prim (p : Pm) (es : CEs)
  /-- a built-in's method, what it is asked of -/
  | bm (p : Pm) (t : Kd) (o : CE) (es : CEs)
  /-- a built-in of one list that was just made for it -/
  | tmp (p : Pm) (e : CE)
  | isi (e : CE) (t : Ty)
  /-- what the caught exception keeps -/
  | what
  | lc (elt : CE) (t : CT) (it : CI) (cs : CO2) (vs : List Nat)
  | dc (k v : CE) (t : CT) (it : CI) (vs : List Nat)
/-- a test -/
inductive CB where
  | val (e : CE)
  | not (a : CB)
  | and (a b : CB)
  | or (a b : CB)
  | ite (c a b : CB)
  | cmp (op : Cop) (a b : CE)
  | chn (op op' : Cop) (a b c : CE)
/-- a comprehension's test, or none -/
inductive CO2 where
  | no
  | so (b : CB)
inductive CEs where
  | nil
  | cons (e : CE) (es : CEs)
inductive CKV where
  | nil
  | cons (k v : CE) (r : CKV)
inductive CO where
  | no
  | so (e : CE)
inductive CT where
  | nm (i : Nat)
  | tup (ts : CTs)
  | sub (o i : CE)
  | att (o : CE) (f : Nat)
inductive CTs where
  | nil
  | cons (t : CT) (ts : CTs)
inductive CI where
  | seq (e : CE)
  | rng1 (e : CE)
  | rng2 (a b : CE)
  | enu (e : CE)
  | zip (a b : CE)
  | itm (e : CE)
end
def CTs.len : CTs → Nat
  | .nil => 0
  | .cons _ ts => ts.len + 1
mutual
inductive CS where
  | asg (t : CT) (e : CE)
  | expr (e : CE)
  | ite (c : CB) (a b : CSs)
  | whl (c : CB) (b : CSs)
  | for_ (t : CT) (it : CI) (b : CSs)
  | ret (e : CE)
  | retN
  | brk
  | cont
  | pass
  | rse (c : Nat) (e : CE)
  /-- try: body, of which nothing is raised -/
  | tryN (b : CSs)
  /-- try, and clauses -/
  | tryC (b : CSs) (hs : CHs)
inductive CSs where
  | nil
  | cons (s : CS) (ss : CSs)
inductive CHs where
  | nil
  | cons (cs : List Nat) (b : CSs) (hs : CHs)
end

/-! ### values -/
abbrev line : Nat := 16777216
def D.truth (G : Gp) : D → Option Bool
  | .non => some false
  | .bl b => some b
  | .int i => some (i != 0)
  | .tup ds => some (!ds.isEmpty)
  | .rol ds => some (!ds.isEmpty)
  | .ref a => match G a with
    | some (.lst ds) => some (!ds.isEmpty)
    | _ => none
  | _ => none
/-- [i] of a row -/
def ixN (n : Nat) (i : Int) : Option Nat := if 0 ≤ i then (if i < n then some i.toNat else none) else if -(n : Int) ≤ i then some (i + n).toNat else none
def ixD {α : Type} (xs : List α) (i : Int) : Option α := (ixN xs.length i).bind fun j => xs[j]?
def sIx (n d : Nat) : Option Int → Nat
  | none => d
  | some v => if v < 0 then (max (v + n) 0).toNat else (min v n).toNat
def cutD {α : Type} (xs : List α) (lo hi : Option Int) : List α := (xs.drop (sIx xs.length 0 lo)).take (sIx xs.length xs.length hi - sIx xs.length 0 lo)
def kindO (G : Gp) : D → Option Kd
  | .tup _ => some .tup
  | .str _ => some .str
  | .ref a => match G a with
    | some (.lst _) => some .lst
    | some (.dct _) => some .dct
    | _ => none
  | _ => none
def items? (G : Gp) : D → Option (List D)
  | .tup ds => some ds
  | .ref a => match G a with
    | some (.lst ds) => some ds
    | _ => none
  | _ => none
def seqL (G : Gp) : D → Option (List D)
  | .rol ds => some ds
  | .ref a => match G a with
    | some (.lst ds) => some ds
    | _ => none
  | _ => none
def D.isT : D → Bool
  | .tup _ => true
  | _ => false
/-- a flat key: an int or a text -/
def flatK : D → Bool
  | .int _ | .str _ => true
  | _ => false
/-- == where it is told -/
def eqO (G : Gp) : D → D → Option Bool
  | .ref a, .ref b => match G a, G b with
    | some (.lst xs), some (.lst ys) => if xs.length = ys.length then (if D.pures xs && D.pures ys && decide (min (D.depths xs) (D.depths ys) ≤ 60) then some (D.eqBs xs ys) else none) else some false
    | some (.dct xs), some (.dct []) => if (xs.all fun p => D.isT p.1) || (xs.all fun p => flatK p.1) then some xs.isEmpty else none
    | _, _ => none
  | x, y => if D.pure x && D.pure y && decide (min (D.depth x) (D.depth y) ≤ 60) then some (D.eqB x y) else none
def inO (G : Gp) (x : D) (ys : D) : Option Bool := match items? G ys with
  | some ds => if D.pure x && D.pures ds && decide (D.depth x ≤ 60) then some (ds.any fun y => D.eqB y x) else none
  | none => none
/-- a key's entry -/
def keyAt (kvs : List (D × D)) (k : D) : Option D := (kvs.find? fun p => D.eqB p.1 k).map (·.2)
def keyPut (kvs : List (D × D)) (k v : D) : List (D × D) := if (keyAt kvs k).isSome then kvs.map fun p => if D.eqB p.1 k then (p.1, v) else p else kvs ++ [(k, v)]
/-- what may be a key: flat, or a tuple of a small depth -/
def D.keyOk (d : D) : Bool := D.pure d && decide (D.depth d ≤ 8)
/-- keys of one kind: flat ones, or tuples -/
def kindOk (kvs : List (D × D)) (k : D) : Bool := D.keyOk k && (D.isT k || flatK k) && kvs.all fun p => D.isT p.1 == D.isT k
def putAll : List (D × D) → List (D × D) → Option (List (D × D))
  | m, [] => some m
  | m, (k, v) :: r => if kindOk m k = true then putAll (keyPut m k v) r else none
def KeysOk (kvs : List (D × D)) : Prop := ∀ p ∈ kvs, D.keyOk p.1 = true ∧ (D.isT p.1 = true ∨ flatK p.1 = true)
def fld (fs : List (Nat × D)) (f : Nat) : Option D := fs.lookup f
def putF (f : Nat) (d : D) : List (Nat × D) → List (Nat × D)
  | [] => [(f, d)]
  | (g, e) :: r => if g = f then (f, d) :: r else (g, e) :: putF f d r

def lexLt : List Int → List Int → Bool
  | [], [] => false
  | [], _ :: _ => true
  | _ :: _, [] => false
  | x :: xs, y :: ys => if x = y then lexLt xs ys else decide (x < y)
def ints? : List D → Option (List Int)
  | [] => some []
  | .int i :: r => (ints? r).map (i :: ·)
  | _ :: _ => none
def bools? : List D → Option (List Bool)
  | [] => some []
  | .bl b :: r => (bools? r).map (b :: ·)
  | _ :: _ => none

def D.isNon : D → Bool
  | .non => true
  | _ => false
/-! ### operators -/
def binW (op : Bop) (x y : D) (G : Gp) (Q : KE) : Prop := match op, x, y with
  | .add, .int i, .int j => Q (.int (i + j)) G
  | .add, .str a, .str b => a.length + b.length ≤ line ∧ Q (.str (a ++ b)) G
  | .add, .tup xs, .tup ys => xs.length + ys.length ≤ line ∧ Q (.tup (xs ++ ys)) G
  | .add, .ref a, .ref b => match G a, G b with
    | some (.lst xs), some (.lst ys) => xs.length + ys.length ≤ line ∧ ∀ p, G p = none → Q (.ref p) (up G p (.lst (xs ++ ys)))
    | _, _ => False
  | .sub, .int i, .int j => Q (.int (i - j)) G
  | .mul, .int i, .int j => ((-(2 ^ 64) < i ∧ i < 2 ^ 64) ∨ (-(2 ^ 64) < j ∧ j < 2 ^ 64)) ∧ Q (.int (i * j)) G
  | .mul, .tup xs, .int j => (1 ≤ j ∧ j ≤ 1000 ∧ xs.length ≤ 1000 ∧ xs ≠ []) ∧ Q (.tup (List.replicate j.toNat xs).flatten) G
  | .fdiv, .int i, .int j => (j ≠ 0 ∧ j.natAbs < 1073741824) ∧ Q (.int (i.fdiv j)) G
  | .mod, .int i, .int j => j ≠ 0 ∧ Q (.int (i.fmod j)) G
  | .pow, .int i, .int j => (0 ≤ j ∧ j ≤ 1000000 ∧ i.natAbs < 2 ^ 64) ∧ Q (.int (i ^ j.toNat)) G
  | _, _, _ => False
def cmpW (op : Cop) (x y : D) (G : Gp) (Q : KB) : Prop := match op with
  | .eq => match eqO G x y with
    | some b => Q b G
    | none => False
  | .ne => match eqO G x y with
    | some b => Q (!b) G
    | none => False
  | .lt => match x, y with
    | .int i, .int j => Q (decide (i < j)) G
    | .tup xs, .tup ys => match ints? xs, ints? ys with
      | some is, some js => Q (lexLt is js) G
      | _, _ => False
    | _, _ => False
  | .le => match x, y with
    | .int i, .int j => Q (decide (i ≤ j)) G
    | _, _ => False
  | .gt => match x, y with
    | .int i, .int j => Q (decide (j < i)) G
    | _, _ => False
  | .ge => match x, y with
    | .int i, .int j => Q (decide (j ≤ i)) G
    | _, _ => False
  | .isn => match y with
    | .non => Q (D.isNon x) G
    | _ => False
  | .nisn => match y with
    | .non => Q (!D.isNon x) G
    | _ => False
  | .isb => match x, y with
    | .bl a, .bl b => Q (a == b) G
    | .non, .bl _ => Q false G
    | _, _ => False
  | .nisb => match x, y with
    | .bl a, .bl b => Q (!(a == b)) G
    | .non, .bl _ => Q true G
    | _, _ => False
  | .inn => match y with
    | .ref a => match G a with
      | some (.dct kvs) => kindOk kvs x = true ∧ Q (keyAt kvs x).isSome G
      | _ => match inO G x y with
        | some b => Q b G
        | none => False
    | _ => match inO G x y with
      | some b => Q b G
      | none => False
  | .nin => match y with
    | .ref a => match G a with
      | some (.dct kvs) => kindOk kvs x = true ∧ Q (!(keyAt kvs x).isSome) G
      | _ => match inO G x y with
        | some b => Q (!b) G
        | none => False
    | _ => match inO G x y with
      | some b => Q (!b) G
      | none => False
def idxW (x i : D) (G : Gp) (Q : KE) : Prop := match x with
  | .tup ds => match i with
    | .int j => match ixD ds j with
      | some d => Q d G
      | none => False
    | _ => False
  | .rol ds => match i with
    | .int j => match ixD ds j with
      | some d => Q d G
      | none => False
    | _ => False
  | .ref a => match G a with
    | some (.lst ds) => match i with
      | .int j => match ixD ds j with
        | some d => Q d G
        | none => False
      | _ => False
    | some (.dct kvs) => kindOk kvs i = true ∧ match keyAt kvs i with
      | some d => Q d G
      | none => False
    | _ => False
  | _ => False
def sliW (x : D) (l h : Option Int) (G : Gp) (Q : KE) : Prop := match x with
  | .tup ds => Q (.tup (cutD ds l h)) G
  | .str s => s.length ≤ line ∧ Q (.str ⟨(cutD s.cps.toList l h).toArray⟩) G
  | .ref a => match G a with
    | some (.lst ds) => ∀ p, G p = none → Q (.ref p) (up G p (.lst (cutD ds l h)))
    | _ => False
  | _ => False
def isTy : Ty → D → Option Bool
  | .int, .int _ => some true
  | .int, .bl _ => some true
  | .int, .non => some false
  | .int, .str _ => some false
  | .int, .tup _ => some false
  | .bool, .bl _ => some true
  | .bool, .int _ => some false
  | .bool, .non => some false
  | .bool, .str _ => some false
  | .bool, .tup _ => some false
  | .str, .str _ => some true
  | .str, .bl _ => some false
  | .str, .int _ => some false
  | .str, .non => some false
  | .str, .tup _ => some false
  | .tuple, .tup _ => some true
  | .tuple, .bl _ => some false
  | .tuple, .int _ => some false
  | .tuple, .non => some false
  | .tuple, .str _ => some false
  | _, .ref _ => none
  | _, .fn _ => none
  | _, .rol _ => none

/-! ### built-ins -/
/-- the first three numbers of a row, by which a heap is ordered -/
def hkey : D → Option (Int × Int × Int)
  | .tup (.int a :: .int b :: .int c :: _) => some (a, b, c)
  | _ => none
def klt (x y : Int × Int × Int) : Prop := x.1 < y.1 ∨ (x.1 = y.1 ∧ (x.2.1 < y.2.1 ∨ (x.2.1 = y.2.1 ∧ x.2.2 < y.2.2)))
/-- rows with keys that differ, no row before the one above it -/
def HeapOk (ds : List D) : Prop := (∀ d ∈ ds, (hkey d).isSome) ∧ (ds.map hkey).Nodup ∧
  ∀ i x y, 0 < i → ds[i]? = some x → ds[(i - 1) / 2]? = some y → ∀ k l, hkey x = some k → hkey y = some l → klt l k
def lenW (xs : List D) (G : Gp) (Q : KE) : Prop := match xs with
  | [.tup ds] => Q (.int ds.length) G
  | [.rol ds] => Q (.int ds.length) G
  | [.str s] => s.length ≤ line ∧ Q (.int s.length) G
  | [.ref a] => match G a with
    | some (.lst ds) => Q (.int ds.length) G
    | some (.dct kvs) => ((kvs.all fun p => D.isT p.1) = true ∨ (kvs.all fun p => flatK p.1) = true) ∧ Q (.int kvs.length) G
    | _ => False
  | _ => False
def intOfW (xs : List D) (G : Gp) (Q : KE) : Prop := match xs with
  | [.int i] => Q (.int i) G
  | [.bl b] => Q (.int (if b then 1 else 0)) G
  | _ => False
def max2W (xs : List D) (G : Gp) (Q : KE) : Prop := match xs with
  | [.int i, .int j] => Q (.int (if j > i then j else i)) G
  | _ => False
def min2W (xs : List D) (G : Gp) (Q : KE) : Prop := match xs with
  | [.int i, .int j] => Q (.int (if j < i then j else i)) G
  | _ => False
def tupleOfW (xs : List D) (G : Gp) (Q : KE) : Prop := match xs with
  | [.tup ds] => Q (.tup ds) G
  | [x] => match seqL G x with
    | some ds => Q (.tup ds) G
    | none => False
  | _ => False
def listOfW (xs : List D) (G : Gp) (Q : KE) : Prop := match xs with
  | [.tup ds] => ∀ p, G p = none → Q (.ref p) (up G p (.lst ds))
  | [.ref a] => match G a with
    | some (.lst ds) => ∀ p, G p = none → Q (.ref p) (up G p (.lst ds))
    | some (.dct kvs) => ∀ p, G p = none → Q (.ref p) (up G p (.lst (kvs.map (·.1))))
    | _ => False
  | _ => False
def allOfW (xs : List D) (G : Gp) (Q : KE) : Prop := match xs with
  | [x] => match (seqL G x).bind bools? with
    | some bs => Q (.bl (bs.all id)) G
    | none => False
  | _ => False
def anyOfW (xs : List D) (G : Gp) (Q : KE) : Prop := match xs with
  | [x] => match (seqL G x).bind bools? with
    | some bs => Q (.bl (bs.any id)) G
    | none => False
  | _ => False
def sumOfW (xs : List D) (G : Gp) (Q : KE) : Prop := match xs with
  | [x] => match (seqL G x).bind ints? with
    | some is => Q (.int is.sum) G
    | none => False
  | _ => False
def minLW (xs : List D) (G : Gp) (Q : KE) : Prop := match xs with
  | [x] => match seqL G x with
    | some ds => match ints? ds with
      | some is => is ≠ [] ∧ ∀ m, m ∈ is → (∀ y ∈ is, m ≤ y) → Q (.int m) G
      | none => False
    | none => False
  | _ => False
def appendW (xs : List D) (G : Gp) (Q : KE) : Prop := match xs with
  | [.ref a, y] => match G a with
    | some (.lst ds) => ds.length < line ∧ Q .non (up G a (.lst (ds ++ [y])))
    | _ => False
  | _ => False
def pop0W (xs : List D) (G : Gp) (Q : KE) : Prop := match xs with
  | [.ref a] => match G a with
    | some (.lst ds) => match ds.getLast? with
      | some y => Q y (up G a (.lst ds.dropLast))
      | none => False
    | _ => False
  | _ => False
def pop1W (xs : List D) (G : Gp) (Q : KE) : Prop := match xs with
  | [.ref a, .int i] => match G a with
    | some (.lst ds) => match ixN ds.length i with
      | some k => match ds[k]? with
        | some y => Q y (up G a (.lst (ds.eraseIdx k)))
        | none => False
      | none => False
    | _ => False
  | _ => False
def indexW (xs : List D) (G : Gp) (Q : KE) : Prop := match xs with
  | [x, y] => match items? G x with
    | some ds => (D.pure y && D.pures ds && decide (D.depth y ≤ 60)) = true ∧ match ds.findIdx? fun d => D.eqB d y with
      | some j => Q (.int j) G
      | none => False
    | none => False
  | _ => False
def get1W (xs : List D) (G : Gp) (Q : KE) : Prop := match xs with
  | [.ref a, k] => match G a with
    | some (.dct kvs) => kindOk kvs k = true ∧ Q ((keyAt kvs k).getD .non) G
    | _ => False
  | _ => False
def get2W (xs : List D) (G : Gp) (Q : KE) : Prop := match xs with
  | [.ref a, k, x] => match G a with
    | some (.dct kvs) => kindOk kvs k = true ∧ Q ((keyAt kvs k).getD x) G
    | _ => False
  | _ => False
def updateW (xs : List D) (G : Gp) (Q : KE) : Prop := match xs with
  | [.ref a, .ref b] => match G a, G b with
    | some (.dct kvs), some (.dct lvs) => a ≠ b ∧ kvs ≠ [] ∧ (kvs.all fun p => D.isT p.1) = true ∧ (∀ p ∈ lvs, kindOk kvs p.1 = true ∧ D.isT p.1 = true) ∧ kvs.length + lvs.length ≤ 1000000 ∧ Q .non (up G a (.dct (lvs.foldl (fun m p => keyPut m p.1 p.2) kvs)))
    | _, _ => False
  | _ => False
def sortIW (xs : List D) (G : Gp) (Q : KE) : Prop := match xs with
  | [x] => match (seqL G x).bind ints? with
    | some is => ∀ js : List Int, js.Perm is → js.Pairwise (· ≤ ·) → ∀ p, G p = none → Q (.ref p) (up G p (.lst (js.map D.int)))
    | none => False
  | _ => False
def heappushW (xs : List D) (G : Gp) (Q : KE) : Prop := match xs with
  | [.ref a, x] => match G a with
    | some (.lst ds) => HeapOk ds ∧ (hkey x).isSome ∧ hkey x ∉ ds.map hkey ∧ ds.length < line ∧ ∀ es, es.Perm (x :: ds) → HeapOk es → Q .non (up G a (.lst es))
    | _ => False
  | _ => False
def heappopW (xs : List D) (G : Gp) (Q : KE) : Prop := match xs with
  | [.ref a] => match G a with
    | some (.lst ds) => HeapOk ds ∧ ds ≠ [] ∧ ∀ m es, ds.Perm (m :: es) → HeapOk es → (∀ y ∈ es, ∀ k l, hkey m = some k → hkey y = some l → klt k l) → Q m (up G a (.lst es))
    | _ => False
  | _ => False
def primW (p : Pm) (xs : List D) (G : Gp) (Q : KE) : Prop := match p with
  | .len => lenW xs G Q
  | .intOf => intOfW xs G Q
  | .max2 => max2W xs G Q
  | .min2 => min2W xs G Q
  | .tupleOf => tupleOfW xs G Q
  | .listOf => listOfW xs G Q
  | .allOf => allOfW xs G Q
  | .anyOf => anyOfW xs G Q
  | .sumOf => sumOfW xs G Q
  | .minL => minLW xs G Q
  | .append => appendW xs G Q
  | .pop0 => pop0W xs G Q
  | .pop1 => pop1W xs G Q
  | .index => indexW xs G Q
  | .get1 => get1W xs G Q
  | .get2 => get2W xs G Q
  | .update => updateW xs G Q
  | .sortI => sortIW xs G Q
  | .heappush => heappushW xs G Q
  | .heappop => heappopW xs G Q

/-! ### what must hold -/
structure Cls where
  /-- a class's method by its number; its __init__ -/
  meth : Nat → Nat → Option Nat
  init : Nat → Option Nat
  /-- whether the one class stands under the other -/
  sub : Nat → Nat → Bool
def wipe (σ : St) : List Nat → St
  | [] => σ
  | v :: vs => (wipe σ vs).set v none
/-- a walk over items, a turn an item; chk: the walked row stands as it was -/
def forS (asg : D → St → Gp → (St → Gp → Prop) → Prop) (body : KS → St → Gp → Prop) (chk : Gp → Prop) (K : KS) : List D → St → Gp → Prop
  | [], σ, G => chk G ∧ K.nx σ G
  | x :: xs, σ, G => chk G ∧ asg x σ G fun σ1 G1 => body { K with nx := forS asg body chk K xs, ct := forS asg body chk K xs, bk := K.nx } σ1 G1
def whlN (c : St → Gp → KB → Prop) (body : KS → St → Gp → Prop) (K : KS) : Nat → St → Gp → Prop
  | 0, _, _ => False
  | n + 1, σ, G => c σ G fun b G1 => if b = true then body { K with nx := whlN c body K n, ct := whlN c body K n, bk := K.nx } σ G1 else K.nx σ G1
/-- a comprehension's turns: the list at p is filled -/
def lcS (asg : D → St → Gp → (St → Gp → Prop) → Prop) (tst : St → Gp → KB → Prop) (elt : St → Gp → KE → Prop) (chk : Gp → Prop) (p : Addr) (σ : St) (Q : Gp → Prop) : List D → Gp → Prop
  | [], G => chk G ∧ Q G
  | x :: xs, G => chk G ∧ asg x σ G fun σ1 G1 => tst σ1 G1 fun b G2 =>
      if b = true then elt σ1 G2 fun y G3 => match G3 p with
        | some (.lst acc) => acc.length < line ∧ lcS asg tst elt chk p σ Q xs (up G3 p (.lst (acc ++ [y])))
        | _ => False
      else lcS asg tst elt chk p σ Q xs G2
def dcS (asg : D → St → Gp → (St → Gp → Prop) → Prop) (key elt : St → Gp → KE → Prop) (chk : Gp → Prop) (p : Addr) (σ : St) (Q : Gp → Prop) : List D → Gp → Prop
  | [], G => chk G ∧ Q G
  | x :: xs, G => chk G ∧ asg x σ G fun σ1 G1 => key σ1 G1 fun k G2 => elt σ1 G2 fun y G3 => match G3 p with
        | some (.dct kvs) => kindOk kvs k = true ∧ kvs.length < 100000 ∧ dcS asg key elt chk p σ Q xs (up G3 p (.dct (keyPut kvs k y)))
        | _ => False

section
variable (C : Cls) (F : Orc) (W : Option D)
mutual
def wpE : CE → KX → St → Gp → KE → Prop
  | .cst d, E, _, G, Q => Q d G
  | .var i, E, σ, G, Q => match σ[i]? with
    | some (some d) => Q d G
    | _ => False
  | .neg a, E, σ, G, Q => wpE a E σ G fun x G1 => match x with
    | .int i => Q (.int (-i)) G1
    | _ => False
  | .bin op a b, E, σ, G, Q => wpE a E σ G fun x G1 => wpE b E σ G1 fun y G2 => binW op x y G2 Q
  | .cmp op a b, E, σ, G, Q => wpE a E σ G fun x G1 => wpE b E σ G1 fun y G2 => cmpW op x y G2 fun k G3 => Q (.bl k) G3
  | .chn op op' a b c, E, σ, G, Q => wpE a E σ G fun x G1 => wpE b E σ G1 fun y G2 => cmpW op x y G2 fun k G3 =>
      if k = true then wpE c E σ G3 fun z G4 => cmpW op' y z G4 fun k' G5 => Q (.bl k') G5 else Q (.bl false) G3
  | .and a b, E, σ, G, Q => wpE a E σ G fun x G1 => match D.truth G1 x with
    | some k => if k = true then wpE b E σ G1 Q else Q x G1
    | none => False
  | .or a b, E, σ, G, Q => wpE a E σ G fun x G1 => match D.truth G1 x with
    | some k => if k = true then Q x G1 else wpE b E σ G1 Q
    | none => False
  | .not a, E, σ, G, Q => wpE a E σ G fun x G1 => match D.truth G1 x with
    | some k => Q (.bl (!k)) G1
    | none => False
  | .ite c a b, E, σ, G, Q => wpT c E σ G fun k G1 => if k = true then wpE a E σ G1 Q else wpE b E σ G1 Q
  | .tup es, E, σ, G, Q => wpEs es E σ G fun ds G1 => ds.length ≤ line ∧ Q (.tup ds) G1
  | .lst es, E, σ, G, Q => wpEs es E σ G fun ds G1 => ds.length ≤ line ∧ ∀ p, G1 p = none → Q (.ref p) (up G1 p (.lst ds))
  | .dct kvs, E, σ, G, Q => ∀ p, G p = none → wpKV kvs E σ (up G p (.dct [])) fun ps G2 => G2 p = some (.dct []) ∧ match putAll [] ps with
    | some m => Q (.ref p) (up G2 p (.dct m))
    | none => False
  | .idx a i, E, σ, G, Q => wpE a E σ G fun x G1 => wpE i E σ G1 fun y G2 => idxW x y G2 Q
  | .sli a lo hi, E, σ, G, Q => wpE a E σ G fun x G1 => wpO lo E σ G1 fun l G2 => wpO hi E σ G2 fun h G3 => sliW x l h G3 Q
  | .att o f, E, σ, G, Q => wpE o E σ G fun x G1 => match x with
    | .ref a => match G1 a with
      | some (.ins _ fs) => match fld fs f with
        | some d => Q d G1
        | none => False
      | _ => False
    | _ => False
  | .call f es, E, σ, G, Q => wpEs es E σ G fun ds G1 => F f ds G1 Q E
  | .kcall f es to, E, σ, G, Q => wpEs es E σ G fun ds G1 => ds.length = to.length ∧ F f (to.filterMap fun j => ds[j]?) G1 Q E
  | .meth o m es, E, σ, G, Q => wpE o E σ G fun x G1 => match x with
    | .ref a => match G1 a with
      | some (.ins c fs) => match C.meth c m with
        | some f => wpEs es E σ G1 fun ds G2 => F f (.ref a :: ds) G2 Q E
        | none => False
      | _ => False
    | _ => False
  | .mk c es, E, σ, G, Q => match C.init c with
    | some f => wpEs es E σ G fun ds G1 => ∀ p, G1 p = none → F f (.ref p :: ds) (up G1 p (.ins c [])) (fun d G2 => d = .non ∧ Q (.ref p) G2) E
    | none => False
  | .vcall g es, E, σ, G, Q => wpE g E σ G fun x G1 => match x with
    | .fn f => wpEs es E σ G1 fun ds G2 => F f ds G2 Q E
    | _ => False
  | .prim p es, E, σ, G, Q => wpEs es E σ G fun ds G1 => primW p ds G1 Q
  | .bm p t o es, E, σ, G, Q => wpE o E σ G fun x G1 => kindO G1 x = some t ∧ wpEs es E σ G1 fun ds G2 => kindO G2 x = some t ∧ primW p (x :: ds) G2 Q
  | .tmp p e, E, σ, G, Q => wpE e E σ G fun x G1 => primW p [x] G1 fun d G2 => match x with
    | .ref a => Q d (del G2 a)
    | _ => Q d G2
  | .isi e t, E, σ, G, Q => wpE e E σ G fun x G1 => match isTy t x with
    | some b => Q (.bl b) G1
    | none => False
  | .what, E, _, G, Q => match W with
    | some d => Q d G
    | none => False
  | .lc elt t it cs vs, E, σ, G, Q => wpI it E σ G fun ds chk G1 => ∀ p, G1 p = none →
      lcS (wpG t fun _ _ => False) (wpTs cs fun _ _ => False) (wpE elt fun _ _ => False) chk p (wipe σ vs) (fun G2 => Q (.ref p) G2) ds (up G1 p (.lst []))
  | .dc k v t it vs, E, σ, G, Q => wpI it E σ G fun ds chk G1 => ∀ p, G1 p = none →
      dcS (wpG t fun _ _ => False) (wpE k fun _ _ => False) (wpE v fun _ _ => False) chk p (wipe σ vs) (fun G2 => Q (.ref p) G2) ds (up G1 p (.dct []))
termination_by structural x => x
/-- by truth -/
def wpT : CB → KX → St → Gp → KB → Prop
  | .val e, E, σ, G, Q => wpE e E σ G fun x G1 => match D.truth G1 x with
    | some k => Q k G1
    | none => False
  | .not a, E, σ, G, Q => wpT a E σ G fun k G1 => Q (!k) G1
  | .and a b, E, σ, G, Q => wpT a E σ G fun k G1 => if k = true then wpT b E σ G1 Q else Q false G1
  | .or a b, E, σ, G, Q => wpT a E σ G fun k G1 => if k = true then Q true G1 else wpT b E σ G1 Q
  | .ite c a b, E, σ, G, Q => wpT c E σ G fun k G1 => if k = true then wpT a E σ G1 Q else wpT b E σ G1 Q
  | .cmp op a b, E, σ, G, Q => wpE a E σ G fun x G1 => wpE b E σ G1 fun y G2 => cmpW op x y G2 Q
  | .chn op op' a b c, E, σ, G, Q => wpE a E σ G fun x G1 => wpE b E σ G1 fun y G2 => cmpW op x y G2 fun k G3 => if k = true then wpE c E σ G3 fun z G4 => cmpW op' y z G4 Q else Q false G3
termination_by structural x => x
def wpTs : CO2 → KX → St → Gp → KB → Prop
  | .no, E, _, G, Q => Q true G
  | .so e, E, σ, G, Q => wpT e E σ G Q
termination_by structural x => x
def wpEs : CEs → KX → St → Gp → (List D → Gp → Prop) → Prop
  | .nil, E, _, G, Q => Q [] G
  | .cons e es, E, σ, G, Q => wpE e E σ G fun d G1 => wpEs es E σ G1 fun ds G2 => Q (d :: ds) G2
termination_by structural x => x
def wpKV : CKV → KX → St → Gp → (List (D × D) → Gp → Prop) → Prop
  | .nil, E, _, G, Q => Q [] G
  | .cons k v r, E, σ, G, Q => wpE k E σ G fun x G1 => wpE v E σ G1 fun y G2 => wpKV r E σ G2 fun ps G3 => Q ((x, y) :: ps) G3
termination_by structural x => x
def wpO : CO → KX → St → Gp → (Option Int → Gp → Prop) → Prop
  | .no, E, _, G, Q => Q none G
  | .so e, E, σ, G, Q => wpE e E σ G fun d G1 => match d with
    | .int i => Q (some i) G1
    | _ => False
termination_by structural x => x
def wpG : CT → KX → D → St → Gp → (St → Gp → Prop) → Prop
  | .nm i, E, d, σ, G, Q => Q (σ.set i (some d)) G
  | .tup ts, E, d, σ, G, Q => match d with
    | .tup ds => ds.length = ts.len ∧ wpGs ts E ds σ G Q
    | _ => False
  | .sub o i, E, d, σ, G, Q => wpE o E σ G fun x G1 => wpE i E σ G1 fun k G2 => match x with
    | .ref a => match G2 a with
      | some (.lst ds) => match k with
        | .int j => match ixN ds.length j with
          | some n => Q σ (up G2 a (.lst (ds.set n d)))
          | none => False
        | _ => False
      | some (.dct kvs) => kindOk kvs k = true ∧ kvs.length < 1000000 ∧ Q σ (up G2 a (.dct (keyPut kvs k d)))
      | _ => False
    | _ => False
  | .att o f, E, d, σ, G, Q => wpE o E σ G fun x G1 => match x with
    | .ref a => match G1 a with
      | some (.ins c fs) => fs.length < 1000 ∧ Q σ (up G1 a (.ins c (putF f d fs)))
      | _ => False
    | _ => False
termination_by structural x => x
def wpGs : CTs → KX → List D → St → Gp → (St → Gp → Prop) → Prop
  | .nil, E, [], σ, G, Q => Q σ G
  | .cons t ts, E, d :: ds, σ, G, Q => wpG t E d σ G fun σ1 G1 => wpGs ts E ds σ1 G1 Q
  | _, E, _, _, _, _ => False
termination_by structural x => x
/-- what is walked: its items, what must stay -/
def wpI : CI → KX → St → Gp → (List D → (Gp → Prop) → Gp → Prop) → Prop
  | .seq e, E, σ, G, Q => wpE e E σ G fun x G1 => match x with
    | .tup ds => Q ds (fun _ => True) G1
    | .ref a => match G1 a with
      | some (.lst ds) => Q ds (fun G2 => G2 a = some (.lst ds)) G1
      | _ => False
    | _ => False
  | .rng1 e, E, σ, G, Q => wpE e E σ G fun x G1 => match x with
    | .int n => (-16777216 ≤ n ∧ n ≤ 16777216) ∧ Q ((List.range n.toNat).map fun i => D.int (i : Nat)) (fun _ => True) G1
    | _ => False
  | .rng2 a b, E, σ, G, Q => wpE a E σ G fun x G1 => wpE b E σ G1 fun y G2 => match x, y with
    | .int m, .int n => (0 ≤ m ∧ m ≤ 16777216 ∧ -16777216 ≤ n ∧ n ≤ 16777216) ∧ Q ((List.range (n - m).toNat).map fun i => D.int (m + (i : Nat))) (fun _ => True) G2
    | _, _ => False
  | .enu e, E, σ, G, Q => wpE e E σ G fun x G1 => match x with
    | .tup ds => Q (ds.mapIdx fun i d => D.tup [.int (i : Nat), d]) (fun _ => True) G1
    | .ref a => match G1 a with
      | some (.lst ds) => Q (ds.mapIdx fun i d => D.tup [.int (i : Nat), d]) (fun G2 => G2 a = some (.lst ds)) G1
      | _ => False
    | _ => False
  | .zip a b, E, σ, G, Q => wpE a E σ G fun x G1 => wpE b E σ G1 fun y G2 => match x, y with
    | .tup xs, .tup ys => Q (List.zipWith (fun x y => D.tup [x, y]) xs ys) (fun _ => True) G2
    | _, _ => False
  | .itm e, E, σ, G, Q => wpE e E σ G fun x G1 => match x with
    | .ref a => match G1 a with
      | some (.dct kvs) => Q (kvs.map fun p => D.tup [p.1, p.2]) (fun G2 => G2 a = some (.dct kvs)) G1
      | _ => False
    | _ => False
termination_by structural x => x
end
end
section
variable (C : Cls) (F : Orc)
mutual
def wpS : CS → KX → Option D → KS → St → Gp → Prop
  | .asg t e, E, W, K, σ, G => wpE C F W e E σ G fun d G1 => wpG C F W t E d σ G1 K.nx
  | .expr e, E, W, K, σ, G => wpE C F W e E σ G fun _ G1 => K.nx σ G1
  | .ite c a b, E, W, K, σ, G => wpT C F W c E σ G fun k G1 => if k = true then wpSs a E W K σ G1 else wpSs b E W K σ G1
  | .whl c b, E, W, K, σ, G => ∃ n, whlN (wpT C F W c E) (wpSs b E W) K n σ G
  | .for_ t it b, E, W, K, σ, G => wpI C F W it E σ G fun ds chk G1 => forS (wpG C F W t E) (wpSs b E W) chk K ds σ G1
  | .ret e, E, W, K, σ, G => wpE C F W e E σ G K.rt
  | .retN, _, _, K, _, G => K.rt .non G
  | .brk, _, _, K, σ, G => K.bk σ G
  | .cont, _, _, K, σ, G => K.ct σ G
  | .pass, _, _, K, σ, G => K.nx σ G
  | .rse c e, E, W, _, σ, G => wpE C F W e E σ G fun d G1 => E ⟨c, d⟩ G1
  | .tryN b, _, W, K, σ, G => wpSs b (fun _ _ => False) W K σ G
  | .tryC b hs, E, W, K, σ, G => wpSs b (fun x G1 => wpHs hs x E K (σ.map fun _ => none) G1) W K σ G
termination_by structural x => x
def wpSs : CSs → KX → Option D → KS → St → Gp → Prop
  | .nil, _, _, K, σ, G => K.nx σ G
  | .cons s ss, E, W, K, σ, G => wpS s E W { K with nx := wpSs ss E W K } σ G
termination_by structural x => x
def wpHs : CHs → Ex → KX → KS → St → Gp → Prop
  | .nil, x, E, _, _, G => E x G
  | .cons cs b hs, x, E, K, σ, G => if cs.any (C.sub x.cls) = true then wpSs b E (some x.what) K σ G else wpHs hs x E K σ G
termination_by structural x => x
end
end
/-- a def: how many parameters, how many names, its body -/
structure Def where
  ps : Nat
  ns : Nat
  body : CSs
structure Pr where
  cls : Cls
  defs : Nat → Option Def
def start (n : Nat) (ds : List D) : St := ds.map some ++ List.replicate (n - ds.length) none
/-- the call of a def, n calls deep at most; behind it what is not asked any more is let go -/
def wpF (P : Pr) : Nat → Orc
  | 0, _, _, _, _, _ => False
  | n + 1, f, ds, G, Q, E => match P.defs f with
    | some d => ds.length = d.ps ∧ wpSs P.cls (wpF P n) d.body (fun x G' => ∃ G'', Sub G'' G' ∧ E x G'') none
        { nx := fun _ G' => ∃ G'', Sub G'' G' ∧ Q .non G'', rt := fun v G' => ∃ G'', Sub G'' G' ∧ Q v G'', bk := fun _ _ => False, ct := fun _ _ => False } (start d.ns ds) G
    | none => False
end AT
section
set_option maxHeartbeats 4000000
/-! AT1: the core language over the hand layer. -/
namespace AT
open PySem PySem.Spec PyProof.Rows L2

/-- what stands written: the text's part, the defs' and the classes' places, the fields' names -/
structure Wd where
  P : Program
  w : World
  K : PySem.W.Frag
  mg : Str → Option Value
  base : Heap
  fa : Nat → Option Addr
  ca : Nat → Option Addr
  xa : Nat → Option Addr
  nm : Nat → Str

/-- a list that is read alone: locked, or written -/
def RoL (K : PySem.W.Frag) (H : Hp) (a : Addr) (xs : List V) : Prop := (∃ o, H a = some (.frz o (.lst xs))) ∨
  ∃ (o : Obj) (its : Array Value) (n : Nat), K.lookup a = some o ∧ o.cls = .type "list" ∧ o.dict = none ∧ o.data = .seq its n ∧ its.size ≤ sizeLine ∧ Vals xs its.toList
theorem RoL.sqL {K : PySem.W.Frag} {H : Hp} {a : Addr} {xs : List V} (h : RoL K H a xs) : SqL K H a xs := h.elim (fun z => .inl (.inr z)) .inr
mutual
/-- a value that is some data -/
inductive DV (K : PySem.W.Frag) (fa : Nat → Option Addr) (H : Hp) : V → D → Prop
  | non : DV K fa H .non .non
  | bl (b : Bool) : DV K fa H (.bl b) (.bl b)
  | int (i : Int) : DV K fa H (.int i) (.int i)
  | str (s : Str) : DV K fa H (.str s) (.str s)
  | tup {a : Addr} {vs : List V} {ds : List D} : SqT K H a vs → DVs K fa H vs ds → DV K fa H (.ref a) (.tup ds)
  | rol {a : Addr} {vs : List V} {ds : List D} : RoL K H a vs → DVs K fa H vs ds → DV K fa H (.ref a) (.rol ds)
  | ref (a : Addr) : DV K fa H (.ref a) (.ref a)
  | fn {f : Nat} {a : Addr} : fa f = some a → DV K fa H (.ref a) (.fn f)
inductive DVs (K : PySem.W.Frag) (fa : Nat → Option Addr) (H : Hp) : List V → List D → Prop
  | nil : DVs K fa H [] []
  | cons {v : V} {vs : List V} {d : D} {ds : List D} : DV K fa H v d → DVs K fa H vs ds → DVs K fa H (v :: vs) (d :: ds)
end

/-- tuples and locked things stand -/
def Xt (H H' : Hp) : Prop := (∀ b xs, H b = some (.tup xs) → H' b = some (.tup xs)) ∧ ∀ b o u, H b = some (.frz o u) → H' b = some (.frz o u)
theorem Xt.refl (H : Hp) : Xt H H := ⟨fun _ _ h => h, fun _ _ _ h => h⟩
theorem Xt.trans {H H1 H2 : Hp} (a : Xt H H1) (b : Xt H1 H2) : Xt H H2 := ⟨fun c xs h => b.1 c xs (a.1 c xs h), fun c o u h => b.2 c o u (a.2 c o u h)⟩
theorem Xt.new {H : Hp} {p : Addr} {o : HO} (h : H p = none) : Xt H (upd H p o) :=
  ⟨fun b xs e => by rw [upd_ne (ne_of_none e h)]; exact e, fun b ob u e => by rw [upd_ne (ne_of_none e h)]; exact e⟩
/-- what is written is no tuple and not locked -/
theorem Xt.put {H : Hp} {p : Addr} {o u : HO} (h : H p = some o) (mu : Mut (some o)) : Xt H (upd H p u) := by
  refine ⟨fun b xs e => ?_, fun b ob v e => ?_⟩
  · rw [upd_ne (fun z => ?_)]
    · exact e
    · subst z; rw [h] at e; cases e; exact mu
  · rw [upd_ne (fun z => ?_)]
    · exact e
    · subst z; rw [h] at e; cases e; exact mu
theorem Xt.roL {K : PySem.W.Frag} {H H' : Hp} {a : Addr} {xs : List V} (e : Xt H H') (h : RoL K H a xs) : RoL K H' a xs := by
  rcases h with ⟨o, h⟩ | h
  · exact .inl ⟨o, e.2 _ _ _ h⟩
  · exact .inr h
theorem Xt.sqT {K : PySem.W.Frag} {H H' : Hp} {a : Addr} {xs : List V} (e : Xt H H') (h : SqT K H a xs) : SqT K H' a xs := by
  rcases h with (h | ⟨o, h⟩) | h
  · exact .inl (.inl (e.1 _ _ h))
  · exact .inl (.inr ⟨o, e.2 _ _ _ h⟩)
  · exact .inr h

section
variable {K : PySem.W.Frag} {fa : Nat → Option Addr} {H H' : Hp}
mutual
theorem DV.mono (x : Xt H H') : ∀ {v : V} {d : D}, DV K fa H v d → DV K fa H' v d
  | _, _, .non => .non
  | _, _, .bl b => .bl b
  | _, _, .int i => .int i
  | _, _, .str s => .str s
  | _, _, .tup h hs => .tup (x.sqT h) (DVs.mono x hs)
  | _, _, .rol h hs => .rol (Xt.roL x h) (DVs.mono x hs)
  | _, _, .ref a => .ref a
  | _, _, .fn e => .fn e
theorem DVs.mono (x : Xt H H') : ∀ {vs : List V} {ds : List D}, DVs K fa H vs ds → DVs K fa H' vs ds
  | _, _, .nil => .nil
  | _, _, .cons h hs => .cons (DV.mono x h) (DVs.mono x hs)
end
theorem DVs.length : ∀ {vs : List V} {ds : List D}, DVs K fa H vs ds → vs.length = ds.length
  | _, _, .nil => rfl
  | _, _, .cons _ hs => by simp [DVs.length hs]
theorem DVs.append : ∀ {vs ws : List V} {ds es : List D}, DVs K fa H vs ds → DVs K fa H ws es → DVs K fa H (vs ++ ws) (ds ++ es)
  | _, _, _, _, .nil, h => h
  | _, _, _, _, .cons h hs, h' => .cons h (DVs.append hs h')
theorem DVs.get : ∀ {vs : List V} {ds : List D} {i : Nat} {d : D}, DVs K fa H vs ds → ds[i]? = some d → ∃ v, vs[i]? = some v ∧ DV K fa H v d
  | _, _, _, _, .nil, e => by simp at e
  | _, _, 0, _, .cons h _, e => by simp at e; subst e; exact ⟨_, rfl, h⟩
  | _, _, i + 1, d, .cons _ hs, e => by
    obtain ⟨v, h1, h2⟩ := DVs.get (i := i) (d := d) hs (by simpa using e)
    exact ⟨v, by simpa using h1, h2⟩
theorem DVs.getV : ∀ {vs : List V} {ds : List D} {i : Nat} {v : V}, DVs K fa H vs ds → vs[i]? = some v → ∃ d, ds[i]? = some d ∧ DV K fa H v d
  | _, _, _, _, .nil, e => by simp at e
  | _, _, 0, _, .cons h _, e => by simp at e; subst e; exact ⟨_, rfl, h⟩
  | _, _, i + 1, d, .cons _ hs, e => by
    obtain ⟨v, h1, h2⟩ := DVs.getV (i := i) (v := d) hs (by simpa using e)
    exact ⟨v, by simpa using h1, h2⟩
theorem DVs.set {v : V} {d : D} (h : DV K fa H v d) : ∀ {vs : List V} {ds : List D} (i : Nat), DVs K fa H vs ds → DVs K fa H (vs.set i v) (ds.set i d)
  | _, _, _, .nil => .nil
  | _, _, 0, .cons _ hs => .cons h hs
  | _, _, i + 1, .cons g hs => .cons g (DVs.set h i hs)
theorem DVs.take : ∀ {vs : List V} {ds : List D} (n : Nat), DVs K fa H vs ds → DVs K fa H (vs.take n) (ds.take n)
  | _, _, 0, _ => .nil
  | _, _, _ + 1, .nil => .nil
  | _, _, n + 1, .cons h hs => .cons h (DVs.take n hs)
theorem DVs.drop : ∀ {vs : List V} {ds : List D} (n : Nat), DVs K fa H vs ds → DVs K fa H (vs.drop n) (ds.drop n)
  | _, _, 0, h => h
  | _, _, _ + 1, .nil => .nil
  | _, _, n + 1, .cons _ hs => DVs.drop n hs
theorem DVs.rep {vs : List V} {ds : List D} (h : DVs K fa H vs ds) : ∀ n : Nat, DVs K fa H (List.replicate n vs).flatten (List.replicate n ds).flatten
  | 0 => .nil
  | n + 1 => by
    simp only [List.replicate_succ, List.flatten_cons]
    exact h.append (DVs.rep h n)
theorem DVs.dropLast {vs : List V} {ds : List D} (h : DVs K fa H vs ds) : DVs K fa H vs.dropLast ds.dropLast := by
  rw [List.dropLast_eq_take, List.dropLast_eq_take, h.length]
  exact h.take _
theorem DVs.eraseIdx : ∀ {vs : List V} {ds : List D} (i : Nat), DVs K fa H vs ds → DVs K fa H (vs.eraseIdx i) (ds.eraseIdx i)
  | _, _, _, .nil => .nil
  | _, _, 0, .cons _ hs => hs
  | _, _, i + 1, .cons h hs => .cons h (DVs.eraseIdx i hs)
end

mutual
/-- a key as the library takes it -/
def D.nk : D → Option NestedKey
  | .non => some .none
  | .bl b => some (.num (if b then 1 else 0))
  | .int i => some (.num i)
  | .str x => some (.text x)
  | .tup ds => (D.nks ds).map .tup
  | .ref _ | .fn _ | .rol _ => none
def D.nks : List D → Option (List NestedKey)
  | [] => some []
  | d :: ds => match D.nk d, D.nks ds with
    | some k, some ks => some (k :: ks)
    | _, _ => none
end

/-- the fields of an instance -/
def FldR (T : Wd) (H : Hp) (vfs : List (Str × V)) (fs : List (Nat × D)) : Prop := Paired (fun (p : Str × V) (q : Nat × D) => p.1 = T.nm q.1 ∧ DV T.K T.fa H p.2 q.2) vfs fs
/-- an entry of a dict: its key, its hash, its value -/
def EntR (T : Wd) (H : Hp) (p : D × D) (e : DictEntry) : Prop := ∃ k v n, RelV k e.key ∧ DV T.K T.fa H k p.1 ∧ RelV v e.val ∧ DV T.K T.fa H v p.2 ∧ D.nk p.1 = some n ∧ e.hash = n.hash T.w
/-- what stands at a -/
def CellOk (T : Wd) (H : Hp) (a : Addr) : Cell → Prop
  | .lst ds => ∃ vs, H a = some (.lst vs) ∧ DVs T.K T.fa H vs ds
  | .ins c fs => ∃ C dx vfs, T.ca c = some C ∧ H a = some (.ins C dx vfs) ∧ FldR T H vfs fs
  | .dct kvs => ∃ (o : Obj) (es : Array DictEntry) (ep : Nat), H a = some (.ext fun h => h.get? a = some o) ∧ (a == sysModules) = false ∧ o.ExactDict ∧ o.data = .dict es ep ∧
      Paired (EntR T H) kvs es.toList ∧ (kvs.map fun p => D.nk p.1).Nodup ∧ KeysOk kvs ∧ kvs.length ≤ 2000000
def GR (T : Wd) (G : Gp) (H : Hp) : Prop := ∀ a c, G a = some c → CellOk T H a c
def SR (T : Wd) (H : Hp) (σ : L2.St) (σd : AT.St) : Prop := σd.length = σ.length ∧ ∀ (i : Nat) (d : D), σd[i]? = some (some d) → ∃ v, σ[i]? = some (some v) ∧ DV T.K T.fa H v d

theorem paired_mono {α β : Type} {F F' : α → β → Prop} (h : ∀ a b, F a b → F' a b) {l : List α} {m : List β} (p : Paired F l m) : Paired F' l m := Paired.mapP p h
section
variable {T : Wd} {H H' : Hp} {G : Gp}
theorem CellOk.keep {a : Addr} {c : Cell} (x : Xt H H') (e : H' a = H a) (h : CellOk T H a c) : CellOk T H' a c := by
  cases c with
  | lst ds =>
    obtain ⟨vs, h1, h2⟩ := h
    exact ⟨vs, e.trans h1, h2.mono x⟩
  | ins c fs =>
    obtain ⟨C, dx, vfs, h1, h2, h3⟩ := h
    exact ⟨C, dx, vfs, h1, e.trans h2, paired_mono (fun p q z => ⟨z.1, z.2.mono x⟩) h3⟩
  | dct kvs =>
    obtain ⟨o, es, ep, h1, h2, h3, h4, h5, h6⟩ := h
    exact ⟨o, es, ep, e.trans h1, h2, h3, h4, paired_mono (fun p q ⟨k, v, n, z1, z2, z3, z4, z5⟩ => ⟨k, v, n, z1, z2.mono x, z3, z4.mono x, z5⟩) h5, h6⟩
/-- what is spoken of is tracked -/
theorem GR.free {p : Addr} (g : GR T G H) (hp : H p = none) : G p = none := by
  cases q : G p with
  | none => rfl
  | some c =>
    have h := g p c q
    cases c with
    | lst ds => obtain ⟨vs, h1, _⟩ := h; rw [hp] at h1; cases h1
    | ins c fs => obtain ⟨C, dx, vfs, h1, h2, _⟩ := h; rw [hp] at h2; cases h2
    | dct kvs => obtain ⟨o, es, ep, h1, _⟩ := h; rw [hp] at h1; cases h1
/-- a new thing that is not spoken of -/
theorem GR.new {p : Addr} {o : HO} (g : GR T G H) (hp : H p = none) : GR T G (upd H p o) := fun a c e => by
  have hb : a ≠ p := fun z => by rw [z, g.free hp] at e; cases e
  exact (g a c e).keep (.new hp) (upd_ne hb)
theorem GR.sub {G' : Gp} (g : GR T G H) (s : Sub G' G) : GR T G' H := fun a c e => g a c (s a c e)
theorem GR.del (g : GR T G H) (a : Addr) : GR T (del G a) H := g.sub fun b c e => by
  unfold AT.del at e
  split at e
  · cases e
  · exact e
/-- a new thing that is spoken of -/
theorem GR.add {p : Addr} {o : HO} {c : Cell} (g : GR T G H) (hp : H p = none) (h : CellOk T (upd H p o) p c) : GR T (up G p c) (upd H p o) := fun a c' e => by
  unfold up at e
  by_cases hb : a = p
  · rw [if_pos hb] at e
    cases e
    subst hb
    exact h
  · rw [if_neg hb] at e
    exact g.new hp a c' e
/-- what is spoken of changes -/
theorem GR.put {a : Addr} {o : HO} {c : Cell} (g : GR T G H) (x : Xt H (upd H a o)) (h : CellOk T (upd H a o) a c) : GR T (up G a c) (upd H a o) := fun b c' e => by
  unfold up at e
  by_cases hb : b = a
  · rw [if_pos hb] at e
    cases e
    subst hb
    exact h
  · rw [if_neg hb] at e
    exact (g b c' e).keep x (upd_ne hb)
theorem SR.mono {σ : L2.St} {σd : AT.St} (x : Xt H H') (h : SR T H σ σd) : SR T H' σ σd := ⟨h.1, fun i d e => by
  obtain ⟨v, h1, h2⟩ := h.2 i d e
  exact ⟨v, h1, h2.mono x⟩⟩
theorem SR.set {σ : L2.St} {σd : AT.St} {i : Nat} {v : V} {d : D} (h : SR T H σ σd) (hv : DV T.K T.fa H v d) : SR T H (σ.set i (some v)) (σd.set i (some d)) := ⟨by simp [h.1], fun j e q => by
  by_cases hj : i = j
  · subst hj
    by_cases hl : i < σd.length
    · rw [List.getElem?_set_self hl] at q
      have q' : d = e := by injection q with q; injection q
      subst q'
      exact ⟨v, by rw [List.getElem?_set_self (by rw [← h.1]; exact hl)], hv⟩
    · rw [List.getElem?_eq_none (by simpa using hl)] at q
      cases q
  · rw [List.getElem?_set_ne hj] at q
    obtain ⟨w, h1, h2⟩ := h.2 j e q
    exact ⟨w, by rw [List.getElem?_set_ne hj]; exact h1, h2⟩⟩
theorem SR.clear {σ : L2.St} {σd : AT.St} {i : Nat} (h : SR T H σ σd) : SR T H (σ.set i none) (σd.set i none) := ⟨by simp [h.1], fun j e q => by
  by_cases hj : i = j
  · subst hj
    by_cases hl : i < σd.length
    · rw [List.getElem?_set_self hl] at q
      injection q with q
      cases q
    · rw [List.getElem?_eq_none (by simpa using hl)] at q
      cases q
  · rw [List.getElem?_set_ne hj] at q
    obtain ⟨w, h1, h2⟩ := h.2 j e q
    exact ⟨w, by rw [List.getElem?_set_ne hj]; exact h1, h2⟩⟩
end

/-! ### readings -/
abbrev TE2 := AT.St → Gp → KE → Prop
abbrev TT2 := AT.St → Gp → KB → Prop
abbrev TA2 := AT.St → Gp → (List D → Gp → Prop) → Prop
abbrev TG2 := D → AT.St → Gp → (AT.St → Gp → Prop) → Prop
abbrev TGs2 := List D → AT.St → Gp → (AT.St → Gp → Prop) → Prop
abbrev TS2 := KS → AT.St → Gp → Prop
section
variable (T : Wd) (H0 : Hp)
def LE (t : TE2) : TE := fun σ H Q => ∃ (σd : AT.St) (G : Gp) (Q2 : KE), Xt H0 H ∧ SR T H σ σd ∧ GR T G H ∧ t σd G Q2 ∧
  ∀ d G' v H', Q2 d G' → Xt H H' → DV T.K T.fa H' v d → GR T G' H' → Q v H'
def LT (t : TT2) : TT := fun σ H Q => ∃ (σd : AT.St) (G : Gp) (Q2 : KB), Xt H0 H ∧ SR T H σ σd ∧ GR T G H ∧ t σd G Q2 ∧
  ∀ b G' H', Q2 b G' → Xt H H' → GR T G' H' → Q b H'
def LA (t : TA2) : TA := fun σ H Q => ∃ (σd : AT.St) (G : Gp) (Q2 : List D → Gp → Prop), Xt H0 H ∧ SR T H σ σd ∧ GR T G H ∧ t σd G Q2 ∧
  ∀ ds G' vs H', Q2 ds G' → Xt H H' → DVs T.K T.fa H' vs ds → GR T G' H' → Q vs H'
def LG (sl : List Nat) (t : TG2) : TG := fun v σ H Q => ∃ (d : D) (σd : AT.St) (G : Gp) (Q2 : AT.St → Gp → Prop), Xt H0 H ∧ DV T.K T.fa H v d ∧ SR T H σ σd ∧ GR T G H ∧ t d σd G Q2 ∧
  ∀ σd' G' σ' H', Q2 σd' G' → Xt H H' → SR T H' σ' σd' → GR T G' H' → (∀ vs, (∀ i ∈ sl, i ∈ vs) → L2.wipe σ' vs = L2.wipe σ vs) → Q σ' H'
def LGs (sl : List Nat) (t : TGs2) : TGs := fun v σ H Q => ∃ (d : List D) (σd : AT.St) (G : Gp) (Q2 : AT.St → Gp → Prop), Xt H0 H ∧ DVs T.K T.fa H v d ∧ SR T H σ σd ∧ GR T G H ∧ t d σd G Q2 ∧
  ∀ σd' G' σ' H', Q2 σd' G' → Xt H H' → SR T H' σ' σd' → GR T G' H' → (∀ vs, (∀ i ∈ sl, i ∈ vs) → L2.wipe σ' vs = L2.wipe σ vs) → Q σ' H'
/-- what is wanted behind a statement -/
structure LK (H : Hp) (K : KS) (D : Ends) : Prop where
  nx : ∀ σd' G' σ' H', K.nx σd' G' → Xt H H' → SR T H' σ' σd' → GR T G' H' → D.nx σ' H'
  rt : ∀ d G' v H', K.rt d G' → Xt H H' → DV T.K T.fa H' v d → GR T G' H' → D.rt v H'
  bk : ∀ σd' G' σ' H', K.bk σd' G' → Xt H H' → SR T H' σ' σd' → GR T G' H' → D.bk σ' H'
  ct : ∀ σd' G' σ' H', K.ct σd' G' → Xt H H' → SR T H' σ' σd' → GR T G' H' → D.ct σ' H'
def LS (t : TS2) : TS := fun D σ H => ∃ (σd : AT.St) (G : Gp) (K : KS), Xt H0 H ∧ SR T H σ σd ∧ GR T G H ∧ t K σd G ∧ LK T H K D
/-- a caught or leaving exception: its class, its one field -/
def EV (H : Hp) (cls : Value) (d : Option Addr) (x : Ex) : Prop := ∃ C dd v, T.xa x.cls = some C ∧ cls = .ref C ∧ d = some dd ∧ H dd = some (.xd [(T.nm 0, v)]) ∧ DV T.K T.fa H v x.what
def LX (E : KX) : XK := fun cls d H => ∃ x G, E x G ∧ Xt H0 H ∧ EV T H cls d x ∧ GR T G H
/-- a def's promise -/
def LSp (w : List D → Gp → KE → KX → Prop) (n : Nat) : Sp := fun vs H Q E => ∃ (ds : List D) (G : Gp) (Q2 : KE) (E2 : KX), DVs T.K T.fa H vs ds ∧ ds.length = n ∧ GR T G H ∧ w ds G Q2 E2 ∧
  (∀ d G' v H', Q2 d G' → Xt H H' → DV T.K T.fa H' v d → GR T G' H' → Q v H') ∧ (∀ x G' cls dd H', E2 x G' → Xt H H' → EV T H' cls dd x → GR T G' H' → E cls dd H')
end
theorem LK.mono {T : Wd} {H H' : Hp} {K : KS} {D : Ends} (k : LK T H K D) (x : Xt H H') : LK T H' K D :=
  ⟨fun a b c d e f => k.nx a b c d e (x.trans f), fun a b c d e f => k.rt a b c d e (x.trans f), fun a b c d e f => k.bk a b c d e (x.trans f), fun a b c d e f => k.ct a b c d e (x.trans f)⟩
theorem PE.imp {X : Cx} {e : Expr} {t t' : TE} (h : PE X e t) (i : ∀ σ H Q, t' σ H Q → t σ H Q) : PE X e t' := ⟨fun pins s σ H Q I hw => h.run pins s σ H Q I (i σ H Q hw)⟩
theorem PT.imp {X : Cx} {e : Expr} {t t' : TT} (h : PT X e t) (i : ∀ σ H Q, t' σ H Q → t σ H Q) : PT X e t' := ⟨fun pins s σ H Q I hw => h.run pins s σ H Q I (i σ H Q hw)⟩
theorem PW.imp {X : Cx} {e : Expr} {t t' : TT} (h : PW X e t) (i : ∀ σ H Q, t' σ H Q → t σ H Q) : PW X e t' := ⟨fun wh pins s σ H Q I hw => h.run wh pins s σ H Q I (i σ H Q hw)⟩
theorem PA.imp {X : Cx} {es : List Expr} {t t' : TA} (h : PA X es t) (i : ∀ σ H Q, t' σ H Q → t σ H Q) : PA X es t' := ⟨fun pos pins s σ H Q I hw => h.run pos pins s σ H Q I (i σ H Q hw)⟩
theorem PS.imp {X : Cx} {st : Stmt} {t t' : TS} (h : PS X st t) (i : ∀ D σ H, t' D σ H → t D σ H) : PS X st t' := ⟨fun pins s σ H D I hw => h.run pins s σ H D I (i D σ H hw)⟩
theorem PSs.imp {X : Cx} {st : List Stmt} {t t' : TS} (h : PSs X st t) (i : ∀ D σ H, t' D σ H → t D σ H) : PSs X st t' := ⟨fun pins s σ H D I hw => h.run pins s σ H D I (i D σ H hw)⟩
theorem PG.imp {X : Cx} {e : Expr} {t t' : TG} (h : PG X e t) (i : ∀ v σ H Q, t' v σ H Q → t v σ H Q) : PG X e t' := ⟨fun pins s σ H v u Q I r hw => h.run pins s σ H v u Q I r (i v σ H Q hw)⟩
theorem PGs.imp {X : Cx} {e : List Expr} {t t' : TGs} (h : PGs X e t) (i : ∀ v σ H Q, t' v σ H Q → t v σ H Q) : PGs X e t' := ⟨fun pins s σ H v u Q I r hw => h.run pins s σ H v u Q I r (i v σ H Q hw)⟩
end AT
end
section
set_option maxHeartbeats 4000000
/-! AT2: expressions. -/
namespace AT
open PySem PySem.Spec PyProof.Rows L2 SeqAt

/-! ### data as keys -/
mutual
theorem nk_of : ∀ {d : D}, D.pure d = true → ∃ n, D.nk d = some n ∧ n.depth = D.depth d
  | .non, _ => ⟨_, rfl, rfl⟩
  | .bl _, _ => ⟨_, rfl, rfl⟩
  | .int _, _ => ⟨_, rfl, rfl⟩
  | .str _, _ => ⟨_, rfl, rfl⟩
  | .tup ds, h => by
    obtain ⟨ns, h1, h2⟩ := nks_of (ds := ds) h
    exact ⟨.tup ns, by simp [D.nk, h1], by simp [NestedKey.depth, D.depth, h2]⟩
  | .ref _, h => by cases h
  | .fn _, h => by cases h
  | .rol _, h => by cases h
theorem nks_of : ∀ {ds : List D}, D.pures ds = true → ∃ ns, D.nks ds = some ns ∧ NestedKey.depthAll ns = D.depths ds
  | [], _ => ⟨_, rfl, rfl⟩
  | d :: ds, h => by
    simp only [D.pures, Bool.and_eq_true] at h
    obtain ⟨n, h1, h2⟩ := nk_of h.1
    obtain ⟨ns, h3, h4⟩ := nks_of h.2
    exact ⟨n :: ns, by simp [D.nks, h1, h3], by simp [NestedKey.depthAll, D.depths, h2, h4]⟩
end
mutual
theorem eqB_nk : ∀ {d e : D} {n m : NestedKey}, D.nk d = some n → D.nk e = some m → NestedKey.beq n m = D.eqB d e
  | .non, e, n, m, h1, h2 => by
    cases e <;> simp [D.nk] at h1 h2 <;> first | (subst h1; subst h2; simp [NestedKey.beq, D.eqB]) | (obtain ⟨ns, _, rfl⟩ := h2; subst h1; simp [NestedKey.beq, D.eqB])
  | .bl a, e, n, m, h1, h2 => by
    cases e with
    | bl b => simp [D.nk] at h1 h2; subst h1; subst h2; cases a <;> cases b <;> simp [NestedKey.beq, D.eqB]
    | int j => simp [D.nk] at h1 h2; subst h1; subst h2; simp only [NestedKey.beq, D.eqB, Bool.beq_eq_decide_eq]
    | _ => simp [D.nk] at h1 h2 <;> first | (subst h1; subst h2; simp [NestedKey.beq, D.eqB]) | (obtain ⟨ns, _, rfl⟩ := h2; subst h1; simp [NestedKey.beq, D.eqB])
  | .int i, e, n, m, h1, h2 => by
    cases e <;> simp [D.nk] at h1 h2 <;> first | (subst h1; subst h2; simp [NestedKey.beq, D.eqB] <;> try rw [Bool.beq_eq_decide_eq]) | (obtain ⟨ns, _, rfl⟩ := h2; subst h1; simp [NestedKey.beq, D.eqB])
  | .str i, e, n, m, h1, h2 => by
    cases e <;> simp [D.nk] at h1 h2 <;> first | (subst h1; subst h2; simp [NestedKey.beq, D.eqB] <;> try rw [Bool.beq_eq_decide_eq]) | (obtain ⟨ns, _, rfl⟩ := h2; subst h1; simp [NestedKey.beq, D.eqB])
  | .tup ds, e, n, m, h1, h2 => by
    simp [D.nk] at h1
    obtain ⟨ns, q1, rfl⟩ := h1
    cases e with
    | tup es =>
      simp [D.nk] at h2
      obtain ⟨ms, q2, rfl⟩ := h2
      simp only [NestedKey.beq, D.eqB]
      exact eqBs_nk q1 q2
    | ref _ => simp [D.nk] at h2
    | fn _ => simp [D.nk] at h2
    | rol _ => simp [D.nk] at h2
    | _ => simp [D.nk] at h2; subst h2; simp [NestedKey.beq, D.eqB]
  | .ref _, _, _, _, h1, _ => by simp [D.nk] at h1
  | .fn _, _, _, _, h1, _ => by simp [D.nk] at h1
  | .rol _, _, _, _, h1, _ => by simp [D.nk] at h1
theorem eqBs_nk : ∀ {ds es : List D} {ns ms : List NestedKey}, D.nks ds = some ns → D.nks es = some ms → NestedKey.beqAll ns ms = D.eqBs ds es
  | [], [], _, _, h1, h2 => by simp [D.nks] at h1 h2; subst h1; subst h2; rfl
  | [], e :: es, _, _, h1, h2 => by
    simp only [D.nks] at h1 h2
    split at h2
    · simp at h1 h2; subst h1; subst h2; rfl
    · cases h2
  | d :: ds, [], _, _, h1, h2 => by
    simp only [D.nks] at h1 h2
    split at h1
    · simp at h1 h2; subst h1; subst h2; rfl
    · cases h1
  | d :: ds, e :: es, _, _, h1, h2 => by
    simp only [D.nks] at h1 h2
    split at h1
    · split at h2
      · rename_i n ns q1 q2 _ _ m ms q3 q4
        simp at h1 h2; subst h1; subst h2
        simp only [NestedKey.beqAll, D.eqBs, eqB_nk q1 q3, eqBs_nk q2 q4]
      · cases h2
    · cases h1
end
section
variable {X : Cx} {fa : Nat → Option Addr} {pins : List (Addr × Obj)} {σ : L2.St} {H : Hp} {s : Shared}
mutual
/-- data that stands is a key -/
theorem key_is (I : Inv X pins σ H s) : ∀ {d : D} {n : NestedKey} {v : V} {u : Value}, D.nk d = some n → DV X.K fa H v d → RelV v u → NestedIs s.heap n u
  | .non, n, v, u, h, dv, r => by cases dv; cases r; simp [D.nk] at h; subst h; exact .none
  | .bl b, n, v, u, h, dv, r => by cases dv; cases r; simp [D.nk] at h; subst h; exact .bool rfl
  | .int i, n, v, u, h, dv, r => by cases dv; obtain ⟨t, rfl⟩ := r; simp [D.nk] at h; subst h; exact .int _ _
  | .str i, n, v, u, h, dv, r => by cases dv; obtain ⟨t, rfl⟩ := r; simp [D.nk] at h; subst h; exact .text _ _
  | .tup ds, n, v, u, h, dv, r => by
    simp [D.nk] at h
    obtain ⟨ns, q1, rfl⟩ := h
    cases dv with
    | tup h1 h2 =>
      cases r
      obtain ⟨its, rv, ⟨o, e1, e2, m, e3⟩, _⟩ := I.tuple h1
      exact .tup e1 e2 e3 (by simpa using keys_are I q1 h2 rv)
  | .ref _, _, _, _, h, _, _ => by simp [D.nk] at h
  | .fn _, _, _, _, h, _, _ => by simp [D.nk] at h
  | .rol _, _, _, _, h, _, _ => by simp [D.nk] at h
theorem keys_are (I : Inv X pins σ H s) : ∀ {ds : List D} {ns : List NestedKey} {vs : List V} {us : List Value}, D.nks ds = some ns → DVs X.K fa H vs ds → Vals vs us → NestedAll s.heap ns us
  | [], _, _, _, h, dv, r => by cases dv; cases r; simp [D.nks] at h; subst h; exact .nil
  | d :: ds, ns, _, _, h, dv, r => by
    cases dv with
    | cons h1 h2 =>
      cases r with
      | cons r1 r2 =>
        simp only [D.nks] at h
        split at h
        · rename_i n ms q1 q2
          simp at h; subst h
          exact .cons (key_is I q1 h1 r1) (keys_are I q2 h2 r2)
        · cases h
end
end
theorem rneC {A : Around} {s : Shared} {u v : Value} {b b' : Bool} (h : RcNeAt A s u v b) (e : b = b') : RcNeAt A s u v b' := e ▸ h
theorem reqC {A : Around} {s : Shared} {u v : Value} {b b' : Bool} (h : RcAt A s u v b) (e : b = b') : RcAt A s u v b' := e ▸ h
/-- == of two keys, != of them -/
theorem rc_key : ∀ (x y : NestedKey) (A : Around) (s : Shared) (a b : Value), NestedIs s.heap x a → NestedIs s.heap y b → A.units + min x.depth y.depth + 1 < cLine → RcAt A s a b (NestedKey.beq x y) ∧ RcNeAt A s a b (!NestedKey.beq x y)
  | .none, _, A, s, _, _, ra, rb, hu => by
    cases ra
    cases rb with
    | none => exact ⟨RcAt.none_none, RcNeAt.none_none⟩
    | bool e => exact ⟨RcAt.none_bool _, RcNeAt.none_bool _⟩
    | int y u => exact ⟨RcAt.none_int y u, RcNeAt.none_int y u⟩
    | text y u => exact ⟨RcAt.none_str y u, RcNeAt.none_str y u⟩
    | tup k1 k2 k3 k4 => exact ⟨RcAt.none_tuple ⟨_, k1, k2, _, k3⟩ (by omega), RcNeAt.none_tuple ⟨_, k1, k2, _, k3⟩ (by omega)⟩
  | .num i, _, A, s, _, _, ra, rb, hu => by
    cases ra with
    | int _ t =>
      cases rb with
      | none => exact ⟨RcAt.int_none i t, RcNeAt.int_none i t⟩
      | bool e => subst e; exact ⟨reqC (RcAt.int_bool i t _) rfl, rneC (RcNeAt.int_bool i t _) rfl⟩
      | int y u => exact ⟨reqC (RcAt.int_int i t y u) rfl, rneC (RcNeAt.int_int i t y u) rfl⟩
      | text y u => exact ⟨RcAt.int_str i t y u, RcNeAt.int_str i t y u⟩
      | tup k1 k2 k3 k4 => exact ⟨RcAt.int_tuple i t ⟨_, k1, k2, _, k3⟩ (by omega), RcNeAt.int_tuple i t ⟨_, k1, k2, _, k3⟩ (by omega)⟩
    | @bool c _ e =>
      cases rb with
      | none => exact ⟨RcAt.bool_none c, RcNeAt.bool_none c⟩
      | @bool d _ e' => subst e e'; exact ⟨reqC (RcAt.bool_bool c d) (by cases c <;> cases d <;> rfl), rneC (RcNeAt.bool_bool c d) (by cases c <;> cases d <;> rfl)⟩
      | int y u => subst e; exact ⟨reqC (RcAt.bool_int c y u) rfl, rneC (RcNeAt.bool_int c y u) rfl⟩
      | text y u => exact ⟨RcAt.bool_str c y u, RcNeAt.bool_str c y u⟩
      | tup k1 k2 k3 k4 => exact ⟨RcAt.bool_tuple c ⟨_, k1, k2, _, k3⟩ (by omega), RcNeAt.bool_tuple c ⟨_, k1, k2, _, k3⟩ (by omega)⟩
  | .text x, _, A, s, _, _, ra, rb, hu => by
    cases ra with
    | text _ t =>
      cases rb with
      | none => exact ⟨RcAt.str_none x t, RcNeAt.str_none x t⟩
      | @bool d _ e => exact ⟨RcAt.str_bool x t d, RcNeAt.str_bool x t d⟩
      | int y u => exact ⟨RcAt.str_int x t y u, RcNeAt.str_int x t y u⟩
      | text y u => exact ⟨reqC (RcAt.str_str x t y u) rfl, rneC (RcNeAt.str_str x t y u) rfl⟩
      | tup k1 k2 k3 k4 => exact ⟨RcAt.str_tuple x t ⟨_, k1, k2, _, k3⟩ (by omega), RcNeAt.str_tuple x t ⟨_, k1, k2, _, k3⟩ (by omega)⟩
  | .tup xs, _, A, s, _, _, ra, rb, hu => by
    cases ra with
    | @tup l o vs n _ h1 h2 h3 h4 =>
      have hl : s.heap.IsTuple l vs := ⟨_, h1, h2, _, h3⟩
      cases rb with
      | none => exact ⟨RcAt.tuple_none hl (by omega), RcNeAt.tuple_none hl (by omega)⟩
      | @bool d _ e => exact ⟨RcAt.tuple_bool d hl (by omega), RcNeAt.tuple_bool d hl (by omega)⟩
      | int y u => exact ⟨RcAt.tuple_int y u hl (by omega), RcNeAt.tuple_int y u hl (by omega)⟩
      | text y u => exact ⟨RcAt.tuple_str y u hl (by omega), RcNeAt.tuple_str y u hl (by omega)⟩
      | @tup l' o' vs' n' ys k1 k2 k3 k4 =>
        have hl' : s.heap.IsTuple l' vs' := ⟨_, k1, k2, _, k3⟩
        have n1 : vs.size = xs.length := by simpa using NestedAll.length _ _ h4
        have n2 : vs'.size = ys.length := by simpa using NestedAll.length _ _ k4
        have hroom : A.in1.units + min (NestedKey.depthAll xs) (NestedKey.depthAll ys) < cLine := by
          have : A.in1.units = A.units + 1 := rfl
          simp only [NestedKey.depth] at hu
          omega
        have he : ∀ j (j1 : j < vs.size) (j2 : j < vs'.size), EqAt A.in1 s vs[j] vs'[j] (keyEqAt xs ys j) := fun j j1 j2 => by
          have := eqAt_keys xs ys A.in1 s vs.toList vs'.toList h4 k4 hroom j (by simpa using j1) (by simpa using j2)
          simpa using this
        have e : NestedKey.beq (.tup xs) (.tup ys) = ((List.range (min vs.size vs'.size)).all (keyEqAt xs ys) && vs.size == vs'.size) := by
          rw [n1, n2, beqAll_eq]; rfl
        rw [e]
        exact ⟨RcAt.tuples hl hl' (by omega) he, RcNeAt.tuples hl hl' (by omega) he⟩
end AT
end
section
set_option maxHeartbeats 4000000
/-! AT3: operators. -/
namespace AT
open PySem PySem.Spec PyProof.Rows L2 SeqAt

def LR2 (T : Wd) (f : D → D → Gp → KE → Prop) : R2 := fun x y H Q => ∃ (d e : D) (G : Gp) (Q2 : KE), DV T.K T.fa H x d ∧ DV T.K T.fa H y e ∧ GR T G H ∧ f d e G Q2 ∧
  ∀ r G' v H', Q2 r G' → Xt H H' → DV T.K T.fa H' v r → GR T G' H' → Q v H'
theorem pures_get {ds : List D} (h : D.pures ds = true) : ∀ d ∈ ds, D.pure d = true := by
  induction ds with
  | nil => intro d hd; cases hd
  | cons e es ih =>
    simp only [D.pures, Bool.and_eq_true] at h
    intro d hd
    rcases List.mem_cons.mp hd with r | r
    · subst r; exact h.1
    · exact ih h.2 d r
section
variable {T : Wd} {X : Cx} {pins : List (Addr × Obj)} {σ : L2.St} {H : Hp} {s : Shared} {G : Gp}
theorem line_eq : line = sizeLine := by rw [sizeLine_eq]
/-- a list that is spoken of, as it stands -/
theorem seq_at (hK : X.K = T.K) (g : GR T G H) {d : D} {ds : List D} {v : V} (h : seqL G d = some ds) (hv : DV T.K T.fa H v d) : ∃ a vs, v = .ref a ∧ SqL X.K H a vs ∧ DVs T.K T.fa H vs ds := by
  cases hv with
  | ref a =>
    simp only [seqL] at h
    split at h
    · rename_i xs e
      cases h
      obtain ⟨vs, h1, h2⟩ := g a _ e
      exact ⟨a, vs, rfl, SqL.of h1, h2⟩
    · cases h
  | rol h1 h2 =>
    cases h
    exact ⟨_, _, rfl, by rw [hK]; exact h1.sqL, h2⟩
  | _ => cases h
theorem eqO_data {d e : D} (h : ¬ ∃ a a', d = .ref a ∧ e = .ref a') : eqO G d e = if D.pure d && D.pure e && decide (min (D.depth d) (D.depth e) ≤ 60) then some (D.eqB d e) else none := by
  cases d <;> cases e <;> first | rfl | exact absurd ⟨_, _, rfl, rfl⟩ h
/-! ### d == {}, d != {} -/
theorem samePairs0 {prog : Program} {w : World} {A : Around} {E : Value → Shared → Prop} {s : Shared} {nm : String} {a b : Addr} {oa ob : Obj} {es : Array DictEntry} {ep ep' : Nat} {Q : Bool → Shared → Prop} (ha : (a == sysModules) = false) (hb : (b == sysModules) = false)
    (hoa : s.heap.get? a = some oa) (hda : oa.data = .dict es ep) (hob : s.heap.get? b = some ob) (hdb : ob.data = .dict #[] ep') (h : Q (es.size == 0) s) :
    wpAny (model prog w) A (Builtin.Dict.samePairs nm a b) Q E s := by
  unfold Builtin.Dict.samePairs Builtin.Dict.showsAll
  rw [if_neg (show ¬ (a == sysModules) = true by rw [ha]; exact Bool.false_ne_true), if_neg (show ¬ (b == sysModules) = true by rw [hb]; exact Bool.false_ne_true)]
  refine wpAny_bind (wpAny_pure (wpAny_bind (wpAny_pure ?_)))
  refine wpAny_bind (wpAny_dictEntries hoa hda ?_)
  dsimp only
  refine wpAny_bind (wpAny_dictEntries hob hdb ?_)
  by_cases hsz : es.size = 0
  case neg =>
    rw [if_pos (by simpa using hsz)]
    have hbf : (es.size == 0) = false := by simpa using hsz
    rw [hbf] at h
    exact wpAny_bind (wpAny_rule (wpAny_pure h))
  case pos =>
    have h' : Q true s := by simpa [hsz] using h
    rw [if_neg (by rw [hsz]; simp)]
    refine wpAny_bind (wpAny_dictEpoch hoa hda ?_)
    refine wpAny_bind ?_
    rw [Std.Legacy.Range.forIn_eq_forIn_range']
    simp only [Std.Legacy.Range.size, Nat.sub_zero, Nat.add_sub_cancel, Nat.div_one, hsz, List.range'_zero, List.forIn_nil]
    refine wpAny_pure ?_
    exact wpAny_pure h'
theorem rc_dict0 {A : Around} {s : Shared} {a b : Addr} {oa ob : Obj} {es : Array DictEntry} {ep ep' : Nat} (ha : (a == sysModules) = false) (hb : (b == sysModules) = false)
    (hoa : s.heap.get? a = some oa) (ca : oa.ExactDict) (hda : oa.data = .dict es ep) (hob : s.heap.get? b = some ob) (cb : ob.ExactDict) (hdb : ob.data = .dict #[] ep') (hu : A.units < cLine) :
    RcAt A s (.ref a) (.ref b) (es.size == 0) ∧ RcNeAt A s (.ref a) (.ref b) (!(es.size == 0)) := by
  have ta : s.TypeIs (.ref a) "dict" := ⟨oa, hoa, ca.1⟩
  have tb : s.TypeIs (.ref b) "dict" := ⟨ob, hob, cb.1⟩
  constructor
  · intro prog w E Q h
    refine wpAny_richCompare_same_room (op := .Eq) ta tb PySem.F.slot_dict_eq (wpAny_call_entry PySem.F.slot_dict_eq ta PySem.F.entry_dict_eq ?_ (PySem.F.args_dict_eq_2 _ _)) hu
    show wpAny _ _ (Builtin.Dict.dictSlotArgs "__eq__" ⟨[.ref a, .ref b], []⟩ >>= _) _ _ s
    refine wpAny_bind ?_
    unfold Builtin.Dict.dictSlotArgs
    refine wpAny_bind (wpAny_notOrdered_dict ta ?_)
    show wpAny _ _ (pure (Value.ref a, Value.ref b)) _ _ s
    refine wpAny_pure ?_
    refine wpAny_bind (wpAny_isInstance (T := "dict") tb PySem.F.sub_dict_dict ?_)
    simp only [Bool.not_true, Bool.false_eq_true, if_false]
    refine wpAny_bind (wpAny_pure (wpAny_bind (wpAny_pure ?_)))
    refine wpAny_bind (samePairs0 ha hb hoa hda hob hdb ?_)
    refine wpAny_pure ⟨_, rfl, ?_, ?_⟩
    · exact fun x => nomatch x
    · simpa using h
  · intro prog w E Q h
    refine wpAny_richCompare_same_room (op := .NotEq) ta tb PySem.F.slot_dict_ne (wpAny_call_entry PySem.F.slot_dict_ne ta PySem.F.entry_dict_ne ?_ (PySem.F.args_dict_ne_2 _ _)) hu
    show wpAny _ _ (Builtin.Dict.dictSlotArgs "__ne__" ⟨[.ref a, .ref b], []⟩ >>= _) _ _ s
    refine wpAny_bind ?_
    unfold Builtin.Dict.dictSlotArgs
    refine wpAny_bind (wpAny_notOrdered_dict ta ?_)
    show wpAny _ _ (pure (Value.ref a, Value.ref b)) _ _ s
    refine wpAny_pure ?_
    refine wpAny_bind (wpAny_isInstance (T := "dict") tb PySem.F.sub_dict_dict ?_)
    simp only [Bool.not_true, Bool.false_eq_true, if_false]
    refine wpAny_bind (wpAny_pure (wpAny_bind (wpAny_pure ?_)))
    refine wpAny_bind (samePairs0 ha hb hoa hda hob hdb ?_)
    refine wpAny_pure ⟨_, rfl, ?_, ?_⟩
    · exact fun x => nomatch x
    · simpa using h
/-! ### t * 1 -/
theorem tuple_mul1 (l : Addr) (items : Array Value) (n : Nat) (dd : Option Addr) (sl : Array (Option Value)) (u : Tok) :
    Meets (Builtin.«tuple.__mul__» ⟨[.ref l, .int 1 u], []⟩) (fun _ R s => s.heap.get? l = some { cls := .type "tuple", dict := dd, data := .seq items n, slots := sl } ∧ R (.ok (.ret (Value.ref l))) s) :=
  .of_wp fun prog w A R s h => by
    obtain ⟨hp, g, d, tk, os⟩ := s
    obtain ⟨hl, h⟩ := h
    have f1 := AutoSeq1.idx_int
    wp_walk using wpAny_loadPart' hl
    exact ⟨_, rfl, h⟩
theorem op_rep1 {X : Cx} : OpR X (binaryOp .Mult) (fun x y H Q => ∃ l xs, x = .ref l ∧ y = .int 1 ∧ SqT X.K H l xs ∧ Q (.ref l) H) := by
  intro pins s σ H x y v u Q I rx ry h
  obtain ⟨l, xs, rfl, rfl, hT, q⟩ := h
  cases rx
  obtain ⟨t, rfl⟩ := ry
  obtain ⟨its, r, ⟨⟨cls, dd, data, sl⟩, ho, hc, n, hd⟩, hs⟩ := I.tuple hT
  simp only at hc hd
  subst hc hd
  exact wpAny_binaryOp_repeat_ref (T := "tuple") (U := "int") (by decide) ⟨_, ho, rfl⟩ (fun s' => typeIs_int s' 1 t) noFill_tuple_mul F.fills_int_mul F.slot_int_rmul repeat_tuple F.slot_int_index.lookup
    (call_meets F.slot_int_rmul (typeIs_int s 1 t) F.entry_int_rmul (F.args_int_rmul_2 _ _) (int_rmul_tuple 1 t l its.toArray n dd sl)
      ⟨ho, rfl, ⟨_, ho, rfl⟩, call_meets F.slot_tuple_mul ⟨_, ho, rfl⟩ F.entry_tuple_mul (F.args_tuple_mul_2 _ _) (tuple_mul1 l its.toArray n dd sl t) ⟨ho, ⟨.ref l, H, I, rfl, q⟩⟩⟩)
theorem eqO_run (hK : X.K = T.K) (hu : X.A.units + 64 < cLine) (I : Inv X pins σ H s) (g : GR T G H) {d e : D} {x y : V} {v u : Value} {b : Bool} (hd : DV T.K T.fa H x d) (he : DV T.K T.fa H y e) (rx : RelV x v) (ry : RelV y u)
    (h : eqO G d e = some b) : RcAt X.A s v u b ∧ RcNeAt X.A s v u (!b) := by
  have pure_case : ∀ {d e : D} {x y : V} {v u : Value}, DV T.K T.fa H x d → DV T.K T.fa H y e → RelV x v → RelV y u → (if D.pure d && D.pure e && decide (min (D.depth d) (D.depth e) ≤ 60) then some (D.eqB d e) else none) = some b →
      RcAt X.A s v u b ∧ RcNeAt X.A s v u (!b) := by
    intro d e x y v u hd he rx ry h
    split at h
    · rename_i hc
      simp only [Bool.and_eq_true, decide_eq_true_eq] at hc
      obtain ⟨⟨p1, p2⟩, p3⟩ := hc
      obtain ⟨n, n1, n2⟩ := nk_of p1
      obtain ⟨m, m1, m2⟩ := nk_of p2
      have eb : D.eqB d e = b := Option.some.inj h
      rw [← eb, ← eqB_nk n1 m1]
      refine rc_key n m X.A s v u (key_is I n1 (by rw [hK]; exact hd) rx) (key_is I m1 (by rw [hK]; exact he) ry) ?_
      rw [n2, m2]
      omega
    · cases h
  by_cases hr : ∃ a a', d = .ref a ∧ e = .ref a'
  · obtain ⟨a, a', rfl, rfl⟩ := hr
    cases hd
    cases he
    simp only [eqO] at h
    split at h
    · rename_i xs ys e1 e2
      obtain ⟨vs, h1, h2⟩ := g a _ e1
      obtain ⟨ws, h3, h4⟩ := g a' _ e2
      obtain ⟨its, r1, p1, _⟩ := I.list (SqL.of h1)
      obtain ⟨its', r2, p2, _⟩ := I.list (SqL.of h3)
      cases rx
      cases ry
      have l1 : its.length = xs.length := r1.length.symm.trans h2.length
      have l2 : its'.length = ys.length := r2.length.symm.trans h4.length
      split at h
      · rename_i hl
        split at h
        · rename_i hc
          simp only [Bool.and_eq_true, decide_eq_true_eq] at hc
          obtain ⟨⟨q1, q2⟩, q3⟩ := hc
          obtain ⟨ns, n1, n2⟩ := nks_of q1
          obtain ⟨ms, m1, m2⟩ := nks_of q2
          have k1 := keys_are I n1 (by rw [hK]; exact h2) r1
          have k2 := keys_are I m1 (by rw [hK]; exact h4) r2
          have e3 : ns.length = its.length := (NestedAll.length _ _ k1).symm
          have e4 : ms.length = its'.length := (NestedAll.length _ _ k2).symm
          have eb : D.eqBs xs ys = b := Option.some.inj h
          have hroom : X.A.in1.units + min (NestedKey.depthAll ns) (NestedKey.depthAll ms) < cLine := by
            have : X.A.in1.units = X.A.units + 1 := rfl
            rw [n2, m2]; omega
          have hj : ∀ j (j1 : j < its.toArray.size) (j2 : j < its'.toArray.size), EqAt X.A.in1 s its.toArray[j] its'.toArray[j] (keyEqAt ns ms j) := fun j j1 j2 => by
            have := eqAt_keys ns ms X.A.in1 s its its' k1 k2 hroom j (by simpa using j1) (by simpa using j2)
            simpa using this
          have e5 : b = (List.range its.toArray.size).all (keyEqAt ns ms) := by
            rw [← eb, ← eqBs_nk n1 m1, ← beqAll_eq, e3, e4, l1, l2, hl, Nat.min_self, List.size_toArray, l1, hl]
            simp
          have hsz : its.toArray.size = its'.toArray.size := by simp [l1, l2, hl]
          rw [e5]
          exact ⟨RcAt.lists p1.isList p2.isList hsz (by omega) hj, RcNeAt.lists p1.isList p2.isList hsz (by omega) hj⟩
        · cases h
      · rename_i hl
        have eb : false = b := Option.some.inj h
        subst eb
        have hsz : (its.toArray.size != its'.toArray.size) = true := by
          simp [l1, l2]; exact hl
        exact ⟨RcAt.lists_lengths p1.isList p2.isList hsz (by omega), RcNeAt.lists_lengths p1.isList p2.isList hsz (by omega)⟩
    · rename_i xs e1 e2
      obtain ⟨o, es, ep, h1, h2, h3, h4, h5, _⟩ := g a _ e1
      obtain ⟨o', es', ep', h1', h2', h3', h4', h5', _⟩ := g a' _ e2
      have k1 := (I.hok a _ h1).1
      have k2 := (I.hok a' _ h1').1
      cases rx
      cases ry
      split at h
      · have eb : xs.isEmpty = b := Option.some.inj h
        have e0 : es' = #[] := by
          have := h5'.length
          rw [List.length_nil] at this
          exact Array.eq_empty_of_size_eq_zero (by rw [← Array.length_toList]; exact this.symm)
        subst e0
        have e1 : b = (es.size == 0) := by
          have := h5.length
          rw [← eb, ← Array.length_toList, ← this]
          cases xs <;> rfl
        rw [e1]
        exact rc_dict0 h2 h2' k1 h3 h4 k2 h3' h4' (by omega)
      · cases h
    · cases h
  · rw [eqO_data hr] at h
    exact pure_case hd he rx ry h

/-- whether a value is a key that is such a one -/
noncomputable def keyEq (h : Heap) (k : NestedKey) (w : Value) : Bool := @decide (∃ n, NestedIs h n w ∧ NestedKey.beq n k = true) (Classical.propDecidable _)
theorem keyEq_is {h : Heap} {n k : NestedKey} {w : Value} (r : NestedIs h n w) : keyEq h k w = NestedKey.beq n k := by
  unfold keyEq
  by_cases e : NestedKey.beq n k = true
  · rw [e]
    exact @decide_eq_true _ (Classical.propDecidable _) ⟨n, r, e⟩
  · rw [Bool.not_eq_true] at e
    rw [e]
    refine @decide_eq_false _ (Classical.propDecidable _) ?_
    rintro ⟨m, q, z⟩
    rw [NestedIs.inj _ _ _ q r, e] at z
    cases z
theorem any_key {h : Heap} {k : NestedKey} {d : D} (hk : D.nk d = some k) : ∀ {ds : List D} {ns : List NestedKey} {us : List Value}, D.nks ds = some ns → NestedAll h ns us → us.any (keyEq h k) = ds.any fun e => D.eqB e d
  | [], ns, us, hn, r => by
    simp [D.nks] at hn
    subst hn
    cases r
    rfl
  | e :: ds, ns, us, hn, r => by
    simp only [D.nks] at hn
    split at hn
    · rename_i n ms q1 q2
      simp at hn
      subst hn
      cases r with
      | cons r1 r2 => rw [List.any_cons, List.any_cons, any_key hk q2 r2, keyEq_is r1, eqB_nk q1 hk]
    · cases hn
theorem inO_run (hK : X.K = T.K) (hu : X.A.units + 64 < cLine) (I : Inv X pins σ H s) (g : GR T G H) {d e : D} {x y : V} {v u : Value} {b : Bool} (hd : DV T.K T.fa H x d) (he : DV T.K T.fa H y e) (rx : RelV x v) (ry : RelV y u)
    (h : inO G d e = some b) {E : Value → Shared → Prop} {Q : Value → Shared → Prop} : (Q (.bool b) s → wpAny (model X.prog X.w) X.A (compareOp .In v u) Q E s) ∧ (Q (.bool (!b)) s → wpAny (model X.prog X.w) X.A (compareOp .NotIn v u) Q E s) := by
  unfold inO at h
  split at h
  · rename_i ds hi
    split at h
    · rename_i hc
      simp only [Bool.and_eq_true, decide_eq_true_eq] at hc
      obtain ⟨⟨q1, q2⟩, q3⟩ := hc
      obtain ⟨n, n1, n2⟩ := nk_of q1
      obtain ⟨ns, m1, m2⟩ := nks_of q2
      have eb : (ds.any fun y => D.eqB y d) = b := Option.some.inj h
      have kd := key_is I n1 (by rw [hK]; exact hd) rx
      have hroom : X.A.in1.units + n.depth + 1 < cLine := by
        have : X.A.in1.units = X.A.units + 1 := rfl
        rw [n2]; omega
      have go : ∀ {us : List Value}, NestedAll s.heap ns us → ∀ w ∈ us, EqAt X.A.in1 s w v (keyEq s.heap n w) := by
        intro us
        have gen : ∀ (ks : List NestedKey) (us : List Value), NestedAll s.heap ks us → ∀ w ∈ us, EqAt X.A.in1 s w v (keyEq s.heap n w) := by
          intro ks
          induction ks with
          | nil => intro us r w hw; cases r; cases hw
          | cons k ks ih =>
            intro us r w hw
            cases r with
            | cons r1 r2 =>
              rcases List.mem_cons.mp hw with z | z
              · subst z
                rw [keyEq_is r1]
                exact eqAt_key k n X.A.in1 s _ _ r1 kd (by omega)
              · exact ih _ r2 w z
        exact fun r => gen ns us r
      cases he with
      | tup h1 h2 =>
        simp only [items?] at hi
        cases hi
        cases ry
        obtain ⟨its, rv, p, _⟩ := I.tuple (by rw [hK]; exact h1)
        have ka := keys_are I m1 (by rw [hK]; exact h2) rv
        have ev : its.toArray.any (keyEq s.heap n) = b := by rw [← eb, ← any_key n1 m1 ka]; simp
        exact ⟨fun q => in_tupleAt (keyEq s.heap n) p (fun w hw => go ka w (by simpa using hw)) (by rw [ev]; exact q), fun q => notIn_tupleAt (keyEq s.heap n) p (fun w hw => go ka w (by simpa using hw)) (by rw [ev]; exact q)⟩
      | ref a =>
        obtain ⟨a', vs, e1, h1, h2⟩ := seq_at (d := .ref a) hK g (ds := ds) (v := .ref a) (by simpa [seqL, items?] using hi) (.ref a)
        cases e1
        cases ry
        obtain ⟨its, rv, p, _⟩ := I.list h1
        have ka := keys_are I m1 (by rw [hK]; exact h2) rv
        have ev : its.toArray.any (keyEq s.heap n) = b := by rw [← eb, ← any_key n1 m1 ka]; simp
        exact ⟨fun q => in_listAt (keyEq s.heap n) p.isList (fun w hw => go ka w (by simpa using hw)) (by rw [ev]; exact q), fun q => notIn_listAt (keyEq s.heap n) p.isList (fun w hw => go ka w (by simpa using hw)) (by rw [ev]; exact q)⟩
      | _ => simp [items?] at hi
    · cases h
  · cases h
end

/-! ### arithmetic -/
def bopOf : Bop → Operator
  | .add => .Add | .sub => .Sub | .mul => .Mult | .fdiv => .FloorDiv | .mod => .Mod | .pow => .Pow
section
variable {T : Wd} {X : Cx}
theorem or_bin (hK : X.K = T.K) (op : Bop) : OpR X (binaryOp (bopOf op)) (LR2 T (binW op)) := by
  intro pins s σ H x y v u Q I rx ry h
  obtain ⟨d, e, G, Q2, hd, he, g, h, k⟩ := h
  cases op with
  | add =>
    cases hd with
    | int i =>
      cases he with
      | int j => exact op_add pins s σ H _ _ v u Q I rx ry ⟨i, j, rfl, rfl, k _ _ _ _ h (.refl H) (.int _) g⟩
      | _ => exact h.elim
    | str a =>
      cases he with
      | str b => exact op_add_str pins s σ H _ _ v u Q I rx ry ⟨a, b, rfl, rfl, by rw [← line_eq]; exact h.1, k _ _ _ _ h.2 (.refl H) (.str _) g⟩
      | _ => exact h.elim
    | tup h1 h2 =>
      cases he with
      | tup h3 h4 =>
        refine op_catA pins s σ H _ _ v u Q I rx ry ⟨_, _, _, _, rfl, rfl, by rw [hK]; exact h1, by rw [hK]; exact h3, by rw [← line_eq, h2.length, h4.length]; exact h.1, fun e => ?_, fun _ e => ?_, fun _ _ p hp => ?_⟩
        · subst e
          cases h2
          exact k _ _ _ _ h.2 (.refl H) (.tup h3 h4) g
        · subst e
          cases h4
          refine k _ _ _ _ h.2 (.refl H) ?_ g
          rw [List.append_nil]
          exact .tup h1 h2
        · exact k _ _ _ _ h.2 (.new hp) (.tup (SqT.of upd_same) ((h2.mono (.new hp)).append (h4.mono (.new hp)))) (g.new hp)
      | _ => exact h.elim
    | ref a =>
      cases he with
      | ref b =>
        simp only [binW] at h
        split at h
        · rename_i xs ys e1 e2
          obtain ⟨vs, h1, h2⟩ := g a _ e1
          obtain ⟨ws, h3, h4⟩ := g b _ e2
          refine op_cat pins s σ H _ _ v u Q I rx ry ⟨a, b, vs, ws, rfl, rfl, h1, h3, by rw [← line_eq, h2.length, h4.length]; exact h.1, fun p hp => ?_⟩
          exact k _ _ _ _ (h.2 p (g.free hp)) (.new hp) (.ref p) (g.add hp ⟨_, upd_same, (h2.mono (.new hp)).append (h4.mono (.new hp))⟩)
        · exact h.elim
      | _ => exact h.elim
    | _ => exact h.elim
  | sub =>
    cases hd with
    | int i =>
      cases he with
      | int j => exact op_sub pins s σ H _ _ v u Q I rx ry ⟨i, j, rfl, rfl, k _ _ _ _ h (.refl H) (.int _) g⟩
      | _ => exact h.elim
    | _ => exact h.elim
  | mul =>
    cases hd with
    | int i =>
      cases he with
      | int j => exact op_mul pins s σ H _ _ v u Q I rx ry ⟨i, j, rfl, rfl, h.1, k _ _ _ _ h.2 (.refl H) (.int _) g⟩
      | _ => exact h.elim
    | tup h1 h2 =>
      cases he with
      | int j =>
        obtain ⟨⟨q1, q2, q3, q4⟩, h⟩ := h
        by_cases j1 : j = 1
        · subst j1
          refine op_rep1 pins s σ H _ _ v u Q I rx ry ⟨_, _, rfl, rfl, by rw [hK]; exact h1, k _ _ _ _ h (.refl H) (.tup h1 ?_) g⟩
          have e : ∀ xs : List D, (List.replicate (1 : Int).toNat xs).flatten = xs := fun xs => by
            show (List.replicate 1 xs).flatten = xs
            simp
          rw [e]
          exact h2
        refine op_repT pins s σ H _ _ v u Q I rx ry ⟨_, j, _, rfl, rfl, by rw [hK]; exact h1, fun e => ?_, by omega, q2, by rw [h2.length]; exact q3, fun p hp => ?_⟩
        · subst e
          cases h2
          exact q4 rfl
        · refine k _ _ _ _ h (.new hp) (.tup (SqT.of upd_same) ?_) (g.new hp)
          exact (h2.mono (.new hp)).rep _
      | _ => exact h.elim
    | _ => exact h.elim
  | fdiv =>
    cases hd with
    | int i =>
      cases he with
      | int j => exact op_fdivN pins s σ H _ _ v u Q I rx ry ⟨i, j, rfl, rfl, h.1, k _ _ _ _ h.2 (.refl H) (.int _) g⟩
      | _ => exact h.elim
    | _ => exact h.elim
  | mod =>
    cases hd with
    | int i =>
      cases he with
      | int j => exact op_modN pins s σ H _ _ v u Q I rx ry ⟨i, j, rfl, rfl, h.1, k _ _ _ _ h.2 (.refl H) (.int _) g⟩
      | _ => exact h.elim
    | _ => exact h.elim
  | pow =>
    cases hd with
    | int i =>
      cases he with
      | int j => exact op_pow pins s σ H _ _ v u Q I rx ry ⟨i, j, rfl, rfl, h.1, k _ _ _ _ h.2 (.refl H) (.int _) g⟩
      | _ => exact h.elim
    | _ => exact h.elim
end
end AT
end
section
set_option maxHeartbeats 4000000
/-! AT4: dicts by values. -/
namespace AT
open PySem PySem.Spec PyProof.Rows L2 SeqAt
/-- a flat key -/
def nkF : NestedKey → Option Key
  | .num i => some (.inl i)
  | .text x => some (.inr x)
  | _ => none
theorem nkF_eq {m n : NestedKey} {a b : Key} (h : nkF m = some a) (k : nkF n = some b) : decide (m = n) = decide (a = b) := by
  cases m <;> simp [nkF] at h <;> cases n <;> simp [nkF] at k <;> (rw [← h, ← k]; simp)
section
variable {T : Wd} {H : Hp}
/-- a pair and the library's entry of a tuple key -/
def RxT (T : Wd) (H : Hp) (p : D × D) (x : NestedKey × Addr × Value) : Prop := D.nk p.1 = some x.1 ∧ DV T.K T.fa H (.ref x.2.1) p.1 ∧ ∃ v, RelV v x.2.2 ∧ DV T.K T.fa H v p.2
def RxF (T : Wd) (H : Hp) (p : D × D) (x : Key × Value) : Prop := (∃ n, D.nk p.1 = some n ∧ nkF n = some x.1) ∧ ∃ v, RelV v x.2 ∧ DV T.K T.fa H v p.2
theorem entsT {P : Program} : ∀ {kvs : List (D × D)} {es : List DictEntry}, Paired (EntR T H) kvs es → (kvs.all fun p => D.isT p.1) = true → ∃ xs, es = xs.map (entryOfKey (nestedKind P T.w)) ∧ Paired (RxT T H) kvs xs
  | _, _, .nil, _ => ⟨[], rfl, .nil⟩
  | _, _, .cons (a := p) (b := e) r rs, h => by
    simp only [List.all_cons, Bool.and_eq_true] at h
    obtain ⟨xs, e1, r1⟩ := entsT (P := P) rs h.2
    obtain ⟨k, v, n, rk, dk, rv, dv, hn, hh⟩ := r
    obtain ⟨p1, p2⟩ := p
    cases dk with
    | tup h1 h2 =>
      cases e with
      | mk eh ek ev =>
        have : ek = .ref _ := rk
        subst this
        refine ⟨(n, _, ev) :: xs, ?_, .cons ⟨hn, .tup h1 h2, v, rv, dv⟩ r1⟩
        rw [List.map_cons, ← e1]
        congr 1
        show DictEntry.mk eh _ ev = ⟨n.hash T.w, .ref _, ev⟩
        rw [show eh = n.hash T.w from hh]
    | _ => exact absurd h.1 (by simp [D.isT])
theorem nkF_of {n : NestedKey} {k : V} {d : D} (dk : ∀ fa H K, DV K fa H k d → True) (h : D.nk d = some n) : D.isT d = false → (∃ i, d = .int i) ∨ (∃ x, d = .str x) ∨ d = .non ∨ (∃ b, d = .bl b) := by
  intro t
  cases d with
  | non => exact .inr (.inr (.inl rfl))
  | bl b => exact .inr (.inr (.inr ⟨b, rfl⟩))
  | int i => exact .inl ⟨i, rfl⟩
  | str x => exact .inr (.inl ⟨x, rfl⟩)
  | tup ds => cases t
  | rol ds => simp [D.nk] at h
  | ref a => simp [D.nk] at h
  | fn f => simp [D.nk] at h
theorem entsF {P : Program} : ∀ {kvs : List (D × D)} {es : List DictEntry}, Paired (EntR T H) kvs es → (kvs.all fun p => flatK p.1) = true →
    ∃ xs, Pairs (mixKind P T.w) es xs ∧ (∀ e ∈ es, ∃ k, keyIs k e.key = true ∧ e.hash = keyH T.w k) ∧ Paired (RxF T H) kvs xs
  | _, _, .nil, _ => ⟨[], .nil, (by intro e h; cases h), .nil⟩
  | _, _, .cons (a := p) (b := e) r rs, h => by
    simp only [List.all_cons, Bool.and_eq_true] at h
    obtain ⟨xs, e1, e2, r1⟩ := entsF (P := P) rs h.2
    obtain ⟨k, v, n, rk, dk, rv, dv, hn, hh⟩ := r
    obtain ⟨p1, p2⟩ := p
    cases dk with
    | int i =>
      obtain ⟨t, et⟩ := rk
      simp [D.nk] at hn
      subst hn
      refine ⟨(.inl i, e.val) :: xs, .cons (by rw [et]; exact mixKind_int P T.w i t) rfl e1, fun e' h' => ?_, .cons ⟨⟨_, rfl, rfl⟩, v, rv, dv⟩ r1⟩
      rcases List.mem_cons.mp h' with z | z
      · subst z
        exact ⟨.inl i, by rw [et]; exact keyIs_int i t, hh⟩
      · exact e2 e' z
    | str x =>
      obtain ⟨t, et⟩ := rk
      simp [D.nk] at hn
      subst hn
      refine ⟨(.inr x, e.val) :: xs, .cons (by rw [et]; exact mixKind_str P T.w x t) rfl e1, fun e' h' => ?_, .cons ⟨⟨_, rfl, rfl⟩, v, rv, dv⟩ r1⟩
      rcases List.mem_cons.mp h' with z | z
      · subst z
        exact ⟨.inr x, by rw [et]; exact keyIs_str x t, hh⟩
      · exact e2 e' z
    | _ => exact absurd h.1 (by simp [flatK])
theorem atT : ∀ {kvs : List (D × D)} {xs : List (NestedKey × Addr × Value)} {d : D} {n : NestedKey}, Paired (RxT T H) kvs xs → D.nk d = some n →
    match keyAt kvs d with
    | some e => ∃ q u v, atKey xs n = some (q, u) ∧ RelV v u ∧ DV T.K T.fa H v e
    | none => atKey xs n = none
  | _, _, _, _, .nil, _ => rfl
  | _, _, d, n, .cons (a := p) (b := x) r rs, hn => by
    have ih := atT rs hn
    obtain ⟨h1, h2, v, h3, h4⟩ := r
    unfold keyAt atKey at ih ⊢
    have eb : D.eqB p.1 d = decide (x.1 = n) := by rw [← eqB_nk h1 hn, NestedKey.decide_eq]
    rw [List.find?_cons, List.find?_cons, eb]
    by_cases hc : x.1 = n
    · simp only [hc, decide_true]
      exact ⟨x.2.1, x.2.2, v, rfl, h3, h4⟩
    · simp only [hc, decide_false]
      exact ih
theorem atF : ∀ {kvs : List (D × D)} {xs : List (Key × Value)} {d : D} {n : NestedKey} {k : Key}, Paired (RxF T H) kvs xs → D.nk d = some n → nkF n = some k →
    match keyAt kvs d with
    | some e => ∃ u v, valueAt xs k = some u ∧ RelV v u ∧ DV T.K T.fa H v e
    | none => valueAt xs k = none
  | _, _, _, _, _, .nil, _, _ => rfl
  | _, _, d, n, k, .cons (a := p) (b := x) r rs, hn, hk => by
    have ih := atF rs hn hk
    obtain ⟨⟨m, h1, h2⟩, v, h3, h4⟩ := r
    unfold keyAt valueAt at ih ⊢
    have eb : D.eqB p.1 d = decide (x.1 = k) := by
      rw [← eqB_nk h1 hn, ← NestedKey.decide_eq]
      exact nkF_eq h2 hk
    rw [List.find?_cons, List.find?_cons, eb]
    by_cases hc : x.1 = k
    · simp only [hc, decide_true]
      exact ⟨x.2, v, rfl, h3, h4⟩
    · simp only [hc, decide_false]
      exact ih
theorem mapT {d e : D} {n : NestedKey} {v : V} {u : Value} (hn : D.nk d = some n) (rv : RelV v u) (dv : DV T.K T.fa H v e) : ∀ {kvs : List (D × D)} {xs : List (NestedKey × Addr × Value)}, Paired (RxT T H) kvs xs →
    Paired (RxT T H) (kvs.map fun p => if D.eqB p.1 d then (p.1, e) else p) (xs.map (putAt n u))
  | _, _, .nil => .nil
  | _, _, .cons (a := p) (b := x) r rs => by
    have eb : D.eqB p.1 d = decide (x.1 = n) := by rw [← eqB_nk r.1 hn, NestedKey.decide_eq]
    refine .cons ?_ (mapT hn rv dv rs)
    show RxT T H (if D.eqB p.1 d = true then (p.1, e) else p) (putAt n u x)
    unfold putAt
    rw [eb]
    by_cases hc : x.1 = n
    · simp only [hc, decide_true, if_true]
      exact ⟨hc ▸ r.1, r.2.1, v, rv, dv⟩
    · simp only [hc, decide_false, if_false]
      exact r
theorem mapF {d e : D} {n : NestedKey} {k : Key} {v : V} {u : Value} (hn : D.nk d = some n) (hk : nkF n = some k) (rv : RelV v u) (dv : DV T.K T.fa H v e) : ∀ {kvs : List (D × D)} {xs : List (Key × Value)}, Paired (RxF T H) kvs xs →
    Paired (RxF T H) (kvs.map fun p => if D.eqB p.1 d then (p.1, e) else p) (xs.map fun kv => if kv.1 = k then (kv.1, u) else kv)
  | _, _, .nil => .nil
  | _, _, .cons (a := p) (b := x) r rs => by
    obtain ⟨⟨m, h1, h2⟩, w, h3, h4⟩ := r
    have eb : D.eqB p.1 d = decide (x.1 = k) := by
      rw [← eqB_nk h1 hn, ← NestedKey.decide_eq]
      exact nkF_eq h2 hk
    refine .cons ?_ (mapF hn hk rv dv rs)
    show RxF T H (if D.eqB p.1 d = true then (p.1, e) else p) (if x.1 = k then (x.1, u) else x)
    rw [eb]
    by_cases hc : x.1 = k
    · simp only [hc, decide_true, if_true]
      exact ⟨⟨m, h1, by rw [h2, hc]⟩, v, rv, dv⟩
    · simp only [hc, decide_false, if_false]
      exact ⟨⟨m, h1, h2⟩, w, h3, h4⟩
theorem paired_app {α β : Type} {F : α → β → Prop} {a : α} {b : β} (h : F a b) : ∀ {l : List α} {m : List β}, Paired F l m → Paired F (l ++ [a]) (m ++ [b])
  | _, _, .nil => .cons h .nil
  | _, _, .cons r rs => .cons r (paired_app h rs)
theorem dputT {d e : D} {n : NestedKey} {q : Addr} {v : V} {u : Value} (hn : D.nk d = some n) (hd : DV T.K T.fa H (.ref q) d) (rv : RelV v u) (dv : DV T.K T.fa H v e) {kvs : List (D × D)} {xs : List (NestedKey × Addr × Value)} (r : Paired (RxT T H) kvs xs) :
    Paired (RxT T H) (keyPut kvs d e) (storedH xs n q u) := by
  have h := atT r hn
  unfold keyPut storedH
  cases hk : keyAt kvs d with
  | some z =>
    rw [hk] at h
    obtain ⟨q', u', v', h1, _⟩ := h
    rw [h1]
    exact mapT hn rv dv r
  | none =>
    rw [hk] at h
    simp only at h
    rw [h]
    exact paired_app ⟨hn, hd, v, rv, dv⟩ r
theorem any_valueAt {kvs : List (Key × Value)} {k : Key} : (kvs.any fun kv => kv.1 = k) = (valueAt kvs k).isSome := by
  unfold valueAt
  induction kvs with
  | nil => rfl
  | cons p ps ih =>
    rw [List.any_cons, List.find?_cons, ih]
    by_cases h : p.1 = k <;> simp [h]
theorem dputF {d e : D} {n : NestedKey} {k : Key} {v : V} {u : Value} (hn : D.nk d = some n) (hk : nkF n = some k) (rv : RelV v u) (dv : DV T.K T.fa H v e) {kvs : List (D × D)} {xs : List (Key × Value)} (r : Paired (RxF T H) kvs xs) :
    Paired (RxF T H) (keyPut kvs d e) (stored xs k u) := by
  have h := atF r hn hk
  unfold keyPut stored
  rw [any_valueAt]
  cases hz : keyAt kvs d with
  | some z =>
    rw [hz] at h
    obtain ⟨u', v', h1, _⟩ := h
    rw [h1]
    exact mapF hn hk rv dv r
  | none =>
    rw [hz] at h
    simp only at h
    rw [h]
    exact paired_app ⟨⟨n, hn, hk⟩, v, rv, dv⟩ r
/-- back from the library's entries -/
theorem backT {P : Program} : ∀ {kvs : List (D × D)} {xs : List (NestedKey × Addr × Value)}, Paired (RxT T H) kvs xs → Paired (EntR T H) kvs (xs.map (entryOfKey (nestedKind P T.w)))
  | _, _, .nil => .nil
  | _, _, .cons (b := x) r rs => by
    obtain ⟨h1, h2, v, h3, h4⟩ := r
    exact .cons ⟨.ref x.2.1, v, x.1, rfl, h2, h3, h4, h1, rfl⟩ (backT rs)
theorem backF {P : Program} : ∀ {kvs : List (D × D)} {xs : List (Key × Value)} {es : List DictEntry}, Paired (RxF T H) kvs xs → Pairs (mixKind P T.w) es xs → (∀ e ∈ es, ∃ k, keyIs k e.key = true ∧ e.hash = keyH T.w k) → (kvs.all fun p => flatK p.1) = true → Paired (EntR T H) kvs es
  | _, _, _, .nil, .nil, _, _ => .nil
  | _, _, _, .cons (a := p) r rs, .cons (e := e) i1 i2 is, hh, hf => by
    simp only [List.all_cons, Bool.and_eq_true] at hf
    obtain ⟨⟨n, h1, h2⟩, v, h3, h4⟩ := r
    obtain ⟨k, k1, k2⟩ := hh _ List.mem_cons_self
    refine .cons ?_ (backF rs is (fun e h => hh e (List.mem_cons_of_mem _ h)) hf.2)
    obtain ⟨p1, p2⟩ := p
    have ik := KeyKind.inj (mixKind P T.w) _ _ _ i1 k1
    cases p1 with
    | int i =>
      simp [D.nk] at h1
      subst h1
      simp [nkF] at h2
      rw [← h2] at ik i1
      obtain ⟨t, et⟩ := Value.isInt_shape (k := i) (v := e.key) i1
      subst ik
      exact ⟨.int i, v, .num i, ⟨t, et⟩, .int i, by rw [i2]; exact h3, h4, rfl, k2⟩
    | str x =>
      simp [D.nk] at h1
      subst h1
      simp [nkF] at h2
      rw [← h2] at ik i1
      obtain ⟨t, et⟩ := Value.isStrOf_shape (x := x) (v := e.key) i1
      subst ik
      exact ⟨.str x, v, .text x, ⟨t, et⟩, .str x, by rw [i2]; exact h3, h4, rfl, k2⟩
    | _ => exact absurd hf.1 (by simp [flatK])
end

/-! ### what a dict's cell gives -/
theorem kindOk_T {kvs : List (D × D)} {k : D} (h : kindOk kvs k = true) (t : D.isT k = true) : (kvs.all fun p => D.isT p.1) = true := by
  unfold kindOk at h
  simp only [Bool.and_eq_true, List.all_eq_true, beq_iff_eq] at h
  rw [List.all_eq_true]
  exact fun p hp => (h.2 p hp).trans t
theorem kindOk_F {kvs : List (D × D)} {k : D} (ko : KeysOk kvs) (h : kindOk kvs k = true) (t : D.isT k = false) : (kvs.all fun p => flatK p.1) = true ∧ flatK k = true := by
  unfold kindOk at h
  simp only [Bool.and_eq_true, List.all_eq_true, beq_iff_eq] at h
  obtain ⟨⟨h1, h2⟩, h3⟩ := h
  refine ⟨?_, ?_⟩
  · rw [List.all_eq_true]
    intro p hp
    rcases (ko p hp).2 with z | z
    · rw [h3 p hp, t] at z; cases z
    · exact z
  · rw [t, Bool.false_or] at h2
    exact h2
theorem keyOk_key {k : D} (h : D.keyOk k = true) : ∃ n, D.nk k = some n ∧ n.depth ≤ 8 := by
  unfold D.keyOk at h
  simp only [Bool.and_eq_true, decide_eq_true_eq] at h
  obtain ⟨n, h1, h2⟩ := nk_of h.1
  exact ⟨n, h1, by rw [h2]; exact h.2⟩
theorem kindOk_key {kvs : List (D × D)} {k : D} (h : kindOk kvs k = true) : D.keyOk k = true ∧ (D.isT k = true ∨ flatK k = true) := by
  unfold kindOk at h
  simp only [Bool.and_eq_true, Bool.or_eq_true] at h
  exact ⟨h.1.1, h.1.2⟩
theorem flat_nkF {k : D} (h : flatK k = true) : ∃ n z, D.nk k = some n ∧ nkF n = some z := by
  cases k with
  | int i => exact ⟨_, _, rfl, rfl⟩
  | str x => exact ⟨_, _, rfl, rfl⟩
  | _ => simp [flatK] at h
theorem KeysOk.put {kvs : List (D × D)} {k v : D} (h : KeysOk kvs) (hk : D.keyOk k = true ∧ (D.isT k = true ∨ flatK k = true)) : KeysOk (keyPut kvs k v) := by
  unfold keyPut
  intro p hp
  split at hp
  · obtain ⟨q, hq, rfl⟩ := List.mem_map.mp hp
    split
    · exact h q hq
    · exact h q hq
  · rcases List.mem_append.mp hp with z | z
    · exact h p z
    · rw [List.mem_singleton] at z
      subst z
      exact hk
theorem keyPut_length {kvs : List (D × D)} {k v : D} : (keyPut kvs k v).length ≤ kvs.length + 1 := by
  unfold keyPut
  split
  · rw [List.length_map]; omega
  · rw [List.length_append, List.length_singleton]; omega
section
variable {T : Wd} {X : Cx} {pins : List (Addr × Obj)} {σ : L2.St} {H : Hp} {s : Shared} {G : Gp} {a : Addr} {kvs : List (D × D)}
theorem nodupT : ∀ {kvs : List (D × D)} {xs : List (NestedKey × Addr × Value)}, Paired (RxT T H) kvs xs → (kvs.map fun p => D.nk p.1) = (xs.map (·.1)).map some
  | _, _, .nil => rfl
  | _, _, .cons r rs => by rw [List.map_cons, List.map_cons, List.map_cons, nodupT rs, r.1]
theorem nodup_some_iff {α : Type} {l : List α} : (l.map some).Nodup ↔ l.Nodup := by
  unfold List.Nodup
  rw [List.pairwise_map]
  constructor <;> intro h <;> refine h.imp ?_
  · intro a b n e; exact n (by rw [e])
  · intro a b n e; exact n (Option.some.inj e)
theorem nodup_some {α : Type} {l : List α} (h : (l.map some).Nodup) : l.Nodup := nodup_some_iff.mp h
theorem nodup_some' {α : Type} {l : List α} (h : l.Nodup) : (l.map some).Nodup := nodup_some_iff.mpr h
theorem cell_T (hK : X.K = T.K) (hw : X.w = T.w) (I : Inv X pins σ H s) (g : GR T G H) (e : G a = some (.dct kvs)) (ht : (kvs.all fun p => D.isT p.1) = true) :
    ∃ xs, s.heap.DictOfH (nestedKind X.prog X.w) a xs ∧ Paired (RxT T H) kvs xs ∧ (a == sysModules) = false ∧ kvs.length ≤ 2000000 ∧ KeysOk kvs ∧ ∃ φ, H a = some (.ext φ) := by
  obtain ⟨o, es, ep, h1, h2, h3, h4, h5, h6, h7, h8⟩ := g a _ e
  obtain ⟨xs, e1, r⟩ := entsT (P := X.prog) h5 ht
  have ho : s.heap.get? a = some o := (I.hok a _ h1).1
  refine ⟨xs, ⟨o, es, ep, ho, h3, h4, by rw [hw]; exact e1, ?_, nodup_some (by rw [← nodupT r]; exact h6)⟩, r, h2, h8, h7, _, h1⟩
  have gen : ∀ {ks : List (D × D)} {ys : List (NestedKey × Addr × Value)}, Paired (RxT T H) ks ys → KeysOk ks → ∀ y ∈ ys, (nestedKind X.prog X.w).is s.heap y.1 y.2.1 := by
    intro ks ys r
    induction r with
    | nil => intro _ y hy; cases hy
    | @cons p x ks ys r rs ih =>
      intro ko y hy
      rcases List.mem_cons.mp hy with z | z
      · subst z
        obtain ⟨n, n1, n2⟩ := keyOk_key (ko p List.mem_cons_self).1
        have en : n = y.1 := Option.some.inj (n1.symm.trans r.1)
        refine ⟨key_is (v := .ref y.2.1) I r.1 (by rw [hK]; exact r.2.1) rfl, by rw [← en]; exact n2⟩
      · exact ih (fun q hq => ko q (List.mem_cons_of_mem _ hq)) y z
  exact gen r h7
theorem cell_F (hw : X.w = T.w) (I : Inv X pins σ H s) (g : GR T G H) (e : G a = some (.dct kvs)) (ht : (kvs.all fun p => flatK p.1) = true) :
    ∃ xs, s.heap.DictOf (mixKind X.prog X.w) a xs ∧ Paired (RxF T H) kvs xs ∧ (a == sysModules) = false ∧ kvs.length ≤ 2000000 ∧ KeysOk kvs ∧ ∃ φ, H a = some (.ext φ) := by
  obtain ⟨o, es, ep, h1, h2, h3, h4, h5, h6, h7, h8⟩ := g a _ e
  obtain ⟨xs, e1, e2, r⟩ := entsF (P := X.prog) h5 ht
  have ho : s.heap.get? a = some o := (I.hok a _ h1).1
  refine ⟨xs, ⟨o, es, ep, ho, h3, h4, fun e he => ?_, by rw [hw]; exact e1, ?_⟩, r, h2, h8, h7, _, h1⟩
  · obtain ⟨k, k1, k2⟩ := e2 e (by simpa using he)
    exact ⟨k, k1, by rw [k2, ← hw]; rfl⟩
  · have gen : ∀ {ks : List (D × D)} {ys : List (Key × Value)}, Paired (RxF T H) ks ys → (ks.map fun p => (D.nk p.1).bind nkF) = (ys.map (·.1)).map some := by
      intro ks ys r
      induction r with
      | nil => rfl
      | @cons p x ks ys r rs ih =>
        obtain ⟨⟨n, n1, n2⟩, _⟩ := r
        rw [List.map_cons, List.map_cons, List.map_cons, ih, n1, Option.bind_some, n2]
    refine nodup_some ?_
    rw [← gen r]
    have inj : ∀ {ks : List (D × D)}, (ks.all fun p => flatK p.1) = true → (ks.map fun p => D.nk p.1).Nodup → (ks.map fun p => (D.nk p.1).bind nkF).Nodup := by
      intro ks
      induction ks with
      | nil => intro _ _; exact List.nodup_nil
      | cons p ks ih =>
        intro hf hn
        simp only [List.all_cons, Bool.and_eq_true] at hf
        rw [List.map_cons, List.nodup_cons] at hn ⊢
        refine ⟨fun hm => hn.1 ?_, ih hf.2 hn.2⟩
        obtain ⟨q, hq, e⟩ := List.mem_map.mp hm
        obtain ⟨n, z, n1, n2⟩ := flat_nkF hf.1
        obtain ⟨m, y, m1, m2⟩ := flat_nkF ((List.all_eq_true.mp hf.2) q hq)
        rw [n1, m1, Option.bind_some, Option.bind_some, n2, m2] at e
        have e' := nkF_eq m2 n2
        rw [Option.some.inj e, decide_eq_true rfl, decide_eq_true_eq] at e'
        exact List.mem_map.mpr ⟨q, hq, by rw [m1, n1, e']⟩
    exact inj ht h6
/-- a dict's object is another now -/
theorem dict_put (hK : X.K = T.K) (I : Inv X pins σ H s) (g : GR T G H) {φ : Heap → Prop} {lvs : List (D × D)} {h' : Heap} {t' : Nat} {o' : Obj} {es : Array DictEntry} {ep : Nat} (e : G a = some (.dct kvs)) (hφ : H a = some (.ext φ)) (sb : Heap.SameBut a s.heap h')
    (ho : h'.get? a = some o') (hc : o'.ExactDict) (hd : o'.data = .dict es ep) (hs : (a == sysModules) = false) (r : ∀ H', Xt H H' → Paired (EntR T H') lvs es.toList) (nd : (lvs.map fun p => D.nk p.1).Nodup) (ko : KeysOk lvs) (hl : lvs.length ≤ 2000000) :
    ∃ H', Inv X pins σ H' { s with heap := h', toks := t' } ∧ Xt H H' ∧ GR T (up G a (.dct lvs)) H' := by
  have mu : Mut (some (HO.ext φ)) := True.intro
  have x : Xt H (upd H a (.ext fun h => h.get? a = some o')) := .put hφ mu
  refine ⟨upd H a (.ext fun h => h.get? a = some o'), I.write (x := a) (e := a) (by rw [hφ]; exact True.intro) (.inl rfl) (fun b u hb q => (sb.2 b hb).trans q) ⟨_, ho⟩ ?_, x, g.put x ⟨o', es, ep, upd_same, hs, hc, hd, r _ x, nd, ko, hl⟩⟩
  exact ⟨ho, ⟨_, ho⟩, fun h1 h2 q k => k _ q⟩
end
end AT
end
section
set_option maxHeartbeats 4000000
/-! AT5: operators that ask dicts; comparisons, subscripts. -/
namespace AT
open PySem PySem.Spec PyProof.Rows L2 SeqAt
section
variable {T : Wd} {X : Cx} {pins : List (Addr × Obj)} {σ : L2.St} {H : Hp} {s : Shared} {G : Gp} {a : Addr} {kvs : List (D × D)}
theorem roomK {A : Around} (hu : A.units + 64 < cLine) : (nestedKind X.prog X.w).room A.in1 := by
  show A.in1.units + 8 < cLine
  have : A.in1.units = A.units + 1 := rfl
  omega
theorem roomK0 {A : Around} (hu : A.units + 64 < cLine) : (nestedKind X.prog X.w).room A := by
  show A.units + 8 < cLine
  omega
/-- a tuple key as it stands -/
theorem key_T (hK : X.K = T.K) (I : Inv X pins σ H s) {d : D} {x : V} {v : Value} (hk : kindOk kvs d = true) (ht : D.isT d = true) (hd : DV T.K T.fa H x d) (rx : RelV x v) : ∃ q n, v = .ref q ∧ x = .ref q ∧ D.nk d = some n ∧ (nestedKind X.prog X.w).is s.heap n q := by
  obtain ⟨n, n1, n2⟩ := keyOk_key (kindOk_key hk).1
  cases hd with
  | tup h1 h2 =>
    cases rx
    exact ⟨_, n, rfl, rfl, n1, key_is (v := .ref _) I n1 (by rw [hK]; exact .tup h1 h2) rfl, n2⟩
  | _ => cases ht
theorem key_F {d : D} {x : V} {v : Value} (hf : flatK d = true) (hd : DV T.K T.fa H x d) (rx : RelV x v) : ∃ n k, D.nk d = some n ∧ nkF n = some k ∧ (mixKind X.prog X.w).is k v = true := by
  cases hd with
  | int i =>
    obtain ⟨t, rfl⟩ := rx
    exact ⟨_, _, rfl, rfl, mixKind_int _ _ i t⟩
  | str i =>
    obtain ⟨t, rfl⟩ := rx
    exact ⟨_, _, rfl, rfl, mixKind_str _ _ i t⟩
  | _ => simp [flatK] at hf
theorem d_in2 (hK : X.K = T.K) (hw : X.w = T.w) (hu : X.A.units + 64 < cLine) (I : Inv X pins σ H s) (g : GR T G H) (e : G a = some (.dct kvs)) {d : D} {x : V} {v : Value} (hk : kindOk kvs d = true) (hd : DV T.K T.fa H x d) (rx : RelV x v)
    {E : Value → Shared → Prop} {Q : Value → Shared → Prop} : ((∀ s', Inv X pins σ H s' → Q (.bool (keyAt kvs d).isSome) s') → wpAny (model X.prog X.w) X.A (compareOp .In v (.ref a)) Q E s) ∧
      ((∀ s', Inv X pins σ H s' → Q (.bool (!(keyAt kvs d).isSome)) s') → wpAny (model X.prog X.w) X.A (compareOp .NotIn v (.ref a)) Q E s) := by
  by_cases ht : D.isT d = true
  · obtain ⟨xs, dd, r, hs, _⟩ := cell_T hK hw I g e (kindOk_T hk ht)
    obtain ⟨q, n, rfl, rfl, n1, ki⟩ := key_T hK I hk ht hd rx
    have ek : (atKey xs n).isSome = (keyAt kvs d).isSome := by
      have h := atT r n1
      split at h
      · rename_i z hz
        obtain ⟨q', u', v', h1, _⟩ := h
        rw [h1, hz]; rfl
      · rename_i hz
        rw [h, hz]; rfl
    exact ⟨fun h => wpAny_in_heap (roomK hu) ki hs dd (by rw [ek]; exact h _ (I.tok _)), fun h => wpAny_notIn_heap (roomK hu) ki hs dd (by rw [ek]; exact h _ (I.tok _))⟩
  · rw [Bool.not_eq_true] at ht
    obtain ⟨o, es, ep, _, _, _, _, _, _, ko, _⟩ := g a _ e
    obtain ⟨f1, f2⟩ := kindOk_F ko hk ht
    obtain ⟨xs, dd, r, hs, _⟩ := cell_F hw I g e f1
    obtain ⟨n, k, n1, n2, ki⟩ := key_F (X := X) f2 hd rx
    have ek : (valueAt xs k).isSome = (keyAt kvs d).isSome := by
      have h := atF r n1 n2
      split at h
      · rename_i z hz
        obtain ⟨u', v', h1, _⟩ := h
        rw [h1, hz]; rfl
      · rename_i hz
        rw [h, hz]; rfl
    exact ⟨fun h => wpAny_in_of ki hs dd.mapOf (by rw [ek]; exact h _ (I.tok _)), fun h => wpAny_notIn_of ki hs dd.mapOf (by rw [ek]; exact h _ (I.tok _))⟩
theorem d_get2 (hK : X.K = T.K) (hw : X.w = T.w) (hu : X.A.units + 64 < cLine) (I : Inv X pins σ H s) (g : GR T G H) (e : G a = some (.dct kvs)) {d z : D} {x : V} {v : Value} (hk : kindOk kvs d = true) (hz : keyAt kvs d = some z) (hd : DV T.K T.fa H x d) (rx : RelV x v)
    {E : Value → Shared → Prop} {Q : Value → Shared → Prop} (h : ∀ s' y u, Inv X pins σ H s' → RelV y u → DV T.K T.fa H y z → Q u s') : s.TypeIs (.ref a) "dict" ∧ wpAny (model X.prog X.w) X.A (getItem (.ref a) v) Q E s := by
  by_cases ht : D.isT d = true
  · obtain ⟨xs, dd, r, hs, _⟩ := cell_T hK hw I g e (kindOk_T hk ht)
    obtain ⟨q, n, rfl, rfl, n1, ki⟩ := key_T hK I hk ht hd rx
    have h' := atT r n1
    rw [hz] at h'
    obtain ⟨q', u', v', h1, h2, h3⟩ := h'
    exact ⟨dd.typeIs, wpAny_getItem_heap (roomK hu) ki dd h1 (h _ v' u' (I.tok _) h2 h3)⟩
  · rw [Bool.not_eq_true] at ht
    obtain ⟨o, es, ep, _, _, _, _, _, _, ko, _⟩ := g a _ e
    obtain ⟨f1, f2⟩ := kindOk_F ko hk ht
    obtain ⟨xs, dd, r, hs, _⟩ := cell_F hw I g e f1
    obtain ⟨n, k, n1, n2, ki⟩ := key_F (X := X) f2 hd rx
    have h' := atF r n1 n2
    rw [hz] at h'
    obtain ⟨u', v', h1, h2, h3⟩ := h'
    exact ⟨dd.typeIs, wpAny_getItem_of ki dd.mapOf h1 (h _ v' u' (I.tok _) h2 h3)⟩
theorem d_set2 (hK : X.K = T.K) (hw : X.w = T.w) (hu : X.A.units + 64 < cLine) (I : Inv X pins σ H s) (g : GR T G H) (e : G a = some (.dct kvs)) {d z : D} {x y : V} {v u : Value} (hk : kindOk kvs d = true) (hl : kvs.length < 1000000) (hd : DV T.K T.fa H x d) (rx : RelV x v)
    (hz : DV T.K T.fa H y z) (ry : RelV y u) {E : Value → Shared → Prop} {Q : Unit → Shared → Prop} (h : ∀ s' H', Inv X pins σ H' s' → Xt H H' → GR T (up G a (.dct (keyPut kvs d z))) H' → Q () s') :
    wpAny (model X.prog X.w) X.A (setItem (.ref a) v u) Q E s := by
  have hlen : (keyPut kvs d z).length ≤ 2000000 := by have := @keyPut_length kvs d z; omega
  by_cases ht : D.isT d = true
  · obtain ⟨xs, dd, r, hs, _, ko, φ, hφ⟩ := cell_T hK hw I g e (kindOk_T hk ht)
    obtain ⟨q, n, rfl, rfl, n1, ki⟩ := key_T hK I hk ht hd rx
    refine wpAny_setItem_heap (roomK hu) ki dd (fun h' dd' sb => ?_) (by
      have : xs.length = kvs.length := by rw [← r.length]
      rw [this, sizeLine_eq]; omega)
    obtain ⟨o', es', ep', e1, e2, e3, e4, _, e6⟩ := dd'
    have rp := fun H' (x : Xt H H') => dputT n1 (hd.mono x) ry (hz.mono x) (paired_mono (fun p q (w : RxT T H p q) => (⟨w.1, w.2.1.mono x, w.2.2.imp fun v w => ⟨w.1, w.2.mono x⟩⟩ : RxT T H' p q)) r)
    obtain ⟨H', I', x', g'⟩ := dict_put (t' := s.toks + (nestedKind X.prog X.w).draws n) hK I g e hφ sb e1 e2 e3 hs (fun H' x => by rw [e4, hw]; exact backT (rp H' x)) (by rw [nodupT (rp H (.refl H))]; exact nodup_some' e6) (ko.put (kindOk_key hk)) hlen
    exact h _ H' I' x' g'
  · rw [Bool.not_eq_true] at ht
    obtain ⟨o, es, ep, _, _, _, _, _, _, ko, _⟩ := g a _ e
    obtain ⟨f1, f2⟩ := kindOk_F ko hk ht
    obtain ⟨xs, dd, r, hs, _, _, φ, hφ⟩ := cell_F hw I g e f1
    obtain ⟨n, k, n1, n2, ki⟩ := key_F (X := X) f2 hd rx
    refine wpAny_setItem_pairs ki dd (fun h' dd' sb => ?_) (by
      have : xs.length = kvs.length := by rw [← r.length]
      rw [this, sizeLine_eq]; omega)
    obtain ⟨o', es', ep', e1, e2, e3, e4, e5, e6⟩ := dd'
    have rp := fun H' (x : Xt H H') => dputF (k := k) n1 n2 ry (hz.mono x) (paired_mono (fun p q (w : RxF T H p q) => (⟨w.1, w.2.imp fun v w => ⟨w.1, w.2.mono x⟩⟩ : RxF T H' p q)) r)
    have ff : ((keyPut kvs d z).all fun p => flatK p.1) = true := by
      rw [List.all_eq_true] at f1 ⊢
      unfold keyPut
      intro p hp
      split at hp
      · obtain ⟨q, hq, rfl⟩ := List.mem_map.mp hp
        split <;> exact f1 q hq
      · rcases List.mem_append.mp hp with w | w
        · exact f1 p w
        · rw [List.mem_singleton] at w
          subst w
          exact f2
    have nd : ((keyPut kvs d z).map fun p => D.nk p.1).Nodup := by
      have gen : ∀ {ks : List (D × D)} {ys : List (Key × Value)}, Paired (RxF T H) ks ys → (ks.all fun p => flatK p.1) = true → (ys.map (·.1)).Nodup → (ks.map fun p => D.nk p.1).Nodup := by
        intro ks ys r
        induction r with
        | nil => intro _ _; exact List.nodup_nil
        | @cons p x ks ys r rs ih =>
          intro hf hn
          simp only [List.all_cons, Bool.and_eq_true] at hf
          rw [List.map_cons, List.nodup_cons] at hn ⊢
          refine ⟨fun hm => hn.1 ?_, ih hf.2 hn.2⟩
          obtain ⟨⟨n, n1, n2⟩, _⟩ := r
          obtain ⟨q, hq, e⟩ := List.mem_map.mp hm
          have find : ∀ {ks : List (D × D)} {ys : List (Key × Value)}, Paired (RxF T H) ks ys → q ∈ ks → ∃ y ∈ ys, RxF T H q y := by
            intro ks ys r
            induction r with
            | nil => intro h; cases h
            | cons r rs ih =>
              intro h
              rcases List.mem_cons.mp h with z | z
              · subst z; exact ⟨_, List.mem_cons_self, r⟩
              · obtain ⟨y, h1, h2⟩ := ih z
                exact ⟨y, List.mem_cons_of_mem _ h1, h2⟩
          obtain ⟨y, hy, ⟨m, m1, m2⟩, _⟩ := find rs hq
          rw [m1, n1] at e
          have em : m = n := Option.some.inj e
          rw [em, n2] at m2
          exact List.mem_map.mpr ⟨y, hy, (Option.some.inj m2).symm⟩
      exact gen (rp H (.refl H)) ff e6
    obtain ⟨H', I', x', g'⟩ := dict_put (t' := s.toks + 1) hK I g e hφ sb e1 e2 e3 hs (fun H' x => backF (rp H' x) (by rw [← hw]; exact e5) (fun e he => by
      obtain ⟨k', k1, k2⟩ := e4 e (by simpa using he)
      exact ⟨k', k1, by rw [k2, ← hw]; rfl⟩) ff) nd (ko.put (kindOk_key hk)) hlen
    exact h _ H' I' x' g'
end
end AT
end
section
set_option maxHeartbeats 4000000
/-! AT6: comparisons, subscripts, slices, truth. -/
namespace AT
open PySem PySem.Spec PyProof.Rows L2 SeqAt
def copOf : Cop → CmpOp
  | .eq => .Eq | .ne => .NotEq | .lt => .Lt | .le => .LtE | .gt => .Gt | .ge => .GtE | .isn => .Is | .nisn => .IsNot | .isb => .Is | .nisb => .IsNot | .inn => .In | .nin => .NotIn
theorem ints_V {K : PySem.W.Frag} {fa : Nat → Option Addr} {H : Hp} : ∀ {vs : List V} {ds : List D} {is : List Int}, DVs K fa H vs ds → ints? ds = some is → vs = is.map V.int
  | _, _, _, .nil, h => by simp [ints?] at h; subst h; rfl
  | _, _, _, .cons h1 hs, h => by
    cases h1 with
    | int i =>
      simp only [ints?, Option.map_eq_some_iff] at h
      obtain ⟨js, h2, rfl⟩ := h
      rw [List.map_cons, ints_V hs h2]
    | _ => simp [ints?] at h
theorem bools_V {K : PySem.W.Frag} {fa : Nat → Option Addr} {H : Hp} : ∀ {vs : List V} {ds : List D} {is : List Bool}, DVs K fa H vs ds → bools? ds = some is → vs = is.map V.bl
  | _, _, _, .nil, h => by simp [bools?] at h; subst h; rfl
  | _, _, _, .cons h1 hs, h => by
    cases h1 with
    | bl i =>
      simp only [bools?, Option.map_eq_some_iff] at h
      obtain ⟨js, h2, rfl⟩ := h
      rw [List.map_cons, bools_V hs h2]
    | _ => simp [bools?] at h
theorem lex_eq : ∀ (a b : List Int), HT.lexLt a b = lexLt a b
  | [], [] => rfl
  | [], _ :: _ => rfl
  | _ :: _, [] => rfl
  | x :: xs, y :: ys => by rw [HT.lexLt_cons, lexLt, lex_eq xs ys]
section
variable {T : Wd} {X : Cx}
theorem DV.isnon {fa : Nat → Option Addr} {K : PySem.W.Frag} {H : Hp} {v : V} {d : D} (h : DV K fa H v d) : decide (v = .non) = D.isNon d := by
  cases h <;> simp [D.isNon]
theorem or_cmp (hK : X.K = T.K) (hw : X.w = T.w) (hu : X.A.units + 64 < cLine) (op : Cop) : OpR X (compareOp (copOf op)) (LR2 T fun x y G Q => cmpW op x y G fun k G' => Q (.bl k) G') := by
  intro pins s σ H x y v u Q I rx ry h
  obtain ⟨d, e, G, Q2, hd, he, g, h, k⟩ := h
  have fin : ∀ b, Q2 (.bl b) G → Q (.bl b) H := fun b q => k _ _ _ _ q (.refl H) (.bl b) g
  cases op with
  | eq =>
    simp only [cmpW] at h
    split at h
    · rename_i b hb
      exact (eqO_run hK hu I g hd he rx ry hb).1 X.prog X.w X.xe _ ⟨.bl b, H, I, rfl, fin _ h⟩
    · exact h.elim
  | ne =>
    simp only [cmpW] at h
    split at h
    · rename_i b hb
      exact (eqO_run hK hu I g hd he rx ry hb).2 X.prog X.w X.xe _ ⟨.bl (!b), H, I, rfl, fin _ h⟩
    · exact h.elim
  | lt =>
    simp only [cmpW] at h
    cases hd with
    | int i =>
      cases he with
      | int j => exact op_lt pins s σ H _ _ v u Q I rx ry ⟨i, j, rfl, rfl, fin _ h⟩
      | _ => exact h.elim
    | tup h1 h2 =>
      cases he with
      | tup h3 h4 =>
        simp only at h
        split at h
        · rename_i is js e1 e2
          have v1 := ints_V h2 e1
          have v2 := ints_V h4 e2
          subst v1; subst v2
          exact op_ltT (by omega) pins s σ H _ _ v u Q I rx ry ⟨_, _, is, js, rfl, rfl, by rw [hK]; exact h1, by rw [hK]; exact h3, by rw [lex_eq]; exact fin _ h⟩
        · exact h.elim
      | _ => exact h.elim
    | _ => exact h.elim
  | le =>
    simp only [cmpW] at h
    cases hd with
    | int i =>
      cases he with
      | int j => exact op_le pins s σ H _ _ v u Q I rx ry ⟨i, j, rfl, rfl, fin _ h⟩
      | _ => exact h.elim
    | _ => exact h.elim
  | gt =>
    simp only [cmpW] at h
    cases hd with
    | int i =>
      cases he with
      | int j => exact op_gt pins s σ H _ _ v u Q I rx ry ⟨i, j, rfl, rfl, fin _ h⟩
      | _ => exact h.elim
    | _ => exact h.elim
  | ge =>
    simp only [cmpW] at h
    cases hd with
    | int i =>
      cases he with
      | int j => exact op_ge pins s σ H _ _ v u Q I rx ry ⟨i, j, rfl, rfl, fin _ h⟩
      | _ => exact h.elim
    | _ => exact h.elim
  | isn =>
    simp only [cmpW] at h
    cases he with
    | non => exact op_isN pins s σ H _ _ v u Q I rx ry ⟨rfl, by rw [hd.isnon]; exact fin _ h⟩
    | _ => exact h.elim
  | nisn =>
    simp only [cmpW] at h
    cases he with
    | non =>
      exact op_notN pins s σ H _ _ v u Q I rx ry ⟨rfl, by rw [hd.isnon]; exact fin _ h⟩
    | _ => exact h.elim
  | isb =>
    simp only [cmpW] at h
    cases he with
    | bl b =>
      cases hd with
      | bl a => exact op_isBl pins s σ H _ _ v u Q I rx ry ⟨a, b, rfl, rfl, by rw [← Bool.beq_eq_decide_eq]; exact fin _ h⟩
      | non =>
        cases (show v = Value.none from rx)
        cases (show u = Value.bool b from ry)
        exact wpAny_is_other rfl (fun z => nomatch z) ⟨.bl false, H, I, rfl, fin _ h⟩
      | _ => exact h.elim
    | _ => cases hd <;> exact h.elim
  | nisb =>
    simp only [cmpW] at h
    cases he with
    | bl b =>
      cases hd with
      | bl a => exact op_notBl pins s σ H _ _ v u Q I rx ry ⟨a, b, rfl, rfl, by rw [← Bool.beq_eq_decide_eq]; exact fin _ h⟩
      | non =>
        cases (show v = Value.none from rx)
        cases (show u = Value.bool b from ry)
        exact wpAny_isNot_other rfl (fun z => nomatch z) ⟨.bl true, H, I, rfl, fin _ h⟩
      | _ => exact h.elim
    | _ => cases hd <;> exact h.elim
  | inn =>
    simp only [cmpW] at h
    have seq : (match inO G d e with | some b => Q2 (.bl b) G | none => False) → wpAny (model X.prog X.w) X.A (compareOp .In v u) (EP X pins σ Q) X.xe s := fun h => by
      split at h
      · rename_i b hb
        exact (inO_run hK hu I g hd he rx ry hb).1 ⟨.bl b, H, I, rfl, fin _ h⟩
      · exact h.elim
    cases he with
    | ref a =>
      simp only at h
      split at h
      · rename_i kvs ha
        cases ry
        exact (d_in2 hK hw hu I g ha h.1 hd rx).1 fun s' I' => ⟨.bl _, H, I', rfl, fin _ h.2⟩
      · exact seq h
    | _ => exact seq h
  | nin =>
    simp only [cmpW] at h
    have seq : (match inO G d e with | some b => Q2 (.bl (!b)) G | none => False) → wpAny (model X.prog X.w) X.A (compareOp .NotIn v u) (EP X pins σ Q) X.xe s := fun h => by
      split at h
      · rename_i b hb
        exact (inO_run hK hu I g hd he rx ry hb).2 ⟨.bl (!b), H, I, rfl, fin _ h⟩
      · exact h.elim
    cases he with
    | ref a =>
      simp only at h
      split at h
      · rename_i kvs ha
        cases ry
        exact (d_in2 hK hw hu I g ha h.1 hd rx).2 fun s' I' => ⟨.bl _, H, I', rfl, fin _ h.2⟩
      · exact seq h
    | _ => exact seq h

/-! ### [i] -/
theorem ixN_eq (n : Nat) (i : Int) : L2.ixN n i = AT.ixN n i := rfl
theorem atI_ix {K : PySem.W.Frag} {fa : Nat → Option Addr} {H : Hp} {vs : List V} {ds : List D} {i : Int} {d : D} (h : DVs K fa H vs ds) (e : ixD ds i = some d) : ∃ v, atI vs i = some v ∧ DV K fa H v d := by
  unfold ixD at e
  unfold atI
  rw [h.length, ixN_eq]
  cases q : AT.ixN ds.length i with
  | none => rw [q] at e; cases e
  | some j =>
    rw [q] at e
    exact h.get e
/-- the tail of d[k] -/
theorem subD_tail {prog : Program} {w : World} {A : Around} {E : Value → Shared → Prop} {s : Shared} {value slice : Expr} {T id : String} {o i : Value} {Q : Value → Shared → Prop}
    (hl : typeLookup (.type T) "__getitem__" = pure (some (.builtin id))) (hs : subscripted slice false o i = operate [o, i] (getItem o i)) (hT : s.TypeIs o T) (h₂ : wpAny (model prog w) A (getItem o i) Q E s) :
    wpAny (model prog w) A (subscriptTail value slice o i) Q E s := by
  unfold subscriptTail
  refine wpAny_bind ?_
  rw [getitemInPython_of_ne hT.not_modules]
  refine wpAny_bind (wpAny_specialOf hT hl ?_)
  have fin : wpAny (model prog w) A (subscripted slice false o i) (fun r s₃ => wpAny (model prog w) A (letTemporaryGo value o r >>= fun _ => pure r) Q E s₃) E s := by
    rw [hs]
    exact wpAny_operating (wpAny_mono h₂ (fun r s₃ h₃ => wpAny_bind (wpAny_letTemporaryGo (wpAny_pure h₃))) fun _ _ x => x)
  first
    | exact wpAny_pure (wpAny_bind fin)
    | exact wpAny_bind (wpAny_pure (wpAny_bind fin))
    | exact wpAny_bind fin
theorem ix_any (hK : X.K = T.K) (hw : X.w = T.w) (hu : X.A.units + 64 < cLine) : IxR X (LR2 T idxW) := by
  intro value slice pins s σ H x y v u Q I rx ry h hs
  obtain ⟨d, e, G, Q2, hd, he, g, h, k⟩ := h
  unfold idxW at h
  cases hd with
  | tup h1 h2 =>
    cases he with
    | int i =>
      simp only at h
      split at h
      · rename_i z hz
        obtain ⟨w, q1, q2⟩ := atI_ix h2 hz
        exact ix_tup value slice pins s σ H _ _ v u Q I rx ry ⟨_, _, i, w, rfl, rfl, by rw [hK]; exact h1, q1, k _ _ _ _ h (.refl H) q2 g⟩ hs
      · exact h.elim
    | _ => exact h.elim
  | rol h1 h2 =>
    cases he with
    | int i =>
      simp only at h
      split at h
      · rename_i z hz
        obtain ⟨w, q1, q2⟩ := atI_ix h2 hz
        exact ix_list value slice pins s σ H _ _ v u Q I rx ry ⟨_, _, i, w, rfl, rfl, by rw [hK]; exact h1.sqL, q1, k _ _ _ _ h (.refl H) q2 g⟩ hs
      · exact h.elim
    | _ => exact h.elim
  | ref a =>
    simp only at h
    split at h
    · rename_i ds ha
      obtain ⟨vs, h1, h2⟩ := g a _ ha
      cases he with
      | int i =>
        simp only at h
        split at h
        · rename_i z hz
          obtain ⟨w, q1, q2⟩ := atI_ix h2 hz
          exact ix_list value slice pins s σ H _ _ v u Q I rx ry ⟨_, _, i, w, rfl, rfl, SqL.of h1, q1, k _ _ _ _ h (.refl H) q2 g⟩ hs
        · exact h.elim
      | _ => exact h.elim
    · rename_i kvs ha
      obtain ⟨hk, h⟩ := h
      split at h
      · rename_i z hz
        cases rx
        have r := d_get2 (E := X.xe) (Q := EP X pins σ Q) hK hw hu I g ha hk hz he ry fun s' y u I' ry' dv => ⟨y, H, I', ry', k _ _ _ _ h (.refl H) dv g⟩
        exact subD_tail PySem.F.slot_dict_getitem.lookup hs r.1 r.2
      · exact h.elim
    · exact h.elim
  | _ => exact h.elim
end
end AT
end
section
set_option maxHeartbeats 4000000
/-! AT7: slices, truth, built-ins. -/
namespace AT
open PySem PySem.Spec PyProof.Rows L2 SeqAt
section
variable {T : Wd} {X : Cx}
/-! ### slices -/
theorem sIx_eq (n d : Nat) (o : Option Int) : HT.sIx n d o = AT.sIx n d o := by
  cases o with
  | none => rfl
  | some v =>
    show _ = if v < 0 then (max (v + n) 0).toNat else (min v n).toNat
    by_cases h : v < 0
    · rw [if_pos h]
      first | rfl | (unfold HT.sIx; simp only [h, if_true]; omega) | (unfold HT.sIx; simp [h])
    · rw [if_neg h]
      first | rfl | (unfold HT.sIx; simp only [h, if_false]; omega) | (unfold HT.sIx; simp [h])
theorem cut_eq {α : Type} (xs : List α) (lo hi : Option Int) : (xs.drop (HT.sIx xs.length 0 lo)).take (HT.sIx xs.length xs.length hi - HT.sIx xs.length 0 lo) = cutD xs lo hi := by
  unfold cutD
  rw [sIx_eq, sIx_eq]
theorem DVs.cut {K : PySem.W.Frag} {fa : Nat → Option Addr} {H : Hp} {vs : List V} {ds : List D} (h : DVs K fa H vs ds) (lo hi : Option Int) : DVs K fa H (cutV vs lo hi) (cutD ds lo hi) := by
  unfold cutV
  rw [cut_eq]
  unfold cutD
  rw [h.length]
  exact (h.drop _).take _
def LSl (T : Wd) : V → Option Int → Option Int → Hp → VK → Prop := fun x lo hi H Q => ∃ (d : D) (G : Gp) (Q2 : KE), DV T.K T.fa H x d ∧ GR T G H ∧ sliW d lo hi G Q2 ∧ ∀ r G' v H', Q2 r G' → Xt H H' → DV T.K T.fa H' v r → GR T G' H' → Q v H'
theorem sl_any (hK : X.K = T.K) : SlR X (LSl T) := by
  intro pins s σ H x v vl vu lo hi sl Q I rx hs pl pu h
  obtain ⟨d, G, Q2, hd, g, h, k⟩ := h
  unfold sliW at h
  cases hd with
  | @tup a vs ds h1 h2 =>
    refine sl_tupA pins s σ H _ v vl vu lo hi sl Q I rx hs pl pu ⟨_, _, rfl, by rw [hK]; exact h1, fun hw => ?_, fun hw p hp => ?_⟩
    · refine k _ _ _ _ h (.refl H) (.tup h1 ?_) g
      have e : cutD ds lo hi = ds := by
        rw [← cut_eq, ← h2.length, hw.1, hw.2, h2.length]
        rw [List.drop_zero, Nat.sub_zero, List.take_length]
      rw [e]
      exact h2
    · exact k _ _ _ _ h (.new hp) (.tup (SqT.of upd_same) ((h2.mono (.new hp)).cut lo hi)) (g.new hp)
  | str z => exact sl_str pins s σ H _ v vl vu lo hi sl Q I rx hs pl pu ⟨z, rfl, by rw [← line_eq]; exact h.1, by
      unfold cutS
      have e : z.length = z.cps.toList.length := by simp [Str.length]
      rw [e, cut_eq]
      exact k _ _ _ _ h.2 (.refl H) (.str _) g⟩
  | ref a =>
    simp only at h
    split at h
    · rename_i ds ha
      obtain ⟨vs, h1, h2⟩ := g a _ ha
      exact sl_list pins s σ H _ v vl vu lo hi sl Q I rx hs pl pu ⟨a, vs, rfl, SqL.of h1, fun p hp => k _ _ _ _ (h p (g.free hp)) (.new hp) (.ref p) (g.add hp ⟨_, upd_same, (h2.mono (.new hp)).cut lo hi⟩)⟩
    · exact h.elim
  | _ => exact h.elim

/-! ### truth -/
theorem isEmpty_DV {K : PySem.W.Frag} {fa : Nat → Option Addr} {H : Hp} {vs : List V} {ds : List D} (h : DVs K fa H vs ds) : vs.isEmpty = ds.isEmpty := by
  cases h <;> rfl
theorem truth_V (hK : X.K = T.K) {H : Hp} {G : Gp} (g : GR T G H) {d : D} {v : V} {k : Bool} (hd : DV T.K T.fa H v d) (h : D.truth G d = some k) : TruV X.K v H k := by
  cases hd with
  | non => simp [D.truth] at h; exact h.symm ▸ rfl
  | bl b => simp [D.truth] at h; exact h.symm
  | int i => simp only [D.truth, Option.some.injEq] at h; exact h.symm
  | str x => simp [D.truth] at h
  | tup h1 h2 =>
    simp only [D.truth, Option.some.injEq] at h
    exact .inr (.inl ⟨_, by rw [hK]; exact h1, by rw [isEmpty_DV h2]; exact h.symm⟩)
  | rol h1 h2 =>
    simp only [D.truth, Option.some.injEq] at h
    exact .inl ⟨_, by rw [hK]; exact h1.sqL, by rw [isEmpty_DV h2]; exact h.symm⟩
  | ref a =>
    simp only [D.truth] at h
    split at h
    · rename_i ds ha
      obtain ⟨vs, h1, h2⟩ := g a _ ha
      simp only [Option.some.injEq] at h
      exact .inl ⟨_, SqL.of h1, by rw [isEmpty_DV h2]; exact h.symm⟩
    · cases h
  | fn _ => simp [D.truth] at h

/-! ### built-ins by name -/
/-- what a built-in asks of its arguments -/
def LP (T : Wd) (p : Pm) : List V → Hp → VK → Prop := fun xs H Q => ∃ (ds : List D) (G : Gp) (Q2 : KE), DVs T.K T.fa H xs ds ∧ GR T G H ∧ primW p ds G Q2 ∧ ∀ r G' v H', Q2 r G' → Xt H H' → DV T.K T.fa H' v r → GR T G' H' → Q v H'
/-- one argument -/
theorem dvs1 {K : PySem.W.Frag} {fa : Nat → Option Addr} {H : Hp} {vs : List V} {d : D} (h : DVs K fa H vs [d]) : ∃ v, vs = [v] ∧ DV K fa H v d := by
  cases h with
  | cons h1 h2 => cases h2; exact ⟨_, rfl, h1⟩
theorem dvs2 {K : PySem.W.Frag} {fa : Nat → Option Addr} {H : Hp} {vs : List V} {d e : D} (h : DVs K fa H vs [d, e]) : ∃ v w, vs = [v, w] ∧ DV K fa H v d ∧ DV K fa H w e := by
  cases h with
  | cons h1 h2 => cases h2 with | cons h3 h4 => cases h4; exact ⟨_, _, rfl, h1, h3⟩
theorem dvs3 {K : PySem.W.Frag} {fa : Nat → Option Addr} {H : Hp} {vs : List V} {d e f : D} (h : DVs K fa H vs [d, e, f]) : ∃ v w z, vs = [v, w, z] ∧ DV K fa H v d ∧ DV K fa H w e ∧ DV K fa H z f := by
  cases h with
  | cons h1 h2 => cases h2 with | cons h3 h4 => cases h4 with | cons h5 h6 => cases h6; exact ⟨_, _, _, rfl, h1, h3, h5⟩
/-- the length of a dict -/
theorem len_dict2 (hK : X.K = T.K) (hw : X.w = T.w) {pins : List (Addr × Obj)} {σ : L2.St} {H : Hp} {s : Shared} {G : Gp} {a : Addr} {kvs : List (D × D)} (I : Inv X pins σ H s) (g : GR T G H) (e : G a = some (.dct kvs))
    (hk : (kvs.all fun p => D.isT p.1) = true ∨ (kvs.all fun p => flatK p.1) = true) {E : Value → Shared → Prop} {Q : Value → Shared → Prop}
    (h : ∀ s', Inv X pins σ H s' → ∀ t, Q (.int kvs.length t) s') : wpAny (model X.prog X.w) X.A (call (.builtin "len") [.ref a]) Q E s := by
  rcases hk with hk | hk
  · obtain ⟨xs, dd, r, hs, hl, _⟩ := cell_T hK hw I g e hk
    have hx : xs.length = kvs.length := r.length.symm
    exact PySem.call_len_dictH hs dd (by omega) (by rw [hx]; exact h _ (I.tok _) _)
  · obtain ⟨xs, dd, r, hs, hl, _⟩ := cell_F hw I g e hk
    have hx : xs.length = kvs.length := r.length.symm
    exact PySem.call_len_dict hs dd (by omega) (by rw [hx]; exact h _ (I.tok _) _)
theorem cr_len2 (hK : X.K = T.K) (hw : X.w = T.w) : CallR X (.builtin "len") (LP T .len) := by
  intro pins s σ H xs us Q I r h
  obtain ⟨ds, G, Q2, hd, g, h, k⟩ := h
  have h : lenW ds G Q2 := h
  unfold lenW at h
  split at h <;> first | exact h.elim | skip
  · obtain ⟨v, rfl, dv⟩ := dvs1 hd
    cases dv with
    | tup h1 h2 => exact call_len_seq pins s σ H _ us Q I r ⟨_, _, rfl, .inr (by rw [hK]; exact h1), by rw [h2.length]; exact k _ _ _ _ h (.refl H) (.int _) g⟩
  · obtain ⟨v, rfl, dv⟩ := dvs1 hd
    cases dv with
    | rol h1 h2 => exact call_len_seq pins s σ H _ us Q I r ⟨_, _, rfl, .inl (by rw [hK]; exact h1.sqL), by rw [h2.length]; exact k _ _ _ _ h (.refl H) (.int _) g⟩
  · obtain ⟨v, rfl, dv⟩ := dvs1 hd
    cases dv with
    | str => exact call_len_str pins s σ H _ us Q I r ⟨_, rfl, by rw [← line_eq]; exact h.1, k _ _ _ _ h.2 (.refl H) (.int _) g⟩
  · obtain ⟨v, rfl, dv⟩ := dvs1 hd
    cases dv with
    | ref a =>
      split at h
      · rename_i ds ha
        obtain ⟨vs, h1, h2⟩ := g _ _ ha
        exact call_len_seq pins s σ H _ us Q I r ⟨_, _, rfl, .inl (SqL.of h1), by rw [h2.length]; exact k _ _ _ _ h (.refl H) (.int _) g⟩
      · rename_i kvs ha
        obtain ⟨u, rfl, rx⟩ := vals1 r
        cases rx
        exact len_dict2 hK hw I g ha h.1 fun s' I' t => ⟨.int kvs.length, H, I', ⟨t, rfl⟩, k _ _ _ _ h.2 (.refl H) (.int _) g⟩
      · exact h.elim
theorem cr_int : CallR X (.type "int") (LP T .intOf) := by
  intro pins s σ H xs us Q I r h
  obtain ⟨ds, G, Q2, hd, g, h, k⟩ := h
  have h : intOfW ds G Q2 := h
  unfold intOfW at h
  split at h <;> first | exact h.elim | skip
  · obtain ⟨v, rfl, dv⟩ := dvs1 hd
    cases dv with
    | int i => exact call_int1 pins s σ H _ us Q I r (.inl ⟨_, rfl, k _ _ _ _ h (.refl H) (.int _) g⟩)
  · obtain ⟨v, rfl, dv⟩ := dvs1 hd
    cases dv with
    | bl b => exact call_int1 pins s σ H _ us Q I r (.inr ⟨_, rfl, k _ _ _ _ h (.refl H) (.int _) g⟩)
theorem cr_max2 (hc : X.calm = true) : CallR X (.builtin "max") (LP T .max2) := by
  intro pins s σ H xs us Q I r h
  obtain ⟨ds, G, Q2, hd, g, h, k⟩ := h
  have h : max2W ds G Q2 := h
  unfold max2W at h
  split at h <;> first | exact h.elim | skip
  obtain ⟨v, w, rfl, dv, dw⟩ := dvs2 hd
  cases dv with
  | int i => cases dw with | int j => exact call_max2 hc pins s σ H _ us Q I r ⟨_, _, rfl, k _ _ _ _ h (.refl H) (.int _) g⟩
theorem cr_min2 (hc : X.calm = true) : CallR X (.builtin "min") (LP T .min2) := by
  intro pins s σ H xs us Q I r h
  obtain ⟨ds, G, Q2, hd, g, h, k⟩ := h
  have h : min2W ds G Q2 := h
  unfold min2W at h
  split at h <;> first | exact h.elim | skip
  obtain ⟨v, w, rfl, dv, dw⟩ := dvs2 hd
  cases dv with
  | int i => cases dw with | int j => exact call_min2 hc pins s σ H _ us Q I r ⟨_, _, rfl, k _ _ _ _ h (.refl H) (.int _) g⟩
theorem cr_tuple (hK : X.K = T.K) : CallR X (.type "tuple") (LP T .tupleOf) := by
  intro pins s σ H xs us Q I r h
  obtain ⟨ds, G, Q2, hd, g, h, k⟩ := h
  have h : tupleOfW ds G Q2 := h
  unfold tupleOfW at h
  split at h <;> first | exact h.elim | skip
  · obtain ⟨v, rfl, dv⟩ := dvs1 hd
    cases dv with
    | tup h1 h2 => exact call_tuple_of pins s σ H _ us Q I r ⟨_, _, rfl, .inr ⟨by rw [hK]; exact h1, k _ _ _ _ h (.refl H) (.tup h1 h2) g⟩⟩
  · obtain ⟨v, rfl, dv⟩ := dvs1 hd
    split at h
    · rename_i ds hs
      obtain ⟨a, vs, rfl, h1, h2⟩ := seq_at hK g hs dv
      exact call_tuple_of pins s σ H _ us Q I r ⟨a, vs, rfl, .inl ⟨h1, fun p hp => k _ _ _ _ h (.new hp) (.tup (SqT.of upd_same) (h2.mono (.new hp))) (g.new hp)⟩⟩
    · exact h.elim
theorem cr_all2 (hK : X.K = T.K) (hc : X.calm = true) : CallR X (.builtin "all") (LP T .allOf) := by
  intro pins s σ H xs us Q I r h
  obtain ⟨ds, G, Q2, hd, g, h, k⟩ := h
  have h : allOfW ds G Q2 := h
  unfold allOfW at h
  split at h <;> first | exact h.elim | skip
  obtain ⟨v, rfl, dv⟩ := dvs1 hd
  split at h
  · rename_i bs hs
    rw [Option.bind_eq_some_iff] at hs
    obtain ⟨ds, e1, e2⟩ := hs
    obtain ⟨a, vs, rfl, h1, h2⟩ := seq_at hK g e1 dv
    have ev := bools_V h2 e2
    subst ev
    exact cr_all hc pins s σ H _ us Q I r ⟨a, bs, rfl, h1, k _ _ _ _ h (.refl H) (.bl _) g⟩
  · exact h.elim
theorem cr_any2 (hK : X.K = T.K) (hc : X.calm = true) : CallR X (.builtin "any") (LP T .anyOf) := by
  intro pins s σ H xs us Q I r h
  obtain ⟨ds, G, Q2, hd, g, h, k⟩ := h
  have h : anyOfW ds G Q2 := h
  unfold anyOfW at h
  split at h <;> first | exact h.elim | skip
  obtain ⟨v, rfl, dv⟩ := dvs1 hd
  split at h
  · rename_i bs hs
    rw [Option.bind_eq_some_iff] at hs
    obtain ⟨ds, e1, e2⟩ := hs
    obtain ⟨a, vs, rfl, h1, h2⟩ := seq_at hK g e1 dv
    have ev := bools_V h2 e2
    subst ev
    exact cr_any hc pins s σ H _ us Q I r ⟨a, bs, rfl, h1, k _ _ _ _ h (.refl H) (.bl _) g⟩
  · exact h.elim
theorem cr_sum2 (hK : X.K = T.K) (hc : X.calm = true) : CallR X (.builtin "sum") (LP T .sumOf) := by
  intro pins s σ H xs us Q I r h
  obtain ⟨ds, G, Q2, hd, g, h, k⟩ := h
  have h : sumOfW ds G Q2 := h
  unfold sumOfW at h
  split at h <;> first | exact h.elim | skip
  obtain ⟨v, rfl, dv⟩ := dvs1 hd
  split at h
  · rename_i bs hs
    rw [Option.bind_eq_some_iff] at hs
    obtain ⟨ds, e1, e2⟩ := hs
    obtain ⟨a, vs, rfl, h1, h2⟩ := seq_at hK g e1 dv
    have ev := ints_V h2 e2
    subst ev
    exact cr_sum hc pins s σ H _ us Q I r ⟨a, bs, rfl, h1, k _ _ _ _ h (.refl H) (.int _) g⟩
  · exact h.elim
theorem cr_minL (hK : X.K = T.K) (hc : X.calm = true) : CallR X (.builtin "min") (LP T .minL) := by
  intro pins s σ H xs us Q I r h
  obtain ⟨ds, G, Q2, hd, g, h, k⟩ := h
  have h : minLW ds G Q2 := h
  unfold minLW at h
  split at h <;> first | exact h.elim | skip
  obtain ⟨v, rfl, dv⟩ := dvs1 hd
  split at h
  · rename_i ds e1
    split at h
    · rename_i is e2
      obtain ⟨a, vs, rfl, h1, h2⟩ := seq_at hK g e1 dv
      have ev := ints_V h2 e2
      subst ev
      refine cr_min hc pins s σ H _ us Q I r ⟨a, is, rfl, h1, List.length_pos_iff.mpr h.1, fun m hm hle => k _ _ _ _ (h.2 m hm hle) (.refl H) (.int _) g⟩
    · exact h.elim
  · exact h.elim
theorem cr_sort2 (hK : X.K = T.K) : CallR X (.builtin "sorted") (LP T .sortI) := by
  intro pins s σ H xs us Q I r h
  obtain ⟨ds, G, Q2, hd, g, h, k⟩ := h
  have h : sortIW ds G Q2 := h
  unfold sortIW at h
  split at h <;> first | exact h.elim | skip
  obtain ⟨v, rfl, dv⟩ := dvs1 hd
  split at h
  · rename_i is hs
    rw [Option.bind_eq_some_iff] at hs
    obtain ⟨ds, e1, e2⟩ := hs
    obtain ⟨a, vs, rfl, h1, h2⟩ := seq_at hK g e1 dv
    have ev := ints_V h2 e2
    subst ev
    have mk : ∀ (H' : Hp) (js : List Int), DVs T.K T.fa H' (js.map V.int) (js.map D.int) := by
      intro H' js
      induction js with
      | nil => exact .nil
      | cons j js ih => exact .cons (.int j) ih
    exact cr_sortedI pins s σ H _ us Q I r ⟨a, is, rfl, h1, fun js p hp hs hn => k _ _ _ _ (h js hp hs p (g.free hn)) (.new hn) (.ref p) (g.add hn ⟨_, upd_same, mk _ _⟩)⟩
  · exact h.elim

/-! ### methods of built-in types -/
def LPm (T : Wd) (p : Pm) (t : Kd) : V → List V → Hp → VK → Prop := fun x xs H Q => ∃ (d : D) (ds : List D) (G : Gp) (Q2 : KE), DV T.K T.fa H x d ∧ DVs T.K T.fa H xs ds ∧ GR T G H ∧ kindO G d = some t ∧ primW p (d :: ds) G Q2 ∧
  ∀ r G' v H', Q2 r G' → Xt H H' → DV T.K T.fa H' v r → GR T G' H' → Q v H'
theorem GR.lst {H : Hp} {G : Gp} {a : Addr} {es : List D} {vs ws : List V} (g : GR T G H) (h1 : H a = some (.lst vs)) (h2 : DVs T.K T.fa H ws es) : Xt H (upd H a (.lst ws)) ∧ GR T (up G a (.lst es)) (upd H a (.lst ws)) := by
  have x : Xt H (upd H a (.lst ws)) := .put h1 True.intro
  exact ⟨x, g.put x ⟨ws, upd_same, h2.mono x⟩⟩
theorem mm_append : MtR X "list.append" (LPm T .append .lst) := by
  intro pins s σ H x xs v us Q I rx rs h
  obtain ⟨d, ds, G, Q2, hd, hds, g, hk, h, k⟩ := h
  replace h : appendW (d :: ds) G Q2 := h
  unfold appendW at h
  split at h
  case h_2 => exact h.elim
  rename_i e
  cases e
  cases hd with
  | ref a =>
    obtain ⟨y, rfl, dy⟩ := dvs1 hds
    split at h
    · rename_i es ha
      obtain ⟨vs, h1, h2⟩ := g _ _ ha
      obtain ⟨x', g'⟩ := g.lst (es := es ++ [_]) h1 (h2.append (.cons dy .nil))
      exact mt_append pins s σ H _ _ v us Q I rx rs ⟨_, vs, y, rfl, rfl, h1, by rw [← line_eq, h2.length]; exact h.1, k _ _ _ _ h.2 x' .non g'⟩
    · exact h.elim
theorem mm_pop0 : MtR X "list.pop" (LPm T .pop0 .lst) := by
  intro pins s σ H x xs v us Q I rx rs h
  obtain ⟨d, ds, G, Q2, hd, hds, g, hk, h, k⟩ := h
  replace h : pop0W (d :: ds) G Q2 := h
  unfold pop0W at h
  split at h
  case h_2 => exact h.elim
  rename_i e
  cases e
  cases hd with
  | ref a =>
    cases hds
    split at h
    · rename_i es ha
      obtain ⟨vs, h1, h2⟩ := g _ _ ha
      split at h
      · rename_i z hz
        rw [List.getLast?_eq_getElem?] at hz
        obtain ⟨y, hy, dy⟩ := h2.get hz
        obtain ⟨x', g'⟩ := g.lst h1 h2.dropLast
        exact mt_pop pins s σ H _ _ v us Q I rx rs ⟨_, vs, y, rfl, rfl, h1, by rw [h2.length]; exact hy, k _ _ _ _ h x' (dy.mono x') g'⟩
      · exact h.elim
    · exact h.elim
theorem mm_pop1 : MtR X "list.pop" (LPm T .pop1 .lst) := by
  intro pins s σ H x xs v us Q I rx rs h
  obtain ⟨d, ds, G, Q2, hd, hds, g, hk, h, k⟩ := h
  replace h : pop1W (d :: ds) G Q2 := h
  unfold pop1W at h
  split at h
  case h_2 => exact h.elim
  rename_i e
  cases e
  cases hd with
  | ref a =>
    obtain ⟨y, rfl, dy⟩ := dvs1 hds
    cases dy
    split at h
    · rename_i es ha
      obtain ⟨vs, h1, h2⟩ := g _ _ ha
      split at h
      · rename_i kk hkk
        split at h
        · rename_i z hz
          obtain ⟨y, hy, dy⟩ := h2.get hz
          obtain ⟨x', g'⟩ := g.lst h1 (h2.eraseIdx kk)
          have hix := ixN_seq (n := es.length) (show L2.ixN es.length _ = some kk from hkk)
          have hn := line63
          have hsz : vs.length ≤ sizeLine := (I.hok _ _ h1).1
          have hl := h2.length
          exact mt_popAt pins s σ H _ _ v us Q I rx rs ⟨_, vs, _, kk, y, rfl, rfl, h1, by omega, by omega, by rw [h2.length]; exact hix.1, hy, k _ _ _ _ h x' (dy.mono x') g'⟩
        · exact h.elim
      · exact h.elim
    · exact h.elim
/-- the first that is equal, by keys -/
theorem idx_facts {h : Heap} {d : D} {n : NestedKey} (hn : D.nk d = some n) : ∀ {ds : List D} {ns : List NestedKey} {us : List Value} {j : Nat}, D.nks ds = some ns → NestedAll h ns us → (ds.findIdx? fun e => D.eqB e d) = some j →
    ∃ hj : j < us.length, keyEq h n us[j] = true ∧ ∀ (m : Nat) (hm : m < us.length), m < j → keyEq h n us[m] = false
  | [], _, _, _, _, _, e => by simp at e
  | e :: ds, ns, us, j, hns, r, hf => by
    simp only [D.nks] at hns
    split at hns
    · rename_i k ks q1 q2
      simp at hns
      subst hns
      cases r with
      | cons r1 r2 =>
        rw [List.findIdx?_cons] at hf
        have eb := eqB_nk q1 hn
        by_cases hc : D.eqB e d = true
        · rw [if_pos hc] at hf
          cases hf
          refine ⟨by simp, ?_, fun m _ hm => absurd hm (Nat.not_lt_zero _)⟩
          show keyEq h n _ = true
          rw [List.getElem_cons_zero, keyEq_is r1, eb]
          exact hc
        · rw [if_neg hc, Option.map_eq_some_iff] at hf
          obtain ⟨i, hi, rfl⟩ := hf
          obtain ⟨h1, h2, h3⟩ := idx_facts hn q2 r2 hi
          refine ⟨by simp; omega, by simpa using h2, fun m hm hmi => ?_⟩
          cases m with
          | zero =>
            rw [List.getElem_cons_zero, keyEq_is r1, eb]
            simpa using hc
          | succ m =>
            rw [List.getElem_cons_succ]
            exact h3 m (by simpa using hm) (by omega)
    · cases hns
theorem mm_index (hK : X.K = T.K) (hu : X.A.units + 64 < cLine) : MtR X "list.index" (LPm T .index .lst) ∧ MtR X "tuple.index" (LPm T .index .tup) := by
  constructor
  · intro pins s σ H x xs v us Q I rx rs h
    obtain ⟨d, ds, G, Q2, hd, hds, g, hk, h, k⟩ := h
    replace h : indexW (d :: ds) G Q2 := h
    unfold indexW at h
    split at h
    case h_2 => exact h.elim
    rename_i e
    cases e
    obtain ⟨y, rfl, dy⟩ := dvs1 hds
    obtain ⟨uy, rfl, ry⟩ := vals1 rs
    split at h
    · rename_i es he
      obtain ⟨hc, h⟩ := h
      simp only [Bool.and_eq_true, decide_eq_true_eq] at hc
      obtain ⟨⟨p1, p2⟩, p3⟩ := hc
      obtain ⟨n, n1, n2⟩ := nk_of p1
      obtain ⟨ns, m1, m2⟩ := nks_of p2
      split at h
      · rename_i j hj
        cases hd with
        | ref a =>
          obtain ⟨a', vs, e1, h1, h2⟩ := seq_at (d := .ref a) hK g (ds := es) (v := .ref a) (by simpa [seqL, items?] using he) (.ref a)
          cases e1
          cases rx
          obtain ⟨its, rv, ⟨⟨cls, dd, data, sl⟩, n', ho, hcl, hdn, hdt⟩, hlen⟩ := I.list h1
          simp only at hcl hdt
          subst hcl hdt
          have ka := keys_are I m1 (by rw [hK]; exact h2) rv
          obtain ⟨j1, j2, j3⟩ := idx_facts (h := s.heap) n1 m1 ka hj
          have hsl := sizeLine_eq
          have hvl := rv.length
          have kd := key_is I n1 (by rw [hK]; exact dy) ry
          refine call_meets PySem.F.slot_list_index ⟨_, ho, rfl⟩ PySem.F.entry_list_index (PySem.F.args_list_index_2 _ _)
            (SeqAt.list_indexAt a its.toArray n' dd sl uy (keyEq s.heap n) j (by simpa using j1) (by omega) (by simpa using j2) (fun m hm hmj => by simpa using j3 m (by simpa using hm) hmj)) ⟨ho, fun u' hu' => ?_, ⟨.int (j : Nat), H, I.tok _, ⟨_, rfl⟩, k _ _ _ _ h (.refl H) (.int _) g⟩⟩
          have hmem : u' ∈ its := by simpa using hu'
          have gen : ∀ (ks : List NestedKey) (us : List Value), NestedAll s.heap ks us → ∀ w ∈ us, EqAt X.A.in1 s w uy (keyEq s.heap n w) := by
            intro ks
            induction ks with
            | nil => intro us r w hw; cases r; cases hw
            | cons k ks ih =>
              intro us r w hw
              cases r with
              | cons r1 r2 =>
                rcases List.mem_cons.mp hw with z | z
                · subst z
                  rw [keyEq_is r1]
                  have : X.A.in1.units = X.A.units + 1 := rfl
                  exact eqAt_key k n X.A.in1 s _ _ r1 kd (by omega)
                · exact ih _ r2 w z
          exact gen ns its ka u' hmem
        | _ => simp [kindO] at hk
      · exact h.elim
    · exact h.elim
  · intro pins s σ H x xs v us Q I rx rs h
    obtain ⟨d, ds, G, Q2, hd, hds, g, hk, h, k⟩ := h
    replace h : indexW (d :: ds) G Q2 := h
    unfold indexW at h
    split at h
    case h_2 => exact h.elim
    rename_i e
    cases e
    obtain ⟨y, rfl, dy⟩ := dvs1 hds
    obtain ⟨uy, rfl, ry⟩ := vals1 rs
    split at h
    · rename_i es he
      obtain ⟨hc, h⟩ := h
      simp only [Bool.and_eq_true, decide_eq_true_eq] at hc
      obtain ⟨⟨p1, p2⟩, p3⟩ := hc
      obtain ⟨n, n1, n2⟩ := nk_of p1
      obtain ⟨ns, m1, m2⟩ := nks_of p2
      split at h
      · rename_i j hj
        cases hd with
        | tup h1 h2 =>
          simp only [items?, Option.some.injEq] at he
          subst he
          cases rx
          obtain ⟨its, rv, ⟨⟨cls, dd, data, sl⟩, ho, hcl, n', hdt⟩, hlen⟩ := I.tuple (by rw [hK]; exact h1)
          simp only at hcl hdt
          subst hcl hdt
          have ka := keys_are I m1 (by rw [hK]; exact h2) rv
          obtain ⟨j1, j2, j3⟩ := idx_facts (h := s.heap) n1 m1 ka hj
          have kd := key_is I n1 (by rw [hK]; exact dy) ry
          refine call_meets PySem.F.slot_tuple_index ⟨_, ho, rfl⟩ PySem.F.entry_tuple_index (PySem.F.args_tuple_index_2 _ _)
            (TI.tuple_indexAt _ its.toArray n' dd sl uy (keyEq s.heap n) j (by simpa using j1) (by simpa using j2) (fun m hm hmj => by simpa using j3 m (by simpa using hm) hmj)) ⟨ho, fun u' hu' => ?_, ⟨.int (j : Nat), H, I.tok _, ⟨_, rfl⟩, k _ _ _ _ h (.refl H) (.int _) g⟩⟩
          have hmem : u' ∈ its := by simpa using hu'
          have gen : ∀ (ks : List NestedKey) (us : List Value), NestedAll s.heap ks us → ∀ w ∈ us, EqAt X.A.in1 s w uy (keyEq s.heap n w) := by
            intro ks
            induction ks with
            | nil => intro us r w hw; cases r; cases hw
            | cons k ks ih =>
              intro us r w hw
              cases r with
              | cons r1 r2 =>
                rcases List.mem_cons.mp hw with z | z
                · subst z
                  rw [keyEq_is r1]
                  have : X.A.in1.units = X.A.units + 1 := rfl
                  exact eqAt_key k n X.A.in1 s _ _ r1 kd (by omega)
                · exact ih _ r2 w z
          exact gen ns its ka u' hmem
        | ref a => simp only [kindO] at hk; split at hk <;> cases hk
        | _ => simp [kindO] at hk
      · exact h.elim
    · exact h.elim
end
end AT
end
section
set_option maxHeartbeats 4000000
/-! AT8: readings of expressions. -/
namespace AT
open PySem PySem.Spec PyProof.Rows L2 SeqAt
section
variable {T : Wd} {X : Cx} {H0 : Hp} {a b c e : Expr} {pos : Pos} {ta tb tc : TE2}
theorem l_cst {v : V} {d : D} (h : PE X e (tC v)) (dv : ∀ H, DV T.K T.fa H v d) : PE X e (LE T H0 fun _ G Q => Q d G) :=
  PE.imp h fun σ H Q ⟨σd, G, Q2, x0, sr, g, h, k⟩ => k _ _ _ _ h (.refl H) (dv H) g
theorem l_var {i : Nat} (h : PE X e (tVar i)) : PE X e (LE T H0 fun σ G Q => match σ[i]? with | some (some d) => Q d G | _ => False) := by
  refine PE.imp h ?_
  rintro σ H Q ⟨σd, G, Q2, x0, sr, g, h, k⟩
  split at h
  · rename_i d hd
    obtain ⟨v, h1, h2⟩ := sr.2 i d hd
    exact ⟨v, h1, k _ _ _ _ h (.refl H) h2 g⟩
  · exact h.elim
/-- two parts -/
theorem l_two {r : R2} {f : D → D → Gp → KE → Prop} (hr : ∀ x y H Q, LR2 T f x y H Q → r x y H Q) : ∀ σ H Q, LE T H0 (fun σ G Q => ta σ G fun x G1 => tb σ G1 fun y G2 => f x y G2 Q) σ H Q → tOp r (LE T H0 ta) (LE T H0 tb) σ H Q := by
  rintro σ H Q ⟨σd, G, Q2, x0, sr, g, h, k⟩
  refine ⟨σd, G, _, x0, sr, g, h, fun d G1 v H1 q x1 dv g1 => ⟨σd, G1, _, x0.trans x1, sr.mono x1, g1, q, fun e G2 v2 H2 q2 x2 dv2 g2 => ?_⟩⟩
  exact hr _ _ _ _ ⟨d, e, G2, Q2, dv.mono x2, dv2, g2, q2, fun r G3 v3 H3 q3 x3 dv3 g3 => k r G3 v3 H3 q3 ((x1.trans x2).trans x3) dv3 g3⟩
theorem l_bin (hK : X.K = T.K) (op : Bop) (ha : PE X a (LE T H0 ta)) (hb : PE X b (LE T H0 tb)) : PE X (.BinOp a (bopOf op) b pos) (LE T H0 fun σ G Q => ta σ G fun x G1 => tb σ G1 fun y G2 => binW op x y G2 Q) :=
  PE.imp (pe_op (or_bin hK op) ha hb) (l_two fun _ _ _ _ h => h)
theorem l_cmp (hK : X.K = T.K) (hw : X.w = T.w) (hu : X.A.units + 64 < cLine) (op : Cop) (ha : PE X a (LE T H0 ta)) (hb : PE X b (LE T H0 tb)) (hm : behindInMarks (copOf op) b = false) :
    PE X (.Compare a [copOf op] [b] pos) (LE T H0 fun σ G Q => ta σ G fun x G1 => tb σ G1 fun y G2 => cmpW op x y G2 fun k G3 => Q (.bl k) G3) :=
  PE.imp (pe_cmpR (or_cmp hK hw hu op) ha hb hm) (l_two fun _ _ _ _ h => h)
theorem lt_cmp (hK : X.K = T.K) (hw : X.w = T.w) (hu : X.A.units + 64 < cLine) (op : Cop) (ha : PE X a (LE T H0 ta)) (hb : PE X b (LE T H0 tb)) (hm : behindInMarks (copOf op) b = false) :
    PT X (.Compare a [copOf op] [b] pos) (LT T H0 fun σ G Q => ta σ G fun x G1 => tb σ G1 fun y G2 => cmpW op x y G2 Q) := by
  refine PT.imp (pt_cmpR (or_cmp hK hw hu op) ha hb hm) ?_
  rintro σ H Q ⟨σd, G, Q2, x0, sr, g, h, k⟩
  refine ⟨σd, G, _, x0, sr, g, h, fun d G1 v H1 q x1 dv g1 => ⟨σd, G1, _, x0.trans x1, sr.mono x1, g1, q, fun e G2 v2 H2 q2 x2 dv2 g2 => ?_⟩⟩
  refine ⟨d, e, G2, fun r G' => match r with | .bl b => Q2 b G' | _ => False, dv.mono x2, dv2, g2, q2, ?_⟩
  intro r G3 v3 H3 q3 x3 dv3 g3
  cases dv3 with
  | bl b => exact ⟨b, rfl, k b G3 H3 q3 ((x1.trans x2).trans x3) g3⟩
  | _ => exact q3.elim
theorem l_neg (ha : PE X a (LE T H0 ta)) : PE X (.UnaryOp .USub a pos) (LE T H0 fun σ G Q => ta σ G fun x G1 => match x with | .int i => Q (.int (-i)) G1 | _ => False) := by
  refine PE.imp (pe_un un_neg ha) ?_
  rintro σ H Q ⟨σd, G, Q2, x0, sr, g, h, k⟩
  refine ⟨σd, G, _, x0, sr, g, h, fun d G1 v H1 q x1 dv g1 => ?_⟩
  cases dv with
  | int i => exact ⟨i, rfl, k _ _ _ _ q x1 (.int _) g1⟩
  | _ => exact q.elim
theorem l_idx (hK : X.K = T.K) (hw : X.w = T.w) (hu : X.A.units + 64 < cLine) (ha : PE X a (LE T H0 ta)) (hb : PE X b (LE T H0 tb)) (hs : PlainIx b) : PE X (.Subscript a b pos) (LE T H0 fun σ G Q => ta σ G fun x G1 => tb σ G1 fun y G2 => idxW x y G2 Q) :=
  PE.imp (pe_ix (ix_any hK hw hu) ha hb hs) (l_two fun _ _ _ _ h => h)
theorem l_chain {op op' : Cop} : ∀ σ H Q, LE T H0 (fun σ G Q => ta σ G fun x G1 => tb σ G1 fun y G2 => cmpW op x y G2 fun k G3 => if k = true then tc σ G3 fun z G4 => cmpW op' y z G4 fun k' G5 => Q (.bl k') G5 else Q (.bl false) G3) σ H Q →
    tChain (LR2 T fun x y G Q => cmpW op x y G fun k G' => Q (.bl k) G') (LR2 T fun x y G Q => cmpW op' x y G fun k G' => Q (.bl k) G') (LE T H0 ta) (LE T H0 tb) (LE T H0 tc) σ H Q := by
  rintro σ H Q ⟨σd, G, Q2, x0, sr, g, h, k⟩
  refine ⟨σd, G, _, x0, sr, g, h, fun d G1 v H1 q x1 dv g1 => ⟨σd, G1, _, x0.trans x1, sr.mono x1, g1, q, fun e G2 v2 H2 q2 x2 dv2 g2 => ?_⟩⟩
  have x2' := x1.trans x2
  refine ⟨d, e, G2, fun r G' => match r with | .bl b => (if b = true then tc σd G' fun z G4 => cmpW op' e z G4 fun k' G5 => Q2 (.bl k') G5 else Q2 (.bl false) G') | _ => False, dv.mono x2, dv2, g2, q2, ?_⟩
  intro r G3 v3 H3 q3 x3 dv3 g3
  cases dv3 with
  | bl b =>
    refine ⟨b, rfl, ?_⟩
    cases b with
    | true =>
      simp only [if_true] at q3 ⊢
      refine ⟨σd, G3, _, x0.trans (x2'.trans x3), sr.mono (x2'.trans x3), g3, q3, fun z G4 v4 H4 q4 x4 dv4 g4 => ?_⟩
      exact ⟨e, z, G4, Q2, dv2.mono (x3.trans x4), dv4, g4, q4, fun r G5 v5 H5 q5 x5 dv5 g5 => k r G5 v5 H5 q5 (((x2'.trans x3).trans x4).trans x5) dv5 g5⟩
    | false =>
      simp only [Bool.false_eq_true, if_false] at q3 ⊢
      exact k _ _ _ _ q3 (x2'.trans x3) (.bl false) g3
  | _ => exact q3.elim
theorem l_chn (hK : X.K = T.K) (hw : X.w = T.w) (hu : X.A.units + 64 < cLine) (op op' : Cop) (ha : PE X a (LE T H0 ta)) (hb : PE X b (LE T H0 tb)) (hc : PE X c (LE T H0 tc)) (hm : lastMarks [copOf op, copOf op'] [b, c] = false) :
    PE X (.Compare a [copOf op, copOf op'] [b, c] pos) (LE T H0 fun σ G Q => ta σ G fun x G1 => tb σ G1 fun y G2 => cmpW op x y G2 fun k G3 => if k = true then tc σ G3 fun z G4 => cmpW op' y z G4 fun k' G5 => Q (.bl k') G5 else Q (.bl false) G3) :=
  PE.imp (pe_chain (or_cmp hK hw hu op) (or_cmp hK hw hu op') ha hb hc hm) l_chain
theorem lt_chn (hK : X.K = T.K) (hw : X.w = T.w) (hu : X.A.units + 64 < cLine) (op op' : Cop) (ha : PE X a (LE T H0 ta)) (hb : PE X b (LE T H0 tb)) (hc : PE X c (LE T H0 tc)) (hm : lastMarks [copOf op, copOf op'] [b, c] = false) :
    PT X (.Compare a [copOf op, copOf op'] [b, c] pos) (LT T H0 fun σ G Q => ta σ G fun x G1 => tb σ G1 fun y G2 => cmpW op x y G2 fun k G3 => if k = true then tc σ G3 fun z G4 => cmpW op' y z G4 Q else Q false G3) := by
  refine PT.imp (pt_chain (or_cmp hK hw hu op) (or_cmp hK hw hu op') ha hb hc hm) ?_
  rintro σ H Q ⟨σd, G, Q2, x0, sr, g, h, k⟩
  refine l_chain σ H _ ⟨σd, G, fun r G' => match r with | .bl b => Q2 b G' | _ => False, x0, sr, g, h, fun r G' v H' q x dv g' => ?_⟩
  cases dv with
  | bl b => exact ⟨b, rfl, k b G' H' q x g'⟩
  | _ => exact q.elim
/-! ### and, or, not, if: as values -/
theorem l_and {rest : List Expr} (hK : X.K = T.K) (ha : PE X a (LE T H0 ta)) (hb : PE X (.BoolOp .And (b :: rest) pos) (LE T H0 tb)) : PE X (.BoolOp .And (a :: b :: rest) pos) (LE T H0 fun σ G Q => ta σ G fun x G1 => match D.truth G1 x with
    | some k => if k = true then tb σ G1 Q else Q x G1
    | none => False) := by
  refine PE.imp (pe_andT ha hb) ?_
  rintro σ H Q ⟨σd, G, Q2, x0, sr, g, h, k⟩
  refine ⟨σd, G, _, x0, sr, g, h, fun d G1 v H1 q x1 dv g1 => ?_⟩
  split at q
  · rename_i t ht
    refine ⟨t, truth_V hK g1 dv ht, ?_⟩
    cases t with
    | true =>
      simp only [if_true] at q ⊢
      exact ⟨σd, G1, Q2, x0.trans x1, sr.mono x1, g1, q, fun d G2 v H2 q2 x2 dv2 g2 => k d G2 v H2 q2 (x1.trans x2) dv2 g2⟩
    | false =>
      simp only [Bool.false_eq_true, if_false] at q ⊢
      exact k _ _ _ _ q x1 dv g1
  · exact q.elim
theorem l_or {rest : List Expr} (hK : X.K = T.K) (ha : PE X a (LE T H0 ta)) (hb : PE X (.BoolOp .Or (b :: rest) pos) (LE T H0 tb)) : PE X (.BoolOp .Or (a :: b :: rest) pos) (LE T H0 fun σ G Q => ta σ G fun x G1 => match D.truth G1 x with
    | some k => if k = true then Q x G1 else tb σ G1 Q
    | none => False) := by
  refine PE.imp (pe_orT ha hb) ?_
  rintro σ H Q ⟨σd, G, Q2, x0, sr, g, h, k⟩
  refine ⟨σd, G, _, x0, sr, g, h, fun d G1 v H1 q x1 dv g1 => ?_⟩
  split at q
  · rename_i t ht
    refine ⟨t, truth_V hK g1 dv ht, ?_⟩
    cases t with
    | false =>
      simp only [Bool.false_eq_true, if_false] at q ⊢
      exact ⟨σd, G1, Q2, x0.trans x1, sr.mono x1, g1, q, fun d G2 v H2 q2 x2 dv2 g2 => k d G2 v H2 q2 (x1.trans x2) dv2 g2⟩
    | true =>
      simp only [if_true] at q ⊢
      exact k _ _ _ _ q x1 dv g1
  · exact q.elim
theorem l_not (hK : X.K = T.K) (ha : PE X a (LE T H0 ta)) : PE X (.UnaryOp .Not a pos) (LE T H0 fun σ G Q => ta σ G fun x G1 => match D.truth G1 x with
    | some k => Q (.bl (!k)) G1
    | none => False) := by
  refine PE.imp (pe_notT ha) ?_
  rintro σ H Q ⟨σd, G, Q2, x0, sr, g, h, k⟩
  refine ⟨σd, G, _, x0, sr, g, h, fun d G1 v H1 q x1 dv g1 => ?_⟩
  split at q
  · rename_i t ht
    exact ⟨t, truth_V hK g1 dv ht, k _ _ _ _ q x1 (.bl _) g1⟩
  · exact q.elim
theorem l_ite {tt : TT2} (hc : PT X c (LT T H0 tt)) (ha : PE X a (LE T H0 ta)) (hb : PE X b (LE T H0 tb)) : PE X (.IfExp c a b pos) (LE T H0 fun σ G Q => tt σ G fun k G1 => if k = true then ta σ G1 Q else tb σ G1 Q) := by
  refine PE.imp (pe_ifExp hc ha hb) ?_
  rintro σ H Q ⟨σd, G, Q2, x0, sr, g, h, k⟩
  refine ⟨σd, G, _, x0, sr, g, h, fun d G1 H1 q x1 g1 => ?_⟩
  cases d with
  | true =>
    simp only [if_true] at q ⊢
    exact ⟨σd, G1, Q2, x0.trans x1, sr.mono x1, g1, q, fun d G2 v H2 q2 x2 dv2 g2 => k d G2 v H2 q2 (x1.trans x2) dv2 g2⟩
  | false =>
    simp only [Bool.false_eq_true, if_false] at q ⊢
    exact ⟨σd, G1, Q2, x0.trans x1, sr.mono x1, g1, q, fun d G2 v H2 q2 x2 dv2 g2 => k d G2 v H2 q2 (x1.trans x2) dv2 g2⟩
/-! ### tests -/
theorem lt_val (hK : X.K = T.K) (ha : PE X a (LE T H0 ta)) (he : ∀ whole, isTrue a X.env whole = (do let v ← whole; standAt a.pos; holding [v] (truthy v))) : PT X a (LT T H0 fun σ G Q => ta σ G fun x G1 => match D.truth G1 x with
    | some k => Q k G1
    | none => False) := by
  refine PT.imp (pt_truth ha he) ?_
  rintro σ H Q ⟨σd, G, Q2, x0, sr, g, h, k⟩
  refine ⟨σd, G, _, x0, sr, g, h, fun d G1 v H1 q x1 dv g1 => ?_⟩
  split at q
  · rename_i t ht
    exact ⟨t, truth_V hK g1 dv ht, k _ _ _ q x1 g1⟩
  · exact q.elim
theorem lt_not {tt : TT2} (ha : PT X a (LT T H0 tt)) : PT X (.UnaryOp .Not a pos) (LT T H0 fun σ G Q => tt σ G fun k G1 => Q (!k) G1) := by
  refine PT.imp (pt_not ha) ?_
  rintro σ H Q ⟨σd, G, Q2, x0, sr, g, h, k⟩
  exact ⟨σd, G, _, x0, sr, g, h, fun d G1 H1 q x1 g1 => k _ _ _ q x1 g1⟩
theorem lw_and1 {tt : TT2} (ha : PT X a (LT T H0 tt)) : PW X (.BoolOp .And [a] pos) (LT T H0 tt) := pw_and1 ha
theorem lw_or1 {tt : TT2} (ha : PT X a (LT T H0 tt)) : PW X (.BoolOp .Or [a] pos) (LT T H0 tt) := pw_or1 ha
theorem lw_and {rest : List Expr} {tt uu : TT2} (ha : PT X a (LT T H0 tt)) (hb : PW X (.BoolOp .And (b :: rest) pos) (LT T H0 uu)) : PW X (.BoolOp .And (a :: b :: rest) pos) (LT T H0 fun σ G Q => tt σ G fun k G1 => if k = true then uu σ G1 Q else Q false G1) := by
  refine PW.imp (pw_and ha hb) ?_
  rintro σ H Q ⟨σd, G, Q2, x0, sr, g, h, k⟩
  refine ⟨σd, G, _, x0, sr, g, h, fun d G1 H1 q x1 g1 => ?_⟩
  cases d with
  | true =>
    simp only [if_true] at q ⊢
    exact ⟨σd, G1, Q2, x0.trans x1, sr.mono x1, g1, q, fun d G2 H2 q2 x2 g2 => k d G2 H2 q2 (x1.trans x2) g2⟩
  | false =>
    simp only [Bool.false_eq_true, if_false] at q ⊢
    exact k _ _ _ q x1 g1
theorem lw_or {rest : List Expr} {tt uu : TT2} (ha : PT X a (LT T H0 tt)) (hb : PW X (.BoolOp .Or (b :: rest) pos) (LT T H0 uu)) : PW X (.BoolOp .Or (a :: b :: rest) pos) (LT T H0 fun σ G Q => tt σ G fun k G1 => if k = true then Q true G1 else uu σ G1 Q) := by
  refine PW.imp (pw_or ha hb) ?_
  rintro σ H Q ⟨σd, G, Q2, x0, sr, g, h, k⟩
  refine ⟨σd, G, _, x0, sr, g, h, fun d G1 H1 q x1 g1 => ?_⟩
  cases d with
  | false =>
    simp only [Bool.false_eq_true, if_false] at q ⊢
    exact ⟨σd, G1, Q2, x0.trans x1, sr.mono x1, g1, q, fun d G2 H2 q2 x2 g2 => k d G2 H2 q2 (x1.trans x2) g2⟩
  | true =>
    simp only [if_true] at q ⊢
    exact k _ _ _ q x1 g1
theorem lt_ite {tc ta tb : TT2} (hc : PT X c (LT T H0 tc)) (ha : PT X a (LT T H0 ta)) (hb : PT X b (LT T H0 tb)) : PT X (.IfExp c a b pos) (LT T H0 fun σ G Q => tc σ G fun k G1 => if k = true then ta σ G1 Q else tb σ G1 Q) := by
  refine ⟨fun pins s σ H Q I h => ?_⟩
  obtain ⟨σd, G, Q2, x0, sr, g, h, k⟩ := h
  show wpAny _ _ (do if ← isTrue c X.env (eval c X.env) then isTrue a X.env (eval a X.env) else isTrue b X.env (eval b X.env)) _ _ s
  refine wpAny_bind (thn (hc.run pins s σ H (fun d H1 => if d = true then LT T H0 ta σ H1 Q else LT T H0 tb σ H1 Q) I ⟨σd, G, _, x0, sr, g, h, fun d G1 H1 q x1 g1 => ?_⟩) fun d s1 ⟨H1, I1, q1⟩ => ?_)
  · cases d with
    | true =>
      simp only [if_true] at q ⊢
      exact ⟨σd, G1, Q2, x0.trans x1, sr.mono x1, g1, q, fun d G2 H2 q2 x2 g2 => k d G2 H2 q2 (x1.trans x2) g2⟩
    | false =>
      simp only [Bool.false_eq_true, if_false] at q ⊢
      exact ⟨σd, G1, Q2, x0.trans x1, sr.mono x1, g1, q, fun d G2 H2 q2 x2 g2 => k d G2 H2 q2 (x1.trans x2) g2⟩
  · cases d with
    | true => exact ha.run pins s1 σ H1 Q I1 q1
    | false => exact hb.run pins s1 σ H1 Q I1 q1
/-! ### arguments, displays -/
theorem la_nil : PA X [] (LA T H0 fun _ G Q => Q [] G) := PA.imp pa_nil fun σ H Q ⟨σd, G, Q2, x0, sr, g, h, k⟩ => k [] G [] H h (.refl H) .nil g
theorem la_cons {es : List Expr} {tr : TA2} (ha : PE X e (LE T H0 ta)) (hr : PA X es (LA T H0 tr)) (hs : starEach (e :: es) X.env = (false, eval e X.env) :: starEach es X.env) :
    PA X (e :: es) (LA T H0 fun σ G Q => ta σ G fun d G1 => tr σ G1 fun ds G2 => Q (d :: ds) G2) := by
  refine PA.imp (pa_cons ha hr hs) ?_
  rintro σ H Q ⟨σd, G, Q2, x0, sr, g, h, k⟩
  refine ⟨σd, G, _, x0, sr, g, h, fun d G1 v H1 q x1 dv g1 => ⟨σd, G1, _, x0.trans x1, sr.mono x1, g1, q, fun ds G2 vs H2 q2 x2 dv2 g2 => ?_⟩⟩
  exact k _ _ _ _ q2 (x1.trans x2) (.cons (dv.mono x2) dv2) g2
theorem l_tup {es : List Expr} {x1 : Nat} {tr : TA2} (h : PA X es (LA T H0 tr)) : PE X (.Tuple es x1 pos) (LE T H0 fun σ G Q => tr σ G fun ds G1 => ds.length ≤ line ∧ Q (.tup ds) G1) := by
  refine PE.imp (pe_tup h) ?_
  rintro σ H Q ⟨σd, G, Q2, x0, sr, g, h, k⟩
  refine ⟨σd, G, _, x0, sr, g, h, fun ds G1 vs H1 q x1 dv g1 => ⟨by rw [← line_eq, dv.length]; exact q.1, fun p hp => ?_⟩⟩
  exact k _ _ _ _ q.2 (x1.trans (.new hp)) (.tup (SqT.of upd_same) (dv.mono (.new hp))) (g1.new hp)
theorem l_lst {es : List Expr} {tr : TA2} (h : PA X es (LA T H0 tr)) : PE X (.List es pos) (LE T H0 fun σ G Q => tr σ G fun ds G1 => ds.length ≤ line ∧ ∀ p, G1 p = none → Q (.ref p) (up G1 p (.lst ds))) := by
  refine PE.imp (pe_lst h) ?_
  rintro σ H Q ⟨σd, G, Q2, x0, sr, g, h, k⟩
  refine ⟨σd, G, _, x0, sr, g, h, fun ds G1 vs H1 q x1 dv g1 => ⟨by rw [← line_eq, dv.length]; exact q.1, fun p hp => ?_⟩⟩
  exact k _ _ _ _ (q.2 p (g1.free hp)) (x1.trans (.new hp)) (.ref p) (g1.add hp ⟨_, upd_same, dv.mono (.new hp)⟩)
/-! ### slices -/
def LO (T : Wd) (H0 : Hp) (t : AT.St → Gp → (Option Int → Gp → Prop) → Prop) : TO := fun σ H Q => ∃ (σd : AT.St) (G : Gp) (Q2 : Option Int → Gp → Prop), Xt H0 H ∧ SR T H σ σd ∧ GR T G H ∧ t σd G Q2 ∧
  ∀ o G' H', Q2 o G' → Xt H H' → GR T G' H' → Q o H'
theorem lo_no : PO X none (LO T H0 fun _ G Q => Q none G) := by
  refine ⟨fun pins s σ H Q I h => po_none.run pins s σ H Q I ?_⟩
  obtain ⟨σd, G, Q2, x0, sr, g, h, k⟩ := h
  exact k _ _ _ h (.refl H) g
theorem lo_so (ha : PE X a (LE T H0 ta)) : PO X (some a) (LO T H0 fun σ G Q => ta σ G fun d G1 => match d with | .int i => Q (some i) G1 | _ => False) := by
  refine ⟨fun pins s σ H Q I h => (po_some ha).run pins s σ H Q I ?_⟩
  obtain ⟨σd, G, Q2, x0, sr, g, h, k⟩ := h
  refine ⟨σd, G, _, x0, sr, g, h, fun d G1 v H1 q x1 dv g1 => ?_⟩
  cases dv with
  | int i => exact ⟨i, rfl, k _ _ _ q x1 g1⟩
  | _ => exact q.elim
theorem l_sli {lo hi : Option Expr} {p2 : Pos} {tl th : AT.St → Gp → (Option Int → Gp → Prop) → Prop} (hK : X.K = T.K) (ha : PE X a (LE T H0 ta)) (hl : PO X lo (LO T H0 tl)) (hh : PO X hi (LO T H0 th)) :
    PE X (.Subscript a (.Slice lo hi none p2) pos) (LE T H0 fun σ G Q => ta σ G fun x G1 => tl σ G1 fun l G2 => th σ G2 fun h G3 => sliW x l h G3 Q) := by
  refine PE.imp (pe_slice (sl_any hK) ha hl hh) ?_
  rintro σ H Q ⟨σd, G, Q2, x0, sr, g, h, k⟩
  refine ⟨σd, G, _, x0, sr, g, h, fun d G1 v H1 q x1 dv g1 => ⟨σd, G1, _, x0.trans x1, sr.mono x1, g1, q, fun l G2 H2 q2 x2 g2 => ⟨σd, G2, _, x0.trans (x1.trans x2), sr.mono (x1.trans x2), g2, q2, fun u G3 H3 q3 x3 g3 => ?_⟩⟩⟩
  exact ⟨d, G3, Q2, dv.mono (x2.trans x3), g3, q3, fun r G4 v4 H4 q4 x4 dv4 g4 => k _ _ _ _ q4 (((x1.trans x2).trans x3).trans x4) dv4 g4⟩
end
end AT
end
section
set_option maxHeartbeats 4000000
/-! AT9: fields, calls. -/
namespace AT
open PySem PySem.Spec PyProof.Rows L2 SeqAt

/-- no starred item -/
def Pl (env : Env) : List Expr → Prop
  | [] => True
  | e :: es => starEach (e :: es) env = (false, eval e env) :: starEach es env ∧ Pl env es
theorem Pl.any {env : Env} {pos : Pos} : ∀ {es : List Expr}, Pl env es → (backTo pos (starEach es env)).any (·.1) = false
  | [], _ => rfl
  | e :: es, ⟨h, r⟩ => by
    rw [h]
    show (false || (backTo pos (starEach es env)).any (·.1)) = false
    rw [r.any, Bool.false_or]
theorem Pl.all {env : Env} {pos : Pos} : ∀ {es : List Expr}, Pl env es → (backTo pos (starEach es env)).all (fun x => !x.1) = true
  | [], _ => rfl
  | e :: es, ⟨h, r⟩ => by
    rw [h]
    show (!false && (backTo pos (starEach es env)).all (fun x => !x.1)) = true
    rw [r.all]
    rfl

/-- a field: its name, its place among the fields -/
def FldN (T : Wd) (f : Nat) : Prop := ∀ g, T.nm g = T.nm f → g = f
theorem FldR.get {T : Wd} {H : Hp} {f : Nat} {d : D} (inj : FldN T f) : ∀ {vfs : List (Str × V)} {fs : List (Nat × D)}, FldR T H vfs fs → fld fs f = some d → ∃ v, vfs.lookup (T.nm f) = some v ∧ DV T.K T.fa H v d
  | _, _, .nil, e => by simp [fld] at e
  | (n, v) :: vfs, (g, d') :: fs, .cons ⟨h1, h2⟩ r, e => by
    have h1 : n = T.nm g := h1
    have h2 : DV T.K T.fa H v d' := h2
    by_cases hg : g = f
    · subst hg
      subst h1
      have : d' = d := by simpa [fld] using e
      subst this
      exact ⟨v, by simp, h2⟩
    · have hn : (T.nm f == n) = false := by
        rw [h1]
        exact beq_eq_false_iff_ne.mpr fun z => hg (inj g z.symm)
      have e' : fld fs f = some d := by
        unfold fld at e ⊢
        rw [List.lookup_cons] at e
        have : (f == g) = false := beq_eq_false_iff_ne.mpr (Ne.symm hg)
        rw [this] at e
        exact e
      obtain ⟨w, q1, q2⟩ := FldR.get inj r e'
      exact ⟨w, by rw [List.lookup_cons, hn]; exact q1, q2⟩
theorem FldR.no {T : Wd} {H : Hp} {m : Str} (hm : ∀ g, T.nm g ≠ m) : ∀ {vfs : List (Str × V)} {fs : List (Nat × D)}, FldR T H vfs fs → vfs.lookup m = none
  | _, _, .nil => rfl
  | (n, v) :: vfs, (g, d') :: fs, .cons ⟨h1, h2⟩ r => by
    have h1 : n = T.nm g := h1
    rw [List.lookup_cons, show (m == n) = false from beq_eq_false_iff_ne.mpr fun z => hm g (h1.symm.trans z.symm)]
    exact FldR.no hm r
theorem FldR.put {T : Wd} {H : Hp} {f : Nat} {d : D} {v : V} (inj : FldN T f) (hv : DV T.K T.fa H v d) : ∀ {vfs : List (Str × V)} {fs : List (Nat × D)}, FldR T H vfs fs → FldR T H (L2.putF (T.nm f) v vfs) (AT.putF f d fs)
  | _, _, .nil => .cons ⟨rfl, hv⟩ .nil
  | (n, w) :: vfs, (g, d') :: fs, .cons ⟨h1, h2⟩ r => by
    have h1 : n = T.nm g := h1
    unfold L2.putF AT.putF
    by_cases hg : g = f
    · subst hg
      rw [if_pos h1, if_pos rfl]
      exact .cons ⟨by first | exact h1 | rfl, hv⟩ r
    · rw [if_neg (fun z => hg (inj g (h1.symm.trans z))), if_neg hg]
      exact .cons ⟨h1, h2⟩ (FldR.put inj hv r)
theorem FldR.len {T : Wd} {H : Hp} {vfs : List (Str × V)} {fs : List (Nat × D)} (h : FldR T H vfs fs) : vfs.length = fs.length := Paired.length h

/-- classes with their instances, a field's number -/
structure ClsOk (T : Wd) : Prop where
  cls : ∀ c C, T.ca c = some C → L2.Cls T.K C
def NoA (T : Wd) (f : Nat) : Prop := FldN T f ∧ ∀ c C, T.ca c = some C → NoAttr T.K C (T.nm f)

section
variable {T : Wd} {X : Cx} {H0 : Hp} {a b c e o : Expr} {es : List Expr} {pos apos : Pos} {ta tb tc : TE2} {tr : TA2} {F : Orc} {E : KX} {k : Nat}
/-- run an expression, its arguments -/
theorem PE.go (h : PE X e (LE T H0 ta)) {pins : List (Addr × Obj)} {s : Shared} {σ : L2.St} {H : Hp} {σd : AT.St} {G : Gp} {Q : KE} (I : Inv X pins σ H s) (x0 : Xt H0 H) (sr : SR T H σ σd) (g : GR T G H) (q : ta σd G Q) :
    wpAny (model X.prog X.w) X.A (eval e X.env) (fun u s1 => ∃ d G1 v H1, Q d G1 ∧ Xt H H1 ∧ DV T.K T.fa H1 v d ∧ GR T G1 H1 ∧ Inv X pins σ H1 s1 ∧ RelV v u) X.xe s :=
  thn (h.run pins s σ H (fun v H1 => ∃ d G1, Q d G1 ∧ Xt H H1 ∧ DV T.K T.fa H1 v d ∧ GR T G1 H1) I ⟨σd, G, Q, x0, sr, g, q, fun d G' v H' q x dv g' => ⟨d, G', q, x, dv, g'⟩⟩) fun u s1 ⟨v, H1, I1, rx, d, G1, q, x1, dv, g1⟩ => ⟨d, G1, v, H1, q, x1, dv, g1, I1, rx⟩
theorem PA.go (h : PA X es (LA T H0 tr)) {pos : Pos} {pins : List (Addr × Obj)} {s : Shared} {σ : L2.St} {H : Hp} {σd : AT.St} {G : Gp} {Q : List D → Gp → Prop} (I : Inv X pins σ H s) (x0 : Xt H0 H) (sr : SR T H σ σd) (g : GR T G H) (q : tr σd G Q) :
    wpAny (model X.prog X.w) X.A (spliced (backTo pos (starEach es X.env))) (fun us s1 => ∃ ds G1 vs H1, Q ds G1 ∧ Xt H H1 ∧ DVs T.K T.fa H1 vs ds ∧ GR T G1 H1 ∧ Inv X pins σ H1 s1 ∧ Vals vs us) X.xe s :=
  thn (h.run pos pins s σ H (fun v H1 => ∃ d G1, Q d G1 ∧ Xt H H1 ∧ DVs T.K T.fa H1 v d ∧ GR T G1 H1) I ⟨σd, G, Q, x0, sr, g, q, fun d G' v H' q x dv g' => ⟨d, G', q, x, dv, g'⟩⟩) fun u s1 ⟨v, H1, I1, rx, d, G1, q, x1, dv, g1⟩ => ⟨d, G1, v, H1, q, x1, dv, g1, I1, rx⟩
theorem l_att {f : Nat} (hK : X.K = T.K) (hc : ClsOk T) (hn : NoA T f) (ho : PE X o (LE T H0 ta)) (hb : attributeBase o (T.nm f) X.env (eval o X.env) = eval o X.env) :
    PE X (.Attribute o (T.nm f) pos) (LE T H0 fun σ G Q => ta σ G fun x G1 => match x with
    | .ref a => match G1 a with
      | some (.ins _ fs) => match fld fs f with
        | some d => Q d G1
        | none => False
      | _ => False
    | _ => False) := by
  refine PE.imp (pe_fld ho hb) ?_
  rintro σ H Q ⟨σd, G, Q2, x0, sr, g, h, k⟩
  refine ⟨σd, G, _, x0, sr, g, h, fun d G1 v H1 q x1 dv g1 => ?_⟩
  cases dv with
  | ref a =>
    simp only at q
    split at q
    · rename_i c fs ha
      split at q
      · rename_i d hd
        obtain ⟨C, dx, vfs, h1, h2, h3⟩ := g1 a _ ha
        obtain ⟨v, v1, v2⟩ := h3.get hn.1 hd
        exact ⟨a, C, dx, vfs, v, rfl, h2, by rw [hK]; exact hc.cls _ _ h1, by rw [hK]; exact hn.2 _ _ h1, v1, k _ _ _ _ q x1 v2 g1⟩
      · exact q.elim
    · exact q.elim
  | _ => exact q.elim

/-! ### calls -/
/-- a def in its place -/
structure FnAt (T : Wd) (w : List D → Gp → KE → KX → Prop) (n : Nat) (k : Nat) (a : Addr) : Prop where
  ex : ∃ fd ps, FnOk T.P T.w T.K T.mg T.base (L2.CX T.P T.w) k a fd ps (LSp T w n) ∧ Binds T.K fd ps []
  kp : PySem.W.keepIn T.K (.ref a) = true
  len : ∀ ds G Q E, w ds G Q E → ds.length = n
/-- the context stands in the world -/
structure Stands (T : Wd) (X : Cx) : Prop where
  K : X.K = T.K
  w : X.w = T.w
  P : X.prog = T.P
  mg : X.mg = T.mg
  base : X.base = T.base
/-- from the arguments to the promise -/
theorem LSp.of {w : List D → Gp → KE → KX → Prop} {n : Nat} {ds : List D} {G G0 : Gp} {vs : List V} {H H1 : Hp} {Q : VK} {Q2 : KE} (len : ∀ ds G Q E, w ds G Q E → ds.length = n) (x0 : Xt H0 H) (x1 : Xt H H1) (dv : DVs T.K T.fa H1 vs ds) (g : GR T G H1) (h : w ds G Q2 E)
    (k : ∀ d G' v H', Q2 d G' → Xt H H' → DV T.K T.fa H' v d → GR T G' H' → Q v H') : LSp T w n vs H1 Q (LX T H0 E) :=
  ⟨ds, G, Q2, E, dv, len _ _ _ _ h, g, h, fun d G' v H' q x dv g => k d G' v H' q (x1.trans x) dv g, fun x G' cls dd H' e x' ev g' => ⟨x, G', e, (x0.trans x1).trans x', ev, g'⟩⟩
theorem FnAt.on (st : Stands T X) {w : List D → Gp → KE → KX → Prop} {n : Nat} {fa : Addr} (h : FnAt T w n k fa) : ∃ fd ps, FnOk X.prog X.w X.K X.mg X.base (L2.CX X.prog X.w) k fa fd ps (LSp T w n) ∧ Binds X.K fd ps [] ∧ PySem.W.keepIn X.K (.ref fa) = true := by
  obtain ⟨fd, ps, h1, h2⟩ := h.ex
  have k1 := h.kp
  rw [st.K, st.w, st.P, st.mg, st.base]
  exact ⟨fd, ps, h1, h2, k1⟩
variable {w : List D → Gp → KE → KX → Prop} {n : Nat} {fa C : Addr} {x m : Str} {p : Pos}
theorem l_call (st : Stands T X) (hf : FnAt T w n k fa) (hr : Room k X.A) (hg : Gl X x) (hm : T.mg x = some (.ref fa)) (hdb : (x == ("__debug__" : Str)) = false) (hx : Passes (L2.CX X.prog X.w) X (LX T H0 E))
    (ha : PA X (e :: es) (LA T H0 tr)) (pl : Pl X.env (e :: es)) : PE X (.Call (.Name x p) (e :: es) [] pos) (LE T H0 fun σ G Q => tr σ G fun ds G1 => w ds G1 Q E) := by
  obtain ⟨fd, ps, h1, h2, h3⟩ := hf.on st
  have hm' : X.mg x = some (.ref fa) := by rw [st.mg]; exact hm
  refine PE.imp (pe_call (pos := pos) (p := p) h1 hr hg hm' h3 h2 .nil hx ha hdb pl.1 pl.2.any) ?_
  rintro σ H Q ⟨σd, G, Q2, x0, sr, g, h, k⟩
  refine ⟨σd, G, _, x0, sr, g, h, fun ds G1 vs H1 q x1 dv g1 => ?_⟩
  show LSp T w n (vs ++ []) H1 Q (LX T H0 E)
  rw [List.append_nil]
  exact LSp.of (G0 := G) hf.len x0 x1 dv g1 q k
theorem l_call0 (st : Stands T X) (hf : FnAt T w n k fa) (hr : Room k X.A) (hg : Gl X x) (hm : T.mg x = some (.ref fa)) (hdb : (x == ("__debug__" : Str)) = false) (hx : Passes (L2.CX X.prog X.w) X (LX T H0 E)) :
    PE X (.Call (.Name x p) [] [] pos) (LE T H0 fun _ G Q => w [] G Q E) := by
  obtain ⟨fd, ps, h1, h2, h3⟩ := hf.on st
  have hm' : X.mg x = some (.ref fa) := by rw [st.mg]; exact hm
  refine PE.imp (pe_call0 (pos := pos) (p := p) h1 hr hg hm' h3 h2 .nil hx hdb) ?_
  rintro σ H Q ⟨σd, G, Q2, x0, sr, g, h, k⟩
  exact LSp.of (G0 := G) hf.len x0 (.refl H) .nil g h k

/-- o.m(..): every class that an instance may have -/
structure MethAt (T : Wd) (C : Cls) (F : Orc) (ar : Nat → Nat) (m : Nat) (ms : Str) (k : Nat) : Prop where
  no : ∀ g, T.nm g ≠ ms
  at_ : ∀ c f, C.meth c m = some f → ∀ A, T.ca c = some A → ∃ fa, Meth T.K A ms fa ∧ FnAt T (F f) (ar f) k fa
theorem l_meth {C : Cls} {ar : Nat → Nat} {m : Nat} {ms : Str} {pl : Sem Bool} (st : Stands T X) (hc : ClsOk T) (hf : MethAt T C F ar m ms k) (hr : Room k X.A) (hx : Passes (L2.CX X.prog X.w) X (LX T H0 E)) (ho : PE X o (LE T H0 ta))
    (ha : PA X (e :: es) (LA T H0 tr)) (pl1 : Pl X.env (e :: es))
    (ht : eval (.Call (.Attribute o ms apos) (e :: es) [] pos) X.env = (do
      let ov ← eval o X.env
      standAt apos.atName
      let (f, first) ← holding [ov] (getMethod ov ms pl)
      callWith pos f first (backTo pos (starEach (e :: es) X.env)) (backToKw pos (keywordEach [] X.env)))) :
    PE X (.Call (.Attribute o ms apos) (e :: es) [] pos) (LE T H0 fun σ G Q => ta σ G fun x G1 => match x with
    | .ref a => match G1 a with
      | some (.ins c fs) => match C.meth c m with
        | some f => tr σ G1 fun ds G2 => F f (.ref a :: ds) G2 Q E
        | none => False
      | _ => False
    | _ => False) := by
  refine ⟨fun pins s σ H Q I h => ?_⟩
  obtain ⟨σd, G, Q2, x0, sr, g, h, k⟩ := h
  refine PySem.W.methodCall_KW (pl := pl) (thn (PE.go ho I x0 sr g h) fun u s1 ⟨d, G1, v, H1, q, x1, dv, g1, I1, rx⟩ => ?_) ht
  cases dv with
  | ref a =>
    simp only at q
    split at q
    · rename_i c fs ha'
      split at q
      · rename_i f hm
        obtain ⟨A, dx, vfs, c1, c2, c3⟩ := g1 a _ ha'
        obtain ⟨fa, mt, fn⟩ := hf.at_ c f hm A c1
        obtain ⟨fd, ps, f1, f2, f3⟩ := fn.on st
        obtain rfl : u = Value.ref a := rx
        refine getmeth_ok I1 c2 (by rw [st.K]; exact hc.cls _ _ c1) (by rw [st.K]; exact mt) (c3.no hf.no) ?_
        refine PySem.W.callWith_K (first := [.ref a]) (h₀ := X.base) I.ok.mod.kin f3 (thn (PA.go ha I1 (x0.trans x1) (sr.mono x1) g1 q) fun us s2 ⟨ds, G2, vs, H2, q2, x2, dv2, g2, I2, r⟩ => ⟨I2.kIn, ?_⟩) pl1.1 pl1.2.any
        refine run_fn (us := .ref a :: us) (vs := .ref a :: vs) f1 hr f2 .nil hx I2 (.cons rfl r) ?_
        rw [List.append_nil]
        exact LSp.of (G0 := G) fn.len x0 (x1.trans x2) (.cons (.ref a) dv2) g2 q2 k
      · exact q.elim
    · exact q.elim
  | _ => exact q.elim
theorem l_meth0 {C : Cls} {ar : Nat → Nat} {m : Nat} {ms : Str} {pl : Sem Bool} (st : Stands T X) (hc : ClsOk T) (hf : MethAt T C F ar m ms k) (hr : Room k X.A) (hx : Passes (L2.CX X.prog X.w) X (LX T H0 E)) (ho : PE X o (LE T H0 ta))
    (ht : eval (.Call (.Attribute o ms apos) [] [] pos) X.env = (do
      let ov ← eval o X.env
      standAt apos.atName
      let (f, first) ← holding [ov] (getMethod ov ms pl)
      callWith pos f first (backTo pos (starEach [] X.env)) (backToKw pos (keywordEach [] X.env)))) :
    PE X (.Call (.Attribute o ms apos) [] [] pos) (LE T H0 fun σ G Q => ta σ G fun x G1 => match x with
    | .ref a => match G1 a with
      | some (.ins c fs) => match C.meth c m with
        | some f => F f [.ref a] G1 Q E
        | none => False
      | _ => False
    | _ => False) := by
  refine ⟨fun pins s σ H Q I h => ?_⟩
  obtain ⟨σd, G, Q2, x0, sr, g, h, k⟩ := h
  refine PySem.W.methodCall_KW (pl := pl) (thn (PE.go ho I x0 sr g h) fun u s1 ⟨d, G1, v, H1, q, x1, dv, g1, I1, rx⟩ => ?_) ht
  cases dv with
  | ref a =>
    simp only at q
    split at q
    · rename_i c fs ha'
      split at q
      · rename_i f hm
        obtain ⟨A, dx, vfs, c1, c2, c3⟩ := g1 a _ ha'
        obtain ⟨fa, mt, fn⟩ := hf.at_ c f hm A c1
        obtain ⟨fd, ps, f1, f2, f3⟩ := fn.on st
        obtain rfl : u = Value.ref a := rx
        refine getmeth_ok I1 c2 (by rw [st.K]; exact hc.cls _ _ c1) (by rw [st.K]; exact mt) (c3.no hf.no) ?_
        refine PySem.W.callWith_K0 (first := [.ref a]) I1.kIn f3 (run_fn (us := [.ref a]) (vs := [.ref a]) f1 hr f2 .nil hx I1 (.cons rfl .nil) ?_)
        exact LSp.of (G0 := G) fn.len x0 x1 (.cons (.ref a) .nil) g1 q k
      · exact q.elim
    · exact q.elim
  | _ => exact q.elim

/-! ### C(..) -/
theorem LSp.made {c : Nat} {C : Addr} {ds : List D} {G : Gp} {vs : List V} {H H1 : Hp} {Q : VK} {Q2 : KE} {pa dx : Addr} (hca : T.ca c = some C) (len : ∀ ds G Q E, w ds G Q E → ds.length = n) (x0 : Xt H0 H) (x1 : Xt H H1) (dv : DVs T.K T.fa H1 vs ds) (g : GR T G H1)
    (hp : H1 pa = none) (hd : H1 dx = none) (ne : dx ≠ pa)
    (h : ∀ p, G p = none → w (.ref p :: ds) (up G p (.ins c [])) (fun d G2 => d = .non ∧ Q2 (.ref p) G2) E)
    (k : ∀ d G' v H', Q2 d G' → Xt H H' → DV T.K T.fa H' v d → GR T G' H' → Q v H') :
    LSp T w n (.ref pa :: (vs ++ [])) (upd (upd H1 dx (.own pa)) pa (.ins C dx [])) (fun v H2 => v = .non ∧ Q (.ref pa) H2) (LX T H0 E) := by
  have hp1 : upd H1 dx (.own pa) pa = none := by rw [upd_ne (Ne.symm ne)]; exact hp
  have x2 : Xt H1 (upd (upd H1 dx (.own pa)) pa (.ins C dx [])) := (Xt.new hd).trans (.new hp1)
  rw [List.append_nil]
  have g2 : GR T (up G pa (.ins c [])) (upd (upd H1 dx (.own pa)) pa (.ins C dx [])) := (g.new hd).add hp1 ⟨C, dx, [], hca, upd_same, .nil⟩
  refine ⟨.ref pa :: ds, up G pa (.ins c []), _, E, .cons (.ref pa) (dv.mono x2), len _ _ _ _ (h pa (g.free hp)), g2, h pa (g.free hp), ?_, fun x G' cls dd H' e x' ev g' => ⟨x, G', e, ((x0.trans x1).trans x2).trans x', ev, g'⟩⟩
  rintro d G' v H' ⟨rfl, q⟩ x dv g'
  cases dv
  exact ⟨rfl, k _ _ _ _ q ((x1.trans x2).trans x) (.ref pa) g'⟩
theorem l_mk {c : Nat} (st : Stands T X) (hca : T.ca c = some C) (M : Mk T.K C fa) (hf : FnAt T w n k fa) (hr : Room (k + 1) X.A) (hg : Gl X x) (hm : T.mg x = some (.ref C)) (hdb : (x == ("__debug__" : Str)) = false) (hx : Passes (L2.CX X.prog X.w) X (LX T H0 E))
    (ha : PA X (e :: es) (LA T H0 tr)) (pl : Pl X.env (e :: es)) : PE X (.Call (.Name x p) (e :: es) [] pos) (LE T H0 fun σ G Q => tr σ G fun ds G1 => ∀ p, G1 p = none → w (.ref p :: ds) (up G1 p (.ins c [])) (fun d G2 => d = .non ∧ Q (.ref p) G2) E) := by
  obtain ⟨fd, ps, h1, h2, h3⟩ := hf.on st
  have hm' : X.mg x = some (.ref C) := by rw [st.mg]; exact hm
  have M' : Mk X.K C fa := by rw [st.K]; exact M
  refine PE.imp (pe_make (pos := pos) (p := p) M' h1 hr hg hm' h2 .nil hx ha hdb pl.1 pl.2.any) ?_
  rintro σ H Q ⟨σd, G, Q2, x0, sr, g, h, k⟩
  refine ⟨σd, G, _, x0, sr, g, h, fun ds G1 vs H1 q x1 dv g1 pa dx hp hd ne => ?_⟩
  exact LSp.made hca hf.len x0 x1 dv g1 hp hd ne q k
theorem l_mk0 {c : Nat} (st : Stands T X) (hca : T.ca c = some C) (M : Mk T.K C fa) (hf : FnAt T w n k fa) (hr : Room (k + 1) X.A) (hg : Gl X x) (hm : T.mg x = some (.ref C)) (hdb : (x == ("__debug__" : Str)) = false) (hx : Passes (L2.CX X.prog X.w) X (LX T H0 E)) :
    PE X (.Call (.Name x p) [] [] pos) (LE T H0 fun _ G Q => ∀ p, G p = none → w [.ref p] (up G p (.ins c [])) (fun d G2 => d = .non ∧ Q (.ref p) G2) E) := by
  obtain ⟨fd, ps, h1, h2, h3⟩ := hf.on st
  have hm' : X.mg x = some (.ref C) := by rw [st.mg]; exact hm
  have M' : Mk X.K C fa := by rw [st.K]; exact M
  refine PE.imp (pe_make0 (pos := pos) (p := p) M' h1 hr hg hm' h2 .nil hx hdb) ?_
  rintro σ H Q ⟨σd, G, Q2, x0, sr, g, h, k⟩
  intro pa dx hp hd ne
  exact LSp.made (vs := []) hca hf.len x0 (.refl H) .nil g hp hd ne h k

/-! ### f(k = ..) -/
/-- the keywords: names, values -/
def kwOf : List Str → List Expr → List Pos → List Keyword
  | n :: ns, e :: es, p :: ps => ⟨some n, e, p⟩ :: kwOf ns es ps
  | _, _, _ => []
/-- the keywords' values, in the order of writing -/
inductive LKw (T : Wd) (X : Cx) (H0 : Hp) : List Keyword → List Str → TA2 → Prop
  | nil : LKw T X H0 [] [] (fun _ G Q => Q [] G)
  | cons {nm : Str} {e : Expr} {kp : Pos} {kws : List Keyword} {ks : List Str} {ta : TE2} {tr : TA2} : PE X e (LE T H0 ta) → LKw T X H0 kws ks tr → LKw T X H0 (⟨some nm, e, kp⟩ :: kws) (nm :: ks) (fun σ G Q => ta σ G fun d G1 => tr σ G1 fun ds G2 => Q (d :: ds) G2)
theorem LKw.pk {kws : List Keyword} {ks : List Str} (h : LKw T X H0 kws ks tr) : PK X kws (LA T H0 tr) := by
  induction h with
  | nil =>
    refine ⟨fun pos pins s σ H Q I h => pk_nil.run pos pins s σ H Q I ?_⟩
    obtain ⟨σd, G, Q2, x0, sr, g, h, k⟩ := h
    exact k [] G [] H h (.refl H) .nil g
  | cons ha hr ih =>
    refine ⟨fun pos pins s σ H Q I h => (pk_cons ha ih).run pos pins s σ H Q I ?_⟩
    obtain ⟨σd, G, Q2, x0, sr, g, h, k⟩ := h
    refine ⟨σd, G, _, x0, sr, g, h, fun d G1 v H1 q x1 dv g1 => ⟨σd, G1, _, x0.trans x1, sr.mono x1, g1, q, fun ds G2 vs H2 q2 x2 dv2 g2 => ?_⟩⟩
    exact k _ _ _ _ q2 (x1.trans x2) (.cons (dv.mono x2) dv2) g2
theorem LKw.names {kws : List Keyword} {ks : List Str} (h : LKw T X H0 kws ks tr) (pos : Pos) : (backToKw pos (keywordEach kws X.env)).filterMap (·.1) = ks ∧ (backToKw pos (keywordEach kws X.env)).all (·.1.isSome) = true ∧ (backToKw pos (keywordEach kws X.env)).any (·.1.isNone) = false := by
  induction h with
  | nil => exact ⟨rfl, rfl, rfl⟩
  | @cons nm e kp kws ks ta tr ha hr ih =>
    have e1 : backToKw pos (keywordEach (⟨some nm, e, kp⟩ :: kws) X.env) = (some nm, do let v ← eval e X.env; standAt pos; pure v) :: backToKw pos (keywordEach kws X.env) := rfl
    rw [e1]
    refine ⟨?_, ?_, ?_⟩
    · rw [List.filterMap_cons]
      show nm :: _ = _
      rw [ih.1]
    · rw [List.all_cons, ih.2.1]; rfl
    · rw [List.any_cons, ih.2.2]; rfl
/-- how keywords alone are bound: to gives for each parameter its keyword's number -/
def KwOk (fd : FuncData) (ps ks : List Str) (to : List Nat) : Prop := ∀ (s : Shared) (ws : List Value), ws.length = ks.length → BindsTo s fd ⟨[], ks.zip ws⟩ (ps.zip (to.filterMap fun j => ws[j]?))
theorem vals_to {vs : List V} {us : List Value} (r : Vals vs us) : ∀ to : List Nat, Vals (to.filterMap fun j => vs[j]?) (to.filterMap fun j => us[j]?)
  | [] => .nil
  | j :: to => by
    rw [List.filterMap_cons, List.filterMap_cons]
    cases h : vs[j]? with
    | none =>
      rw [r.none_of h]
      exact vals_to r to
    | some v =>
      obtain ⟨u, h1, h2⟩ := r.get h
      rw [h1]
      exact .cons h2 (vals_to r to)
theorem dvs_to {K : PySem.W.Frag} {fa : Nat → Option Addr} {H : Hp} {vs : List V} {ds : List D} (r : DVs K fa H vs ds) : ∀ to : List Nat, DVs K fa H (to.filterMap fun j => vs[j]?) (to.filterMap fun j => ds[j]?)
  | [] => .nil
  | j :: to => by
    rw [List.filterMap_cons, List.filterMap_cons]
    cases h : ds[j]? with
    | none =>
      have : vs[j]? = none := by
        rw [List.getElem?_eq_none_iff] at h ⊢
        rw [r.length]; exact h
      rw [this]
      exact dvs_to r to
    | some v =>
      obtain ⟨u, h1, h2⟩ := r.get h
      rw [h1]
      exact .cons h2 (dvs_to r to)
/-- a def that is called by keywords -/
structure KwAt (T : Wd) (w : List D → Gp → KE → KX → Prop) (n : Nat) (k : Nat) (a : Addr) (ks : List Str) (to : List Nat) : Prop where
  ex : ∃ fd ps, FnOk T.P T.w T.K T.mg T.base (L2.CX T.P T.w) k a fd ps (LSp T w n) ∧ KwOk fd ps ks to
  kp : PySem.W.keepIn T.K (.ref a) = true
  len : ∀ ds G Q E, w ds G Q E → ds.length = n
theorem l_kcall {kws : List Keyword} {ks : List Str} {to : List Nat} (st : Stands T X) (hf : KwAt T w n k fa ks to) (hr : Room k X.A) (hg : Gl X x) (hm : T.mg x = some (.ref fa)) (hdb : (x == ("__debug__" : Str)) = false) (hx : Passes (L2.CX X.prog X.w) X (LX T H0 E))
    (ha : LKw T X H0 kws ks tr) : PE X (.Call (.Name x p) [] kws pos) (LE T H0 fun σ G Q => tr σ G fun ds G1 => ds.length = ks.length ∧ w (to.filterMap fun j => ds[j]?) G1 Q E) := by
  obtain ⟨fd, ps, h1, h2⟩ := hf.ex
  have hm' : X.mg x = some (.ref fa) := by rw [st.mg]; exact hm
  have h3 : PySem.W.keepIn X.K (.ref fa) = true := by rw [st.K]; exact hf.kp
  have h1 : FnOk X.prog X.w X.K X.mg X.base (L2.CX X.prog X.w) k fa fd ps (LSp T w n) := by rw [st.K, st.w, st.P, st.mg, st.base]; exact h1
  refine ⟨fun pins s σ H Q I h => ?_⟩
  obtain ⟨σd, G, Q2, x0, sr, g, h, kk⟩ := h
  obtain ⟨n1, n2, n3⟩ := ha.names pos
  refine wpAny_Call_Name_kw (ld_glob I hg hm' ?_ hdb)
  refine PySem.W.callWith_KW0 (h₀ := X.base) I.ok.mod.kin h3 n2 ?_ (by rw [n3]; rfl)
  refine thn (ha.pk.run pos pins s σ H (fun vs H1 => ∃ ds G1, (ds.length = ks.length ∧ w (to.filterMap fun j => ds[j]?) G1 Q2 E) ∧ Xt H H1 ∧ DVs T.K T.fa H1 vs ds ∧ GR T G1 H1) I ⟨σd, G, _, x0, sr, g, h, fun d G' v H' q x dv g' => ⟨d, G', q, x, dv, g'⟩⟩) fun ws s1 ⟨vs, H1, I1, r, ds, G1, q, x1, dv, g1⟩ => ⟨I1.kIn, ?_⟩
  rw [n1]
  have r2 := vals_to r to
  have dv2 := dvs_to dv to
  have sp := LSp.of (G0 := G) (Q := Q) hf.len x0 x1 dv2 g1 q.2 kk
  have hl : ws.length = ks.length := by rw [← r.length, dv.length]; exact q.1
  refine wpAny_call (codeAny_mono (h1.run X.A X.stack s1 H1 ⟨[], ks.zip ws⟩ _ _ Q (LX T H0 E) hr I1.env0 (h2 s1 ws hl) r2 sp) fun r s' hq => ?_)
  cases r with
  | error e => exact hx pins σ H1 s1 e s' I1 hq
  | ok fl =>
    cases fl with
    | ret u => exact I1.after hq
    | next => exact False.elim hq
    | brk => exact False.elim hq
    | cont => exact False.elim hq

/-! ### a name that holds a def -/
theorem l_vcall {ar : Nat → Nat} {i : Nat} {cf : Nat} (st : Stands T X) (hf : ∀ f fa, T.fa f = some fa → FnAt T (F f) (ar f) k fa) (hr : Room k X.A) (hN : X.N[i]? = some x) (hv : Vis X.env.scope x) (hx : Passes (L2.CX X.prog X.w) X (LX T H0 E))
    (hdb : (x == ("__debug__" : Str)) = false) (hcd : (x == ("__classdict__" : Str)) = false) (ha : PA X (e :: es) (LA T H0 tr)) (pl : Pl X.env (e :: es)) : PE X (.Call (.Name x p) (e :: es) [] pos) (LE T H0 fun σ G Q => match σ[i]? with
    | some (some d) => match d with
      | .fn f => tr σ G fun ds G2 => F f ds G2 Q E
      | _ => False
    | _ => False) := by
  refine ⟨fun pins s σ H Q I h => ?_⟩
  obtain ⟨σd, G, Q2, x0, sr, g, h, kk⟩ := h
  split at h
  · rename_i d hd
    obtain ⟨v, v1, v2⟩ := sr.2 i d hd
    cases v2 with
    | @fn f a hfa =>
      simp only at h
      have fn := hf f a hfa
      obtain ⟨fd, ps, h1, h2, h3⟩ := fn.on st
      refine (pe_callL (pos := pos) (p := p) (i := i) h1 hr hN hv h3 h2 .nil hx ha hdb hcd pl.1 pl.2.any).run pins s σ H Q I ⟨v1, σd, G, _, x0, sr, g, h, fun ds G1 vs H1 q x1 dv g1 => ?_⟩
      show LSp T (F f) (ar f) (vs ++ []) H1 Q (LX T H0 E)
      rw [List.append_nil]
      exact LSp.of (G0 := G) fn.len x0 x1 dv g1 q kk
    | _ => exact h.elim
  · exact h.elim
end
end AT
end
section
set_option maxHeartbeats 4000000
/-! AT10: dict displays, built-ins by name, methods of built-ins, isinstance. -/
namespace AT
open PySem PySem.Spec PyProof.Rows L2 SeqAt
section
variable {T : Wd} {X : Cx} {pins : List (Addr × Obj)} {σ : L2.St} {H : Hp} {s : Shared} {G : Gp} {a : Addr} {kvs : List (D × D)}
theorem d_put2 (hK : X.K = T.K) (hw : X.w = T.w) (hu : X.A.units + 64 < cLine) (I : Inv X pins σ H s) (g : GR T G H) (e : G a = some (.dct kvs)) {d z : D} {x y : V} {v u : Value} (hk : kindOk kvs d = true) (hl : kvs.length < 1000000) (hd : DV T.K T.fa H x d) (rx : RelV x v)
    (hz : DV T.K T.fa H y z) (ry : RelV y u) {E : Value → Shared → Prop} {Q : Unit → Shared → Prop} (h : ∀ s' H', Inv X pins σ H' s' → Xt H H' → GR T (up G a (.dct (keyPut kvs d z))) H' → Q () s') :
    wpAny (model X.prog X.w) X.A (dictSet a v u) Q E s := by
  have hlen : (keyPut kvs d z).length ≤ 2000000 := by have := @keyPut_length kvs d z; omega
  by_cases ht : D.isT d = true
  · obtain ⟨xs, dd, r, hs, _, ko, φ, hφ⟩ := cell_T hK hw I g e (kindOk_T hk ht)
    obtain ⟨q, n, rfl, rfl, n1, ki⟩ := key_T hK I hk ht hd rx
    refine wpAny_dictSet_heap (roomK0 hu) ki dd (fun h' dd' sb => ?_) (by
      have : xs.length = kvs.length := by rw [← r.length]
      rw [this, sizeLine_eq]; omega)
    obtain ⟨o', es', ep', e1, e2, e3, e4, _, e6⟩ := dd'
    have rp := fun H' (x : Xt H H') => dputT n1 (hd.mono x) ry (hz.mono x) (paired_mono (fun p q (w : RxT T H p q) => (⟨w.1, w.2.1.mono x, w.2.2.imp fun v w => ⟨w.1, w.2.mono x⟩⟩ : RxT T H' p q)) r)
    obtain ⟨H', I', x', g'⟩ := dict_put (t' := s.toks + (nestedKind X.prog X.w).draws n) hK I g e hφ sb e1 e2 e3 hs (fun H' x => by rw [e4, hw]; exact backT (rp H' x)) (by rw [nodupT (rp H (.refl H))]; exact nodup_some' e6) (ko.put (kindOk_key hk)) hlen
    exact h _ H' I' x' g'
  · rw [Bool.not_eq_true] at ht
    obtain ⟨o, es, ep, _, _, _, _, _, _, ko, _⟩ := g a _ e
    obtain ⟨f1, f2⟩ := kindOk_F ko hk ht
    obtain ⟨xs, dd, r, hs, _, _, φ, hφ⟩ := cell_F hw I g e f1
    obtain ⟨n, k, n1, n2, ki⟩ := key_F (X := X) f2 hd rx
    refine wpAny_dictSet_pairs ki dd (fun h' dd' sb => ?_) (by
      have : xs.length = kvs.length := by rw [← r.length]
      rw [this, sizeLine_eq]; omega)
    obtain ⟨o', es', ep', e1, e2, e3, e4, e5, e6⟩ := dd'
    have rp := fun H' (x : Xt H H') => dputF (k := k) n1 n2 ry (hz.mono x) (paired_mono (fun p q (w : RxF T H p q) => (⟨w.1, w.2.imp fun v w => ⟨w.1, w.2.mono x⟩⟩ : RxF T H' p q)) r)
    have ff : ((keyPut kvs d z).all fun p => flatK p.1) = true := by
      rw [List.all_eq_true] at f1 ⊢
      unfold keyPut
      intro p hp
      split at hp
      · obtain ⟨q, hq, rfl⟩ := List.mem_map.mp hp
        split <;> exact f1 q hq
      · rcases List.mem_append.mp hp with w | w
        · exact f1 p w
        · rw [List.mem_singleton] at w
          subst w
          exact f2
    have nd : ((keyPut kvs d z).map fun p => D.nk p.1).Nodup := by
      have gen : ∀ {ks : List (D × D)} {ys : List (Key × Value)}, Paired (RxF T H) ks ys → (ks.all fun p => flatK p.1) = true → (ys.map (·.1)).Nodup → (ks.map fun p => D.nk p.1).Nodup := by
        intro ks ys r
        induction r with
        | nil => intro _ _; exact List.nodup_nil
        | @cons p x ks ys r rs ih =>
          intro hf hn
          simp only [List.all_cons, Bool.and_eq_true] at hf
          rw [List.map_cons, List.nodup_cons] at hn ⊢
          refine ⟨fun hm => hn.1 ?_, ih hf.2 hn.2⟩
          obtain ⟨⟨n, n1, n2⟩, _⟩ := r
          obtain ⟨q, hq, e⟩ := List.mem_map.mp hm
          have find : ∀ {ks : List (D × D)} {ys : List (Key × Value)}, Paired (RxF T H) ks ys → q ∈ ks → ∃ y ∈ ys, RxF T H q y := by
            intro ks ys r
            induction r with
            | nil => intro h; cases h
            | cons r rs ih =>
              intro h
              rcases List.mem_cons.mp h with z | z
              · subst z; exact ⟨_, List.mem_cons_self, r⟩
              · obtain ⟨y, h1, h2⟩ := ih z
                exact ⟨y, List.mem_cons_of_mem _ h1, h2⟩
          obtain ⟨y, hy, ⟨m, m1, m2⟩, _⟩ := find rs hq
          rw [m1, n1] at e
          have em : m = n := Option.some.inj e
          rw [em, n2] at m2
          exact List.mem_map.mpr ⟨y, hy, (Option.some.inj m2).symm⟩
      exact gen (rp H (.refl H)) ff e6
    obtain ⟨H', I', x', g'⟩ := dict_put (t' := s.toks + 1) hK I g e hφ sb e1 e2 e3 hs (fun H' x => backF (rp H' x) (by rw [← hw]; exact e5) (fun e he => by
      obtain ⟨k', k1, k2⟩ := e4 e (by simpa using he)
      exact ⟨k', k1, by rw [k2, ← hw]; rfl⟩) ff) nd (ko.put (kindOk_key hk)) hlen
    exact h _ H' I' x' g'

/-- pairs are put, from the left -/
theorem putAll_run (hK : X.K = T.K) (hw : X.w = T.w) (hu : X.A.units + 64 < cLine) {E : Value → Shared → Prop} : ∀ {ps : List (D × D)} {vs : List (V × V)} {us : List (Value × Value)} {kvs m : List (D × D)} {s : Shared} {H : Hp} {G : Gp} {Q : PUnit → Shared → Prop}, Inv X pins σ H s → GR T G H → G a = some (.dct kvs) → kvs.length + ps.length ≤ 100 →
    VV vs us → Paired (fun (p : V × V) (q : D × D) => DV T.K T.fa H p.1 q.1 ∧ DV T.K T.fa H p.2 q.2) vs ps → putAll kvs ps = some m → (∀ s' H', Inv X pins σ H' s' → Xt H H' → GR T (up G a (.dct m)) H' → Q PUnit.unit s') →
    wpAny (model X.prog X.w) X.A (forIn us PUnit.unit fun (x : Value × Value) (_ : PUnit) => (do dictSet a x.1 x.2; pure (ForInStep.yield PUnit.unit) : Sem (ForInStep PUnit))) Q E s
  | [], _, _, kvs, m, s, H, G, Q, I, g, e, hl, rv, rd, hm, h => by
    cases rd
    cases rv
    rw [List.forIn_nil]
    have em : kvs = m := Option.some.inj hm
    subst em
    have eg : up G a (.dct kvs) = G := by
      funext b
      unfold up
      split
      · rename_i z; rw [z, e]
      · rfl
    exact wpAny_pure (h s H I (.refl H) (by rw [eg]; exact g))
  | (k, v) :: ps, _, _, kvs, m, s, H, G, Q, I, g, e, hl, rv, rd, hm, h => by
    cases rd with
    | @cons p q vs ps d rd =>
      cases rv with
      | @cons p u vs us r rv =>
        unfold putAll at hm
        split at hm
        · rename_i hk
          rw [List.length_cons] at hl
          rw [List.forIn_cons]
          refine wpAny_bind (wpAny_bind (d_put2 hK hw hu I g e hk (by omega) d.1 r.1 d.2 r.2 fun s1 H1 I1 x1 g1 => wpAny_pure ?_))
          refine putAll_run hK hw hu I1 g1 (by unfold up; rw [if_pos rfl]) (by have := @keyPut_length kvs k v; omega) rv (paired_mono (fun p q z => ⟨z.1.mono x1, z.2.mono x1⟩) rd) hm fun s2 H2 I2 x2 g2 => h s2 H2 I2 (x1.trans x2) ?_
          have eg : up (up G a (.dct (keyPut kvs k v))) a (.dct m) = up G a (.dct m) := by
            funext b
            unfold up
            split <;> rfl
          rw [← eg]
          exact g2
        · cases hm
/-- a new empty dict -/
theorem dict_new (I : Inv X pins σ H s) (g : GR T G H) : ∃ H', Inv X pins σ H' { s with heap := s.heap.push { cls := .type "dict", data := .dict #[] } } ∧ H s.heap.objs.size = none ∧ Xt H H' ∧ GR T (up G s.heap.objs.size (.dct [])) H' := by
  have hn := I.hok.fresh (Nat.le_refl s.heap.objs.size)
  have ho : (s.heap.push { cls := .type "dict", data := .dict #[] }).get? s.heap.objs.size = some ({ cls := .type "dict", data := .dict #[] } : Obj) := Heap.get?_push_size _ rfl
  refine ⟨upd H s.heap.objs.size (.ext fun h => h.get? s.heap.objs.size = some { cls := .type "dict", data := .dict #[] }), I.laid (t' := s.toks) (fun _ _ q => Heap.get?_push_of_some _ q) (Nat.le_refl _) ⟨ho, ⟨_, ho⟩, fun h1 h2 q k => k _ q⟩, hn, .new hn, ?_⟩
  exact g.add hn ⟨_, #[], 0, upd_same, beq_eq_false_iff_ne.mpr (Ne.symm (Nat.ne_of_lt I.big)), ⟨rfl, rfl, rfl⟩, rfl, .nil, List.nodup_nil, (fun p hp => absurd hp List.not_mem_nil), Nat.zero_le _⟩
end
section
variable {T : Wd} {X : Cx} {H0 : Hp} {a b c e o : Expr} {es : List Expr} {pos apos : Pos} {ta tb tc tk tv : TE2} {tr : TA2}
abbrev TKV2 := AT.St → Gp → (List (D × D) → Gp → Prop) → Prop
/-- the pairs of a display -/
inductive LKV (T : Wd) (X : Cx) (H0 : Hp) : List (Option Expr) → List Expr → TKV2 → Prop
  | nil : LKV T X H0 [] [] (fun _ G Q => Q [] G)
  | cons {k v : Expr} {ks : List (Option Expr)} {vs : List Expr} {tk tv : TE2} {tr : TKV2} : PE X k (LE T H0 tk) → PE X v (LE T H0 tv) → LKV T X H0 ks vs tr →
      LKV T X H0 (some k :: ks) (v :: vs) (fun σ G Q => tk σ G fun x G1 => tv σ G1 fun y G2 => tr σ G2 fun ps G3 => Q ((x, y) :: ps) G3)
theorem LKV.len {ks : List (Option Expr)} {vs : List Expr} {tr : TKV2} (h : LKV T X H0 ks vs tr) : ks.all (·.isSome) = true ∧ ks.length = vs.length := by
  induction h with
  | nil => exact ⟨rfl, rfl⟩
  | cons _ _ _ ih => exact ⟨by rw [List.all_cons, ih.1]; rfl, by rw [List.length_cons, List.length_cons, ih.2]⟩
theorem LKV.go {ks : List (Option Expr)} {vs : List Expr} {tr : TKV2} (h : LKV T X H0 ks vs tr) : ∀ {pins : List (Addr × Obj)} {s : Shared} {σ : L2.St} {H : Hp} {σd : AT.St} {G : Gp} {Q : List (D × D) → Gp → Prop}, Inv X pins σ H s → Xt H0 H → SR T H σ σd → GR T G H → tr σd G Q →
    wpAny (model X.prog X.w) X.A (evalPairs (pairTrees ks vs X.env pos)) (fun us s1 => ∃ ds G1 vs H1, Q ds G1 ∧ Xt H H1 ∧ Paired (fun (p : V × V) (q : D × D) => DV T.K T.fa H1 p.1 q.1 ∧ DV T.K T.fa H1 p.2 q.2) vs ds ∧ GR T G1 H1 ∧ Inv X pins σ H1 s1 ∧ VV vs us) X.xe s := by
  induction h with
  | nil =>
    intro pins s σ H σd G Q I x0 sr g q
    exact pairTrees_nil_walk ⟨[], G, [], H, q, .refl H, .nil, g, I, .nil⟩
  | cons hk hv hr ih =>
    intro pins s σ H σd G Q I x0 sr g q
    refine pairTrees_cons_walk (thn (PE.go hk I x0 sr g q) fun u s1 ⟨d, G1, v, H1, q1, x1, dv, g1, I1, rx⟩ => thn (PE.go hv I1 (x0.trans x1) (sr.mono x1) g1 q1) fun u2 s2 ⟨d2, G2, v2, H2, q2, x2, dv2, g2, I2, rx2⟩ => ?_)
    refine thn (ih I2 (x0.trans (x1.trans x2)) (sr.mono (x1.trans x2)) g2 q2) fun us s3 ⟨ds, G3, vs, H3, q3, x3, dv3, g3, I3, rx3⟩ => ?_
    exact ⟨_, G3, (v, v2) :: vs, H3, q3, (x1.trans x2).trans x3, .cons ⟨dv.mono (x2.trans x3), dv2.mono x3⟩ dv3, g3, I3, .cons ⟨rx, rx2⟩ rx3⟩
theorem l_dct0 : PE X (.Dict [] [] pos) (LE T H0 fun _ G Q => ∀ p, G p = none → up G p (.dct []) p = some (.dct []) ∧ Q (.ref p) (up (up G p (.dct [])) p (.dct []))) := by
  refine ⟨fun pins s σ H Q I h => ?_⟩
  obtain ⟨σd, G, Q2, x0, sr, g, h, k⟩ := h
  obtain ⟨H1, I1, hn, x1, g1⟩ := dict_new I g
  have eg : up (up G s.heap.objs.size (.dct [])) s.heap.objs.size (.dct []) = up G s.heap.objs.size (.dct []) := by
    funext b
    unfold up
    split <;> rfl
  exact wpAny_Dict_empty ⟨.ref s.heap.objs.size, H1, I1, rfl, k _ _ _ _ (h _ (g.free hn)).2 x1 (.ref _) (by rw [eg]; exact g1)⟩
theorem l_dct {ks : List (Option Expr)} {vs : List Expr} {tr : TKV2} (hK : X.K = T.K) (hw : X.w = T.w) (hu : X.A.units + 64 < cLine) (h : LKV T X H0 ks vs tr) (h0 : ks ≠ []) (h15 : ks.length ≤ 15) :
    PE X (.Dict ks vs pos) (LE T H0 fun σ G Q => ∀ p, G p = none → tr σ (up G p (.dct [])) fun ps G2 => G2 p = some (.dct []) ∧ match putAll [] ps with
    | some m => Q (.ref p) (up G2 p (.dct m))
    | none => False) := by
  refine ⟨fun pins s σ H Q I hq => ?_⟩
  obtain ⟨σd, G, Q2, x0, sr, g, hq, k⟩ := hq
  obtain ⟨H1, I1, hn, x1, g1⟩ := dict_new I g
  obtain ⟨hall, hl⟩ := h.len
  have hlen := pairTrees_length ks vs X.env pos hall hl
  rw [arm_eval_Dict, zip_pairTrees ks vs X.env pos hall hl, dictDisplay_pairs (pairTrees ks vs X.env pos) (fun he => h0 (by
    rw [he] at hlen
    exact List.length_eq_zero_iff.mp hlen.symm)) (by omega)]
  refine wpAny_bind (wpAny_standAt (wpAny_bind ?_))
  unfold subDict
  refine wpAny_bind (wpAny_alloc ?_)
  refine wpAny_bind (wpAny_holding ?_)
  rw [if_pos (by omega)]
  refine wpAny_bind (wpAny_mono (wpAny_evalPairs_len (h.go (pos := pos) I1 (x0.trans x1) (sr.mono x1) g1 (hq _ (g.free hn)))) (fun us s2 ⟨hul, ds, G2, zs, H2, ⟨e2, q2⟩, x2, dv, g2, I2, rv⟩ => ?_) fun _ _ e => e)
  refine wpAny_holding ?_
  split at q2
  · rename_i m hm
    have hdl : ds.length ≤ 15 := by
      rw [← dv.length, rv.length, hul, hlen]
      exact h15
    refine wpAny_bind (putAll_run hK hw hu I2 g2 e2 (by rw [List.length_nil]; omega) rv dv hm fun s3 H3 I3 x3 g3 => wpAny_pure (wpAny_pure (wpAny_pure ?_)))
    exact ⟨.ref s.heap.objs.size, H3, I3, rfl, k _ _ _ _ q2 ((x1.trans x2).trans x3) (.ref _) g3⟩
  · exact q2.elim
/-! ### built-ins by name -/
theorem l_primB {x id : _} {p : Pm} {pp : Pos} (hc : CallR X (.builtin id) (LP T p)) (hg : Gl X x) (hm : X.mg x = none) (hv : bootBuiltins x = some (.builtin id)) (hn : x ≠ "__name__") (hdb : (x == ("__debug__" : Str)) = false)
    (ha : PA X (e :: es) (LA T H0 tr)) (pl : Pl X.env (e :: es)) : PE X (.Call (.Name x pp) (e :: es) [] pos) (LE T H0 fun σ G Q => tr σ G fun ds G1 => primW p ds G1 Q) := by
  refine PE.imp (pe_callB (p := pp) (pos := pos) hc hg hm hv ha hn hdb pl.1 pl.2.any) ?_
  rintro σ H Q ⟨σd, G, Q2, x0, sr, g, h, k⟩
  exact ⟨σd, G, _, x0, sr, g, h, fun ds G1 vs H1 q x1 dv g1 => ⟨ds, G1, Q2, dv, g1, q, fun r G' v H' q x dv g => k _ _ _ _ q (x1.trans x) dv g⟩⟩
theorem l_primT {x : Str} {id : String} {p : Pm} {pp : Pos} (hc : CallR X (.type id) (LP T p)) (hg : Gl X x) (hm : X.mg x = none) (hv : bootBuiltins x = some (.type id)) (hn : x ≠ "__name__") (hdb : (x == ("__debug__" : Str)) = false)
    (ha : PA X (e :: es) (LA T H0 tr)) (pl : Pl X.env (e :: es)) : PE X (.Call (.Name x pp) (e :: es) [] pos) (LE T H0 fun σ G Q => tr σ G fun ds G1 => primW p ds G1 Q) := by
  refine PE.imp (pe_callTy (p := pp) (pos := pos) hc hg hm hv ha hn hdb pl.1 pl.2.any) ?_
  rintro σ H Q ⟨σd, G, Q2, x0, sr, g, h, k⟩
  exact ⟨σd, G, _, x0, sr, g, h, fun ds G1 vs H1 q x1 dv g1 => ⟨ds, G1, Q2, dv, g1, q, fun r G' v H' q x dv g => k _ _ _ _ q (x1.trans x) dv g⟩⟩
/-! ### methods of built-ins -/
def kdName : Kd → String
  | .lst => "list"
  | .tup => "tuple"
  | .dct => "dict"
  | .str => "str"
theorem kind_is {pins : List (Addr × Obj)} {σ : L2.St} {H : Hp} {s : Shared} {G : Gp} {d : D} {t : Kd} {v : V} {u : Value} (I : Inv X pins σ H s) (g : GR T G H) (hd : DV T.K T.fa H v d) (rx : RelV v u) (h : kindO G d = some t) (ht : t ≠ .tup) :
    s.TypeIs u (kdName t) ∧ ∀ b, u = .ref b → ∃ ob, s.heap.get? b = some ob ∧ ob.dict = none := by
  cases hd with
  | tup h1 h2 =>
    simp only [kindO, Option.some.injEq] at h
    exact absurd h.symm ht
  | str z =>
    simp only [kindO, Option.some.injEq] at h
    subst h
    obtain ⟨t, rfl⟩ := rx
    exact ⟨typeIs_str s z t, fun _ e => nomatch e⟩
  | ref a =>
    simp only [kindO] at h
    cases rx
    split at h
    · rename_i ds ha
      cases h
      obtain ⟨vs, h1, h2⟩ := g a _ ha
      obtain ⟨its, _, pl, _⟩ := I.list (SqL.of h1)
      refine ⟨pl.isList.typeIs, fun a e => ?_⟩
      cases e
      obtain ⟨o, n, e, c, hd, _⟩ := pl
      exact ⟨o, e, hd⟩
    · rename_i kvs ha
      cases h
      obtain ⟨o, es, ep, h1, h2, h3, h4, _⟩ := g a _ ha
      have k1 := (I.hok a _ h1).1
      refine ⟨⟨o, k1, h3.1⟩, fun a e => ?_⟩
      cases e
      exact ⟨o, k1, h3.2.1⟩
    · cases h
  | _ => simp [kindO] at h
/-- a method of a built-in type: its entry, what it does -/
structure BmAt (T : Wd) (X : Cx) (name : Str) (p : Pm) (t : Kd) : Prop where
  ex : ∃ id, PlainAttrs (kdName t) ∧ Slot (kdName t) name id ∧ typeOf (.builtin id) = pure (.type "method_descriptor") ∧ MtR X id (LPm T p t)
theorem l_bm {name : Str} {p : Pm} {t : Kd} (hb : BmAt T X name p t) (ht : t ≠ .tup) (ho : PE X o (LE T H0 ta)) (ha : PA X (e :: es) (LA T H0 tr)) (pl : Pl X.env (e :: es)) (few : (e :: es).length < 20)
    (hbase : attributeBase o name X.env (eval o X.env) = eval o X.env) (hline : (apos.endLine == pos.line) = true) :
    PE X (.Call (.Attribute o name apos) (e :: es) [] pos) (LE T H0 fun σ G Q => ta σ G fun x G1 => kindO G1 x = some t ∧ tr σ G1 fun ds G2 => kindO G2 x = some t ∧ primW p (x :: ds) G2 Q) := by
  obtain ⟨id, pa, slot, hty, hm⟩ := hb.ex
  refine ⟨fun pins s σ H Q I h => ?_⟩
  obtain ⟨σd, G, Q2, x0, sr, g, h, k⟩ := h
  refine wpAny_Call_method_late hbase (by
    rw [pl.all, Bool.true_and]
    show (true && decide ((e :: es).length + 0 + 0 < 30)) = true
    rw [Bool.true_and, decide_eq_true_eq]
    omega) hline rfl (thn (PE.go ho I x0 sr g h) fun v s1 ⟨d, G1, x, H1, ⟨hk, q1⟩, x1, dv, g1, I1, rx⟩ => ?_)
  obtain ⟨h1, h2⟩ := kind_is I1 g1 dv rx hk ht
  refine ⟨_, id, pa, slot, hty, h1, h2, ?_⟩
  have hA := PA.go (pos := pos) ha I1 (x0.trans x1) (sr.mono x1) g1 q1
  rw [pl.1] at hA ⊢
  refine Calls.callWith_builtin (by show (false || (backTo pos (starEach es X.env)).any (·.1)) = false; rw [pl.2.any]; rfl) (Calls.evalArgs_plain ?_)
  refine thn hA fun us s2 ⟨ds, G2, vs, H2, q2, x2, dv2, g2, I2, r2⟩ => ?_
  exact hm pins s2 σ H2 x vs v us Q I2 rx r2 ⟨d, ds, G2, Q2, dv.mono x2, dv2, g2, q2.1, q2.2, fun r G' v H' q x dv g => k _ _ _ _ q ((x1.trans x2).trans x) dv g⟩
theorem l_bm0 {name : Str} {p : Pm} {t : Kd} (hb : BmAt T X name p t) (ht : t ≠ .tup) (ho : PE X o (LE T H0 ta))
    (hbase : attributeBase o name X.env (eval o X.env) = eval o X.env) (hline : (apos.endLine == pos.line) = true) :
    PE X (.Call (.Attribute o name apos) [] [] pos) (LE T H0 fun σ G Q => ta σ G fun x G1 => kindO G1 x = some t ∧ (kindO G1 x = some t ∧ primW p [x] G1 Q)) := by
  obtain ⟨id, pa, slot, hty, hm⟩ := hb.ex
  refine ⟨fun pins s σ H Q I h => ?_⟩
  obtain ⟨σd, G, Q2, x0, sr, g, h, k⟩ := h
  refine wpAny_Call_method0_late hbase hline (thn (PE.go ho I x0 sr g h) fun v s1 ⟨d, G1, x, H1, ⟨hk, q1⟩, x1, dv, g1, I1, rx⟩ => ?_)
  obtain ⟨h1, h2⟩ := kind_is I1 g1 dv rx hk ht
  refine ⟨_, id, pa, slot, hty, h1, h2, Calls.callWith_builtin rfl (PySem.evalArgs_none ?_)⟩
  exact hm pins s1 σ H1 x [] v [] Q I1 rx .nil ⟨d, [], G1, Q2, dv, .nil, g1, q1.1, q1.2, fun r G' v H' q x dv g => k _ _ _ _ q (x1.trans x) dv g⟩
/-- of a written tuple -/
theorem l_bmc {name : Str} {p : Pm} {at_ : Addr} {ob : Obj} {d : D} (hb : BmAt T X name p .tup) (hK : X.K = T.K) (ho : PE X o (tC (.ref at_))) (hk : T.K.lookup at_ = some ob) (hc : ob.cls = .type "tuple") (hd : ob.dict = none) (hv : ∀ H, DV T.K T.fa H (.ref at_) d) (hdt : D.isT d = true)
    (ha : PA X (e :: es) (LA T H0 tr)) (pl : Pl X.env (e :: es)) (few : (e :: es).length < 20)
    (hbase : attributeBase o name X.env (eval o X.env) = eval o X.env) (hline : (apos.endLine == pos.line) = true) :
    PE X (.Call (.Attribute o name apos) (e :: es) [] pos) (LE T H0 fun σ G Q => (fun x G1 => kindO G1 x = some Kd.tup ∧ tr σ G1 fun ds G2 => kindO G2 x = some Kd.tup ∧ primW p (x :: ds) G2 Q) d G) := by
  obtain ⟨id, pa, slot, hty, hm⟩ := hb.ex
  refine ⟨fun pins s σ H Q I h => ?_⟩
  obtain ⟨σd, G, Q2, x0, sr, g, ⟨hkd, h⟩, k⟩ := h
  refine wpAny_Call_method_late hbase (by
    rw [pl.all, Bool.true_and]
    show (true && decide ((e :: es).length + 0 + 0 < 30)) = true
    rw [Bool.true_and, decide_eq_true_eq]
    omega) hline rfl (thn (ho.run pins s σ H (fun v H1 => v = .ref at_ ∧ H1 = H) I ⟨rfl, rfl⟩) fun v s1 ⟨x, H1, I1, rx, ex, eH⟩ => ?_)
  subst ex eH
  have rx' : v = Value.ref at_ := rx
  subst rx'
  have hin := I1.kIn at_ ob (by rw [hK]; exact hk)
  refine ⟨"tuple", id, pa, slot, hty, ⟨ob, hin, hc⟩, fun b e => ?_, ?_⟩
  · cases e
    exact ⟨ob, hin, hd⟩
  have hA := PA.go (pos := pos) ha I1 x0 sr g h
  rw [pl.1] at hA ⊢
  refine Calls.callWith_builtin (by show (false || (backTo pos (starEach es X.env)).any (·.1)) = false; rw [pl.2.any]; rfl) (Calls.evalArgs_plain ?_)
  refine thn hA fun us s2 ⟨ds, G2, vs, H2, q2, x2, dv2, g2, I2, r2⟩ => ?_
  exact hm pins s2 σ H2 (.ref at_) vs _ us Q I2 rfl r2 ⟨d, ds, G2, Q2, hv _, dv2, g2, q2.1, q2.2, fun r G' v H' q x dv g => k _ _ _ _ q (x2.trans x) dv g⟩
/-! ### a list that was made for it -/
theorem l_tmpB {x id : _} {p : Pm} {pp : Pos} (hc : CallR X (.builtin id) (LP T p)) (hg : Gl X x) (hm : X.mg x = none) (hv : bootBuiltins x = some (.builtin id)) (hn : x ≠ "__name__") (hdb : (x == ("__debug__" : Str)) = false)
    (ha : PE X e (LE T H0 ta)) (hs : starEach [e] X.env = [(false, eval e X.env)]) : PE X (.Call (.Name x pp) [e] [] pos) (LE T H0 fun σ G Q => ta σ G fun x G1 => primW p [x] G1 fun d G2 => match x with
    | .ref a => Q d (del G2 a)
    | _ => Q d G2) := by
  refine PE.imp (pe_callB (p := pp) (pos := pos) hc hg hm hv (pa_cons ha pa_nil hs) hn hdb hs rfl) ?_
  rintro σ H Q ⟨σd, G, Q2, x0, sr, g, h, k⟩
  refine ⟨σd, G, _, x0, sr, g, h, fun d G1 v H1 q x1 dv g1 => ⟨[d], G1, _, .cons dv .nil, g1, q, fun r G' v' H' q' x' dw g' => ?_⟩⟩
  split at q'
  · exact k _ _ _ _ q' (x1.trans x') dw (g'.del _)
  · exact k _ _ _ _ q' (x1.trans x') dw g'
theorem l_tmpT {x : Str} {id : String} {p : Pm} {pp : Pos} (hc : CallR X (.type id) (LP T p)) (hg : Gl X x) (hm : X.mg x = none) (hv : bootBuiltins x = some (.type id)) (hn : x ≠ "__name__") (hdb : (x == ("__debug__" : Str)) = false)
    (ha : PE X e (LE T H0 ta)) (hs : starEach [e] X.env = [(false, eval e X.env)]) : PE X (.Call (.Name x pp) [e] [] pos) (LE T H0 fun σ G Q => ta σ G fun x G1 => primW p [x] G1 fun d G2 => match x with
    | .ref a => Q d (del G2 a)
    | _ => Q d G2) := by
  refine PE.imp (pe_callTy (p := pp) (pos := pos) hc hg hm hv (pa_cons ha pa_nil hs) hn hdb hs rfl) ?_
  rintro σ H Q ⟨σd, G, Q2, x0, sr, g, h, k⟩
  refine ⟨σd, G, _, x0, sr, g, h, fun d G1 v H1 q x1 dv g1 => ⟨[d], G1, _, .cons dv .nil, g1, q, fun r G' v' H' q' x' dw g' => ?_⟩⟩
  split at q'
  · exact k _ _ _ _ q' (x1.trans x') dw (g'.del _)
  · exact k _ _ _ _ q' (x1.trans x') dw g'
end
end AT
end
section
set_option maxHeartbeats 4000000
/-! AT11: isinstance; dict.get, dict.update, list(..); the methods' entries. -/
namespace AT
open PySem PySem.Spec PyProof.Rows L2 SeqAt
def tyN : Ty → Str
  | .int => "int"
  | .bool => "bool"
  | .str => "str"
  | .tuple => "tuple"
def tyS : Ty → String
  | .int => "int"
  | .bool => "bool"
  | .str => "str"
  | .tuple => "tuple"
section
variable {T : Wd} {X : Cx} {H0 : Hp} {a b c e o : Expr} {es : List Expr} {pos apos : Pos} {ta tb tc tk tv : TE2} {tr : TA2}
def isTyS : D → String
  | .non => "NoneType"
  | .bl _ => "bool"
  | .int _ => "int"
  | .str _ => "str"
  | _ => "tuple"
theorem tyX_of (hK : X.K = T.K) {H : Hp} {v : V} {d : D} (h : DV T.K T.fa H v d) {t : Ty} {k : Bool} (ht : isTy t d = some k) : TyX X.K H v (.type (isTyS d)) := by
  cases h with
  | non => exact .base .non
  | bl b => exact .base (.bl b)
  | int i => exact .base (.int i)
  | str x => exact .base (.str x)
  | tup h1 h2 =>
    rcases h1 with (h1 | ⟨o, h1⟩) | ⟨o, its, n, h1, h3, _⟩
    · exact .base (.tup h1)
    · exact .fTuple h1
    · exact .kTuple (by rw [hK]; exact h1) h3
  | _ => cases t <;> simp [isTy] at ht
theorem isTy_kit {t : Ty} {d : D} {k : Bool} (h : isTy t d = some k) : kitB (isTyS d) (tyS t) = some k := by
  have k1 : kitB "NoneType" "int" = some false := by decide +kernel
  have k2 : kitB "NoneType" "bool" = some false := by decide +kernel
  have k3 : kitB "NoneType" "str" = some false := by decide +kernel
  have k4 : kitB "NoneType" "tuple" = some false := by decide +kernel
  have k5 : kitB "bool" "int" = some true := by decide +kernel
  have k6 : kitB "bool" "bool" = some true := by decide +kernel
  have k7 : kitB "bool" "str" = some false := by decide +kernel
  have k8 : kitB "bool" "tuple" = some false := by decide +kernel
  have k9 : kitB "int" "int" = some true := by decide +kernel
  have k10 : kitB "int" "bool" = some false := by decide +kernel
  have k11 : kitB "int" "str" = some false := by decide +kernel
  have k12 : kitB "int" "tuple" = some false := by decide +kernel
  have k13 : kitB "str" "int" = some false := by decide +kernel
  have k14 : kitB "str" "bool" = some false := by decide +kernel
  have k15 : kitB "str" "str" = some true := by decide +kernel
  have k16 : kitB "str" "tuple" = some false := by decide +kernel
  have k17 : kitB "tuple" "int" = some false := by decide +kernel
  have k18 : kitB "tuple" "bool" = some false := by decide +kernel
  have k19 : kitB "tuple" "str" = some false := by decide +kernel
  have k20 : kitB "tuple" "tuple" = some true := by decide +kernel
  cases t <;> cases d <;> first
    | (simp [isTy] at h; done)
    | (have e := Option.some.inj h; subst e; assumption)
theorem l_isi {t : Ty} {p q : Pos} (hK : X.K = T.K) (hg : Gl X "isinstance") (hm : X.mg "isinstance" = none) (hg2 : Gl X (tyN t)) (hm2 : X.mg (tyN t) = none) (ha : PE X e (LE T H0 ta)) (hs : starEach [e, .Name (tyN t) q] X.env = [(false, eval e X.env), (false, eval (.Name (tyN t) q) X.env)]) :
    PE X (.Call (.Name "isinstance" p) [e, .Name (tyN t) q] [] pos) (LE T H0 fun σ G Q => ta σ G fun x G1 => match isTy t x with
    | some b => Q (.bl b) G1
    | none => False) := by
  have hb : PE X (.Name (tyN t) q) (tC (.ty (tyS t))) := by
    cases t
    · exact pe_bltn hg2 hm2 (by decide +kernel : bootBuiltins ("int" : Str) = some (.type "int")) rfl (by decide) (by decide)
    · exact pe_bltn hg2 hm2 (by decide +kernel : bootBuiltins ("bool" : Str) = some (.type "bool")) rfl (by decide) (by decide)
    · exact pe_bltn hg2 hm2 (by decide +kernel : bootBuiltins ("str" : Str) = some (.type "str")) rfl (by decide) (by decide)
    · exact pe_bltn hg2 hm2 (by decide +kernel : bootBuiltins ("tuple" : Str) = some (.type "tuple")) rfl (by decide) (by decide)
  refine PE.imp (pe_callB (p := p) (pos := pos) call_isi hg hm (by decide +kernel) (pa_cons ha (pa_cons hb pa_nil rfl) (by rw [hs]; rfl)) (by decide) (by decide) (by rw [hs]; rfl) rfl) ?_
  rintro σ H Q ⟨σd, G, Q2, x0, sr, g, h, k⟩
  refine ⟨σd, G, _, x0, sr, g, h, fun d G1 v H1 q x1 dv g1 => ?_⟩
  split at q
  · rename_i r hr
    exact ⟨v, .ty (tyS t), .type (isTyS d), .type (tyS t), r, rfl, .ty _, tyX_of hK dv hr, kit_ty (isTy_kit hr), k _ _ _ _ q x1 (.bl r) g1⟩
  · exact q.elim
/-! ### d.get -/
theorem d_getm (hK : X.K = T.K) (hw : X.w = T.w) (hu : X.A.units + 64 < cLine) {pins : List (Addr × Obj)} {σ : L2.St} {H : Hp} {s : Shared} {G : Gp} {a : Addr} {kvs : List (D × D)} (I : Inv X pins σ H s) (g : GR T G H) (e : G a = some (.dct kvs)) {d z : D} {x y : V} {v u : Value} (hk : kindOk kvs d = true) (hd : DV T.K T.fa H x d) (rx : RelV x v)
    (hz : DV T.K T.fa H y z) (ry : RelV y u) {E : Value → Shared → Prop} {Q : Value → Shared → Prop} (h : ∀ s' y u, Inv X pins σ H s' → RelV y u → DV T.K T.fa H y ((keyAt kvs d).getD z) → Q u s') :
    wpAny (model X.prog X.w) X.A (call (.builtin "dict.get") [.ref a, v, u]) Q E s ∧ (u = .none → wpAny (model X.prog X.w) X.A (call (.builtin "dict.get") [.ref a, v]) Q E s) := by
  by_cases ht : D.isT d = true
  · obtain ⟨xs, dd, r, hs, _⟩ := cell_T hK hw I g e (kindOk_T hk ht)
    obtain ⟨q, n, rfl, rfl, n1, ki⟩ := key_T hK I hk ht hd rx
    have h' := atT r n1
    have fin : ∀ z' u', RelV z' u' → DV T.K T.fa H z' z → Q (((atKey xs n).map (·.2)).getD u') { s with toks := s.toks + (nestedKind X.prog X.w).draws n } := fun z' u' rz dz => by
      split at h'
      · rename_i w hw'
        obtain ⟨q', u', v', h1, h2, h3⟩ := h'
        rw [h1]
        exact h _ v' u' (I.tok _) h2 (by rw [hw']; exact h3)
      · rename_i hw'
        rw [h']
        exact h _ z' u' (I.tok _) rz (by rw [hw']; exact dz)
    refine ⟨call_meetsIn PySem.F.slot_dict_get dd.typeIs PySem.F.entry_dict_get (PySem.F.args_dict_get_3 _ _ _) (meetsH_dict_get_default (nestedKind X.prog X.w) a q hs u) ⟨roomK hu, n, xs, ki, dd, fin y u ry hz⟩, fun eu => ?_⟩
    subst eu
    exact call_meetsIn PySem.F.slot_dict_get dd.typeIs PySem.F.entry_dict_get (PySem.F.args_dict_get_2 _ _) (meetsH_dict_get (nestedKind X.prog X.w) a q hs) ⟨roomK hu, n, xs, ki, dd, fin y _ ry hz⟩
  · rw [Bool.not_eq_true] at ht
    obtain ⟨o, es, ep, _, _, _, _, _, _, ko, _⟩ := g a _ e
    obtain ⟨f1, f2⟩ := kindOk_F ko hk ht
    obtain ⟨xs, dd, r, hs, _⟩ := cell_F hw I g e f1
    obtain ⟨n, k, n1, n2, ki⟩ := key_F (X := X) f2 hd rx
    have h' := atF r n1 n2
    have fin : ∀ z' u', RelV z' u' → DV T.K T.fa H z' z → Q ((valueAt xs k).getD u') { s with toks := s.toks + 1 } := fun z' u' rz dz => by
      split at h'
      · rename_i w hw'
        obtain ⟨u', v', h1, h2, h3⟩ := h'
        rw [h1]
        exact h _ v' u' (I.tok _) h2 (by rw [hw']; exact h3)
      · rename_i hw'
        rw [h']
        exact h _ z' u' (I.tok _) rz (by rw [hw']; exact dz)
    refine ⟨call_meetsIn PySem.F.slot_dict_get dd.typeIs PySem.F.entry_dict_get (PySem.F.args_dict_get_3 _ _ _) (meets_dict_get_default _ a ki hs u) ⟨_, dd.mapOf, fin y u ry hz⟩, fun eu => ?_⟩
    subst eu
    exact call_meetsIn PySem.F.slot_dict_get dd.typeIs PySem.F.entry_dict_get (PySem.F.args_dict_get_2 _ _) (meets_dict_get _ a ki hs) ⟨_, dd.mapOf, fin y _ ry hz⟩
theorem mm_get1 (hK : X.K = T.K) (hw : X.w = T.w) (hu : X.A.units + 64 < cLine) : MtR X "dict.get" (LPm T .get1 .dct) := by
  intro pins s σ H x xs v us Q I rx rs h
  obtain ⟨d, ds, G, Q2, hd, hds, g, hk, h, k⟩ := h
  replace h : get1W (d :: ds) G Q2 := h
  unfold get1W at h
  split at h
  case h_2 => exact h.elim
  rename_i e
  cases e
  cases hd with
  | ref a =>
    obtain ⟨y, rfl, dy⟩ := dvs1 hds
    obtain ⟨uy, rfl, ry⟩ := vals1 rs
    cases rx
    split at h
    · rename_i kvs ha
      exact (d_getm hK hw hu I g ha h.1 dy ry (y := .non) (u := .none) (z := .non) .non rfl fun s' y u I' r dv => ⟨y, H, I', r, k _ _ _ _ h.2 (.refl H) dv g⟩).2 rfl
    · exact h.elim
theorem mm_get2 (hK : X.K = T.K) (hw : X.w = T.w) (hu : X.A.units + 64 < cLine) : MtR X "dict.get" (LPm T .get2 .dct) := by
  intro pins s σ H x xs v us Q I rx rs h
  obtain ⟨d, ds, G, Q2, hd, hds, g, hk, h, k⟩ := h
  replace h : get2W (d :: ds) G Q2 := h
  unfold get2W at h
  split at h
  case h_2 => exact h.elim
  rename_i e
  cases e
  cases hd with
  | ref a =>
    obtain ⟨y, z, rfl, dy, dz⟩ := dvs2 hds
    obtain ⟨uy, uz, rfl, ry, rz⟩ := vals2 rs
    cases rx
    split at h
    · rename_i kvs ha
      exact (d_getm hK hw hu I g ha h.1 dy ry dz rz fun s' y u I' r dv => ⟨y, H, I', r, k _ _ _ _ h.2 (.refl H) dv g⟩).1
    · exact h.elim
/-! ### d.update -/
theorem storedAll_of {H : Hp} {lvs : List (D × D)} {ys : List (NestedKey × Addr × Value)} (t : Paired (RxT T H) lvs ys) : ∀ {kvs : List (D × D)} {xs : List (NestedKey × Addr × Value)}, Paired (RxT T H) kvs xs → Paired (RxT T H) (lvs.foldl (fun m p => keyPut m p.1 p.2) kvs) (storedAllH xs ys) := by
  induction t with
  | nil => intro kvs xs r; exact r
  | @cons p y ls ms h t ih =>
    intro kvs xs r
    obtain ⟨h1, h2, v, h3, h4⟩ := h
    exact ih (dputT h1 h2 h3 h4 r)
theorem foldPut_facts : ∀ (lvs kvs : List (D × D)), (∀ p ∈ lvs, D.keyOk p.1 = true ∧ (D.isT p.1 = true ∨ flatK p.1 = true)) → KeysOk kvs → KeysOk (lvs.foldl (fun m p => keyPut m p.1 p.2) kvs) ∧ (lvs.foldl (fun m p => keyPut m p.1 p.2) kvs).length ≤ kvs.length + lvs.length
  | [], kvs, _, h => ⟨h, Nat.le_refl _⟩
  | p :: lvs, kvs, hl, h => by
    have h1 := foldPut_facts lvs (keyPut kvs p.1 p.2) (fun q hq => hl q (List.mem_cons_of_mem _ hq)) (h.put (hl p List.mem_cons_self))
    have := @keyPut_length kvs p.1 p.2
    refine ⟨h1.1, Nat.le_trans h1.2 ?_⟩
    rw [List.length_cons]
    omega
theorem mm_update (hK : X.K = T.K) (hw : X.w = T.w) (hu : X.A.units + 64 < cLine) : MtR X "dict.update" (LPm T .update .dct) := by
  intro pins s σ H x xs v us Q I rx rs h
  obtain ⟨d, ds, G, Q2, hd, hds, g, hk, h, k⟩ := h
  replace h : updateW (d :: ds) G Q2 := h
  unfold updateW at h
  split at h
  case h_2 => exact h.elim
  rename_i e
  cases e
  cases hd with
  | ref a =>
    obtain ⟨y, rfl, dy⟩ := dvs1 hds
    obtain ⟨uy, rfl, ry⟩ := vals1 rs
    cases rx
    cases dy with
    | ref b =>
      cases ry
      split at h
      · rename_i kvs lvs ha hb
        obtain ⟨ne, ne0, tk, hl, hz, h⟩ := h
        have tl : (lvs.all fun p => D.isT p.1) = true := List.all_eq_true.mpr fun p hp => (hl p hp).2
        obtain ⟨xs, dd, r, hs, _, ko, φ, hφ⟩ := cell_T hK hw I g ha tk
        obtain ⟨ys, dd2, r2, hs2, _, ko2, _⟩ := cell_T hK hw I g hb tl
        have e1 := r.length
        have e2 := r2.length
        have hkl : ∀ p ∈ lvs, D.keyOk p.1 = true ∧ (D.isT p.1 = true ∨ flatK p.1 = true) := fun p hp => kindOk_key (hl p hp).1
        obtain ⟨f1, f2⟩ := foldPut_facts lvs kvs hkl ko
        refine call_update_dictH (roomK hu) ne hs2 dd dd2 (.inl fun z => ne0 (by subst z; cases r; rfl)) (by rw [sizeLine_eq]; omega) fun h' d1 d2 sb => ?_
        obtain ⟨o', es', ep', q1, q2, q3, q4, _, q6⟩ := d1
        have rp := fun H' (x : Xt H H') => storedAll_of (paired_mono (fun p q (w : RxT T H p q) => (⟨w.1, w.2.1.mono x, w.2.2.imp fun v w => ⟨w.1, w.2.mono x⟩⟩ : RxT T H' p q)) r2) (paired_mono (fun p q (w : RxT T H p q) => (⟨w.1, w.2.1.mono x, w.2.2.imp fun v w => ⟨w.1, w.2.mono x⟩⟩ : RxT T H' p q)) r)
        obtain ⟨H', I', x', g'⟩ := dict_put (t' := s.toks) hK I g ha hφ sb q1 q2 q3 hs (fun H' x => by rw [q4, hw]; exact backT (rp H' x)) (by rw [nodupT (rp H (.refl H))]; exact nodup_some' q6) f1 (by omega)
        exact ⟨.non, H', I', rfl, k _ _ _ _ h x' .non g'⟩
      · exact h.elim
    | _ => exact h.elim
/-! ### list(..) -/
theorem cr_list2 (hK : X.K = T.K) (hc : X.calm = true) : CallR X (.type "list") (LP T .listOf) := by
  intro pins s σ H xs us Q I r h
  obtain ⟨ds, G, Q2, hd, g, h, k⟩ := h
  have h : listOfW ds G Q2 := h
  unfold listOfW at h
  split at h
  · obtain ⟨v, rfl, dv⟩ := dvs1 hd
    cases dv with
    | tup h1 h2 => exact call_list_of pins s σ H _ us Q I r ⟨_, _, rfl, .inr (by rw [hK]; exact h1), fun l hl => k _ _ _ _ (h l (g.free hl)) (.new hl) (.ref l) (g.add hl ⟨_, upd_same, h2.mono (.new hl)⟩)⟩
  · obtain ⟨v, rfl, dv⟩ := dvs1 hd
    cases dv with
    | ref a =>
    split at h
    · rename_i es ha
      obtain ⟨vs, h1, h2⟩ := g _ _ ha
      exact call_list_of pins s σ H _ us Q I r ⟨_, _, rfl, .inl (SqL.of h1), fun l hl => k _ _ _ _ (h l (g.free hl)) (.new hl) (.ref l) (g.add hl ⟨_, upd_same, h2.mono (.new hl)⟩)⟩
    · rename_i kvs ha
      obtain ⟨o, es, ep, h1, h2, h3, h4, h5, h6, h7, h8⟩ := g _ _ ha
      have ho := (I.hok _ _ h1).1
      obtain ⟨u, rfl, rx⟩ := vals1 r
      cases rx
      have e1 := h5.length
      have e2 : es.toList.length = es.size := by simp
      refine PySem.W.kdl_call (kdl_raw h2 h3 h4) (I.ok.hd hc) ho (by rw [sizeLine_eq]; omega) fun h' tk acc' c' hkeep hS hacc => ?_
      have hn := I.hok.fresh (Nat.le_refl s.heap.objs.size)
      have gen : ∀ {ks : List (D × D)} {ens : List DictEntry} {l : List Value}, Paired (EntR T H) ks ens → l.length = ens.length → (∀ (j : Nat) (v : Value), l[j]? = some v → ∃ en : DictEntry, ens[j]? = some en ∧ v = en.key) → ∃ vs, Vals vs l ∧ DVs T.K T.fa H vs (ks.map (·.1)) := by
        intro ks ens l p
        induction p generalizing l with
        | nil =>
          intro hl _
          have : l = [] := List.eq_nil_of_length_eq_zero hl
          subst this
          exact ⟨[], .nil, .nil⟩
        | @cons p q ks ens z zs ih =>
          intro hl hj
          cases l with
          | nil => cases hl
          | cons w l =>
            obtain ⟨vs, v1, v2⟩ := ih (l := l) (by simpa using hl) fun j v e => by
              obtain ⟨en, en1, en2⟩ := hj (j + 1) v (by simpa using e)
              exact ⟨en, by simpa using en1, en2⟩
            obtain ⟨en, en1, en2⟩ := hj 0 w rfl
            simp only [List.getElem?_cons_zero, Option.some.injEq] at en1
            subst en1 en2
            obtain ⟨kx, vx, n, z1, z2, _⟩ := z
            exact ⟨kx :: vs, .cons z1 v1, .cons z2 v2⟩
      obtain ⟨vs, v1, v2⟩ := gen h5 (l := acc'.toList) (by rw [Array.length_toList, hacc.1, e2]) fun j v e => by
        obtain ⟨en, en1, en2⟩ := hacc.2 j v (by rw [← Array.getElem?_toList]; exact e)
        exact ⟨en, by rw [Array.getElem?_toList]; exact en1, en2⟩
      refine ⟨.ref s.heap.objs.size, upd H s.heap.objs.size (.lst vs), I.laid hkeep (Nat.le_refl _) (show ObjOk X.prog X.w _ _ _ (.lst vs) from ⟨?_, acc'.toList, c', v1, ?_⟩), rfl, k _ _ _ _ (h _ (g.free hn)) (.new hn) (.ref _) (g.add hn ⟨_, upd_same, v2.mono (.new hn)⟩)⟩
      · rw [v2.length, List.length_map, sizeLine_eq]; omega
      · rw [Array.toArray_toList]; exact hS
    · exact h.elim
  · exact h.elim
/-! ### the methods' entries -/
theorem bm_append : BmAt T X "append" .append .lst := ⟨⟨"list.append", PySem.F.plainAttrs_list, PySem.F.slot_list_append, PySem.F.type_list_append, mm_append⟩⟩
theorem bm_pop0 : BmAt T X "pop" .pop0 .lst := ⟨⟨"list.pop", PySem.F.plainAttrs_list, PySem.F.slot_list_pop, PySem.F.type_list_pop, mm_pop0⟩⟩
theorem bm_pop1 : BmAt T X "pop" .pop1 .lst := ⟨⟨"list.pop", PySem.F.plainAttrs_list, PySem.F.slot_list_pop, PySem.F.type_list_pop, mm_pop1⟩⟩
theorem bm_indexL (hK : X.K = T.K) (hu : X.A.units + 64 < cLine) : BmAt T X "index" .index .lst := ⟨⟨"list.index", PySem.F.plainAttrs_list, PySem.F.slot_list_index, PySem.F.type_list_index, (mm_index hK hu).1⟩⟩
theorem bm_indexT (hK : X.K = T.K) (hu : X.A.units + 64 < cLine) : BmAt T X "index" .index .tup := ⟨⟨"tuple.index", PySem.F.plainAttrs_tuple, PySem.F.slot_tuple_index, PySem.F.type_tuple_index, (mm_index hK hu).2⟩⟩
theorem bm_get1 (hK : X.K = T.K) (hw : X.w = T.w) (hu : X.A.units + 64 < cLine) : BmAt T X "get" .get1 .dct := ⟨⟨"dict.get", PySem.F.plainAttrs_dict, PySem.F.slot_dict_get, PySem.F.type_dict_get, mm_get1 hK hw hu⟩⟩
theorem bm_get2 (hK : X.K = T.K) (hw : X.w = T.w) (hu : X.A.units + 64 < cLine) : BmAt T X "get" .get2 .dct := ⟨⟨"dict.get", PySem.F.plainAttrs_dict, PySem.F.slot_dict_get, PySem.F.type_dict_get, mm_get2 hK hw hu⟩⟩
theorem bm_update (hK : X.K = T.K) (hw : X.w = T.w) (hu : X.A.units + 64 < cLine) : BmAt T X "update" .update .dct := ⟨⟨"dict.update", PySem.F.plainAttrs_dict, PySem.F.slot_dict_update, PySem.F.type_dict_update, mm_update hK hw hu⟩⟩
end
end AT
end
section
set_option maxHeartbeats 4000000
/-! AT12: walks over data. -/
namespace PySem
open Sem (wp)
theorem at_meets_enum1 {v : Value} {o : Obj} {H : Heap → Prop} (B : Begins v o H) :
    Meets (Builtin.«enumerate.__new__» ⟨[.type "enumerate", v], []⟩) (fun _ R s => H s.heap ∧
      R (.ok (.ret (.ref (s.heap.push o).objs.size))) { s with heap := (s.heap.push o).push { cls := .type "enumerate", data := .fields #[.none, .bool false, .ref s.heap.objs.size, rawInt 0, .none, .none] } }) :=
  .of_wp fun prog w A R s h => by
    obtain ⟨hp, g, d, tk, os⟩ := s; obtain ⟨h1, h⟩ := h
    have hsub := sub_enumerate
    have q1 : ∀ {A' : Around} {E : Value → Shared → Prop} {Q : Value → Shared → Prop}, Q (.ref hp.objs.size) ⟨hp.push o, g, d, tk, os⟩ → wpAny (model prog w) A' (pyIter v) Q E ⟨hp, g, d, tk, os⟩ :=
      fun q => B.iter prog w _ _ ⟨hp, g, d, tk, os⟩ _ h1 q
    wp_walk using q1
    refine wpAny_stack_any fun st => wpAny_pure ?_
    split
    · rename_i c _ _ _ _ _
      cases (c == Value.type "enumerate")
      · wp_walk using q1
        exact ⟨_, rfl, h⟩
      · wp_walk using q1
        exact ⟨_, rfl, h⟩
    · wp_walk using q1
      exact ⟨_, rfl, h⟩
section
variable {prog : Program} {w : World} {A : Around} {E : Value → Shared → Prop} {s : Shared}
theorem at_call_enum {v : Value} {o : Obj} {H : Heap → Prop} {Q : Value → Shared → Prop} (B : Begins v o H) (h1 : H s.heap)
    (h : ∀ h', IsEnum h' (s.heap.objs.size + 1) s.heap.objs.size 0 .none → h'.get? s.heap.objs.size = some o → h'.objs.size = s.heap.objs.size + 2 →
      (∀ b o, s.heap.get? b = some o → h'.get? b = some o) → Q (.ref (s.heap.objs.size + 1)) { s with heap := h' }) :
    wpAny (model prog w) A (call (.type "enumerate") [v]) Q E s := by
  refine callType_new F.called_enumerate (by decide) (F.typeCall_enumerate_1 _) (F.newCall_enumerate_1 _) (fun obj => F.args_object_init_2 obj _) F.entry_enumerate_new
    (at_meets_enum1 B) ⟨h1, ?_⟩
  have hz : (s.heap.push o).objs.size = s.heap.objs.size + 1 := Heap.size_push ..
  show _ ∧ _
  rw [hz]
  have he : IsEnum ((s.heap.push o).push { cls := .type "enumerate", data := .fields #[.none, .bool false, .ref s.heap.objs.size, rawInt 0, .none, .none] }) (s.heap.objs.size + 1) s.heap.objs.size 0 .none := by
    have := Heap.get?_push_size (s.heap.push o) (o := { cls := .type "enumerate", data := .fields #[.none, .bool false, .ref s.heap.objs.size, rawInt 0, .none, .none] }) rfl
    rw [hz] at this; exact this
  refine ⟨⟨_, he, rfl⟩, h _ he (Heap.get?_push_of_some _ (Heap.get?_push_size _ B.free)) (by rw [Heap.size_push, hz]) fun b o x => Heap.get?_push_of_some _ (Heap.get?_push_of_some _ x)⟩
end
end PySem
namespace AT
open PySem PySem.Spec PyProof.Rows L2 SeqAt
/-! ### enumerate(tuple) -/
def IteT (K : PySem.W.Frag) (a : Addr) : It :=
  ⟨fun i H => ∃ (xs : List V) (x : V), SqT K H a xs ∧ xs[i]? = some x, fun i H v H' => ∃ T x, v = .ref T ∧ H T = none ∧ H' = upd H T (.tup [.int (i : Nat), x]) ∧ ∀ xs, SqT K H a xs → xs[i]? = some x, fun i H => ∃ xs : List V, SqT K H a xs ∧ xs.length ≤ i⟩
theorem tup_iter_state {h : Heap} {a it : Addr} {its : Array Value} {i : Nat} (p : IsTup h a its) (x : h.IsTupleIter it a i) : h.IsTupleIter it a i ∧ h.IsTuple a its := ⟨x, p⟩
theorem turn_enumT {P : Program} {w : World} {K : PySem.W.Frag} {elts : List Expr} {kk : Nat} {tpos : Pos} (a e it : Addr) (hai : a ≠ it) (hea : e ≠ a) :
    Turn P w K (.Tuple elts kk tpos) (IteT K a) [e, it] e (fun i h => (∃ old, IsEnum h e it ((i : Nat) : Int) old) ∧ h.IsTupleIter it a i ∧ e ≠ it) where
  mem := by simp
  obj := fun i h st b hb => by
    obtain ⟨⟨old, he⟩, ⟨o, ho, hc, hd⟩, _⟩ := st
    have e' : b = e ∨ b = it := by simpa using hb
    rcases e' with z | z
    · rw [z]; exact ⟨_, he, fun v q => nomatch q⟩
    · rw [z]; exact ⟨o, ho, fun v q => by rw [hd] at q; cases q⟩
  keep := fun i h h' st k => let ⟨⟨old, he⟩, hi, hne⟩ := st; ⟨⟨old, k e (by simp) _ he⟩, hi.at fun o q => k it (by simp) o q, hne⟩
  item := by
    intro X hP hw hK hc i pins s σ H E I hf st hg
    subst hP hw hK
    obtain ⟨⟨old, he⟩, hit, hne⟩ := st
    obtain ⟨xs, x, hq, hx⟩ := hg
    obtain ⟨its, rv, p, hz⟩ := I.tuple hq
    obtain ⟨u, hu, ru⟩ := rv.get hx
    have hel : e < s.heap.objs.size := Heap.lt_size he
    have hil : it < s.heap.objs.size := by obtain ⟨_, q, _⟩ := hit; exact Heap.lt_size q
    have D := Draws.tuple (prog := X.prog) (w := X.w) (A := X.A.in1) (I.ok.hd hc) it a hai its.toArray
    have hlt : i < its.toArray.size := by
      have := (List.getElem?_eq_some_iff.mp hu).1
      simpa using this
    refine wpAny_pyNext_enum_itemC (c := (i : Int)) D he ⟨hit, p⟩ hlt hne (by simp [hne, hea]) fun u' h' tk hu' ho hit' hT hsz hk => ?_
    have eu : u' = u := by
      have : its.toArray[i]? = some u := by simpa using hu
      rw [this] at hu'
      exact (Option.some.inj hu').symm
    subst eu
    refine ⟨_, rfl, wpAny_letOwnedTupleGo_enum (s := { s with heap := h', toks := tk + 1 }) ho fun h'' he' sb => ?_⟩
    have hT2 : h''.get? s.heap.objs.size = some { cls := .type "tuple", data := .seq #[.int i tk, u'] } := (sb.2 _ (Nat.ne_of_gt hel)).trans hT
    have new : ObjOk X.prog X.w (upd H s.heap.objs.size (.tup [.int (i : Nat), x])) h'' s.heap.objs.size (.tup [.int (i : Nat), x]) :=
      ⟨by show 2 ≤ sizeLine; decide, [.int i tk, u'], .cons ⟨_, rfl⟩ (.cons ru .nil), ⟨_, hT2, rfl, _, rfl⟩⟩
    have I1 : Inv X pins σ (upd H s.heap.objs.size (.tup [.int (i : Nat), x])) { s with heap := h'', toks := tk + 1 } :=
      I.turnedNew (ch := [e, it]) (fun b ob hb q => (sb.2 b (fun z => hb (by simp [z]))).trans (hk b ob (fun z => hb (by simp [z])) (fun z => hb (by simp [z])) q)) hf (Nat.le_refl _) new
    refine ⟨.ref s.heap.objs.size, _, I1, rfl, ⟨_, x, rfl, I.hok.fresh (Nat.le_refl _), rfl, fun ys hy => by rw [I.tuple_inj hy hq]; exact hx⟩, ⟨⟨u', ?_⟩, hit'.1.at fun o q => (sb.2 it (Ne.symm hne)).trans q, hne⟩, fun b hb => ?_⟩
    · have e1 : ((i + 1 : Nat) : Int) = (i : Int) + 1 := by omega
      rw [e1]; exact he'
    · have hb' : b < s.heap.objs.size := by
        have e' : b = e ∨ b = it := by simpa using hb
        rcases e' with z | z
        · rw [z]; exact hel
        · rw [z]; exact hil
      rw [upd_ne (Nat.ne_of_lt hb')]
      exact (hf b hb).1
  done := by
    intro X hP hw hK hc i pins s σ H E I hf st hg
    subst hP hw hK
    obtain ⟨⟨old, he⟩, hit, hne⟩ := st
    obtain ⟨xs, hq, hx⟩ := hg
    obtain ⟨its, rv, p, hz⟩ := I.tuple hq
    obtain ⟨f0, f1, f2, f3, f4, f5⟩ := hf it (by simp)
    have hl := rv.length
    have hT : s.TypeIs (.ref e) "enumerate" := ⟨_, he, rfl⟩
    unfold pyNext
    refine wpAny_bind (wpAny_attempt (wpAny_callSpecial?_slot (name := Str.ofString "__next__") hT F.slot_enumerate_next
      (wpAny_call_entry F.slot_enumerate_next hT F.entry_enumerate_next ?_ (F.args_enumerate_next_1 _))))
    show wpAny _ _ (field (.ref e) 2 >>= _) _ _ _
    refine wpAny_bind (wpAny_field he rfl (x := .ref it) rfl ?_)
    refine wpAny_bind (wpAny_nextOf_tuple_end (I.ok.hd hc) hit p (by simp; omega) fun h' x he' hx' => ?_)
    obtain ⟨o, ho, hc⟩ := hx'
    refine wpAny_bind (wpAny_isInstance (T := "StopIteration") (b := true) ⟨o, ho, hc⟩ isSubtype_stop ?_)
    exact wpAny_pure ⟨rfl, I.turned (t' := s.toks) (fun b o hb q => he' b o hb q) f0 f1 f3 f4 f5⟩
  self := fun A i s Q E st h => let ⟨⟨_, he⟩, _⟩ := st; wpAny_pyIter_enum he h
def iEnumT (K : PySem.W.Frag) (ta : TA) : TI := fun σ H R => ta σ H fun vs H1 => ∃ a xs, vs = [.ref a] ∧ SqT K H1 a xs ∧ R (IteT K a) H1
def iEnumB (K : PySem.W.Frag) (ta : TA) : TI := fun σ H R => ta σ H fun vs H1 => (∃ a xs, vs = [.ref a] ∧ SqL K H1 a xs ∧ R (Ite K a) H1) ∨ ∃ a xs, vs = [.ref a] ∧ SqT K H1 a xs ∧ R (IteT K a) H1
/-- over a list, over a tuple -/
theorem pi_enumB {X : Cx} {e : Expr} {ta : TA} {p pos tpos : Pos} {elts : List Expr} {kk : Nat} (hg : Gl X "enumerate") (hm : X.mg "enumerate" = none) (ha : PA X [e] ta) (hs : starEach [e] X.env = [(false, eval e X.env)]) :
    PI X (.Tuple elts kk tpos) (.Call (.Name "enumerate" p) [e] [] pos) (iEnumB X.K ta) := by
  refine ⟨fun pins s σ H R I h => ?_⟩
  refine Call_ (ld_blt I hg hm boot_enumerate (PyProof.Rows.callWith_type1 (thn (ha.run pos pins s σ H _ I h) fun us s1 ⟨vs, H1, I1, r1, q1⟩ => ?_) hs rfl))
  rcases q1 with ⟨a, xs, ex, hq, q⟩ | ⟨a, xs, ex, hq, q⟩
  · subst ex
    cases r1 with
    | cons r rr =>
      cases rr
      cases r
      obtain ⟨its, rv, p', hz⟩ := I1.list hq
      refine call_enumerate_list p'.isList fun h' he hit hsz hk => wpAny_pyIter_enum he ?_
      have I2 : Inv X pins σ H1 { s1 with heap := h' } := I1.kept (t' := s1.toks) hk
      refine ⟨s1.heap.objs.size + 1, [s1.heap.objs.size + 1, s1.heap.objs.size], _, _, H1, rfl, I2, turn_enum a (s1.heap.objs.size + 1) s1.heap.objs.size, ⟨⟨.none, he⟩, hit, Nat.succ_ne_self _⟩, fun b hb => ?_, q⟩
      have e' : b = s1.heap.objs.size + 1 ∨ b = s1.heap.objs.size := by simpa using hb
      have hle : s1.heap.objs.size ≤ b := by
        rcases e' with z | z
        · rw [z]; exact Nat.le_add_right _ _
        · rw [z]; exact Nat.le_refl _
      exact I1.fpOk hle (I1.hok.fresh hle)
  · subst ex
    cases r1 with
    | cons r rr =>
      cases rr
      cases r
      obtain ⟨its, rv, p', hz⟩ := I1.tuple hq
      have hal : a < s1.heap.objs.size := by obtain ⟨o, ho, _⟩ := p'; exact Heap.lt_size ho
      refine at_call_enum (begins_tuple a its.toArray) p' fun h' he hit hsz hk => wpAny_pyIter_enum he ?_
      have I2 : Inv X pins σ H1 { s1 with heap := h' } := I1.kept (t' := s1.toks) hk
      refine ⟨s1.heap.objs.size + 1, [s1.heap.objs.size + 1, s1.heap.objs.size], _, _, H1, rfl, I2, turn_enumT a (s1.heap.objs.size + 1) s1.heap.objs.size (Nat.ne_of_lt hal) (Nat.ne_of_gt (Nat.lt_succ_of_lt hal)), ⟨⟨.none, he⟩, ⟨_, hit, rfl, rfl⟩, Nat.succ_ne_self _⟩, fun b hb => ?_, q⟩
      have e' : b = s1.heap.objs.size + 1 ∨ b = s1.heap.objs.size := by simpa using hb
      have hle : s1.heap.objs.size ≤ b := by
        rcases e' with z | z
        · rw [z]; exact Nat.le_add_right _ _
        · rw [z]; exact Nat.le_refl _
      exact I1.fpOk hle (I1.hok.fresh hle)
/-! ### walks told by data -/
structure WalkD (T : Wd) (H1 : Hp) (J : It) (ds : List D) (chk : Gp → Prop) : Prop where
  goes : ∀ i H G, Xt H1 H → chk G → GR T G H → i < ds.length → J.go i H
  stops : ∀ H G, Xt H1 H → chk G → GR T G H → J.stop ds.length H
  yields : ∀ i H G x H' d, Xt H1 H → chk G → GR T G H → ds[i]? = some d → J.yld i H x H' → Xt H H' ∧ GR T G H' ∧ DV T.K T.fa H' x d
abbrev TI2 := AT.St → Gp → (List D → (Gp → Prop) → Gp → Prop) → Prop
def LI (T : Wd) (H0 : Hp) (t : TI2) : TI := fun σ H R => ∃ (σd : AT.St) (G : Gp) (Q2 : List D → (Gp → Prop) → Gp → Prop), Xt H0 H ∧ SR T H σ σd ∧ GR T G H ∧ t σd G Q2 ∧
  ∀ ds chk G' J H', Q2 ds chk G' → Xt H H' → GR T G' H' → WalkD T H' J ds chk → R J H'
section
variable {T : Wd} {X : Cx} {H0 : Hp} {a b e tg : Expr} {pos p : Pos} {ta tb : TE2}
theorem walkD_tup (hK : X.K = T.K) {H1 : Hp} {ad : Addr} {vs : List V} {ds : List D} (h1 : SqT T.K H1 ad vs) (h2 : DVs T.K T.fa H1 vs ds) : WalkD T H1 (Itt X.K ad) ds (fun _ => True) where
  goes := fun i H G x c g hi => ⟨vs, vs[i]'(by rw [h2.length]; exact hi), by rw [hK]; exact x.sqT h1, by simp⟩
  stops := fun H G x c g => ⟨vs, by rw [hK]; exact x.sqT h1, by rw [h2.length]; exact Nat.le_refl _⟩
  yields := fun i H G x H' d xt c g hd y => by
    obtain ⟨e, y⟩ := y
    subst e
    obtain ⟨v, v1, v2⟩ := h2.get hd
    have := y vs (by rw [hK]; exact xt.sqT h1)
    rw [v1] at this
    cases this
    exact ⟨.refl _, g, v2.mono xt⟩
theorem walkD_lst {H1 : Hp} {ad : Addr} {ds : List D} : WalkD T H1 (Itl X.K ad) ds (fun G => G ad = some (.lst ds)) where
  goes := fun i H G x c g hi => by
    obtain ⟨vs, h1, h2⟩ := g ad _ c
    exact ⟨vs, vs[i]'(by rw [h2.length]; exact hi), SqL.of h1, by simp⟩
  stops := fun H G x c g => by
    obtain ⟨vs, h1, h2⟩ := g ad _ c
    exact ⟨vs, SqL.of h1, by rw [h2.length]; exact Nat.le_refl _⟩
  yields := fun i H G x H' d xt c g hd y => by
    obtain ⟨vs, h1, h2⟩ := g ad _ c
    obtain ⟨e, y⟩ := y
    subst e
    obtain ⟨v, v1, v2⟩ := h2.get hd
    have := y vs (SqL.of h1)
    rw [v1] at this
    cases this
    exact ⟨.refl _, g, v2⟩
/-- over a list or a tuple -/
def iSeq (K : PySem.W.Frag) (tl : TE) : TI := fun σ H R => tl σ H fun x H1 => ∃ a, x = .ref a ∧ (((∃ xs, SqL K H1 a xs) ∧ R (Itl K a) H1) ∨ ((∃ xs, SqT K H1 a xs) ∧ R (Itt K a) H1))
theorem pi_seq {l : Expr} {tl : TE} (hl : PE X l tl) : PI X tg l (iSeq X.K tl) := by
  refine ⟨fun pins s σ H R I h => ?_⟩
  refine thn (hl.run pins s σ H _ I h) fun v s1 ⟨x, H1, I1, r1, a, ex, q⟩ => ?_
  subst ex
  cases r1
  rcases q with ⟨⟨xs, hq⟩, q⟩ | ⟨⟨xs, hq⟩, q⟩
  · obtain ⟨its, _, pl, _⟩ := I1.list hq
    refine wpAny_pyIter_list pl.isList ?_
    refine ⟨s1.heap.objs.size, [s1.heap.objs.size], _, _, H1, rfl, I1.kept (t' := s1.toks) fun b o e => Heap.get?_push_of_some _ e, turn_list a _, ⟨_, Heap.get?_push_size _ rfl, rfl, rfl⟩, fun b hb => ?_, q⟩
    have e : b = s1.heap.objs.size := by simpa using hb
    subst e
    exact I1.fpOk (Nat.le_refl _) (I1.hok.fresh (Nat.le_refl _))
  · obtain ⟨its, rv, p, hz⟩ := I1.tuple hq
    refine wpAny_pyIter_tuple (show s1.heap.IsTuple a its.toArray from p) ?_
    refine ⟨s1.heap.objs.size, [s1.heap.objs.size], _, _, H1, rfl, I1.kept (t' := s1.toks) fun b o e => Heap.get?_push_of_some _ e, turn_tuple a _, ⟨_, Heap.get?_push_size _ rfl, rfl, rfl⟩, fun b hb => ?_, q⟩
    have e : b = s1.heap.objs.size := by simpa using hb
    subst e
    exact I1.fpOk (Nat.le_refl _) (I1.hok.fresh (Nat.le_refl _))
theorem li_seq (hK : X.K = T.K) (ha : PE X a (LE T H0 ta)) : PI X tg a (LI T H0 fun σ G Q => ta σ G fun x G1 => match x with
    | .tup ds => Q ds (fun _ => True) G1
    | .ref a => match G1 a with
      | some (.lst ds) => Q ds (fun G2 => G2 a = some (.lst ds)) G1
      | _ => False
    | _ => False) := by
  refine ⟨fun pins s σ H R I h => (pi_seq ha).run pins s σ H R I ?_⟩
  obtain ⟨σd, G, Q2, x0, sr, g, h, k⟩ := h
  refine ⟨σd, G, _, x0, sr, g, h, fun d G1 v H1 q x1 dv g1 => ?_⟩
  cases dv with
  | tup h1 h2 => exact ⟨_, rfl, .inr ⟨⟨_, by rw [hK]; exact h1⟩, k _ _ _ _ _ q x1 g1 (walkD_tup hK h1 h2)⟩⟩
  | ref ad =>
    simp only at q
    split at q
    · rename_i ds hd
      obtain ⟨vs, h1, h2⟩ := g1 _ _ hd
      exact ⟨_, rfl, .inl ⟨⟨_, SqL.of h1⟩, k _ _ _ _ _ q x1 g1 walkD_lst⟩⟩
    · exact q.elim
  | _ => exact q.elim
theorem walkD_range {H1 : Hp} {lo : Int} {n : Nat} {ds : List D} (hd : ds = (List.range n).map fun i => D.int (lo + (i : Nat))) : WalkD T H1 (Itr lo n) ds (fun _ => True) where
  goes := fun i H G x c g hi => by
    subst hd
    rw [List.length_map, List.length_range] at hi
    exact hi
  stops := fun H G x c g => by subst hd; exact Nat.le_of_eq (by simp)
  yields := fun i H G x H' d xt c g hi y => by
    obtain ⟨e, y⟩ := y
    subst e y hd
    rw [List.getElem?_map] at hi
    cases q : (List.range n)[i]? with
    | none => rw [q] at hi; cases hi
    | some j =>
      rw [q] at hi
      obtain ⟨hj, ej⟩ := List.getElem?_eq_some_iff.mp q
      rw [List.getElem_range] at ej
      subst ej
      cases hi
      exact ⟨.refl _, g, .int _⟩
theorem li_rng1 (hg : Gl X "range") (hm : X.mg "range" = none) (ha : PE X a (LE T H0 ta)) (hs : starEach [a] X.env = [(false, eval a X.env)]) : PI X tg (.Call (.Name "range" p) [a] [] pos) (LI T H0 fun σ G Q => ta σ G fun x G1 => match x with
    | .int n => (-16777216 ≤ n ∧ n ≤ 16777216) ∧ Q ((List.range n.toNat).map fun i => D.int (i : Nat)) (fun _ => True) G1
    | _ => False) := by
  refine ⟨fun pins s σ H R I h => (pi_range1 hg hm (pa_cons ha pa_nil hs) hs).run pins s σ H R I ?_⟩
  obtain ⟨σd, G, Q2, x0, sr, g, h, k⟩ := h
  refine ⟨σd, G, _, x0, sr, g, h, fun d G1 v H1 q x1 dv g1 => ?_⟩
  cases dv with
  | int n =>
    obtain ⟨⟨h1, h2⟩, q⟩ := q
    exact ⟨n, rfl, by omega, by omega, k _ _ _ _ _ q x1 g1 (walkD_range (by
      refine congrArg (fun f => List.map f _) ?_
      funext i
      rw [Int.zero_add]))⟩
  | _ => exact q.elim
theorem li_rng2 (hg : Gl X "range") (hm : X.mg "range" = none) (ha : PE X a (LE T H0 ta)) (hb : PE X b (LE T H0 tb)) (hs : starEach [a, b] X.env = [(false, eval a X.env), (false, eval b X.env)]) (hs2 : starEach [b] X.env = [(false, eval b X.env)]) :
    PI X tg (.Call (.Name "range" p) [a, b] [] pos) (LI T H0 fun σ G Q => ta σ G fun x G1 => tb σ G1 fun y G2 => match x, y with
    | .int m, .int n => (0 ≤ m ∧ m ≤ 16777216 ∧ -16777216 ≤ n ∧ n ≤ 16777216) ∧ Q ((List.range (n - m).toNat).map fun i => D.int (m + (i : Nat))) (fun _ => True) G2
    | _, _ => False) := by
  refine ⟨fun pins s σ H R I h => (pi_range2 hg hm (pa_cons ha (pa_cons hb pa_nil hs2) (by rw [hs, hs2])) hs hs2).run pins s σ H R I ?_⟩
  obtain ⟨σd, G, Q2, x0, sr, g, h, k⟩ := h
  refine ⟨σd, G, _, x0, sr, g, h, fun d G1 v H1 q x1 dv g1 => ⟨σd, G1, _, x0.trans x1, sr.mono x1, g1, q, fun e G2 v2 H2 q2 x2 dv2 g2 => ?_⟩⟩
  cases dv with
  | int m =>
    cases dv2 with
    | int n =>
      obtain ⟨⟨h1, h2, h3, h4⟩, q2⟩ := q2
      exact ⟨m, n, rfl, ⟨by omega, by omega, by omega, by omega⟩, k _ _ _ _ _ q2 (x1.trans x2) g2 (walkD_range rfl)⟩
    | _ => exact q2.elim
  | _ => exact q2.elim
theorem walkD_enL {H1 : Hp} {ad : Addr} {ds : List D} : WalkD T H1 (Ite X.K ad) (ds.mapIdx fun i d => D.tup [.int (i : Nat), d]) (fun G => G ad = some (.lst ds)) where
  goes := fun i H G x c g hi => by
    obtain ⟨vs, h1, h2⟩ := g ad _ c
    rw [List.length_mapIdx] at hi
    exact ⟨vs, vs[i]'(by rw [h2.length]; exact hi), SqL.of h1, by simp⟩
  stops := fun H G x c g => by
    obtain ⟨vs, h1, h2⟩ := g ad _ c
    exact ⟨vs, SqL.of h1, by rw [h2.length, List.length_mapIdx]; exact Nat.le_refl _⟩
  yields := fun i H G x H' d xt c g hd y => by
    obtain ⟨vs, h1, h2⟩ := g ad _ c
    obtain ⟨P, z, rfl, hn, rfl, y⟩ := y
    rw [List.getElem?_mapIdx, Option.map_eq_some_iff] at hd
    obtain ⟨e, he, rfl⟩ := hd
    obtain ⟨v, v1, v2⟩ := h2.get he
    have := y vs (SqL.of h1)
    rw [v1] at this
    cases this
    exact ⟨.new hn, g.new hn, .tup (SqT.of upd_same) (.cons (.int _) (.cons (v2.mono (.new hn)) .nil))⟩
theorem walkD_enT (hK : X.K = T.K) {H1 : Hp} {ad : Addr} {vs : List V} {ds : List D} (h1 : SqT T.K H1 ad vs) (h2 : DVs T.K T.fa H1 vs ds) : WalkD T H1 (IteT X.K ad) (ds.mapIdx fun i d => D.tup [.int (i : Nat), d]) (fun _ => True) where
  goes := fun i H G x c g hi => by
    rw [List.length_mapIdx] at hi
    exact ⟨vs, vs[i]'(by rw [h2.length]; exact hi), by rw [hK]; exact x.sqT h1, by simp⟩
  stops := fun H G x c g => ⟨vs, by rw [hK]; exact x.sqT h1, by rw [h2.length, List.length_mapIdx]; exact Nat.le_refl _⟩
  yields := fun i H G x H' d xt c g hd y => by
    obtain ⟨P, z, rfl, hn, rfl, y⟩ := y
    rw [List.getElem?_mapIdx, Option.map_eq_some_iff] at hd
    obtain ⟨e, he, rfl⟩ := hd
    obtain ⟨v, v1, v2⟩ := h2.get he
    have := y vs (by rw [hK]; exact xt.sqT h1)
    rw [v1] at this
    cases this
    exact ⟨.new hn, g.new hn, .tup (SqT.of upd_same) (.cons (.int _) (.cons ((v2.mono xt).mono (.new hn)) .nil))⟩
theorem li_enu {elts : List Expr} {kk : Nat} {tpos : Pos} (hK : X.K = T.K) (hg : Gl X "enumerate") (hm : X.mg "enumerate" = none) (ha : PE X a (LE T H0 ta)) (hs : starEach [a] X.env = [(false, eval a X.env)]) :
    PI X (.Tuple elts kk tpos) (.Call (.Name "enumerate" p) [a] [] pos) (LI T H0 fun σ G Q => ta σ G fun x G1 => match x with
    | .tup ds => Q (ds.mapIdx fun i d => D.tup [.int (i : Nat), d]) (fun _ => True) G1
    | .ref a => match G1 a with
      | some (.lst ds) => Q (ds.mapIdx fun i d => D.tup [.int (i : Nat), d]) (fun G2 => G2 a = some (.lst ds)) G1
      | _ => False
    | _ => False) := by
  refine ⟨fun pins s σ H R I h => (pi_enumB hg hm (pa_cons ha pa_nil hs) hs).run pins s σ H R I ?_⟩
  obtain ⟨σd, G, Q2, x0, sr, g, h, k⟩ := h
  refine ⟨σd, G, _, x0, sr, g, h, fun d G1 v H1 q x1 dv g1 => ?_⟩
  cases dv with
  | tup h1 h2 => exact .inr ⟨_, _, rfl, by rw [hK]; exact h1, k _ _ _ _ _ q x1 g1 (walkD_enT hK h1 h2)⟩
  | ref ad =>
    simp only at q
    split at q
    · rename_i ds hd
      obtain ⟨vs, h1, h2⟩ := g1 _ _ hd
      exact .inl ⟨_, _, rfl, SqL.of h1, k _ _ _ _ _ q x1 g1 walkD_enL⟩
    · exact q.elim
  | _ => exact q.elim
end
end AT
end
section
set_option maxHeartbeats 4000000
/-! AT13: targets, comprehensions. -/
namespace AT
open PySem PySem.Spec PyProof.Rows L2 SeqAt
theorem wipe_set {σ : L2.St} {i : Nat} {x : Option V} : ∀ {vs : List Nat}, i ∈ vs → L2.wipe (σ.set i x) vs = L2.wipe σ vs
  | [], h => by cases h
  | v :: vs, h => by
    unfold L2.wipe
    by_cases hi : i ∈ vs
    · rw [wipe_set hi]
    · have e : v = i := by
        rcases List.mem_cons.mp h with z | z
        · exact z.symm
        · exact absurd z hi
      subst e
      have gen : ∀ (vs : List Nat) (σ : L2.St), (L2.wipe (σ.set v x) vs).set v none = (L2.wipe σ vs).set v none := by
        intro vs
        induction vs with
        | nil => intro σ; simp [L2.wipe]
        | cons w ws ih =>
          intro σ
          unfold L2.wipe
          by_cases hw : w = v
          · subst hw
            simp [List.set_set, ih]
          · rw [List.set_comm _ _ hw, ih, List.set_comm _ _ hw]
      exact gen vs σ
theorem SR.wipe {T : Wd} {H : Hp} {σ : L2.St} {σd : AT.St} (h : SR T H σ σd) : ∀ vs : List Nat, SR T H (L2.wipe σ vs) (AT.wipe σd vs)
  | [] => h
  | v :: vs => by
    unfold L2.wipe AT.wipe
    exact (SR.wipe h vs).clear
/-- no starred target -/
def PlG (env : Env) : List Expr → Prop
  | [] => True
  | e :: es => assignEach (e :: es) env = (false, assign e env) :: assignEach es env ∧ PlG env es
theorem PlG.len {env : Env} : ∀ {es : List Expr}, PlG env es → (assignEach es env).length = es.length ∧ (assignEach es env).findIdx? (·.1) = none
  | [], _ => ⟨rfl, rfl⟩
  | e :: es, ⟨h, r⟩ => by
    rw [h]
    obtain ⟨h1, h2⟩ := r.len
    exact ⟨by rw [List.length_cons, List.length_cons, h1], by rw [List.findIdx?_cons, h2]; rfl⟩
section
variable {T : Wd} {X : Cx} {H0 : Hp} {a b c e o : Expr} {es : List Expr} {pos apos : Pos} {ta tb tc : TE2} {sl : List Nat} {tg : TG2} {tgs : TGs2}
theorem lg_name {i : Nat} {x : Str} (hN : X.N.Nodup) (hi : X.N[i]? = some x) (hx : Loc X.env.scope x) (hf : X.fn x = true ∨ X.env.scope.names.lookup x = some .local) : PG X (.Name x pos) (LG T H0 [i] fun d σ G Q => Q (σ.set i (some d)) G) := by
  refine PG.imp (pg_name hN hi hx hf) ?_
  rintro v σ H Q ⟨d, σd, G, Q2, x0, dv, sr, g, h, k⟩
  exact k _ _ _ _ h (.refl H) (sr.set dv) g fun vs hv => wipe_set (hv i (List.mem_singleton.mpr rfl))
theorem lgs_nil : PGs X [] (LGs T H0 [] fun ds σ G Q => match ds with
    | [] => Q σ G
    | _ => False) := by
  refine PGs.imp pgs_nil ?_
  rintro v σ H Q ⟨d, σd, G, Q2, x0, dv, sr, g, h, k⟩
  cases dv with
  | nil => exact ⟨rfl, k _ _ _ _ h (.refl H) sr g fun _ _ => rfl⟩
  | cons _ _ => exact h.elim
theorem lgs_cons {s1 s2 : List Nat} (h1 : PG X e (LG T H0 s1 tg)) (h2 : PGs X es (LGs T H0 s2 tgs)) (hs : assignEach (e :: es) X.env = (false, assign e X.env) :: assignEach es X.env) :
    PGs X (e :: es) (LGs T H0 (s1 ++ s2) fun ds σ G Q => match ds with
    | [] => False
    | d :: ds => tg d σ G fun σ1 G1 => tgs ds σ1 G1 Q) := by
  refine PGs.imp (pgs_cons h1 h2 (by rw [hs]; rfl)) ?_
  rintro v σ H Q ⟨d, σd, G, Q2, x0, dv, sr, g, h, k⟩
  cases dv with
  | nil => exact h.elim
  | cons d1 d2 =>
    refine ⟨_, _, rfl, _, σd, G, _, x0, d1, sr, g, h, fun σ1 G1 σ' H1 q x1 sr1 g1 w1 => ?_⟩
    exact ⟨_, σ1, G1, Q2, x0.trans x1, d2.mono x1, sr1, g1, q, fun σ2 G2 σ'' H2 q2 x2 sr2 g2 w2 => k _ _ _ _ q2 (x1.trans x2) sr2 g2 fun vs hv => (w2 vs fun i hi => hv i (List.mem_append_right _ hi)).trans (w1 vs fun i hi => hv i (List.mem_append_left _ hi))⟩
theorem lg_tup {k : Nat} (hK : X.K = T.K) (hc : X.calm = true) (h : PGs X es (LGs T H0 sl tgs)) (pl : PlG X.env es) {n : Nat} (hn : es.length = n) : PG X (.Tuple es k pos) (LG T H0 sl fun d σ G Q => match d with
    | .tup ds => ds.length = n ∧ tgs ds σ G Q
    | _ => False) := by
  refine PG.imp (pg_tup (n := es.length) hc h pl.len.1 pl.len.2) ?_
  rintro v σ H Q ⟨d, σd, G, Q2, x0, dv, sr, g, h, k⟩
  cases dv with
  | tup h1 h2 => exact ⟨_, _, rfl, by rw [hK]; exact h1, by rw [h2.length, hn]; exact h.1, _, σd, G, Q2, x0, h2, sr, g, h.2, k⟩
  | _ => exact h.elim
/-! ### o[i] = v -/
def subW (x k d : D) (G : Gp) (Q : Gp → Prop) : Prop := match x with
    | .ref a => match G a with
      | some (.lst ds) => match k with
        | .int j => match AT.ixN ds.length j with
          | some n => Q (up G a (.lst (ds.set n d)))
          | none => False
        | _ => False
      | some (.dct kvs) => kindOk kvs k = true ∧ kvs.length < 1000000 ∧ Q (up G a (.dct (keyPut kvs k d)))
      | _ => False
    | _ => False
def LSet (T : Wd) : TSet := fun o i v H Q => ∃ (x k d : D) (G : Gp) (Q2 : Gp → Prop), DV T.K T.fa H o x ∧ DV T.K T.fa H i k ∧ DV T.K T.fa H v d ∧ GR T G H ∧ subW x k d G Q2 ∧ ∀ G' H', Q2 G' → Xt H H' → GR T G' H' → Q H'
theorem set_any (hK : X.K = T.K) (hw : X.w = T.w) (hu : X.A.units + 64 < cLine) : PSet X (LSet T) := by
  intro pins s σ H o i v ov iv u Q I ro ri rv h
  obtain ⟨x, k, d, G, Q2, dx, dk, dd, g, h, kk⟩ := h
  unfold subW at h
  cases dx with
  | ref ad =>
    simp only at h
    split at h
    · rename_i ds hd
      obtain ⟨vs, h1, h2⟩ := g _ _ hd
      cases dk with
      | int j =>
        simp only at h
        split at h
        · rename_i n hn
          obtain ⟨x1, g1⟩ := g.lst h1 (h2.set dd n)
          exact set_list pins s σ H _ _ v ov iv u Q I ro ri rv ⟨ad, vs, j, n, rfl, rfl, h1, by rw [h2.length, ixN_eq]; exact hn, kk _ _ h x1 g1⟩
        · exact h.elim
      | _ => exact h.elim
    · rename_i kvs hd
      cases ro
      exact d_set2 hK hw hu I g hd h.1 h.2.1 dk ri dd rv fun s' H' I' x' g' => ⟨H', I', kk _ _ h.2.2 x' g'⟩
    · exact h.elim
  | _ => exact h.elim
theorem lg_sub (hK : X.K = T.K) (hw : X.w = T.w) (hu : X.A.units + 64 < cLine) (ha : PE X a (LE T H0 ta)) (hb : PE X b (LE T H0 tb))
    (has : ∀ v, assign (.Subscript a b pos) X.env v = (do
      let ov ← holding [v] (eval a X.env)
      let iv ← holding [v, ov] (eval b X.env)
      standAt pos
      holding [v, ov, iv] (setItem ov iv v)
      release [v, ov, iv] [])) : PG X (.Subscript a b pos) (LG T H0 [] fun d σ G Q => ta σ G fun x G1 => tb σ G1 fun k G2 => match x with
    | .ref a => match G2 a with
      | some (.lst ds) => match k with
        | .int j => match AT.ixN ds.length j with
          | some n => Q σ (up G2 a (.lst (ds.set n d)))
          | none => False
        | _ => False
      | some (.dct kvs) => kindOk kvs k = true ∧ kvs.length < 1000000 ∧ Q σ (up G2 a (.dct (keyPut kvs k d)))
      | _ => False
    | _ => False) := by
  refine PG.imp (pg_sub ha hb (set_any hK hw hu) has) ?_
  rintro v σ H Q ⟨d, σd, G, Q2, x0, dv, sr, g, h, k⟩
  refine ⟨σd, G, _, x0, sr, g, h, fun x G1 o H1 q1 x1 do1 g1 => ⟨σd, G1, _, x0.trans x1, sr.mono x1, g1, q1, fun kx G2 i H2 q2 x2 di g2 => ?_⟩⟩
  exact ⟨x, kx, d, G2, fun G' => Q2 σd G', do1.mono x2, di, dv.mono (x1.trans x2), g2, q2, fun G' H' q x' g' => k _ _ _ _ q ((x1.trans x2).trans x') (sr.mono ((x1.trans x2).trans x')) g' fun _ _ => rfl⟩
theorem lg_att {f : Nat} (hK : X.K = T.K) (hc : ClsOk T) (hn : NoA T f) (ho : PE X o (LE T H0 ta)) : PG X (.Attribute o (T.nm f) pos) (LG T H0 [] fun d σ G Q => ta σ G fun x G1 => match x with
    | .ref a => match G1 a with
      | some (.ins c fs) => fs.length < 1000 ∧ Q σ (up G1 a (.ins c (AT.putF f d fs)))
      | _ => False
    | _ => False) := by
  refine ⟨fun pins s σ H v u Q I r h => ?_⟩
  obtain ⟨d, σd, G, Q2, x0, dv, sr, g, h, k⟩ := h
  rw [PySem.assign_Attribute]
  refine wpAny_bind (wpAny_holding (thn (PE.go ho I x0 sr g h) fun ov s1 ⟨x, G1, w, H1, q, x1, dx, g1, I1, rx⟩ => ?_))
  cases dx with
  | ref ad =>
    simp only at q
    split at q
    · rename_i cn fs ha
      obtain ⟨C, dx, vfs, h1, h2, h3⟩ := g1 _ _ ha
      cases rx
      refine wpAny_bind (wpAny_standAt (wpAny_bind (wpAny_holding ?_)))
      refine setattr_ok I1 h2 (by rw [hK]; exact hc.cls _ _ h1) (by rw [hK]; exact hn.2 _ _ h1) (by rw [h3.len]; exact q.1) r fun s2 I2 => wpAny_release ⟨σ, _, I2, ?_⟩
      have x2 : Xt H1 (upd H1 ad (.ins C dx (L2.putF (T.nm f) v vfs))) := .put h2 True.intro
      refine k _ _ _ _ q.2 (x1.trans x2) (sr.mono (x1.trans x2)) (g1.put x2 ⟨C, dx, _, h1, upd_same, ?_⟩) fun _ _ => rfl
      exact FldR.put hn.1 ((dv.mono x1).mono x2) (paired_mono (fun p q z => ⟨z.1, z.2.mono x2⟩) h3)
    · exact q.elim
  | _ => exact q.elim
/-! ### list comprehensions -/
def LTs (T : Wd) (X : Cx) (H0 : Hp) (ifs : List Expr) (tt : TT2) : Prop := (ifs = [] ∧ tt = fun _ G Q => Q true G) ∨ ∃ c, ifs = [c] ∧ PT X c (LT T H0 tt)
theorem LTs.pts {ifs : List Expr} {tt : TT2} (h : LTs T X H0 ifs tt) : PTs X ifs (LT T H0 tt) := by
  rcases h with ⟨rfl, rfl⟩ | ⟨c, rfl, h⟩
  · refine ⟨fun pins s σ H Q I h => pts_nil.run pins s σ H Q I ?_⟩
    obtain ⟨σd, G, Q2, x0, sr, g, h, k⟩ := h
    exact k _ _ _ h (.refl H) g
  · exact pts_one h
theorem lc_imp {own : List (Str × Nat)} {ti : TI2} {te : TE2} {tt : TT2} {slg : List Nat} (hsl : ∀ i ∈ slg, i ∈ own.map (·.2)) : ∀ σ H Q, LE T H0 (fun σ G Q => ti σ G fun ds chk G1 => ∀ p, G1 p = none →
      lcS tg tt te chk p (AT.wipe σ (own.map (·.2))) (fun G2 => Q (.ref p) G2) ds (up G1 p (.lst []))) σ H Q → tLc (LI T H0 ti) (LG T H0 slg tg) (LT T H0 tt) (LE T H0 te) (own.map (·.2)) σ H Q := by
  rintro σ H Q ⟨σd, G, Q2, x0, sr, g, h, k⟩
  refine ⟨σd, G, _, x0, sr, g, h, fun ds chk G1 J H1 q x1 g1 wk D hD => ?_⟩
  have hGD := g1.free hD
  have x2 : Xt H1 (upd H1 D (.lst [])) := .new hD
  refine ⟨fun i m H' => m = ds.length - i ∧ i ≤ ds.length ∧ ∃ G', Xt H1 H' ∧ GR T G' H' ∧ lcS tg tt te chk D (AT.wipe σd (own.map (·.2))) (fun G2 => Q2 (.ref D) G2) (ds.drop i) G', ⟨ds.length, by simp, Nat.zero_le _, up G1 D (.lst []), x2, g1.add hD ⟨[], upd_same, .nil⟩, by rw [List.drop_zero]; exact q D hGD⟩, ?_⟩
  rintro i m H' ⟨rfl, hi, G', x', g', hq⟩
  by_cases hlt : i < ds.length
  · rw [List.drop_eq_getElem_cons hlt] at hq
    obtain ⟨hck, hq⟩ := hq
    refine .inr ⟨wk.goes i H' G' x' hck g' hlt, fun H'' => ∃ G'', Xt H1 H'' ∧ GR T G'' H'' ∧ lcS tg tt te chk D (AT.wipe σd (own.map (·.2))) (fun G2 => Q2 (.ref D) G2) (ds.drop (i + 1)) G'', fun H'' z => ⟨ds.length - (i + 1), by omega, rfl, hlt, z⟩, fun x H2 y => ?_⟩
    obtain ⟨xy, gy, dy⟩ := wk.yields i H' G' x H2 ds[i] x' hck g' (List.getElem?_eq_getElem hlt) y
    have x02 : Xt H H2 := (x1.trans x').trans xy
    refine ⟨_, _, G', _, x0.trans x02, dy, (sr.mono x02).wipe _, gy, hq, fun σ3 G3 σ' H3 q3 x3 sr3 g3 w3 => ⟨?_, ?_⟩⟩
    · have ww : ∀ (vs : List Nat) (σ : L2.St), L2.wipe (L2.wipe σ vs) vs = L2.wipe σ vs := by
        intro vs
        have idem : ∀ (ws vs : List Nat) (σ : L2.St), (∀ v ∈ ws, v ∈ vs) → L2.wipe (L2.wipe σ ws) vs = L2.wipe σ vs := by
          intro ws
          induction ws with
          | nil => intro vs σ _; rfl
          | cons w ws ih =>
            intro vs σ hv
            show L2.wipe ((L2.wipe σ ws).set w none) vs = _
            rw [wipe_set (hv w List.mem_cons_self)]
            exact ih vs σ fun v hv' => hv v (List.mem_cons_of_mem _ hv')
        exact fun σ => idem vs vs σ fun v hv => hv
      rw [w3 _ hsl, ww]
    · refine ⟨σ3, G3, _, x0.trans (x02.trans x3), sr3, g3, q3, fun b G4 H4 q4 x4 g4 => ?_⟩
      cases b with
      | false =>
        simp only [Bool.false_eq_true, if_false] at q4 ⊢
        exact ⟨G4, ((x'.trans xy).trans x3).trans x4, g4, q4⟩
      | true =>
        simp only [if_true] at q4 ⊢
        refine ⟨σ3, G4, _, x0.trans ((x02.trans x3).trans x4), sr3.mono x4, g4, q4, fun d5 G5 v5 H5 q5 x5 d5' g5 => ?_⟩
        split at q5
        · rename_i acc hacc
          obtain ⟨vs, h1, h2⟩ := g5 _ _ hacc
          obtain ⟨x6, g6⟩ := g5.lst (es := acc ++ [d5]) h1 (h2.append (.cons d5' .nil))
          exact ⟨vs, h1, by rw [← line_eq, h2.length]; exact q5.1, _, ((((x'.trans xy).trans x3).trans x4).trans x5).trans x6, g6, q5.2⟩
        · exact q5.elim
  · have e : i = ds.length := by omega
    subst e
    rw [List.drop_length] at hq
    obtain ⟨hck, hq⟩ := hq
    exact .inl ⟨wk.stops H' G' x' hck g', k _ _ _ _ hq (x1.trans x') (.ref D) g'⟩
theorem l_lc {elt tgt iter : Expr} {ifs : List Expr} {scope : Scope} {own : List (Str × Nat)} {ti : TI2} {te : TE2} {tt : TT2} {slg : List Nat} (hc : X.calm = true) (hN : X.N.Nodup) (hi : PI X tgt iter (LI T H0 ti)) (ok : BlkOk X.N X.env.scope scope own) (hsl : ∀ i ∈ slg, i ∈ own.map (·.2))
    (hg : ∀ (s : Shared) (H : Hp) (C : Addr) (cl : List (Str × Addr)) (fp : List Addr), PG (X.blk s H scope (compEnvC scope cl C X.env) fp) tgt (LG T H0 slg tg))
    (ht : ∀ (s : Shared) (H : Hp) (C : Addr) (cl : List (Str × Addr)) (fp : List Addr), PTs (X.blk s H scope (compEnvC scope cl C X.env) fp) ifs (LT T H0 tt))
    (he : ∀ (s : Shared) (H : Hp) (C : Addr) (cl : List (Str × Addr)) (fp : List Addr), PE (X.blk s H scope (compEnvC scope cl C X.env) fp) elt (LE T H0 te)) (hs : ∀ x, foldedSetIterable iter X.env x = pure x) :
    PE X (.ListComp elt [⟨tgt, iter, ifs, 0⟩] scope pos) (LE T H0 fun σ G Q => ti σ G fun ds chk G1 => ∀ p, G1 p = none →
      lcS tg tt te chk p (AT.wipe σ (own.map (·.2))) (fun G2 => Q (.ref p) G2) ds (up G1 p (.lst []))) := by
  exact PE.imp (pe_lc hc hN hi ok hg ht he hs) (lc_imp hsl)
end
end AT
end
section
set_option maxHeartbeats 4000000
/-! AT14: statements. -/
namespace AT
open PySem PySem.Spec PyProof.Rows L2 SeqAt
section
variable {T : Wd} {X : Cx} {H0 : Hp} {a b c e o : Expr} {es : List Expr} {st : Stmt} {sts ssb : List Stmt} {pos apos : Pos} {ta tb tc : TE2} {tt : TT2} {ts us : TS2} {sl : List Nat} {tg : TG2} {tgs : TGs2} {tra : TA2}
theorem LK.next {H : Hp} {K : KS} {D : Ends} {nx : St → Gp → Prop} {dn : L2.St → Hp → Prop} (k : LK T H K D) (h : ∀ σd' G' σ' H', nx σd' G' → Xt H H' → SR T H' σ' σd' → GR T G' H' → dn σ' H') : LK T H { K with nx := nx } { D with nx := dn } := ⟨h, k.rt, k.bk, k.ct⟩
theorem s_nil : PSs X [] (LS T H0 fun K σ G => K.nx σ G) := by
  refine PSs.imp pss_nil ?_
  rintro D σ H ⟨σd, G, K, x0, sr, g, h, k⟩
  exact k.nx _ _ _ _ h (.refl H) sr g
theorem s_cons (h1 : PS X st (LS T H0 ts)) (h2 : PSs X sts (LS T H0 us)) : PSs X (st :: sts) (LS T H0 fun K σ G => ts { K with nx := us K } σ G) := by
  refine PSs.imp (pss_cons h1 h2) ?_
  rintro D σ H ⟨σd, G, K, x0, sr, g, h, k⟩
  exact ⟨σd, G, { K with nx := us K }, x0, sr, g, h, k.next fun σd' G' σ' H' q x sr' g' => ⟨σd', G', K, x0.trans x, sr', g', q, k.mono x⟩⟩
theorem s_asg {te : Expr} (he : PE X e (LE T H0 ta)) (hg : PG X te (LG T H0 sl tg)) (hs : swapsWithSole [te] e pos.line X.env = pure false) (hw : swappedStores [te] e X.env = pure none) (h1 : assignEach [te] X.env = [(false, assign te X.env)]) :
    PS X (.Assign [te] e pos) (LS T H0 fun K σ G => ta σ G fun d G1 => tg d σ G1 K.nx) := by
  refine PS.imp (ps_asg he hg hs hw (by rw [h1]; rfl)) ?_
  rintro D σ H ⟨σd, G, K, x0, sr, g, h, k⟩
  exact ⟨σd, G, _, x0, sr, g, h, fun d G1 v H1 q x1 dv g1 => ⟨d, σd, G1, K.nx, x0.trans x1, dv, sr.mono x1, g1, q, fun σd' G' σ' H' q x sr' g' _ => k.nx _ _ _ _ q (x1.trans x) sr' g'⟩⟩
/-- name = [..]: the value's place is handed on -/
theorem s_setLc {i : Nat} {y : Str} {py : Pos} {elt tgt iter : Expr} {ifs : List Expr} {scope : Scope} {own : List (Str × Nat)} {spos : Pos} {ti : TI2} {te : TE2} {slg : List Nat} (hc : X.calm = true) (hN : X.N.Nodup) (hy : X.N[i]? = some y) (hyl : X.env.scope.names.lookup y = some .local)
    (hsw : swapsWith (.ListComp elt [⟨tgt, iter, ifs, 0⟩] scope pos) (some (.Name y py)) spos.line X.env = pure true) (hi : PI X tgt iter (LI T H0 ti)) (ok : BlkOk X.N X.env.scope scope own) (hsl : ∀ i ∈ slg, i ∈ own.map (·.2))
    (hg : ∀ (s : Shared) (H : Hp) (C : Addr) (cl : List (Str × Addr)) (fp : List Addr), PG (X.blk s H scope (compEnvC scope cl C X.env) fp) tgt (LG T H0 slg tg))
    (ht : ∀ (s : Shared) (H : Hp) (C : Addr) (cl : List (Str × Addr)) (fp : List Addr), PTs (X.blk s H scope (compEnvC scope cl C X.env) fp) ifs (LT T H0 tt))
    (he : ∀ (s : Shared) (H : Hp) (C : Addr) (cl : List (Str × Addr)) (fp : List Addr), PE (X.blk s H scope (compEnvC scope cl C X.env) fp) elt (LE T H0 te)) (hs : ∀ x, foldedSetIterable iter X.env x = pure x) :
    PS X (.Assign [.Name y py] (.ListComp elt [⟨tgt, iter, ifs, 0⟩] scope pos) spos) (LS T H0 fun K σ G => ti σ G fun ds chk G1 => ∀ p, G1 p = none →
      lcS tg tt te chk p (AT.wipe σ (own.map (·.2))) (fun G2 => K.nx (σ.set i (some (.ref p))) G2) ds (up G1 p (.lst []))) := by
  refine PS.imp (ps_setLc hc hN hy hyl hsw hi ok hg ht he hs) ?_
  rintro D σ H ⟨σd, G, K, x0, sr, g, h, k⟩
  have base := lc_imp (T := T) (H0 := H0) (own := own) (tg := tg) (tt := tt) (ti := ti) (te := te) (slg := slg) hsl
  exact base σ H _ ⟨σd, G, fun d G' => K.nx (σd.set i (some d)) G', x0, sr, g, h, fun d G' v H' q x dv g' => k.nx _ _ _ _ q x ((sr.mono x).set dv) g'⟩
theorem s_par {i j : Nat} {x y : Str} {px py pt : Pos} {kt k2 : Nat} {pt2 : Pos} (hc : X.calm = true) (hN : X.N.Nodup) (hi : X.N[i]? = some x) (hj : X.N[j]? = some y) (hij : i ≠ j)
    (hx : X.env.scope.names.lookup x = some .local) (hy : X.env.scope.names.lookup y = some .local) (ha : PA X [a, b] (LA T H0 tra))
    (hw : swappedStores [.Tuple [.Name x px, .Name y py] kt pt] (.Tuple [a, b] k2 pt2) X.env = pure (some [x, y])) :
    PS X (.Assign [.Tuple [.Name x px, .Name y py] kt pt] (.Tuple [a, b] k2 pt2) pos) (LS T H0 fun K σ G => tra σ G fun ds G1 => ds.length ≤ line ∧ (ds.length = 2 ∧ match ds with
      | [d1, d2] => K.nx ((σ.set i (some d1)).set j (some d2)) G1
      | _ => False)) := by
  refine PS.imp (ps_par hc hN hi hj hij hx hy ha hw) ?_
  rintro D σ H ⟨σd, G, K, x0, sr, g, h, k⟩
  refine ⟨σd, G, _, x0, sr, g, h, fun ds G1 vs H1 q x1 dv g1 => ?_⟩
  obtain ⟨_, _, q⟩ := q
  split at q
  · obtain ⟨v, w, rfl, d1, d2⟩ := dvs2 dv
    exact ⟨v, w, rfl, k.nx _ _ _ _ q x1 (((sr.mono x1).set d1).set d2) g1⟩
  · exact q.elim
theorem s_par3 {i j l : Nat} {x y z : Str} {px py pz pt : Pos} {kt k2 : Nat} {pt2 : Pos} (hc : X.calm = true) (hN : X.N.Nodup) (hi : X.N[i]? = some x) (hj : X.N[j]? = some y) (hl : X.N[l]? = some z) (hij : i ≠ j) (hil : i ≠ l) (hjl : j ≠ l)
    (hx : X.env.scope.names.lookup x = some .local) (hy : X.env.scope.names.lookup y = some .local) (hz : X.env.scope.names.lookup z = some .local) (ha : PA X [a, b, c] (LA T H0 tra))
    (hw : swappedStores [.Tuple [.Name x px, .Name y py, .Name z pz] kt pt] (.Tuple [a, b, c] k2 pt2) X.env = pure (some [x, y, z])) :
    PS X (.Assign [.Tuple [.Name x px, .Name y py, .Name z pz] kt pt] (.Tuple [a, b, c] k2 pt2) pos) (LS T H0 fun K σ G => tra σ G fun ds G1 => ds.length ≤ line ∧ (ds.length = 3 ∧ match ds with
      | [d1, d2, d3] => K.nx (((σ.set i (some d1)).set j (some d2)).set l (some d3)) G1
      | _ => False)) := by
  refine ⟨fun pins s σ H D I h => ?_⟩
  obtain ⟨σd, G, K, x0, sr, g, h, k⟩ := h
  rw [exec_Assign_arm]
  refine wpAny_bind (wpAny_standAt ?_)
  have hs : swapsWithSole [.Tuple [.Name x px, .Name y py, .Name z pz] kt pt] (.Tuple [a, b, c] k2 pt2) pos.line X.env = pure false := rfl
  rw [hs]
  refine wpAny_bind (wpAny_pure ?_)
  rw [if_neg (by decide)]
  refine wpAny_bind (Tuple_ (thn (PA.go ha I x0 sr g h) fun us s1 ⟨ds, G1, vs, H1, q, x1, dv, g1, I1, r1⟩ => ?_))
  obtain ⟨_, _, q⟩ := q
  split at q
  · obtain ⟨v1, v2, v3, rfl, d1, d2, d3⟩ := dvs3 dv
    obtain ⟨u1, u2, u3, rfl, rv1, rv2, rv3⟩ : ∃ u1 u2 u3, us = [u1, u2, u3] ∧ RelV v1 u1 ∧ RelV v2 u2 ∧ RelV v3 u3 := by
      cases r1 with
      | cons p q =>
        cases q with
        | cons p' q' =>
          cases q' with
          | cons p'' q'' =>
            cases q''
            exact ⟨_, _, _, rfl, p, p', p''⟩
    refine wpAny_newObj_type ?_ (by show 3 ≤ sizeLine; decide)
    have I2 : Inv X pins σ H1 { s1 with heap := s1.heap.push { cls := .type "tuple", data := .seq [u1, u2, u3].toArray } } := I1.kept (t' := s1.toks) fun b o e => Heap.get?_push_of_some _ e
    rw [hw]
    refine wpAny_bind (wpAny_pure ?_)
    show wpAny (model X.prog X.w) X.A (do rule "assign.swapped-stores"; let items ← unpackItems (.ref s1.heap.objs.size) 3 none; assignInOrder [fun v => bindName X.env z v, fun v => bindName X.env y v, fun v => bindName X.env x v] items.reverse; pure Flow.next) _ _ _
    refine wpAny_bind (wpAny_rule (wpAny_bind (unpackItems_tuple (items := #[u1, u2, u3]) (I.ok.hd hc) (IsTup.new s1.heap _) fun h' hx' => ?_)))
    have I3 := I2.kept (h' := h') (t' := s1.toks) fun b o e => hx' b o (Nat.ne_of_lt (Heap.lt_size e)) e
    show wpAny _ _ (assignInOrder [fun v => bindName X.env z v, fun v => bindName X.env y v, fun v => bindName X.env x v] [u3, u2, u1] >>= fun _ => pure Flow.next) _ _ _
    refine wpAny_bind (assignInOrder_cons (wpAny_bindName (store_ok I3 hN hl (.inl hz) rv3 (fun s2 I4 => ?_) (.inr hz))))
    refine assignInOrder_cons (wpAny_bindName (store_ok I4 hN hj (.inl hy) rv2 (fun s3 I5 => ?_) (.inr hy)))
    refine assignInOrder_cons (wpAny_bindName (store_ok I5 hN hi (.inl hx) rv1 (fun s4 I6 => assignInOrder_nil (wpAny_pure ?_)) (.inr hx)))
    refine ⟨_, H1, I6, ?_⟩
    have e1 : ((σ.set l (some v3)).set j (some v2)).set i (some v1) = ((σ.set i (some v1)).set j (some v2)).set l (some v3) := by
      rw [List.set_comm _ _ hjl.symm, List.set_comm _ _ hil.symm, List.set_comm _ _ hij.symm]
    rw [e1]
    exact k.nx _ _ _ _ q x1 ((((sr.mono x1).set d1).set d2).set d3) g1
  · exact q.elim
theorem s_expr (he : PE X e (LE T H0 ta)) (hs : swapsWith e none pos.line X.env = pure false) : PS X (.Expr e pos) (LS T H0 fun K σ G => ta σ G fun _ G1 => K.nx σ G1) := by
  refine PS.imp (ps_expr he hs) ?_
  rintro D σ H ⟨σd, G, K, x0, sr, g, h, k⟩
  exact ⟨σd, G, _, x0, sr, g, h, fun d G1 v H1 q x1 dv g1 => k.nx _ _ _ _ q x1 (sr.mono x1) g1⟩
theorem s_ite (hc : PT X c (LT T H0 tt)) (ha : PSs X sts (LS T H0 ts)) (hb : PSs X ssb (LS T H0 us)) : PS X (.If c sts ssb pos) (LS T H0 fun K σ G => tt σ G fun k G1 => if k = true then ts K σ G1 else us K σ G1) := by
  refine PS.imp (ps_if hc ha hb) ?_
  rintro D σ H ⟨σd, G, K, x0, sr, g, h, k⟩
  refine ⟨σd, G, _, x0, sr, g, h, fun d G1 H1 q x1 g1 => ?_⟩
  cases d with
  | true => exact ⟨σd, G1, K, x0.trans x1, sr.mono x1, g1, by simpa using q, k.mono x1⟩
  | false => exact ⟨σd, G1, K, x0.trans x1, sr.mono x1, g1, by simpa using q, k.mono x1⟩
theorem s_ret (he : PE X e (LE T H0 ta)) : PS X (.Return (some e) pos) (LS T H0 fun K σ G => ta σ G K.rt) := by
  refine PS.imp (ps_ret he) ?_
  rintro D σ H ⟨σd, G, K, x0, sr, g, h, k⟩
  exact ⟨σd, G, _, x0, sr, g, h, fun d G1 v H1 q x1 dv g1 => k.rt _ _ _ _ q x1 dv g1⟩
theorem s_retN : PS X (.Return none pos) (LS T H0 fun K _ G => K.rt .non G) := by
  refine PS.imp ps_retN ?_
  rintro D σ H ⟨σd, G, K, x0, sr, g, h, k⟩
  exact k.rt _ _ _ _ h (.refl H) .non g
theorem s_brk : PS X (.Break pos) (LS T H0 fun K σ G => K.bk σ G) := by
  refine PS.imp ps_break ?_
  rintro D σ H ⟨σd, G, K, x0, sr, g, h, k⟩
  exact k.bk _ _ _ _ h (.refl H) sr g
theorem s_cont : PS X (.Continue pos) (LS T H0 fun K σ G => K.ct σ G) := by
  refine PS.imp ps_continue ?_
  rintro D σ H ⟨σd, G, K, x0, sr, g, h, k⟩
  exact k.ct _ _ _ _ h (.refl H) sr g
theorem s_pass : PS X (.Pass pos) (LS T H0 fun K σ G => K.nx σ G) := by
  refine PS.imp ps_pass ?_
  rintro D σ H ⟨σd, G, K, x0, sr, g, h, k⟩
  exact k.nx _ _ _ _ h (.refl H) sr g
theorem s_whl (hp : PassesOwn (model X.prog X.w) X.A X.env X.xe) (hc : PT X c (LT T H0 tt)) (hb : PSs X sts (LS T H0 ts)) : PS X (.While c sts [] pos) (LS T H0 fun K σ G => ∃ n, whlN tt ts K n σ G) := by
  refine PS.imp (ps_while hp hc hb) ?_
  rintro D σ H ⟨σd, G, K, x0, sr, g, ⟨n, h⟩, k⟩
  refine ⟨fun m σ' H' => ∃ σd' G', Xt H H' ∧ SR T H' σ' σd' ∧ GR T G' H' ∧ whlN tt ts K m σd' G', ⟨n, σd, G, .refl H, sr, g, h⟩, ?_⟩
  rintro m σ1 H1 ⟨σ2, G1, x1, sr1, g1, h1⟩
  cases m with
  | zero => exact h1.elim
  | succ m =>
    refine ⟨σ2, G1, _, x0.trans x1, sr1, g1, h1, fun b G2 H2 q x2 g2 => ?_⟩
    cases b with
    | true =>
      simp only [if_true] at q ⊢
      refine ⟨fun σ' H' => ∃ σd' G', Xt H H' ∧ SR T H' σ' σd' ∧ GR T G' H' ∧ whlN tt ts K m σd' G', fun σ' H' z => ⟨m, Nat.lt_succ_self m, z⟩, σ2, G2, _, x0.trans (x1.trans x2), sr1.mono x2, g2, q, ?_⟩
      have x12 := x1.trans x2
      exact ⟨fun a b c d q x sr g => ⟨a, b, x12.trans x, sr, g, q⟩, fun a b c d q x dv g => k.rt _ _ _ _ q (x12.trans x) dv g, fun a b c d q x sr g => k.nx _ _ _ _ q (x12.trans x) sr g, fun a b c d q x sr g => ⟨a, b, x12.trans x, sr, g, q⟩⟩
    | false =>
      simp only [Bool.false_eq_true, if_false] at q ⊢
      exact k.nx _ _ _ _ q (x1.trans x2) (sr1.mono x2) g2
theorem s_for {tge iter : Expr} {ti : TI2} (hp : PassesOwn (model X.prog X.w) X.A X.env X.xe) (hc : X.calm = true) (hi : PI X tge iter (LI T H0 ti)) (hg : PG X tge (LG T H0 sl tg)) (hb : PSs X sts (LS T H0 ts)) (hs : ∀ x, foldedSetIterable iter X.env x = pure x) :
    PS X (.For tge iter sts [] pos) (LS T H0 fun K σ G => ti σ G fun ds chk G1 => forS tg ts chk K ds σ G1) := by
  refine PS.imp (ps_for hp hc hi hg hb hs) ?_
  rintro D σ H ⟨σd, G, K, x0, sr, g, h, k⟩
  refine ⟨σd, G, _, x0, sr, g, h, fun ds chk G1 J H1 q x1 g1 wk => ?_⟩
  refine ⟨fun i m σ' H' => m = ds.length - i ∧ i ≤ ds.length ∧ ∃ σd' G', Xt H1 H' ∧ SR T H' σ' σd' ∧ GR T G' H' ∧ forS tg ts chk K (ds.drop i) σd' G', ⟨ds.length, by simp, Nat.zero_le _, σd, G1, .refl _, sr.mono x1, g1, by rw [List.drop_zero]; exact q⟩, ?_⟩
  rintro i m σ' H' ⟨rfl, hi, σd', G', x', sr', g', hq⟩
  by_cases hlt : i < ds.length
  · rw [List.drop_eq_getElem_cons hlt] at hq
    obtain ⟨hck, hq⟩ := hq
    refine .inr ⟨wk.goes i H' G' x' hck g' hlt, fun σ'' H'' => ∃ σd'' G'', Xt H1 H'' ∧ SR T H'' σ'' σd'' ∧ GR T G'' H'' ∧ forS tg ts chk K (ds.drop (i + 1)) σd'' G'', fun σ'' H'' z => ⟨ds.length - (i + 1), by omega, rfl, hlt, z⟩, fun x H2 y => ?_⟩
    obtain ⟨xy, gy, dy⟩ := wk.yields i H' G' x H2 ds[i] x' hck g' (List.getElem?_eq_getElem hlt) y
    have x12 : Xt H1 H2 := x'.trans xy
    refine ⟨_, σd', G', _, x0.trans (x1.trans x12), dy, sr'.mono xy, gy, hq, fun σ3 G3 σ'' H3 q3 x3 sr3 g3 _ => ?_⟩
    have x13 := x12.trans x3
    refine ⟨σ3, G3, _, x0.trans (x1.trans x13), sr3, g3, q3, ?_⟩
    exact ⟨fun a b c d q x sr g => ⟨a, b, x13.trans x, sr, g, q⟩, fun a b c d q x dv g => k.rt _ _ _ _ q (x1.trans (x13.trans x)) dv g, fun a b c d q x sr g => k.nx _ _ _ _ q (x1.trans (x13.trans x)) sr g, fun a b c d q x sr g => ⟨a, b, x13.trans x, sr, g, q⟩⟩
  · have e : i = ds.length := by omega
    subst e
    rw [List.drop_length] at hq
    exact .inl ⟨wk.stops H' G' x' hq.1 g', k.nx _ _ _ _ hq.2 (x1.trans x') sr' g'⟩
end
end AT
end
section
set_option maxHeartbeats 4000000
/-! AT20: rows are told apart by their first numbers; the heap's moves. -/
namespace AT
open PySem PySem.Spec PyProof.Rows L2
section
open PySem.SeqAt
open PySem.AutoSeq1 (wpAny_loadPart')
open PySem.MeetsSeq PySem.MeetsSeq2 PySem.MeetsSeq3
theorem tuple_lt_pre (l b : Addr) (items items2 : Array Value) (n n2 : Nat) (dd dd2 : Option Addr) (sl sl2 : Array (Option Value)) (v1 r1 v2 r2 : List Value) (ns ms : List Int) (e1 : items.toList = v1 ++ r1) (e2 : items2.toList = v2 ++ r2) (hi : IntsAre v1 ns) (hj : IntsAre v2 ms) (hl0 : ns.length = ms.length) (hne : ns ≠ ms) :
    Meets (Builtin.«tuple.__lt__» ⟨[.ref l, .ref b], []⟩)
      (fun _ R s => s.heap.get? l = some { cls := .type "tuple", dict := dd, data := .seq items n, slots := sl } ∧ s.heap.get? b = some { cls := .type "tuple", dict := dd2, data := .seq items2 n2, slots := sl2 } ∧
        R (.ok (.ret (.bool (HT.lexLt ns ms)))) s) :=
  .of_wp fun prog w A R s h => by
    obtain ⟨hp, g, d, tk, os⟩ := s; obtain ⟨hl, hb, h⟩ := h
    have f2 := AutoSeq1.sub_tuple_tuple
    wp_walk using wpAny_loadPart' hl, wpAny_loadPart' hb, wpAny_forIn_list _ (fun rest b s' => b.1 = none ∧ s' = ⟨hp, g, d, tk, os⟩ ∧ ∃ (vs ws : List Value) (ns' ms' : List Int), rest = (vs ++ r1).zip (ws ++ r2) ∧
      IntsAre vs ns' ∧ IntsAre ws ms' ∧ ns'.length = ms'.length ∧ ns' ≠ ms' ∧ R (.ok (.ret (.bool (HT.lexLt ns' ms')))) ⟨hp, g, d, tk, os⟩) _
    case turn =>
      rintro ⟨y, x⟩ rest b s' ⟨hb', rfl, vs, ws, ns', ms', hz, hvi, hwi, hlen, hne', hR⟩
      cases hvi with
      | nil =>
        cases hwi with
        | nil => exact absurd rfl hne'
        | cons c u hwi' => cases hlen
      | cons a t hvi' =>
        cases hwi with
        | nil => cases hlen
        | cons c u hwi' =>
          rw [List.cons_append, List.cons_append, List.zip_cons_cons] at hz
          injection hz with hyx hrest
          injection hyx with hy hx
          subst hy hx
          rw [HT.lexLt_cons] at hR
          simp only [List.length_cons] at hlen
          obtain ⟨e, he, hiff⟩ := HT.eqAt_int A.in1 ⟨hp, g, d, tk, os⟩ a t c u
          refine wpAny_bind (he prog w _ _ ?_)
          cases e with
          | true =>
            have eac := hiff.mp rfl
            rw [if_pos eac] at hR
            wp_walk
            exact ⟨rfl, rfl, _, _, _, _, hrest, hvi', hwi', by omega, fun z => hne' (by rw [eac, z]), hR⟩
          | false =>
            rw [if_neg (fun q => absurd (hiff.mpr q) Bool.false_ne_true)] at hR
            have hri := HT.rcLt_int A.in1 ⟨hp, g, d, tk, os⟩ a t c u prog w
            wp_walk using hri
            exact ⟨_, rfl, by simpa using hR⟩
    case fin =>
      rintro ⟨b1, b2⟩ s' ⟨hb', rfl, vs, ws, ns', ms', hz, hvi, hwi, hlen, hne', hR⟩
      cases hvi with
      | nil =>
        cases hwi with
        | nil => exact absurd rfl hne'
        | cons c u hwi' => cases hlen
      | cons a t hvi' =>
        cases hwi with
        | nil => cases hlen
        | cons c u hwi' =>
          rw [List.cons_append, List.cons_append, List.zip_cons_cons] at hz
          cases hz
    case h =>
      exact ⟨rfl, rfl, v1, v2, ns, ms, by rw [← e1, ← e2], hi, hj, hl0, hne, h⟩
end
/-- a row's first three numbers -/
def KeyV (h : Heap) (v : Value) (k : Int × Int × Int) : Prop := ∃ (a : Addr) (its : Array Value) (t1 t2 t3 : Tok) (r : List Value), v = .ref a ∧ IsTup h a its ∧ its.toList = [.int k.1 t1, .int k.2.1 t2, .int k.2.2 t3] ++ r
section
variable {prog : Program} {w : World} {A : Around} {E : Value → Shared → Prop} {s : Shared}
instance (x y : Int × Int × Int) : Decidable (klt x y) := by unfold klt; exact inferInstance
theorem lex_klt (k l : Int × Int × Int) : HT.lexLt [k.1, k.2.1, k.2.2] [l.1, l.2.1, l.2.2] = decide (klt k l) := by
  rw [HT.lexLt_cons, HT.lexLt_cons, HT.lexLt_cons, HT.lexLt_nil_nil]
  unfold klt
  by_cases h1 : k.1 = l.1
  · rw [if_pos h1]
    by_cases h2 : k.2.1 = l.2.1
    · rw [if_pos h2]
      by_cases h3 : k.2.2 = l.2.2
      · rw [if_pos h3]
        refine (decide_eq_false ?_).symm
        omega
      · rw [if_neg h3]
        refine decide_eq_decide.mpr ?_
        omega
    · rw [if_neg h2]
      refine decide_eq_decide.mpr ?_
      omega
  · rw [if_neg h1]
    refine decide_eq_decide.mpr ?_
    omega
theorem lt_key {x y : Value} {k l : Int × Int × Int} {Q : Value → Shared → Prop} (hx : KeyV s.heap x k) (hy : KeyV s.heap y l) (hne : k ≠ l) (hu : A.units < cLine) (h : Q (.bool (decide (klt k l))) s) : wpAny (model prog w) A (richCompare .Lt x y) Q E s := by
  obtain ⟨a, its, t1, t2, t3, r, rfl, hl, e1⟩ := hx
  obtain ⟨b, its2, u1, u2, u3, r2, rfl, hb, e2⟩ := hy
  obtain ⟨⟨cls, dd, data, sl⟩, ho, hc, n, hd⟩ := id hl
  obtain ⟨⟨cls2, dd2, data2, sl2⟩, ho2, hc2, n2, hd2⟩ := id hb
  simp only at hc hd hc2 hd2
  subst hc hd hc2 hd2
  have hne' : [k.1, k.2.1, k.2.2] ≠ [l.1, l.2.1, l.2.2] := fun z => hne (by
    obtain ⟨k1, k2, k3⟩ := k
    obtain ⟨l1, l2, l3⟩ := l
    simp only [List.cons.injEq, and_true] at z
    rw [z.1, z.2.1, z.2.2])
  rw [← lex_klt] at h
  exact richCompare_meets_room (op := .Lt) ⟨_, ho, rfl⟩ ⟨_, ho2, rfl⟩ PySem.F.slot_tuple_lt PySem.F.entry_tuple_lt (PySem.F.args_tuple_lt_2 _ _)
    (tuple_lt_pre a b its its2 n n2 dd dd2 sl sl2 _ r _ r2 [k.1, k.2.1, k.2.2] [l.1, l.2.1, l.2.2] e1 e2 (.cons _ _ (.cons _ _ (.cons _ _ .nil))) (.cons _ _ (.cons _ _ (.cons _ _ .nil))) rfl hne')
    ⟨ho, ho2, show Value.bool (HT.lexLt [k.1, k.2.1, k.2.2] [l.1, l.2.1, l.2.2]) ≠ Value.notImplemented ∧ Q (.bool (HT.lexLt [k.1, k.2.1, k.2.2] [l.1, l.2.1, l.2.2])) s from ⟨(fun x => nomatch x), h⟩⟩ hu
end
end AT
end
section
set_option maxHeartbeats 4000000
/-! AT21: heaps as rows of keys, no program in sight. -/
namespace AT
abbrev Ky := Int × Int × Int
theorem klt.trans {x y z : Ky} (h : klt x y) (k : klt y z) : klt x z := by unfold klt at *; omega
theorem klt.irr {x : Ky} (h : klt x x) : False := by unfold klt at h; omega
theorem klt.asym {x y : Ky} (h : klt x y) (k : klt y x) : False := (h.trans k).irr
theorem klt.total {x y : Ky} (h : x ≠ y) (k : ¬ klt x y) : klt y x := by
  obtain ⟨a, b, c⟩ := x
  obtain ⟨d, e, f⟩ := y
  have : ¬ (a = d ∧ b = e ∧ c = f) := fun ⟨h1, h2, h3⟩ => h (by rw [h1, h2, h3])
  unfold klt at *
  simp only at *
  omega
def sw (g : Nat → Ky) (i j : Nat) : Nat → Ky := fun m => if m = j then g i else if m = i then g j else g m
def HUp (g : Nat → Ky) (n pos : Nat) : Prop := (∀ i, 0 < i → i < n → i ≠ pos → klt (g ((i - 1) / 2)) (g i)) ∧ ∀ i, 0 < i → i < n → (i - 1) / 2 = pos → 0 < pos → klt (g ((pos - 1) / 2)) (g i)
def HDn (g : Nat → Ky) (n pos : Nat) : Prop := (∀ i, 0 < i → i < n → i ≠ pos → (i - 1) / 2 ≠ pos → klt (g ((i - 1) / 2)) (g i)) ∧ ∀ i, 0 < i → i < n → (i - 1) / 2 = pos → 0 < pos → klt (g ((pos - 1) / 2)) (g i)
def HAll (g : Nat → Ky) (n : Nat) : Prop := ∀ i, 0 < i → i < n → klt (g ((i - 1) / 2)) (g i)
theorem HUp.step {g : Nat → Ky} {n pos : Nat} (h : HUp g n pos) (hp : 0 < pos) (hn : pos < n) (hl : klt (g pos) (g ((pos - 1) / 2))) : HUp (sw g ((pos - 1) / 2) pos) n ((pos - 1) / 2) := by
  obtain ⟨h1, h2⟩ := h
  refine ⟨fun i i0 hi ne => ?_, fun i i0 hi e q => ?_⟩
  · unfold sw
    by_cases c1 : i = pos
    · subst c1
      rw [if_neg (by omega), if_pos rfl, if_pos rfl]
      exact hl
    · rw [if_neg c1, if_neg ne]
      by_cases c2 : (i - 1) / 2 = pos
      · rw [if_pos c2]
        exact h2 i i0 hi c2 hp
      · rw [if_neg c2]
        by_cases c3 : (i - 1) / 2 = (pos - 1) / 2
        · rw [if_pos c3]
          have := h1 i i0 hi c1
          rw [c3] at this
          exact hl.trans this
        · rw [if_neg c3]
          exact h1 i i0 hi c1
  · have q1 := h1 ((pos - 1) / 2) q (by omega) (by omega)
    unfold sw
    rw [if_neg (by omega), if_neg (by omega)]
    by_cases c1 : i = pos
    · rw [if_pos c1]
      exact q1
    · rw [if_neg c1, if_neg (by omega)]
      have := h1 i i0 hi c1
      rw [e] at this
      exact q1.trans this
theorem HUp.stop {g : Nat → Ky} {n pos : Nat} (h : HUp g n pos) (hl : 0 < pos → klt (g ((pos - 1) / 2)) (g pos)) : HAll g n := fun i i0 hi => by
  by_cases c : i = pos
  · subst c; exact hl i0
  · exact h.1 i i0 hi c
theorem HDn.step {g : Nat → Ky} {n pos c d : Nat} (h : HDn g n pos) (hc : c < n) (hcp : c = 2 * pos + 1 ∨ c = 2 * pos + 2) (hd : (d = 2 * pos + 1 ∨ d = 2 * pos + 2) ∧ d ≠ c) (hl : d < n → klt (g c) (g d)) : HDn (sw g c pos) n c := by
  obtain ⟨h1, h2⟩ := h
  refine ⟨fun i i0 hi ne ne2 => ?_, fun i i0 hi e q => ?_⟩
  · unfold sw
    by_cases c1 : i = pos
    · subst c1
      rw [if_neg (by omega), if_neg ne2, if_pos rfl]
      exact h2 c (by omega) hc (by omega) i0
    · rw [if_neg c1, if_neg ne]
      by_cases c2 : (i - 1) / 2 = pos
      · rw [if_pos c2]
        have : i = d := by omega
        subst this
        exact hl hi
      · rw [if_neg c2, if_neg ne2]
        exact h1 i i0 hi c1 c2
  · unfold sw
    have e1 : (c - 1) / 2 = pos := by omega
    rw [if_pos e1, if_neg (by omega), if_neg (by omega)]
    have := h1 i i0 hi (by omega) (by omega)
    rw [e] at this
    exact this
theorem HDn.leaf {g : Nat → Ky} {n pos : Nat} (h : HDn g n pos) (hp : n / 2 ≤ pos) : HUp g n pos :=
  ⟨fun i i0 hi ne => h.1 i i0 hi ne (by omega), h.2⟩
theorem HAll.root {g : Nat → Ky} {n : Nat} (h : HAll g n) : ∀ i, 0 < i → i < n → klt (g 0) (g i) := by
  intro i
  induction i using Nat.strongRecOn with
  | ind i ih =>
    intro i0 hi
    have q := h i i0 hi
    by_cases c : (i - 1) / 2 = 0
    · rw [c] at q; exact q
    · exact (ih _ (by omega) (by omega) (by omega)).trans q
/-! rows -/
section
variable {α : Type}
def gOf (k : α → Ky) (ps : List α) : Nat → Ky := fun i => ((ps[i]?).map k).getD (0, 0, 0)
theorem gOf_eq {k : α → Ky} {ps : List α} {i : Nat} {x : α} (h : ps[i]? = some x) : gOf k ps i = k x := by unfold gOf; rw [h]; rfl
/-- two places change their things -/
def swl (ps : List α) (i j : Nat) (x y : α) : List α := (ps.set i y).set j x
theorem swl_len {ps : List α} {i j : Nat} {x y : α} : (swl ps i j x y).length = ps.length := by simp [swl]
theorem gOf_sw {k : α → Ky} {ps : List α} {i j : Nat} {x y : α} (hi : ps[i]? = some x) (hj : ps[j]? = some y) : gOf k (swl ps i j x y) = sw (gOf k ps) i j := by
  obtain ⟨hi', ei⟩ := List.getElem?_eq_some_iff.mp hi
  obtain ⟨hj', ej⟩ := List.getElem?_eq_some_iff.mp hj
  funext m
  unfold sw
  by_cases c1 : m = j
  · subst c1
    rw [if_pos rfl, gOf_eq hi]
    refine gOf_eq ?_
    unfold swl
    rw [List.getElem?_set_self (by simpa using hj')]
  · rw [if_neg c1]
    by_cases c2 : m = i
    · subst c2
      rw [if_pos rfl, gOf_eq hj]
      refine gOf_eq ?_
      unfold swl
      rw [List.getElem?_set_ne (Ne.symm c1), List.getElem?_set_self hi']
    · rw [if_neg c2]
      unfold gOf swl
      rw [List.getElem?_set_ne (Ne.symm c1), List.getElem?_set_ne (Ne.symm c2)]
theorem swl_perm {ps : List α} {i j : Nat} {x y : α} (hi : ps[i]? = some x) (hj : ps[j]? = some y) : (swl ps i j x y).Perm ps := by
  obtain ⟨hi', ei⟩ := List.getElem?_eq_some_iff.mp hi
  obtain ⟨hj', ej⟩ := List.getElem?_eq_some_iff.mp hj
  subst ei ej
  unfold swl
  exact List.set_set_perm hi' hj'
end
end AT
end
section
set_option maxHeartbeats 4000000
/-! AT22: heappush, heappop as the model runs them. -/
namespace AT
open PySem PySem.Spec PyProof.Rows L2
theorem sift_entry : entryFor table "_heapq.heapify.sift" = some Builtin.«_heapq.heapify.sift» := entryFor_of_tree (by kernel_rfl)
theorem sift_plain : plainId "_heapq.heapify.sift" = true := by decide +kernel
theorem push_entry : entryFor table "_heapq.heappush" = some Builtin.«_heapq.heappush» := entryFor_of_tree (by kernel_rfl)
theorem pop_entry : entryFor table "_heapq.heappop" = some Builtin.«_heapq.heappop» := entryFor_of_tree (by kernel_rfl)
theorem List.Nodup.getElem_inj_iff' {α : Type} {l : List α} (h : l.Nodup) {i j : Nat} (hi : i < l.length) (hj : j < l.length) : l[i] = l[j] ↔ i = j := by
  constructor
  · intro e
    have := List.pairwise_iff_getElem.mp h
    rcases Nat.lt_trichotomy i j with q | q | q
    · exact absurd e (this i j hi hj q)
    · exact q
    · exact absurd e.symm (this j i hj hi q)
  · intro e; subst e; rfl
/-- a list object -/
def LAt (h : Heap) (a : Addr) (xs : List Value) : Prop := ∃ n, h.get? a = some ({ cls := .type "list", data := .seq xs.toArray n } : Obj)
abbrev VK2 := Value × Ky
/-- the row at a: its things, their keys -/
structure HAt (h : Heap) (a : Addr) (ps : List VK2) : Prop where
  at_ : LAt h a (ps.map (·.1))
  key : ∀ p ∈ ps, KeyV h p.1 p.2
  nd : (ps.map (·.2)).Nodup
theorem KeyV.keep {h h' : Heap} {a : Addr} {v : Value} {k : Ky} (x : KeyV h v k) (sb : Heap.SameBut a h h') {xs : List Value} (hl : LAt h a xs) : KeyV h' v k := by
  obtain ⟨b, its, t1, t2, t3, r, rfl, ⟨o, ho, hc, hd⟩, e⟩ := x
  obtain ⟨n, hl⟩ := hl
  have hb : b ≠ a := fun z => by
    subst z
    rw [hl] at ho
    cases ho
    exact absurd hc (by simp)
  exact ⟨b, its, t1, t2, t3, r, rfl, ⟨o, (sb.2 b hb).trans ho, hc, hd⟩, e⟩
theorem HAt.perm {h h' : Heap} {a : Addr} {ps qs : List VK2} (x : HAt h a ps) (sb : Heap.SameBut a h h') (hl : LAt h' a (qs.map (·.1))) (p : qs.Perm ps) : HAt h' a qs :=
  ⟨hl, fun q hq => (x.key q (p.mem_iff.mp hq)).keep sb x.at_, (p.map _).nodup_iff.mpr x.nd⟩
theorem HAt.ne {h : Heap} {a : Addr} {ps : List VK2} (x : HAt h a ps) {i j : Nat} {p q : VK2} (hi : ps[i]? = some p) (hj : ps[j]? = some q) (hij : i ≠ j) : p.2 ≠ q.2 := fun e => hij (by
  have h1 : (ps.map (·.2))[i]? = some p.2 := by rw [List.getElem?_map, hi]; rfl
  have h2 : (ps.map (·.2))[j]? = some p.2 := by rw [List.getElem?_map, hj, e]; rfl
  obtain ⟨i', ei⟩ := List.getElem?_eq_some_iff.mp h1
  obtain ⟨j', ej⟩ := List.getElem?_eq_some_iff.mp h2
  exact (List.Nodup.getElem_inj_iff' x.nd i' j').mp (ei.trans ej.symm))
section
variable {prog : Program} {w : World} {A : Around} {E : Value → Shared → Prop}
/-- two things of the list change places -/
theorem lat_swap {h : Heap} {a : Addr} {ps : List VK2} {i j : Nat} {p q : VK2} (hl : LAt h a (ps.map (·.1))) (hi : ps[i]? = some p) (hj : ps[j]? = some q) :
    LAt (h.update a (Obj.mapSeq fun xs => (xs.setIfInBounds i q.1).setIfInBounds j p.1)) a ((swl ps i j p q).map (·.1)) ∧ Heap.SameBut a h (h.update a (Obj.mapSeq fun xs => (xs.setIfInBounds i q.1).setIfInBounds j p.1)) := by
  obtain ⟨n, hl⟩ := hl
  refine ⟨⟨n, ?_⟩, Heap.SameBut.update ..⟩
  rw [Heap.get?_update_self _ hl rfl]
  simp [Obj.mapSeq, swl, List.map_set]
theorem at_run {M : Model} {xs : Array Value} {i : Nat} {v : Value} {Q : Value → Shared → Prop} {s : Shared} (h : xs[i]? = some v) (q : Q v s) : wpAny M A (match xs[i]? with
  | some v => pure v
  | none => unsupported "internal:_heapq.index") Q E s := by
  rw [h]
  exact wpAny_pure q
theorem less_run {s : Shared} {a : Addr} {o : Obj} {its : Array Value} {n size : Nat} {x y : Value} {k l : Ky} {Q : Bool → Shared → Prop} (ho : s.heap.get? a = some o) (hd : o.data = .seq its n) (hs : its.size = size) (hx : KeyV s.heap x k) (hy : KeyV s.heap y l) (hne : k ≠ l) (hu : A.units < cLine) (q : Q (decide (klt k l)) s) :
    wpAny (model prog w) A (do
      let less ← holding [x, y] (do truthOfDropped (← richCompare .Lt x y))
      let its ← (do
        let some xs ← seqItems? (.ref a) | unsupported "internal:_heapq"
        pure xs)
      if its.size != size then
        rule "_heapq.size-changed"
        raiseError "RuntimeError" "list changed size during iteration"
      return less) Q E s := by
  refine wpAny_bind (wpAny_holding (wpAny_bind (lt_key hx hy hne hu (wpAny_truthy_bool ?_))))
  refine wpAny_bind (wpAny_bind (wpAny_seqItems ho hd (wpAny_pure ?_)))
  rw [if_neg (by rw [hs]; simp)]
  exact wpAny_pure q
theorem swap_run {s : Shared} {a : Addr} {ps : List VK2} {n i j : Nat} {p q : VK2} {Q : Unit → Shared → Prop} (hl : s.heap.get? a = some ({ cls := .type "list", data := .seq (ps.map (·.1)).toArray n } : Obj)) (hz : ps.length ≤ sizeLine) (hi : ps[i]? = some p) (hj : ps[j]? = some q)
    (h : ∀ h', LAt h' a ((swl ps i j p q).map (·.1)) → Heap.SameBut a s.heap h' → Q () { s with heap := h' }) :
    wpAny (model prog w) A (do
      let xs ← (do
        let some xs ← seqItems? (.ref a) | unsupported "internal:_heapq"
        pure xs)
      let x ← (match xs[i]? with
        | some v => pure v
        | none => unsupported "internal:_heapq.index")
      let y ← (match xs[j]? with
        | some v => pure v
        | none => unsupported "internal:_heapq.index")
      updateSeq a fun xs => (xs.setIfInBounds i y).setIfInBounds j x) Q E s := by
  refine wpAny_bind (wpAny_bind (wpAny_seqItems hl rfl (wpAny_pure ?_)))
  refine wpAny_bind (at_run (v := p.1) (by simp [hi]) ?_)
  refine wpAny_bind (at_run (v := q.1) (by simp [hj]) ?_)
  obtain ⟨h1, h2⟩ := lat_swap ⟨n, hl⟩ hi hj
  exact wpAny_updateSeq hl rfl (h _ h1 h2) (by simpa using hz) (by simp; omega)
theorem sift_run {a : Addr} {result : Value} {R : Result → Shared → Prop} : ∀ (fuel : Nat) (down : Bool) (pos : Nat) (ps : List VK2) (s : Shared), (if down = true then ps.length - pos + ps.length else pos) < fuel → HAt s.heap a ps → ps.length ≤ sizeLine → pos < ps.length →
    (if down = true then HDn (gOf (·.2) ps) ps.length pos else HUp (gOf (·.2) ps) ps.length pos) → A.units + 1 < cLine →
    (∀ h' qs, HAt h' a qs → qs.Perm ps → HAll (gOf (·.2) qs) qs.length → Heap.SameBut a s.heap h' → R (.ok (.ret result)) { s with heap := h' }) →
    codeAny (model prog w) A (.builtin "_heapq.heapify.sift" ⟨[.ref a, .bool false, .bool down, rawInt pos, rawInt 0, result, rawInt (-1)], []⟩) R s
  | 0, _, _, _, _, hf, _, _, _, _, _, _ => absurd hf (Nat.not_lt_zero _)
  | fuel + 1, down, pos, ps, s, hf, hat, hz, hpos, hinv, hu, hR => by
    refine codeAny_builtin sift_entry ?_
    rw [Around.under_plainId sift_plain _]
    unfold Builtin.«_heapq.heapify.sift»
    dsimp only
    k_delta "heapqItems"
    k_delta "heapqSift"
    k_delta "heapqSwap"
    k_delta "heapqLess"
    k_delta "heapqAt"
    k_delta "heapqItems"
    dsimp only
    obtain ⟨n, hl⟩ := hat.at_
    have hu1 : A.in1.units < cLine := hu
    obtain ⟨p, hp⟩ : ∃ p, ps[pos]? = some p := ⟨_, List.getElem?_eq_getElem hpos⟩
    have hsz : (ps.map (·.1)).toArray.size = ps.length := by simp
    have kp := hat.key p (List.mem_of_getElem? hp)
    refine wpAny_bind (wpAny_bind (wpAny_seqItems hl rfl (wpAny_pure ?_)))
    cases down with
    | true =>
      simp only [if_true] at hf hinv
      rw [if_pos rfl]
      by_cases hlf : pos < ps.length / 2
      · rw [if_pos (show ((pos : Int)).toNat < (ps.map (·.1)).toArray.size / 2 by rw [hsz]; exact hlf)]
        obtain ⟨l, hL⟩ : ∃ l, ps[2 * pos + 1]? = some l := ⟨_, List.getElem?_eq_getElem (by omega)⟩
        have kl := hat.key l (List.mem_of_getElem? hL)
        have go : ∀ (c d : Nat) (q : VK2), ps[c]? = some q → (c = 2 * pos + 1 ∨ c = 2 * pos + 2) → ((d = 2 * pos + 1 ∨ d = 2 * pos + 2) ∧ d ≠ c) → (d < ps.length → klt (gOf (·.2) ps c) (gOf (·.2) ps d)) →
            ∀ h', LAt h' a ((swl ps c pos q p).map (·.1)) → Heap.SameBut a s.heap h' → codeAny (model prog w) A (.builtin "_heapq.heapify.sift" ⟨[.ref a, .bool false, .bool true, rawInt c, rawInt 0, result, rawInt (-1)], []⟩) R { s with heap := h' } := by
          intro c d q hc hcp hd hlt h' hl' sb
          have hcl : c < ps.length := (List.getElem?_eq_some_iff.mp hc).1
          have pm : (swl ps c pos q p).Perm ps := swl_perm hc hp
          refine sift_run fuel true c (swl ps c pos q p) { s with heap := h' } (by simp only [if_true, swl_len]; omega) (hat.perm sb hl' pm) (by rw [swl_len]; exact hz) (by rw [swl_len]; exact hcl) ?_ hu ?_
          · simp only [if_true, swl_len]
            rw [gOf_sw hc hp]
            exact hinv.step hcl hcp hd hlt
          · intro h2 qs h2' p2 hall sb2
            exact hR h2 qs h2' (p2.trans pm) hall (sb.trans sb2)
        by_cases hr : 2 * pos + 1 + 1 < ps.length
        · rw [if_pos (show 2 * ((pos : Int)).toNat + 1 + 1 < (ps.map (·.1)).toArray.size by rw [hsz]; exact hr)]
          obtain ⟨r, hRt⟩ : ∃ r, ps[2 * pos + 1 + 1]? = some r := ⟨_, List.getElem?_eq_getElem hr⟩
          have kr := hat.key r (List.mem_of_getElem? hRt)
          refine wpAny_bind (at_run (v := l.1) (by
            show (ps.map (·.1)).toArray[2 * pos + 1]? = _
            simp [hL]) ?_)
          refine wpAny_bind (at_run (v := r.1) (by
            show (ps.map (·.1)).toArray[2 * pos + 1 + 1]? = _
            simp [hRt]) ?_)
          rw [if_neg (by decide)]
          refine wpAny_bind (less_run hl rfl rfl kl kr (hat.ne hL hRt (by omega)) hu1 ?_)
          by_cases hk : klt l.2 r.2
          · rw [decide_eq_true hk, if_neg (by decide)]
            refine wpAny_bind (swap_run (i := 2 * pos + 1) (j := pos) hl hz hL hp fun h' hl' sb => wpAny_pure ⟨plainId_quiet sift_plain _, ?_⟩)
            exact go (2 * pos + 1) (2 * pos + 2) l hL (.inl rfl) ⟨.inr rfl, by omega⟩ (fun _ => by rw [gOf_eq hL, gOf_eq (i := 2 * pos + 2) hRt]; exact hk) h' hl' sb
          · rw [decide_eq_false hk, if_pos (by decide)]
            refine wpAny_bind (swap_run (i := 2 * pos + 1 + 1) (j := pos) hl hz hRt hp fun h' hl' sb => wpAny_pure ⟨plainId_quiet sift_plain _, ?_⟩)
            exact go (2 * pos + 1 + 1) (2 * pos + 1) r hRt (.inr rfl) ⟨.inl rfl, by omega⟩ (fun _ => by rw [gOf_eq hL, gOf_eq hRt]; exact klt.total (hat.ne hL hRt (by omega)) hk) h' hl' sb
        · rw [if_neg (show ¬ 2 * ((pos : Int)).toNat + 1 + 1 < (ps.map (·.1)).toArray.size by rw [hsz]; exact hr)]
          refine wpAny_bind (swap_run (i := 2 * pos + 1) (j := pos) hl hz hL hp fun h' hl' sb => wpAny_pure ⟨plainId_quiet sift_plain _, ?_⟩)
          exact go (2 * pos + 1) (2 * pos + 2) l hL (.inl rfl) ⟨.inr rfl, by omega⟩ (fun q => absurd q (by omega)) h' hl' sb
      · rw [if_neg (show ¬ ((pos : Int)).toNat < (ps.map (·.1)).toArray.size / 2 by rw [hsz]; exact hlf)]
        refine wpAny_pure ⟨plainId_quiet sift_plain _, ?_⟩
        refine sift_run fuel false pos ps s (by simp only [Bool.false_eq_true, if_false]; omega) hat hz hpos ?_ hu hR
        simp only [Bool.false_eq_true, if_false]
        exact hinv.leaf (by omega)
    | false =>
      simp only [Bool.false_eq_true, if_false] at hf hinv
      rw [if_neg (by decide)]
      by_cases h0 : pos > 0
      · rw [if_pos (show ((pos : Int)).toNat > Int.toNat 0 from h0)]
        obtain ⟨q, hq⟩ : ∃ q, ps[(pos - 1) / 2]? = some q := ⟨_, List.getElem?_eq_getElem (by omega)⟩
        have kq := hat.key q (List.mem_of_getElem? hq)
        refine wpAny_bind (at_run (v := p.1) (by
          show (ps.map (·.1)).toArray[pos]? = _
          simp [hp]) ?_)
        refine wpAny_bind (at_run (v := q.1) (by
          show (ps.map (·.1)).toArray[(pos - 1) / 2]? = _
          simp [hq]) ?_)
        rw [if_neg (by decide)]
        refine wpAny_bind (less_run hl rfl rfl kp kq (hat.ne hp hq (by omega)) hu1 ?_)
        by_cases hk : klt p.2 q.2
        · rw [decide_eq_true hk, if_pos rfl]
          refine wpAny_bind (swap_run (i := (pos - 1) / 2) (j := pos) hl hz hq hp fun h' hl' sb => wpAny_pure ⟨plainId_quiet sift_plain _, ?_⟩)
          have pm : (swl ps ((pos - 1) / 2) pos q p).Perm ps := swl_perm hq hp
          refine sift_run fuel false ((pos - 1) / 2) (swl ps ((pos - 1) / 2) pos q p) { s with heap := h' } (by simp only [Bool.false_eq_true, if_false]; omega) (hat.perm sb hl' pm) (by rw [swl_len]; exact hz) (by rw [swl_len]; omega) ?_ hu ?_
          · simp only [Bool.false_eq_true, if_false, swl_len]
            rw [gOf_sw hq hp]
            exact hinv.step h0 hpos (by rw [gOf_eq hp, gOf_eq hq]; exact hk)
          · intro h2 qs h2' p2 hall sb2
            exact hR h2 qs h2' (p2.trans pm) hall (sb.trans sb2)
        · rw [decide_eq_false hk, if_neg (by decide), if_pos (by decide)]
          refine wpAny_pure ?_
          exact hR s.heap ps hat (.refl _) (hinv.stop fun _ => by rw [gOf_eq hp, gOf_eq hq]; exact klt.total (hat.ne hp hq (by omega)) hk) (.refl _ _)
      · rw [if_neg (show ¬ ((pos : Int)).toNat > Int.toNat 0 from h0), if_pos (by decide)]
        refine wpAny_pure ?_
        exact hR s.heap ps hat (.refl _) (hinv.stop fun q => absurd q h0) (.refl _ _)
end
end AT
end
section
set_option maxHeartbeats 4000000
/-! AT23: heappush, heappop as built-ins over data. -/
namespace AT
open PySem PySem.Spec PyProof.Rows L2
section
variable {prog : Program} {w : World} {A : Around} {E : Value → Shared → Prop} {s : Shared}
/-- a built-in function that goes on in a further code -/
theorem call_fn_again {id : String} {b : Builtin} {args : List Value} {Q : Value → Shared → Prop} (hk : builtinKind id = none) (hp : plainId id = true) (hb : entryFor table id = some b) (ha : argsOk id ⟨args, []⟩)
    (hfin : wpAny (model prog w) A.in1 (b ⟨args, []⟩) (fun fin s' => match fin with
      | .done f => (match (Except.ok f : Result) with | .ok (.ret v) => Q v s' | .ok _ => False | .error e => E e s')
      | .again c' => c'.quiet = true ∧ codeAny (model prog w) A c' (fun r s' => match r with | .ok (.ret v) => Q v s' | .ok _ => False | .error e => E e s') s') E s) : wpAny (model prog w) A (call (.builtin id) args) Q E s := by
  refine wpAny_call (codeAny_call_builtin hp hb ?_)
  simp only [checkBuiltinCall, hk]
  cases hsig : Manifest.signature? id with
  | none => exact wpAny_pure hfin
  | some sig =>
    simp only [argsOk, hsig] at ha
    have h2 : Bind.checkArgs id sig ⟨args, []⟩ = pure () := ha
    show wpAny _ A.in1 (Bind.checkArgs id sig ⟨args, []⟩) _ _ s
    rw [h2]; exact wpAny_pure hfin
theorem push_kind : builtinKind "_heapq.heappush" = none := by decide +kernel
theorem push_plain : plainId "_heapq.heappush" = true := by decide +kernel
theorem push_args (a b : Value) : argsOk "_heapq.heappush" ⟨[a, b], []⟩ := by unfold argsOk; kernel_rfl
theorem pop_kind : builtinKind "_heapq.heappop" = none := by decide +kernel
theorem pop_plain : plainId "_heapq.heappop" = true := by decide +kernel
theorem pop_args (a : Value) : argsOk "_heapq.heappop" ⟨[a], []⟩ := by unfold argsOk; kernel_rfl
theorem push_run {a : Addr} {u : Value} {k : Ky} {ps : List VK2} {Q : Value → Shared → Prop} (hat : HAt s.heap a ps) (hz : ps.length < sizeLine) (hk : KeyV s.heap u k) (hn : k ∉ ps.map (·.2)) (hall : HAll (gOf (·.2) ps) ps.length) (hu : A.units + 1 < cLine)
    (h : ∀ h' qs, HAt h' a qs → qs.Perm (ps ++ [(u, k)]) → HAll (gOf (·.2) qs) qs.length → Heap.SameBut a s.heap h' → Q .none { s with heap := h' }) :
    wpAny (model prog w) A (call (.builtin "_heapq.heappush") [.ref a, u]) Q E s := by
  refine call_fn_again push_kind push_plain push_entry (push_args _ _) ?_
  obtain ⟨n, hl⟩ := hat.at_
  unfold Builtin.«_heapq.heappush»
  k_delta "heapqTwo"
  k_delta "heapqSift"
  k_delta "heapqItems"
  k_delta "heapqList"
  dsimp only
  have hT : s.TypeIs (.ref a) "list" := ⟨_, hl, rfl⟩
  have hsub : isSubtype (.type "list") (.type "list") = pure true := by first | rfl | kernel_rfl | (rw [isSubtype_type]; kernel_rfl)
  have hsz : (ps.map (·.1)).toArray.size = ps.length := by simp
  refine wpAny_bind ?_
  refine wpAny_bind (m := noKeywords _ _) (wpAny_pure ?_)
  refine wpAny_bind (m := checkCount "heappush" 2 2 _) (wpAny_pure ?_)
  refine wpAny_bind (wpAny_bind (wpAny_isInstance hT hsub ?_))
  rw [if_pos (show (true : Bool) = true from rfl)]
  refine wpAny_pure (wpAny_pure ?_)
  have z1 : (ps.map (·.1)).toArray.size ≤ sizeLine := by rw [hsz]; omega
  have z2 : ((ps.map (·.1)).toArray.push u).size ≤ sizeLine + 1 := by rw [Array.size_push, hsz]; omega
  refine wpAny_bind (wpAny_updateSeq (f := fun x => x.push u) hl rfl ?_ z1 z2)
  have hl2 : (s.heap.update a (Obj.mapSeq fun x => x.push u)).get? a = some ({ cls := .type "list", data := .seq ((ps ++ [(u, k)]).map (·.1)).toArray (n + 1) } : Obj) := by
    rw [Heap.get?_update_self _ hl rfl]
    simp [Obj.mapSeq]
  have sb : Heap.SameBut a s.heap (s.heap.update a (Obj.mapSeq fun x => x.push u)) := Heap.SameBut.update ..
  refine wpAny_bind (wpAny_bind (wpAny_seqItems hl2 rfl (wpAny_pure ?_)))
  refine wpAny_pure ⟨plainId_quiet sift_plain _, ?_⟩
  have e1 : ((ps ++ [(u, k)]).map (·.1)).toArray.size - 1 = ps.length := by simp
  rw [e1]
  have hk2 : KeyV (s.heap.update a (Obj.mapSeq fun x => x.push u)) u k := hk.keep sb hat.at_
  have hat2 : HAt (s.heap.update a (Obj.mapSeq fun x => x.push u)) a (ps ++ [(u, k)]) := ⟨⟨n + 1, hl2⟩, fun q hq => by
    rcases List.mem_append.mp hq with z | z
    · exact (hat.key q z).keep sb hat.at_
    · rw [List.mem_singleton] at z
      subst z
      exact hk2, by
    rw [List.map_append, List.nodup_append]
    refine ⟨hat.nd, by simp, fun x hx y hy z => ?_⟩
    simp only [List.map_cons, List.map_nil, List.mem_singleton] at hy
    subst hy
    exact hn (z ▸ hx)⟩
  refine sift_run (ps.length + 1) false ps.length (ps ++ [(u, k)]) { s with heap := s.heap.update a (Obj.mapSeq fun x => x.push u) } (by simp) hat2 (by simp; omega) (by simp) ?_ hu ?_
  · simp only [Bool.false_eq_true, if_false]
    have g1 : ∀ i, i < ps.length → gOf (·.2) (ps ++ [(u, k)]) i = gOf (·.2) ps i := fun i hi => by
      unfold gOf
      rw [List.getElem?_append_left hi]
    refine ⟨fun i i0 hi ne => ?_, fun i i0 hi e q => ?_⟩
    · rw [List.length_append, List.length_singleton] at hi
      rw [g1 i (by omega), g1 _ (by omega)]
      exact hall i i0 (by omega)
    · rw [List.length_append, List.length_singleton] at hi
      omega
  · intro h' qs h1 h2 h3 h4
    exact h h' qs h1 h2 h3 (sb.trans h4)
theorem pop_run {a : Addr} {p : VK2} {ps : List VK2} {Q : Value → Shared → Prop} (hat : HAt s.heap a (p :: ps)) (hz : ps.length < sizeLine) (hall : HAll (gOf (·.2) (p :: ps)) (ps.length + 1)) (hu : A.units + 1 < cLine)
    (h : ∀ h' qs, HAt h' a qs → qs.Perm ps → HAll (gOf (·.2) qs) qs.length → Heap.SameBut a s.heap h' → Q p.1 { s with heap := h' }) :
    wpAny (model prog w) A (call (.builtin "_heapq.heappop") [.ref a]) Q E s := by
  refine call_fn_again pop_kind pop_plain pop_entry (pop_args _) ?_
  obtain ⟨n, hl⟩ := hat.at_
  unfold Builtin.«_heapq.heappop»
  k_delta "heapqPop"
  k_delta "heapqOne"
  k_delta "heapqSift"
  k_delta "heapqAt"
  k_delta "heapqItems"
  k_delta "heapqList"
  dsimp only
  have hT : s.TypeIs (.ref a) "list" := ⟨_, hl, rfl⟩
  have hsub : isSubtype (.type "list") (.type "list") = pure true := by first | rfl | kernel_rfl | (rw [isSubtype_type]; kernel_rfl)
  refine wpAny_bind ?_
  refine wpAny_bind (m := oneArg _ _) (wpAny_pure ?_)
  refine wpAny_bind (wpAny_bind (wpAny_isInstance hT hsub ?_))
  rw [if_pos (show (true : Bool) = true from rfl)]
  refine wpAny_pure (wpAny_pure ?_)
  refine wpAny_bind (wpAny_bind (wpAny_seqItems hl rfl (wpAny_pure ?_)))
  rcases List.eq_nil_or_concat ps with e | ⟨rs, q, e⟩
  · subst e
    have eb : (([p] : List VK2).map (·.1)).toArray.back? = some p.1 := by simp
    rw [eb]
    dsimp only
    refine wpAny_bind (wpAny_updateSeq (f := fun x => x.pop) hl rfl ?_ (by simp [sizeLine_eq]) (by simp))
    rw [if_pos (by simp)]
    refine wpAny_pure ?_
    refine h _ [] ⟨⟨n + 1, ?_⟩, fun q hq => (by cases hq), List.nodup_nil⟩ (.refl _) (fun i i0 hi => absurd hi (Nat.not_lt_zero _)) (Heap.SameBut.update ..)
    rw [Heap.get?_update_self _ hl rfl]
    simp [Obj.mapSeq]
  · subst e
    rw [List.concat_eq_append] at hat hz hall h hl ⊢
    have eb : ((p :: (rs ++ [q])).map (·.1)).toArray.back? = some q.1 := by
      have e : (p :: (rs ++ [q])).map (·.1) = (p.1 :: rs.map (·.1)) ++ [q.1] := by simp
      rw [e]
      rw [List.back?_toArray, List.getLast?_append]
      rfl
    rw [eb]
    dsimp only
    have hz' : (rs ++ [q]).length < sizeLine := hz
    have hsz : ((p :: (rs ++ [q])).map (·.1)).toArray.size = rs.length + 2 := by simp
    refine wpAny_bind (wpAny_updateSeq hl rfl ?_ (by rw [hsz]; rw [List.length_append, List.length_singleton] at hz'; omega) (by rw [Array.size_pop, hsz]; rw [List.length_append, List.length_singleton] at hz'; omega))
    rw [if_neg (by rw [hsz]; exact fun z => absurd (beq_iff_eq.mp z) (by omega))]
    have e0 : ((p :: (rs ++ [q])).map (·.1)).toArray[0]? = some p.1 := by simp
    rw [e0]
    refine wpAny_bind (wpAny_pure ?_)
    have hl1 : (s.heap.update a (Obj.mapSeq fun x => x.pop)).get? a = some ({ cls := .type "list", data := .seq ((p :: rs).map (·.1)).toArray (n + 1) } : Obj) := by
      rw [Heap.get?_update_self _ hl rfl]
      simp [Obj.mapSeq]
      rw [← List.cons_append, List.dropLast_concat]
    refine wpAny_bind (wpAny_updateSeq hl1 rfl ?_ (by rw [List.length_append, List.length_singleton] at hz'; simp; omega) (by rw [List.length_append, List.length_singleton] at hz'; simp; omega))
    have hl2 : ((s.heap.update a (Obj.mapSeq fun x => x.pop)).update a (Obj.mapSeq fun x => x.setIfInBounds 0 q.1)).get? a = some ({ cls := .type "list", data := .seq ((q :: rs).map (·.1)).toArray (n + 1) } : Obj) := by
      rw [Heap.get?_update_self _ hl1 rfl]
      simp [Obj.mapSeq]
    have sb : Heap.SameBut a s.heap ((s.heap.update a (Obj.mapSeq fun x => x.pop)).update a (Obj.mapSeq fun x => x.setIfInBounds 0 q.1)) := (Heap.SameBut.update ..).trans (Heap.SameBut.update ..)
    refine wpAny_pure ⟨plainId_quiet sift_plain _, ?_⟩
    have nd0 : ((q :: rs).map (·.2)).Nodup := by
      have := hat.nd
      rw [List.map_cons, List.nodup_cons, List.map_append, List.map_cons, List.map_nil] at this
      have p2 : ((q :: rs).map (·.2)).Perm (rs.map (·.2) ++ [q.2]) := by
        rw [List.map_cons]
        exact (List.perm_append_singleton _ _).symm
      exact p2.nodup_iff.mpr this.2
    have hat2 : HAt ((s.heap.update a (Obj.mapSeq fun x => x.pop)).update a (Obj.mapSeq fun x => x.setIfInBounds 0 q.1)) a (q :: rs) := ⟨⟨n + 1, hl2⟩, fun z hz => (hat.key z (by
      rcases List.mem_cons.mp hz with w | w
      · subst w; simp
      · simp [w])).keep sb hat.at_, nd0⟩
    refine sift_run (2 * (rs.length + 1) + 1) true 0 (q :: rs) { s with heap := (s.heap.update a (Obj.mapSeq fun x => x.pop)).update a (Obj.mapSeq fun x => x.setIfInBounds 0 q.1) } (by simp; omega) hat2 (by rw [List.length_append, List.length_singleton] at hz'; simp; omega) (by simp) ?_ hu ?_
    · simp only [if_true]
      have g1 : ∀ i, 0 < i → i < rs.length + 1 → gOf (·.2) (q :: rs) i = gOf (·.2) (p :: (rs ++ [q])) i := fun i i0 hi => by
        unfold gOf
        cases i with
        | zero => omega
        | succ i =>
          rw [List.getElem?_cons_succ, List.getElem?_cons_succ, List.getElem?_append_left (by omega)]
      refine ⟨fun i i0 hi ne ne2 => ?_, fun i i0 hi e q => absurd q (Nat.lt_irrefl _)⟩
      rw [List.length_cons] at hi
      rw [g1 i i0 hi, g1 _ (by omega) (by omega)]
      exact hall i i0 (by simp; omega)
    · intro h' qs h1 h2 h3 h4
      exact h h' qs h1 (h2.trans (List.perm_append_singleton _ _).symm) h3 (sb.trans h4)
end
end AT
end
section
set_option maxHeartbeats 4000000
/-! AT24: heappush, heappop over data. -/
namespace AT
open PySem PySem.Spec PyProof.Rows L2
theorem perm_map_inv {α β : Type} {f : α → β} : ∀ {qs ps : List β}, qs.Perm ps → ∀ {l : List α}, l.map f = ps → ∃ l' : List α, l'.Perm l ∧ l'.map f = qs := by
  intro qs ps h
  induction h with
  | nil =>
    intro l e
    exact ⟨l, .refl _, e⟩
  | cons x h ih =>
    intro l e
    cases l with
    | nil => cases e
    | cons a l =>
      rw [List.map_cons] at e
      injection e with e1 e2
      obtain ⟨l', p, e3⟩ := ih e2
      exact ⟨a :: l', p.cons a, by rw [List.map_cons, e1, e3]⟩
  | swap x y l0 =>
    intro l e
    match l, e with
    | a :: b :: l, e =>
      simp only [List.map_cons, List.cons.injEq] at e
      exact ⟨b :: a :: l, List.Perm.swap a b l, by simp [e.1, e.2.1, e.2.2]⟩
    | [a], e => simp at e
    | [], e => cases e
  | trans h1 h2 ih1 ih2 =>
    intro l e
    obtain ⟨l1, p1, e1⟩ := ih2 e
    obtain ⟨l2, p2, e2⟩ := ih1 e1
    exact ⟨l2, p2.trans p1, e2⟩
structure Tr3 where
  p : VK2
  v : V
  d : D
section
variable {T : Wd} {X : Cx} {pins : List (Addr × Obj)} {σ : L2.St} {H : Hp} {s : Shared} {G : Gp}
def TrOk (T : Wd) (H : Hp) (t : Tr3) : Prop := RelV t.v t.p.1 ∧ DV T.K T.fa H t.v t.d ∧ hkey t.d = some t.p.2
theorem key_of_DV (hK : X.K = T.K) (I : Inv X pins σ H s) {v : V} {d : D} {u : Value} {k : Ky} (hd : DV T.K T.fa H v d) (r : RelV v u) (hk : hkey d = some k) : KeyV s.heap u k := by
  unfold hkey at hk
  split at hk
  · rename_i a b c rest
    cases hk
    cases hd with
    | tup h1 h2 =>
      cases r
      cases h2 with
      | cons d1 h2 =>
        cases h2 with
        | cons d2 h2 =>
          cases h2 with
          | cons d3 h2 =>
            cases d1
            cases d2
            cases d3
            obtain ⟨its, rv, ht, _⟩ := I.tuple (by rw [hK]; exact h1)
            cases rv with
            | cons r1 rv =>
              cases rv with
              | cons r2 rv =>
                cases rv with
                | cons r3 rv =>
                  obtain ⟨t1, rfl⟩ := r1
                  obtain ⟨t2, rfl⟩ := r2
                  obtain ⟨t3, rfl⟩ := r3
                  exact ⟨_, _, t1, t2, t3, _, rfl, ht, rfl⟩
  · cases hk
theorem tr_of : ∀ {vs : List V} {ds : List D} {its : List Value}, DVs T.K T.fa H vs ds → Vals vs its → (∀ d ∈ ds, (hkey d).isSome) → ∃ tr : List Tr3, tr.map (·.p.1) = its ∧ tr.map (·.v) = vs ∧ tr.map (·.d) = ds ∧ ∀ t ∈ tr, TrOk T H t
  | _, _, _, .nil, .nil, _ => ⟨[], rfl, rfl, rfl, fun t ht => by cases ht⟩
  | _, _, _, .cons (v := v) (d := d) h hs, .cons (b := u) r rs, hk => by
    obtain ⟨tr, e1, e2, e3, e4⟩ := tr_of hs rs fun d hd => hk d (List.mem_cons_of_mem _ hd)
    obtain ⟨k, ek⟩ := Option.isSome_iff_exists.mp (hk d List.mem_cons_self)
    refine ⟨⟨(u, k), v, d⟩ :: tr, by rw [List.map_cons, e1], by rw [List.map_cons, e2], by rw [List.map_cons, e3], fun t ht => ?_⟩
    rcases List.mem_cons.mp ht with z | z
    · subst z; exact ⟨r, h, ek⟩
    · exact e4 t z
theorem tr_vals : ∀ {tr : List Tr3}, (∀ t ∈ tr, TrOk T H t) → Vals (tr.map (·.v)) (tr.map (·.p.1)) ∧ DVs T.K T.fa H (tr.map (·.v)) (tr.map (·.d))
  | [], _ => ⟨.nil, .nil⟩
  | t :: tr, h => by
    obtain ⟨h1, h2⟩ := tr_vals (tr := tr) fun t ht => h t (List.mem_cons_of_mem _ ht)
    obtain ⟨a, b, _⟩ := h t List.mem_cons_self
    exact ⟨.cons a h1, .cons b h2⟩
theorem tr_keys : ∀ {tr : List Tr3}, (∀ t ∈ tr, TrOk T H t) → (tr.map (·.d)).map hkey = (tr.map (·.p.2)).map some
  | [], _ => rfl
  | t :: tr, h => by
    rw [List.map_cons, List.map_cons, List.map_cons, List.map_cons, tr_keys (tr := tr) fun t ht => h t (List.mem_cons_of_mem _ ht), (h t List.mem_cons_self).2.2]
theorem gOf_tr {tr : List Tr3} (i : Nat) : gOf (·.2) (tr.map (·.p)) i = ((tr[i]?).map (·.p.2)).getD (0, 0, 0) := by
  unfold gOf
  rw [List.getElem?_map]
  cases tr[i]? <;> rfl
/-- a heap of data is one of keys, and the other way -/
theorem heapOk_all {tr : List Tr3} (h : ∀ t ∈ tr, TrOk T H t) (ho : HeapOk (tr.map (·.d))) : HAll (gOf (·.2) (tr.map (·.p))) tr.length ∧ ((tr.map (·.p)).map (·.2)).Nodup := by
  obtain ⟨h1, h2, h3⟩ := ho
  refine ⟨fun i i0 hi => ?_, ?_⟩
  · obtain ⟨x, hx⟩ : ∃ x, tr[i]? = some x := ⟨_, List.getElem?_eq_getElem hi⟩
    obtain ⟨y, hy⟩ : ∃ y, tr[(i - 1) / 2]? = some y := ⟨_, List.getElem?_eq_getElem (by omega)⟩
    rw [gOf_tr, gOf_tr, hx, hy]
    exact h3 i x.d y.d i0 (by rw [List.getElem?_map, hx]; rfl) (by rw [List.getElem?_map, hy]; rfl) _ _ (h x (List.mem_of_getElem? hx)).2.2 (h y (List.mem_of_getElem? hy)).2.2
  · rw [tr_keys h] at h2
    have e : (tr.map (·.p)).map (·.2) = tr.map (·.p.2) := by rw [List.map_map]; rfl
    rw [e]
    exact nodup_some h2
theorem all_heapOk {tr : List Tr3} (h : ∀ t ∈ tr, TrOk T H t) (ha : HAll (gOf (·.2) (tr.map (·.p))) tr.length) (nd : ((tr.map (·.p)).map (·.2)).Nodup) : HeapOk (tr.map (·.d)) := by
  refine ⟨fun d hd => ?_, ?_, fun i x y i0 hx hy k l hk hl => ?_⟩
  · obtain ⟨t, ht, rfl⟩ := List.mem_map.mp hd
    rw [(h t ht).2.2]
    rfl
  · rw [tr_keys h]
    have e : (tr.map (·.p)).map (·.2) = tr.map (·.p.2) := by rw [List.map_map]; rfl
    rw [e] at nd
    exact nodup_some' nd
  · rw [List.getElem?_map, Option.map_eq_some_iff] at hx hy
    obtain ⟨tx, ex, rfl⟩ := hx
    obtain ⟨ty, ey, rfl⟩ := hy
    have := ha i i0 (List.getElem?_eq_some_iff.mp ex).1
    rw [gOf_tr, gOf_tr, ex, ey] at this
    rw [(h tx (List.mem_of_getElem? ex)).2.2] at hk
    rw [(h ty (List.mem_of_getElem? ey)).2.2] at hl
    cases hk
    cases hl
    exact this
/-- the list's object is another now -/
theorem list_put (I : Inv X pins σ H s) (g : GR T G H) {a : Addr} {es : List D} {vs ws : List V} {us : List Value} {h' : Heap} (h1 : H a = some (.lst vs)) (sb : Heap.SameBut a s.heap h') (hl : LAt h' a us) (r : Vals ws us) (dv : DVs T.K T.fa H ws es) (hz : ws.length ≤ sizeLine) :
    Inv X pins σ (upd H a (.lst ws)) { s with heap := h' } ∧ Xt H (upd H a (.lst ws)) ∧ GR T (up G a (.lst es)) (upd H a (.lst ws)) := by
  obtain ⟨n, hl⟩ := hl
  obtain ⟨x', g'⟩ := g.lst (es := es) h1 dv
  refine ⟨I.write (t' := s.toks) (x := a) (e := a) (by rw [h1]; trivial) (.inl rfl) (fun b u hb q => (sb.2 b hb).trans q) ⟨_, hl⟩ ⟨hz, us, n, r, hl⟩, x', g'⟩
theorem cr_push (hK : X.K = T.K) (hu : X.A.units + 64 < cLine) : CallR X (.builtin "_heapq.heappush") (LP T .heappush) := by
  intro pins s σ H xs us Q I r h
  obtain ⟨ds, G, Q2, hd, g, h, k⟩ := h
  have h : heappushW ds G Q2 := h
  unfold heappushW at h
  split at h
  · rename_i a x h0
    obtain ⟨v1, v2, rfl, d1, d2⟩ := dvs2 hd
    obtain ⟨u1, u2, rfl, r1, r2⟩ := vals2 r
    cases d1 with
    | ref _ =>
    split at h
    · rename_i es ha
      obtain ⟨ho, hx, hn, hz, h⟩ := h
      obtain ⟨vs, h1, h2⟩ := g _ _ ha
      cases r1
      obtain ⟨its, n, rv, hob, hzl⟩ := I.lst h1
      obtain ⟨tr, e1, e2, e3, e4⟩ := tr_of h2 rv ho.1
      obtain ⟨kx, ekx⟩ := Option.isSome_iff_exists.mp hx
      have ok4 : TrOk T H ⟨(u2, kx), v2, x⟩ := ⟨r2, d2, ekx⟩
      subst e1 e2 e3
      obtain ⟨a1, a2⟩ := heapOk_all e4 ho
      have hat : HAt s.heap a (tr.map (·.p)) := ⟨⟨n, by
        have e : (tr.map (·.p)).map (·.1) = tr.map (·.p.1) := by rw [List.map_map]; rfl
        rw [e]
        exact hob⟩, fun p hp => by
        obtain ⟨t, ht, rfl⟩ := List.mem_map.mp hp
        exact key_of_DV hK I (e4 t ht).2.1 (e4 t ht).1 (e4 t ht).2.2, a2⟩
      rw [List.length_map] at hz
      refine push_run hat (by rw [List.length_map, ← line_eq]; exact hz) (key_of_DV hK I d2 r2 ekx) (fun hm => hn ?_) (by rw [List.length_map]; exact a1) (by omega) fun h' qs q1 q2 q3 q4 => ?_
      · obtain ⟨p, hp, ep⟩ := List.mem_map.mp hm
        obtain ⟨t, ht, rfl⟩ := List.mem_map.mp hp
        rw [ekx]
        exact List.mem_map.mpr ⟨t.d, List.mem_map.mpr ⟨t, ht, rfl⟩, by rw [(e4 t ht).2.2, ep]⟩
      · obtain ⟨tr', p1, p2⟩ := perm_map_inv (f := Tr3.p) q2 (l := tr ++ [⟨(u2, kx), v2, x⟩]) (by simp)
        have ok' : ∀ t ∈ tr', TrOk T H t := fun t ht => by
          rcases List.mem_append.mp (p1.mem_iff.mp ht) with z | z
          · exact e4 t z
          · rw [List.mem_singleton] at z
            subst z
            exact ok4
        subst p2
        obtain ⟨b1, b2⟩ := tr_vals ok'
        have hl' := q1.at_
        rw [List.map_map] at hl'
        have hlen : tr'.length = tr.length + 1 := by rw [p1.length_eq]; simp
        obtain ⟨I', x', g'⟩ := list_put I g h1 q4 (us := tr'.map (·.p.1)) hl' b1 b2 (by rw [List.length_map, hlen, ← line_eq]; omega)
        refine ⟨.non, _, I', rfl, k _ _ _ _ (h _ ?_ (all_heapOk ok' (by rw [List.length_map] at q3; exact q3) q1.nd)) x' .non g'⟩
        have := (p1.map Tr3.d)
        rw [List.map_append, List.map_cons, List.map_nil] at this
        exact this.trans (List.perm_append_singleton _ _)
    · exact h.elim
  · exact h.elim
theorem cr_pop (hK : X.K = T.K) (hu : X.A.units + 64 < cLine) : CallR X (.builtin "_heapq.heappop") (LP T .heappop) := by
  intro pins s σ H xs us Q I r h
  obtain ⟨ds, G, Q2, hd, g, h, k⟩ := h
  have h : heappopW ds G Q2 := h
  unfold heappopW at h
  split at h
  · rename_i a h0
    obtain ⟨v1, rfl, d1⟩ := dvs1 hd
    obtain ⟨u1, rfl, r1⟩ := vals1 r
    cases d1 with
    | ref _ =>
    split at h
    · rename_i es ha
      obtain ⟨ho, hne, h⟩ := h
      obtain ⟨vs, h1, h2⟩ := g _ _ ha
      cases r1
      obtain ⟨its, n, rv, hob, hzl⟩ := I.lst h1
      obtain ⟨tr, e1, e2, e3, e4⟩ := tr_of h2 rv ho.1
      subst e1 e2 e3
      obtain ⟨a1, a2⟩ := heapOk_all e4 ho
      have hat : HAt s.heap a (tr.map (·.p)) := ⟨⟨n, by
        have e : (tr.map (·.p)).map (·.1) = tr.map (·.p.1) := by rw [List.map_map]; rfl
        rw [e]
        exact hob⟩, fun p hp => by
        obtain ⟨t, ht, rfl⟩ := List.mem_map.mp hp
        exact key_of_DV hK I (e4 t ht).2.1 (e4 t ht).1 (e4 t ht).2.2, a2⟩
      cases tr with
      | nil => exact absurd rfl hne
      | cons t tr =>
        rw [List.length_map, List.length_cons] at hzl
        have hat' : HAt s.heap a (t.p :: tr.map Tr3.p) := hat
        refine pop_run hat' (by rw [List.length_map]; omega) (by rw [List.length_map]; exact a1) (by omega) fun h' qs q1 q2 q3 q4 => ?_
        obtain ⟨tr', p1, p2⟩ := perm_map_inv (f := Tr3.p) q2 (l := tr) rfl
        have ok' : ∀ t ∈ tr', TrOk T H t := fun t ht => e4 t (List.mem_cons_of_mem _ (p1.mem_iff.mp ht))
        subst p2
        obtain ⟨b1, b2⟩ := tr_vals ok'
        have hl' := q1.at_
        rw [List.map_map] at hl'
        have hlen : tr'.length = tr.length := p1.length_eq
        obtain ⟨I', x', g'⟩ := list_put I g h1 q4 (us := tr'.map (·.p.1)) hl' b1 b2 (by rw [List.length_map, hlen]; omega)
        obtain ⟨o1, o2, o3⟩ := e4 t List.mem_cons_self
        refine ⟨t.v, _, I', o1, k _ _ _ _ (h t.d (tr'.map (·.d)) ?_ (all_heapOk ok' (by rw [List.length_map] at q3; exact q3) q1.nd) ?_) x' (o2.mono x') g'⟩
        · rw [List.map_cons]
          exact ((p1.map Tr3.d).cons _).symm
        · intro y hy ky ly hk hl
          obtain ⟨ty, hty, rfl⟩ := List.mem_map.mp hy
          have hm := p1.mem_iff.mp hty
          obtain ⟨j, hj, ej⟩ := List.getElem_of_mem hm
          have := a1.root (j + 1) (Nat.succ_pos j) (by rw [List.length_cons]; omega)
          rw [gOf_tr, gOf_tr] at this
          simp only [List.getElem?_cons_zero, List.getElem?_cons_succ, List.getElem?_eq_getElem hj, Option.map_some, Option.getD_some, ej] at this
          rw [o3] at hk
          rw [(ok' ty hty).2.2] at hl
          cases hk
          cases hl
          exact this
    · exact h.elim
  · exact h.elim
end
end AT
end
section
set_option maxHeartbeats 4000000
/-! AT15: whether a core term is what stands written (okE ..). -/
namespace AT
open PySem PySem.Spec PyProof.Rows L2 SeqAt

mutual
/-- the very same data -/
def D.same : D → D → Bool
  | .non, .non => true
  | .bl a, .bl b => a == b
  | .int a, .int b => a == b
  | .str a, .str b => decide (a = b)
  | .tup a, .tup b => D.sames a b
  | .fn a, .fn b => a == b
  | _, _ => false
def D.sames : List D → List D → Bool
  | [], [] => true
  | a :: as, b :: bs => D.same a b && D.sames as bs
  | _, _ => false
end
mutual
theorem D.same_eq : ∀ {a b : D}, D.same a b = true → a = b
  | .non, b, h => by cases b <;> simp [D.same] at h; rfl
  | .bl x, b, h => by cases b <;> simp [D.same] at h; rw [h]
  | .int x, b, h => by cases b <;> simp [D.same] at h; rw [h]
  | .str x, b, h => by cases b <;> simp [D.same] at h; rw [h]
  | .tup xs, b, h => by
    cases b <;> simp [D.same] at h
    rw [D.sames_eq h]
  | .fn x, b, h => by cases b <;> simp [D.same] at h; rw [h]
  | .rol _, b, h => by cases b <;> simp [D.same] at h
  | .ref _, b, h => by cases b <;> simp [D.same] at h
theorem D.sames_eq : ∀ {a b : List D}, D.sames a b = true → a = b
  | [], b, h => by cases b <;> simp [D.sames] at h; rfl
  | x :: xs, b, h => by
    cases b with
    | nil => simp [D.sames] at h
    | cons y ys =>
      simp only [D.sames, Bool.and_eq_true] at h
      rw [D.same_eq h.1, D.sames_eq h.2]
end

/-- what is known of the names -/
structure Inf where
  N : List Str
  fns : List (Str × Nat)
  cls : List (Str × Nat)
  mth : List (Str × Nat)
  cst : List (Str × D)
  tcs : List (Str × D)
  nms : List Str
  kws : List (Nat × List Str × List Nat)
  exs : List (Str × Nat)
  /-- heappush, heappop stand in the module -/
  hq : Bool

def noStar : Expr → Bool
  | .Starred .. => false
  | _ => true
theorem noStar_is {e : Expr} (h : noStar e = true) (es : List Expr) (env : Env) : starEach (e :: es) env = (false, eval e env) :: starEach es env := by
  cases e <;> first | rfl | cases h
theorem noStar_asg {e : Expr} (h : noStar e = true) (es : List Expr) (env : Env) : assignEach (e :: es) env = (false, assign e env) :: assignEach es env := by
  cases e <;> first | rfl | cases h
theorem Pl.of {env : Env} : ∀ {es : List Expr}, es.all noStar = true → Pl env es
  | [], _ => trivial
  | e :: es, h => by
    simp only [List.all_cons, Bool.and_eq_true] at h
    exact ⟨noStar_is h.1 es env, Pl.of h.2⟩
theorem PlG.of {env : Env} : ∀ {es : List Expr}, es.all noStar = true → PlG env es
  | [], _ => trivial
  | e :: es, h => by
    simp only [List.all_cons, Bool.and_eq_true] at h
    exact ⟨noStar_asg h.1 es env, PlG.of h.2⟩
def baseOk : Expr → Bool
  | .Call _ [] _ _ => false
  | _ => true
theorem baseOk_is {e : Expr} {f : Str} {env : Env} (h : baseOk e = true) : attributeBase e f env (eval e env) = eval e env := by
  cases e with
  | Call fn args kws pos =>
    cases args with
    | nil => cases h
    | cons a as => cases fn <;> rfl
  | _ => rfl
def plainT : Expr → Bool
  | .UnaryOp .Not _ _ => false
  | .BoolOp .. => false
  | .IfExp .. => false
  | .Compare .. => false
  | _ => true
theorem plainT_is {e : Expr} {env : Env} (h : plainT e = true) (whole : Sem Value) : isTrue e env whole = (do let v ← whole; standAt e.pos; holding [v] (truthy v)) := by
  cases e with
  | UnaryOp op x pos => cases op <;> first | rfl | cases h
  | BoolOp op xs pos => cases h
  | IfExp a b c pos => cases h
  | Compare a b c pos => cases h
  | _ => rfl
def notSet : Expr → Bool
  | .Set .. => false
  | _ => true
theorem notSet_marks {e : Expr} (h : notSet e = true) (op : CmpOp) : behindInMarks op e = false := by
  cases e <;> first | rfl | cases h
theorem notSet_last {a b : Expr} (h : notSet b = true) (o1 o2 : CmpOp) : lastMarks [o1, o2] [a, b] = false := by
  show lastMarks [o2] [b] = false
  show behindInMarks o2 b = false
  exact notSet_marks h o2
theorem notSet_fold {e : Expr} (h : notSet e = true) (env : Env) (x : Value) : foldedSetIterable e env x = pure x := by
  cases e <;> first | rfl | cases h
def notSlice : Expr → Bool
  | .Slice .. => false
  | _ => true
theorem notSlice_is {e : Expr} (h : notSlice e = true) : PlainIx e := by
  intro o i
  cases e <;> first | rfl | cases h
theorem meth_eq {o : Expr} {ms : Str} {apos pos : Pos} {es : List Expr} {env : Env} (hb : baseOk o = true) (hs : es.all noStar = true) (few : es.length < 20) (hl : (apos.endLine == pos.line) = true) : eval (.Call (.Attribute o ms apos) es [] pos) env = (do
      let ov ← eval o env
      standAt apos.atName
      let (f, first) ← holding [ov] (getMethod ov ms (do return (← importBound o env).getD true))
      callWith pos f first (backTo pos (starEach es env)) (backToKw pos (keywordEach [] env))) := by
  rw [arm_eval_Call, baseOk_is hb]
  have hf : methodCallForm (es.length + ([] : List Keyword).length) (backTo pos (starEach es env)) (backToKw pos (keywordEach [] env)) = true := by
    show ((backTo pos (starEach es env)).all (fun x => !x.1) && true && decide (es.length + 0 + 0 < 30)) = true
    rw [(Pl.of hs).all, Bool.true_and, Bool.true_and, decide_eq_true_eq]
    omega
  unfold methodCall
  rw [hf]
  have hp : methodCallPos true o env apos pos = pure pos := by unfold methodCallPos; simp [hl]
  rw [hp]
  rfl
/-- built-ins by name -/
def pmName : Pm → Option (Str × Bool)
  | .len => some ("len", false)
  | .intOf => some ("int", true)
  | .max2 => some ("max", false)
  | .min2 => some ("min", false)
  | .minL => some ("min", false)
  | .tupleOf => some ("tuple", true)
  | .listOf => some ("list", true)
  | .allOf => some ("all", false)
  | .anyOf => some ("any", false)
  | .sumOf => some ("sum", false)
  | .sortI => some ("sorted", false)
  | _ => none
def pmHeap : Pm → Option Str
  | .heappush => some "heappush"
  | .heappop => some "heappop"
  | _ => none
def bmName : Pm → Kd → Option Str
  | .append, .lst => some "append"
  | .pop0, .lst => some "pop"
  | .pop1, .lst => some "pop"
  | .index, .lst => some "index"
  | .index, .tup => some "index"
  | .get1, .dct => some "get"
  | .get2, .dct => some "get"
  | .update, .dct => some "update"
  | _, _ => none
def opOk : Bop → Operator → Bool
  | .add, .Add => true
  | .sub, .Sub => true
  | .mul, .Mult => true
  | .fdiv, .FloorDiv => true
  | .mod, .Mod => true
  | .pow, .Pow => true
  | _, _ => false
theorem opOk_is {a : Bop} {b : Operator} (h : opOk a b = true) : b = bopOf a := by
  cases a <;> cases b <;> first | rfl | cases h
/-- a name that the scope takes from the module -/
def glB (sc : Scope) (x : Str) : Bool := decide (sc.names.lookup x = some .globalImplicit) && !decide (x = ("__debug__" : Str)) && !decide (x = ("__name__" : Str))
def visB (sc : Scope) (x : Str) : Bool := (decide (sc.names.lookup x = some .local) || decide (sc.names.lookup x = some .cell) || decide (sc.names.lookup x = some .free)) && !decide (x = ("__debug__" : Str)) && !decide (x = ("__classdict__" : Str))
def locB (sc : Scope) (fc : Str → Bool) (x : Str) : Bool := decide (sc.names.lookup x = some .local) || (decide (sc.names.lookup x = some .cell) && fc x)
def isTup : D → Bool
  | .tup _ => true
  | _ => false
def litD : Const → Option D
  | .none => some .non
  | .bool b => some (.bl b)
  | .int i => some (.int i)
  | .str s => some (.str s)
  | _ => none
/-- the block's own names by their slots -/
def ownOf (N : List Str) (vs : List Nat) : List (Str × Nat) := vs.filterMap fun i => (N[i]?).map fun x => (x, i)
mutual
def slotsT : CT → List Nat
  | .nm i => [i]
  | .tup ts => slotsTs ts
  | .sub _ _ => []
  | .att _ _ => []
termination_by structural x => x
def slotsTs : CTs → List Nat
  | .nil => []
  | .cons t ts => slotsT t ++ slotsTs ts
termination_by structural x => x
end
section
variable (Γ : Inf)
mutual
def okE : CE → Scope → (Str → Bool) → Expr → Bool
  | .cst d, sc, fc, e => match e with
    | .Constant c _ _ => match litD c with
      | some d' => D.same d d'
      | none => false
    | .Name x _ => glB sc x && match Γ.cst.lookup x with
      | some d' => D.same d d'
      | none => false
    | _ => false
  | .var i, sc, fc, e => match e with
    | .Name x _ => visB sc x && decide (Γ.N[i]? = some x)
    | _ => false
  | .neg a, sc, fc, e => match e with
    | .UnaryOp .USub x _ => okE a sc fc x
    | _ => false
  | .bin op a b, sc, fc, e => match e with
    | .BinOp x o y _ => opOk op o && okE a sc fc x && okE b sc fc y
    | _ => false
  | .cmp op a b, sc, fc, e => match e with
    | .Compare x [o] [y] _ => decide (o = copOf op) && notSet y && okE a sc fc x && okE b sc fc y
    | _ => false
  | .chn op op' a b c, sc, fc, e => match e with
    | .Compare x [o, o'] [y, z] _ => decide (o = copOf op) && decide (o' = copOf op') && notSet z && okE a sc fc x && okE b sc fc y && okE c sc fc z
    | _ => false
  | .and a b, sc, fc, e => match e with
    | .BoolOp .And [x, y] _ => okE a sc fc x && okE b sc fc y
    | .BoolOp .And (x :: y :: z :: r) p => okE a sc fc x && okE b sc fc (.BoolOp .And (y :: z :: r) p)
    | _ => false
  | .or a b, sc, fc, e => match e with
    | .BoolOp .Or [x, y] _ => okE a sc fc x && okE b sc fc y
    | .BoolOp .Or (x :: y :: z :: r) p => okE a sc fc x && okE b sc fc (.BoolOp .Or (y :: z :: r) p)
    | _ => false
  | .not a, sc, fc, e => match e with
    | .UnaryOp .Not x _ => okE a sc fc x
    | _ => false
  | .ite c a b, sc, fc, e => match e with
    | .IfExp t x y _ => okT c sc fc t && okE a sc fc x && okE b sc fc y
    | _ => false
  | .tup es, sc, fc, e => match e with
    | .Tuple xs _ _ => okEs es sc fc xs
    | _ => false
  | .lst es, sc, fc, e => match e with
    | .List xs _ => okEs es sc fc xs
    | _ => false
  | .dct kvs, sc, fc, e => match e with
    | .Dict ks vs _ => decide (ks.length ≤ 15) && okKV kvs sc fc ks vs
    | _ => false
  | .idx a i, sc, fc, e => match e with
    | .Subscript x y _ => notSlice y && okE a sc fc x && okE i sc fc y
    | _ => false
  | .sli a lo hi, sc, fc, e => match e with
    | .Subscript x (.Slice l h none _) _ => okE a sc fc x && okO lo sc fc l && okO hi sc fc h
    | _ => false
  | .att o f, sc, fc, e => match e with
    | .Attribute x n _ => decide (Γ.nms[f]? = some n) && baseOk x && okE o sc fc x
    | _ => false
  | .call f es, sc, fc, e => match e with
    | .Call (.Name x _) xs [] _ => glB sc x && decide (Γ.fns.lookup x = some f) && okEs es sc fc xs
    | _ => false
  | .kcall f es to, sc, fc, e => match e with
    | .Call (.Name x _) [] kws _ => glB sc x && decide (Γ.fns.lookup x = some f) && decide ((f, kws.filterMap (·.arg), to) ∈ Γ.kws) && okKw es sc fc kws
    | _ => false
  | .meth o m es, sc, fc, e => match e with
    | .Call (.Attribute x ms apos) xs [] pos => decide (Γ.mth.lookup ms = some m) && baseOk x && (apos.endLine == pos.line) && decide (xs.length < 20) && okE o sc fc x && okEs es sc fc xs
    | _ => false
  | .mk c es, sc, fc, e => match e with
    | .Call (.Name x _) xs [] _ => glB sc x && decide (Γ.cls.lookup x = some c) && okEs es sc fc xs
    | _ => false
  | .vcall g es, sc, fc, e => match g with
    | .var i => match e with
      | .Call (.Name x _) (y :: ys) [] _ => visB sc x && decide (Γ.N[i]? = some x) && okEs es sc fc (y :: ys)
      | _ => false
    | _ => false
  | .prim p es, sc, fc, e => match e with
    | .Call (.Name x _) (y :: ys) [] _ => glB sc x && (match pmName p with | some (n, _) => decide (n = x) | none => match pmHeap p with | some n => Γ.hq && decide (n = x) | none => false) && okEs es sc fc (y :: ys)
    | _ => false
  | .bm p t o es, sc, fc, e => match e with
    | .Call (.Attribute x n apos) xs [] pos => decide (bmName p t = some n) && baseOk x && (apos.endLine == pos.line) && decide (xs.length < 20) && okEs es sc fc xs && (match t with
      | .tup => match o with
        | .cst d => match x with
          | .Name y _ => (!xs.isEmpty) && glB sc y && (match Γ.tcs.lookup y with | some d' => D.same d d' | none => false)
          | _ => false
        | _ => false
      | _ => okE o sc fc x)
    | _ => false
  | .tmp p a, sc, fc, e => match e with
    | .Call (.Name x _) [y] [] _ => glB sc x && noStar y && (match pmName p with | some (n, _) => decide (n = x) | none => false) && okE a sc fc y
    | _ => false
  | .isi a t, sc, fc, e => match e with
    | .Call (.Name x _) [y, .Name z _] [] _ => decide (x = ("isinstance" : Str)) && glB sc x && decide (z = tyN t) && glB sc z && noStar y && okE a sc fc y
    | _ => false
  | .what, _, _, _ => false
  | .lc elt t it cs vs, sc, fc, e => match e with
    | .ListComp x gs scope _ => match gs with
      | [⟨tg, iter, ifs, 0⟩] => notSet iter && okI it sc fc tg iter && blkC Γ.N sc scope (ownOf Γ.N vs) && decide ((ownOf Γ.N vs).map (·.2) = vs) && decide (∀ i ∈ slotsT t, i ∈ vs) && okG t (relS scope sc) (fun x => scope.names.lookup x == some .cell) tg &&
          okC cs (relS scope sc) (fun x => scope.names.lookup x == some .cell) ifs && okE elt (relS scope sc) (fun x => scope.names.lookup x == some .cell) x
      | _ => false
    | _ => false
  | .dc _ _ _ _ _, _, _, _ => false
termination_by structural x => x
def okT : CB → Scope → (Str → Bool) → Expr → Bool
  | .val a, sc, fc, e => plainT e && okE a sc fc e
  | .not a, sc, fc, e => match e with
    | .UnaryOp .Not x _ => okT a sc fc x
    | _ => false
  | .and a b, sc, fc, e => match e with
    | .BoolOp .And [x, y] _ => okT a sc fc x && okT b sc fc y
    | .BoolOp .And (x :: y :: z :: r) p => okT a sc fc x && okT b sc fc (.BoolOp .And (y :: z :: r) p)
    | _ => false
  | .or a b, sc, fc, e => match e with
    | .BoolOp .Or [x, y] _ => okT a sc fc x && okT b sc fc y
    | .BoolOp .Or (x :: y :: z :: r) p => okT a sc fc x && okT b sc fc (.BoolOp .Or (y :: z :: r) p)
    | _ => false
  | .ite c a b, sc, fc, e => match e with
    | .IfExp t x y _ => okT c sc fc t && okT a sc fc x && okT b sc fc y
    | _ => false
  | .cmp op a b, sc, fc, e => match e with
    | .Compare x [o] [y] _ => decide (o = copOf op) && notSet y && okE a sc fc x && okE b sc fc y
    | _ => false
  | .chn op op' a b c, sc, fc, e => match e with
    | .Compare x [o, o'] [y, z] _ => decide (o = copOf op) && decide (o' = copOf op') && notSet z && okE a sc fc x && okE b sc fc y && okE c sc fc z
    | _ => false
termination_by structural x => x
def okC : CO2 → Scope → (Str → Bool) → List Expr → Bool
  | .no, _, _, l => l.isEmpty
  | .so b, sc, fc, l => match l with
    | [x] => okT b sc fc x
    | _ => false
termination_by structural x => x
def okEs : CEs → Scope → (Str → Bool) → List Expr → Bool
  | .nil, _, _, l => l.isEmpty
  | .cons a as, sc, fc, l => match l with
    | x :: xs => noStar x && okE a sc fc x && okEs as sc fc xs
    | [] => false
termination_by structural x => x
def okKw : CEs → Scope → (Str → Bool) → List Keyword → Bool
  | .nil, _, _, l => l.isEmpty
  | .cons a as, sc, fc, l => match l with
    | ⟨some _, x, _⟩ :: xs => okE a sc fc x && okKw as sc fc xs
    | _ => false
termination_by structural x => x
def okKV : CKV → Scope → (Str → Bool) → List (Option Expr) → List Expr → Bool
  | .nil, _, _, ks, vs => ks.isEmpty && vs.isEmpty
  | .cons k v r, sc, fc, ks, vs => match ks, vs with
    | some x :: ks, y :: vs => okE k sc fc x && okE v sc fc y && okKV r sc fc ks vs
    | _, _ => false
termination_by structural x => x
def okO : CO → Scope → (Str → Bool) → Option Expr → Bool
  | .no, _, _, o => o.isNone
  | .so a, sc, fc, o => match o with
    | some x => okE a sc fc x
    | none => false
termination_by structural x => x
def okG : CT → Scope → (Str → Bool) → Expr → Bool
  | .nm i, sc, fc, e => match e with
    | .Name x _ => locB sc fc x && decide (Γ.N[i]? = some x)
    | _ => false
  | .tup ts, sc, fc, e => match e with
    | .Tuple xs _ _ => okGs ts sc fc xs
    | _ => false
  | .sub o i, sc, fc, e => match e with
    | .Subscript x y _ => notSlice y && okE o sc fc x && okE i sc fc y
    | _ => false
  | .att o f, sc, fc, e => match e with
    | .Attribute x n _ => decide (Γ.nms[f]? = some n) && okE o sc fc x
    | _ => false
termination_by structural x => x
def okGs : CTs → Scope → (Str → Bool) → List Expr → Bool
  | .nil, _, _, l => l.isEmpty
  | .cons t ts, sc, fc, l => match l with
    | x :: xs => noStar x && okG t sc fc x && okGs ts sc fc xs
    | [] => false
termination_by structural x => x
def okI : CI → Scope → (Str → Bool) → Expr → Expr → Bool
  | .seq a, sc, fc, tg, e => okE a sc fc e
  | .rng1 a, sc, fc, tg, e => match e with
    | .Call (.Name x _) [y] [] _ => decide (x = ("range" : Str)) && glB sc x && noStar y && okE a sc fc y
    | _ => false
  | .rng2 a b, sc, fc, tg, e => match e with
    | .Call (.Name x _) [y, z] [] _ => decide (x = ("range" : Str)) && glB sc x && noStar y && noStar z && okE a sc fc y && okE b sc fc z
    | _ => false
  | .enu a, sc, fc, tg, e => match e with
    | .Call (.Name x _) [y] [] _ => decide (x = ("enumerate" : Str)) && glB sc x && noStar y && okE a sc fc y && (match tg with | .Tuple .. => true | _ => false)
    | _ => false
  | .zip _ _, _, _, _, _ => false
  | .itm _, _, _, _, _ => false
termination_by structural x => x
end
end
end AT
end
section
set_option maxHeartbeats 8000000
/-! AT16: what is written keeps the core's word (expressions). -/
namespace AT
open PySem PySem.Spec PyProof.Rows L2 SeqAt
/-- names of built-ins, none of the module's -/
def bltNames : List Str := ["len", "int", "max", "min", "tuple", "list", "all", "any", "sum", "sorted", "isinstance", "range", "enumerate", "bool", "str"]
/-- what stands behind the names -/
structure Good (T : Wd) (C : Cls) (F : Orc) (ar : Nat → Nat) (Γ : Inf) (k : Nat) : Prop where
  cok : ClsOk T
  fld : ∀ f n, Γ.nms[f]? = some n → T.nm f = n ∧ NoA T f
  fn : ∀ x f, Γ.fns.lookup x = some f → ∃ fa, T.mg x = some (.ref fa) ∧ FnAt T (F f) (ar f) k fa
  kw : ∀ x f ks to, Γ.fns.lookup x = some f → (f, ks, to) ∈ Γ.kws → ∃ fa, T.mg x = some (.ref fa) ∧ KwAt T (F f) (ar f) k fa ks to ∧ to.length = ks.length
  cl : ∀ x c, Γ.cls.lookup x = some c → ∃ A fa f, T.mg x = some (.ref A) ∧ T.ca c = some A ∧ C.init c = some f ∧ Mk T.K A fa ∧ FnAt T (F f) (ar f) k fa
  mt : ∀ ms m, Γ.mth.lookup ms = some m → MethAt T C F ar m ms k
  cs : ∀ x d, Γ.cst.lookup x = some d → ∃ v u, T.mg x = some u ∧ RelV v u ∧ ∀ H, DV T.K T.fa H v d
  ct : ∀ x d, Γ.tcs.lookup x = some d → ∃ a ob, T.mg x = some (.ref a) ∧ T.K.lookup a = some ob ∧ ob.cls = .type "tuple" ∧ ob.dict = none ∧ (∀ H, DV T.K T.fa H (.ref a) d) ∧ D.isT d = true
  va : ∀ f fa, T.fa f = some fa → FnAt T (F f) (ar f) k fa
  bl : ∀ x ∈ bltNames, T.mg x = none
  hq : Γ.hq = true → T.mg "heappush" = some (.builtin "_heapq.heappush") ∧ T.mg "heappop" = some (.builtin "_heapq.heappop")
/-- the context at a place -/
structure InX (T : Wd) (Γ : Inf) (k : Nat) (H0 : Hp) (X : Cx) (sc : Scope) (fc : Str → Bool) (E : KX) : Prop where
  st : Stands T X
  calm : X.calm = true
  nd : X.N.Nodup
  N : X.N = Γ.N
  sc : X.env.scope = sc
  fc : X.fn = fc
  room : Room (k + 1) X.A
  pas : Passes (L2.CX X.prog X.w) X (LX T H0 E)
section
variable {T : Wd} {Γ : Inf} {k : Nat} {H0 : Hp} {X : Cx} {sc : Scope} {fc : Str → Bool} {E : KX}
theorem InX.gl (h : InX T Γ k H0 X sc fc E) {x : Str} (g : glB sc x = true) : Gl X x ∧ (x == ("__debug__" : Str)) = false ∧ x ≠ "__name__" := by
  unfold glB at g
  simp only [Bool.and_eq_true, decide_eq_true_eq, Bool.not_eq_true', decide_eq_false_iff_not] at g
  refine ⟨?_, beq_eq_false_iff_ne.mpr g.1.2, g.2⟩
  show X.env.kindOf x = some .globalImplicit
  show X.env.scope.names.lookup x = _
  rw [h.sc]
  exact g.1.1
theorem InX.vis (h : InX T Γ k H0 X sc fc E) {x : Str} (g : visB sc x = true) : Vis X.env.scope x ∧ (x == ("__debug__" : Str)) = false ∧ (x == ("__classdict__" : Str)) = false := by
  unfold visB at g
  simp only [Bool.and_eq_true, decide_eq_true_eq, Bool.not_eq_true', decide_eq_false_iff_not, Bool.or_eq_true] at g
  refine ⟨?_, beq_eq_false_iff_ne.mpr g.1.2, beq_eq_false_iff_ne.mpr g.2⟩
  rw [h.sc]
  rcases g.1.1 with (q | q) | q
  · exact .inl q
  · exact .inr (.inl q)
  · exact .inr (.inr q)
theorem InX.loc (h : InX T Γ k H0 X sc fc E) {x : Str} (g : locB sc fc x = true) : Loc X.env.scope x ∧ (X.fn x = true ∨ X.env.scope.names.lookup x = some .local) := by
  unfold locB at g
  simp only [Bool.and_eq_true, decide_eq_true_eq, Bool.or_eq_true] at g
  rw [h.sc, h.fc]
  rcases g with q | q
  · exact ⟨.inl q, .inr q⟩
  · exact ⟨.inr q.1, .inl q.2⟩
theorem InX.un (h : InX T Γ k H0 X sc fc E) : X.A.units + 64 < cLine := h.room.units
theorem InX.mg (h : InX T Γ k H0 X sc fc E) (x : Str) : X.mg x = T.mg x := by rw [h.st.mg]
/-- within a comprehension -/
theorem InX.blk (h : InX T Γ k H0 X sc fc E) (scope : Scope) (s : Shared) (H : Hp) (Ca : Addr) (cl : List (Str × Addr)) (fp : List Addr) :
    InX T Γ k H0 (X.blk s H scope (compEnvC scope cl Ca X.env) fp) (relS scope sc) (fun x => scope.names.lookup x == some .cell) (fun _ _ => False) where
  st := ⟨h.st.K, h.st.w, h.st.P, h.st.mg, h.st.base⟩
  calm := h.calm
  nd := h.nd
  N := h.N
  sc := by
    show relS scope X.env.scope = _
    rw [h.sc]
  fc := rfl
  room := h.room
  pas := fun pins σ H s e s' I c => by
    obtain ⟨_, _, _, _, _, _, _, _, _, _, _, _, z⟩ := c
    obtain ⟨_, _, z, _⟩ := z
    exact z.elim
end
theorem pe_bool1 {X : Cx} {a : Expr} {p : Pos} {t : TE} {op : BoolOp} (h : PE X a t) : PE X (.BoolOp op [a] p) t := pe_one h
theorem okEs_star {Γ : Inf} {sc : Scope} {fc : Str → Bool} : ∀ {c : CEs} {l : List Expr}, okEs Γ c sc fc l = true → l.all noStar = true
  | .nil, l, h => by
    unfold okEs at h
    have : l = [] := by simpa using h
    subst this
    rfl
  | .cons a as, l, h => by
    unfold okEs at h
    split at h
    · simp only [Bool.and_eq_true] at h
      rw [List.all_cons, h.1.1, okEs_star h.2]
      rfl
    · cases h
section
variable {T : Wd} {C : Cls} {F : Orc} {ar : Nat → Nat} {Γ : Inf} {k : Nat} (gd : Good T C F ar Γ k) {H0 : Hp} {W : Option D}
theorem litD_ok {X : Cx} {c : Const} {d : D} {j : Nat} {p : Pos} (h : litD c = some d) : PE X (.Constant c j p) (LE T H0 fun _ G Q => Q d G) := by
  cases c <;> simp only [litD, Option.some.injEq, reduceCtorEq] at h <;> subst h
  · exact l_cst pe_non fun H => .non
  · exact l_cst pe_bl fun H => .bl _
  · exact l_cst pe_int fun H => .int _
  · exact l_cst pe_str fun H => .str _
theorem prim_ok {X : Cx} {sc : Scope} {fc : Str → Bool} {E : KX} (hX : InX T Γ k H0 X sc fc E) (gd : Good T C F ar Γ k) {p : Pm} {n x : Str} {b : Bool} (hp : pmName p = some (n, b)) (hx : n = x) :
    X.mg x = none ∧ ((∃ id, bootBuiltins x = some (.builtin id) ∧ CallR X (.builtin id) (LP T p)) ∨ ∃ id, bootBuiltins x = some (.type id) ∧ CallR X (.type id) (LP T p)) := by
  subst hx
  have hm : ∀ n ∈ bltNames, X.mg n = none := fun n hn => by rw [hX.mg]; exact gd.bl n hn
  cases p <;> simp only [pmName, Option.some.injEq, Prod.mk.injEq, reduceCtorEq] at hp <;> obtain ⟨rfl, rfl⟩ := hp
  · exact ⟨hm _ (by simp [bltNames]), .inl ⟨_, by decide +kernel, cr_len2 hX.st.K hX.st.w⟩⟩
  · exact ⟨hm _ (by simp [bltNames]), .inr ⟨_, by decide +kernel, cr_int⟩⟩
  · exact ⟨hm _ (by simp [bltNames]), .inl ⟨_, by decide +kernel, cr_max2 hX.calm⟩⟩
  · exact ⟨hm _ (by simp [bltNames]), .inl ⟨_, by decide +kernel, cr_min2 hX.calm⟩⟩
  · exact ⟨hm _ (by simp [bltNames]), .inl ⟨_, by decide +kernel, cr_minL hX.st.K hX.calm⟩⟩
  · exact ⟨hm _ (by simp [bltNames]), .inr ⟨_, by decide +kernel, cr_tuple hX.st.K⟩⟩
  · exact ⟨hm _ (by simp [bltNames]), .inr ⟨_, by decide +kernel, cr_list2 hX.st.K hX.calm⟩⟩
  · exact ⟨hm _ (by simp [bltNames]), .inl ⟨_, by decide +kernel, cr_all2 hX.st.K hX.calm⟩⟩
  · exact ⟨hm _ (by simp [bltNames]), .inl ⟨_, by decide +kernel, cr_any2 hX.st.K hX.calm⟩⟩
  · exact ⟨hm _ (by simp [bltNames]), .inl ⟨_, by decide +kernel, cr_sum2 hX.st.K hX.calm⟩⟩
  · exact ⟨hm _ (by simp [bltNames]), .inl ⟨_, by decide +kernel, cr_sort2 hX.st.K⟩⟩
theorem l_primM {X : Cx} {e : Expr} {es : List Expr} {tr : TA2} {x : Str} {id : String} {p : Pm} {pp pos : Pos} (hc : CallR X (.builtin id) (LP T p)) (hg : Gl X x) (hm : X.mg x = some (.builtin id)) (hdb : (x == ("__debug__" : Str)) = false)
    (ha : PA X (e :: es) (LA T H0 tr)) (pl : Pl X.env (e :: es)) : PE X (.Call (.Name x pp) (e :: es) [] pos) (LE T H0 fun σ G Q => tr σ G fun ds G1 => primW p ds G1 Q) := by
  refine PE.imp (pe_callBfun (p := pp) (pos := pos) hc hg hm ha hdb pl.1 pl.2.any) ?_
  rintro σ H Q ⟨σd, G, Q2, x0, sr, g, h, k⟩
  exact ⟨σd, G, _, x0, sr, g, h, fun ds G1 vs H1 q x1 dv g1 => ⟨ds, G1, Q2, dv, g1, q, fun r G' v H' q x dv g => k _ _ _ _ q (x1.trans x) dv g⟩⟩
theorem heap_ok {X : Cx} {sc : Scope} {fc : Str → Bool} {E : KX} (hX : InX T Γ k H0 X sc fc E) (gd : Good T C F ar Γ k) {p : Pm} {n : Str} (hp : pmHeap p = some n) (hh : Γ.hq = true) : ∃ id, X.mg n = some (.builtin id) ∧ CallR X (.builtin id) (LP T p) := by
  obtain ⟨h1, h2⟩ := gd.hq hh
  cases p <;> simp only [pmHeap, Option.some.injEq, reduceCtorEq] at hp <;> subst hp
  · exact ⟨_, by rw [hX.mg]; exact h1, cr_push hX.st.K hX.un⟩
  · exact ⟨_, by rw [hX.mg]; exact h2, cr_pop hX.st.K hX.un⟩
theorem bm_ok {X : Cx} {sc : Scope} {fc : Str → Bool} {E : KX} (hX : InX T Γ k H0 X sc fc E) {p : Pm} {t : Kd} {n : Str} (h : bmName p t = some n) : BmAt T X n p t := by
  cases p <;> cases t <;> simp only [bmName, Option.some.injEq, reduceCtorEq] at h <;> subst h
  · exact bm_append
  · exact bm_pop0
  · exact bm_pop1
  · exact bm_indexL hX.st.K hX.un
  · exact bm_indexT hX.st.K hX.un
  · exact bm_get1 hX.st.K hX.st.w hX.un
  · exact bm_get2 hX.st.K hX.st.w hX.un
  · exact bm_update hX.st.K hX.st.w hX.un
include gd in
theorem cst_ok {X : Cx} {sc : Scope} {fc : Str → Bool} {E : KX} (hX : InX T Γ k H0 X sc fc E) {d : D} {e : Expr} (h : okE Γ (.cst d) sc fc e = true) : PE X e (LE T H0 (wpE C F W (.cst d) E)) := by
  unfold okE at h
  split at h
  · split at h
    · rename_i hd
      rw [D.same_eq h]
      exact litD_ok hd
    · cases h
  · rename_i x p
    simp only [Bool.and_eq_true] at h
    obtain ⟨h1, h2⟩ := h
    split at h2
    · rename_i hd
      have e := D.same_eq h2
      subst e
      obtain ⟨v, u, q1, q2, q3⟩ := gd.cs _ _ hd
      obtain ⟨g1, g2, g3⟩ := hX.gl h1
      exact l_cst (pe_glob g1 (by rw [hX.mg]; exact q1) q2 g2) q3
    · cases h2
  · cases h
end
end AT
end
section
set_option maxHeartbeats 16000000
/-! AT17: soundness of the checker, expressions. -/
namespace AT
open PySem PySem.Spec PyProof.Rows L2 SeqAt
theorem notSlice_asg {a b : Expr} {pos : Pos} {env : Env} (h : notSlice b = true) (v : Value) : assign (.Subscript a b pos) env v = (do
      let ov ← holding [v] (eval a env)
      let iv ← holding [v, ov] (eval b env)
      standAt pos
      holding [v, ov, iv] (setItem ov iv v)
      release [v, ov, iv] []) := by
  cases b <;> first | rfl | cases h
theorem PT.pwAnd {X : Cx} {xs : List Expr} {p : Pos} {op : BoolOp} {t : TT} (h : PT X (.BoolOp op xs p) t) : PW X (.BoolOp op xs p) t := ⟨fun wh pins s σ H Q I hw => h.run pins s σ H Q I hw⟩
section
variable {T : Wd} {C : Cls} {F : Orc} {ar : Nat → Nat} {Γ : Inf} {k : Nat} (gd : Good T C F ar Γ k) {H0 : Hp} {W : Option D}
omit gd in
theorem lgs_nil2 {X : Cx} {E : KX} : PGs X [] (LGs T H0 (slotsTs .nil) (wpGs C F W .nil E)) := by
  refine PGs.imp (lgs_nil (T := T) (H0 := H0)) ?_
  rintro v σ H Q ⟨d, σd, G, Q2, x0, dv, sr, g, h, k⟩
  refine ⟨d, σd, G, Q2, x0, dv, sr, g, ?_, k⟩
  cases d with
  | nil => exact h
  | cons _ _ => exact h
omit gd in
theorem lgs_cons2 {X : Cx} {E : KX} {t : CT} {ts : CTs} {e : Expr} {es : List Expr} (h1 : PG X e (LG T H0 (slotsT t) (wpG C F W t E))) (h2 : PGs X es (LGs T H0 (slotsTs ts) (wpGs C F W ts E))) (hs : assignEach (e :: es) X.env = (false, assign e X.env) :: assignEach es X.env) :
    PGs X (e :: es) (LGs T H0 (slotsTs (.cons t ts)) (wpGs C F W (.cons t ts) E)) := by
  refine PGs.imp (lgs_cons h1 h2 hs) ?_
  rintro v σ H Q ⟨d, σd, G, Q2, x0, dv, sr, g, h, k⟩
  refine ⟨d, σd, G, Q2, x0, dv, sr, g, ?_, k⟩
  cases d with
  | nil => exact h
  | cons _ _ => exact h
include gd
mutual
theorem sE : ∀ (c : CE) {X : Cx} {sc : Scope} {fc : Str → Bool} {E : KX} {e : Expr}, InX T Γ k H0 X sc fc E → okE Γ c sc fc e = true → PE X e (LE T H0 (wpE C F W c E))
  | .cst d, X, sc, fc, E, e, hX, h => cst_ok gd hX h
  | .var i, X, sc, fc, E, e, hX, h => by
    unfold okE at h
    split at h
    · simp only [Bool.and_eq_true, decide_eq_true_eq] at h
      obtain ⟨v1, v2, v3⟩ := hX.vis h.1
      exact l_var (pe_var (by rw [hX.N]; exact h.2) v1 v2 v3)
    · cases h
  | .neg a, X, sc, fc, E, e, hX, h => by
    unfold okE at h
    split at h
    · exact l_neg (sE a hX h)
    · cases h
  | .bin op a b, X, sc, fc, E, e, hX, h => by
    unfold okE at h
    split at h
    · simp only [Bool.and_eq_true] at h
      rw [opOk_is h.1.1]
      exact l_bin hX.st.K op (sE a hX h.1.2) (sE b hX h.2)
    · cases h
  | .cmp op a b, X, sc, fc, E, e, hX, h => by
    unfold okE at h
    split at h
    · simp only [Bool.and_eq_true, decide_eq_true_eq] at h
      obtain ⟨⟨⟨h1, h2⟩, h3⟩, h4⟩ := h
      rw [h1]
      exact l_cmp hX.st.K hX.st.w hX.un op (sE a hX h3) (sE b hX h4) (notSet_marks h2 _)
    · cases h
  | .chn op op' a b c, X, sc, fc, E, e, hX, h => by
    unfold okE at h
    split at h
    · simp only [Bool.and_eq_true, decide_eq_true_eq] at h
      obtain ⟨⟨⟨⟨⟨h1, h2⟩, h3⟩, h4⟩, h5⟩, h6⟩ := h
      rw [h1, h2]
      exact l_chn hX.st.K hX.st.w hX.un op op' (sE a hX h4) (sE b hX h5) (sE c hX h6) (notSet_last h3 _ _)
    · cases h
  | .and a b, X, sc, fc, E, e, hX, h => by
    unfold okE at h
    split at h
    · simp only [Bool.and_eq_true] at h
      exact l_and hX.st.K (sE a hX h.1) (pe_bool1 (sE b hX h.2))
    · simp only [Bool.and_eq_true] at h
      exact l_and hX.st.K (sE a hX h.1) (sE b hX h.2)
    · cases h
  | .or a b, X, sc, fc, E, e, hX, h => by
    unfold okE at h
    split at h
    · simp only [Bool.and_eq_true] at h
      exact l_or hX.st.K (sE a hX h.1) (pe_bool1 (sE b hX h.2))
    · simp only [Bool.and_eq_true] at h
      exact l_or hX.st.K (sE a hX h.1) (sE b hX h.2)
    · cases h
  | .not a, X, sc, fc, E, e, hX, h => by
    unfold okE at h
    split at h
    · exact l_not hX.st.K (sE a hX h)
    · cases h
  | .ite c a b, X, sc, fc, E, e, hX, h => by
    unfold okE at h
    split at h
    · simp only [Bool.and_eq_true] at h
      exact l_ite (sT c hX h.1.1) (sE a hX h.1.2) (sE b hX h.2)
    · cases h
  | .tup es, X, sc, fc, E, e, hX, h => by
    unfold okE at h
    split at h
    · exact l_tup (sEs es hX h).1
    · cases h
  | .lst es, X, sc, fc, E, e, hX, h => by
    unfold okE at h
    split at h
    · exact l_lst (sEs es hX h).1
    · cases h
  | .dct kvs, X, sc, fc, E, e, hX, h => by
    unfold okE at h
    split at h
    · rename_i ks vs _
      simp only [Bool.and_eq_true, decide_eq_true_eq] at h
      have hk := sKV kvs hX h.2
      cases ks with
      | nil =>
        cases kvs with
        | nil =>
          have hv : vs = [] := by
            have := h.2
            unfold okKV at this
            simp only [List.isEmpty_nil, Bool.true_and, List.isEmpty_iff] at this
            exact this
          subst hv
          exact l_dct0
        | cons _ _ _ =>
          have := h.2
          unfold okKV at this
          simp at this
      | cons k0 ks => exact l_dct hX.st.K hX.st.w hX.un hk (List.cons_ne_nil _ _) h.1
    · cases h
  | .idx a i, X, sc, fc, E, e, hX, h => by
    unfold okE at h
    split at h
    · simp only [Bool.and_eq_true] at h
      exact l_idx hX.st.K hX.st.w hX.un (sE a hX h.1.2) (sE i hX h.2) (notSlice_is h.1.1)
    · cases h
  | .sli a lo hi, X, sc, fc, E, e, hX, h => by
    unfold okE at h
    split at h
    · simp only [Bool.and_eq_true] at h
      exact l_sli hX.st.K (sE a hX h.1.1) (sO lo hX h.1.2) (sO hi hX h.2)
    · cases h
  | .att o f, X, sc, fc, E, e, hX, h => by
    unfold okE at h
    split at h
    · simp only [Bool.and_eq_true, decide_eq_true_eq] at h
      obtain ⟨e1, n1⟩ := gd.fld f _ h.1.1
      rw [← e1]
      exact l_att hX.st.K gd.cok n1 (sE o hX h.2) (baseOk_is h.1.2)
    · cases h
  | .call f es, X, sc, fc, E, e, hX, h => by
    unfold okE at h
    split at h
    · rename_i x p xs pos
      simp only [Bool.and_eq_true, decide_eq_true_eq] at h
      obtain ⟨⟨h1, h2⟩, h3⟩ := h
      obtain ⟨fa, q1, q2⟩ := gd.fn _ _ h2
      obtain ⟨g1, g2, g3⟩ := hX.gl h1
      obtain ⟨a1, a2⟩ := sEs es hX h3
      cases es with
      | nil =>
        have : xs = [] := by
          unfold okEs at h3
          simpa using h3
        subst this
        exact l_call0 hX.st q2 (hX.room.mono (Nat.le_succ k)) g1 q1 g2 hX.pas
      | cons a as =>
        cases xs with
        | nil => unfold okEs at h3; cases h3
        | cons x xs => exact l_call hX.st q2 (hX.room.mono (Nat.le_succ k)) g1 q1 g2 hX.pas a1 a2
    · cases h
  | .kcall f es to, X, sc, fc, E, e, hX, h => by
    unfold okE at h
    split at h
    · rename_i x p kws pos
      simp only [Bool.and_eq_true, decide_eq_true_eq] at h
      obtain ⟨⟨⟨h1, h2⟩, h3⟩, h4⟩ := h
      obtain ⟨fa, q1, q2, q3⟩ := gd.kw _ _ _ _ h2 h3
      obtain ⟨g1, g2, g3⟩ := hX.gl h1
      obtain ⟨ks, a1, a2⟩ := sKw es hX h4
      rw [← a1] at q2 q3
      have := l_kcall (pos := pos) (p := p) hX.st q2 (hX.room.mono (Nat.le_succ k)) g1 q1 g2 hX.pas a2
      rw [← q3] at this
      exact this
    · cases h
  | .meth o m es, X, sc, fc, E, e, hX, h => by
    unfold okE at h
    split at h
    · rename_i x ms apos xs pos
      simp only [Bool.and_eq_true, decide_eq_true_eq] at h
      obtain ⟨⟨⟨⟨⟨h1, h2⟩, h3⟩, h4⟩, h5⟩, h6⟩ := h
      have q := gd.mt _ _ h1
      obtain ⟨a1, a2⟩ := sEs es hX h6
      have hns : xs.all noStar = true := okEs_star h6
      have ht := meth_eq (o := x) (ms := ms) (apos := apos) (pos := pos) (es := xs) (env := X.env) h2 hns h4 h3
      cases es with
      | nil =>
        have : xs = [] := by
          unfold okEs at h6
          simpa using h6
        subst this
        exact l_meth0 hX.st gd.cok q (hX.room.mono (Nat.le_succ k)) hX.pas (sE o hX h5) ht
      | cons a as =>
        cases xs with
        | nil => unfold okEs at h6; cases h6
        | cons x xs => exact l_meth hX.st gd.cok q (hX.room.mono (Nat.le_succ k)) hX.pas (sE o hX h5) a1 a2 ht
    · cases h
  | .mk c es, X, sc, fc, E, e, hX, h => by
    unfold okE at h
    split at h
    · rename_i x p xs pos
      simp only [Bool.and_eq_true, decide_eq_true_eq] at h
      obtain ⟨⟨h1, h2⟩, h3⟩ := h
      obtain ⟨A, fa, f, q1, q2, q3, q4, q5⟩ := gd.cl _ _ h2
      obtain ⟨g1, g2, g3⟩ := hX.gl h1
      obtain ⟨a1, a2⟩ := sEs es hX h3
      cases es with
      | nil =>
        have : xs = [] := by
          unfold okEs at h3
          simpa using h3
        subst this
        refine PE.imp (l_mk0 (E := E) hX.st q2 q4 q5 hX.room g1 q1 g2 hX.pas) ?_
        rintro σ H Q ⟨σd, G, Q2, x0, sr, g, h, kk⟩
        refine ⟨σd, G, Q2, x0, sr, g, ?_, kk⟩
        simp only [wpE, q3] at h
        exact h
      | cons a as =>
        cases xs with
        | nil => unfold okEs at h3; cases h3
        | cons x xs =>
          refine PE.imp (l_mk (E := E) hX.st q2 q4 q5 hX.room g1 q1 g2 hX.pas a1 a2) ?_
          rintro σ H Q ⟨σd, G, Q2, x0, sr, g, h, kk⟩
          refine ⟨σd, G, Q2, x0, sr, g, ?_, kk⟩
          simp only [wpE, q3] at h
          exact h
    · cases h
  | .vcall g es, X, sc, fc, E, e, hX, h => by
    unfold okE at h
    split at h
    · rename_i i
      split at h
      · simp only [Bool.and_eq_true, decide_eq_true_eq] at h
        obtain ⟨⟨h1, h2⟩, h3⟩ := h
        obtain ⟨v1, v2, v3⟩ := hX.vis h1
        obtain ⟨a1, a2⟩ := sEs es hX h3
        exact l_vcall (cf := 0) hX.st gd.va (hX.room.mono (Nat.le_succ k)) (by rw [hX.N]; exact h2) v1 hX.pas v2 v3 a1 a2
      · cases h
    · cases h
  | .prim p es, X, sc, fc, E, e, hX, h => by
    unfold okE at h
    split at h
    · simp only [Bool.and_eq_true] at h
      obtain ⟨⟨h1, h2⟩, h3⟩ := h
      obtain ⟨g1, g2, g3⟩ := hX.gl h1
      obtain ⟨a1, a2⟩ := sEs es hX h3
      split at h2
      · rename_i n b hp
        obtain ⟨m1, m2⟩ := prim_ok hX gd hp (of_decide_eq_true h2)
        rcases m2 with ⟨id, b1, b2⟩ | ⟨id, b1, b2⟩
        · exact l_primB b2 g1 m1 b1 g3 g2 a1 a2
        · exact l_primT b2 g1 m1 b1 g3 g2 a1 a2
      · split at h2
        · rename_i n hp
          simp only [Bool.and_eq_true, decide_eq_true_eq] at h2
          obtain ⟨hq, e⟩ := h2
          subst e
          obtain ⟨id, b1, b2⟩ := heap_ok hX gd hp hq
          exact l_primM b2 g1 b1 g2 a1 a2
        · cases h2
    · cases h
  | .bm p t o es, X, sc, fc, E, e, hX, h => by
    unfold okE at h
    split at h
    · rename_i x n apos xs pos
      simp only [Bool.and_eq_true, decide_eq_true_eq] at h
      obtain ⟨⟨⟨⟨⟨h1, h2⟩, h3⟩, h4⟩, h5⟩, h6⟩ := h
      have q := bm_ok (H0 := H0) hX h1
      obtain ⟨a1, a2⟩ := sEs es hX h5
      split at h6
      · split at h6
        · split at h6
          · rename_i d y p2
            simp only [Bool.and_eq_true] at h6
            obtain ⟨⟨z1, z2⟩, z3⟩ := h6
            obtain ⟨g1, g2, g3⟩ := hX.gl z2
            split at z3
            · rename_i d' hd
              have ed := D.same_eq z3
              subst ed
              obtain ⟨ad, ob, r1, r2, r3, r4, r5, r6⟩ := gd.ct _ _ hd
              cases xs with
              | nil => cases z1
              | cons x xs => exact l_bmc q hX.st.K (pe_glob g1 (by rw [hX.mg]; exact r1) rfl g2) r2 r3 r4 r5 r6 a1 a2 h4 (baseOk_is h2) h3
            · cases z3
          · cases h6
        · cases h6
      · rename_i hnt
        have hnt' : t ≠ .tup := fun z => hnt z
        cases es with
        | nil =>
          have : xs = [] := by
            unfold okEs at h5
            simpa using h5
          subst this
          exact l_bm0 q hnt' (sE o hX h6) (baseOk_is h2) h3
        | cons a as =>
          cases xs with
          | nil => unfold okEs at h5; cases h5
          | cons x xs => exact l_bm q hnt' (sE o hX h6) a1 a2 h4 (baseOk_is h2) h3
    · cases h
  | .tmp p a, X, sc, fc, E, e, hX, h => by
    unfold okE at h
    split at h
    · simp only [Bool.and_eq_true] at h
      obtain ⟨⟨⟨h1, h2⟩, h3⟩, h4⟩ := h
      obtain ⟨g1, g2, g3⟩ := hX.gl h1
      split at h3
      · rename_i n b hp
        obtain ⟨m1, m2⟩ := prim_ok hX gd hp (of_decide_eq_true h3)
        rcases m2 with ⟨id, b1, b2⟩ | ⟨id, b1, b2⟩
        · exact l_tmpB b2 g1 m1 b1 g3 g2 (sE a hX h4) (noStar_is h2 [] _)
        · exact l_tmpT b2 g1 m1 b1 g3 g2 (sE a hX h4) (noStar_is h2 [] _)
      · cases h3
    · cases h
  | .isi a t, X, sc, fc, E, e, hX, h => by
    unfold okE at h
    split at h
    · simp only [Bool.and_eq_true, decide_eq_true_eq] at h
      obtain ⟨⟨⟨⟨⟨h1, h2⟩, h3⟩, h4⟩, h5⟩, h6⟩ := h
      subst h1 h3
      refine l_isi hX.st.K (hX.gl h2).1 (by rw [hX.mg]; exact gd.bl _ (by simp [bltNames])) (hX.gl h4).1 ?_ (sE a hX h6) ?_
      · rw [hX.mg]
        cases t <;> exact gd.bl _ (by simp [bltNames, tyN])
      · rw [noStar_is h5]
        rfl
    · cases h
  | .what, X, sc, fc, E, e, hX, h => by unfold okE at h; cases h
  | .lc elt t it cs vs, X, sc, fc, E, e, hX, h => by
    unfold okE at h
    split at h
    · rename_i x gs scope pos
      split at h
      · simp only [Bool.and_eq_true, decide_eq_true_eq] at h
        obtain ⟨⟨⟨⟨⟨⟨⟨h1, h2⟩, h3⟩, h4⟩, h5⟩, h6⟩, h7⟩, h8⟩ := h
        have ok := blkOk_by h3
        rw [← hX.N, ← hX.sc] at ok
        have e1 := ok
        have := l_lc (T := T) (H0 := H0) (own := ownOf X.N vs) hX.calm hX.nd (sI it hX h2) ok (slg := slotsT t) (by
            rw [hX.N, h4]
            exact h5)
          (fun s H Ca cl fp => sG t (hX.blk _ s H Ca cl fp) h6) (fun s H Ca cl fp => sC cs (hX.blk _ s H Ca cl fp) h7) (fun s H Ca cl fp => sE elt (hX.blk _ s H Ca cl fp) h8) (notSet_fold h1 _) (pos := pos)
        rw [hX.N, h4] at this
        exact this
      · cases h
    · cases h
  | .dc _ _ _ _ _, X, sc, fc, E, e, hX, h => by unfold okE at h; cases h
termination_by structural x => x
theorem sT : ∀ (c : CB) {X : Cx} {sc : Scope} {fc : Str → Bool} {E : KX} {e : Expr}, InX T Γ k H0 X sc fc E → okT Γ c sc fc e = true → PT X e (LT T H0 (wpT C F W c E))
  | .val a, X, sc, fc, E, e, hX, h => by
    unfold okT at h
    simp only [Bool.and_eq_true] at h
    exact lt_val hX.st.K (sE a hX h.2) (plainT_is h.1)
  | .not a, X, sc, fc, E, e, hX, h => by
    unfold okT at h
    split at h
    · exact lt_not (sT a hX h)
    · cases h
  | .and a b, X, sc, fc, E, e, hX, h => by
    unfold okT at h
    split at h
    · simp only [Bool.and_eq_true] at h
      exact (lw_and (sT a hX h.1) (lw_and1 (sT b hX h.2))).pt
    · simp only [Bool.and_eq_true] at h
      exact (lw_and (sT a hX h.1) (PT.pwAnd (sT b hX h.2))).pt
    · cases h
  | .or a b, X, sc, fc, E, e, hX, h => by
    unfold okT at h
    split at h
    · simp only [Bool.and_eq_true] at h
      exact (lw_or (sT a hX h.1) (lw_or1 (sT b hX h.2))).pt
    · simp only [Bool.and_eq_true] at h
      exact (lw_or (sT a hX h.1) (PT.pwAnd (sT b hX h.2))).pt
    · cases h
  | .ite c a b, X, sc, fc, E, e, hX, h => by
    unfold okT at h
    split at h
    · simp only [Bool.and_eq_true] at h
      exact lt_ite (sT c hX h.1.1) (sT a hX h.1.2) (sT b hX h.2)
    · cases h
  | .cmp op a b, X, sc, fc, E, e, hX, h => by
    unfold okT at h
    split at h
    · simp only [Bool.and_eq_true, decide_eq_true_eq] at h
      obtain ⟨⟨⟨h1, h2⟩, h3⟩, h4⟩ := h
      rw [h1]
      exact lt_cmp hX.st.K hX.st.w hX.un op (sE a hX h3) (sE b hX h4) (notSet_marks h2 _)
    · cases h
  | .chn op op' a b c, X, sc, fc, E, e, hX, h => by
    unfold okT at h
    split at h
    · simp only [Bool.and_eq_true, decide_eq_true_eq] at h
      obtain ⟨⟨⟨⟨⟨h1, h2⟩, h3⟩, h4⟩, h5⟩, h6⟩ := h
      rw [h1, h2]
      exact lt_chn hX.st.K hX.st.w hX.un op op' (sE a hX h4) (sE b hX h5) (sE c hX h6) (notSet_last h3 _ _)
    · cases h
termination_by structural x => x
theorem sC : ∀ (c : CO2) {X : Cx} {sc : Scope} {fc : Str → Bool} {E : KX} {l : List Expr}, InX T Γ k H0 X sc fc E → okC Γ c sc fc l = true → PTs X l (LT T H0 (wpTs C F W c E))
  | .no, X, sc, fc, E, l, hX, h => by
    unfold okC at h
    have : l = [] := by simpa using h
    subst this
    exact LTs.pts (.inl ⟨rfl, rfl⟩)
  | .so b, X, sc, fc, E, l, hX, h => by
    unfold okC at h
    split at h
    · exact LTs.pts (.inr ⟨_, rfl, sT b hX h⟩)
    · cases h
termination_by structural x => x
theorem sEs : ∀ (c : CEs) {X : Cx} {sc : Scope} {fc : Str → Bool} {E : KX} {l : List Expr}, InX T Γ k H0 X sc fc E → okEs Γ c sc fc l = true → PA X l (LA T H0 (wpEs C F W c E)) ∧ Pl X.env l
  | .nil, X, sc, fc, E, l, hX, h => by
    unfold okEs at h
    have : l = [] := by simpa using h
    subst this
    exact ⟨la_nil, trivial⟩
  | .cons a as, X, sc, fc, E, l, hX, h => by
    unfold okEs at h
    split at h
    · simp only [Bool.and_eq_true] at h
      obtain ⟨a1, a2⟩ := sEs as hX h.2
      have hs := noStar_is h.1.1
      exact ⟨la_cons (sE a hX h.1.2) a1 (hs _ _), hs _ _, a2⟩
    · cases h
termination_by structural x => x
theorem sKw : ∀ (c : CEs) {X : Cx} {sc : Scope} {fc : Str → Bool} {E : KX} {l : List Keyword}, InX T Γ k H0 X sc fc E → okKw Γ c sc fc l = true → ∃ ks, ks = l.filterMap (·.arg) ∧ LKw T X H0 l ks (wpEs C F W c E)
  | .nil, X, sc, fc, E, l, hX, h => by
    unfold okKw at h
    have : l = [] := by simpa using h
    subst this
    exact ⟨[], rfl, .nil⟩
  | .cons a as, X, sc, fc, E, l, hX, h => by
    unfold okKw at h
    split at h
    · rename_i nm x p xs
      simp only [Bool.and_eq_true] at h
      obtain ⟨ks, a1, a2⟩ := sKw as hX h.2
      exact ⟨nm :: ks, by rw [List.filterMap_cons, a1], .cons (sE a hX h.1) a2⟩
    · cases h
termination_by structural x => x
theorem sKV : ∀ (c : CKV) {X : Cx} {sc : Scope} {fc : Str → Bool} {E : KX} {ks : List (Option Expr)} {vs : List Expr}, InX T Γ k H0 X sc fc E → okKV Γ c sc fc ks vs = true → LKV T X H0 ks vs (wpKV C F W c E)
  | .nil, X, sc, fc, E, ks, vs, hX, h => by
    unfold okKV at h
    simp only [Bool.and_eq_true, List.isEmpty_iff] at h
    obtain ⟨h1, h2⟩ := h
    subst h1 h2
    exact .nil
  | .cons a b r, X, sc, fc, E, ks, vs, hX, h => by
    unfold okKV at h
    split at h
    · simp only [Bool.and_eq_true] at h
      exact .cons (sE a hX h.1.1) (sE b hX h.1.2) (sKV r hX h.2)
    · cases h
termination_by structural x => x
theorem sO : ∀ (c : CO) {X : Cx} {sc : Scope} {fc : Str → Bool} {E : KX} {o : Option Expr}, InX T Γ k H0 X sc fc E → okO Γ c sc fc o = true → PO X o (LO T H0 (wpO C F W c E))
  | .no, X, sc, fc, E, o, hX, h => by
    unfold okO at h
    cases o with
    | none => exact lo_no
    | some _ => cases h
  | .so a, X, sc, fc, E, o, hX, h => by
    unfold okO at h
    split at h
    · exact lo_so (sE a hX h)
    · cases h
termination_by structural x => x
theorem sG : ∀ (c : CT) {X : Cx} {sc : Scope} {fc : Str → Bool} {E : KX} {e : Expr}, InX T Γ k H0 X sc fc E → okG Γ c sc fc e = true → PG X e (LG T H0 (slotsT c) (wpG C F W c E))
  | .nm i, X, sc, fc, E, e, hX, h => by
    unfold okG at h
    split at h
    · simp only [Bool.and_eq_true, decide_eq_true_eq] at h
      obtain ⟨l1, l2⟩ := hX.loc h.1
      exact lg_name hX.nd (by rw [hX.N]; exact h.2) l1 l2
    · cases h
  | .tup ts, X, sc, fc, E, e, hX, h => by
    unfold okG at h
    split at h
    · obtain ⟨a1, a2, a3⟩ := sGs ts hX h
      exact lg_tup hX.st.K hX.calm a1 a2 a3
    · cases h
  | .sub o i, X, sc, fc, E, e, hX, h => by
    unfold okG at h
    split at h
    · simp only [Bool.and_eq_true] at h
      exact lg_sub hX.st.K hX.st.w hX.un (sE o hX h.1.2) (sE i hX h.2) (notSlice_asg h.1.1)
    · cases h
  | .att o f, X, sc, fc, E, e, hX, h => by
    unfold okG at h
    split at h
    · simp only [Bool.and_eq_true, decide_eq_true_eq] at h
      obtain ⟨e1, n1⟩ := gd.fld f _ h.1
      rw [← e1]
      exact lg_att hX.st.K gd.cok n1 (sE o hX h.2)
    · cases h
termination_by structural x => x
theorem sGs : ∀ (c : CTs) {X : Cx} {sc : Scope} {fc : Str → Bool} {E : KX} {l : List Expr}, InX T Γ k H0 X sc fc E → okGs Γ c sc fc l = true → PGs X l (LGs T H0 (slotsTs c) (wpGs C F W c E)) ∧ PlG X.env l ∧ l.length = c.len
  | .nil, X, sc, fc, E, l, hX, h => by
    unfold okGs at h
    have : l = [] := by simpa using h
    subst this
    exact ⟨lgs_nil2, trivial, rfl⟩
  | .cons t ts, X, sc, fc, E, l, hX, h => by
    unfold okGs at h
    split at h
    · simp only [Bool.and_eq_true] at h
      obtain ⟨a1, a2, a3⟩ := sGs ts hX h.2
      have hs := noStar_asg h.1.1
      exact ⟨lgs_cons2 (sG t hX h.1.2) a1 (hs _ _), ⟨hs _ _, a2⟩, by rw [List.length_cons, a3]; rfl⟩
    · cases h
termination_by structural x => x
theorem sI : ∀ (c : CI) {X : Cx} {sc : Scope} {fc : Str → Bool} {E : KX} {tg e : Expr}, InX T Γ k H0 X sc fc E → okI Γ c sc fc tg e = true → PI X tg e (LI T H0 (wpI C F W c E))
  | .seq a, X, sc, fc, E, tg, e, hX, h => by
    unfold okI at h
    exact li_seq hX.st.K (sE a hX h)
  | .rng1 a, X, sc, fc, E, tg, e, hX, h => by
    unfold okI at h
    split at h
    · simp only [Bool.and_eq_true, decide_eq_true_eq] at h
      obtain ⟨⟨⟨h1, h2⟩, h3⟩, h4⟩ := h
      subst h1
      exact li_rng1 (hX.gl h2).1 (by rw [hX.mg]; exact gd.bl _ (by simp [bltNames])) (sE a hX h4) (noStar_is h3 [] _)
    · cases h
  | .rng2 a b, X, sc, fc, E, tg, e, hX, h => by
    unfold okI at h
    split at h
    · simp only [Bool.and_eq_true, decide_eq_true_eq] at h
      obtain ⟨⟨⟨⟨⟨h1, h2⟩, h3⟩, h4⟩, h5⟩, h6⟩ := h
      subst h1
      exact li_rng2 (hX.gl h2).1 (by rw [hX.mg]; exact gd.bl _ (by simp [bltNames])) (sE a hX h5) (sE b hX h6) (by rw [noStar_is h3, noStar_is h4]; rfl) (noStar_is h4 [] _)
    · cases h
  | .enu a, X, sc, fc, E, tg, e, hX, h => by
    unfold okI at h
    split at h
    · simp only [Bool.and_eq_true, decide_eq_true_eq] at h
      obtain ⟨⟨⟨⟨h1, h2⟩, h3⟩, h4⟩, h5⟩ := h
      subst h1
      split at h5
      · exact li_enu hX.st.K (hX.gl h2).1 (by rw [hX.mg]; exact gd.bl _ (by simp [bltNames])) (sE a hX h4) (noStar_is h3 [] _)
      · cases h5
    · cases h
  | .zip _ _, X, sc, fc, E, tg, e, hX, h => by unfold okI at h; cases h
  | .itm _, X, sc, fc, E, tg, e, hX, h => by unfold okI at h; cases h
termination_by structural x => x
end
end
end AT
end
section
set_option maxHeartbeats 4000000
/-! AT25: an own exception whose __init__ says super().__init__('..') and keeps one thing: what its making does. -/
namespace AT
open PySem PySem.Spec PySem.Calls PyProof.Rows PySem.W

/-! ### ValueError.__init__ bound to an instance, called -/
section
variable {prog : Program} {w : World} {A : Around} {E : Value → Shared → Prop} {h : Heap} {g : Array GenState} {d : Drawn} {t : Nat} {os : OsState}
variable {nm q : Str} {C N : Addr} {bs bm : List Value} {hdct : Bool} {sn : List Str} {sub : List Value} {ab : Bool} {col : Option Bool} {dd : Option Addr} {k0 k1 k2 k3 k5 : Option Value}
theorem call_vw {u e t0 : Addr} {rest : List Value} {Q : Value → Shared → Prop}
    (hC : h.get? C = some (excClassObj nm q C N bs bm hdct sn sub ab col dd k0 k1 k2 k3 k5 "ValueError.__new__")) (he : h.get? e = some (HandSPX.excO C t0)) (hu : h.get? u = some (kxs_mw "ValueError.__init__" e)) (hrest : rest.length ≤ sizeLine)
    (hq : ∀ h' t1, (∀ b o, b ≠ e → h.get? b = some o → h'.get? b = some o) → h'.get? e = some (HandSPX.excO C t1) → Q .none ⟨h', g, d, t, os⟩) :
    wpAny (model prog w) A (call (.ref u) rest) Q E ⟨h, g, d, t, os⟩ := by
  refine wpAny_call (codeAny_of_tree ?_)
  show wpAny _ A.in1 (callAny (.ref u) ⟨rest, []⟩) _ _ _
  simp only [callAny]
  refine wpAny_bind (wpAny_load hu ?_)
  simp only [kxs_mw, show (Value.type "method-wrapper" == Value.type "method" || Value.type "method-wrapper" == Value.type "builtin_function_or_method" || Value.type "method-wrapper" == Value.type "method-wrapper") = true by decide, if_true]
  refine W.KFB.if_so (by decide) ?_
  refine wpAny_bind (ESX.check_bound F.excBase_ValueError hC he rfl ?_)
  refine wpAny_bind (wpAny_pure (wpAny_pure ?_))
  refine ⟨plainId_quiet F.excBase_ValueError.init.plain _, codeAny_builtin F.excBase_ValueError.initEntry ?_⟩
  refine exc_init_tree (cls := .ref C) (t0 := t0) (dv := none) (c2 := .none) (c3 := .none) (b4 := .bool false) he hrest fun h' k e' t' => ?_
  exact hq h' h.objs.size k e'
end

/-- an own exception class, as it is written: its __init__ is D's -/
structure XIn (prog : Program) (K : Frag) (mg : Str → Option Value) (C : Addr) (fI : Addr) (fd : FuncData) : Prop where
  oex : L2.OexC K C
  fi : findIn K (.ref C) "__init__" = some (some (.ref fI))
  ti : typeIn K (.ref fI) = some (.type "function")
  wh : findIn K (.ref C) "what" = some none
  sup : mg "super" = none
  opq : nsIn K cStatics "thirdparty.any" = some none
  vE : subIn K (.ref C) (.type "ValueError") = some true
  df : ∃ (nm qual : Str) (params : Arguments) (body : List Stmt) (scope : Scope) (kV doc pm ct oc ccl cl : Value) (an od cdd cld : Option Addr) (osl ccs csl : Array (Option Value)) (cda cc D : Addr) (vs : Array Value) (file : Str) (tf : Tok) (cdD : ClassData) (ar : Arg),
    K.lookup fI = some ⟨oc, od, .func fd, osl⟩ ∧ fd = ksFn nm qual params body scope .none kV doc pm an (.ref cda) ct cc ∧ codeIn K (.ref cda) qual = true ∧
    (params.posonlyargs ++ params.args).head? = some ar ∧ ar.arg = ("self" : Str) ∧
    K.lookup cda = some ⟨ccl, cdd, .fields vs, ccs⟩ ∧ vs[2]? = some (.str file tf) ∧ ((prog.main.file : Str) == file) = true ∧
    K.lookup cc = some ⟨cl, cld, .cell (some (.ref D)), csl⟩ ∧ clsIn K D = some cdD ∧ mroIn K C (.ref D) = some true ∧ ks_superIn K C D "__init__" = some (some (.builtin "ValueError.__init__")) ∧
    (∃ (z : Str) (j : Nat) (p0 p1 p2 p3 p4 p5 q0 q1 q2 q3 : Pos), (p2.endLine == p4.line) = true ∧ body = [.Expr (.Call (.Attribute (.Call (.Name "super" p0) [] [] p1) "__init__" p2) [.Constant (.str z) j p3] [] p4) p5, .Assign [.Attribute (.Name "self" q0) "what" q1] (.Name "what" q2) q3]) ∧
    scope = ⟨.function, [("self", .local), ("what", .local), ("__class__", .free), ("super", .globalImplicit)], false, false, []⟩ ∧
    (prog.main.scope.names.lookup ("super" : Str)).isSome = false

theorem meth_eqA {o : Expr} {ms : Str} {apos pos : Pos} {c : Const} {j : Nat} {p3 : Pos} {env : Env} (hl : (apos.endLine == pos.line) = true) : eval (.Call (.Attribute o ms apos) [.Constant c j p3] [] pos) env = (do
      let ov ← attributeBase o ms env (eval o env)
      standAt apos.atName
      let (f, first) ← holding [ov] (getMethod ov ms (do return (← importBound o env).getD true))
      callWith pos f first (backTo pos (starEach [.Constant c j p3] env)) []) := by
  rw [arm_eval_Call]
  have hf : methodCallForm ([Expr.Constant c j p3].length + ([] : List Keyword).length) (backTo pos (starEach [.Constant c j p3] env)) (backToKw pos (keywordEach [] env)) = true := by rfl
  unfold methodCall
  rw [hf]
  have hp : methodCallPos true o env apos pos = pure pos := by unfold methodCallPos; simp [hl]
  rw [hp]
  rfl

section
variable {prog : Program} {w : World} {A : Around} {R : Result → Shared → Prop} {h : Heap} {g : Array GenState} {d : Drawn} {t : Nat} {os : OsState} {K : Frag} {mg : Str → Option Value}
theorem init_run {C fI e t0 : Addr} {fd : FuncData} {v : Value} (T : XIn prog K mg C fI fd) (X : K.In h) (he : h.get? e = some (HandSPX.excO C t0)) (hg : h.Ns mainGlobals mg) (hb : ∃ mb, h.Ns builtinsNs mb ∧ ∀ x : Str, x ≠ "__name__" → mb x = bootBuiltins x)
    (hKe : K.lookup e = none) (hl : h.NoLimit) (hroom : A.depth < recursionLimit) (hbi : BindsTo ⟨h, g, d, t, os⟩ fd ⟨[.ref e, v], []⟩ [("self", .ref e), ("what", v)])
    (hq : ∀ h' tk' t1 dx, (∀ b o, b ≠ e → h.get? b = some o → h'.get? b = some o) → h.objs.size ≤ dx → dx ≠ e → h'.get? e = some ({ cls := .ref C, dict := some dx, data := .fields #[.ref t1, .none, .none, .none, .bool false, .none] } : Obj) →
      h'.Ns1 dx (fun y => if y = "what" then some v else none) → R (.ok (.ret .none)) ⟨h', g, d, tk', os⟩) :
    codeAny (model prog w) A (.call (.ref fI) ⟨[.ref e, v], []⟩) R ⟨h, g, d, t, os⟩ := by
  obtain ⟨nm, qual, params, body, scope, kV, doc, pm, ct, oc, ccl, cl, an, od, cdd, cld, osl, ccs, csl, cda, cc, D, vs, file, tf, cdD, ar, hf, hfd, hcd, hp, har, hcode, hvs, hfile, hcell, hD, hsub, hsi, ⟨z, j, p0, p1, p2, p3, p4, p5, q0, q1, q2, q3, hln, hbody⟩, hscope, htop⟩ := T.df
  subst hfd hbody hscope
  obtain ⟨nmC, qC, N, bs, bm, sn, sub, ab, col, dd, k0, k1, k2, k3, k5, hC, hbm⟩ := T.oex.cls
  have hcl : PySem.W.clsIn K C = some { name := nmC, bases := bs, mro := .ref C :: bm, ns := N, qualname := qC, hasDict := true, slotNames := sn, subclasses := sub, abstract := ab, collection := col, hasDel := false } := by unfold PySem.W.clsIn; rw [hC] <;> rfl
  refine ks_codeAny_call_defAt (body := _) hroom (X _ _ hf) rfl hl (codeRec_of X hcd) rfl hbi (fun x hx => ?_) (fun x hx => ?_) (fun h₀ hns hk₀ => ?_)
  · simp only [List.mem_cons, List.not_mem_nil, or_false] at hx
    rcases hx with rfl | rfl | rfl | rfl <;> exact fun z => nomatch z
  · simp only [List.mem_cons, List.not_mem_nil, or_false] at hx
    rcases hx with rfl | rfl <;> rfl
  have X₀ : K.In h₀ := fun a o ea => hk₀ _ _ (X a o ea)
  have he₀ := hk₀ _ _ he
  obtain ⟨oD, hD1, hD2⟩ : ∃ oD, h₀.get? D = some oD ∧ oD.data = .cls cdD := by
    unfold clsIn at hD
    split at hD
    · rename_i c d cd' sl ho
      cases hD
      exact ⟨_, X₀ _ _ ho, rfl⟩
    · cases hD
  obtain ⟨mb, hb1, hb2⟩ := hb
  have sup : bootBuiltins "super" = some (.type "super") := PyProof.Rows.Boot.«super»
  have I₀ : InstAt h₀ e (HandSPX.excO C t0) C none := ⟨he₀, rfl, rfl, trivial⟩
  refine ks_wpAt_execs_cons (ks_wpAt_Expr_any (ks_wpAt_MethodCall (he := meth_eqA hln) ?_))
  refine ks_wpAt_super_base rfl rfl (by decide) rfl (X₀ _ _ hf) rfl hp rfl (X₀ _ _ hcode) rfl hvs hfile htop ?_
  refine ks_loadName_global rfl rfl (loadGlobal_builtin (hg.keeps hk₀) T.sup (hb1.keeps hk₀) ((hb2 _ (by decide)).trans sup) ⟨rfl, ?_⟩)
  refine wpAny_loadName_free rfl rfl rfl ⟨_, X₀ _ _ hcell, rfl⟩ ?_
  rw [har]
  refine wpAny_loadName_local rfl rfl hns rfl ?_
  refine ks_wpAny_isType_cls hD1 hD2 ⟨rfl, ?_⟩
  refine ks_wpAny_call_super hD1 hD2 he₀ rfl (fun c z => nomatch z) (looks_mroIn X₀ hsub) (fun h₁ hso k₁ => ?_)
  have X₁ : K.In h₁ := fun a o ea => k₁ _ _ (X₀ a o ea)
  have he₁ := k₁ _ _ he₀
  have I₁ : InstAt h₁ e (HandSPX.excO C t0) C none := ⟨he₁, rfl, rfl, trivial⟩
  unfold ks_superIn at hsi
  rw [hcl] at hsi
  refine kxs_getMethod kxs_ValueError hso (looks_opaque X₁ T.opq) (l₀ := .ref C :: bm) ?_ rfl X₁ hsi (I₁.type.andThen (looks_subIn X₁ T.vE)) (ks_ne X₁ I₁ hcl) (by decide) ?_
  · exact fun A Q E s k q => wpAny_bind ((looks_clsIn X₁ hcl) A _ E s k (wpAny_pure q))
  refine kxs_callWith (i := "ValueError.__init__") (x := e) rfl ?_
  refine evalArgs_plain (spliced_cons (Calls.Constant_str (k := j) (pos := p3) (spliced_nil ?_)))
  have hu : (h₁.push (kxs_mw "ValueError.__init__" e)).get? h₁.objs.size = some (kxs_mw "ValueError.__init__" e) := Heap.get?_push_at rfl rfl
  have k₂ : ∀ b o, h₁.get? b = some o → (h₁.push (kxs_mw "ValueError.__init__" e)).get? b = some o := fun b o eb => Heap.get?_push_of_some _ eb
  refine ⟨hu, ?_⟩
  refine call_vw (hC := k₂ _ _ (X₁ _ _ hC)) (he := k₂ _ _ he₁) hu (show (1 : Nat) ≤ sizeLine by rw [sizeLine_eq]; decide) (fun h₃ t1 k₃ he₃ => ?_)
  have kk : ∀ b o, b ≠ e → h.get? b = some o → h₃.get? b = some o := fun b o nb eb => k₃ b o nb (k₂ _ _ (k₁ _ _ (hk₀ _ _ eb)))
  have Kne : ∀ a o, K.lookup a = some o → a ≠ e := fun a o ea q => by
    rw [q, hKe] at ea
    cases ea
  have X₃ : K.In h₃ := fun a o ea => kk _ _ (Kne a o ea) (X a o ea)
  obtain ⟨o3, es3, ep3, ho3, hr3⟩ := hns
  have nLe : h.objs.size ≠ e := Nat.ne_of_gt (Heap.lt_size he)
  have hns₃ : h₃.Ns h.objs.size (fun x => [(("self" : Str), Value.ref e), ("what", v)].reverse.lookup x) := ⟨o3, es3, ep3, k₃ _ _ nLe (k₂ _ _ (k₁ _ _ ho3)), hr3⟩
  refine ks_wpAt_execs_cons (ks_wpAt_Assign_Attr ?_)
  refine wpAt_of_wpAny ?_
  refine wpAny_Name ?_ (by decide)
  refine wpAny_loadName_local rfl rfl hns₃ rfl ?_
  show wpAny _ _ (eval (.Name "self" q0) _) _ _ _
  refine wpAny_Name ?_ (by decide)
  refine wpAny_loadName_local rfl rfl hns₃ rfl ?_
  refine W.set_plain X₃ (ox := HandSPX.excO C t1) (od := none) ⟨he₃, rfl, rfl, trivial⟩ T.oex.sa ?_
  refine HandSPX.exc_osa X₃ he₃ hcl (show HandSPX.refsVE (.ref C :: bm) = true from hbm) rfl T.wh (fun h' tk' dx k dn dne hx hn => ?_)
  refine wpAt_of_wpAny (wpAny_execs_nil ?_)
  refine hq h' tk' t1 dx (fun b o nb eb => k b o nb (kk b o nb eb)) (Nat.le_trans (Nat.le_of_lt (Heap.lt_size (k₃ _ _ nLe (k₂ _ _ (k₁ _ _ ho3))))) dn) dne hx hn
end
end AT
end
section
set_option maxHeartbeats 4000000
/-! AT26: raise X(e). -/
namespace AT
open PySem PySem.Spec PyProof.Rows L2

section
variable {X : Cx} {x : Str} {C fI : Addr} {fd : FuncData} {k : Nat} {e : Expr} {te : TE} {p pos : Pos}
theorem pmk_x (T : XIn X.prog X.K X.mg C fI fd) (hb : Binds X.K fd ["self", "what"] []) (hr : Room (k + 1) X.A) (hg : Gl X x) (hm : X.mg x = some (.ref C)) (he0 : PE X e te) (hdb : (x == ("__debug__" : Str)) = false) (he : starEach [e] X.env = (false, eval e X.env) :: starEach [] X.env) :
    PMk X (.Call (.Name x p) [e] [] pos) (fun σ H Q => te σ H fun v H1 => ∀ dx, H1 dx = none → Q (.ref C) (some dx) (upd H1 dx (.xd [("what", v)]))) := by
  intro pins s σ H Q I h
  obtain ⟨nm, q, N, bs, bm, sn, sub, ab, col, dd, k0, k1, k2, k3, k5, hC, hbm⟩ := T.oex.cls
  refine wpAny_Call_Name_kw (ld_glob I hg hm ?_ hdb)
  have ha : PA X [e] (tCons te tNil) := pa_cons he0 pa_nil he
  refine PySem.W.callWith_K (h₀ := X.base) I.ok.mod.kin T.oex.kC (thn (ha.run pos pins s σ H (fun vs H1 => match vs with | [v] => ∀ dx, H1 dx = none → Q (.ref C) (some dx) (upd H1 dx (.xd [("what", v)])) | _ => False) I h) fun us s1 hh => ?_) he
  obtain ⟨vs, H1, I1, r1, q1⟩ := hh
  refine ⟨I1.kIn, ?_⟩
  match vs, us, r1, q1 with
  | [y], [u], .cons ry .nil, q1 =>
  have q1' : ∀ dx, H1 dx = none → Q (.ref C) (some dx) (upd H1 dx (.xd [("what", y)])) := q1
  show wpAny _ _ (call (.ref C) [u]) _ _ _
  obtain ⟨hp, g, dr, tk, os⟩ := s1
  have hsz : hp.objs.size ≤ hp.objs.size + 1 := Nat.le_succ _
  have hn : H1 (hp.objs.size + 1) = none := I1.hok.fresh hsz
  have kk : ∀ b o, hp.get? b = some o → ((hp.push (PySem.W.kdv_tup [u])).push (PySem.HandSPX.excO C hp.objs.size)).get? b = some o := fun b o e => Heap.get?_push_of_some _ (Heap.get?_push_of_some _ e)
  have hget : ((hp.push (PySem.W.kdv_tup [u])).push (PySem.HandSPX.excO C hp.objs.size)).get? (hp.objs.size + 1) = some (PySem.HandSPX.excO C hp.objs.size) := by heap_get
  have I2 : Inv X pins σ (upd H1 (hp.objs.size + 1) (exo (hp.objs.size + 1) C none)) ⟨(hp.push (PySem.W.kdv_tup [u])).push (PySem.HandSPX.excO C hp.objs.size), g, dr, tk, os⟩ :=
    I1.laid (t' := tk) (a := hp.objs.size + 1) (o := exo (hp.objs.size + 1) C none) (h' := (hp.push (PySem.W.kdv_tup [u])).push (PySem.HandSPX.excO C hp.objs.size)) kk hsz (exo_ok hget)
  have hus : [u].length ≤ sizeLine := show (1 : Nat) ≤ sizeLine by
    rw [sizeLine_eq]
    decide
  have hKe : X.K.lookup (hp.objs.size + 1) = none := by
    cases z : X.K.lookup (hp.objs.size + 1) with
    | none => rfl
    | some o => exact absurd (Heap.lt_size (I1.kIn _ _ z)) (by show ¬ (hp.objs.size + 1 < hp.objs.size); omega)
  have b2 := hb ⟨(hp.push (PySem.W.kdv_tup [u])).push (PySem.HandSPX.excO C hp.objs.size), g, dr, tk, os⟩ [Value.ref (hp.objs.size + 1), u] I2.kIn rfl
  generalize hhp2 : (hp.push (PySem.W.kdv_tup [u])).push (PySem.HandSPX.excO C hp.objs.size) = hp2 at kk hget I2 b2
  generalize haa : hp.objs.size + 1 = a at hsz hn kk hget I2 b2 hKe
  refine wpAny_call (PySem.HandSPX.call_own F.excBase_ValueError (fun Y => PySem.HandSPX.refsVE_contains Y bm hbm) (I1.kIn _ _ hC) (PySem.W.looks_findIn I1.kIn T.fi) (fun self => PySem.W.bind_fn I1.kIn self T.ti) hus ?_)
  show codeAny _ _ (.call (.ref fI) ⟨[.ref (hp.objs.size + 1), u], []⟩) _ ⟨(hp.push (PySem.W.kdv_tup [u])).push (PySem.HandSPX.excO C hp.objs.size), g, dr, tk, os⟩
  rw [haa, hhp2]
  refine init_run T I2.kIn hget (I2.mod.glob.keeps I2.bk) (let ⟨mb, b1, b2⟩ := I2.mod.blt; ⟨mb, b1.keeps I2.bk, b2⟩) hKe I2.nolimit (hr.make C [u] []).depth b2 (fun h' tk' t1 dx kx dn dne hx hns => ?_)
  have hnd2 : upd H1 a (exo a C none) dx = none := I2.hok.fresh dn
  have hnd : H1 dx = none := by
    rw [upd_ne dne] at hnd2
    exact hnd2
  have nd : ∀ {b : Addr} {o : Obj}, hp2.get? b = some o → b ≠ dx := fun {b o} q => Nat.ne_of_lt (Nat.lt_of_lt_of_le (Heap.lt_size q) dn)
  have ea0 : upd H1 a (exo a C none) a = some (exo a C none) := upd_same
  have na : ∀ {b : Addr}, upd H1 a (exo a C none) b = none → b ≠ a := fun {b} n z => by
    rw [z, ea0] at n
    cases n
  have Un1 : Un (frs X.stack) [] (upd H1 a (exo a C none)) (upd (upd (upd H1 a (exo a C none)) dx (exd dx [("what", y)])) a (exo a C (some dx))) hp2 h' := {
    keep := fun b o q n _ _ => kx b o (na n) q
    slot := fun b o q n _ _ => ⟨o.slots, kx b o (na n) q⟩
    free := fun b o q n _ => by rw [upd_ne (na n), upd_ne (nd q)]; exact n
    there := fun b o q _ => by
      by_cases hb : b = a
      · exact ⟨_, by rw [hb]; exact hx⟩
      · exact ⟨o, kx b o hb q⟩
    tups := fun b xs q => by rw [upd_ne (at_ne ea0 q exo_tup), upd_ne (ne_of_none q hnd2)]; exact q
    frzs := fun b o v q => by rw [upd_ne (at_ne ea0 q exo_frz), upd_ne (ne_of_none q hnd2)]; exact q
    tbls := fun b ps q => ⟨#[], by rw [upd_ne (at_ne ea0 q exo_tbl), upd_ne (ne_of_none q hnd2), q]; simp⟩ }
  have hok : HOk X.prog X.w (upd (upd (upd H1 a (exo a C none)) dx (exd dx [("what", y)])) a (exo a C (some dx))) h' := fun b o q => by
    by_cases hb : b = a
    · subst hb
      rw [upd_same] at q
      cases q
      exact exo_ok hx
    · rw [upd_ne hb] at q
      by_cases hd : b = dx
      · subst hd
        rw [upd_same] at q
        cases q
        exact exd_ok hns (relO_put (fs := []) ry fun g => True.intro)
      · rw [upd_ne hd] at q
        exact (I2.hok b o q).stay (fun c v hc z => kx c v (by
            rcases hc with hc | hc
            · rw [hc]
              exact hb
            · exact at_ne ea0 hc exo_own) z)
          (fun c hc => by rw [upd_ne (at_ne ea0 hc exo_own), upd_ne (ne_of_none hc hnd2)]; exact hc) (fun c xs hc => by rw [upd_ne (at_ne ea0 hc exo_tup), upd_ne (ne_of_none hc hnd2)]; exact hc)
  refine ⟨rfl, mk_end (raises_own T.oex.exC T.oex.tyC) I1 hsz kk Un1 hok rfl I1.bare upd_same (by rw [upd_ne dne]; exact upd_same) hnd ?_⟩
  have eq : upd (L2.del (upd (upd (upd H1 a (exo a C none)) dx (exd dx [("what", y)])) a (exo a C (some dx))) a) dx (.xd [("what", y)]) = upd H1 dx (.xd [("what", y)]) := by
    funext b
    by_cases hd : b = dx
    · rw [hd, upd_same, upd_same]
    · rw [upd_ne hd, upd_ne hd]
      by_cases hb : b = a
      · rw [hb, del_same, hn]
      · rw [del_ne hb, upd_ne hb, upd_ne hd, upd_ne hb]
  rw [eq]
  exact q1' dx hnd
end
end AT
end
section
set_option maxHeartbeats 4000000
/-! AT27: raise X(e); try: .. except X as n: return .. -/
namespace AT
open PySem PySem.Spec PyProof.Rows L2 SeqAt

/-- what stands behind an own exception's name -/
structure ExAt (T : Wd) (C : Addr) : Prop where
  nw : ∃ fI fd, XIn T.P T.K T.mg C fI fd ∧ Binds T.K fd ["self", "what"] []
structure Exs (T : Wd) (C : Cls) (Γ : Inf) : Prop where
  ex : ∀ x c, Γ.exs.lookup x = some c → ∃ A, T.mg x = some (.ref A) ∧ T.xa c = some A ∧ ExAt T A
  xf : ∀ c A, T.xa c = some A → XfC T.K A ∧ PySem.W.findIn T.K (.ref A) "what" = some none
  sub : ∀ c c' A A', T.xa c = some A → T.xa c' = some A' → PySem.W.exmOne T.K (.ref A) (.ref A') = some (C.sub c c')
  n0 : Γ.exs ≠ [] → T.nm 0 = "what"
/-- a def's own body, where statements stand -/
structure InS (T : Wd) (H0 : Hp) (X : Cx) (E : KX) : Prop where
  pas : PassesOwn (model X.prog X.w) X.A X.env X.xe
  stk : X.stack = X.env :: X.outer
  frm : X.env.frame = some X.env.locals
  tk : Takes X (fun cls d _ H => LX T H0 E cls d H)
section
variable {T : Wd} {C : Cls} {F : Orc} {Γ : Inf} {k : Nat} {H0 : Hp} {X : Cx} {sc : Scope} {fc : Str → Bool} {E : KX}
theorem InS.nox (h : InS T H0 X E) : InS T H0 X.nox (fun _ _ => False) where
  pas := PassesOwn.never
  stk := h.stk
  frm := h.frm
  tk := fun u s' z => by
    obtain ⟨_, _, _, _, _, _, _, _, _, _, _, _, _, _, _, _, w⟩ := z
    obtain ⟨_, _, z, _⟩ := w
    exact z.elim
theorem s_rse (xs : Exs T C Γ) (hX : InX T Γ k H0 X sc fc E) (hS : InS T H0 X E) {x : Str} {c : Nat} (hc : Γ.exs.lookup x = some c) (hg : glB sc x = true) {e : Expr} {te : TE2} {p pos pos' : Pos} (he : PE X e (LE T H0 te)) (hs : noStar e = true) :
    PS X (.Raise (some (.Call (.Name x p) [e] [] pos)) none pos') (LS T H0 fun _ σ G => te σ G fun d G1 => E ⟨c, d⟩ G1) := by
  obtain ⟨A, m1, m2, ⟨fI, fd, m3, m4⟩⟩ := xs.ex x c hc
  obtain ⟨g1, g2, g3⟩ := hX.gl hg
  have n0 : T.nm 0 = "what" := xs.n0 (fun z => by rw [z] at hc; cases hc)
  have m3' : XIn X.prog X.K X.mg A fI fd := by rw [hX.st.P, hX.st.K, hX.st.mg]; exact m3
  have m4' : Binds X.K fd ["self", "what"] [] := by rw [hX.st.K]; exact m4
  refine PS.imp (ps_raise hX.calm hS.tk (pmk_x (p := p) (pos := pos) m3' m4' hX.room g1 (by rw [hX.mg]; exact m1) he g2 (noStar_is hs [] X.env))) ?_
  rintro D σ H ⟨σd, G, K, x0, sr, g, h, kk⟩
  refine ⟨σd, G, _, x0, sr, g, h, fun d G1 v H1 q x1 dv g1 dx hn => ?_⟩
  have xn : Xt H1 (upd H1 dx (.xd [("what", v)])) := Xt.new hn
  exact ⟨⟨c, d⟩, G1, q, (x0.trans x1).trans xn, ⟨A, dx, v, m2, rfl, rfl, by rw [n0]; exact upd_same, dv.mono xn⟩, g1.new hn⟩
end

/-- what a clause says: return a constant, or whether what is kept is one -/
def okH (n : Str) : CE → Expr → Bool
  | .cst d, e => match e with
    | .Constant c _ _ => match litD c with
      | some d' => D.same d d'
      | none => false
    | _ => false
  | .cmp .eq .what (.cst d), e => match e with
    | .Compare (.Attribute (.Name m _) w _) [.Eq] [.Constant c _ _] _ => decide (m = n) && decide (w = ("what" : Str)) && (match litD c with
      | some d' => D.same d d'
      | none => false)
    | _ => false
  | _, _ => false
section
variable {T : Wd} {C : Cls} {F : Orc} {Γ : Inf} {k : Nat} {H0 : Hp} {X : Cx} {sc : Scope} {fc : Str → Bool} {E : KX}
theorem lit_pe {c : Const} {d : D} {j : Nat} {p : Pos} (h : litD c = some d) : ∃ v, PE X (.Constant c j p) (tC v) ∧ ∀ H, DV T.K T.fa H v d := by
  cases c <;> simp only [litD, Option.some.injEq, reduceCtorEq] at h <;> subst h
  · exact ⟨_, pe_non, fun H => .non⟩
  · exact ⟨_, pe_bl, fun H => .bl _⟩
  · exact ⟨_, pe_int, fun H => .int _⟩
  · exact ⟨_, pe_str, fun H => .str _⟩
theorem wh_run (xs : Exs T C Γ) (hX : InX T Γ k H0 X sc fc E) {i : Nat} {n : Str} (hi : X.N[i]? = some n) (hv : visB sc n = true) {a A : Addr} {oe : Obj} {cls : Value} {d : Option Addr} {pn : List (Addr × Obj)} (hz : Zc cls d oe) (hf : ∃ vs, oe.data = .fields vs)
    (xf : XfC T.K A) (hw : PySem.W.findIn T.K (.ref A) "what" = some none) {p1 p2 : Pos} : PE (X.suite a ((a, oe) :: pn)) (.Attribute (.Name n p1) "what" p2) (tXf a cls d A "what" (tVar i)) := by
  obtain ⟨v1, v2, v3⟩ := hX.vis hv
  exact pe_xf (X := X) (by rw [hX.st.K]; exact xf) (by rw [hX.st.K]; exact hw) hz hf (pe_var (X := X.suite a ((a, oe) :: pn)) hi v1 v2 v3)
theorem hE (xs : Exs T C Γ) (hX : InX T Γ k H0 X sc fc E) (ne : Γ.exs ≠ []) {i : Nat} {n : Str} (hi : X.N[i]? = some n) (hv : visB sc n = true) {a : Addr} {oe : Obj} {cls : Value} {d : Option Addr} {pn : List (Addr × Obj)} (hz : Zc cls d oe) (hf : ∃ vs, oe.data = .fields vs)
    {ce : CE} {e : Expr} (h : okH n ce e = true) : PE (X.suite a ((a, oe) :: pn)) e (fun σ H Q => ∃ x G K σ0, σ[i]? = some (some (.ref a)) ∧ EV T H cls d x ∧ GR T G H ∧ wpE C F (some x.what) ce E σ0 G K ∧
      ∀ d' G' v H', K d' G' → Xt H H' → DV T.K T.fa H' v d' → GR T G' H' → Q v H') := by
  unfold okH at h
  split at h
  · split at h
    · split at h
      · rename_i hd
        have e := D.same_eq h
        subst e
        obtain ⟨v, hp, hv⟩ := lit_pe (T := T) (X := X.suite a ((a, oe) :: pn)) hd
        refine PE.imp hp ?_
        rintro σ H Q ⟨x, G, K, σ0, hs, ev, g, hw, kk⟩
        exact kk _ _ _ _ hw (.refl H) (hv H) g
      · cases h
    · cases h
  · split at h
    · rename_i dl _ m p1 w p2 c j p3 p4
      simp only [Bool.and_eq_true, decide_eq_true_eq] at h
      obtain ⟨⟨rfl, rfl⟩, h⟩ := h
      split at h
      · rename_i d' hd
        have e := D.same_eq h
        subst e
        refine ⟨fun pins s σ H Q I hq => ?_⟩
        obtain ⟨x, G, K, σ0, hs, ev, g, hw, kk⟩ := hq
        obtain ⟨A, dd, v, y1, y2, y3, y4, y5⟩ := ev
        have n0 := xs.n0 ne
        rw [n0] at y4
        obtain ⟨xf, fw⟩ := xs.xf _ _ y1
        obtain ⟨u, hp, hv2⟩ := lit_pe (T := T) (X := X.suite a ((a, oe) :: pn)) hd (j := j) (p := p3)
        have := pe_cmpR (X := X.suite a ((a, oe) :: pn)) (pos := p4) (or_cmp (T := T) (X := X.suite a ((a, oe) :: pn)) hX.st.K hX.st.w hX.un .eq) (wh_run xs hX hi hv hz hf xf fw (p1 := p1) (p2 := p2)) hp rfl
        refine this.run pins s σ H Q I ?_
        refine ⟨_, hs, rfl, y2, dd, _, v, y3, y4, by simp [List.lookup], ?_⟩
        exact ⟨_, _, G, K, y5, hv2 H, g, hw, kk⟩
      · cases h
    · cases h
  · cases h
theorem s_try (xs : Exs T C Γ) (hX : InX T Γ k H0 X sc fc E) (hS : InS T H0 X E) {x n : Str} {c : Nat} (hc : Γ.exs.lookup x = some c) (hg : glB sc x = true) (hn : n ∈ Γ.N) (hv : visB sc n = true) (hl : sc.names.lookup n = some .local) {W : Option D} {b : CSs} {ce : CE} {e : Expr} (h : okH n ce e = true)
    {body : List Stmt} {np p3 pos pos' : Pos}
    (hb : ∀ (pn : List (Addr × Obj)) (xe : Value → Shared → Prop) (H1 : Hp) (Eb : KX), InX T Γ k H1 (X.tr pn xe) sc fc Eb → InS T H1 (X.tr pn xe) Eb → PSs (X.tr pn xe) body (LS T H1 fun K σ G => wpSs C F b Eb W K σ G)) :
    PS X (.Try body [.ExceptHandler (some (.Name x np)) (some n) [.Return (some e) p3] pos'] [] [] pos) (LS T H0 fun K σ G => wpS C F (.tryC b (.cons [c] (.cons (.ret ce) .nil) .nil)) E W K σ G) := by
  obtain ⟨A, m1, m2, _⟩ := xs.ex x c hc
  have ne : Γ.exs ≠ [] := fun z => by rw [z] at hc; cases hc
  obtain ⟨g1, g2, g3⟩ := hX.gl hg
  obtain ⟨i, hi0⟩ := List.mem_iff_getElem?.mp hn
  have hi : X.N[i]? = some n := by rw [hX.N]; exact hi0
  have hln : X.env.kindOf n = some .local := by
    show X.env.scope.names.lookup n = _
    rw [hX.sc]
    exact hl
  have key := ps_try_as (X := X) (c := .ref A) (i := i) (x := x) (n := n) (np := np) (pos := pos) (pos' := pos') (body := body) (b₀ := .Return (some e) p3) (suite := []) (Wout := fun cls d _ H => LX T H0 E cls d H)
    (tb := fun W' D σ H => ∃ σd G K Eb, Xt H0 H ∧ SR T H σ σd ∧ GR T G H ∧ wpSs C F b Eb W K σd G ∧ LK T H K D ∧ ∀ cls d σ' H', σ'.length = X.N.length → LX T H Eb cls d H' → W' cls d σ' H')
    (ts := fun a cls d D σ H => ∃ x G K σ0, σ[i]? = some (some (.ref a)) ∧ EV T H cls d x ∧ GR T G H ∧ wpE C F (some x.what) ce E σ0 G K ∧ ∀ d' G' v H', K d' G' → Xt H H' → DV T.K T.fa H' v d' → GR T G' H' → D.rt v H')
    hS.stk hS.frm hX.nd hi hln ⟨g1, g2, .inl (by rw [hX.mg]; exact m1)⟩ hS.tk ?_ ?_
  · refine PS.imp key ?_
    rintro D σ H ⟨σd, G, K, x0, sr, g, hw, kk⟩
    refine ⟨σd, G, K, _, x0, sr, g, hw, kk, fun cls d σ' H' hlen w => ?_⟩
    obtain ⟨xx, G1, w1, w2, w3, w4⟩ := w
    obtain ⟨B, dd, v, y1, y2, y3, y4, y5⟩ := w3
    have sb := xs.sub _ _ _ _ y1 m2
    refine ⟨C.sub xx.cls c, by rw [hX.st.K, y2]; exact sb, fun hb a ha => ?_, fun hb => ?_⟩
    · have w1' : (if ([c].any (C.sub xx.cls)) = true then wpE C F (some xx.what) ce E (σd.map fun _ => none) G1 K.rt else E xx G1) := w1
      rw [if_pos (by simp [hb])] at w1'
      have hlt : i < σ'.length := by
        rw [hlen]
        exact (List.getElem?_eq_some_iff.mp hi).1
      exact ⟨xx, G1, K.rt, _, by rw [List.getElem?_set_self hlt], ⟨B, dd, v, y1, y2, y3, y4, y5⟩, w4, w1', fun d' G' v H'' q x1 dv g1 => kk.rt _ _ _ _ q (w2.trans x1) dv g1⟩
    · have w1' : (if ([c].any (C.sub xx.cls)) = true then wpE C F (some xx.what) ce E (σd.map fun _ => none) G1 K.rt else E xx G1) := w1
      rw [if_neg (by simp [hb])] at w1'
      exact ⟨xx, G1, w1', x0.trans w2, ⟨B, dd, v, y1, y2, y3, y4, y5⟩, w4⟩
  · intro W' pn xe tk pas
    refine ⟨fun pins s σ H D I hq => ?_⟩
    obtain ⟨σd, G, K, Eb, x0, sr, g, hw, kk, hW⟩ := hq
    have tk' : Takes (X.tr pn xe) (fun cls d _ H' => LX T H Eb cls d H') := fun u s' z => by
      obtain ⟨a, B, sI, pins, σ, H', cls, d, e, I, nb, up, sky, na, os, ag, w⟩ := z
      exact tk u s' ⟨a, B, sI, pins, σ, H', cls, d, e, I, nb, up, sky, na, os, ag, hW _ _ _ _ I.len w⟩
    have hX' : InX T Γ k H (X.tr pn xe) sc fc Eb :=
      { st := ⟨hX.st.K, hX.st.w, hX.st.P, hX.st.mg, hX.st.base⟩
        calm := hX.calm
        nd := hX.nd
        N := hX.N
        sc := hX.sc
        fc := hX.fc
        room := hX.room
        pas := passes_call tk' (fun _ _ _ _ h => h) }
    exact (hb pn xe H Eb hX' ⟨pas, hS.stk, hS.frm, tk'⟩).run pins s σ H D I ⟨σd, G, K, .refl H, sr, g, hw, kk⟩
  · intro a oe cls d pn hz hf
    refine PSs.imp (pss_cons (ps_ret (hE (F := F) xs hX ne hi hv hz hf h)) pss_nil) ?_
    rintro D σ H ⟨x, G, K, σ0, h1, h2, h3, h4, h5⟩
    exact ⟨x, G, K, σ0, h1, h2, h3, h4, h5⟩
end
end AT
end
section
set_option maxHeartbeats 16000000
/-! AT18: statements: the checker, its soundness; defs. -/
namespace AT
open PySem PySem.Spec PyProof.Rows L2 SeqAt
def bkS (sc : Scope) : ScopeKind := if sc.kind.isAnnotationScope then .function else sc.kind
/-- whether a store takes the value's place -/
def swW (sc : Scope) (value target : Expr) : Bool := match (match value with
    | .ListComp _ _ s _ => some s
    | .SetComp _ _ s _ => some s
    | .DictComp _ _ _ s _ => some s
    | _ => none) with
  | none => false
  | some scope => match target with
    | .Name t pos => (bkS sc == .function) && sc.names.lookup t == some .local && pos.line == value.pos.line && !(scope.names.any fun (n, k) => n == t && (k == .local || k == .cell))
    | _ => false
theorem swW_is (v t : Expr) (line : Nat) (env : Env) : swapsWith v (some t) line env = pure (swW env.scope v t) := by
  cases v <;> cases t <;> rfl
def swO (sc : Scope) (target value : Expr) : Option (Option (List Str)) := match target, value with
  | .Tuple ts _ _, .Tuple vs _ _ =>
    if !(ts.length == 2 || ts.length == 3) || vs.length != ts.length || (bkS sc != .function) then some none
    else if vs.any (fun | .Starred .. => true | _ => false) then some none
    else
      let line := (ts.head?.map (·.pos.line)).getD 0
      let names := ts.filterMap fun
        | .Name id pos => if sc.names.lookup id == some .local && pos.line == line then some id else none
        | _ => none
      if names.length != ts.length || names.eraseDups.length != names.length then some none
      else if vs.all (foldedForSure 8) then some none
      else if vs.all (constantsAlone 8) then none
      else some (some names)
  | .List _ _, .Tuple _ _ _ => none
  | _, _ => some none
theorem swO_is {t v : Expr} {env : Env} {r : Option (List Str)} (h : swO env.scope t v = some r) : swappedStores [t] v env = pure r := by
  cases t with
  | Tuple ts kt pt =>
    cases v with
    | Tuple vs kv pv =>
      unfold swO at h
      simp only at h
      show (if (!(ts.length == 2 || ts.length == 3) || vs.length != ts.length || env.blockKind != .function) = true then pure none else _) = _
      split at h
      · rename_i hc
        cases h
        exact if_pos hc
      · rename_i hc
        refine (if_neg hc).trans ?_
        split at h
        · rename_i hc
          cases h
          exact if_pos hc
        · rename_i hc
          refine (if_neg hc).trans ?_
          split at h
          · rename_i hc
            cases h
            exact if_pos hc
          · rename_i hc
            refine (if_neg hc).trans ?_
            split at h
            · rename_i hc
              cases h
              exact if_pos hc
            · rename_i hc
              refine (if_neg hc).trans ?_
              split at h
              · cases h
              · rename_i hc
                cases h
                exact if_neg hc
    | _ => cases h; rfl
  | List ts pt =>
    cases v with
    | Tuple vs kv pv => cases h
    | _ => cases h; rfl
  | _ => cases v <;> (cases h; rfl)
def isComp : Expr → Bool
  | .ListComp .. => true
  | .SetComp .. => true
  | .DictComp .. => true
  | _ => false
theorem isComp_no {e : Expr} (h : isComp e = false) (line : Nat) (env : Env) : swapsWith e none line env = pure false := by
  cases e <;> first | rfl | cases h
section
variable (Γ : Inf)
/-- a, b = x, y of plain local names -/
def okPar (es : CEs) (ts : CTs) (sc : Scope) (fc : Str → Bool) (names : List Str) (tg v : Expr) : Bool := match tg, v, ts with
  | .Tuple [.Name x _, .Name y _] _ _, .Tuple [a, b] _ _, .cons (.nm i) (.cons (.nm j) .nil) =>
    decide (names = [x, y]) && decide (sc.names.lookup x = some .local) && decide (sc.names.lookup y = some .local) && decide (Γ.N[i]? = some x) && decide (Γ.N[j]? = some y) && decide (i ≠ j) && okEs Γ es sc fc [a, b]
  | .Tuple [.Name x _, .Name y _, .Name z _] _ _, .Tuple [a, b, c] _ _, .cons (.nm i) (.cons (.nm j) (.cons (.nm l) .nil)) =>
    decide (names = [x, y, z]) && decide (sc.names.lookup x = some .local) && decide (sc.names.lookup y = some .local) && decide (sc.names.lookup z = some .local) && decide (Γ.N[i]? = some x) && decide (Γ.N[j]? = some y) && decide (Γ.N[l]? = some z) &&
      decide (i ≠ j) && decide (i ≠ l) && decide (j ≠ l) && okEs Γ es sc fc [a, b, c]
  | _, _, _ => false
/-- name = [..] -/
def okSetLc (i : Nat) (elt : CE) (t : CT) (it : CI) (cs : CO2) (vs : List Nat) (sc : Scope) (fc : Str → Bool) (tgt v : Expr) : Bool := match tgt, v with
  | .Name y _, .ListComp x [⟨tg, iter, ifs, 0⟩] scope _ => decide (sc.names.lookup y = some .local) && decide (Γ.N[i]? = some y) &&
      notSet iter && okI Γ it sc fc tg iter && blkC Γ.N sc scope (ownOf Γ.N vs) && decide ((ownOf Γ.N vs).map (·.2) = vs) && decide (∀ i ∈ slotsT t, i ∈ vs) && okG Γ t (relS scope sc) (fun x => scope.names.lookup x == some .cell) tg &&
          okC Γ cs (relS scope sc) (fun x => scope.names.lookup x == some .cell) ifs && okE Γ elt (relS scope sc) (fun x => scope.names.lookup x == some .cell) x
  | _, _ => false
mutual
def okS : CS → Scope → (Str → Bool) → Stmt → Bool
  | .asg t e, sc, fc, s => match s with
    | .Assign [tg] v _ => if swW sc v tg = true then (match t, e with
        | .nm i, .lc elt ct it cs vs => okSetLc Γ i elt ct it cs vs sc fc tg v
        | _, _ => false)
      else match swO sc tg v with
        | some none => noStar tg && okE Γ e sc fc v && okG Γ t sc fc tg
        | some (some names) => (match t, e with
          | .tup ts, .tup es => okPar Γ es ts sc fc names tg v
          | _, _ => false)
        | none => false
    | _ => false
  | .expr e, sc, fc, s => match s with
    | .Expr v _ => (!isComp v) && okE Γ e sc fc v
    | _ => false
  | .ite c a b, sc, fc, s => match s with
    | .If x y z _ => okT Γ c sc fc x && okSs a sc fc y && okSs b sc fc z
    | _ => false
  | .whl c b, sc, fc, s => match s with
    | .While x y [] _ => okT Γ c sc fc x && okSs b sc fc y
    | _ => false
  | .for_ t it b, sc, fc, s => match s with
    | .For tg iter y [] _ => notSet iter && okI Γ it sc fc tg iter && okG Γ t sc fc tg && okSs b sc fc y
    | _ => false
  | .ret e, sc, fc, s => match s with
    | .Return (some x) _ => okE Γ e sc fc x
    | _ => false
  | .retN, _, _, s => match s with
    | .Return none _ => true
    | _ => false
  | .brk, _, _, s => match s with
    | .Break _ => true
    | _ => false
  | .cont, _, _, s => match s with
    | .Continue _ => true
    | _ => false
  | .pass, _, _, s => match s with
    | .Pass _ => true
    | _ => false
  | .rse c e, sc, fc, s => match s with
    | .Raise (some (.Call (.Name x _) [y] [] _)) none _ => decide (Γ.exs.lookup x = some c) && glB sc x && noStar y && okE Γ e sc fc y
    | _ => false
  | .tryN b, sc, fc, s => match s with
    | .Try y (_ :: _) [] [] _ => okSs b sc fc y
    | _ => false
  | .tryC b hs, sc, fc, s => match hs with
    | .cons [c] (.cons (.ret ce) .nil) .nil => match s with
      | .Try y [.ExceptHandler (some (.Name x _)) (some n) [.Return (some z) _] _] [] [] _ => decide (Γ.exs.lookup x = some c) && glB sc x && decide (n ∈ Γ.N) && visB sc n && decide (sc.names.lookup n = some .local) && okH n ce z && okSs b sc fc y
      | _ => false
    | _ => false
termination_by structural x => x
def okSs : CSs → Scope → (Str → Bool) → List Stmt → Bool
  | .nil, _, _, l => l.isEmpty
  | .cons s ss, sc, fc, l => match l with
    | x :: xs => okS s sc fc x && okSs ss sc fc xs
    | [] => false
termination_by structural x => x
end
end
theorem InX.nox {T : Wd} {Γ : Inf} {k : Nat} {H0 : Hp} {X : Cx} {sc : Scope} {fc : Str → Bool} {E : KX} (h : InX T Γ k H0 X sc fc E) : InX T Γ k H0 X.nox sc fc (fun _ _ => False) where
  st := ⟨h.st.K, h.st.w, h.st.P, h.st.mg, h.st.base⟩
  calm := h.calm
  nd := h.nd
  N := h.N
  sc := h.sc
  fc := h.fc
  room := h.room
  pas := fun pins σ H s e s' I c => by
    obtain ⟨_, _, _, _, _, _, _, _, _, _, _, _, z⟩ := c
    obtain ⟨_, _, z, _⟩ := z
    exact z.elim
section
variable {T : Wd} {C : Cls} {F : Orc} {ar : Nat → Nat} {Γ : Inf} {k : Nat} (gd : Good T C F ar Γ k) {H0 : Hp}
include gd in
theorem sPar {X : Cx} {sc : Scope} {fc : Str → Bool} {E : KX} {W : Option D} {es : CEs} {ts : CTs} {names : List Str} {tg v : Expr} {pos : Pos} (hX : InX T Γ k H0 X sc fc E) (hw : swO sc tg v = some (some names)) (h : okPar Γ es ts sc fc names tg v = true) :
    PS X (.Assign [tg] v pos) (LS T H0 fun K σ G => wpS C F (.asg (.tup ts) (.tup es)) E W K σ G) := by
  have hw' : swappedStores [tg] v X.env = pure (some names) := swO_is (by rw [hX.sc]; exact hw)
  unfold okPar at h
  split at h
  · rename_i x px y py kt pt a b k2 pt2 i j
    simp only [Bool.and_eq_true, decide_eq_true_eq] at h
    obtain ⟨⟨⟨⟨⟨⟨h1, h2⟩, h3⟩, h4⟩, h5⟩, h6⟩, h7⟩ := h
    subst h1
    refine PS.imp (s_par hX.calm hX.nd (by rw [hX.N]; exact h4) (by rw [hX.N]; exact h5) h6 (by rw [hX.sc]; exact h2) (by rw [hX.sc]; exact h3) (sEs gd (W := W) es hX h7).1 hw') ?_
    rintro D σ H ⟨σd, G, K, x0, sr, g, h, kk⟩
    refine ⟨σd, G, K, x0, sr, g, ?_, kk⟩
    have e : (fun (ds : List AT.D) (G1 : Gp) => ds.length ≤ line ∧ (ds.length = 2 ∧ match ds with
      | [d1, d2] => K.nx ((σd.set i (some d1)).set j (some d2)) G1
      | _ => False)) = fun ds G1 => ds.length ≤ line ∧ wpG C F W (.tup (.cons (.nm i) (.cons (.nm j) .nil))) E (.tup ds) σd G1 K.nx := by
      funext ds G1
      match ds with
      | [] => exact propext ⟨fun h => absurd h.2.1 (by simp), fun h => absurd h.2.1 (by simp [CTs.len])⟩
      | [_] => exact propext ⟨fun h => absurd h.2.1 (by simp), fun h => absurd h.2.1 (by simp [CTs.len])⟩
      | [d1, d2] => rfl
      | _ :: _ :: _ :: _ => exact propext ⟨fun h => absurd h.2.1 (by simp), fun h => absurd h.2.1 (by simp [CTs.len])⟩
    have h' : wpEs C F W es E σd G (fun ds G1 => ds.length ≤ line ∧ wpG C F W (.tup (.cons (.nm i) (.cons (.nm j) .nil))) E (.tup ds) σd G1 K.nx) := h
    rw [← e] at h'
    exact h'
  · rename_i x px y py z pz kt pt a b c k2 pt2 i j l
    simp only [Bool.and_eq_true, decide_eq_true_eq] at h
    obtain ⟨⟨⟨⟨⟨⟨⟨⟨⟨⟨h1, h2⟩, h3⟩, h4⟩, h5⟩, h6⟩, h7⟩, h8⟩, h9⟩, h10⟩, h11⟩ := h
    subst h1
    refine PS.imp (s_par3 hX.calm hX.nd (by rw [hX.N]; exact h5) (by rw [hX.N]; exact h6) (by rw [hX.N]; exact h7) h8 h9 h10 (by rw [hX.sc]; exact h2) (by rw [hX.sc]; exact h3) (by rw [hX.sc]; exact h4) (sEs gd (W := W) es hX h11).1 hw') ?_
    rintro D σ H ⟨σd, G, K, x0, sr, g, h, kk⟩
    refine ⟨σd, G, K, x0, sr, g, ?_, kk⟩
    have e : (fun (ds : List AT.D) (G1 : Gp) => ds.length ≤ line ∧ (ds.length = 3 ∧ match ds with
      | [d1, d2, d3] => K.nx (((σd.set i (some d1)).set j (some d2)).set l (some d3)) G1
      | _ => False)) = fun ds G1 => ds.length ≤ line ∧ wpG C F W (.tup (.cons (.nm i) (.cons (.nm j) (.cons (.nm l) .nil)))) E (.tup ds) σd G1 K.nx := by
      funext ds G1
      match ds with
      | [] => exact propext ⟨fun h => absurd h.2.1 (by simp), fun h => absurd h.2.1 (by simp [CTs.len])⟩
      | [_] => exact propext ⟨fun h => absurd h.2.1 (by simp), fun h => absurd h.2.1 (by simp [CTs.len])⟩
      | [_, _] => exact propext ⟨fun h => absurd h.2.1 (by simp), fun h => absurd h.2.1 (by simp [CTs.len])⟩
      | [d1, d2, d3] => rfl
      | _ :: _ :: _ :: _ :: _ => exact propext ⟨fun h => absurd h.2.1 (by simp), fun h => absurd h.2.1 (by simp [CTs.len])⟩
    have h' : wpEs C F W es E σd G (fun ds G1 => ds.length ≤ line ∧ wpG C F W (.tup (.cons (.nm i) (.cons (.nm j) (.cons (.nm l) .nil)))) E (.tup ds) σd G1 K.nx) := h
    rw [← e] at h'
    exact h'
  · cases h
include gd in
theorem sSetLc {X : Cx} {sc : Scope} {fc : Str → Bool} {E : KX} {W : Option D} {i : Nat} {elt : CE} {t : CT} {it : CI} {cs : CO2} {vs : List Nat} {tg v : Expr} {pos : Pos} (hX : InX T Γ k H0 X sc fc E) (hw : swW sc v tg = true) (h : okSetLc Γ i elt t it cs vs sc fc tg v = true) :
    PS X (.Assign [tg] v pos) (LS T H0 fun K σ G => wpS C F (.asg (.nm i) (.lc elt t it cs vs)) E W K σ G) := by
  unfold okSetLc at h
  split at h
  · rename_i y py x tg iter ifs scope p2
    simp only [Bool.and_eq_true, decide_eq_true_eq] at h
    obtain ⟨⟨⟨⟨⟨⟨⟨⟨⟨a1, a2⟩, h1⟩, h2⟩, h3⟩, h4⟩, h5⟩, h6⟩, h7⟩, h8⟩ := h
    have ok := blkOk_by h3
    rw [← hX.N, ← hX.sc] at ok
    have := s_setLc (T := T) (H0 := H0) (own := ownOf X.N vs) (i := i) (y := y) (py := py) (pos := p2) (spos := pos) hX.calm hX.nd (by rw [hX.N]; exact a2) (by rw [hX.sc]; exact a1) (by rw [swW_is, hX.sc, hw]) (sI gd (W := W) it hX h2) ok (slg := slotsT t) (by
        rw [hX.N, h4]
        exact h5)
      (fun s H Ca cl fp => sG gd (W := W) t (hX.blk _ s H Ca cl fp) h6) (fun s H Ca cl fp => sC gd (W := W) cs (hX.blk _ s H Ca cl fp) h7) (fun s H Ca cl fp => sE gd (W := W) elt (hX.blk _ s H Ca cl fp) h8) (notSet_fold h1 _)
    rw [hX.N, h4] at this
    exact this
  · cases h
variable (xs : Exs T C Γ)
include gd xs
mutual
theorem sS : ∀ (c : CS) {H0 : Hp} {X : Cx} {sc : Scope} {fc : Str → Bool} {E : KX} {W : Option D} {s : Stmt}, InX T Γ k H0 X sc fc E → InS T H0 X E → okS Γ c sc fc s = true → PS X s (LS T H0 fun K σ G => wpS C F c E W K σ G)
  | .asg t e, H0, X, sc, fc, E, W, s, hX, hp, h => by
    unfold okS at h
    split at h
    · split at h
      · rename_i hw
        split at h
        · exact sSetLc gd hX hw h
        · cases h
      · rename_i hw
        split at h
        · rename_i ho
          simp only [Bool.and_eq_true] at h
          have hs := noStar_asg h.1.1 [] X.env
          refine s_asg (sE gd e hX h.1.2) (sG gd t hX h.2) ?_ (swO_is (by rw [hX.sc]; exact ho)) hs
          show swapsWith _ (some _) _ _ = _
          rw [swW_is, hX.sc]
          rw [Bool.not_eq_true] at hw
          rw [hw]
        · rename_i ho
          split at h
          · exact sPar gd hX ho h
          · cases h
        · cases h
    · cases h
  | .expr e, H0, X, sc, fc, E, W, s, hX, hp, h => by
    unfold okS at h
    split at h
    · simp only [Bool.and_eq_true, Bool.not_eq_true'] at h
      exact s_expr (sE gd e hX h.2) (isComp_no h.1 _ _)
    · cases h
  | .ite c a b, H0, X, sc, fc, E, W, s, hX, hp, h => by
    unfold okS at h
    split at h
    · simp only [Bool.and_eq_true] at h
      exact s_ite (sT gd c hX h.1.1) (sSs a hX hp h.1.2) (sSs b hX hp h.2)
    · cases h
  | .whl c b, H0, X, sc, fc, E, W, s, hX, hp, h => by
    unfold okS at h
    split at h
    · simp only [Bool.and_eq_true] at h
      exact s_whl hp.pas (sT gd c hX h.1) (sSs b hX hp h.2)
    · cases h
  | .for_ t it b, H0, X, sc, fc, E, W, s, hX, hp, h => by
    unfold okS at h
    split at h
    · simp only [Bool.and_eq_true] at h
      exact s_for hp.pas hX.calm (sI gd it hX h.1.1.2) (sG gd t hX h.1.2) (sSs b hX hp h.2) (notSet_fold h.1.1.1 _)
    · cases h
  | .ret e, H0, X, sc, fc, E, W, s, hX, hp, h => by
    unfold okS at h
    split at h
    · exact s_ret (sE gd e hX h)
    · cases h
  | .retN, H0, X, sc, fc, E, W, s, hX, hp, h => by
    unfold okS at h
    split at h
    · exact s_retN
    · cases h
  | .brk, H0, X, sc, fc, E, W, s, hX, hp, h => by
    unfold okS at h
    split at h
    · exact s_brk
    · cases h
  | .cont, H0, X, sc, fc, E, W, s, hX, hp, h => by
    unfold okS at h
    split at h
    · exact s_cont
    · cases h
  | .pass, H0, X, sc, fc, E, W, s, hX, hp, h => by
    unfold okS at h
    split at h
    · exact s_pass
    · cases h
  | .rse c e, H0, X, sc, fc, E, W, s, hX, hp, h => by
    unfold okS at h
    split at h
    · simp only [Bool.and_eq_true, decide_eq_true_eq] at h
      exact s_rse xs hX hp h.1.1.1 h.1.1.2 (sE gd e (W := W) hX h.2) h.1.2
    · cases h
  | .tryN b, H0, X, sc, fc, E, W, s, hX, hp, h => by
    unfold okS at h
    split at h
    · exact ps_try_thru0 (sSs b hX.nox hp.nox h)
    · cases h
  | .tryC b hs, H0, X, sc, fc, E, W, s, hX, hp, h => by
    unfold okS at h
    split at h
    · split at h
      · simp only [Bool.and_eq_true, decide_eq_true_eq] at h
        exact s_try xs hX hp h.1.1.1.1.1.1 h.1.1.1.1.1.2 h.1.1.1.1.2 h.1.1.1.2 h.1.1.2 h.1.2 (fun pn xe H1 Eb hX1 hS1 => sSs b hX1 hS1 h.2)
      · cases h
    · cases h
termination_by structural x => x
theorem sSs : ∀ (c : CSs) {H0 : Hp} {X : Cx} {sc : Scope} {fc : Str → Bool} {E : KX} {W : Option D} {l : List Stmt}, InX T Γ k H0 X sc fc E → InS T H0 X E → okSs Γ c sc fc l = true → PSs X l (LS T H0 fun K σ G => wpSs C F c E W K σ G)
  | .nil, H0, X, sc, fc, E, W, l, hX, hp, h => by
    unfold okSs at h
    have : l = [] := by simpa using h
    subst this
    exact s_nil
  | .cons s ss, H0, X, sc, fc, E, W, l, hX, hp, h => by
    unfold okSs at h
    split at h
    · simp only [Bool.and_eq_true] at h
      exact s_cons (ts := fun K σ G => wpS C F s E W K σ G) (us := fun K σ G => wpSs C F ss E W K σ G) (sS s (W := W) hX hp h.1) (sSs ss (W := W) hX hp h.2)
    · cases h
termination_by structural x => x
end
end
end AT
end
section
set_option maxHeartbeats 16000000
/-! AT19: all defs keep the core's word. -/
namespace AT
open PySem PySem.Spec PyProof.Rows L2 SeqAt
/-- a def as it is written, and its core -/
structure DefAt (T : Wd) (Γ : Inf) (f : Nat) (d : Def) (a : Addr) : Prop where
  ex : ∃ x qual st fd N ps, Fun T.K x qual st a fd ∧ FnScope N ps (defScope st) ∧ ps.length = d.ps ∧ N.length = d.ns ∧ okSs { Γ with N := N } d.body (defScope st) (fun _ => true) (defBody st) = true ∧ Binds T.K fd ps [] ∧
    ∀ ks to, (f, ks, to) ∈ Γ.kws → KwOk fd ps ks to
/-- what stands behind the names, apart from what the defs do -/
structure Static (T : Wd) (P : Pr) (Γ : Inf) : Prop where
  cok : ClsOk T
  fld : ∀ f n, Γ.nms[f]? = some n → T.nm f = n ∧ NoA T f
  df : ∀ f a, T.fa f = some a → ∃ d, P.defs f = some d ∧ DefAt T Γ f d a
  fn : ∀ x f, Γ.fns.lookup x = some f → ∃ a, T.mg x = some (.ref a) ∧ T.fa f = some a
  kw : ∀ f ks to, (f, ks, to) ∈ Γ.kws → to.length = ks.length
  cl : ∀ x c, Γ.cls.lookup x = some c → ∃ A f a, T.mg x = some (.ref A) ∧ T.ca c = some A ∧ P.cls.init c = some f ∧ T.fa f = some a ∧ Mk T.K A a
  mt : ∀ ms m, Γ.mth.lookup ms = some m → (∀ g, T.nm g ≠ ms) ∧ ∀ c f, P.cls.meth c m = some f → ∀ A, T.ca c = some A → ∃ a, Meth T.K A ms a ∧ T.fa f = some a
  cs : ∀ x d, Γ.cst.lookup x = some d → ∃ v u, T.mg x = some u ∧ RelV v u ∧ ∀ H, DV T.K T.fa H v d
  ct : ∀ x d, Γ.tcs.lookup x = some d → ∃ a ob, T.mg x = some (.ref a) ∧ T.K.lookup a = some ob ∧ ob.cls = .type "tuple" ∧ ob.dict = none ∧ (∀ H, DV T.K T.fa H (.ref a) d) ∧ D.isT d = true
  bl : ∀ x ∈ bltNames, T.mg x = none
  hq : Γ.hq = true → T.mg "heappush" = some (.builtin "_heapq.heappush") ∧ T.mg "heappop" = some (.builtin "_heapq.heappop")
  xs : Exs T P.cls Γ
def arOf (P : Pr) (f : Nat) : Nat := match P.defs f with
  | some d => d.ps
  | none => 0
section
variable {T : Wd} {P : Pr} {Γ : Inf}
theorem wpF_len {n f : Nat} {ds : List D} {G : Gp} {Q : KE} {E : KX} (h : wpF P n f ds G Q E) : ds.length = arOf P f := by
  cases n with
  | zero => exact h.elim
  | succ n =>
    unfold wpF at h
    unfold arOf
    split at h
    · rename_i d hd
      first
        | (rw [hd]; exact h.1)
        | exact h.1
    · exact h.elim
theorem good_of (S : Static T P Γ) {n k : Nat} (h : ∀ f a, T.fa f = some a → FnAt T (wpF P n f) (arOf P f) k a) (hk : ∀ f a ks to, T.fa f = some a → (f, ks, to) ∈ Γ.kws → KwAt T (wpF P n f) (arOf P f) k a ks to) (N : List Str) : Good T P.cls (wpF P n) (arOf P) { Γ with N := N } k where
  cok := S.cok
  fld := S.fld
  fn := fun x f e => by
    obtain ⟨a, q1, q2⟩ := S.fn x f e
    exact ⟨a, q1, h f a q2⟩
  kw := fun x f ks to e hm => by
    obtain ⟨a, q1, q2⟩ := S.fn x f e
    exact ⟨a, q1, hk f a ks to q2 hm, S.kw f ks to hm⟩
  cl := fun x c e => by
    obtain ⟨A, f, a, q1, q2, q3, q4, q5⟩ := S.cl x c e
    exact ⟨A, a, f, q1, q2, q3, q5, h f a q4⟩
  mt := fun ms m e => by
    obtain ⟨q1, q2⟩ := S.mt ms m e
    refine ⟨q1, fun c f e2 A hA => ?_⟩
    obtain ⟨a, r1, r2⟩ := q2 c f e2 A hA
    exact ⟨a, r1, h f a r2⟩
  cs := S.cs
  ct := S.ct
  va := h
  bl := S.bl
  hq := S.hq
theorem SR.start {H : Hp} {vs : List V} {ds : List D} (N : List Str) {n : Nat} (hn : N.length = n) (h : DVs T.K T.fa H vs ds) : SR T H (L2.start N vs) (AT.start n ds) := by
  unfold L2.start AT.start
  rw [hn, h.length]
  refine ⟨by simp [h.length], fun i d e => ?_⟩
  by_cases hi : i < ds.length
  · rw [List.getElem?_append_left (by simpa using hi)] at e
    rw [List.getElem?_append_left (by rw [List.length_map, h.length]; exact hi)]
    rw [List.getElem?_map] at e ⊢
    cases q : ds[i]? with
    | none => rw [q] at e; cases e
    | some d' =>
      rw [q] at e
      cases e
      obtain ⟨v, v1, v2⟩ := h.get q
      exact ⟨v, by rw [v1]; rfl, v2⟩
  · rw [List.getElem?_append_right (by simpa using hi)] at e
    rw [List.getElem?_replicate] at e
    split at e
    · cases e
    · cases e
theorem fn_ok (S : Static T P Γ) {n k : Nat} (h : ∀ f a, T.fa f = some a → FnAt T (wpF P n f) (arOf P f) k a) (hk : ∀ f a ks to, T.fa f = some a → (f, ks, to) ∈ Γ.kws → KwAt T (wpF P n f) (arOf P f) k a ks to) {f : Nat} {a : Addr} {d : Def} (hd : P.defs f = some d)
    {x qual : Str} {st : Stmt} {fd : FuncData} {N ps : List Str} (F1 : Fun T.K x qual st a fd) (S1 : FnScope N ps (defScope st)) (hps : ps.length = d.ps) (hns : N.length = d.ns) (hok : okSs { Γ with N := N } d.body (defScope st) (fun _ => true) (defBody st) = true) :
    FnOk T.P T.w T.K T.mg T.base (L2.CX T.P T.w) (k + 2) a fd ps (LSp T (wpF P (n + 1) f) (arOf P f)) := by
  have ar : arOf P f = d.ps := by unfold arOf; rw [hd]
  have gd := good_of S h hk N
  refine F1.okX (k := k + 1) S1 (fun vs H Q E q => ?_) (fun cdv A outer s H vs Q E hr q => ?_)
  · obtain ⟨ds, G, Q2, E2, q1, q2, _⟩ := q
    rw [q1.length, q2, ar, hps]
  · obtain ⟨ds, G, Q2, E2, q1, q2, q3, q4, q5, q6⟩ := q
    unfold wpF at q4
    rw [hd] at q4
    simp only at q4
    have tk := takes_of (E := E) (X := cxOf (L2.CX T.P T.w) T.P T.w T.K T.mg T.base N qual (defScope st) a cdv A outer s H E) rfl rfl rfl rfl
    have hE : ∀ cls dd H', LX T H (fun x G' => ∃ G'', Sub G'' G' ∧ E2 x G'') cls dd H' → E cls dd H' := fun cls dd H' z => by
      obtain ⟨xx, G', ⟨G'', sb, e2⟩, z1, z2, z3⟩ := z
      exact q6 xx G'' cls dd H' e2 z1 z2 (z3.sub sb)
    have hX : InX T { Γ with N := N } k H (cxOf (L2.CX T.P T.w) T.P T.w T.K T.mg T.base N qual (defScope st) a cdv A outer s H E) (defScope st) (fun _ => true) (fun x G' => ∃ G'', Sub G'' G' ∧ E2 x G'') :=
      { st := ⟨rfl, rfl, rfl, rfl, rfl⟩
        calm := rfl
        nd := S1.nd
        N := rfl
        sc := rfl
        fc := rfl
        room := hr
        pas := passes_call (E := LX T H fun x G' => ∃ G'', Sub G'' G' ∧ E2 x G'') tk (fun cls dd σ H' z => hE cls dd H' z) }
    have xs : Exs T P.cls { Γ with N := N } := ⟨S.xs.ex, S.xs.xf, S.xs.sub, S.xs.n0⟩
    refine ⟨_, sSs gd xs (W := none) d.body hX ⟨passes_of rfl, rfl, rfl, tk.imp fun cls dd σ H' z => hE cls dd H' z⟩ hok, AT.start d.ns ds, G, _, .refl H, SR.start N hns q1, q3, q4.2, ?_⟩
    refine ⟨fun σd' G' σ' H' z x _ g => ?_, fun v G' u H' z x dv g => ?_, fun _ _ _ _ z _ _ _ => z.elim, fun _ _ _ _ z _ _ _ => z.elim⟩
    · obtain ⟨G'', sb, z⟩ := z
      exact q5 _ _ _ _ z x .non (g.sub sb)
    · obtain ⟨G'', sb, z⟩ := z
      exact q5 _ _ _ _ z x dv (g.sub sb)
theorem fn_up (S : Static T P Γ) {n k : Nat} (h : ∀ f a, T.fa f = some a → FnAt T (wpF P n f) (arOf P f) k a) (hk : ∀ f a ks to, T.fa f = some a → (f, ks, to) ∈ Γ.kws → KwAt T (wpF P n f) (arOf P f) k a ks to) {f : Nat} {a : Addr} (hf : T.fa f = some a) :
    FnAt T (wpF P (n + 1) f) (arOf P f) (k + 2) a ∧ ∀ ks to, (f, ks, to) ∈ Γ.kws → KwAt T (wpF P (n + 1) f) (arOf P f) (k + 2) a ks to := by
  obtain ⟨d, hd, x, qual, st, fd, N, ps, F1, S1, hps, hns, hok, hb, hkw⟩ := S.df f a hf
  have fo := fn_ok S h hk (f := f) hd F1 S1 hps hns hok
  refine ⟨⟨⟨fd, ps, fo, hb⟩, F1.kp, fun ds G Q E z => wpF_len z⟩, fun ks to hm => ⟨⟨fd, ps, fo, hkw ks to hm⟩, F1.kp, fun ds G Q E z => wpF_len z⟩⟩
theorem fn_all (S : Static T P Γ) : ∀ n : Nat, (∀ f a, T.fa f = some a → FnAt T (wpF P n f) (arOf P f) (2 * n) a) ∧ ∀ f a ks to, T.fa f = some a → (f, ks, to) ∈ Γ.kws → KwAt T (wpF P n f) (arOf P f) (2 * n) a ks to
  | 0 => by
    have key : ∀ f a, T.fa f = some a → ∃ fd ps, FnOk T.P T.w T.K T.mg T.base (L2.CX T.P T.w) (2 * 0) a fd ps (LSp T (wpF P 0 f) (arOf P f)) ∧ Binds T.K fd ps [] ∧ PySem.W.keepIn T.K (.ref a) = true ∧ ∀ ks to, (f, ks, to) ∈ Γ.kws → KwOk fd ps ks to := fun f a hf => by
      obtain ⟨d, hd, x, qual, st, fd, N, ps, F1, S1, hps, hns, hok, hb, hkw⟩ := S.df f a hf
      refine ⟨fd, ps, ⟨fun vs H Q E q => ?_, fun A outer s H args us vs Q E hr e0 hbi r q => ?_⟩, hb, F1.kp, hkw⟩
      · obtain ⟨ds, G, Q2, E2, q1, q2, q3, q4, _⟩ := q
        exact q4.elim
      · obtain ⟨ds, G, Q2, E2, q1, q2, q3, q4, _⟩ := q
        exact q4.elim
    refine ⟨fun f a hf => ?_, fun f a ks to hf hm => ?_⟩
    · obtain ⟨fd, ps, k1, k2, k3, k4⟩ := key f a hf
      exact ⟨⟨fd, ps, k1, k2⟩, k3, fun ds G Q E z => z.elim⟩
    · obtain ⟨fd, ps, k1, k2, k3, k4⟩ := key f a hf
      exact ⟨⟨fd, ps, k1, k4 ks to hm⟩, k3, fun ds G Q E z => z.elim⟩
  | n + 1 => by
    obtain ⟨h1, h2⟩ := fn_all S n
    exact ⟨fun f a hf => (fn_up S h1 h2 hf).1, fun f a ks to hf hm => (fn_up S h1 h2 hf).2 ks to hm⟩
end
end AT
end
section
set_option maxHeartbeats 4000000
/-! AT28: from what the text says to Static; the law's end. -/
namespace AT
open PySem PySem.Spec PyProof.Rows L2

def nmOf (l : List Str) (f : Nat) : Str := (l[f]?).getD Str.empty
theorem nmOf_at {l : List Str} {f : Nat} {n : Str} (h : l[f]? = some n) : nmOf l f = n := by unfold nmOf; rw [h]; rfl
theorem nmOf_in {l : List Str} (g : Nat) : nmOf l g ∈ l ∨ nmOf l g = Str.empty := by
  unfold nmOf
  cases h : l[g]? with
  | none => exact .inr rfl
  | some n => exact .inl (List.mem_of_getElem? h)
theorem nmOf_inj {l : List Str} (nd : l.Nodup) (ne : Str.empty ∉ l) {f : Nat} {n : Str} (h : l[f]? = some n) (g : Nat) (e : nmOf l g = nmOf l f) : g = f := by
  rw [nmOf_at h] at e
  unfold nmOf at e
  cases q : l[g]? with
  | none =>
    rw [q] at e
    have hn := List.mem_of_getElem? h
    rw [← e] at hn
    exact absurd hn ne
  | some m =>
    rw [q] at e
    have e' : m = n := e
    subst e'
    exact nodup_ix nd q h

mutual
/-- a written value -/
inductive WV (K : PySem.W.Frag) : Value → D → Prop
  | non : WV K .none .non
  | bl (b : Bool) : WV K (.bool b) (.bl b)
  | int (i : Int) (t : Tok) : WV K (.int i t) (.int i)
  | str (s : Str) (t : Tok) : WV K (.str s t) (.str s)
  | tup {a : Addr} {its : Array Value} {n : Nat} {sl : Array (Option Value)} {ds : List D} : K.lookup a = some ⟨.type "tuple", none, .seq its n, sl⟩ → its.size ≤ sizeLine → WVs K its.toList ds → WV K (.ref a) (.tup ds)
inductive WVs (K : PySem.W.Frag) : List Value → List D → Prop
  | nil : WVs K [] []
  | cons {u : Value} {us : List Value} {d : D} {ds : List D} : WV K u d → WVs K us ds → WVs K (u :: us) (d :: ds)
end
mutual
theorem WV.dv {K : PySem.W.Frag} {fa : Nat → Option Addr} : ∀ {u : Value} {d : D}, WV K u d → ∃ v, RelV v u ∧ ∀ H, DV K fa H v d
  | _, _, .non => ⟨.non, rfl, fun H => .non⟩
  | _, _, .bl b => ⟨.bl b, rfl, fun H => .bl b⟩
  | _, _, .int i t => ⟨.int i, ⟨t, rfl⟩, fun H => .int i⟩
  | _, _, .str s t => ⟨.str s, ⟨t, rfl⟩, fun H => .str s⟩
  | _, _, .tup (a := a) h1 h2 h3 => by
    obtain ⟨vs, r, q⟩ := WVs.dvs (fa := fa) h3
    exact ⟨.ref a, rfl, fun H => .tup (.inr ⟨_, _, _, h1, rfl, rfl, h2, r⟩) (q H)⟩
theorem WVs.dvs {K : PySem.W.Frag} {fa : Nat → Option Addr} : ∀ {us : List Value} {ds : List D}, WVs K us ds → ∃ vs, Vals vs us ∧ ∀ H, DVs K fa H vs ds
  | _, _, .nil => ⟨[], .nil, fun H => .nil⟩
  | _, _, .cons h hs => by
    obtain ⟨v, r, q⟩ := WV.dv (fa := fa) h
    obtain ⟨vs, r2, q2⟩ := WVs.dvs (fa := fa) hs
    exact ⟨v :: vs, .cons r r2, fun H => .cons (q H) (q2 H)⟩
end
/-- a module's constant -/
def CstIn (K : PySem.W.Frag) (x : Str) (d : D) : Prop := ∃ u, PySem.W.nsIn K mainGlobals x = some (some u) ∧ WV K u d
/-- a module's def -/
def FnIn (K : PySem.W.Frag) (x : Str) (st : Stmt) : Prop := ∃ a fd, PySem.W.nsIn K mainGlobals x = some (some (.ref a)) ∧ Fun K x x st a fd
/-- an own exception class; D's __init__ -/
structure XcAt (P : Program) (K : PySem.W.Frag) (C fI : Addr) (fd : FuncData) (st : Stmt) : Prop where
  oex : L2.OexC K C
  fi : PySem.W.findIn K (.ref C) "__init__" = some (some (.ref fI))
  ti : PySem.W.typeIn K (.ref fI) = some (.type "function")
  wh : PySem.W.findIn K (.ref C) "what" = some none
  vE : PySem.W.subIn K (.ref C) (.type "ValueError") = some true
  df : ∃ (nm qual : Str) (kV doc pm ct oc ccl cl : Value) (an od cdd cld : Option Addr) (osl ccs csl : Array (Option Value)) (cda cc D : Addr) (vs : Array Value) (file : Str) (tf : Tok) (cdD : ClassData) (ar : Arg),
    K.lookup fI = some ⟨oc, od, .func fd, osl⟩ ∧ fd = PySem.W.ksFn nm qual (defArgs st) (defBody st) (defScope st) .none kV doc pm an (.ref cda) ct cc ∧ PySem.W.codeIn K (.ref cda) qual = true ∧
    ((defArgs st).posonlyargs ++ (defArgs st).args).head? = some ar ∧ ar.arg = ("self" : Str) ∧
    K.lookup cda = some ⟨ccl, cdd, .fields vs, ccs⟩ ∧ vs[2]? = some (.str file tf) ∧ ((P.main.file : Str) == file) = true ∧
    K.lookup cc = some ⟨cl, cld, .cell (some (.ref D)), csl⟩ ∧ PySem.W.clsIn K D = some cdD ∧ PySem.W.mroIn K C (.ref D) = some true ∧ PySem.W.ks_superIn K C D "__init__" = some (some (.builtin "ValueError.__init__")) ∧
    (∃ (z : Str) (j : Nat) (p0 p1 p2 p3 p4 p5 q0 q1 q2 q3 : Pos), (p2.endLine == p4.line) = true ∧ defBody st = [.Expr (.Call (.Attribute (.Call (.Name "super" p0) [] [] p1) "__init__" p2) [.Constant (.str z) j p3] [] p4) p5, .Assign [.Attribute (.Name "self" q0) "what" q1] (.Name "what" q2) q3]) ∧
    defScope st = ⟨.function, [("self", .local), ("what", .local), ("__class__", .free), ("super", .globalImplicit)], false, false, []⟩ ∧
    (P.main.scope.names.lookup ("super" : Str)).isSome = false
  bi : ∀ (kV doc pm : Value) (an : Option Addr) (cdv ct : Value) (nm qual : Str) (cc : Addr) (us : List Value), us.length = 2 → bindArgs (PySem.W.ksFn nm qual (defArgs st) (defBody st) (defScope st) .none kV doc pm an cdv ct cc) ⟨us, []⟩ = pure ((["self", "what"] : List Str).zip us)
theorem XcAt.xin {P : Program} {K : PySem.W.Frag} {mg : Str → Option Value} {C fI : Addr} {fd : FuncData} {st : Stmt} (h : XcAt P K C fI fd st) (s : mg "super" = none) (o : PySem.W.nsIn K cStatics "thirdparty.any" = some none) : XIn P K mg C fI fd ∧ Binds K fd ["self", "what"] [] := by
  refine ⟨⟨h.oex, h.fi, h.ti, h.wh, s, o, h.vE, ?_⟩, ?_⟩
  · obtain ⟨nm, qual, kV, doc, pm, ct, oc, ccl, cl, an, od, cdd, cld, osl, ccs, csl, cda, cc, D, vs, file, tf, cdD, ar, q⟩ := h.df
    exact ⟨nm, qual, defArgs st, defBody st, defScope st, kV, doc, pm, ct, oc, ccl, cl, an, od, cdd, cld, osl, ccs, csl, cda, cc, D, vs, file, tf, cdD, ar, q⟩
  · obtain ⟨nm, qual, kV, doc, pm, ct, oc, ccl, cl, an, od, cdd, cld, osl, ccs, csl, cda, cc, D, vs, file, tf, cdD, ar, q1, q2, q3⟩ := h.df
    subst q2
    exact .all fun us hl => h.bi _ _ _ _ _ _ _ _ _ us hl
/-- such a class by its name -/
def XcIn (P : Program) (K : PySem.W.Frag) (x : Str) (st : Stmt) : Prop := ∃ C, PySem.W.nsIn K mainGlobals x = some (some (.ref C)) ∧ (∃ fI fd, XcAt P K C fI fd st) ∧ XfC K C

theorem FnOk.imp {P : Program} {w : World} {K : PySem.W.Frag} {mg : Str → Option Value} {base : Heap} {CX : CXT} {k : Nat} {f : Addr} {fd : FuncData} {ps : List Str} {sp sp' : Sp} (h : FnOk P w K mg base CX k f fd ps sp) (i : ∀ vs H Q E, sp' vs H Q E → sp vs H Q E) :
    FnOk P w K mg base CX k f fd ps sp' := ⟨fun vs H Q E q => h.len vs H Q E (i _ _ _ _ q), fun A outer s H args us vs Q E hr e b r q => h.run A outer s H args us vs Q E hr e b r (i _ _ _ _ q)⟩
/-- the law's promise -/
def spLaw (K : PySem.W.Frag) : Sp := fun vs H Q _ => ∃ (a : Addr) (ns : List Int), vs = [.ref a] ∧ ns.length ≤ 63 ∧ Only H ∧ SqL K H a (ns.map V.int) ∧ ∀ H', Q (.bl true) H'
theorem spLaw_of {T : Wd} {w : List D → Gp → KE → KX → Prop} (h : ∀ ns : List Int, ns.length ≤ 63 → w [.rol (ns.map D.int)] (fun _ => none) (fun d _ => d = .bl true) (fun _ _ => False)) (vs : List V) (H : Hp) (Q : VK) (E : XK) (q : spLaw T.K vs H Q E) : LSp T w 1 vs H Q E := by
  obtain ⟨a, ns, rfl, hl, ho, hs, hq⟩ := q
  have ro : RoL T.K H a (ns.map V.int) := by
    rcases hs with (hs | ⟨o, hs⟩) | hs
    · rcases ho a with z | ⟨o, xs, z⟩
      · rw [z] at hs
        cases hs
      · rw [z] at hs
        cases hs
    · exact .inl ⟨o, hs⟩
    · exact .inr hs
  have dvs : DVs T.K T.fa H (ns.map V.int) (ns.map D.int) := by
    clear hs ro hl
    induction ns with
    | nil => exact .nil
    | cons n ns ih => exact .cons (.int n) ih
  refine ⟨_, fun _ => none, fun d _ => d = .bl true, fun _ _ => False, .cons (.rol ro dvs) .nil, rfl, fun a c z => (by cases z), h ns hl, fun d G' v H' e x dv g => ?_, fun x G' cls dd H' z => z.elim⟩
  subst e
  cases dv
  exact hq H'
theorem cx_no {P : Program} {w : World} {H : Hp} {s : Shared} {e : Value} {s' : Shared} (h : L2.CX P w [] H s (fun _ _ _ => False) e s') : False := by
  obtain ⟨_, _, _, _, _, _, _, _, _, _, _, _, z⟩ := h
  exact z
end AT
namespace AT
open PySem PySem.Spec PyProof.Rows L2
/-- whether the one class is caught by the other's name -/
def SubX (K : PySem.W.Frag) (x y : Str) (b : Bool) : Prop := ∃ A B cd, PySem.W.nsIn K mainGlobals x = some (some (.ref A)) ∧ PySem.W.nsIn K mainGlobals y = some (some (.ref B)) ∧ PySem.W.subIn K (.ref B) (.type "BaseException") = some true ∧
  PySem.W.clsIn K B = some cd ∧ PySem.W.typeIn K (.ref B) = some (.type "type") ∧ PySem.W.subIn K (.ref A) (.ref B) = some b
theorem SubX.ok {K : PySem.W.Frag} {x y : Str} {b : Bool} (h : SubX K x y b) {A B : Addr} (hA : PySem.W.nsIn K mainGlobals x = some (some (.ref A))) (hB : PySem.W.nsIn K mainGlobals y = some (some (.ref B))) : PySem.W.exmOne K (.ref A) (.ref B) = some b := by
  obtain ⟨A', B', cd, h1, h2, h3, h4, h5, h6⟩ := h
  rw [h1] at hA
  rw [h2] at hB
  cases hA
  cases hB
  unfold PySem.W.exmOne PySem.W.kitCls
  rw [h3]
  show (if (some true == some true) = true then (if ((PySem.W.clsIn K B).isSome && PySem.W.typeIn K (.ref B) == some (.type "type")) = true then PySem.W.subIn K (.ref A) (.ref B) else none) else none) = some b
  rw [h4, h5, h6]
  rfl
theorem ac {α : Type} {p : α → Prop} {a : α} {l : List α} (h : p a) (hl : ∀ x ∈ l, p x) : ∀ x ∈ a :: l, p x := List.forall_mem_cons.mpr ⟨h, hl⟩
theorem an {α : Type} {p : α → Prop} : ∀ x ∈ ([] : List α), p x := fun x h => by cases h
theorem lk_mem {α β : Type} [BEq α] [LawfulBEq α] {l : List (α × β)} {a : α} {b : β} (h : l.lookup a = some b) : (a, b) ∈ l := by
  induction l with
  | nil => cases h
  | cons p l ih =>
    obtain ⟨c, d⟩ := p
    rw [List.lookup_cons] at h
    split at h
    · rename_i q
      cases h
      rw [eq_of_beq q]
      exact List.mem_cons_self
    · exact List.mem_cons_of_mem _ (ih h)
/-- a constant, at a world -/
theorem CstIn.cs {T : Wd} {h : Heap} (X : T.K.In h) (G : h.Ns mainGlobals T.mg) {x : Str} {d : D} (c : CstIn T.K x d) : ∃ v u, T.mg x = some u ∧ RelV v u ∧ ∀ H, DV T.K T.fa H v d := by
  obtain ⟨u, h1, h2⟩ := c
  obtain ⟨v, r, q⟩ := h2.dv (fa := T.fa)
  exact ⟨v, u, PySem.W.mg_of X G h1, r, q⟩
theorem CstIn.ct {T : Wd} {h : Heap} (X : T.K.In h) (G : h.Ns mainGlobals T.mg) {x : Str} {ds : List D} (c : CstIn T.K x (.tup ds)) :
    ∃ a ob, T.mg x = some (.ref a) ∧ T.K.lookup a = some ob ∧ ob.cls = .type "tuple" ∧ ob.dict = none ∧ (∀ H, DV T.K T.fa H (.ref a) (.tup ds)) ∧ D.isT (.tup ds) = true := by
  obtain ⟨u, h1, h2⟩ := c
  cases h2 with
  | tup a b c =>
    obtain ⟨vs, r, q⟩ := c.dvs (fa := T.fa)
    exact ⟨_, _, PySem.W.mg_of X G h1, a, rfl, rfl, fun H => .tup (.inr ⟨_, _, _, a, rfl, rfl, b, r⟩) (q H), rfl⟩
end AT
namespace AT
open PySem PySem.Spec PyProof.Rows L2
theorem FnIn.of {K : PySem.W.Frag} {x : Str} {st : Stmt} {a : Addr} {oc : Value} {od an : Option Addr} {osl : Array (Option Value)} {kV doc pm cdv ct : Value} (n : PySem.W.nsIn K mainGlobals x = some (some (.ref a)))
    (l : K.lookup a = some ⟨oc, od, .func (PySem.W.fnOf x x (defArgs st) (defBody st) (defScope st) .none kV doc pm an cdv ct), osl⟩) (c : PySem.W.codeIn K cdv x = true) (k : PySem.W.keepIn K (.ref a) = true) : FnIn K x st := ⟨_, _, n, fun_mk l c k⟩
theorem CstIn.of {K : PySem.W.Frag} {x : Str} {d : D} {u : Value} (n : PySem.W.nsIn K mainGlobals x = some (some u)) (w : WV K u d) : CstIn K x d := ⟨u, n, w⟩
theorem CstIn.str {K : PySem.W.Frag} {x s : Str} {t : Tok} (n : PySem.W.nsIn K mainGlobals x = some (some (.str s t))) : CstIn K x (.str s) := ⟨_, n, .str s t⟩
theorem CstIn.int {K : PySem.W.Frag} {x : Str} {i : Int} {t : Tok} (n : PySem.W.nsIn K mainGlobals x = some (some (.int i t))) : CstIn K x (.int i) := ⟨_, n, .int i t⟩
theorem CstIn.tup {K : PySem.W.Frag} {x : Str} {ds : List D} {a : Addr} {its : Array Value} {m : Nat} {sl : Array (Option Value)} (n : PySem.W.nsIn K mainGlobals x = some (some (.ref a))) (l : K.lookup a = some ⟨.type "tuple", none, .seq its m, sl⟩) (z : its.size ≤ sizeLine) (w : WVs K its.toList ds) : CstIn K x (.tup ds) :=
  ⟨_, n, .tup l z w⟩
theorem SubX.of {K : PySem.W.Frag} {x y : Str} {b : Bool} {A B : Addr} {cd : ClassData} (h1 : PySem.W.nsIn K mainGlobals x = some (some (.ref A))) (h2 : PySem.W.nsIn K mainGlobals y = some (some (.ref B))) (h3 : PySem.W.subIn K (.ref B) (.type "BaseException") = some true)
    (h4 : PySem.W.clsIn K B = some cd) (h5 : PySem.W.typeIn K (.ref B) = some (.type "type")) (h6 : PySem.W.subIn K (.ref A) (.ref B) = some b) : SubX K x y b := ⟨A, B, cd, h1, h2, h3, h4, h5, h6⟩
theorem XcIn.of {P : Program} {K : PySem.W.Frag} {x : Str} {st : Stmt} {C fI : Addr} {nm q : Str} {N : Addr} {bs bm : List Value} {sn : List Str} {sub : List Value} {ab : Bool} {col : Option Bool} {dd : Option Addr} {k0 k1 k2 k3 k5 : Option Value}
    {nmf qual : Str} {kV doc pm ct oc ccl cl : Value} {an od cdd cld : Option Addr} {osl ccs csl : Array (Option Value)} {cda cc D : Addr} {vs : Array Value} {file : Str} {tf : Tok} {cdD : ClassData} {ar : Arg} {z : Str} {j : Nat} {p0 p1 p2 p3 p4 p5 q0 q1 q2 q3 : Pos}
    (n : PySem.W.nsIn K mainGlobals x = some (some (.ref C)))
    (o : K.lookup C = some (excClassObj nm q C N bs bm true sn sub ab col dd k0 k1 k2 k3 k5 "ValueError.__new__")) (bmv : PySem.HandSPX.refsVE bm = true)
    (sa : PySem.W.findIn K (.ref C) "__setattr__" = some (some (.builtin "object.__setattr__"))) (exC : PySem.W.subIn K (.ref C) (.type "BaseException") = some true) (tyC : PySem.W.typeIn K (.ref C) = some (.type "type")) (kC : PySem.W.keepIn K (.ref C) = true)
    (fi : PySem.W.findIn K (.ref C) "__init__" = some (some (.ref fI))) (ti : PySem.W.typeIn K (.ref fI) = some (.type "function")) (wh : PySem.W.findIn K (.ref C) "what" = some none) (vE : PySem.W.subIn K (.ref C) (.type "ValueError") = some true)
    (l : K.lookup fI = some ⟨oc, od, .func (PySem.W.ksFn nmf qual (defArgs st) (defBody st) (defScope st) .none kV doc pm an (.ref cda) ct cc), osl⟩) (c : PySem.W.codeIn K (.ref cda) qual = true)
    (har : ((defArgs st).posonlyargs ++ (defArgs st).args).head? = some ar) (hself : ar.arg = ("self" : Str))
    (lc : K.lookup cda = some ⟨ccl, cdd, .fields vs, ccs⟩) (v2 : vs[2]? = some (.str file tf)) (hfile : ((P.main.file : Str) == file) = true)
    (lcc : K.lookup cc = some ⟨cl, cld, .cell (some (.ref D)), csl⟩) (cD : PySem.W.clsIn K D = some cdD) (mC : PySem.W.mroIn K C (.ref D) = some true) (sC : PySem.W.ks_superIn K C D "__init__" = some (some (.builtin "ValueError.__init__")))
    (hb : defBody st = [.Expr (.Call (.Attribute (.Call (.Name "super" p0) [] [] p1) "__init__" p2) [.Constant (.str z) j p3] [] p4) p5, .Assign [.Attribute (.Name "self" q0) "what" q1] (.Name "what" q2) q3]) (hp : (p2.endLine == p4.line) = true)
    (hs : defScope st = ⟨.function, [("self", .local), ("what", .local), ("__class__", .free), ("super", .globalImplicit)], false, false, []⟩) (hm : (P.main.scope.names.lookup ("super" : Str)).isSome = false)
    (bi : ∀ (kV doc pm : Value) (an : Option Addr) (cdv ct : Value) (nm qual : Str) (cc : Addr) (us : List Value), us.length = 2 → bindArgs (PySem.W.ksFn nm qual (defArgs st) (defBody st) (defScope st) .none kV doc pm an cdv ct cc) ⟨us, []⟩ = pure ((["self", "what"] : List Str).zip us))
    (ga : PySem.W.findIn K (.ref C) "__getattribute__" = some (some (.builtin "BaseException.__getattribute__"))) (gg : PySem.W.findIn K (.ref C) "__getattr__" = some none) (hd : PySem.W.hasDictIn K C = true) : XcIn P K x st :=
  ⟨C, n, ⟨fI, _, ⟨⟨nm, q, N, bs, bm, sn, sub, ab, col, dd, k0, k1, k2, k3, k5, o, bmv⟩, sa, exC, tyC, kC⟩, fi, ti, wh, vE, ⟨nmf, qual, kV, doc, pm, ct, oc, ccl, cl, an, od, cdd, cld, osl, ccs, csl, cda, cc, D, vs, file, tf, cdD, ar, l, rfl, c, har, hself, lc, v2, hfile, lcc, cD, mC, sC, ⟨z, j, p0, p1, p2, p3, p4, p5, q0, q1, q2, q3, hp, hb⟩, hs, hm⟩, bi⟩, ⟨ga, gg, exC, hd⟩⟩
end AT
end
/-! The defs of the program and of the laws as core terms (printed by gen2.py). -/
namespace AT
abbrev f_is_number : Nat := 0
abbrev f_is_of : Nat := 1
abbrev f_forms_of : Nat := 2
abbrev f_has_form : Nat := 3
abbrev f_bodies_of : Nat := 4
abbrev f_walked : Nat := 5
abbrev f_want_program : Nat := 6
abbrev f_is_program : Nat := 7
abbrev f_is_choices : Nat := 8
abbrev f_want_choices : Nat := 9
abbrev f_rows_of : Nat := 10
abbrev f_compiled : Nat := 11
abbrev f_first_place : Nat := 12
abbrev f_end_place : Nat := 13
abbrev f_body_at : Nat := 14
abbrev f_statement_at : Nat := 15
abbrev f_behind : Nat := 16
abbrev f_statement_at_leads : Nat := 17
abbrev f_ways_at : Nat := 18
abbrev f_going : Nat := 19
abbrev f_want_let : Nat := 20
abbrev f_gone : Nat := 21
abbrev f_is_row : Nat := 22
abbrev f_want_table : Nat := 23
abbrev f_moved_by : Nat := 24
abbrev f_first_break : Nat := 25
abbrev f_is_table : Nat := 26
abbrev f_breaks_at : Nat := 27
abbrev f_leads_on : Nat := 28
abbrev f_want_code : Nat := 29
abbrev f_watch : Nat := 30
abbrev f_told_event : Nat := 31
abbrev f_told_run : Nat := 32
abbrev f__law_pool : Nat := 33
abbrev f__law_take : Nat := 34
abbrev f__law_one : Nat := 35
abbrev f__law_plain : Nat := 36
abbrev f__law_body : Nat := 37
abbrev f__law_program : Nat := 38
abbrev f__law_leads : Nat := 39
abbrev f__law_places : Nat := 40
abbrev f__law_play : Nat := 41
abbrev f__law_choices : Nat := 42
abbrev f__law_letters : Nat := 43
abbrev f__law_table : Nat := 44
abbrev f__law_first_break : Nat := 45
abbrev f__law_told : Nat := 46
abbrev f__law_rows : Nat := 47
abbrev f__law_words : Nat := 48
abbrev f_law : Nat := 49
abbrev f_Refused___init__ : Nat := 50
abbrev f_Scene___init__ : Nat := 51
abbrev f_Scene_bound : Nat := 52
abbrev f_Scene_is_full : Nat := 53
abbrev f_Scene_happen : Nat := 54
abbrev f_Scene_drop : Nat := 55
abbrev f_Scene_make : Nat := 56
abbrev f_Scene_take : Nat := 57
abbrev f_Scene_move : Nat := 58
abbrev f_Scene_put : Nat := 59
abbrev f_Scene_go_through : Nat := 60
abbrev f_Scene_do : Nat := 61
abbrev f_Going___init__ : Nat := 62
abbrev f_Watch___init__ : Nat := 63
abbrev f_Watch_moved : Nat := 64
abbrev f_Watch_seen : Nat := 65
abbrev f_Machine___init__ : Nat := 66
abbrev f_Machine_is_asking : Nat := 67
abbrev f_Machine_is_over : Nat := 68
abbrev f_Machine_asked : Nat := 69
abbrev f_Machine_done : Nat := 70
abbrev f_Machine_ended : Nat := 71
abbrev f_made_program : Nat := 72
abbrev f_play : Nat := 73
abbrev f_emptied : Nat := 74
abbrev f_made : Nat := 75
abbrev f_taken : Nat := 76
abbrev f_moved : Nat := 77
abbrev f_gone_through : Nat := 78
abbrev f_effects : Nat := 79
abbrev f_ways_of : Nat := 80
abbrev f_first_state : Nat := 81
abbrev f_lot_of : Nat := 82
abbrev f_both : Nat := 83
abbrev f_some : Nat := 84
abbrev f_reading_part : Nat := 85
abbrev f_parts_behind : Nat := 86
abbrev f_made_rule : Nat := 87
abbrev f_rows_met : Nat := 88
abbrev f_lots_alike : Nat := 89
abbrev f_least_of : Nat := 90
abbrev f_finished : Nat := 91
abbrev f_least_table : Nat := 92
abbrev f_table : Nat := 93
abbrev f_led_by : Nat := 94
abbrev f_costs_of : Nat := 95
abbrev f_least_way : Nat := 96
abbrev f_least_steps : Nat := 97
abbrev f_keeps : Nat := 98
abbrev f_run : Nat := 99
abbrev f_told_text : Nat := 100
abbrev f_statement_in : Nat := 101
abbrev f_read_row : Nat := 102
abbrev f_read : Nat := 103
abbrev f_read_rule : Nat := 104
abbrev f_told_part : Nat := 105
abbrev f_told_rule : Nat := 106
abbrev f__law_rule : Nat := 107
abbrev f__law_ends : Nat := 108
abbrev f__law_broken : Nat := 109
abbrev f__law_rule_text : Nat := 110
abbrev f__law_play_right : Nat := 111
abbrev f_Leaf___init__ : Nat := 112
abbrev f_Leaf_begun : Nat := 113
abbrev f_Leaf_behind : Nat := 114
abbrev f_Leaf_is_in : Nat := 115
abbrev f_Without___init__ : Nat := 116
abbrev f_Without_begun : Nat := 117
abbrev f_Without_behind : Nat := 118
abbrev f_Without_is_in : Nat := 119
abbrev f_Beside___init__ : Nat := 120
abbrev f_Beside_begun : Nat := 121
abbrev f_Beside_behind : Nat := 122
abbrev f_Beside_is_in : Nat := 123
abbrev f_Then___init__ : Nat := 124
abbrev f_Then_with_begun : Nat := 125
abbrev f_Then_begun : Nat := 126
abbrev f_Then_behind : Nat := 127
abbrev f_Then_is_in : Nat := 128
abbrev f_Star___init__ : Nat := 129
abbrev f_Star_begun : Nat := 130
abbrev f_Star_behind : Nat := 131
abbrev f_Star_is_in : Nat := 132
abbrev f_Told___init__ : Nat := 133
abbrev f_Told_begun : Nat := 134
abbrev f_Told_behind : Nat := 135
abbrev f_Told_is_in : Nat := 136
abbrev f_Breaking___init__ : Nat := 137
abbrev f_Breaking_begun : Nat := 138
abbrev f_Breaking_behind : Nat := 139
abbrev f_Breaking_is_in : Nat := 140
abbrev f_OpenBody___init__ : Nat := 141
abbrev f_OpenBody_close : Nat := 142
abbrev f_OpenBody_is_last : Nat := 143
abbrev f_RuleText___init__ : Nat := 144
abbrev f_RuleText_word : Nat := 145
abbrev f_RuleText_part : Nat := 146
abbrev f_choice_to : Nat := 147
abbrev f_done_on : Nat := 148
abbrev f_followed : Nat := 149
abbrev f_breaking : Nat := 150
abbrev f__law_plays : Nat := 151
abbrev f__law_ways : Nat := 152
abbrev f__law_search : Nat := 153
abbrev f__law_many : Nat := 154
abbrev f_breaking_of : Nat := 155
abbrev f_least : Nat := 156
abbrev f__law_soonest : Nat := 157
abbrev f__law_first : Nat := 158
abbrev f__law_held : Nat := 159
abbrev f__law_is_broken : Nat := 160
abbrev f__law_right : Nat := 161
abbrev f__law_piled : Nat := 162
abbrev f_first_alone : Nat := 163
abbrev f_joined : Nat := 164
abbrev f__law_use : Nat := 165
abbrev f__law_is_long : Nat := 166
abbrev f_places : Nat := 167
abbrev f_state_key : Nat := 168
abbrev f_reached : Nat := 169
abbrev f_reach : Nat := 170
abbrev f_program_table : Nat := 171
abbrev f__law_map : Nat := 172
abbrev f__law_gone : Nat := 173
abbrev f__law_hollow : Nat := 174
abbrev f__law_bare_right : Nat := 175
abbrev f_Walks___init__ : Nat := 176
abbrev f_Walks_ways : Nat := 177
abbrev f_Walks_closed : Nat := 178
abbrev f_Walks_number_of : Nat := 179
abbrev f_Walks_begun : Nat := 180
abbrev f_Walks_behind : Nat := 181
abbrev f_Walks_is_in : Nat := 182
abbrev f_is_spot : Nat := 183
abbrev f_fault_of : Nat := 184
abbrev f_led_on : Nat := 185
abbrev f_entry_key : Nat := 186
abbrev f_next_entries : Nat := 187
abbrev f_yes_paper : Nat := 188
abbrev f_is_entry : Nat := 189
abbrev f_is_form : Nat := 190
abbrev f_yes_right : Nat := 191
abbrev f__law_bodies : Nat := 192
abbrev f__law_with_body : Nat := 193
abbrev f__law_key : Nat := 194
abbrev f__law_is_row : Nat := 195
abbrev f__law_is_right : Nat := 196
abbrev f__law_bent : Nat := 197
abbrev f__law_edited : Nat := 198
abbrev f__law_due : Nat := 199
abbrev f__law_alone : Nat := 200
/-- is_number(0 thing) -/
def d_is_number : Def := ⟨1, 1, (.cons (.ret (.and (.isi (.var 0) .int) (.not (.isi (.var 0) .bool))))
  .nil)⟩
/-- is_of(0 thing, 1 some) -/
def d_is_of : Def := ⟨2, 2, (.cons (.ret (.and (.isi (.var 0) .str) (.cmp .inn (.var 0) (.var 1))))
  .nil)⟩
/-- forms_of(0 word) -/
def d_forms_of : Def := ⟨1, 1, (.cons (.ite (.cmp .inn (.var 0) (.tup (.cons (.cst (.str "new")) (.cons (.cst (.str "end")) .nil))))
    (.cons (.ret (.tup (.cons (.cst (.tup [(.str "a"), (.str "b"), (.str "c"), (.str "d")])) .nil)))
  .nil)
    .nil)
  (.cons (.ite (.cmp .eq (.var 0) (.cst (.str "put")))
    (.cons (.ret (.tup (.cons (.cst (.tup [(.str "a"), (.str "b"), (.str "c"), (.str "d")])) (.cons (.cst (.tup [(.str "p"), (.str "q")])) .nil))))
  .nil)
    .nil)
  (.cons (.ite (.cmp .eq (.var 0) (.cst (.str "take")))
    (.cons (.ret (.tup (.cons (.cst (.tup [(.str "p"), (.str "q")])) (.cons (.cst (.tup [(.str "a"), (.str "b"), (.str "c"), (.str "d")])) .nil))))
  .nil)
    .nil)
  (.cons (.ite (.cmp .eq (.var 0) (.cst (.str "move")))
    (.cons (.ret (.tup (.cons (.cst (.tup [(.str "a"), (.str "b"), (.str "c"), (.str "d")])) (.cons (.cst (.tup [(.str "a"), (.str "b"), (.str "c"), (.str "d")])) .nil))))
  .nil)
    .nil)
  (.cons (.ret (.ite (.cmp .eq (.var 0) (.cst (.str "do"))) (.tup (.cons (.cst (.tup [(.str "u"), (.str "v"), (.str "w")])) (.cons (.cst (.tup [(.str "a"), (.str "b"), (.str "c"), (.str "d")])) .nil))) (.cst .non)))
  .nil)))))⟩
/-- has_form(0 thing, 1 body, 2 forms, 3 at, 4 form) -/
def d_has_form : Def := ⟨1, 5, (.cons (.ite (.or (.not (.val (.isi (.var 0) .tuple))) (.or (.cmp .eq (.var 0) (.tup .nil)) (.not (.val (.isi (.idx (.var 0) (.cst (.int 0))) .str)))))
    (.cons (.ret (.cst (.bl false)))
  .nil)
    .nil)
  (.cons (.ite (.cmp .inn (.idx (.var 0) (.cst (.int 0))) (.tup (.cons (.cst (.str "loop")) (.cons (.cst (.str "either")) .nil))))
    (.cons (.ret (.and (.cmp .eq (.prim .len (.cons (.var 0) .nil)) (.ite (.cmp .eq (.idx (.var 0) (.cst (.int 0))) (.cst (.str "loop"))) (.cst (.int 2)) (.cst (.int 3)))) (.tmp .allOf (.lc (.isi (.var 1) .tuple) (.nm 1) (.seq (.sli (.var 0) (.so (.cst (.int 1))) .no)) .no [1]))))
  .nil)
    .nil)
  (.cons (.asg (.nm 2) (.call f_forms_of (.cons (.idx (.var 0) (.cst (.int 0))) .nil)))
  (.cons (.ite (.or (.cmp .isn (.var 2) (.cst .non)) (.cmp .ne (.prim .len (.cons (.var 0) .nil)) (.bin .add (.cst (.int 1)) (.prim .len (.cons (.var 2) .nil)))))
    (.cons (.ret (.cst (.bl false)))
  .nil)
    .nil)
  (.cons (.ret (.tmp .allOf (.lc (.call f_is_of (.cons (.idx (.var 0) (.bin .add (.var 3) (.cst (.int 1)))) (.cons (.var 4) .nil))) (.tup (.cons (.nm 3) (.cons (.nm 4) .nil))) (.enu (.var 2)) .no [3, 4])))
  .nil)))))⟩
/-- bodies_of(0 statement, 1 place, 2 way) -/
def d_bodies_of : Def := ⟨2, 3, (.cons (.ite (.cmp .eq (.idx (.var 0) (.cst (.int 0))) (.cst (.str "loop")))
    (.cons (.ret (.lst (.cons (.tup (.cons (.var 1) (.cons (.idx (.var 0) (.cst (.int 1))) .nil))) .nil)))
  .nil)
    .nil)
  (.cons (.ret (.ite (.cmp .eq (.idx (.var 0) (.cst (.int 0))) (.cst (.str "either"))) (.lc (.tup (.cons (.bin .add (.var 1) (.tup (.cons (.var 2) .nil))) (.cons (.idx (.var 0) (.bin .add (.var 2) (.cst (.int 1)))) .nil))) (.nm 2) (.seq (.tup (.cons (.cst (.int 0)) (.cons (.cst (.int 1)) .nil)))) .no [2]) (.lst .nil)))
  .nil))⟩
/-- walked(0 body, 1 ahead, 2 deep, 3 found, 4 index, 5 statement, 6 place, 7 leads, 8 inner) -/
def d_walked : Def := ⟨4, 9, (.cons (.ite (.cmp .gt (.var 2) (.cst (.int 6)))
    (.cons (.rse 5 (.bin .add (.cst (.int 6)) (.cst (.int 1))))
  .nil)
    .nil)
  (.cons (.for_ (.tup (.cons (.nm 4) (.cons (.nm 5) .nil))) (.enu (.var 0))
    (.cons (.asg (.nm 6) (.bin .add (.var 1) (.tup (.cons (.var 4) .nil))))
  (.cons (.ite (.cmp .eq (.prim .len (.cons (.var 3) .nil)) (.cst (.int 40)))
    (.cons (.rse 5 (.bin .add (.cst (.int 40)) (.cst (.int 1))))
  .nil)
    .nil)
  (.cons (.expr (.bm .append .lst (.var 3) (.cons (.var 6) .nil)))
  (.cons (.ite (.not (.val (.call f_has_form (.cons (.var 5) .nil))))
    (.cons (.rse 1 (.var 6))
  .nil)
    .nil)
  (.cons (.for_ (.tup (.cons (.nm 7) (.cons (.nm 8) .nil))) (.seq (.call f_bodies_of (.cons (.var 5) (.cons (.var 6) .nil))))
    (.cons (.expr (.call f_walked (.cons (.var 8) (.cons (.var 7) (.cons (.bin .add (.var 2) (.cst (.int 1))) (.cons (.var 3) .nil))))))
  .nil))
  .nil))))))
  .nil))⟩
/-- want_program(0 thing, 1 found) -/
def d_want_program : Def := ⟨1, 2, (.cons (.ite (.not (.val (.isi (.var 0) .tuple)))
    (.cons (.rse 1 (.tup .nil))
  .nil)
    .nil)
  (.cons (.asg (.nm 1) (.lst .nil))
  (.cons (.expr (.call f_walked (.cons (.var 0) (.cons (.tup .nil) (.cons (.cst (.int 1)) (.cons (.var 1) .nil))))))
  (.cons (.ret (.var 1))
  .nil))))⟩
/-- made_program(0 thing) -/
def d_made_program : Def := ⟨1, 1, (.cons (.expr (.call f_want_program (.cons (.var 0) .nil)))
  (.cons (.ret (.var 0))
  .nil))⟩
/-- first_place(0 program) -/
def d_first_place : Def := ⟨1, 1, (.cons (.ret (.tup (.cons (.cst (.int 0)) .nil)))
  .nil)⟩
/-- end_place(0 program) -/
def d_end_place : Def := ⟨1, 1, (.cons (.ret (.tup (.cons (.prim .len (.cons (.var 0) .nil)) .nil)))
  .nil)⟩
/-- body_at(0 program, 1 leads, 2 body, 3 at, 4 statement) -/
def d_body_at : Def := ⟨2, 5, (.cons (.asg (.tup (.cons (.nm 2) (.cons (.nm 3) .nil))) (.tup (.cons (.var 0) (.cons (.cst (.int 0)) .nil))))
  (.cons (.whl (.cmp .lt (.var 3) (.prim .len (.cons (.var 1) .nil)))
    (.cons (.asg (.nm 4) (.idx (.var 2) (.idx (.var 1) (.var 3))))
  (.cons (.ite (.cmp .eq (.idx (.var 4) (.cst (.int 0))) (.cst (.str "loop")))
    (.cons (.asg (.tup (.cons (.nm 2) (.cons (.nm 3) .nil))) (.tup (.cons (.idx (.var 4) (.cst (.int 1))) (.cons (.bin .add (.var 3) (.cst (.int 1))) .nil))))
  .nil)
    (.cons (.asg (.tup (.cons (.nm 2) (.cons (.nm 3) .nil))) (.tup (.cons (.idx (.var 4) (.bin .add (.cst (.int 1)) (.idx (.var 1) (.bin .add (.var 3) (.cst (.int 1)))))) (.cons (.bin .add (.var 3) (.cst (.int 2))) .nil))))
  .nil))
  .nil)))
  (.cons (.ret (.var 2))
  .nil)))⟩
/-- statement_at(0 program, 1 place) -/
def d_statement_at : Def := ⟨2, 2, (.cons (.ret (.idx (.call f_body_at (.cons (.var 0) (.cons (.sli (.var 1) .no (.so (.neg (.cst (.int 1))))) .nil))) (.idx (.var 1) (.neg (.cst (.int 1))))))
  .nil)⟩
/-- behind(0 program, 1 place, 2 leads) -/
def d_behind : Def := ⟨2, 3, (.cons (.asg (.nm 2) (.sli (.var 1) .no (.so (.neg (.cst (.int 1))))))
  (.cons (.whl (.and (.cmp .eq (.bin .add (.idx (.var 1) (.neg (.cst (.int 1)))) (.cst (.int 1))) (.prim .len (.cons (.call f_body_at (.cons (.var 0) (.cons (.var 2) .nil))) .nil))) (.cmp .ne (.var 2) (.tup .nil)))
    (.cons (.ite (.cmp .eq (.idx (.call f_statement_at_leads (.cons (.var 0) (.cons (.var 2) .nil))) (.cst (.int 0))) (.cst (.str "loop")))
    (.cons (.ret (.var 2))
  .nil)
    .nil)
  (.cons (.asg (.tup (.cons (.nm 1) (.cons (.nm 2) .nil))) (.tup (.cons (.sli (.var 2) .no (.so (.neg (.cst (.int 1))))) (.cons (.sli (.var 2) .no (.so (.neg (.cst (.int 2))))) .nil))))
  .nil)))
  (.cons (.ret (.bin .add (.var 2) (.tup (.cons (.bin .add (.idx (.var 1) (.neg (.cst (.int 1)))) (.cst (.int 1))) .nil))))
  .nil)))⟩
/-- statement_at_leads(0 program, 1 leads, 2 body, 3 at, 4 statement, 5 more) -/
def d_statement_at_leads : Def := ⟨2, 6, (.cons (.asg (.tup (.cons (.nm 2) (.cons (.nm 3) .nil))) (.tup (.cons (.var 0) (.cons (.cst (.int 0)) .nil))))
  (.cons (.whl (.val (.cst (.bl true)))
    (.cons (.asg (.nm 4) (.idx (.var 2) (.idx (.var 1) (.var 3))))
  (.cons (.asg (.nm 5) (.ite (.cmp .eq (.idx (.var 4) (.cst (.int 0))) (.cst (.str "loop"))) (.cst (.int 1)) (.cst (.int 2))))
  (.cons (.ite (.cmp .eq (.bin .add (.var 3) (.var 5)) (.prim .len (.cons (.var 1) .nil)))
    (.cons (.ret (.var 4))
  .nil)
    .nil)
  (.cons (.asg (.tup (.cons (.nm 2) (.cons (.nm 3) .nil))) (.tup (.cons (.ite (.cmp .eq (.var 5) (.cst (.int 1))) (.idx (.var 4) (.cst (.int 1))) (.idx (.var 4) (.bin .add (.cst (.int 1)) (.idx (.var 1) (.bin .add (.var 3) (.cst (.int 1))))))) (.cons (.bin .add (.var 3) (.var 5)) .nil))))
  .nil)))))
  .nil))⟩
/-- ways_at(0 program, 1 place, 2 statement, 3 way) -/
def d_ways_at : Def := ⟨2, 4, (.cons (.asg (.nm 2) (.call f_statement_at (.cons (.var 0) (.cons (.var 1) .nil))))
  (.cons (.ite (.cmp .eq (.idx (.var 2) (.cst (.int 0))) (.cst (.str "loop")))
    (.cons (.ret (.tup (.cons (.call f_behind (.cons (.var 0) (.cons (.var 1) .nil))) (.cons (.ite (.cmp .ne (.idx (.var 2) (.cst (.int 1))) (.tup .nil)) (.bin .add (.var 1) (.tup (.cons (.cst (.int 0)) .nil))) (.var 1)) .nil))))
  .nil)
    .nil)
  (.cons (.ret (.tmp .tupleOf (.lc (.ite (.cmp .ne (.idx (.var 2) (.bin .add (.cst (.int 1)) (.var 3))) (.tup .nil)) (.bin .add (.var 1) (.tup (.cons (.var 3) (.cons (.cst (.int 0)) .nil)))) (.call f_behind (.cons (.var 0) (.cons (.var 1) .nil)))) (.nm 3) (.seq (.tup (.cons (.cst (.int 0)) (.cons (.cst (.int 1)) .nil)))) .no [3])))
  .nil)))⟩
/-- emptied(0 x, 1 a, 2 b) -/
def d_emptied : Def := ⟨3, 3, (.cons (.ite (.cmp .eq (.var 1) (.var 0))
    (.cons (.ret (.tup (.cons (.tup (.cons (.bin .add (.cst (.str "e.")) (.cst (.str "end"))) .nil)) (.cons (.cst (.str "x")) (.cons (.var 2) .nil)))))
  .nil)
    .nil)
  (.cons (.ret (.ite (.cmp .eq (.var 2) (.var 0)) (.tup (.cons (.tup (.cons (.bin .add (.cst (.str "y.")) (.cst (.str "end"))) .nil)) (.cons (.var 1) (.cons (.cst (.str "x")) .nil)))) (.tup (.cons (.tup .nil) (.cons (.var 1) (.cons (.var 2) .nil))))))
  .nil))⟩
/-- made(0 x, 1 a, 2 b, 3 letters, 4 found) -/
def d_made : Def := ⟨3, 5, (.cons (.asg (.tup (.cons (.nm 3) (.cons (.nm 1) (.cons (.nm 2) .nil)))) (.call f_emptied (.cons (.var 0) (.cons (.var 1) (.cons (.var 2) .nil)))))
  (.cons (.asg (.nm 4) (.lst (.cons (.tup (.cons (.var 3) (.cons (.var 1) (.cons (.var 2) .nil)))) .nil)))
  (.cons (.ite (.cmp .isn (.var 1) (.cst .non))
    (.cons (.expr (.bm .append .lst (.var 4) (.cons (.tup (.cons (.var 3) (.cons (.var 0) (.cons (.var 2) .nil)))) .nil)))
  .nil)
    (.cons (.ite (.cmp .isn (.var 2) (.cst .non))
    (.cons (.expr (.bm .append .lst (.var 4) (.cons (.tup (.cons (.bin .add (.var 3) (.tup (.cons (.cst (.str "y.new")) .nil))) (.cons (.var 1) (.cons (.var 0) .nil)))) .nil)))
  .nil)
    .nil)
  .nil))
  (.cons (.ret (.var 4))
  .nil))))⟩
/-- taken(0 p, 1 x, 2 a, 3 b, 4 letters, 5 found) -/
def d_taken : Def := ⟨4, 6, (.cons (.asg (.tup (.cons (.nm 4) (.cons (.nm 2) (.cons (.nm 3) .nil)))) (.call f_emptied (.cons (.var 1) (.cons (.var 2) (.cons (.var 3) .nil)))))
  (.cons (.asg (.nm 5) (.lst (.cons (.tup (.cons (.var 4) (.cons (.var 2) (.cons (.var 3) .nil)))) .nil)))
  (.cons (.ite (.cmp .eq (.var 2) (.var 0))
    (.cons (.expr (.bm .append .lst (.var 5) (.cons (.tup (.cons (.bin .add (.var 4) (.tup (.cons (.bin .add (.bin .add (.cst (.str "e.")) (.cst (.str "take"))) (.var 0)) .nil))) (.cons (.var 1) (.cons (.var 3) .nil)))) .nil)))
  .nil)
    .nil)
  (.cons (.ite (.cmp .eq (.var 3) (.var 0))
    (.cons (.expr (.bm .append .lst (.var 5) (.cons (.tup (.cons (.bin .add (.var 4) (.tup (.cons (.bin .add (.bin .add (.cst (.str "y.")) (.cst (.str "take"))) (.var 0)) .nil))) (.cons (.var 2) (.cons (.var 1) .nil)))) .nil)))
  .nil)
    .nil)
  (.cons (.ret (.var 5))
  .nil)))))⟩
/-- moved(0 y, 1 x, 2 a, 3 b, 4 letters) -/
def d_moved : Def := ⟨4, 5, (.cons (.ite (.cmp .eq (.var 1) (.var 0))
    (.cons (.ret (.lst (.cons (.tup (.cons (.tup .nil) (.cons (.var 2) (.cons (.var 3) .nil)))) .nil)))
  .nil)
    .nil)
  (.cons (.asg (.tup (.cons (.nm 4) (.cons (.nm 2) (.cons (.nm 3) .nil)))) (.call f_emptied (.cons (.var 1) (.cons (.var 2) (.cons (.var 3) .nil)))))
  (.cons (.ret (.lst (.cons (.tup (.cons (.var 4) (.cons (.ite (.cmp .eq (.var 2) (.var 0)) (.var 1) (.var 2)) (.cons (.ite (.cmp .eq (.var 3) (.var 0)) (.var 1) (.var 3)) .nil)))) .nil)))
  .nil)))⟩
/-- gone_through(0 deed, 1 x, 2 spot, 3 a, 4 b) -/
def d_gone_through : Def := ⟨5, 5, (.cons (.ite (.cmp .eq (.var 3) (.var 1))
    (.cons (.ret (.lst (.cons (.tup (.cons (.tup (.cons (.bin .add (.cst (.str "e.")) (.var 0)) .nil)) (.cons (.var 2) (.cons (.var 4) .nil)))) .nil)))
  .nil)
    .nil)
  (.cons (.ret (.ite (.cmp .eq (.var 4) (.var 1)) (.lst (.cons (.tup (.cons (.tup (.cons (.bin .add (.cst (.str "y.")) (.var 0)) .nil)) (.cons (.var 3) (.cons (.var 2) .nil)))) .nil)) (.lst (.cons (.tup (.cons (.tup .nil) (.cons (.var 3) (.cons (.var 4) .nil)))) .nil))))
  .nil))⟩
/-- effects(0 statement, 1 a, 2 b, 3 word) -/
def d_effects : Def := ⟨3, 4, (.cons (.asg (.nm 3) (.idx (.var 0) (.cst (.int 0))))
  (.cons (.ite (.cmp .eq (.var 3) (.cst (.str "new")))
    (.cons (.ret (.call f_made (.cons (.idx (.var 0) (.cst (.int 1))) (.cons (.var 1) (.cons (.var 2) .nil)))))
  .nil)
    .nil)
  (.cons (.ite (.cmp .eq (.var 3) (.cst (.str "take")))
    (.cons (.ret (.call f_taken (.cons (.idx (.var 0) (.cst (.int 1))) (.cons (.idx (.var 0) (.cst (.int 2))) (.cons (.var 1) (.cons (.var 2) .nil))))))
  .nil)
    .nil)
  (.cons (.ite (.cmp .eq (.var 3) (.cst (.str "move")))
    (.cons (.ret (.call f_moved (.cons (.idx (.var 0) (.cst (.int 1))) (.cons (.idx (.var 0) (.cst (.int 2))) (.cons (.var 1) (.cons (.var 2) .nil))))))
  .nil)
    .nil)
  (.cons (.ite (.cmp .eq (.var 3) (.cst (.str "put")))
    (.cons (.ret (.call f_gone_through (.cons (.bin .add (.cst (.str "put")) (.idx (.var 0) (.cst (.int 2)))) (.cons (.idx (.var 0) (.cst (.int 1))) (.cons (.idx (.var 0) (.cst (.int 2))) (.cons (.var 1) (.cons (.var 2) .nil)))))))
  .nil)
    .nil)
  (.cons (.ite (.cmp .eq (.var 3) (.cst (.str "end")))
    (.cons (.ret (.call f_gone_through (.cons (.cst (.str "end")) (.cons (.idx (.var 0) (.cst (.int 1))) (.cons (.cst (.str "x")) (.cons (.var 1) (.cons (.var 2) .nil)))))))
  .nil)
    .nil)
  (.cons (.ret (.call f_gone_through (.cons (.idx (.var 0) (.cst (.int 1))) (.cons (.idx (.var 0) (.cst (.int 2))) (.cons (.idx (.var 0) (.cst (.int 2))) (.cons (.var 1) (.cons (.var 2) .nil)))))))
  .nil)))))))⟩
/-- ways_of(0 program, 1 state, 2 place, 3 a, 4 b, 5 statement, 6 then, 7 letters, 8 elder, 9 younger) -/
def d_ways_of : Def := ⟨2, 10, (.cons (.asg (.tup (.cons (.nm 2) (.cons (.nm 3) (.cons (.nm 4) .nil)))) (.var 1))
  (.cons (.ite (.cmp .eq (.var 2) (.call f_end_place (.cons (.var 0) .nil)))
    (.cons (.ret (.lst .nil))
  .nil)
    .nil)
  (.cons (.asg (.nm 5) (.call f_statement_at (.cons (.var 0) (.cons (.var 2) .nil))))
  (.cons (.ite (.cmp .inn (.idx (.var 5) (.cst (.int 0))) (.tup (.cons (.cst (.str "loop")) (.cons (.cst (.str "either")) .nil))))
    (.cons (.ret (.lc (.tup (.cons (.tup .nil) (.cons (.tup (.cons (.var 6) (.cons (.var 3) (.cons (.var 4) .nil)))) .nil))) (.nm 6) (.seq (.call f_ways_at (.cons (.var 0) (.cons (.var 2) .nil)))) .no [6]))
  .nil)
    .nil)
  (.cons (.asg (.nm 6) (.call f_behind (.cons (.var 0) (.cons (.var 2) .nil))))
  (.cons (.ret (.lc (.tup (.cons (.var 7) (.cons (.tup (.cons (.var 6) (.cons (.var 8) (.cons (.var 9) .nil)))) .nil))) (.tup (.cons (.nm 7) (.cons (.nm 8) (.cons (.nm 9) .nil)))) (.seq (.call f_effects (.cons (.var 5) (.cons (.var 3) (.cons (.var 4) .nil))))) .no [7, 8, 9]))
  .nil))))))⟩
/-- first_state(0 program) -/
def d_first_state : Def := ⟨1, 1, (.cons (.ret (.tup (.cons (.call f_first_place (.cons (.var 0) .nil)) (.cons (.cst .non) (.cons (.cst .non) .nil)))))
  .nil)⟩
/-- is_row(0 row, 1 many, 2 state) -/
def d_is_row_1 : Def := ⟨2, 3, (.cons (.ite (.or (.not (.val (.isi (.var 0) .tuple))) (.cmp .ne (.prim .len (.cons (.var 0) .nil)) (.prim .len (.cons (.cst (.tup [(.str "e.putp"), (.str "e.putq"), (.str "e.takep"), (.str "e.takeq"), (.str "e.end"), (.str "e.u"), (.str "e.v"), (.str "e.w"), (.str "y.putp"), (.str "y.putq"), (.str "y.takep"), (.str "y.takeq"), (.str "y.end"), (.str "y.u"), (.str "y.v"), (.str "y.w"), (.str "y.new")])) .nil))))
    (.cons (.ret (.cst (.bl false)))
  .nil)
    .nil)
  (.cons (.ret (.tmp .allOf (.lc (.and (.call f_is_number (.cons (.var 2) .nil)) (.chn .le .lt (.cst (.int 0)) (.var 2) (.var 1))) (.nm 2) (.seq (.var 0)) .no [2])))
  .nil))⟩
/-- want_table(0 table_, 1 part, 2 moves, 3 bad, 4 state, 5 row) -/
def d_want_table : Def := ⟨1, 6, (.cons (.ite (.or (.not (.val (.isi (.var 0) .tuple))) (.or (.cmp .ne (.prim .len (.cons (.var 0) .nil)) (.cst (.int 2))) (.not (.val (.tmp .allOf (.lc (.isi (.var 1) .tuple) (.nm 1) (.seq (.var 0)) .no [1]))))))
    (.cons (.rse 4 (.cst (.int 0)))
  .nil)
    .nil)
  (.cons (.asg (.tup (.cons (.nm 2) (.cons (.nm 3) .nil))) (.var 0))
  (.cons (.ite (.or (.cmp .eq (.var 2) (.tup .nil)) (.cmp .ne (.prim .len (.cons (.var 2) .nil)) (.prim .len (.cons (.var 3) .nil))))
    (.cons (.rse 4 (.cst (.int 0)))
  .nil)
    .nil)
  (.cons (.for_ (.tup (.cons (.nm 4) (.cons (.nm 5) .nil))) (.enu (.var 2))
    (.cons (.ite (.or (.not (.val (.call f_is_row (.cons (.var 5) (.cons (.prim .len (.cons (.var 2) .nil)) .nil))))) (.not (.val (.isi (.idx (.var 3) (.var 4)) .bool))))
    (.cons (.rse 4 (.var 4))
  .nil)
    .nil)
  .nil))
  (.cons (.ite (.cmp .gt (.prim .len (.cons (.var 2) .nil)) (.cst (.int 200)))
    (.cons (.rse 5 (.prim .len (.cons (.var 2) .nil)))
  .nil)
    .nil)
  .nil)))))⟩
/-- moved_by(0 table_, 1 state, 2 letter) -/
def d_moved_by : Def := ⟨3, 3, (.cons (.ret (.idx (.idx (.idx (.var 0) (.cst (.int 0))) (.var 1)) (.bm .index .tup (.cst (.tup [(.str "e.putp"), (.str "e.putq"), (.str "e.takep"), (.str "e.takeq"), (.str "e.end"), (.str "e.u"), (.str "e.v"), (.str "e.w"), (.str "y.putp"), (.str "y.putq"), (.str "y.takep"), (.str "y.takeq"), (.str "y.end"), (.str "y.u"), (.str "y.v"), (.str "y.w"), (.str "y.new")])) (.cons (.var 2) .nil))))
  .nil)⟩
/-- led_by(0 table_, 1 state, 2 letters, 3 is_made, 4 letter) -/
def d_led_by : Def := ⟨4, 5, (.cons (.for_ (.nm 4) (.seq (.var 2))
    (.cons (.asg (.nm 1) (.call f_moved_by (.cons (.var 0) (.cons (.var 1) (.cons (.var 4) .nil)))))
  (.cons (.asg (.nm 3) (.or (.var 3) (.cmp .eq (.var 4) (.cst (.str "y.new")))))
  (.cons (.ite (.and (.val (.var 3)) (.val (.idx (.idx (.var 0) (.cst (.int 1))) (.var 1))))
    (.cons (.ret (.cst .non))
  .nil)
    .nil)
  .nil))))
  (.cons (.ret (.var 1))
  .nil))⟩
/-- costs_of(0 program, 1 place, 2 word) -/
def d_costs_of : Def := ⟨2, 3, (.cons (.ite (.cmp .eq (.var 1) (.call f_end_place (.cons (.var 0) .nil)))
    (.cons (.ret (.tup (.cons (.cst (.int 0)) (.cons (.cst (.int 0)) .nil))))
  .nil)
    .nil)
  (.cons (.asg (.nm 2) (.idx (.call f_statement_at (.cons (.var 0) (.cons (.var 1) .nil))) (.cst (.int 0))))
  (.cons (.ite (.cmp .inn (.var 2) (.tup (.cons (.cst (.str "loop")) (.cons (.cst (.str "either")) .nil))))
    (.cons (.ret (.tup (.cons (.cst (.int 0)) (.cons (.cst (.int 1)) .nil))))
  .nil)
    .nil)
  (.cons (.ret (.tup (.cons (.cst (.int 1)) (.cons (.prim .intOf (.cons (.cmp .eq (.var 2) (.cst (.str "take"))) .nil)) .nil))))
  .nil))))⟩
/-- least_way(0 program, 1 table_, 2 number, 3 waiting, 4 known, 5 steps, 6 many, 7 _, 8 node, 9 way, 10 state, 11 s, 12 more, 13 asked, 14 letters, 15 then, 16 led, 17 later) -/
def d_least_way : Def := ⟨2, 18, (.cons (.asg (.tup (.cons (.nm 2) (.cons (.nm 3) (.cons (.nm 4) .nil)))) (.tup (.cons (.cst (.int 0)) (.cons (.lst (.cons (.tup (.cons (.cst (.int 0)) (.cons (.cst (.int 0)) (.cons (.cst (.int 0)) (.cons (.tup (.cons (.call f_first_state (.cons (.var 0) .nil)) (.cons (.cst (.int 0)) .nil))) (.cons (.cst .non) .nil)))))) .nil)) (.cons (.dct .nil) .nil)))))
  (.cons (.whl (.cmp .ne (.var 3) (.lst .nil))
    (.cons (.asg (.tup (.cons (.nm 5) (.cons (.nm 6) (.cons (.nm 7) (.cons (.nm 8) (.cons (.nm 9) .nil)))))) (.prim .heappop (.cons (.var 3) .nil)))
  (.cons (.ite (.cmp .isn (.var 8) (.cst .non))
    (.cons (.ret (.tup (.cons (.var 5) (.cons (.var 9) .nil))))
  .nil)
    .nil)
  (.cons (.ite (.cmp .nin (.var 8) (.var 4))
    (.cons (.asg (.sub (.var 4) (.var 8)) (.cst (.bl true)))
  (.cons (.asg (.tup (.cons (.nm 10) (.cons (.nm 11) .nil))) (.var 8))
  (.cons (.asg (.tup (.cons (.nm 12) (.cons (.nm 13) .nil))) (.call f_costs_of (.cons (.var 0) (.cons (.idx (.var 10) (.cst (.int 0))) .nil))))
  (.cons (.for_ (.tup (.cons (.nm 14) (.cons (.nm 15) .nil))) (.seq (.call f_ways_of (.cons (.var 0) (.cons (.var 10) .nil))))
    (.cons (.asg (.nm 16) (.call f_led_by (.cons (.var 1) (.cons (.var 11) (.cons (.var 14) (.cons (.cmp .nisn (.idx (.var 10) (.cst (.int 2))) (.cst .non)) .nil))))))
  (.cons (.asg (.nm 17) (.ite (.cmp .nisn (.var 16) (.cst .non)) (.tup (.cons (.var 15) (.cons (.var 16) .nil))) (.cst .non)))
  (.cons (.asg (.nm 2) (.bin .add (.var 2) (.cst (.int 1))))
  (.cons (.expr (.prim .heappush (.cons (.var 3) (.cons (.tup (.cons (.bin .add (.var 5) (.var 12)) (.cons (.bin .add (.var 6) (.var 13)) (.cons (.var 2) (.cons (.var 17) (.cons (.tup (.cons (.var 9) (.cons (.var 10) (.cons (.var 14) (.cons (.var 15) .nil))))) .nil)))))) .nil))))
  .nil)))))
  .nil))))
    .nil)
  .nil))))
  (.cons (.ret (.cst .non))
  .nil)))⟩
/-- least_steps(0 program, 1 table_, 2 found) -/
def d_least_steps : Def := ⟨2, 3, (.cons (.expr (.call f_want_program (.cons (.var 0) .nil)))
  (.cons (.expr (.call f_want_table (.cons (.var 1) .nil)))
  (.cons (.asg (.nm 2) (.call f_least_way (.cons (.var 0) (.cons (.var 1) .nil))))
  (.cons (.ret (.ite (.cmp .nisn (.var 2) (.cst .non)) (.idx (.var 2) (.cst (.int 0))) (.cst .non)))
  .nil))))⟩
/-- keeps(0 program, 1 table_) -/
def d_keeps : Def := ⟨2, 2, (.cons (.ret (.cmp .isn (.call f_least_steps (.cons (.var 0) (.cons (.var 1) .nil))) (.cst .non)))
  .nil)⟩
/-- _law_pool(0 script, 1 k, 2 cell, 3 big, 4 mixed) -/
def d__law_pool : Def := ⟨2, 5, (.cons (.asg (.nm 2) (.cst (.int 0)))
  (.cons (.ite (.cmp .lt (.var 1) (.prim .len (.cons (.var 0) .nil)))
    (.cons (.asg (.nm 2) (.idx (.var 0) (.var 1)))
  .nil)
    (.cons (.ite (.val (.var 0))
    (.cons (.asg (.nm 2) (.idx (.var 0) (.cst (.int 0))))
  .nil)
    .nil)
  .nil))
  (.cons (.asg (.nm 3) (.prim .max2 (.cons (.prim .intOf (.cons (.var 2) .nil)) (.cons (.prim .intOf (.cons (.bin .sub (.neg (.cst (.int 1))) (.var 2)) .nil)) .nil))))
  (.cons (.asg (.nm 4) (.bin .mod (.prim .intOf (.cons (.bin .mul (.bin .add (.bin .add (.bin .add (.bin .mod (.prim .intOf (.cons (.var 3) .nil)) (.cst (.int 2147483629))) (.bin .mul (.bin .mul (.cst (.int 7919)) (.var 1)) (.var 1))) (.bin .mul (.cst (.int 31)) (.var 1))) (.cst (.int 17))) (.cst (.int 48271))) .nil)) (.cst (.int 2147483647))))
  (.cons (.ret (.lst (.cons (.bin .mul (.var 3) (.prim .intOf (.cons (.cmp .ge (.var 3) (.bin .pow (.cst (.int 10)) (.cst (.int 18)))) .nil))) (.cons (.var 4) .nil))))
  .nil)))))⟩
/-- _law_take(0 source, 1 top, 2 drawn) -/
def d__law_take : Def := ⟨2, 3, (.cons (.ite (.cmp .gt (.idx (.var 0) (.cst (.int 0))) (.cst (.int 0)))
    (.cons (.asg (.nm 2) (.bin .mod (.prim .intOf (.cons (.idx (.var 0) (.cst (.int 0))) .nil)) (.var 1)))
  (.cons (.asg (.sub (.var 0) (.cst (.int 0))) (.bin .fdiv (.idx (.var 0) (.cst (.int 0))) (.var 1)))
  (.cons (.ret (.var 2))
  .nil)))
    .nil)
  (.cons (.asg (.sub (.var 0) (.cst (.int 1))) (.bin .mod (.prim .intOf (.cons (.bin .add (.bin .mul (.idx (.var 0) (.cst (.int 1))) (.cst (.int 39373))) (.cst (.int 7))) .nil)) (.cst (.int 2147483647))))
  (.cons (.ret (.bin .mod (.prim .intOf (.cons (.bin .fdiv (.bin .mod (.prim .intOf (.cons (.bin .mul (.idx (.var 0) (.cst (.int 1))) (.idx (.var 0) (.cst (.int 1)))) .nil)) (.cst (.int 2147483629))) (.cst (.int 32))) .nil)) (.var 1)))
  .nil)))⟩
/-- _law_one(0 source, 1 things) -/
def d__law_one : Def := ⟨2, 2, (.cons (.ret (.idx (.var 1) (.call f__law_take (.cons (.var 0) (.cons (.prim .len (.cons (.var 1) .nil)) .nil)))))
  .nil)⟩
/-- _law_plain(0 source, 1 own_names, 2 piles, 3 way, 4 x, 5 y, 6 pile) -/
def d__law_plain : Def := ⟨3, 7, (.cons (.asg (.nm 3) (.call f__law_take (.cons (.var 0) (.cons (.cst (.int 12)) .nil))))
  (.cons (.asg (.tup (.cons (.nm 4) (.cons (.nm 5) (.cons (.nm 6) .nil)))) (.tup (.cons (.call f__law_one (.cons (.var 0) (.cons (.var 1) .nil))) (.cons (.call f__law_one (.cons (.var 0) (.cons (.var 1) .nil))) (.cons (.call f__law_one (.cons (.var 0) (.cons (.var 2) .nil))) .nil)))))
  (.cons (.ite (.cmp .lt (.var 3) (.cst (.int 4)))
    (.cons (.ret (.tup (.cons (.cst (.str "new")) (.cons (.var 4) .nil))))
  .nil)
    .nil)
  (.cons (.ite (.cmp .lt (.var 3) (.cst (.int 6)))
    (.cons (.ret (.tup (.cons (.cst (.str "put")) (.cons (.var 4) (.cons (.var 6) .nil)))))
  .nil)
    .nil)
  (.cons (.ite (.cmp .lt (.var 3) (.cst (.int 8)))
    (.cons (.ret (.tup (.cons (.cst (.str "take")) (.cons (.var 6) (.cons (.var 4) .nil)))))
  .nil)
    .nil)
  (.cons (.ite (.cmp .eq (.var 3) (.cst (.int 8)))
    (.cons (.ret (.tup (.cons (.cst (.str "move")) (.cons (.var 4) (.cons (.var 5) .nil)))))
  .nil)
    .nil)
  (.cons (.ret (.ite (.cmp .eq (.var 3) (.cst (.int 9))) (.tup (.cons (.cst (.str "end")) (.cons (.var 4) .nil))) (.tup (.cons (.cst (.str "do")) (.cons (.call f__law_one (.cons (.var 0) (.cons (.lst (.cons (.cst (.str "u")) (.cons (.cst (.str "v")) (.cons (.cst (.str "w")) .nil)))) .nil))) (.cons (.var 4) .nil))))))
  .nil)))))))⟩
/-- _law_body(0 source, 1 many, 2 deep, 3 own_names, 4 piles, 5 found, 6 left, 7 way, 8 inner, 9 second, 10 one) -/
def d__law_body : Def := ⟨5, 11, (.cons (.asg (.tup (.cons (.nm 5) (.cons (.nm 6) .nil))) (.tup (.cons (.lst .nil) (.cons (.var 1) .nil))))
  (.cons (.whl (.cmp .gt (.var 6) (.cst (.int 0)))
    (.cons (.asg (.nm 6) (.bin .sub (.var 6) (.cst (.int 1))))
  (.cons (.asg (.nm 7) (.ite (.and (.cmp .gt (.var 2) (.cst (.int 0))) (.cmp .gt (.var 6) (.cst (.int 0)))) (.call f__law_take (.cons (.var 0) (.cons (.cst (.int 7)) .nil))) (.cst (.int 6))))
  (.cons (.asg (.nm 8) (.prim .min2 (.cons (.var 6) (.cons (.call f__law_one (.cons (.var 0) (.cons (.lst (.cons (.cst (.int 2)) (.cons (.cst (.int 1)) (.cons (.cst (.int 3)) (.cons (.cst (.int 0)) (.cons (.cst (.int 2)) .nil)))))) .nil))) .nil))))
  (.cons (.ite (.cmp .eq (.var 7) (.cst (.int 0)))
    (.cons (.expr (.bm .append .lst (.var 5) (.cons (.tup (.cons (.cst (.str "loop")) (.cons (.call f__law_body (.cons (.var 0) (.cons (.var 8) (.cons (.bin .sub (.var 2) (.cst (.int 1))) (.cons (.var 3) (.cons (.var 4) .nil)))))) .nil))) .nil)))
  (.cons (.asg (.nm 6) (.bin .sub (.var 6) (.var 8)))
  .nil))
    (.cons (.ite (.cmp .eq (.var 7) (.cst (.int 1)))
    (.cons (.asg (.nm 9) (.prim .min2 (.cons (.bin .sub (.var 6) (.var 8)) (.cons (.call f__law_take (.cons (.var 0) (.cons (.cst (.int 3)) .nil))) .nil))))
  (.cons (.asg (.nm 10) (.call f__law_body (.cons (.var 0) (.cons (.var 8) (.cons (.bin .sub (.var 2) (.cst (.int 1))) (.cons (.var 3) (.cons (.var 4) .nil)))))))
  (.cons (.expr (.bm .append .lst (.var 5) (.cons (.tup (.cons (.cst (.str "either")) (.cons (.var 10) (.cons (.call f__law_body (.cons (.var 0) (.cons (.var 9) (.cons (.bin .sub (.var 2) (.cst (.int 1))) (.cons (.var 3) (.cons (.var 4) .nil)))))) .nil)))) .nil)))
  (.cons (.asg (.nm 6) (.bin .sub (.bin .sub (.var 6) (.var 8)) (.var 9)))
  .nil))))
    (.cons (.expr (.bm .append .lst (.var 5) (.cons (.call f__law_plain (.cons (.var 0) (.cons (.var 3) (.cons (.var 4) .nil)))) .nil)))
  .nil))
  .nil))
  .nil)))))
  (.cons (.ret (.prim .tupleOf (.cons (.var 5) .nil)))
  .nil)))⟩
/-- _law_leads(0 body, 1 ahead, 2 after, 3 found, 4 at, 5 behind_v, 6 place, 7 statement, 8 ways, 9 way) -/
def d__law_leads : Def := ⟨3, 10, (.cons (.asg (.nm 3) (.dct .nil))
  (.cons (.for_ (.nm 4) (.rng1 (.prim .len (.cons (.var 0) .nil)))
    (.cons (.asg (.tup (.cons (.nm 6) (.cons (.nm 7) .nil))) (.tup (.cons (.bin .add (.var 1) (.tup (.cons (.var 4) .nil))) (.cons (.idx (.var 0) (.var 4)) .nil))))
  (.cons (.asg (.nm 5) (.ite (.cmp .lt (.bin .add (.var 4) (.cst (.int 1))) (.prim .len (.cons (.var 0) .nil))) (.bin .add (.var 1) (.tup (.cons (.bin .add (.var 4) (.cst (.int 1))) .nil))) (.var 2)))
  (.cons (.ite (.cmp .eq (.idx (.var 7) (.cst (.int 0))) (.cst (.str "loop")))
    (.cons (.asg (.sub (.var 3) (.var 6)) (.tup (.cons (.var 7) (.cons (.var 5) (.cons (.ite (.cmp .ne (.idx (.var 7) (.cst (.int 1))) (.tup .nil)) (.bin .add (.var 6) (.tup (.cons (.cst (.int 0)) .nil))) (.var 6)) .nil)))))
  (.cons (.expr (.bm .update .dct (.var 3) (.cons (.call f__law_leads (.cons (.idx (.var 7) (.cst (.int 1))) (.cons (.var 6) (.cons (.var 6) .nil)))) .nil)))
  .nil))
    (.cons (.ite (.cmp .eq (.idx (.var 7) (.cst (.int 0))) (.cst (.str "either")))
    (.cons (.asg (.nm 8) (.lc (.ite (.cmp .ne (.idx (.var 7) (.bin .add (.cst (.int 1)) (.var 9))) (.tup .nil)) (.bin .add (.var 6) (.tup (.cons (.var 9) (.cons (.cst (.int 0)) .nil)))) (.var 5)) (.nm 9) (.rng1 (.cst (.int 2))) .no [9]))
  (.cons (.asg (.sub (.var 3) (.var 6)) (.tup (.cons (.var 7) (.cons (.idx (.var 8) (.cst (.int 0))) (.cons (.idx (.var 8) (.cst (.int 1))) .nil)))))
  (.cons (.expr (.bm .update .dct (.var 3) (.cons (.call f__law_leads (.cons (.idx (.var 7) (.cst (.int 1))) (.cons (.bin .add (.var 6) (.tup (.cons (.cst (.int 0)) .nil))) (.cons (.var 5) .nil)))) .nil)))
  (.cons (.expr (.bm .update .dct (.var 3) (.cons (.call f__law_leads (.cons (.idx (.var 7) (.cst (.int 2))) (.cons (.bin .add (.var 6) (.tup (.cons (.cst (.int 1)) .nil))) (.cons (.var 5) .nil)))) .nil)))
  .nil))))
    (.cons (.asg (.sub (.var 3) (.var 6)) (.tup (.cons (.var 7) (.cons (.var 5) (.cons (.var 5) .nil)))))
  .nil))
  .nil))
  .nil))))
  (.cons (.ret (.var 3))
  .nil)))⟩
/-- _law_places(0 program) -/
def d__law_places : Def := ⟨1, 1, (.cons (.ret (.call f__law_leads (.cons (.var 0) (.cons (.tup .nil) (.cons (.tup (.cons (.prim .len (.cons (.var 0) .nil)) .nil)) .nil)))))
  .nil)⟩
/-- _law_ways(0 program, 1 leads, 2 state, 3 place, 4 one, 5 two, 6 statement, 7 on, 8 into, 9 word, 10 x, 11 told, 12 found, 13 y, 14 goal, 15 deed) -/
def d__law_ways : Def := ⟨3, 16, (.cons (.asg (.tup (.cons (.nm 3) (.cons (.nm 4) (.cons (.nm 5) .nil)))) (.var 2))
  (.cons (.ite (.cmp .nin (.var 3) (.var 1))
    (.cons (.ret (.lst .nil))
  .nil)
    .nil)
  (.cons (.asg (.tup (.cons (.nm 6) (.cons (.nm 7) (.cons (.nm 8) .nil)))) (.idx (.var 1) (.var 3)))
  (.cons (.asg (.nm 9) (.idx (.var 6) (.cst (.int 0))))
  (.cons (.ite (.cmp .inn (.var 9) (.tup (.cons (.cst (.str "loop")) (.cons (.cst (.str "either")) .nil))))
    (.cons (.ret (.lst (.cons (.tup (.cons (.tup .nil) (.cons (.tup (.cons (.var 7) (.cons (.var 4) (.cons (.var 5) .nil)))) .nil))) (.cons (.tup (.cons (.tup .nil) (.cons (.tup (.cons (.var 8) (.cons (.var 4) (.cons (.var 5) .nil)))) .nil))) .nil))))
  .nil)
    .nil)
  (.cons (.asg (.tup (.cons (.nm 10) (.cons (.nm 11) .nil))) (.tup (.cons (.ite (.cmp .inn (.var 9) (.tup (.cons (.cst (.str "take")) (.cons (.cst (.str "move")) (.cons (.cst (.str "do")) .nil))))) (.idx (.var 6) (.cst (.int 2))) (.idx (.var 6) (.cst (.int 1)))) (.cons (.tup .nil) .nil))))
  (.cons (.ite (.or (.cmp .inn (.var 9) (.tup (.cons (.cst (.str "new")) (.cons (.cst (.str "take")) .nil)))) (.and (.cmp .eq (.var 9) (.cst (.str "move"))) (.cmp .ne (.idx (.var 6) (.cst (.int 1))) (.var 10))))
    (.cons (.ite (.cmp .eq (.var 4) (.var 10))
    (.cons (.asg (.tup (.cons (.nm 4) (.cons (.nm 11) .nil))) (.tup (.cons (.cst (.str "x")) (.cons (.tup (.cons (.cst (.str "e.end")) .nil)) .nil))))
  .nil)
    .nil)
  (.cons (.ite (.cmp .eq (.var 5) (.var 10))
    (.cons (.asg (.tup (.cons (.nm 5) (.cons (.nm 11) .nil))) (.tup (.cons (.cst (.str "x")) (.cons (.bin .add (.var 11) (.tup (.cons (.cst (.str "y.end")) .nil))) .nil))))
  .nil)
    .nil)
  .nil))
    .nil)
  (.cons (.asg (.nm 12) (.lst (.cons (.tup (.cons (.var 11) (.cons (.tup (.cons (.var 7) (.cons (.var 4) (.cons (.var 5) .nil)))) .nil))) .nil)))
  (.cons (.ite (.and (.cmp .eq (.var 9) (.cst (.str "new"))) (.cmp .isn (.var 4) (.cst .non)))
    (.cons (.expr (.bm .append .lst (.var 12) (.cons (.tup (.cons (.var 11) (.cons (.tup (.cons (.var 7) (.cons (.var 10) (.cons (.var 5) .nil)))) .nil))) .nil)))
  .nil)
    (.cons (.ite (.and (.cmp .eq (.var 9) (.cst (.str "new"))) (.cmp .isn (.var 5) (.cst .non)))
    (.cons (.expr (.bm .append .lst (.var 12) (.cons (.tup (.cons (.bin .add (.var 11) (.tup (.cons (.cst (.str "y.new")) .nil))) (.cons (.tup (.cons (.var 7) (.cons (.var 4) (.cons (.var 10) .nil)))) .nil))) .nil)))
  .nil)
    (.cons (.ite (.cmp .eq (.var 9) (.cst (.str "take")))
    (.cons (.ite (.cmp .eq (.var 4) (.idx (.var 6) (.cst (.int 1))))
    (.cons (.expr (.bm .append .lst (.var 12) (.cons (.tup (.cons (.bin .add (.var 11) (.tup (.cons (.bin .add (.cst (.str "e.take")) (.var 4)) .nil))) (.cons (.tup (.cons (.var 7) (.cons (.var 10) (.cons (.var 5) .nil)))) .nil))) .nil)))
  .nil)
    .nil)
  (.cons (.ite (.cmp .eq (.var 5) (.idx (.var 6) (.cst (.int 1))))
    (.cons (.expr (.bm .append .lst (.var 12) (.cons (.tup (.cons (.bin .add (.var 11) (.tup (.cons (.bin .add (.cst (.str "y.take")) (.var 5)) .nil))) (.cons (.tup (.cons (.var 7) (.cons (.var 4) (.cons (.var 10) .nil)))) .nil))) .nil)))
  .nil)
    .nil)
  .nil))
    (.cons (.ite (.and (.cmp .eq (.var 9) (.cst (.str "move"))) (.cmp .ne (.idx (.var 6) (.cst (.int 1))) (.var 10)))
    (.cons (.asg (.nm 13) (.idx (.var 6) (.cst (.int 1))))
  (.cons (.asg (.nm 12) (.lst (.cons (.tup (.cons (.var 11) (.cons (.tup (.cons (.var 7) (.cons (.ite (.cmp .eq (.var 4) (.var 13)) (.var 10) (.var 4)) (.cons (.ite (.cmp .eq (.var 5) (.var 13)) (.var 10) (.var 5)) .nil)))) .nil))) .nil)))
  .nil))
    (.cons (.ite (.cmp .inn (.var 9) (.tup (.cons (.cst (.str "put")) (.cons (.cst (.str "end")) (.cons (.cst (.str "do")) .nil)))))
    (.cons (.asg (.nm 14) (.idx (.dct (.cons (.cst (.str "put")) (.idx (.var 6) (.neg (.cst (.int 1)))) (.cons (.cst (.str "end")) (.cst (.str "x")) (.cons (.cst (.str "do")) (.var 10) .nil)))) (.var 9)))
  (.cons (.asg (.nm 15) (.idx (.dct (.cons (.cst (.str "put")) (.bin .add (.cst (.str "put")) (.idx (.var 6) (.neg (.cst (.int 1))))) (.cons (.cst (.str "end")) (.cst (.str "end")) (.cons (.cst (.str "do")) (.idx (.var 6) (.cst (.int 1))) .nil)))) (.var 9)))
  (.cons (.ite (.cmp .eq (.var 4) (.var 10))
    (.cons (.asg (.nm 12) (.lst (.cons (.tup (.cons (.tup (.cons (.bin .add (.cst (.str "e.")) (.var 15)) .nil)) (.cons (.tup (.cons (.var 7) (.cons (.var 14) (.cons (.var 5) .nil)))) .nil))) .nil)))
  .nil)
    (.cons (.ite (.cmp .eq (.var 5) (.var 10))
    (.cons (.asg (.nm 12) (.lst (.cons (.tup (.cons (.tup (.cons (.bin .add (.cst (.str "y.")) (.var 15)) .nil)) (.cons (.tup (.cons (.var 7) (.cons (.var 4) (.cons (.var 14) .nil)))) .nil))) .nil)))
  .nil)
    .nil)
  .nil))
  .nil)))
    .nil)
  .nil))
  .nil))
  .nil))
  .nil))
  (.cons (.ret (.var 12))
  .nil))))))))))⟩
/-- _law_letters(0 deeds, 1 deed) -/
def d__law_letters : Def := ⟨0, 2, (.cons (.asg (.nm 0) (.lst (.cons (.cst (.str "putp")) (.cons (.cst (.str "putq")) (.cons (.cst (.str "takep")) (.cons (.cst (.str "takeq")) (.cons (.cst (.str "end")) (.cons (.cst (.str "u")) (.cons (.cst (.str "v")) (.cons (.cst (.str "w")) .nil))))))))))
  (.cons (.ret (.bin .add (.bin .add (.lc (.bin .add (.cst (.str "e.")) (.var 1)) (.nm 1) (.seq (.var 0)) .no [1]) (.lc (.bin .add (.cst (.str "y.")) (.var 1)) (.nm 1) (.seq (.var 0)) .no [1])) (.lst (.cons (.cst (.str "y.new")) .nil))))
  .nil))⟩
/-- _law_table(0 source, 1 most, 2 many, 3 moves, 4 s, 5 k) -/
def d__law_table : Def := ⟨2, 6, (.cons (.asg (.nm 2) (.bin .add (.cst (.int 1)) (.call f__law_take (.cons (.var 0) (.cons (.var 1) .nil)))))
  (.cons (.asg (.nm 3) (.tmp .tupleOf (.lc (.tmp .tupleOf (.lc (.call f__law_take (.cons (.var 0) (.cons (.var 2) .nil))) (.nm 5) (.rng1 (.cst (.int 17))) .no [5])) (.nm 4) (.rng1 (.var 2)) .no [4])))
  (.cons (.ret (.tup (.cons (.var 3) (.cons (.tmp .tupleOf (.lc (.cmp .eq (.call f__law_take (.cons (.var 0) (.cons (.cst (.int 3)) .nil))) (.cst (.int 0))) (.nm 4) (.rng1 (.var 2)) .no [4])) .nil))))
  .nil)))⟩
/-- _law_search(0 program, 1 table, 2 leads, 3 letters, 4 moves, 5 bad, 6 here, 7 known, 8 step, 9 waiting, 10 later, 11 is_step, 12 state, 13 s, 14 told, 15 then, 16 letter, 17 is_made, 18 now) -/
def d__law_search : Def := ⟨2, 19, (.cons (.asg (.tup (.cons (.tup (.cons (.nm 4) (.cons (.nm 5) .nil))) (.cons (.nm 2) (.cons (.nm 3) .nil)))) (.tup (.cons (.var 1) (.cons (.call f__law_places (.cons (.var 0) .nil)) (.cons (.call f__law_letters .nil) .nil)))))
  (.cons (.asg (.tup (.cons (.nm 6) (.cons (.nm 7) (.cons (.nm 8) .nil)))) (.tup (.cons (.dct (.cons (.tup (.cons (.tup (.cons (.tup (.cons (.cst (.int 0)) .nil)) (.cons (.cst .non) (.cons (.cst .non) .nil)))) (.cons (.cst (.int 0)) .nil))) (.cst (.bl true)) .nil)) (.cons (.dct .nil) (.cons (.cst (.int 0)) .nil)))))
  (.cons (.whl (.cmp .ne (.var 6) (.dct .nil))
    (.cons (.asg (.tup (.cons (.nm 8) (.cons (.nm 10) .nil))) (.tup (.cons (.bin .add (.var 8) (.cst (.int 1))) (.cons (.dct .nil) .nil))))
  (.cons (.asg (.nm 9) (.prim .listOf (.cons (.var 6) .nil)))
  (.cons (.whl (.cmp .ne (.var 9) (.lst .nil))
    (.cons (.asg (.tup (.cons (.nm 12) (.cons (.nm 13) .nil))) (.bm .pop0 .lst (.var 9) .nil))
  (.cons (.ite (.cmp .inn (.tup (.cons (.var 12) (.cons (.var 13) .nil))) (.var 7))
    (.cons .cont
  .nil)
    .nil)
  (.cons (.asg (.sub (.var 7) (.tup (.cons (.var 12) (.cons (.var 13) .nil)))) (.cst (.bl true)))
  (.cons (.asg (.nm 11) (.and (.cmp .inn (.idx (.var 12) (.cst (.int 0))) (.var 2)) (.cmp .nin (.idx (.idx (.idx (.var 2) (.idx (.var 12) (.cst (.int 0)))) (.cst (.int 0))) (.cst (.int 0))) (.tup (.cons (.cst (.str "loop")) (.cons (.cst (.str "either")) .nil))))))
  (.cons (.for_ (.tup (.cons (.nm 14) (.cons (.nm 15) .nil))) (.seq (.call f__law_ways (.cons (.var 0) (.cons (.var 2) (.cons (.var 12) .nil)))))
    (.cons (.asg (.tup (.cons (.nm 17) (.cons (.nm 18) .nil))) (.tup (.cons (.cmp .nisn (.idx (.var 12) (.cst (.int 2))) (.cst .non)) (.cons (.var 13) .nil))))
  (.cons (.for_ (.nm 16) (.seq (.var 14))
    (.cons (.asg (.tup (.cons (.nm 18) (.cons (.nm 17) .nil))) (.tup (.cons (.idx (.idx (.var 4) (.var 18)) (.bm .index .lst (.var 3) (.cons (.var 16) .nil))) (.cons (.or (.var 17) (.cmp .eq (.var 16) (.cst (.str "y.new")))) .nil))))
  (.cons (.ite (.and (.val (.var 17)) (.val (.idx (.var 5) (.var 18))))
    (.cons (.ret (.var 8))
  .nil)
    .nil)
  .nil)))
  (.cons (.ite (.val (.var 11))
    (.cons (.asg (.sub (.var 10) (.tup (.cons (.var 15) (.cons (.var 18) .nil)))) (.cst (.bl true)))
  .nil)
    (.cons (.expr (.bm .append .lst (.var 9) (.cons (.tup (.cons (.var 15) (.cons (.var 18) .nil))) .nil)))
  .nil))
  .nil))))
  .nil))))))
  (.cons (.asg (.nm 6) (.var 10))
  .nil)))))
  (.cons (.ret (.cst .non))
  .nil))))⟩
/-- _law_many(0 body, 1 found, 2 statement, 3 inner, 4 some) -/
def d__law_many : Def := ⟨1, 5, (.cons (.asg (.nm 1) (.cst (.int 0)))
  (.cons (.for_ (.nm 2) (.seq (.var 0))
    (.cons (.asg (.nm 3) (.ite (.cmp .inn (.idx (.var 2) (.cst (.int 0))) (.tup (.cons (.cst (.str "loop")) (.cons (.cst (.str "either")) .nil)))) (.sli (.var 2) (.so (.cst (.int 1))) .no) (.tup .nil)))
  (.cons (.asg (.nm 1) (.bin .add (.bin .add (.var 1) (.cst (.int 1))) (.tmp .sumOf (.lc (.call f__law_many (.cons (.var 4) .nil)) (.nm 4) (.seq (.var 3)) .no [4]))))
  .nil)))
  (.cons (.ret (.var 1))
  .nil)))⟩
/-- law(0 script, 1 source, 2 most, 3 program, 4 table, 5 due, 6 whole, 7 e) -/
def d_law_2 : Def := ⟨1, 8, (.cons (.asg (.nm 1) (.call f__law_pool (.cons (.var 0) (.cons (.cst (.int 0)) .nil))))
  (.cons (.asg (.nm 2) (.call f__law_one (.cons (.var 1) (.cons (.lst (.cons (.cst (.int 12)) (.cons (.cst (.int 20)) (.cons (.cst (.int 40)) (.cons (.cst (.int 16)) (.cons (.cst (.int 12)) .nil)))))) .nil))))
  (.cons (.asg (.nm 3) (.call f__law_body (.cons (.var 1) (.cons (.var 2) (.cons (.call f__law_one (.cons (.var 1) (.cons (.lst (.cons (.cst (.int 3)) (.cons (.cst (.int 5)) (.cons (.cst (.int 5)) (.cons (.cst (.int 2)) .nil))))) .nil))) (.cons (.tup (.cons (.cst (.str "a")) (.cons (.cst (.str "b")) .nil))) (.cons (.tup (.cons (.cst (.str "p")) .nil)) .nil)))))))
  (.cons (.asg (.nm 4) (.call f__law_table (.cons (.var 1) (.cons (.cst (.int 4)) .nil))))
  (.cons (.asg (.nm 5) (.call f__law_search (.cons (.var 3) (.cons (.var 4) .nil))))
  (.cons (.ite (.or (.cmp .ne (.kcall f_least_steps (.cons (.var 4) (.cons (.var 3) .nil)) [1, 0]) (.var 5)) (.cmp .ne (.call f_keeps (.cons (.var 3) (.cons (.var 4) .nil))) (.cmp .isn (.var 5) (.cst .non))))
    (.cons (.ret (.cst (.bl false)))
  .nil)
    .nil)
  (.cons (.ite (.cmp .eq (.var 2) (.cst (.int 40)))
    (.cons (.asg (.nm 6) (.bin .add (.var 3) (.bin .mul (.tup (.cons (.tup (.cons (.cst (.str "end")) (.cons (.cst (.str "a")) .nil))) .nil)) (.bin .sub (.cst (.int 41)) (.call f__law_many (.cons (.var 3) .nil))))))
  (.cons (.tryC (.cons (.expr (.call f_made_program (.cons (.var 6) .nil)))
  (.cons (.ret (.cst (.bl false)))
  .nil))
    (.cons [5] (.cons (.ret (.cmp .eq .what (.cst (.int 41)))) .nil) .nil))
  .nil))
    .nil)
  (.cons (.ret (.cmp .eq (.call f_made_program (.cons (.var 3) .nil)) (.var 3)))
  .nil))))))))⟩
end AT
section
set_option maxHeartbeats 4000000
/-! k38: what stands written (printed by gen2.py). -/
namespace AT.K38
open PySem PySem.Spec PyProof.Rows L2 AT
def top (i : Nat) : Stmt := PySem.Challenge.pw_anytwo_k38_forty_statements_searched.main.body.getD i (.Pass ⟨0, 0, 0, 0⟩)
def dl : List (Nat × Def) := [(f_is_number, d_is_number), (f_is_of, d_is_of), (f_forms_of, d_forms_of), (f_has_form, d_has_form), (f_bodies_of, d_bodies_of), (f_walked, d_walked), (f_want_program, d_want_program), (f_made_program, d_made_program), (f_first_place, d_first_place), (f_end_place, d_end_place), (f_body_at, d_body_at), (f_statement_at, d_statement_at), (f_behind, d_behind), (f_statement_at_leads, d_statement_at_leads), (f_ways_at, d_ways_at), (f_emptied, d_emptied), (f_made, d_made), (f_taken, d_taken), (f_moved, d_moved), (f_gone_through, d_gone_through), (f_effects, d_effects), (f_ways_of, d_ways_of), (f_first_state, d_first_state), (f_is_row, d_is_row_1), (f_want_table, d_want_table), (f_moved_by, d_moved_by), (f_led_by, d_led_by), (f_costs_of, d_costs_of), (f_least_way, d_least_way), (f_least_steps, d_least_steps), (f_keeps, d_keeps), (f__law_pool, d__law_pool), (f__law_take, d__law_take), (f__law_one, d__law_one), (f__law_plain, d__law_plain), (f__law_body, d__law_body), (f__law_leads, d__law_leads), (f__law_places, d__law_places), (f__law_ways, d__law_ways), (f__law_letters, d__law_letters), (f__law_table, d__law_table), (f__law_search, d__law_search), (f__law_many, d__law_many), (f_law, d_law_2)]
def subl : List (Nat × Nat) := [(0, 0), (1, 0), (1, 1), (4, 0), (4, 4), (5, 0), (5, 5)]
def initl : List (Nat × Nat) := []
def methl : List ((Nat × Nat) × Nat) := []
def P : Pr := ⟨⟨fun c m => methl.lookup (c, m), fun c => initl.lookup c, fun a b => decide ((a, b) ∈ subl)⟩, fun f => dl.lookup f⟩
def Γ : Inf where
  N := []
  fns := [(("is_number" : Str), f_is_number), (("is_of" : Str), f_is_of), (("forms_of" : Str), f_forms_of), (("has_form" : Str), f_has_form), (("bodies_of" : Str), f_bodies_of), (("walked" : Str), f_walked), (("want_program" : Str), f_want_program), (("made_program" : Str), f_made_program), (("first_place" : Str), f_first_place), (("end_place" : Str), f_end_place), (("body_at" : Str), f_body_at), (("statement_at" : Str), f_statement_at), (("behind" : Str), f_behind), (("statement_at_leads" : Str), f_statement_at_leads), (("ways_at" : Str), f_ways_at), (("emptied" : Str), f_emptied), (("made" : Str), f_made), (("taken" : Str), f_taken), (("moved" : Str), f_moved), (("gone_through" : Str), f_gone_through), (("effects" : Str), f_effects), (("ways_of" : Str), f_ways_of), (("first_state" : Str), f_first_state), (("is_row" : Str), f_is_row), (("want_table" : Str), f_want_table), (("moved_by" : Str), f_moved_by), (("led_by" : Str), f_led_by), (("costs_of" : Str), f_costs_of), (("least_way" : Str), f_least_way), (("least_steps" : Str), f_least_steps), (("keeps" : Str), f_keeps), (("_law_pool" : Str), f__law_pool), (("_law_take" : Str), f__law_take), (("_law_one" : Str), f__law_one), (("_law_plain" : Str), f__law_plain), (("_law_body" : Str), f__law_body), (("_law_leads" : Str), f__law_leads), (("_law_places" : Str), f__law_places), (("_law_ways" : Str), f__law_ways), (("_law_letters" : Str), f__law_letters), (("_law_table" : Str), f__law_table), (("_law_search" : Str), f__law_search), (("_law_many" : Str), f__law_many), (("law" : Str), f_law)]
  cls := []
  mth := []
  cst := [("NAMES", (.tup [(.str "a"), (.str "b"), (.str "c"), (.str "d")])), ("PILES", (.tup [(.str "p"), (.str "q")])), ("OWN_WORDS", (.tup [(.str "u"), (.str "v"), (.str "w")])), ("LOOP", (.str "loop")), ("EITHER", (.str "either")), ("MOST_STATEMENTS", (.int 40)), ("DEEPEST", (.int 6)), ("ELDER", (.str "e.")), ("YOUNGER", (.str "y.")), ("NEW", (.str "y.new")), ("LETTERS", (.tup [(.str "e.putp"), (.str "e.putq"), (.str "e.takep"), (.str "e.takeq"), (.str "e.end"), (.str "e.u"), (.str "e.v"), (.str "e.w"), (.str "y.putp"), (.str "y.putq"), (.str "y.takep"), (.str "y.takeq"), (.str "y.end"), (.str "y.u"), (.str "y.v"), (.str "y.w"), (.str "y.new")])), ("ENDED", (.str "x")), ("MOST_STATES", (.int 200)), ("TAKE", (.str "take"))]
  tcs := [("NAMES", (.tup [(.str "a"), (.str "b"), (.str "c"), (.str "d")])), ("PILES", (.tup [(.str "p"), (.str "q")])), ("OWN_WORDS", (.tup [(.str "u"), (.str "v"), (.str "w")])), ("LETTERS", (.tup [(.str "e.putp"), (.str "e.putq"), (.str "e.takep"), (.str "e.takeq"), (.str "e.end"), (.str "e.u"), (.str "e.v"), (.str "e.w"), (.str "y.putp"), (.str "y.putq"), (.str "y.takep"), (.str "y.takeq"), (.str "y.end"), (.str "y.u"), (.str "y.v"), (.str "y.w"), (.str "y.new")]))]
  nms := [("what" : Str), ("bad" : Str), ("is_full" : Str), ("scene" : Str), ("events" : Str), ("steps" : Str), ("made" : Str), ("names" : Str), ("piles" : Str), ("place" : Str), ("table" : Str), ("own" : Str), ("pairs" : Str), ("code" : Str), ("choices" : Str), ("at" : Str), ("used" : Str), ("plain" : Str), ("moves" : Str), ("marks" : Str), ("letters" : Str), ("goal" : Str), ("one" : Str), ("two" : Str), ("asked" : Str), ("word" : Str), ("bodies" : Str), ("rows" : Str), ("text" : Str), ("parts" : Str), ("program" : Str), ("known" : Str), ("spots" : Str), ("number" : Str)]
  kws := [(f_least_steps, ["table_", "program"], [1, 0])]
  exs := [("Refused", 0), ("BadProgram", 1), ("BadTable", 4), ("TooMany", 5)]
  hq := true
theorem ok_is_number : okSs { Γ with N := ["thing"] } d_is_number.body (defScope (top 14)) (fun _ => true) (defBody (top 14)) = true := by decide +kernel
theorem sc_is_number : FnScope ["thing"] ["thing"] (defScope (top 14)) := ⟨rfl, rfl, rfl, by decide +kernel, rfl, by decide +kernel, by decide +kernel⟩
theorem ok_is_of : okSs { Γ with N := ["thing", "some"] } d_is_of.body (defScope (top 15)) (fun _ => true) (defBody (top 15)) = true := by decide +kernel
theorem sc_is_of : FnScope ["thing", "some"] ["thing", "some"] (defScope (top 15)) := ⟨rfl, rfl, rfl, by decide +kernel, rfl, by decide +kernel, by decide +kernel⟩
theorem ok_forms_of : okSs { Γ with N := ["word"] } d_forms_of.body (defScope (top 16)) (fun _ => true) (defBody (top 16)) = true := by decide +kernel
theorem sc_forms_of : FnScope ["word"] ["word"] (defScope (top 16)) := ⟨rfl, rfl, rfl, by decide +kernel, rfl, by decide +kernel, by decide +kernel⟩
theorem ok_has_form : okSs { Γ with N := ["thing", "body", "forms", "at", "form"] } d_has_form.body (defScope (top 17)) (fun _ => true) (defBody (top 17)) = true := by decide +kernel
theorem sc_has_form : FnScope ["thing", "body", "forms", "at", "form"] ["thing"] (defScope (top 17)) := ⟨rfl, rfl, rfl, by decide +kernel, rfl, by decide +kernel, by decide +kernel⟩
theorem ok_bodies_of : okSs { Γ with N := ["statement", "place", "way"] } d_bodies_of.body (defScope (top 18)) (fun _ => true) (defBody (top 18)) = true := by decide +kernel
theorem sc_bodies_of : FnScope ["statement", "place", "way"] ["statement", "place"] (defScope (top 18)) := ⟨rfl, rfl, rfl, by decide +kernel, rfl, by decide +kernel, by decide +kernel⟩
theorem ok_walked : okSs { Γ with N := ["body", "ahead", "deep", "found", "index", "statement", "place", "leads", "inner"] } d_walked.body (defScope (top 19)) (fun _ => true) (defBody (top 19)) = true := by decide +kernel
theorem sc_walked : FnScope ["body", "ahead", "deep", "found", "index", "statement", "place", "leads", "inner"] ["body", "ahead", "deep", "found"] (defScope (top 19)) := ⟨rfl, rfl, rfl, by decide +kernel, rfl, by decide +kernel, by decide +kernel⟩
theorem ok_want_program : okSs { Γ with N := ["thing", "found"] } d_want_program.body (defScope (top 20)) (fun _ => true) (defBody (top 20)) = true := by decide +kernel
theorem sc_want_program : FnScope ["thing", "found"] ["thing"] (defScope (top 20)) := ⟨rfl, rfl, rfl, by decide +kernel, rfl, by decide +kernel, by decide +kernel⟩
theorem ok_made_program : okSs { Γ with N := ["thing"] } d_made_program.body (defScope (top 21)) (fun _ => true) (defBody (top 21)) = true := by decide +kernel
theorem sc_made_program : FnScope ["thing"] ["thing"] (defScope (top 21)) := ⟨rfl, rfl, rfl, by decide +kernel, rfl, by decide +kernel, by decide +kernel⟩
theorem ok_first_place : okSs { Γ with N := ["program"] } d_first_place.body (defScope (top 23)) (fun _ => true) (defBody (top 23)) = true := by decide +kernel
theorem sc_first_place : FnScope ["program"] ["program"] (defScope (top 23)) := ⟨rfl, rfl, rfl, by decide +kernel, rfl, by decide +kernel, by decide +kernel⟩
theorem ok_end_place : okSs { Γ with N := ["program"] } d_end_place.body (defScope (top 24)) (fun _ => true) (defBody (top 24)) = true := by decide +kernel
theorem sc_end_place : FnScope ["program"] ["program"] (defScope (top 24)) := ⟨rfl, rfl, rfl, by decide +kernel, rfl, by decide +kernel, by decide +kernel⟩
theorem ok_body_at : okSs { Γ with N := ["program", "leads", "body", "at", "statement"] } d_body_at.body (defScope (top 25)) (fun _ => true) (defBody (top 25)) = true := by decide +kernel
theorem sc_body_at : FnScope ["program", "leads", "body", "at", "statement"] ["program", "leads"] (defScope (top 25)) := ⟨rfl, rfl, rfl, by decide +kernel, rfl, by decide +kernel, by decide +kernel⟩
theorem ok_statement_at : okSs { Γ with N := ["program", "place"] } d_statement_at.body (defScope (top 26)) (fun _ => true) (defBody (top 26)) = true := by decide +kernel
theorem sc_statement_at : FnScope ["program", "place"] ["program", "place"] (defScope (top 26)) := ⟨rfl, rfl, rfl, by decide +kernel, rfl, by decide +kernel, by decide +kernel⟩
theorem ok_behind : okSs { Γ with N := ["program", "place", "leads"] } d_behind.body (defScope (top 27)) (fun _ => true) (defBody (top 27)) = true := by decide +kernel
theorem sc_behind : FnScope ["program", "place", "leads"] ["program", "place"] (defScope (top 27)) := ⟨rfl, rfl, rfl, by decide +kernel, rfl, by decide +kernel, by decide +kernel⟩
theorem ok_statement_at_leads : okSs { Γ with N := ["program", "leads", "body", "at", "statement", "more"] } d_statement_at_leads.body (defScope (top 28)) (fun _ => true) (defBody (top 28)) = true := by decide +kernel
theorem sc_statement_at_leads : FnScope ["program", "leads", "body", "at", "statement", "more"] ["program", "leads"] (defScope (top 28)) := ⟨rfl, rfl, rfl, by decide +kernel, rfl, by decide +kernel, by decide +kernel⟩
theorem ok_ways_at : okSs { Γ with N := ["program", "place", "statement", "way"] } d_ways_at.body (defScope (top 29)) (fun _ => true) (defBody (top 29)) = true := by decide +kernel
theorem sc_ways_at : FnScope ["program", "place", "statement", "way"] ["program", "place"] (defScope (top 29)) := ⟨rfl, rfl, rfl, by decide +kernel, rfl, by decide +kernel, by decide +kernel⟩
theorem ok_emptied : okSs { Γ with N := ["x", "a", "b"] } d_emptied.body (defScope (top 36)) (fun _ => true) (defBody (top 36)) = true := by decide +kernel
theorem sc_emptied : FnScope ["x", "a", "b"] ["x", "a", "b"] (defScope (top 36)) := ⟨rfl, rfl, rfl, by decide +kernel, rfl, by decide +kernel, by decide +kernel⟩
theorem ok_made : okSs { Γ with N := ["x", "a", "b", "letters", "found"] } d_made.body (defScope (top 37)) (fun _ => true) (defBody (top 37)) = true := by decide +kernel
theorem sc_made : FnScope ["x", "a", "b", "letters", "found"] ["x", "a", "b"] (defScope (top 37)) := ⟨rfl, rfl, rfl, by decide +kernel, rfl, by decide +kernel, by decide +kernel⟩
theorem ok_taken : okSs { Γ with N := ["p", "x", "a", "b", "letters", "found"] } d_taken.body (defScope (top 38)) (fun _ => true) (defBody (top 38)) = true := by decide +kernel
theorem sc_taken : FnScope ["p", "x", "a", "b", "letters", "found"] ["p", "x", "a", "b"] (defScope (top 38)) := ⟨rfl, rfl, rfl, by decide +kernel, rfl, by decide +kernel, by decide +kernel⟩
theorem ok_moved : okSs { Γ with N := ["y", "x", "a", "b", "letters"] } d_moved.body (defScope (top 39)) (fun _ => true) (defBody (top 39)) = true := by decide +kernel
theorem sc_moved : FnScope ["y", "x", "a", "b", "letters"] ["y", "x", "a", "b"] (defScope (top 39)) := ⟨rfl, rfl, rfl, by decide +kernel, rfl, by decide +kernel, by decide +kernel⟩
theorem ok_gone_through : okSs { Γ with N := ["deed", "x", "spot", "a", "b"] } d_gone_through.body (defScope (top 40)) (fun _ => true) (defBody (top 40)) = true := by decide +kernel
theorem sc_gone_through : FnScope ["deed", "x", "spot", "a", "b"] ["deed", "x", "spot", "a", "b"] (defScope (top 40)) := ⟨rfl, rfl, rfl, by decide +kernel, rfl, by decide +kernel, by decide +kernel⟩
theorem ok_effects : okSs { Γ with N := ["statement", "a", "b", "word"] } d_effects.body (defScope (top 41)) (fun _ => true) (defBody (top 41)) = true := by decide +kernel
theorem sc_effects : FnScope ["statement", "a", "b", "word"] ["statement", "a", "b"] (defScope (top 41)) := ⟨rfl, rfl, rfl, by decide +kernel, rfl, by decide +kernel, by decide +kernel⟩
theorem ok_ways_of : okSs { Γ with N := ["program", "state", "place", "a", "b", "statement", "then", "letters", "elder", "younger"] } d_ways_of.body (defScope (top 42)) (fun _ => true) (defBody (top 42)) = true := by decide +kernel
theorem sc_ways_of : FnScope ["program", "state", "place", "a", "b", "statement", "then", "letters", "elder", "younger"] ["program", "state"] (defScope (top 42)) := ⟨rfl, rfl, rfl, by decide +kernel, rfl, by decide +kernel, by decide +kernel⟩
theorem ok_first_state : okSs { Γ with N := ["program"] } d_first_state.body (defScope (top 44)) (fun _ => true) (defBody (top 44)) = true := by decide +kernel
theorem sc_first_state : FnScope ["program"] ["program"] (defScope (top 44)) := ⟨rfl, rfl, rfl, by decide +kernel, rfl, by decide +kernel, by decide +kernel⟩
theorem ok_is_row : okSs { Γ with N := ["row", "many", "state"] } d_is_row_1.body (defScope (top 47)) (fun _ => true) (defBody (top 47)) = true := by decide +kernel
theorem sc_is_row : FnScope ["row", "many", "state"] ["row", "many"] (defScope (top 47)) := ⟨rfl, rfl, rfl, by decide +kernel, rfl, by decide +kernel, by decide +kernel⟩
theorem ok_want_table : okSs { Γ with N := ["table_", "part", "moves", "bad", "state", "row"] } d_want_table.body (defScope (top 48)) (fun _ => true) (defBody (top 48)) = true := by decide +kernel
theorem sc_want_table : FnScope ["table_", "part", "moves", "bad", "state", "row"] ["table_"] (defScope (top 48)) := ⟨rfl, rfl, rfl, by decide +kernel, rfl, by decide +kernel, by decide +kernel⟩
theorem ok_moved_by : okSs { Γ with N := ["table_", "state", "letter"] } d_moved_by.body (defScope (top 51)) (fun _ => true) (defBody (top 51)) = true := by decide +kernel
theorem sc_moved_by : FnScope ["table_", "state", "letter"] ["table_", "state", "letter"] (defScope (top 51)) := ⟨rfl, rfl, rfl, by decide +kernel, rfl, by decide +kernel, by decide +kernel⟩
theorem ok_led_by : okSs { Γ with N := ["table_", "state", "letters", "is_made", "letter"] } d_led_by.body (defScope (top 52)) (fun _ => true) (defBody (top 52)) = true := by decide +kernel
theorem sc_led_by : FnScope ["table_", "state", "letters", "is_made", "letter"] ["table_", "state", "letters", "is_made"] (defScope (top 52)) := ⟨rfl, rfl, rfl, by decide +kernel, rfl, by decide +kernel, by decide +kernel⟩
theorem ok_costs_of : okSs { Γ with N := ["program", "place", "word"] } d_costs_of.body (defScope (top 53)) (fun _ => true) (defBody (top 53)) = true := by decide +kernel
theorem sc_costs_of : FnScope ["program", "place", "word"] ["program", "place"] (defScope (top 53)) := ⟨rfl, rfl, rfl, by decide +kernel, rfl, by decide +kernel, by decide +kernel⟩
theorem ok_least_way : okSs { Γ with N := ["program", "table_", "number", "waiting", "known", "steps", "many", "_", "node", "way", "state", "s", "more", "asked", "letters", "then", "led", "later"] } d_least_way.body (defScope (top 54)) (fun _ => true) (defBody (top 54)) = true := by decide +kernel
theorem sc_least_way : FnScope ["program", "table_", "number", "waiting", "known", "steps", "many", "_", "node", "way", "state", "s", "more", "asked", "letters", "then", "led", "later"] ["program", "table_"] (defScope (top 54)) := ⟨rfl, rfl, rfl, by decide +kernel, rfl, by decide +kernel, by decide +kernel⟩
theorem ok_least_steps : okSs { Γ with N := ["program", "table_", "found"] } d_least_steps.body (defScope (top 55)) (fun _ => true) (defBody (top 55)) = true := by decide +kernel
theorem sc_least_steps : FnScope ["program", "table_", "found"] ["program", "table_"] (defScope (top 55)) := ⟨rfl, rfl, rfl, by decide +kernel, rfl, by decide +kernel, by decide +kernel⟩
theorem ok_keeps : okSs { Γ with N := ["program", "table_"] } d_keeps.body (defScope (top 56)) (fun _ => true) (defBody (top 56)) = true := by decide +kernel
theorem sc_keeps : FnScope ["program", "table_"] ["program", "table_"] (defScope (top 56)) := ⟨rfl, rfl, rfl, by decide +kernel, rfl, by decide +kernel, by decide +kernel⟩
theorem ok__law_pool : okSs { Γ with N := ["script", "k", "cell", "big", "mixed"] } d__law_pool.body (defScope (top 58)) (fun _ => true) (defBody (top 58)) = true := by decide +kernel
theorem sc__law_pool : FnScope ["script", "k", "cell", "big", "mixed"] ["script", "k"] (defScope (top 58)) := ⟨rfl, rfl, rfl, by decide +kernel, rfl, by decide +kernel, by decide +kernel⟩
theorem ok__law_take : okSs { Γ with N := ["source", "top", "drawn"] } d__law_take.body (defScope (top 59)) (fun _ => true) (defBody (top 59)) = true := by decide +kernel
theorem sc__law_take : FnScope ["source", "top", "drawn"] ["source", "top"] (defScope (top 59)) := ⟨rfl, rfl, rfl, by decide +kernel, rfl, by decide +kernel, by decide +kernel⟩
theorem ok__law_one : okSs { Γ with N := ["source", "things"] } d__law_one.body (defScope (top 60)) (fun _ => true) (defBody (top 60)) = true := by decide +kernel
theorem sc__law_one : FnScope ["source", "things"] ["source", "things"] (defScope (top 60)) := ⟨rfl, rfl, rfl, by decide +kernel, rfl, by decide +kernel, by decide +kernel⟩
theorem ok__law_plain : okSs { Γ with N := ["source", "own_names", "piles", "way", "x", "y", "pile"] } d__law_plain.body (defScope (top 61)) (fun _ => true) (defBody (top 61)) = true := by decide +kernel
theorem sc__law_plain : FnScope ["source", "own_names", "piles", "way", "x", "y", "pile"] ["source", "own_names", "piles"] (defScope (top 61)) := ⟨rfl, rfl, rfl, by decide +kernel, rfl, by decide +kernel, by decide +kernel⟩
theorem ok__law_body : okSs { Γ with N := ["source", "many", "deep", "own_names", "piles", "found", "left", "way", "inner", "second", "one"] } d__law_body.body (defScope (top 62)) (fun _ => true) (defBody (top 62)) = true := by decide +kernel
theorem sc__law_body : FnScope ["source", "many", "deep", "own_names", "piles", "found", "left", "way", "inner", "second", "one"] ["source", "many", "deep", "own_names", "piles"] (defScope (top 62)) := ⟨rfl, rfl, rfl, by decide +kernel, rfl, by decide +kernel, by decide +kernel⟩
theorem ok__law_leads : okSs { Γ with N := ["body", "ahead", "after", "found", "at", "behind_v", "place", "statement", "ways", "way"] } d__law_leads.body (defScope (top 63)) (fun _ => true) (defBody (top 63)) = true := by decide +kernel
theorem sc__law_leads : FnScope ["body", "ahead", "after", "found", "at", "behind_v", "place", "statement", "ways", "way"] ["body", "ahead", "after"] (defScope (top 63)) := ⟨rfl, rfl, rfl, by decide +kernel, rfl, by decide +kernel, by decide +kernel⟩
theorem ok__law_places : okSs { Γ with N := ["program"] } d__law_places.body (defScope (top 64)) (fun _ => true) (defBody (top 64)) = true := by decide +kernel
theorem sc__law_places : FnScope ["program"] ["program"] (defScope (top 64)) := ⟨rfl, rfl, rfl, by decide +kernel, rfl, by decide +kernel, by decide +kernel⟩
theorem ok__law_ways : okSs { Γ with N := ["program", "leads", "state", "place", "one", "two", "statement", "on", "into", "word", "x", "told", "found", "y", "goal", "deed"] } d__law_ways.body (defScope (top 65)) (fun _ => true) (defBody (top 65)) = true := by decide +kernel
theorem sc__law_ways : FnScope ["program", "leads", "state", "place", "one", "two", "statement", "on", "into", "word", "x", "told", "found", "y", "goal", "deed"] ["program", "leads", "state"] (defScope (top 65)) := ⟨rfl, rfl, rfl, by decide +kernel, rfl, by decide +kernel, by decide +kernel⟩
theorem ok__law_letters : okSs { Γ with N := ["deeds", "deed"] } d__law_letters.body (defScope (top 66)) (fun _ => true) (defBody (top 66)) = true := by decide +kernel
theorem sc__law_letters : FnScope ["deeds", "deed"] [] (defScope (top 66)) := ⟨rfl, rfl, rfl, by decide +kernel, rfl, by decide +kernel, by decide +kernel⟩
theorem ok__law_table : okSs { Γ with N := ["source", "most", "many", "moves", "s", "k"] } d__law_table.body (defScope (top 67)) (fun _ => true) (defBody (top 67)) = true := by decide +kernel
theorem sc__law_table : FnScope ["source", "most", "many", "moves", "s", "k"] ["source", "most"] (defScope (top 67)) := ⟨rfl, rfl, rfl, by decide +kernel, rfl, by decide +kernel, by decide +kernel⟩
theorem ok__law_search : okSs { Γ with N := ["program", "table", "leads", "letters", "moves", "bad", "here", "known", "step", "waiting", "later", "is_step", "state", "s", "told", "then", "letter", "is_made", "now"] } d__law_search.body (defScope (top 68)) (fun _ => true) (defBody (top 68)) = true := by decide +kernel
theorem sc__law_search : FnScope ["program", "table", "leads", "letters", "moves", "bad", "here", "known", "step", "waiting", "later", "is_step", "state", "s", "told", "then", "letter", "is_made", "now"] ["program", "table"] (defScope (top 68)) := ⟨rfl, rfl, rfl, by decide +kernel, rfl, by decide +kernel, by decide +kernel⟩
theorem ok__law_many : okSs { Γ with N := ["body", "found", "statement", "inner", "some"] } d__law_many.body (defScope (top 69)) (fun _ => true) (defBody (top 69)) = true := by decide +kernel
theorem sc__law_many : FnScope ["body", "found", "statement", "inner", "some"] ["body"] (defScope (top 69)) := ⟨rfl, rfl, rfl, by decide +kernel, rfl, by decide +kernel, by decide +kernel⟩
theorem ok_law : okSs { Γ with N := ["script", "source", "most", "program", "table", "due", "whole", "e"] } d_law_2.body (defScope (top 70)) (fun _ => true) (defBody (top 70)) = true := by decide +kernel
theorem sc_law : FnScope ["script", "source", "most", "program", "table", "due", "whole", "e"] ["script"] (defScope (top 70)) := ⟨rfl, rfl, rfl, by decide +kernel, rfl, by decide +kernel, by decide +kernel⟩
end AT.K38
end
section
set_option maxHeartbeats 4000000
/-! k38: what the text says, bundled (printed by gen2.py). -/
namespace AT.K38
open PySem PySem.Spec PyProof.Rows L2 AT
structure Has (prog : Program) (K : PySem.W.Frag) : Prop where
  f_is_number : FnIn K "is_number" (top 14)
  f_is_of : FnIn K "is_of" (top 15)
  f_forms_of : FnIn K "forms_of" (top 16)
  f_has_form : FnIn K "has_form" (top 17)
  f_bodies_of : FnIn K "bodies_of" (top 18)
  f_walked : FnIn K "walked" (top 19)
  f_want_program : FnIn K "want_program" (top 20)
  f_made_program : FnIn K "made_program" (top 21)
  f_first_place : FnIn K "first_place" (top 23)
  f_end_place : FnIn K "end_place" (top 24)
  f_body_at : FnIn K "body_at" (top 25)
  f_statement_at : FnIn K "statement_at" (top 26)
  f_behind : FnIn K "behind" (top 27)
  f_statement_at_leads : FnIn K "statement_at_leads" (top 28)
  f_ways_at : FnIn K "ways_at" (top 29)
  f_emptied : FnIn K "emptied" (top 36)
  f_made : FnIn K "made" (top 37)
  f_taken : FnIn K "taken" (top 38)
  f_moved : FnIn K "moved" (top 39)
  f_gone_through : FnIn K "gone_through" (top 40)
  f_effects : FnIn K "effects" (top 41)
  f_ways_of : FnIn K "ways_of" (top 42)
  f_first_state : FnIn K "first_state" (top 44)
  f_is_row : FnIn K "is_row" (top 47)
  f_want_table : FnIn K "want_table" (top 48)
  f_moved_by : FnIn K "moved_by" (top 51)
  f_led_by : FnIn K "led_by" (top 52)
  f_costs_of : FnIn K "costs_of" (top 53)
  f_least_way : FnIn K "least_way" (top 54)
  f_least_steps : FnIn K "least_steps" (top 55)
  f_keeps : FnIn K "keeps" (top 56)
  f__law_pool : FnIn K "_law_pool" (top 58)
  f__law_take : FnIn K "_law_take" (top 59)
  f__law_one : FnIn K "_law_one" (top 60)
  f__law_plain : FnIn K "_law_plain" (top 61)
  f__law_body : FnIn K "_law_body" (top 62)
  f__law_leads : FnIn K "_law_leads" (top 63)
  f__law_places : FnIn K "_law_places" (top 64)
  f__law_ways : FnIn K "_law_ways" (top 65)
  f__law_letters : FnIn K "_law_letters" (top 66)
  f__law_table : FnIn K "_law_table" (top 67)
  f__law_search : FnIn K "_law_search" (top 68)
  f__law_many : FnIn K "_law_many" (top 69)
  f_law : FnIn K "law" (top 70)
  c_NAMES : CstIn K "NAMES" (.tup [(.str "a"), (.str "b"), (.str "c"), (.str "d")])
  c_PILES : CstIn K "PILES" (.tup [(.str "p"), (.str "q")])
  c_OWN_WORDS : CstIn K "OWN_WORDS" (.tup [(.str "u"), (.str "v"), (.str "w")])
  c_LOOP : CstIn K "LOOP" (.str "loop")
  c_EITHER : CstIn K "EITHER" (.str "either")
  c_MOST_STATEMENTS : CstIn K "MOST_STATEMENTS" (.int 40)
  c_DEEPEST : CstIn K "DEEPEST" (.int 6)
  c_ELDER : CstIn K "ELDER" (.str "e.")
  c_YOUNGER : CstIn K "YOUNGER" (.str "y.")
  c_NEW : CstIn K "NEW" (.str "y.new")
  c_LETTERS : CstIn K "LETTERS" (.tup [(.str "e.putp"), (.str "e.putq"), (.str "e.takep"), (.str "e.takeq"), (.str "e.end"), (.str "e.u"), (.str "e.v"), (.str "e.w"), (.str "y.putp"), (.str "y.putq"), (.str "y.takep"), (.str "y.takeq"), (.str "y.end"), (.str "y.u"), (.str "y.v"), (.str "y.w"), (.str "y.new")])
  c_ENDED : CstIn K "ENDED" (.str "x")
  c_MOST_STATES : CstIn K "MOST_STATES" (.int 200)
  c_TAKE : CstIn K "TAKE" (.str "take")
  b_len : PySem.W.nsIn K mainGlobals "len" = some none
  b_int : PySem.W.nsIn K mainGlobals "int" = some none
  b_max : PySem.W.nsIn K mainGlobals "max" = some none
  b_min : PySem.W.nsIn K mainGlobals "min" = some none
  b_tuple : PySem.W.nsIn K mainGlobals "tuple" = some none
  b_list : PySem.W.nsIn K mainGlobals "list" = some none
  b_all : PySem.W.nsIn K mainGlobals "all" = some none
  b_any : PySem.W.nsIn K mainGlobals "any" = some none
  b_sum : PySem.W.nsIn K mainGlobals "sum" = some none
  b_sorted : PySem.W.nsIn K mainGlobals "sorted" = some none
  b_isinstance : PySem.W.nsIn K mainGlobals "isinstance" = some none
  b_range : PySem.W.nsIn K mainGlobals "range" = some none
  b_enumerate : PySem.W.nsIn K mainGlobals "enumerate" = some none
  b_bool : PySem.W.nsIn K mainGlobals "bool" = some none
  b_str : PySem.W.nsIn K mainGlobals "str" = some none
  b_super : PySem.W.nsIn K mainGlobals "super" = some none
  opq : PySem.W.nsIn K cStatics "thirdparty.any" = some none
  h_push : PySem.W.nsIn K mainGlobals "heappush" = some (some (.builtin "_heapq.heappush"))
  h_pop : PySem.W.nsIn K mainGlobals "heappop" = some (some (.builtin "_heapq.heappop"))
  x_Refused : XcIn prog K "Refused" (inClass (top 2) 0)
  x_BadProgram : XcIn prog K "BadProgram" (inClass (top 2) 0)
  x_BadTable : XcIn prog K "BadTable" (inClass (top 2) 0)
  x_TooMany : XcIn prog K "TooMany" (inClass (top 2) 0)
  s_Refused_Refused : SubX K "Refused" "Refused" true
  s_Refused_BadProgram : SubX K "Refused" "BadProgram" false
  s_Refused_BadTable : SubX K "Refused" "BadTable" false
  s_Refused_TooMany : SubX K "Refused" "TooMany" false
  s_BadProgram_Refused : SubX K "BadProgram" "Refused" true
  s_BadProgram_BadProgram : SubX K "BadProgram" "BadProgram" true
  s_BadProgram_BadTable : SubX K "BadProgram" "BadTable" false
  s_BadProgram_TooMany : SubX K "BadProgram" "TooMany" false
  s_BadTable_Refused : SubX K "BadTable" "Refused" true
  s_BadTable_BadProgram : SubX K "BadTable" "BadProgram" false
  s_BadTable_BadTable : SubX K "BadTable" "BadTable" true
  s_BadTable_TooMany : SubX K "BadTable" "TooMany" false
  s_TooMany_Refused : SubX K "TooMany" "Refused" true
  s_TooMany_BadProgram : SubX K "TooMany" "BadProgram" false
  s_TooMany_BadTable : SubX K "TooMany" "BadTable" false
  s_TooMany_TooMany : SubX K "TooMany" "TooMany" true
theorem df_is_number {T : Wd} {a : Addr} {fd : FuncData} (F : Fun T.K "is_number" "is_number" (top 14) a fd) : DefAt T Γ f_is_number d_is_number a := by
  refine ⟨⟨"is_number", "is_number", (top 14), fd, ["thing"], ["thing"], F, sc_is_number, rfl, rfl, ok_is_number, F.binds (fun _ _ _ _ _ _ us hl => match us, hl with | [_], _ => rfl), fun ks to h => ?_⟩⟩
  have h2 : (f_is_number, ks, to) ∈ Γ.kws := h
  simp [Γ, f_is_number, f_least_steps] at h2
theorem df_is_of {T : Wd} {a : Addr} {fd : FuncData} (F : Fun T.K "is_of" "is_of" (top 15) a fd) : DefAt T Γ f_is_of d_is_of a := by
  refine ⟨⟨"is_of", "is_of", (top 15), fd, ["thing", "some"], ["thing", "some"], F, sc_is_of, rfl, rfl, ok_is_of, F.binds (fun _ _ _ _ _ _ us hl => match us, hl with | [_, _], _ => rfl), fun ks to h => ?_⟩⟩
  have h2 : (f_is_of, ks, to) ∈ Γ.kws := h
  simp [Γ, f_is_of, f_least_steps] at h2
theorem df_forms_of {T : Wd} {a : Addr} {fd : FuncData} (F : Fun T.K "forms_of" "forms_of" (top 16) a fd) : DefAt T Γ f_forms_of d_forms_of a := by
  refine ⟨⟨"forms_of", "forms_of", (top 16), fd, ["word"], ["word"], F, sc_forms_of, rfl, rfl, ok_forms_of, F.binds (fun _ _ _ _ _ _ us hl => match us, hl with | [_], _ => rfl), fun ks to h => ?_⟩⟩
  have h2 : (f_forms_of, ks, to) ∈ Γ.kws := h
  simp [Γ, f_forms_of, f_least_steps] at h2
theorem df_has_form {T : Wd} {a : Addr} {fd : FuncData} (F : Fun T.K "has_form" "has_form" (top 17) a fd) : DefAt T Γ f_has_form d_has_form a := by
  refine ⟨⟨"has_form", "has_form", (top 17), fd, ["thing", "body", "forms", "at", "form"], ["thing"], F, sc_has_form, rfl, rfl, ok_has_form, F.binds (fun _ _ _ _ _ _ us hl => match us, hl with | [_], _ => rfl), fun ks to h => ?_⟩⟩
  have h2 : (f_has_form, ks, to) ∈ Γ.kws := h
  simp [Γ, f_has_form, f_least_steps] at h2
theorem df_bodies_of {T : Wd} {a : Addr} {fd : FuncData} (F : Fun T.K "bodies_of" "bodies_of" (top 18) a fd) : DefAt T Γ f_bodies_of d_bodies_of a := by
  refine ⟨⟨"bodies_of", "bodies_of", (top 18), fd, ["statement", "place", "way"], ["statement", "place"], F, sc_bodies_of, rfl, rfl, ok_bodies_of, F.binds (fun _ _ _ _ _ _ us hl => match us, hl with | [_, _], _ => rfl), fun ks to h => ?_⟩⟩
  have h2 : (f_bodies_of, ks, to) ∈ Γ.kws := h
  simp [Γ, f_bodies_of, f_least_steps] at h2
theorem df_walked {T : Wd} {a : Addr} {fd : FuncData} (F : Fun T.K "walked" "walked" (top 19) a fd) : DefAt T Γ f_walked d_walked a := by
  refine ⟨⟨"walked", "walked", (top 19), fd, ["body", "ahead", "deep", "found", "index", "statement", "place", "leads", "inner"], ["body", "ahead", "deep", "found"], F, sc_walked, rfl, rfl, ok_walked, F.binds (fun _ _ _ _ _ _ us hl => match us, hl with | [_, _, _, _], _ => rfl), fun ks to h => ?_⟩⟩
  have h2 : (f_walked, ks, to) ∈ Γ.kws := h
  simp [Γ, f_walked, f_least_steps] at h2
theorem df_want_program {T : Wd} {a : Addr} {fd : FuncData} (F : Fun T.K "want_program" "want_program" (top 20) a fd) : DefAt T Γ f_want_program d_want_program a := by
  refine ⟨⟨"want_program", "want_program", (top 20), fd, ["thing", "found"], ["thing"], F, sc_want_program, rfl, rfl, ok_want_program, F.binds (fun _ _ _ _ _ _ us hl => match us, hl with | [_], _ => rfl), fun ks to h => ?_⟩⟩
  have h2 : (f_want_program, ks, to) ∈ Γ.kws := h
  simp [Γ, f_want_program, f_least_steps] at h2
theorem df_made_program {T : Wd} {a : Addr} {fd : FuncData} (F : Fun T.K "made_program" "made_program" (top 21) a fd) : DefAt T Γ f_made_program d_made_program a := by
  refine ⟨⟨"made_program", "made_program", (top 21), fd, ["thing"], ["thing"], F, sc_made_program, rfl, rfl, ok_made_program, F.binds (fun _ _ _ _ _ _ us hl => match us, hl with | [_], _ => rfl), fun ks to h => ?_⟩⟩
  have h2 : (f_made_program, ks, to) ∈ Γ.kws := h
  simp [Γ, f_made_program, f_least_steps] at h2
theorem df_first_place {T : Wd} {a : Addr} {fd : FuncData} (F : Fun T.K "first_place" "first_place" (top 23) a fd) : DefAt T Γ f_first_place d_first_place a := by
  refine ⟨⟨"first_place", "first_place", (top 23), fd, ["program"], ["program"], F, sc_first_place, rfl, rfl, ok_first_place, F.binds (fun _ _ _ _ _ _ us hl => match us, hl with | [_], _ => rfl), fun ks to h => ?_⟩⟩
  have h2 : (f_first_place, ks, to) ∈ Γ.kws := h
  simp [Γ, f_first_place, f_least_steps] at h2
theorem df_end_place {T : Wd} {a : Addr} {fd : FuncData} (F : Fun T.K "end_place" "end_place" (top 24) a fd) : DefAt T Γ f_end_place d_end_place a := by
  refine ⟨⟨"end_place", "end_place", (top 24), fd, ["program"], ["program"], F, sc_end_place, rfl, rfl, ok_end_place, F.binds (fun _ _ _ _ _ _ us hl => match us, hl with | [_], _ => rfl), fun ks to h => ?_⟩⟩
  have h2 : (f_end_place, ks, to) ∈ Γ.kws := h
  simp [Γ, f_end_place, f_least_steps] at h2
theorem df_body_at {T : Wd} {a : Addr} {fd : FuncData} (F : Fun T.K "body_at" "body_at" (top 25) a fd) : DefAt T Γ f_body_at d_body_at a := by
  refine ⟨⟨"body_at", "body_at", (top 25), fd, ["program", "leads", "body", "at", "statement"], ["program", "leads"], F, sc_body_at, rfl, rfl, ok_body_at, F.binds (fun _ _ _ _ _ _ us hl => match us, hl with | [_, _], _ => rfl), fun ks to h => ?_⟩⟩
  have h2 : (f_body_at, ks, to) ∈ Γ.kws := h
  simp [Γ, f_body_at, f_least_steps] at h2
theorem df_statement_at {T : Wd} {a : Addr} {fd : FuncData} (F : Fun T.K "statement_at" "statement_at" (top 26) a fd) : DefAt T Γ f_statement_at d_statement_at a := by
  refine ⟨⟨"statement_at", "statement_at", (top 26), fd, ["program", "place"], ["program", "place"], F, sc_statement_at, rfl, rfl, ok_statement_at, F.binds (fun _ _ _ _ _ _ us hl => match us, hl with | [_, _], _ => rfl), fun ks to h => ?_⟩⟩
  have h2 : (f_statement_at, ks, to) ∈ Γ.kws := h
  simp [Γ, f_statement_at, f_least_steps] at h2
theorem df_behind {T : Wd} {a : Addr} {fd : FuncData} (F : Fun T.K "behind" "behind" (top 27) a fd) : DefAt T Γ f_behind d_behind a := by
  refine ⟨⟨"behind", "behind", (top 27), fd, ["program", "place", "leads"], ["program", "place"], F, sc_behind, rfl, rfl, ok_behind, F.binds (fun _ _ _ _ _ _ us hl => match us, hl with | [_, _], _ => rfl), fun ks to h => ?_⟩⟩
  have h2 : (f_behind, ks, to) ∈ Γ.kws := h
  simp [Γ, f_behind, f_least_steps] at h2
theorem df_statement_at_leads {T : Wd} {a : Addr} {fd : FuncData} (F : Fun T.K "statement_at_leads" "statement_at_leads" (top 28) a fd) : DefAt T Γ f_statement_at_leads d_statement_at_leads a := by
  refine ⟨⟨"statement_at_leads", "statement_at_leads", (top 28), fd, ["program", "leads", "body", "at", "statement", "more"], ["program", "leads"], F, sc_statement_at_leads, rfl, rfl, ok_statement_at_leads, F.binds (fun _ _ _ _ _ _ us hl => match us, hl with | [_, _], _ => rfl), fun ks to h => ?_⟩⟩
  have h2 : (f_statement_at_leads, ks, to) ∈ Γ.kws := h
  simp [Γ, f_statement_at_leads, f_least_steps] at h2
theorem df_ways_at {T : Wd} {a : Addr} {fd : FuncData} (F : Fun T.K "ways_at" "ways_at" (top 29) a fd) : DefAt T Γ f_ways_at d_ways_at a := by
  refine ⟨⟨"ways_at", "ways_at", (top 29), fd, ["program", "place", "statement", "way"], ["program", "place"], F, sc_ways_at, rfl, rfl, ok_ways_at, F.binds (fun _ _ _ _ _ _ us hl => match us, hl with | [_, _], _ => rfl), fun ks to h => ?_⟩⟩
  have h2 : (f_ways_at, ks, to) ∈ Γ.kws := h
  simp [Γ, f_ways_at, f_least_steps] at h2
theorem df_emptied {T : Wd} {a : Addr} {fd : FuncData} (F : Fun T.K "emptied" "emptied" (top 36) a fd) : DefAt T Γ f_emptied d_emptied a := by
  refine ⟨⟨"emptied", "emptied", (top 36), fd, ["x", "a", "b"], ["x", "a", "b"], F, sc_emptied, rfl, rfl, ok_emptied, F.binds (fun _ _ _ _ _ _ us hl => match us, hl with | [_, _, _], _ => rfl), fun ks to h => ?_⟩⟩
  have h2 : (f_emptied, ks, to) ∈ Γ.kws := h
  simp [Γ, f_emptied, f_least_steps] at h2
theorem df_made {T : Wd} {a : Addr} {fd : FuncData} (F : Fun T.K "made" "made" (top 37) a fd) : DefAt T Γ f_made d_made a := by
  refine ⟨⟨"made", "made", (top 37), fd, ["x", "a", "b", "letters", "found"], ["x", "a", "b"], F, sc_made, rfl, rfl, ok_made, F.binds (fun _ _ _ _ _ _ us hl => match us, hl with | [_, _, _], _ => rfl), fun ks to h => ?_⟩⟩
  have h2 : (f_made, ks, to) ∈ Γ.kws := h
  simp [Γ, f_made, f_least_steps] at h2
theorem df_taken {T : Wd} {a : Addr} {fd : FuncData} (F : Fun T.K "taken" "taken" (top 38) a fd) : DefAt T Γ f_taken d_taken a := by
  refine ⟨⟨"taken", "taken", (top 38), fd, ["p", "x", "a", "b", "letters", "found"], ["p", "x", "a", "b"], F, sc_taken, rfl, rfl, ok_taken, F.binds (fun _ _ _ _ _ _ us hl => match us, hl with | [_, _, _, _], _ => rfl), fun ks to h => ?_⟩⟩
  have h2 : (f_taken, ks, to) ∈ Γ.kws := h
  simp [Γ, f_taken, f_least_steps] at h2
theorem df_moved {T : Wd} {a : Addr} {fd : FuncData} (F : Fun T.K "moved" "moved" (top 39) a fd) : DefAt T Γ f_moved d_moved a := by
  refine ⟨⟨"moved", "moved", (top 39), fd, ["y", "x", "a", "b", "letters"], ["y", "x", "a", "b"], F, sc_moved, rfl, rfl, ok_moved, F.binds (fun _ _ _ _ _ _ us hl => match us, hl with | [_, _, _, _], _ => rfl), fun ks to h => ?_⟩⟩
  have h2 : (f_moved, ks, to) ∈ Γ.kws := h
  simp [Γ, f_moved, f_least_steps] at h2
theorem df_gone_through {T : Wd} {a : Addr} {fd : FuncData} (F : Fun T.K "gone_through" "gone_through" (top 40) a fd) : DefAt T Γ f_gone_through d_gone_through a := by
  refine ⟨⟨"gone_through", "gone_through", (top 40), fd, ["deed", "x", "spot", "a", "b"], ["deed", "x", "spot", "a", "b"], F, sc_gone_through, rfl, rfl, ok_gone_through, F.binds (fun _ _ _ _ _ _ us hl => match us, hl with | [_, _, _, _, _], _ => rfl), fun ks to h => ?_⟩⟩
  have h2 : (f_gone_through, ks, to) ∈ Γ.kws := h
  simp [Γ, f_gone_through, f_least_steps] at h2
theorem df_effects {T : Wd} {a : Addr} {fd : FuncData} (F : Fun T.K "effects" "effects" (top 41) a fd) : DefAt T Γ f_effects d_effects a := by
  refine ⟨⟨"effects", "effects", (top 41), fd, ["statement", "a", "b", "word"], ["statement", "a", "b"], F, sc_effects, rfl, rfl, ok_effects, F.binds (fun _ _ _ _ _ _ us hl => match us, hl with | [_, _, _], _ => rfl), fun ks to h => ?_⟩⟩
  have h2 : (f_effects, ks, to) ∈ Γ.kws := h
  simp [Γ, f_effects, f_least_steps] at h2
theorem df_ways_of {T : Wd} {a : Addr} {fd : FuncData} (F : Fun T.K "ways_of" "ways_of" (top 42) a fd) : DefAt T Γ f_ways_of d_ways_of a := by
  refine ⟨⟨"ways_of", "ways_of", (top 42), fd, ["program", "state", "place", "a", "b", "statement", "then", "letters", "elder", "younger"], ["program", "state"], F, sc_ways_of, rfl, rfl, ok_ways_of, F.binds (fun _ _ _ _ _ _ us hl => match us, hl with | [_, _], _ => rfl), fun ks to h => ?_⟩⟩
  have h2 : (f_ways_of, ks, to) ∈ Γ.kws := h
  simp [Γ, f_ways_of, f_least_steps] at h2
theorem df_first_state {T : Wd} {a : Addr} {fd : FuncData} (F : Fun T.K "first_state" "first_state" (top 44) a fd) : DefAt T Γ f_first_state d_first_state a := by
  refine ⟨⟨"first_state", "first_state", (top 44), fd, ["program"], ["program"], F, sc_first_state, rfl, rfl, ok_first_state, F.binds (fun _ _ _ _ _ _ us hl => match us, hl with | [_], _ => rfl), fun ks to h => ?_⟩⟩
  have h2 : (f_first_state, ks, to) ∈ Γ.kws := h
  simp [Γ, f_first_state, f_least_steps] at h2
theorem df_is_row {T : Wd} {a : Addr} {fd : FuncData} (F : Fun T.K "is_row" "is_row" (top 47) a fd) : DefAt T Γ f_is_row d_is_row_1 a := by
  refine ⟨⟨"is_row", "is_row", (top 47), fd, ["row", "many", "state"], ["row", "many"], F, sc_is_row, rfl, rfl, ok_is_row, F.binds (fun _ _ _ _ _ _ us hl => match us, hl with | [_, _], _ => rfl), fun ks to h => ?_⟩⟩
  have h2 : (f_is_row, ks, to) ∈ Γ.kws := h
  simp [Γ, f_is_row, f_least_steps] at h2
theorem df_want_table {T : Wd} {a : Addr} {fd : FuncData} (F : Fun T.K "want_table" "want_table" (top 48) a fd) : DefAt T Γ f_want_table d_want_table a := by
  refine ⟨⟨"want_table", "want_table", (top 48), fd, ["table_", "part", "moves", "bad", "state", "row"], ["table_"], F, sc_want_table, rfl, rfl, ok_want_table, F.binds (fun _ _ _ _ _ _ us hl => match us, hl with | [_], _ => rfl), fun ks to h => ?_⟩⟩
  have h2 : (f_want_table, ks, to) ∈ Γ.kws := h
  simp [Γ, f_want_table, f_least_steps] at h2
theorem df_moved_by {T : Wd} {a : Addr} {fd : FuncData} (F : Fun T.K "moved_by" "moved_by" (top 51) a fd) : DefAt T Γ f_moved_by d_moved_by a := by
  refine ⟨⟨"moved_by", "moved_by", (top 51), fd, ["table_", "state", "letter"], ["table_", "state", "letter"], F, sc_moved_by, rfl, rfl, ok_moved_by, F.binds (fun _ _ _ _ _ _ us hl => match us, hl with | [_, _, _], _ => rfl), fun ks to h => ?_⟩⟩
  have h2 : (f_moved_by, ks, to) ∈ Γ.kws := h
  simp [Γ, f_moved_by, f_least_steps] at h2
theorem df_led_by {T : Wd} {a : Addr} {fd : FuncData} (F : Fun T.K "led_by" "led_by" (top 52) a fd) : DefAt T Γ f_led_by d_led_by a := by
  refine ⟨⟨"led_by", "led_by", (top 52), fd, ["table_", "state", "letters", "is_made", "letter"], ["table_", "state", "letters", "is_made"], F, sc_led_by, rfl, rfl, ok_led_by, F.binds (fun _ _ _ _ _ _ us hl => match us, hl with | [_, _, _, _], _ => rfl), fun ks to h => ?_⟩⟩
  have h2 : (f_led_by, ks, to) ∈ Γ.kws := h
  simp [Γ, f_led_by, f_least_steps] at h2
theorem df_costs_of {T : Wd} {a : Addr} {fd : FuncData} (F : Fun T.K "costs_of" "costs_of" (top 53) a fd) : DefAt T Γ f_costs_of d_costs_of a := by
  refine ⟨⟨"costs_of", "costs_of", (top 53), fd, ["program", "place", "word"], ["program", "place"], F, sc_costs_of, rfl, rfl, ok_costs_of, F.binds (fun _ _ _ _ _ _ us hl => match us, hl with | [_, _], _ => rfl), fun ks to h => ?_⟩⟩
  have h2 : (f_costs_of, ks, to) ∈ Γ.kws := h
  simp [Γ, f_costs_of, f_least_steps] at h2
theorem df_least_way {T : Wd} {a : Addr} {fd : FuncData} (F : Fun T.K "least_way" "least_way" (top 54) a fd) : DefAt T Γ f_least_way d_least_way a := by
  refine ⟨⟨"least_way", "least_way", (top 54), fd, ["program", "table_", "number", "waiting", "known", "steps", "many", "_", "node", "way", "state", "s", "more", "asked", "letters", "then", "led", "later"], ["program", "table_"], F, sc_least_way, rfl, rfl, ok_least_way, F.binds (fun _ _ _ _ _ _ us hl => match us, hl with | [_, _], _ => rfl), fun ks to h => ?_⟩⟩
  have h2 : (f_least_way, ks, to) ∈ Γ.kws := h
  simp [Γ, f_least_way, f_least_steps] at h2
theorem df_least_steps {T : Wd} {a : Addr} {fd : FuncData} (F : Fun T.K "least_steps" "least_steps" (top 55) a fd) : DefAt T Γ f_least_steps d_least_steps a := by
  refine ⟨⟨"least_steps", "least_steps", (top 55), fd, ["program", "table_", "found"], ["program", "table_"], F, sc_least_steps, rfl, rfl, ok_least_steps, F.binds (fun _ _ _ _ _ _ us hl => match us, hl with | [_, _], _ => rfl), fun ks to h => ?_⟩⟩
  have h2 : (f_least_steps, ks, to) ∈ Γ.kws := h
  simp [Γ, f_least_steps] at h2
  obtain ⟨oc, od, kV, doc, pm, an, cdv, ct, osl, rfl, lk, hcd⟩ := F.ex
  · obtain ⟨rfl, rfl⟩ := h2
    exact fun s ws hl => match ws, hl with | [_, _], _ => .of_eq rfl
theorem df_keeps {T : Wd} {a : Addr} {fd : FuncData} (F : Fun T.K "keeps" "keeps" (top 56) a fd) : DefAt T Γ f_keeps d_keeps a := by
  refine ⟨⟨"keeps", "keeps", (top 56), fd, ["program", "table_"], ["program", "table_"], F, sc_keeps, rfl, rfl, ok_keeps, F.binds (fun _ _ _ _ _ _ us hl => match us, hl with | [_, _], _ => rfl), fun ks to h => ?_⟩⟩
  have h2 : (f_keeps, ks, to) ∈ Γ.kws := h
  simp [Γ, f_keeps, f_least_steps] at h2
theorem df__law_pool {T : Wd} {a : Addr} {fd : FuncData} (F : Fun T.K "_law_pool" "_law_pool" (top 58) a fd) : DefAt T Γ f__law_pool d__law_pool a := by
  refine ⟨⟨"_law_pool", "_law_pool", (top 58), fd, ["script", "k", "cell", "big", "mixed"], ["script", "k"], F, sc__law_pool, rfl, rfl, ok__law_pool, F.binds (fun _ _ _ _ _ _ us hl => match us, hl with | [_, _], _ => rfl), fun ks to h => ?_⟩⟩
  have h2 : (f__law_pool, ks, to) ∈ Γ.kws := h
  simp [Γ, f__law_pool, f_least_steps] at h2
theorem df__law_take {T : Wd} {a : Addr} {fd : FuncData} (F : Fun T.K "_law_take" "_law_take" (top 59) a fd) : DefAt T Γ f__law_take d__law_take a := by
  refine ⟨⟨"_law_take", "_law_take", (top 59), fd, ["source", "top", "drawn"], ["source", "top"], F, sc__law_take, rfl, rfl, ok__law_take, F.binds (fun _ _ _ _ _ _ us hl => match us, hl with | [_, _], _ => rfl), fun ks to h => ?_⟩⟩
  have h2 : (f__law_take, ks, to) ∈ Γ.kws := h
  simp [Γ, f__law_take, f_least_steps] at h2
theorem df__law_one {T : Wd} {a : Addr} {fd : FuncData} (F : Fun T.K "_law_one" "_law_one" (top 60) a fd) : DefAt T Γ f__law_one d__law_one a := by
  refine ⟨⟨"_law_one", "_law_one", (top 60), fd, ["source", "things"], ["source", "things"], F, sc__law_one, rfl, rfl, ok__law_one, F.binds (fun _ _ _ _ _ _ us hl => match us, hl with | [_, _], _ => rfl), fun ks to h => ?_⟩⟩
  have h2 : (f__law_one, ks, to) ∈ Γ.kws := h
  simp [Γ, f__law_one, f_least_steps] at h2
theorem df__law_plain {T : Wd} {a : Addr} {fd : FuncData} (F : Fun T.K "_law_plain" "_law_plain" (top 61) a fd) : DefAt T Γ f__law_plain d__law_plain a := by
  refine ⟨⟨"_law_plain", "_law_plain", (top 61), fd, ["source", "own_names", "piles", "way", "x", "y", "pile"], ["source", "own_names", "piles"], F, sc__law_plain, rfl, rfl, ok__law_plain, F.binds (fun _ _ _ _ _ _ us hl => match us, hl with | [_, _, _], _ => rfl), fun ks to h => ?_⟩⟩
  have h2 : (f__law_plain, ks, to) ∈ Γ.kws := h
  simp [Γ, f__law_plain, f_least_steps] at h2
theorem df__law_body {T : Wd} {a : Addr} {fd : FuncData} (F : Fun T.K "_law_body" "_law_body" (top 62) a fd) : DefAt T Γ f__law_body d__law_body a := by
  refine ⟨⟨"_law_body", "_law_body", (top 62), fd, ["source", "many", "deep", "own_names", "piles", "found", "left", "way", "inner", "second", "one"], ["source", "many", "deep", "own_names", "piles"], F, sc__law_body, rfl, rfl, ok__law_body, F.binds (fun _ _ _ _ _ _ us hl => match us, hl with | [_, _, _, _, _], _ => rfl), fun ks to h => ?_⟩⟩
  have h2 : (f__law_body, ks, to) ∈ Γ.kws := h
  simp [Γ, f__law_body, f_least_steps] at h2
theorem df__law_leads {T : Wd} {a : Addr} {fd : FuncData} (F : Fun T.K "_law_leads" "_law_leads" (top 63) a fd) : DefAt T Γ f__law_leads d__law_leads a := by
  refine ⟨⟨"_law_leads", "_law_leads", (top 63), fd, ["body", "ahead", "after", "found", "at", "behind_v", "place", "statement", "ways", "way"], ["body", "ahead", "after"], F, sc__law_leads, rfl, rfl, ok__law_leads, F.binds (fun _ _ _ _ _ _ us hl => match us, hl with | [_, _, _], _ => rfl), fun ks to h => ?_⟩⟩
  have h2 : (f__law_leads, ks, to) ∈ Γ.kws := h
  simp [Γ, f__law_leads, f_least_steps] at h2
theorem df__law_places {T : Wd} {a : Addr} {fd : FuncData} (F : Fun T.K "_law_places" "_law_places" (top 64) a fd) : DefAt T Γ f__law_places d__law_places a := by
  refine ⟨⟨"_law_places", "_law_places", (top 64), fd, ["program"], ["program"], F, sc__law_places, rfl, rfl, ok__law_places, F.binds (fun _ _ _ _ _ _ us hl => match us, hl with | [_], _ => rfl), fun ks to h => ?_⟩⟩
  have h2 : (f__law_places, ks, to) ∈ Γ.kws := h
  simp [Γ, f__law_places, f_least_steps] at h2
theorem df__law_ways {T : Wd} {a : Addr} {fd : FuncData} (F : Fun T.K "_law_ways" "_law_ways" (top 65) a fd) : DefAt T Γ f__law_ways d__law_ways a := by
  refine ⟨⟨"_law_ways", "_law_ways", (top 65), fd, ["program", "leads", "state", "place", "one", "two", "statement", "on", "into", "word", "x", "told", "found", "y", "goal", "deed"], ["program", "leads", "state"], F, sc__law_ways, rfl, rfl, ok__law_ways, F.binds (fun _ _ _ _ _ _ us hl => match us, hl with | [_, _, _], _ => rfl), fun ks to h => ?_⟩⟩
  have h2 : (f__law_ways, ks, to) ∈ Γ.kws := h
  simp [Γ, f__law_ways, f_least_steps] at h2
theorem df__law_letters {T : Wd} {a : Addr} {fd : FuncData} (F : Fun T.K "_law_letters" "_law_letters" (top 66) a fd) : DefAt T Γ f__law_letters d__law_letters a := by
  refine ⟨⟨"_law_letters", "_law_letters", (top 66), fd, ["deeds", "deed"], [], F, sc__law_letters, rfl, rfl, ok__law_letters, F.binds (fun _ _ _ _ _ _ us hl => match us, hl with | [], _ => rfl), fun ks to h => ?_⟩⟩
  have h2 : (f__law_letters, ks, to) ∈ Γ.kws := h
  simp [Γ, f__law_letters, f_least_steps] at h2
theorem df__law_table {T : Wd} {a : Addr} {fd : FuncData} (F : Fun T.K "_law_table" "_law_table" (top 67) a fd) : DefAt T Γ f__law_table d__law_table a := by
  refine ⟨⟨"_law_table", "_law_table", (top 67), fd, ["source", "most", "many", "moves", "s", "k"], ["source", "most"], F, sc__law_table, rfl, rfl, ok__law_table, F.binds (fun _ _ _ _ _ _ us hl => match us, hl with | [_, _], _ => rfl), fun ks to h => ?_⟩⟩
  have h2 : (f__law_table, ks, to) ∈ Γ.kws := h
  simp [Γ, f__law_table, f_least_steps] at h2
theorem df__law_search {T : Wd} {a : Addr} {fd : FuncData} (F : Fun T.K "_law_search" "_law_search" (top 68) a fd) : DefAt T Γ f__law_search d__law_search a := by
  refine ⟨⟨"_law_search", "_law_search", (top 68), fd, ["program", "table", "leads", "letters", "moves", "bad", "here", "known", "step", "waiting", "later", "is_step", "state", "s", "told", "then", "letter", "is_made", "now"], ["program", "table"], F, sc__law_search, rfl, rfl, ok__law_search, F.binds (fun _ _ _ _ _ _ us hl => match us, hl with | [_, _], _ => rfl), fun ks to h => ?_⟩⟩
  have h2 : (f__law_search, ks, to) ∈ Γ.kws := h
  simp [Γ, f__law_search, f_least_steps] at h2
theorem df__law_many {T : Wd} {a : Addr} {fd : FuncData} (F : Fun T.K "_law_many" "_law_many" (top 69) a fd) : DefAt T Γ f__law_many d__law_many a := by
  refine ⟨⟨"_law_many", "_law_many", (top 69), fd, ["body", "found", "statement", "inner", "some"], ["body"], F, sc__law_many, rfl, rfl, ok__law_many, F.binds (fun _ _ _ _ _ _ us hl => match us, hl with | [_], _ => rfl), fun ks to h => ?_⟩⟩
  have h2 : (f__law_many, ks, to) ∈ Γ.kws := h
  simp [Γ, f__law_many, f_least_steps] at h2
theorem df_law {T : Wd} {a : Addr} {fd : FuncData} (F : Fun T.K "law" "law" (top 70) a fd) : DefAt T Γ f_law d_law_2 a := by
  refine ⟨⟨"law", "law", (top 70), fd, ["script", "source", "most", "program", "table", "due", "whole", "e"], ["script"], F, sc_law, rfl, rfl, ok_law, F.binds (fun _ _ _ _ _ _ us hl => match us, hl with | [_], _ => rfl), fun ks to h => ?_⟩⟩
  have h2 : (f_law, ks, to) ∈ Γ.kws := h
  simp [Γ, f_law, f_least_steps] at h2
theorem static {prog : Program} {K : PySem.W.Frag} {h : Heap} {mg : Str → Option Value} (X : K.In h) (G : h.Ns mainGlobals mg) (A : Has prog K) : ∃ (fl xl : List (Nat × Addr)) (a : Addr) (fd : FuncData),
    mg "law" = some (.ref a) ∧ fl.lookup f_law = some a ∧ Fun K "law" "law" (top 70) a fd ∧ ∀ (w : World) (base : Heap), Static ⟨prog, w, K, mg, base, fun f => fl.lookup f, fun _ => none, fun c => xl.lookup c, nmOf Γ.nms⟩ P Γ := by
  obtain ⟨a_is_number, d_is_number, n_is_number, F_is_number⟩ := A.f_is_number
  obtain ⟨a_is_of, d_is_of, n_is_of, F_is_of⟩ := A.f_is_of
  obtain ⟨a_forms_of, d_forms_of, n_forms_of, F_forms_of⟩ := A.f_forms_of
  obtain ⟨a_has_form, d_has_form, n_has_form, F_has_form⟩ := A.f_has_form
  obtain ⟨a_bodies_of, d_bodies_of, n_bodies_of, F_bodies_of⟩ := A.f_bodies_of
  obtain ⟨a_walked, d_walked, n_walked, F_walked⟩ := A.f_walked
  obtain ⟨a_want_program, d_want_program, n_want_program, F_want_program⟩ := A.f_want_program
  obtain ⟨a_made_program, d_made_program, n_made_program, F_made_program⟩ := A.f_made_program
  obtain ⟨a_first_place, d_first_place, n_first_place, F_first_place⟩ := A.f_first_place
  obtain ⟨a_end_place, d_end_place, n_end_place, F_end_place⟩ := A.f_end_place
  obtain ⟨a_body_at, d_body_at, n_body_at, F_body_at⟩ := A.f_body_at
  obtain ⟨a_statement_at, d_statement_at, n_statement_at, F_statement_at⟩ := A.f_statement_at
  obtain ⟨a_behind, d_behind, n_behind, F_behind⟩ := A.f_behind
  obtain ⟨a_statement_at_leads, d_statement_at_leads, n_statement_at_leads, F_statement_at_leads⟩ := A.f_statement_at_leads
  obtain ⟨a_ways_at, d_ways_at, n_ways_at, F_ways_at⟩ := A.f_ways_at
  obtain ⟨a_emptied, d_emptied, n_emptied, F_emptied⟩ := A.f_emptied
  obtain ⟨a_made, d_made, n_made, F_made⟩ := A.f_made
  obtain ⟨a_taken, d_taken, n_taken, F_taken⟩ := A.f_taken
  obtain ⟨a_moved, d_moved, n_moved, F_moved⟩ := A.f_moved
  obtain ⟨a_gone_through, d_gone_through, n_gone_through, F_gone_through⟩ := A.f_gone_through
  obtain ⟨a_effects, d_effects, n_effects, F_effects⟩ := A.f_effects
  obtain ⟨a_ways_of, d_ways_of, n_ways_of, F_ways_of⟩ := A.f_ways_of
  obtain ⟨a_first_state, d_first_state, n_first_state, F_first_state⟩ := A.f_first_state
  obtain ⟨a_is_row, d_is_row, n_is_row, F_is_row⟩ := A.f_is_row
  obtain ⟨a_want_table, d_want_table, n_want_table, F_want_table⟩ := A.f_want_table
  obtain ⟨a_moved_by, d_moved_by, n_moved_by, F_moved_by⟩ := A.f_moved_by
  obtain ⟨a_led_by, d_led_by, n_led_by, F_led_by⟩ := A.f_led_by
  obtain ⟨a_costs_of, d_costs_of, n_costs_of, F_costs_of⟩ := A.f_costs_of
  obtain ⟨a_least_way, d_least_way, n_least_way, F_least_way⟩ := A.f_least_way
  obtain ⟨a_least_steps, d_least_steps, n_least_steps, F_least_steps⟩ := A.f_least_steps
  obtain ⟨a_keeps, d_keeps, n_keeps, F_keeps⟩ := A.f_keeps
  obtain ⟨a__law_pool, d__law_pool, n__law_pool, F__law_pool⟩ := A.f__law_pool
  obtain ⟨a__law_take, d__law_take, n__law_take, F__law_take⟩ := A.f__law_take
  obtain ⟨a__law_one, d__law_one, n__law_one, F__law_one⟩ := A.f__law_one
  obtain ⟨a__law_plain, d__law_plain, n__law_plain, F__law_plain⟩ := A.f__law_plain
  obtain ⟨a__law_body, d__law_body, n__law_body, F__law_body⟩ := A.f__law_body
  obtain ⟨a__law_leads, d__law_leads, n__law_leads, F__law_leads⟩ := A.f__law_leads
  obtain ⟨a__law_places, d__law_places, n__law_places, F__law_places⟩ := A.f__law_places
  obtain ⟨a__law_ways, d__law_ways, n__law_ways, F__law_ways⟩ := A.f__law_ways
  obtain ⟨a__law_letters, d__law_letters, n__law_letters, F__law_letters⟩ := A.f__law_letters
  obtain ⟨a__law_table, d__law_table, n__law_table, F__law_table⟩ := A.f__law_table
  obtain ⟨a__law_search, d__law_search, n__law_search, F__law_search⟩ := A.f__law_search
  obtain ⟨a__law_many, d__law_many, n__law_many, F__law_many⟩ := A.f__law_many
  obtain ⟨a_law, d_law, n_law, F_law⟩ := A.f_law
  obtain ⟨A_Refused, N_Refused, ⟨I_Refused, D_Refused, X_Refused⟩, Y_Refused⟩ := A.x_Refused
  obtain ⟨A_BadProgram, N_BadProgram, ⟨I_BadProgram, D_BadProgram, X_BadProgram⟩, Y_BadProgram⟩ := A.x_BadProgram
  obtain ⟨A_BadTable, N_BadTable, ⟨I_BadTable, D_BadTable, X_BadTable⟩, Y_BadTable⟩ := A.x_BadTable
  obtain ⟨A_TooMany, N_TooMany, ⟨I_TooMany, D_TooMany, X_TooMany⟩, Y_TooMany⟩ := A.x_TooMany
  refine ⟨[(f_is_number, a_is_number), (f_is_of, a_is_of), (f_forms_of, a_forms_of), (f_has_form, a_has_form), (f_bodies_of, a_bodies_of), (f_walked, a_walked), (f_want_program, a_want_program), (f_made_program, a_made_program), (f_first_place, a_first_place), (f_end_place, a_end_place), (f_body_at, a_body_at), (f_statement_at, a_statement_at), (f_behind, a_behind), (f_statement_at_leads, a_statement_at_leads), (f_ways_at, a_ways_at), (f_emptied, a_emptied), (f_made, a_made), (f_taken, a_taken), (f_moved, a_moved), (f_gone_through, a_gone_through), (f_effects, a_effects), (f_ways_of, a_ways_of), (f_first_state, a_first_state), (f_is_row, a_is_row), (f_want_table, a_want_table), (f_moved_by, a_moved_by), (f_led_by, a_led_by), (f_costs_of, a_costs_of), (f_least_way, a_least_way), (f_least_steps, a_least_steps), (f_keeps, a_keeps), (f__law_pool, a__law_pool), (f__law_take, a__law_take), (f__law_one, a__law_one), (f__law_plain, a__law_plain), (f__law_body, a__law_body), (f__law_leads, a__law_leads), (f__law_places, a__law_places), (f__law_ways, a__law_ways), (f__law_letters, a__law_letters), (f__law_table, a__law_table), (f__law_search, a__law_search), (f__law_many, a__law_many), (f_law, a_law)], [(0, A_Refused), (1, A_BadProgram), (4, A_BadTable), (5, A_TooMany)], a_law, d_law, PySem.W.mg_of X G n_law, rfl, F_law, fun w base => ?_⟩
  exact {
    cok := ⟨fun c C z => nomatch z⟩
    fld := fun f n e => ⟨nmOf_at e, fun g z => nmOf_inj (by decide +kernel) (by decide +kernel) e g z, fun c C z => nomatch z⟩
    df := fun f a e => (show ∀ p ∈ [(f_is_number, a_is_number), (f_is_of, a_is_of), (f_forms_of, a_forms_of), (f_has_form, a_has_form), (f_bodies_of, a_bodies_of), (f_walked, a_walked), (f_want_program, a_want_program), (f_made_program, a_made_program), (f_first_place, a_first_place), (f_end_place, a_end_place), (f_body_at, a_body_at), (f_statement_at, a_statement_at), (f_behind, a_behind), (f_statement_at_leads, a_statement_at_leads), (f_ways_at, a_ways_at), (f_emptied, a_emptied), (f_made, a_made), (f_taken, a_taken), (f_moved, a_moved), (f_gone_through, a_gone_through), (f_effects, a_effects), (f_ways_of, a_ways_of), (f_first_state, a_first_state), (f_is_row, a_is_row), (f_want_table, a_want_table), (f_moved_by, a_moved_by), (f_led_by, a_led_by), (f_costs_of, a_costs_of), (f_least_way, a_least_way), (f_least_steps, a_least_steps), (f_keeps, a_keeps), (f__law_pool, a__law_pool), (f__law_take, a__law_take), (f__law_one, a__law_one), (f__law_plain, a__law_plain), (f__law_body, a__law_body), (f__law_leads, a__law_leads), (f__law_places, a__law_places), (f__law_ways, a__law_ways), (f__law_letters, a__law_letters), (f__law_table, a__law_table), (f__law_search, a__law_search), (f__law_many, a__law_many), (f_law, a_law)], ∃ d, P.defs p.1 = some d ∧ DefAt ⟨prog, w, K, mg, base, _, _, _, _⟩ Γ p.1 d p.2 from ac ⟨_, rfl, df_is_number F_is_number⟩ (ac ⟨_, rfl, df_is_of F_is_of⟩ (ac ⟨_, rfl, df_forms_of F_forms_of⟩ (ac ⟨_, rfl, df_has_form F_has_form⟩ (ac ⟨_, rfl, df_bodies_of F_bodies_of⟩ (ac ⟨_, rfl, df_walked F_walked⟩ (ac ⟨_, rfl, df_want_program F_want_program⟩ (ac ⟨_, rfl, df_made_program F_made_program⟩ (ac ⟨_, rfl, df_first_place F_first_place⟩ (ac ⟨_, rfl, df_end_place F_end_place⟩ (ac ⟨_, rfl, df_body_at F_body_at⟩ (ac ⟨_, rfl, df_statement_at F_statement_at⟩ (ac ⟨_, rfl, df_behind F_behind⟩ (ac ⟨_, rfl, df_statement_at_leads F_statement_at_leads⟩ (ac ⟨_, rfl, df_ways_at F_ways_at⟩ (ac ⟨_, rfl, df_emptied F_emptied⟩ (ac ⟨_, rfl, df_made F_made⟩ (ac ⟨_, rfl, df_taken F_taken⟩ (ac ⟨_, rfl, df_moved F_moved⟩ (ac ⟨_, rfl, df_gone_through F_gone_through⟩ (ac ⟨_, rfl, df_effects F_effects⟩ (ac ⟨_, rfl, df_ways_of F_ways_of⟩ (ac ⟨_, rfl, df_first_state F_first_state⟩ (ac ⟨_, rfl, df_is_row F_is_row⟩ (ac ⟨_, rfl, df_want_table F_want_table⟩ (ac ⟨_, rfl, df_moved_by F_moved_by⟩ (ac ⟨_, rfl, df_led_by F_led_by⟩ (ac ⟨_, rfl, df_costs_of F_costs_of⟩ (ac ⟨_, rfl, df_least_way F_least_way⟩ (ac ⟨_, rfl, df_least_steps F_least_steps⟩ (ac ⟨_, rfl, df_keeps F_keeps⟩ (ac ⟨_, rfl, df__law_pool F__law_pool⟩ (ac ⟨_, rfl, df__law_take F__law_take⟩ (ac ⟨_, rfl, df__law_one F__law_one⟩ (ac ⟨_, rfl, df__law_plain F__law_plain⟩ (ac ⟨_, rfl, df__law_body F__law_body⟩ (ac ⟨_, rfl, df__law_leads F__law_leads⟩ (ac ⟨_, rfl, df__law_places F__law_places⟩ (ac ⟨_, rfl, df__law_ways F__law_ways⟩ (ac ⟨_, rfl, df__law_letters F__law_letters⟩ (ac ⟨_, rfl, df__law_table F__law_table⟩ (ac ⟨_, rfl, df__law_search F__law_search⟩ (ac ⟨_, rfl, df__law_many F__law_many⟩ (ac ⟨_, rfl, df_law F_law⟩ (an))))))))))))))))))))))))))))))))))))))))))))) (f, a) (lk_mem e)
    fn := fun x f e => (show ∀ p ∈ Γ.fns, ∃ a, mg p.1 = some (.ref a) ∧ List.lookup p.2 _ = some a from ac ⟨_, PySem.W.mg_of X G n_is_number, rfl⟩ (ac ⟨_, PySem.W.mg_of X G n_is_of, rfl⟩ (ac ⟨_, PySem.W.mg_of X G n_forms_of, rfl⟩ (ac ⟨_, PySem.W.mg_of X G n_has_form, rfl⟩ (ac ⟨_, PySem.W.mg_of X G n_bodies_of, rfl⟩ (ac ⟨_, PySem.W.mg_of X G n_walked, rfl⟩ (ac ⟨_, PySem.W.mg_of X G n_want_program, rfl⟩ (ac ⟨_, PySem.W.mg_of X G n_made_program, rfl⟩ (ac ⟨_, PySem.W.mg_of X G n_first_place, rfl⟩ (ac ⟨_, PySem.W.mg_of X G n_end_place, rfl⟩ (ac ⟨_, PySem.W.mg_of X G n_body_at, rfl⟩ (ac ⟨_, PySem.W.mg_of X G n_statement_at, rfl⟩ (ac ⟨_, PySem.W.mg_of X G n_behind, rfl⟩ (ac ⟨_, PySem.W.mg_of X G n_statement_at_leads, rfl⟩ (ac ⟨_, PySem.W.mg_of X G n_ways_at, rfl⟩ (ac ⟨_, PySem.W.mg_of X G n_emptied, rfl⟩ (ac ⟨_, PySem.W.mg_of X G n_made, rfl⟩ (ac ⟨_, PySem.W.mg_of X G n_taken, rfl⟩ (ac ⟨_, PySem.W.mg_of X G n_moved, rfl⟩ (ac ⟨_, PySem.W.mg_of X G n_gone_through, rfl⟩ (ac ⟨_, PySem.W.mg_of X G n_effects, rfl⟩ (ac ⟨_, PySem.W.mg_of X G n_ways_of, rfl⟩ (ac ⟨_, PySem.W.mg_of X G n_first_state, rfl⟩ (ac ⟨_, PySem.W.mg_of X G n_is_row, rfl⟩ (ac ⟨_, PySem.W.mg_of X G n_want_table, rfl⟩ (ac ⟨_, PySem.W.mg_of X G n_moved_by, rfl⟩ (ac ⟨_, PySem.W.mg_of X G n_led_by, rfl⟩ (ac ⟨_, PySem.W.mg_of X G n_costs_of, rfl⟩ (ac ⟨_, PySem.W.mg_of X G n_least_way, rfl⟩ (ac ⟨_, PySem.W.mg_of X G n_least_steps, rfl⟩ (ac ⟨_, PySem.W.mg_of X G n_keeps, rfl⟩ (ac ⟨_, PySem.W.mg_of X G n__law_pool, rfl⟩ (ac ⟨_, PySem.W.mg_of X G n__law_take, rfl⟩ (ac ⟨_, PySem.W.mg_of X G n__law_one, rfl⟩ (ac ⟨_, PySem.W.mg_of X G n__law_plain, rfl⟩ (ac ⟨_, PySem.W.mg_of X G n__law_body, rfl⟩ (ac ⟨_, PySem.W.mg_of X G n__law_leads, rfl⟩ (ac ⟨_, PySem.W.mg_of X G n__law_places, rfl⟩ (ac ⟨_, PySem.W.mg_of X G n__law_ways, rfl⟩ (ac ⟨_, PySem.W.mg_of X G n__law_letters, rfl⟩ (ac ⟨_, PySem.W.mg_of X G n__law_table, rfl⟩ (ac ⟨_, PySem.W.mg_of X G n__law_search, rfl⟩ (ac ⟨_, PySem.W.mg_of X G n__law_many, rfl⟩ (ac ⟨_, PySem.W.mg_of X G n_law, rfl⟩ (an))))))))))))))))))))))))))))))))))))))))))))) (x, f) (lk_mem e)
    kw := fun f ks to e => (show ∀ p ∈ Γ.kws, p.2.2.length = p.2.1.length from ac rfl (an)) (f, ks, to) e
    cl := fun x c e => nomatch e
    mt := fun ms m e => nomatch e
    cs := fun x d e => (show ∀ p ∈ Γ.cst, ∃ v u, mg p.1 = some u ∧ RelV v u ∧ ∀ H, DV K _ H v p.2 from ac (CstIn.cs (T := ⟨prog, w, K, mg, base, _, _, _, _⟩) X G A.c_NAMES) (ac (CstIn.cs (T := ⟨prog, w, K, mg, base, _, _, _, _⟩) X G A.c_PILES) (ac (CstIn.cs (T := ⟨prog, w, K, mg, base, _, _, _, _⟩) X G A.c_OWN_WORDS) (ac (CstIn.cs (T := ⟨prog, w, K, mg, base, _, _, _, _⟩) X G A.c_LOOP) (ac (CstIn.cs (T := ⟨prog, w, K, mg, base, _, _, _, _⟩) X G A.c_EITHER) (ac (CstIn.cs (T := ⟨prog, w, K, mg, base, _, _, _, _⟩) X G A.c_MOST_STATEMENTS) (ac (CstIn.cs (T := ⟨prog, w, K, mg, base, _, _, _, _⟩) X G A.c_DEEPEST) (ac (CstIn.cs (T := ⟨prog, w, K, mg, base, _, _, _, _⟩) X G A.c_ELDER) (ac (CstIn.cs (T := ⟨prog, w, K, mg, base, _, _, _, _⟩) X G A.c_YOUNGER) (ac (CstIn.cs (T := ⟨prog, w, K, mg, base, _, _, _, _⟩) X G A.c_NEW) (ac (CstIn.cs (T := ⟨prog, w, K, mg, base, _, _, _, _⟩) X G A.c_LETTERS) (ac (CstIn.cs (T := ⟨prog, w, K, mg, base, _, _, _, _⟩) X G A.c_ENDED) (ac (CstIn.cs (T := ⟨prog, w, K, mg, base, _, _, _, _⟩) X G A.c_MOST_STATES) (ac (CstIn.cs (T := ⟨prog, w, K, mg, base, _, _, _, _⟩) X G A.c_TAKE) (an))))))))))))))) (x, d) (lk_mem e)
    ct := fun x d e => (show ∀ p ∈ Γ.tcs, ∃ a ob, mg p.1 = some (.ref a) ∧ K.lookup a = some ob ∧ ob.cls = .type "tuple" ∧ ob.dict = none ∧ (∀ H, DV K _ H (.ref a) p.2) ∧ D.isT p.2 = true from ac (CstIn.ct (T := ⟨prog, w, K, mg, base, _, _, _, _⟩) X G A.c_NAMES) (ac (CstIn.ct (T := ⟨prog, w, K, mg, base, _, _, _, _⟩) X G A.c_PILES) (ac (CstIn.ct (T := ⟨prog, w, K, mg, base, _, _, _, _⟩) X G A.c_OWN_WORDS) (ac (CstIn.ct (T := ⟨prog, w, K, mg, base, _, _, _, _⟩) X G A.c_LETTERS) (an))))) (x, d) (lk_mem e)
    bl := ac (PySem.W.mg_none_of X G A.b_len) (ac (PySem.W.mg_none_of X G A.b_int) (ac (PySem.W.mg_none_of X G A.b_max) (ac (PySem.W.mg_none_of X G A.b_min) (ac (PySem.W.mg_none_of X G A.b_tuple) (ac (PySem.W.mg_none_of X G A.b_list) (ac (PySem.W.mg_none_of X G A.b_all) (ac (PySem.W.mg_none_of X G A.b_any) (ac (PySem.W.mg_none_of X G A.b_sum) (ac (PySem.W.mg_none_of X G A.b_sorted) (ac (PySem.W.mg_none_of X G A.b_isinstance) (ac (PySem.W.mg_none_of X G A.b_range) (ac (PySem.W.mg_none_of X G A.b_enumerate) (ac (PySem.W.mg_none_of X G A.b_bool) (ac (PySem.W.mg_none_of X G A.b_str) (an)))))))))))))))
    hq := fun _ => ⟨PySem.W.mg_of X G A.h_push, PySem.W.mg_of X G A.h_pop⟩
    xs := {
      ex := fun x c e => (show ∀ p ∈ Γ.exs, ∃ B, mg p.1 = some (.ref B) ∧ List.lookup p.2 _ = some B ∧ ExAt ⟨prog, w, K, mg, base, _, _, _, _⟩ B from ac ⟨_, PySem.W.mg_of X G N_Refused, rfl, ⟨⟨_, _, X_Refused.xin (PySem.W.mg_none_of X G A.b_super) A.opq⟩⟩⟩ (ac ⟨_, PySem.W.mg_of X G N_BadProgram, rfl, ⟨⟨_, _, X_BadProgram.xin (PySem.W.mg_none_of X G A.b_super) A.opq⟩⟩⟩ (ac ⟨_, PySem.W.mg_of X G N_BadTable, rfl, ⟨⟨_, _, X_BadTable.xin (PySem.W.mg_none_of X G A.b_super) A.opq⟩⟩⟩ (ac ⟨_, PySem.W.mg_of X G N_TooMany, rfl, ⟨⟨_, _, X_TooMany.xin (PySem.W.mg_none_of X G A.b_super) A.opq⟩⟩⟩ (an))))) (x, c) (lk_mem e)
      xf := fun c B e => (show ∀ p ∈ [(0, A_Refused), (1, A_BadProgram), (4, A_BadTable), (5, A_TooMany)], XfC K p.2 ∧ PySem.W.findIn K (.ref p.2) "what" = some none from ac ⟨Y_Refused, X_Refused.wh⟩ (ac ⟨Y_BadProgram, X_BadProgram.wh⟩ (ac ⟨Y_BadTable, X_BadTable.wh⟩ (ac ⟨Y_TooMany, X_TooMany.wh⟩ (an))))) (c, B) (lk_mem e)
      sub := fun c c2 B B2 e e2 => (show ∀ p ∈ [(0, A_Refused), (1, A_BadProgram), (4, A_BadTable), (5, A_TooMany)], ∀ q ∈ [(0, A_Refused), (1, A_BadProgram), (4, A_BadTable), (5, A_TooMany)], PySem.W.exmOne K (.ref p.2) (.ref q.2) = some (P.cls.sub p.1 q.1) from ac (ac (SubX.ok A.s_Refused_Refused N_Refused N_Refused) (ac (SubX.ok A.s_Refused_BadProgram N_Refused N_BadProgram) (ac (SubX.ok A.s_Refused_BadTable N_Refused N_BadTable) (ac (SubX.ok A.s_Refused_TooMany N_Refused N_TooMany) (an))))) (ac (ac (SubX.ok A.s_BadProgram_Refused N_BadProgram N_Refused) (ac (SubX.ok A.s_BadProgram_BadProgram N_BadProgram N_BadProgram) (ac (SubX.ok A.s_BadProgram_BadTable N_BadProgram N_BadTable) (ac (SubX.ok A.s_BadProgram_TooMany N_BadProgram N_TooMany) (an))))) (ac (ac (SubX.ok A.s_BadTable_Refused N_BadTable N_Refused) (ac (SubX.ok A.s_BadTable_BadProgram N_BadTable N_BadProgram) (ac (SubX.ok A.s_BadTable_BadTable N_BadTable N_BadTable) (ac (SubX.ok A.s_BadTable_TooMany N_BadTable N_TooMany) (an))))) (ac (ac (SubX.ok A.s_TooMany_Refused N_TooMany N_Refused) (ac (SubX.ok A.s_TooMany_BadProgram N_TooMany N_BadProgram) (ac (SubX.ok A.s_TooMany_BadTable N_TooMany N_BadTable) (ac (SubX.ok A.s_TooMany_TooMany N_TooMany N_TooMany) (an))))) (an))))) (c, B) (lk_mem e) (c2, B2) (lk_mem e2)
      n0 := fun _ => rfl } }
end AT.K38
end
/-! R1: rules over Core: loops by an invariant. -/
namespace AT
open PySem (Str Addr)
theorem Sub.refl (G : Gp) : Sub G G := fun _ _ h => h
theorem Sub.up {G : Gp} {p : Addr} (h : G p = none) (c : Cell) : Sub G (up G p c) := fun a c' e => by
  unfold AT.up
  split
  · rename_i q
    rw [q, h] at e
    cases e
  · exact e
theorem Sub.trans {G H J : Gp} (a : Sub G H) (b : Sub H J) : Sub G J := fun x c e => b x c (a x c e)
@[simp] theorem up_same {G : Gp} {a : Addr} {c : Cell} : up G a c a = some c := by unfold up; simp
theorem up_ne {G : Gp} {a b : Addr} {c : Cell} (h : b ≠ a) : up G a c b = G b := by unfold up; simp [h]
@[simp] theorem up_up {G : Gp} {a : Addr} {c d : Cell} : up (up G a c) a d = up G a d := by
  funext b
  unfold up
  split <;> rfl
/-- while: k tells how many turns are left at most -/
theorem whl_rule {c : St → Gp → KB → Prop} {body : KS → St → Gp → Prop} {K : KS} (I : Nat → St → Gp → Prop)
    (step : ∀ k σ G, I k σ G → ∀ W : St → Gp → Prop, (∀ k' σ' G', k' < k → I k' σ' G' → W σ' G') → c σ G fun b G1 => if b = true then body { K with nx := W, ct := W, bk := K.nx } σ G1 else K.nx σ G1)
    {k : Nat} {σ : St} {G : Gp} (h : I k σ G) : ∃ n, whlN c body K n σ G := by
  have key : ∀ k n σ G, k < n → I k σ G → whlN c body K n σ G := by
    intro k
    induction k using Nat.strongRecOn with
    | _ k ih =>
      intro n σ G hn hi
      match n, hn with
      | n + 1, hn =>
        unfold whlN
        exact step k σ G hi _ fun k' σ' G' hk h' => ih k' hk n σ' G' (by omega) h'
  exact ⟨k + 1, key k (k + 1) σ G (Nat.lt_succ_self k) h⟩
/-- for: what holds of the items that are left -/
theorem for_rule {asg : D → St → Gp → (St → Gp → Prop) → Prop} {body : KS → St → Gp → Prop} {chk : Gp → Prop} {K : KS} (I : List D → St → Gp → Prop)
    (step : ∀ x xs σ G, I (x :: xs) σ G → ∀ W : St → Gp → Prop, (∀ σ' G', I xs σ' G' → W σ' G') → chk G ∧ asg x σ G fun σ1 G1 => body { K with nx := W, ct := W, bk := K.nx } σ1 G1)
    (fin : ∀ σ G, I [] σ G → chk G ∧ K.nx σ G) : ∀ {ds : List D} {σ : St} {G : Gp}, I ds σ G → forS asg body chk K ds σ G
  | [], σ, G, h => fin σ G h
  | x :: xs, σ, G, h => step x xs σ G h _ fun σ' G' h' => for_rule I step fin h'
/-- a list comprehension without a test: what each item becomes -/
theorem lc_rule {asg : D → St → Gp → (St → Gp → Prop) → Prop} {tst : St → Gp → KB → Prop} {elt : St → Gp → KE → Prop} {chk : Gp → Prop} {p : Addr} {σ : St} {Q : Gp → Prop} (I : List D → Gp → Prop)
    (step : ∀ x xs G, I (x :: xs) G → ∀ W : Gp → Prop, (∀ G', I xs G' → W G') → chk G ∧ asg x σ G fun σ1 G1 => tst σ1 G1 fun b G2 =>
      if b = true then elt σ1 G2 fun y G3 => match G3 p with
        | some (.lst acc) => acc.length < line ∧ W (up G3 p (.lst (acc ++ [y])))
        | _ => False
      else W G2)
    (fin : ∀ G, I [] G → chk G ∧ Q G) : ∀ {ds : List D} {G : Gp}, I ds G → lcS asg tst elt chk p σ Q ds G
  | [], G, h => fin G h
  | x :: xs, G, h => step x xs G h _ fun G' h' => lc_rule I step fin h'
end AT
namespace AT
open PySem (Str Addr)
@[simp] theorem ixN_nat (n j : Nat) : ixN n (j : Int) = if j < n then some j else none := by
  unfold ixN
  have h0 : (0 : Int) ≤ (j : Int) := by omega
  simp only [h0, if_true]
  by_cases h : j < n
  · have h2 : (j : Int) < (n : Int) := by omega
    simp [h, h2]
  · have h2 : ¬ (j : Int) < (n : Int) := by omega
    simp [h, h2]
@[simp] theorem ixD_nat {α : Type} (xs : List α) (j : Nat) : ixD xs (j : Int) = xs[j]? := by
  unfold ixD
  rw [ixN_nat]
  by_cases h : j < xs.length
  · simp [h]
  · simp [h]
@[simp] theorem ixD_0 {α : Type} (xs : List α) : ixD xs 0 = xs[0]? := ixD_nat xs 0
@[simp] theorem ixD_1 {α : Type} (xs : List α) : ixD xs 1 = xs[1]? := ixD_nat xs 1
@[simp] theorem ixD_2 {α : Type} (xs : List α) : ixD xs 2 = xs[2]? := ixD_nat xs 2
@[simp] theorem ixD_last {α : Type} (xs : List α) (x : α) : ixD (xs ++ [x]) (-1) = some x := by
  unfold ixD ixN
  have h1 : ¬ (0 : Int) ≤ -1 := by omega
  have h2 : -((xs ++ [x]).length : Int) ≤ -1 := by simp; omega
  have h3 : (-1 + ((xs ++ [x]).length : Int)).toNat = xs.length := by simp; omega
  simp only [h1, h2, h3, if_false, if_true]
  simp
@[simp] theorem cutD_init {α : Type} (xs : List α) (x : α) : cutD (xs ++ [x]) none (some (-1)) = xs := by
  unfold cutD sIx
  have h : (max (-1 + ((xs ++ [x]).length : Int)) 0).toNat = xs.length := by simp; omega
  simp only [List.drop_zero, Nat.sub_zero]
  have h1 : (-1 : Int) < 0 := by omega
  simp only [h1, if_true, h]
  simp
end AT
namespace AT
@[simp] theorem ixD_add1 {α : Type} (xs : List α) (j : Nat) : ixD xs ((j : Int) + 1) = xs[j + 1]? := ixD_nat xs (j + 1)
@[simp] theorem ixD_1add {α : Type} (xs : List α) (j : Nat) : ixD xs (1 + (j : Int)) = xs[j + 1]? := by rw [Int.add_comm]; exact ixD_nat xs (j + 1)
end AT
/-! M1: programs in plain Lean: statements, places, where the flow goes. -/
namespace AT
open PySem (Str Addr)
/-- a plain statement; names, piles and words are texts -/
inductive Act where
  | new (x : Str)
  | put (x p : Str)
  | take (p x : Str)
  | move (y x : Str)
  | fin (x : Str)
  | go (u x : Str)
  deriving DecidableEq
def Act.toDs : Act → List D
  | .new x => [.str "new", .str x]
  | .put x p => [.str "put", .str x, .str p]
  | .take p x => [.str "take", .str p, .str x]
  | .move y x => [.str "move", .str y, .str x]
  | .fin x => [.str "end", .str x]
  | .go u x => [.str "do", .str u, .str x]
/-- a statement -/
inductive Stm where
  | act (c : Act)
  | loop (b : List Stm)
  | either (b c : List Stm)
mutual
def Stm.toD : Stm → D
  | .act c => .tup c.toDs
  | .loop b => .tup [.str "loop", .tup (Stm.toDs b)]
  | .either b c => .tup [.str "either", .tup (Stm.toDs b), .tup (Stm.toDs c)]
def Stm.toDs : List Stm → List D
  | [] => []
  | s :: ss => s.toD :: Stm.toDs ss
end
theorem Stm.toDs_length : ∀ b : List Stm, (Stm.toDs b).length = b.length
  | [] => by simp [Stm.toDs]
  | s :: ss => by simp [Stm.toDs, Stm.toDs_length ss]
theorem Stm.toDs_get : ∀ (b : List Stm) (i : Nat), (Stm.toDs b)[i]? = (b[i]?).map Stm.toD
  | [], i => by simp [Stm.toDs]
  | s :: ss, 0 => by simp [Stm.toDs]
  | s :: ss, i + 1 => by simp [Stm.toDs, Stm.toDs_get ss i]
theorem Stm.toDs_append : ∀ b c : List Stm, Stm.toDs (b ++ c) = Stm.toDs b ++ Stm.toDs c
  | [], c => by simp [Stm.toDs]
  | s :: ss, c => by simp [Stm.toDs, Stm.toDs_append ss c]
/-- a place -/
abbrev Plc := List Nat
def plD (p : Plc) : D := .tup (p.map fun (i : Nat) => D.int i)
theorem plD_inj {p q : Plc} (h : plD p = plD q) : p = q := by
  unfold plD at h
  injection h with h
  induction p generalizing q with
  | nil => cases q with
    | nil => rfl
    | cons a q => cases h
  | cons a p ih => cases q with
    | nil => cases h
    | cons b q =>
      simp only [List.map_cons, List.cons.injEq, D.int.injEq] at h
      rw [Int.ofNat.inj h.1, ih h.2]
/-- the body that stands behind the leads -/
def bodyAt : List Stm → Plc → Option (List Stm)
  | b, [] => some b
  | b, [i] => match b[i]? with
    | some (.loop c) => some c
    | _ => none
  | b, i :: w :: r => match b[i]? with
    | some (.loop c) => bodyAt c (w :: r)
    | some (.either c d) => if w = 0 then bodyAt c r else if w = 1 then bodyAt d r else none
    | _ => none
/-- a body at its leads, and where the flow goes behind its end -/
inductive Pos (prog : List Stm) : Plc → List Stm → Plc → Prop
  | root : Pos prog [] prog [prog.length]
  | loop {l : Plc} {b : List Stm} {a : Plc} {i : Nat} {c : List Stm} : Pos prog l b a → b[i]? = some (.loop c) → Pos prog (l ++ [i]) c (l ++ [i])
  | left {l : Plc} {b : List Stm} {a : Plc} {i : Nat} {c d : List Stm} : Pos prog l b a → b[i]? = some (.either c d) → Pos prog (l ++ [i, 0]) c (if i + 1 < b.length then l ++ [i + 1] else a)
  | right {l : Plc} {b : List Stm} {a : Plc} {i : Nat} {c d : List Stm} : Pos prog l b a → b[i]? = some (.either c d) → Pos prog (l ++ [i, 1]) d (if i + 1 < b.length then l ++ [i + 1] else a)
theorem bodyAt_append : ∀ (l : Plc) (b c : List Stm) (r : Plc), bodyAt b l = some c → bodyAt b (l ++ r) = bodyAt c r
  | [], b, c, r, h => by
    simp [bodyAt] at h
    subst h
    rfl
  | [i], b, c, r, h => by
    simp only [bodyAt] at h
    split at h
    · rename_i d hd
      cases h
      cases r with
      | nil => simp [bodyAt, hd]
      | cons w r => simp [bodyAt, hd]
    · cases h
  | i :: w :: l, b, c, r, h => by
    simp only [bodyAt] at h
    simp only [List.cons_append, bodyAt]
    split at h
    · rename_i d hd
      exact bodyAt_append (w :: l) d c r h
    · rename_i d e hd
      split at h
      · rename_i hw
        simp only [hw, if_true]
        exact bodyAt_append l d c r h
      · rename_i hw
        split at h
        · rename_i hw2
          simp only [hw, hw2, if_true, if_false]
          exact bodyAt_append l e c r h
        · cases h
    · cases h
theorem Pos.body {prog : List Stm} {l : Plc} {b : List Stm} {a : Plc} (h : Pos prog l b a) : bodyAt prog l = some b := by
  induction h with
  | root => rfl
  | loop h e ih => rw [bodyAt_append _ _ _ _ ih]; simp [bodyAt, e]
  | left h e ih => rw [bodyAt_append _ _ _ _ ih]; simp [bodyAt, e]
  | right h e ih => rw [bodyAt_append _ _ _ _ ih]; simp [bodyAt, e]
end AT
/-! B1: places. -/
namespace AT
open PySem (Str Addr)
section
variable {P : Pr} {n : Nat} {G : Gp} {Q : KE} {E : KX}
theorem sp_body_at (h : P.defs f_body_at = some d_body_at) {prog body : List Stm} {l : Plc} (hb : bodyAt prog l = some body) (q : Q (.tup (Stm.toDs body)) G) : wpF P (n + 1) f_body_at [.tup (Stm.toDs prog), plD l] G Q E := by
  unfold wpF
  rw [h]
  refine ⟨rfl, ?_⟩
  simp [d_body_at, wpSs, wpS, wpE, wpEs, wpT, wpG, wpGs, CTs.len, start, D.truth, cmpW, line]
  refine whl_rule (I := fun k σ G' => G' = G ∧ ∃ (b : List Stm) (j : Nat) (r : Plc) (x : Option D), σ = [some (.tup (Stm.toDs prog)), some (plD l), some (.tup (Stm.toDs b)), some (.int j), x] ∧ l.drop j = r ∧ r.length = k ∧ bodyAt b r = some body) ?_ (k := l.length) ?_
  · rintro k σ G' ⟨rfl, b, j, r, x, rfl, h1, h2, h3⟩ W hW
    simp [primW, lenW, plD]
    by_cases hj : j < l.length
    · simp only [hj, if_true]
      have hl : l[j]? = some l[j] := List.getElem?_eq_getElem hj
      have hr : r = l[j] :: l.drop (j + 1) := by rw [← h1]; exact List.drop_eq_getElem_cons hj
      subst hr
      simp only [idxW, ixD_nat, List.getElem?_map, hl, Option.map_some, Stm.toDs_get]
      have h2' : (l.drop (j + 1)).length + 1 = k := by simp at h2 ⊢; omega
      cases hbi : b[l[j]]? with
      | none => 
        cases hd : l.drop (j + 1) with
        | nil => rw [hd] at h3; simp [bodyAt, hbi] at h3
        | cons w r => rw [hd] at h3; simp [bodyAt, hbi] at h3
      | some s =>
        cases s with
        | act ds =>
          cases hd : l.drop (j + 1) with
          | nil => rw [hd] at h3; simp [bodyAt, hbi] at h3
          | cons w r => rw [hd] at h3; simp [bodyAt, hbi] at h3
        | loop c =>
          simp [Stm.toD, eqO, D.pure, D.depth, D.eqB, binW]
          refine hW (l.drop (j + 1)).length _ _ (by omega) ⟨rfl, c, j + 1, l.drop (j + 1), _, rfl, rfl, rfl, ?_⟩
          cases hd : l.drop (j + 1) with
          | nil => rw [hd] at h3; simpa [bodyAt, hbi] using h3
          | cons w r => rw [hd] at h3; simpa [bodyAt, hbi] using h3
        | either c d =>
          cases hd : l.drop (j + 1) with
          | nil => rw [hd] at h3; simp [bodyAt, hbi] at h3
          | cons w r =>
            rw [hd] at h3
            have hw : l[j + 1]? = some w := by
              have := List.getElem?_drop (xs := l) (i := j + 1) (j := 0)
              rw [hd] at this
              simpa using this.symm
            have hr2 : l.drop (j + 2) = r := by
              have := List.drop_drop (i := 1) (j := j + 1) (l := l)
              rw [hd] at this
              simpa using this.symm
            simp only [bodyAt, hbi] at h3
            have hlen : r.length + 2 = k := by
              rw [hd] at h2'
              simpa using h2'
            simp [Stm.toD, eqO, D.pure, D.depth, D.eqB, binW, hw]
            split at h3
            · rename_i hw0
              subst hw0
              simp
              exact hW r.length _ _ (by omega) ⟨rfl, c, j + 2, r, _, rfl, hr2, rfl, h3⟩
            · split at h3
              · rename_i hw1
                subst hw1
                simp
                exact hW r.length _ _ (by omega) ⟨rfl, d, j + 2, r, _, rfl, hr2, rfl, h3⟩
              · cases h3
    · have hr : r = [] := by rw [← h1]; exact List.drop_eq_nil_of_le (by omega)
      subst hr
      simp [bodyAt] at h3
      subst h3
      simp only [hj, if_false]
      exact ⟨_, Sub.refl _, q⟩
  · exact ⟨rfl, prog, 0, l, none, rfl, rfl, rfl, hb⟩
end
end AT
/-! B2: statement_at, statement_at_leads, behind, ways_at. -/
namespace AT
open PySem (Str Addr)
structure DPlaces (P : Pr) : Prop where
  first_place : P.defs f_first_place = some d_first_place
  end_place : P.defs f_end_place = some d_end_place
  body_at : P.defs f_body_at = some d_body_at
  statement_at : P.defs f_statement_at = some d_statement_at
  behind : P.defs f_behind = some d_behind
  statement_at_leads : P.defs f_statement_at_leads = some d_statement_at_leads
  ways_at : P.defs f_ways_at = some d_ways_at
theorem plD_snoc (l : Plc) (i : Nat) : plD (l ++ [i]) = .tup (l.map (fun (i : Nat) => D.int i) ++ [.int i]) := by simp [plD]
@[simp] theorem idxW_pl_last (l : Plc) (i : Nat) (G : Gp) (Q : KE) : idxW (plD (l ++ [i])) (.int (-1)) G Q = Q (.int i) G := by
  rw [plD_snoc]
  simp [idxW]
@[simp] theorem sliW_pl1 (l : Plc) (i : Nat) (G : Gp) (Q : KE) : sliW (plD (l ++ [i])) none (some (-1)) G Q = Q (plD l) G := by
  rw [plD_snoc]
  simp [sliW]
  rfl
@[simp] theorem sliW_pl1' (l : Plc) (i w : Nat) (G : Gp) (Q : KE) : sliW (plD (l ++ [i, w])) none (some (-1)) G Q = Q (plD (l ++ [i])) G := by
  rw [show l ++ [i, w] = (l ++ [i]) ++ [w] by simp]
  exact sliW_pl1 _ _ _ _
theorem cutD_init2 {α : Type} (xs : List α) (x y : α) : cutD (xs ++ [x, y]) none (some (-2)) = xs := by
  unfold cutD sIx
  have h : (max (-2 + ((xs ++ [x, y]).length : Int)) 0).toNat = xs.length := by simp; omega
  simp only [List.drop_zero, Nat.sub_zero]
  have h1 : (-2 : Int) < 0 := by omega
  simp only [h1, if_true, h]
  simp
@[simp] theorem sliW_pl2 (l : Plc) (i w : Nat) (G : Gp) (Q : KE) : sliW (plD (l ++ [i, w])) none (some (-2)) G Q = Q (plD l) G := by
  have e : plD (l ++ [i, w]) = .tup (l.map (fun (i : Nat) => D.int i) ++ [.int i, .int w]) := by simp [plD]
  rw [e]
  simp only [sliW, cutD_init2]
  rfl
@[simp] theorem binW_pl (l : Plc) (i : Nat) (G : Gp) (Q : KE) : binW .add (plD l) (.tup [.int i]) G Q = (l.length + 1 ≤ 16777216 ∧ Q (plD (l ++ [i])) G) := by
  rw [plD_snoc]
  simp [binW, plD, line]
@[simp] theorem binW_plS (l : Plc) (i : Nat) (G : Gp) (Q : KE) : binW .add (plD l) (.tup [.int ((i : Int) + 1)]) G Q = (l.length + 1 ≤ 16777216 ∧ Q (plD (l ++ [i + 1])) G) := binW_pl l (i + 1) G Q
section
variable {P : Pr} {n : Nat} {G : Gp} {Q : KE} {E : KX}
theorem sp_first_place (h : DPlaces P) {x : D} (q : Q (.tup [.int 0]) G) : wpF P (n + 1) f_first_place [x] G Q E := by
  unfold wpF
  rw [h.first_place]
  refine ⟨rfl, ?_⟩
  simp [d_first_place, wpSs, wpS, wpE, wpEs, start, line]
  exact ⟨G, Sub.refl G, q⟩
theorem sp_end_place (h : DPlaces P) {prog : List Stm} (q : Q (plD [prog.length]) G) : wpF P (n + 1) f_end_place [.tup (Stm.toDs prog)] G Q E := by
  unfold wpF
  rw [h.end_place]
  refine ⟨rfl, ?_⟩
  simp [d_end_place, wpSs, wpS, wpE, wpEs, start, line, primW, lenW, Stm.toDs_length]
  exact ⟨G, Sub.refl G, q⟩
theorem sp_statement_at (h : DPlaces P) {prog b : List Stm} {l : Plc} {i : Nat} {s : Stm} (hb : bodyAt prog l = some b) (hi : b[i]? = some s) (q : Q s.toD G) : wpF P (n + 2) f_statement_at [.tup (Stm.toDs prog), plD (l ++ [i])] G Q E := by
  unfold wpF
  rw [h.statement_at]
  refine ⟨rfl, ?_⟩
  simp [d_statement_at, wpSs, wpS, wpE, wpEs, wpO, start, line]
  refine sp_body_at h.body_at (l := l) hb ?_
  simp [idxW, Stm.toDs_get, hi]
  exact ⟨G, Sub.refl G, q⟩
end
end AT
/-! B3: statement_at_leads. -/
namespace AT
open PySem (Str Addr)
/-- the statement whose body the leads lead to -/
def leadStm : List Stm → Plc → Option Stm
  | b, [] => none
  | b, [i] => match b[i]? with
    | some (.loop c) => some (.loop c)
    | _ => none
  | b, [i, w] => match b[i]? with
    | some (.loop c) => leadStm c [w]
    | some (.either c d) => some (.either c d)
    | _ => none
  | b, i :: w :: v :: r => match b[i]? with
    | some (.loop c) => leadStm c (w :: v :: r)
    | some (.either c d) => if w = 0 then leadStm c (v :: r) else if w = 1 then leadStm d (v :: r) else none
    | _ => none
theorem drop_cons {l : Plc} {j w : Nat} {r : Plc} (h : l.drop j = w :: r) : l[j]? = some w ∧ l.drop (j + 1) = r ∧ j < l.length ∧ l.length = j + 1 + r.length := by
  have h0 := List.getElem?_drop (xs := l) (i := j) (j := 0)
  have h1 := List.drop_drop (i := 1) (j := j) (l := l)
  have h2 : (l.drop j).length = (w :: r).length := by rw [h]
  rw [h] at h0 h1
  simp at h0 h1 h2
  refine ⟨h0.symm, h1.symm, ?_, ?_⟩
  · exact (List.getElem?_eq_some_iff.mp h0.symm).1
  · have := (List.getElem?_eq_some_iff.mp h0.symm).1
    omega
section
variable {P : Pr} {n : Nat} {G : Gp} {Q : KE} {E : KX}
theorem sp_statement_at_leads (h : DPlaces P) {prog : List Stm} {l : Plc} {s : Stm} (hb : leadStm prog l = some s) (q : Q s.toD G) : wpF P (n + 1) f_statement_at_leads [.tup (Stm.toDs prog), plD l] G Q E := by
  unfold wpF
  rw [h.statement_at_leads]
  refine ⟨rfl, ?_⟩
  simp [d_statement_at_leads, wpSs, wpS, wpE, wpEs, wpT, wpG, wpGs, CTs.len, start, D.truth, cmpW, line]
  refine whl_rule (I := fun k σ G' => G' = G ∧ ∃ (b : List Stm) (j : Nat) (r : Plc) (x y : Option D), σ = [some (.tup (Stm.toDs prog)), some (plD l), some (.tup (Stm.toDs b)), some (.int j), x, y] ∧ l.drop j = r ∧ r.length = k ∧ leadStm b r = some s) ?_ (k := l.length) ?_
  · rintro k σ G' ⟨rfl, b, j, r, x, y, rfl, h1, h2, h3⟩ W hW
    match r, h1, h3 with
    | [], h1, h3 => simp [leadStm] at h3
    | [i], h1, h3 =>
      obtain ⟨g1, g2, g3, g4⟩ := drop_cons h1
      simp only [leadStm] at h3
      split at h3
      · rename_i c hc
        cases h3
        have e : ((j : Int) + 1 = (l.length : Int)) := by simp at g4; omega
        simp [primW, lenW, plD, idxW, g1, Stm.toDs_get, hc, Stm.toD, eqO, D.pure, D.depth, D.eqB, binW, e]
        exact ⟨_, Sub.refl _, by simpa [Stm.toD] using q⟩
      · cases h3
    | [i, w], h1, h3 =>
      obtain ⟨g1, g2, g3, g4⟩ := drop_cons h1
      obtain ⟨k1, k2, k3, k4⟩ := drop_cons g2
      simp only [leadStm] at h3
      split at h3
      · rename_i c hc
        have ne : ¬ ((j : Int) + 1 = (l.length : Int)) := by omega
        simp [primW, lenW, plD, idxW, g1, Stm.toDs_get, hc, Stm.toD, eqO, D.pure, D.depth, D.eqB, binW, ne]
        exact hW 1 _ _ (by simp at h2; omega) ⟨rfl, c, j + 1, [w], _, _, rfl, g2, rfl, h3⟩
      · rename_i c d hc
        cases h3
        have e : ((j : Int) + 2 = (l.length : Int)) := by simp at g4; omega
        simp [primW, lenW, plD, idxW, g1, Stm.toDs_get, hc, Stm.toD, eqO, D.pure, D.depth, D.eqB, binW, e]
        exact ⟨_, Sub.refl _, by simpa [Stm.toD] using q⟩
      · cases h3
    | i :: w :: v :: r, h1, h3 =>
      obtain ⟨g1, g2, g3, g4⟩ := drop_cons h1
      obtain ⟨k1, k2, k3, k4⟩ := drop_cons g2
      simp only [leadStm] at h3
      simp at h2 g4
      split at h3
      · rename_i c hc
        have ne : ¬ ((j : Int) + 1 = (l.length : Int)) := by omega
        simp [primW, lenW, plD, idxW, g1, Stm.toDs_get, hc, Stm.toD, eqO, D.pure, D.depth, D.eqB, binW, ne]
        exact hW (r.length + 2) _ _ (by omega) ⟨rfl, c, j + 1, w :: v :: r, _, _, rfl, g2, rfl, h3⟩
      · rename_i c d hc
        have ne : ¬ ((j : Int) + 2 = (l.length : Int)) := by omega
        simp [primW, lenW, plD, idxW, g1, k1, Stm.toDs_get, hc, Stm.toD, eqO, D.pure, D.depth, D.eqB, binW, ne]
        split at h3
        · rename_i hw
          subst hw
          simp
          exact hW (r.length + 1) _ _ (by omega) ⟨rfl, c, j + 2, v :: r, _, _, rfl, k2, rfl, h3⟩
        · split at h3
          · rename_i hw
            subst hw
            simp
            exact hW (r.length + 1) _ _ (by omega) ⟨rfl, d, j + 2, v :: r, _, _, rfl, k2, rfl, h3⟩
          · cases h3
      · cases h3
  · exact ⟨rfl, prog, 0, l, none, none, rfl, rfl, rfl, hb⟩
end
theorem leadStm_append : ∀ (l : Plc) (b c : List Stm) (r : Plc), r ≠ [] → bodyAt b l = some c → leadStm b (l ++ r) = leadStm c r
  | [], b, c, r, hr, h => by
    simp [bodyAt] at h
    subst h
    rfl
  | [i], b, c, r, hr, h => by
    simp only [bodyAt] at h
    split at h
    · rename_i d hd
      cases h
      match r, hr with
      | [w], _ => simp [leadStm, hd]
      | w :: v :: r, _ => simp [leadStm, hd]
    · cases h
  | [i, w], b, c, r, hr, h => by
    simp only [bodyAt] at h
    split at h
    · rename_i d hd
      have := leadStm_append [w] d c r hr h
      match r, hr with
      | v :: r, _ => simpa [leadStm, hd] using this
    · rename_i d e hd
      match r, hr with
      | v :: r, _ =>
        simp only [List.cons_append, List.nil_append, leadStm, hd]
        split at h
        · rename_i hw
          cases h
          simp [hw]
        · rename_i hw
          split at h
          · rename_i hw2
            cases h
            simp [hw2]
          · cases h
    · cases h
  | i :: w :: v :: l, b, c, r, hr, h => by
    simp only [bodyAt] at h
    split at h
    · rename_i d hd
      have := leadStm_append (w :: v :: l) d c r hr (by simp only [bodyAt]; exact h)
      simpa [leadStm, hd] using this
    · rename_i d e hd
      simp only [List.cons_append, leadStm, hd]
      split at h
      · rename_i hw
        simp only [hw, if_true]
        exact leadStm_append (v :: l) d c r hr h
      · rename_i hw
        split at h
        · rename_i hw2
          simp only [hw, hw2, if_true, if_false]
          exact leadStm_append (v :: l) e c r hr h
        · cases h
    · cases h
end AT
/-! B4: behind, ways_at. -/
namespace AT
open PySem (Str Addr)
@[simp] theorem pures_ints (l : List Nat) : D.pures (l.map fun (i : Nat) => D.int i) = true := by
  induction l with
  | nil => rfl
  | cons i l ih => simpa [D.pures, D.pure] using ih
@[simp] theorem pures_append : ∀ (a b : List D), D.pures (a ++ b) = (D.pures a && D.pures b)
  | [], b => by simp [D.pures]
  | x :: a, b => by simp [D.pures, pures_append a b, Bool.and_assoc]
@[simp] theorem depths_ints (l : List Nat) : D.depths (l.map fun (i : Nat) => D.int i) = 0 := by
  induction l with
  | nil => rfl
  | cons i l ih => simpa [D.depths, D.depth] using ih
@[simp] theorem depths_append : ∀ (a b : List D), D.depths (a ++ b) = max (D.depths a) (D.depths b)
  | [], b => by simp [D.depths]
  | x :: a, b => by simp [D.depths, depths_append a b, Nat.max_assoc]
@[simp] theorem eqBs_nil : ∀ (a : List D), D.eqBs a [] = a.isEmpty
  | [] => rfl
  | x :: a => rfl
theorem binW_ii (i j : Int) (G : Gp) (Q : KE) : binW .add (.int i) (.int j) G Q = Q (.int (i + j)) G := rfl
@[simp] theorem pure_pl (l : Plc) : D.pure (plD l) = true := by simp [plD, D.pure]
@[simp] theorem depth_pl (l : Plc) : D.depth (plD l) = 1 := by simp [plD, D.depth]
theorem eqO_plnil (G : Gp) (l : Plc) : eqO G (plD l) (.tup []) = some l.isEmpty := by
  have e : eqO G (plD l) (.tup []) = if D.pure (plD l) && D.pure (.tup []) && decide (min (D.depth (plD l)) (D.depth (.tup [])) ≤ 60) then some (D.eqB (plD l) (.tup [])) else none := rfl
  rw [e]
  simp [D.pure, D.pures, D.depth, D.depths, plD, D.eqB]
section
variable {P : Pr} {n : Nat} {G : Gp} {Q : KE} {E : KX}
/-- what stands behind the i-th of a body -/
def nxt (l : Plc) (b : List Stm) (a : Plc) (i : Nat) : Plc := if i + 1 < b.length then l ++ [i + 1] else a
theorem sp_behind (h : DPlaces P) {prog b : List Stm} {l a : Plc} {i : Nat} (hp : Pos prog l b a) (hi : i < b.length) (hl : l.length < 1000) (q : Q (plD (nxt l b a i)) G) : wpF P (n + 2) f_behind [.tup (Stm.toDs prog), plD (l ++ [i])] G Q E := by
  unfold wpF
  rw [h.behind]
  refine ⟨rfl, ?_⟩
  simp [d_behind, wpSs, wpS, wpE, wpEs, wpT, wpO, wpG, wpGs, CTs.len, start, D.truth, cmpW, line]
  refine whl_rule (I := fun k σ G' => G' = G ∧ ∃ (l' : Plc) (b' : List Stm) (a' : Plc) (i' : Nat), σ = [some (.tup (Stm.toDs prog)), some (plD (l' ++ [i'])), some (plD l')] ∧ l'.length = k ∧ k < 1000 ∧ Pos prog l' b' a' ∧ i' < b'.length ∧ nxt l' b' a' i' = nxt l b a i) ?_ (k := l.length) ?_
  · rintro k σ G' ⟨rfl, l', b', a', i', rfl, h1, h1', h2, h3, h4⟩ W hW
    simp [binW_ii]
    refine sp_body_at h.body_at (l := l') h2.body ?_
    simp [primW, lenW, Stm.toDs_length, binW_ii]
    rw [← h4] at q
    by_cases hb : i' + 1 < b'.length
    · have ne : ¬ ((i' : Int) + 1 = (b'.length : Int)) := by omega
      simp [eqO, D.pure, D.depth, D.eqB, ne]
      refine ⟨by omega, _, Sub.refl _, ?_⟩
      simpa [nxt, hb] using q
    · have e : ((i' : Int) + 1 = (b'.length : Int)) := by omega
      have e2 : i' + 1 = b'.length := by omega
      simp only [nxt, hb, if_false] at q h4
      have e3 : eqO G' (.int ((i' : Int) + 1)) (.int (b'.length : Int)) = some true := by simp [eqO, D.pure, D.depth, D.eqB, e]
      simp only [e3, eqO_plnil]
      cases h2 with
      | root =>
        simp
        exact ⟨_, Sub.refl _, by rw [e2]; exact q⟩
      | @loop l2 b2 a2 j c h5 h6 =>
        simp
        refine sp_statement_at_leads h (l := l2 ++ [j]) (s := .loop b') ?_ ?_
        · rw [leadStm_append _ _ _ _ (by simp) h5.body]
          simp [leadStm, h6]
        · simp [Stm.toD, idxW, eqO, D.pure, D.depth, D.eqB]
          exact ⟨_, Sub.refl _, q⟩
      | @left l2 b2 a2 j c d h5 h6 =>
        simp
        refine sp_statement_at_leads h (l := l2 ++ [j, 0]) (s := .either b' d) ?_ ?_
        · rw [leadStm_append _ _ _ _ (by simp) h5.body]
          simp [leadStm, h6]
        · simp [Stm.toD, idxW, eqO, D.pure, D.depth, D.eqB]
          exact hW l2.length _ _ (by simp at h1; omega) ⟨rfl, l2, b2, a2, j, rfl, rfl, by simp at h1; omega, h5, (List.getElem?_eq_some_iff.mp h6).1, h4⟩
      | @right l2 b2 a2 j c d h5 h6 =>
        simp
        refine sp_statement_at_leads h (l := l2 ++ [j, 1]) (s := .either c b') ?_ ?_
        · rw [leadStm_append _ _ _ _ (by simp) h5.body]
          simp [leadStm, h6]
        · simp [Stm.toD, idxW, eqO, D.pure, D.depth, D.eqB]
          exact hW l2.length _ _ (by simp at h1; omega) ⟨rfl, l2, b2, a2, j, rfl, rfl, by simp at h1; omega, h5, (List.getElem?_eq_some_iff.mp h6).1, h4⟩
  · exact ⟨rfl, l, b, a, i, rfl, rfl, hl, hp, hi, rfl⟩
end
end AT
/-! B5: ways_at. -/
namespace AT
open PySem (Str Addr)
mutual
def Stm.pureB : Stm → Bool
  | .act c => true
  | .loop b => Stm.puresB b
  | .either b c => Stm.puresB b && Stm.puresB c
def Stm.puresB : List Stm → Bool
  | [] => true
  | s :: ss => s.pureB && Stm.puresB ss
end
theorem Stm.puresB_get : ∀ {b : List Stm} {i : Nat} {s : Stm}, Stm.puresB b = true → b[i]? = some s → s.pureB = true
  | [], i, s, h, e => by simp at e
  | x :: b, 0, s, h, e => by
    simp at e
    subst e
    simp [Stm.puresB] at h
    exact h.1
  | x :: b, i + 1, s, h, e => by
    simp at e
    simp [Stm.puresB] at h
    exact Stm.puresB_get h.2 e
mutual
theorem Stm.pure_toD : ∀ {s : Stm}, s.pureB = true → D.pure s.toD = true
  | .act c, h => by cases c <;> simp [Stm.toD, Act.toDs, D.pure, D.pures]
  | .loop b, h => by
    simp only [Stm.pureB] at h
    simp [Stm.toD, D.pure, D.pures, Stm.pure_toDs h]
  | .either b c, h => by
    simp [Stm.pureB] at h
    simp [Stm.toD, D.pure, D.pures, Stm.pure_toDs h.1, Stm.pure_toDs h.2]
theorem Stm.pure_toDs : ∀ {b : List Stm}, Stm.puresB b = true → D.pures (Stm.toDs b) = true
  | [], h => rfl
  | s :: ss, h => by
    simp [Stm.puresB] at h
    simp [Stm.toDs, D.pures, Stm.pure_toD h.1, Stm.pure_toDs h.2]
end
theorem Pos.pure {prog b : List Stm} {l a : Plc} (h : Pos prog l b a) (hp : Stm.puresB prog = true) : Stm.puresB b = true := by
  induction h with
  | root => exact hp
  | loop h e ih => have := Stm.puresB_get ih e; simpa [Stm.pureB] using this
  | left h e ih => have := Stm.puresB_get ih e; simp [Stm.pureB] at this; exact this.1
  | right h e ih => have := Stm.puresB_get ih e; simp [Stm.pureB] at this; exact this.2
theorem eqO_tupnil (G : Gp) (ds : List D) (h : D.pures ds = true) : eqO G (.tup ds) (.tup []) = some ds.isEmpty := by
  simp [eqO, D.pure, D.pures, D.depth, D.depths, D.eqB, h]
theorem Stm.toDs_isEmpty (b : List Stm) : (Stm.toDs b).isEmpty = b.isEmpty := by cases b <;> rfl
section
variable {P : Pr} {n : Nat} {G : Gp} {Q : KE} {E : KX}
theorem sp_ways_at (h : DPlaces P) {prog b : List Stm} {l a : Plc} {i : Nat} {c : List Stm} (hp : Pos prog l b a) (hi : b[i]? = some (.loop c)) (hl : l.length < 1000) (hpp : Stm.puresB prog = true) (q : Q (.tup [plD (nxt l b a i), plD (if c.isEmpty then l ++ [i] else l ++ [i, 0])]) G) :
    wpF P (n + 3) f_ways_at [.tup (Stm.toDs prog), plD (l ++ [i])] G Q E := by
  unfold wpF
  rw [h.ways_at]
  refine ⟨rfl, ?_⟩
  simp [d_ways_at, wpSs, wpS, wpE, wpEs, wpT, wpO, wpG, wpGs, CTs.len, start, D.truth, cmpW, line]
  refine sp_statement_at h hp.body hi ?_
  have pc : D.pures (Stm.toDs c) = true := by
    have := Stm.puresB_get (hp.pure hpp) hi
    simp only [Stm.pureB] at this
    exact Stm.pure_toDs this
  have e1 : eqO G (.str "loop") (.str "loop") = some true := by simp [eqO, D.pure, D.depth, D.eqB]
  simp [Stm.toD, idxW, e1]
  refine sp_behind h hp (List.getElem?_eq_some_iff.mp hi).1 hl ?_
  simp only [eqO_tupnil _ _ pc, Stm.toDs_isEmpty]
  cases hc : c.isEmpty with
  | true =>
    simp
    exact ⟨_, Sub.refl _, by simpa [hc] using q⟩
  | false =>
    simp
    have := binW_pl (l ++ [i]) 0
    simp at this
    simp [this]
    exact ⟨by omega, _, Sub.refl _, by simpa [hc] using q⟩
end
end AT
/-! B6: ways_at of an either. -/
namespace AT
open PySem (Str Addr)
section
variable {P : Pr} {n : Nat} {G : Gp} {Q : KE} {E : KX}
def way (l : Plc) (b : List Stm) (a : Plc) (i w : Nat) (c : List Stm) : Plc := if c.isEmpty then nxt l b a i else l ++ [i, w, 0]
theorem sp_ways_at2 (h : DPlaces P) {prog b : List Stm} {l a : Plc} {i : Nat} {c d : List Stm} (hp : Pos prog l b a) (hi : b[i]? = some (.either c d)) (hl : l.length < 1000) (hpp : Stm.puresB prog = true) (q : Q (.tup [plD (way l b a i 0 c), plD (way l b a i 1 d)]) G) :
    wpF P (n + 3) f_ways_at [.tup (Stm.toDs prog), plD (l ++ [i])] G Q E := by
  unfold wpF
  rw [h.ways_at]
  refine ⟨rfl, ?_⟩
  simp [d_ways_at, wpSs, wpS, wpE, wpEs, wpT, wpTs, wpI, wpO, wpG, wpGs, CTs.len, start, D.truth, cmpW, line]
  refine sp_statement_at h hp.body hi ?_
  have ne : ¬ (("either" : Str) = "loop") := by decide +kernel
  have e1 : eqO G (.str "either") (.str "loop") = some false := by simp [eqO, D.pure, D.depth, D.eqB, ne]
  have pu := Stm.puresB_get (hp.pure hpp) hi
  simp [Stm.pureB] at pu
  have i1 : i < b.length := (List.getElem?_eq_some_iff.mp hi).1
  have b1 : ∀ G Q, binW .add (plD (l ++ [i])) (.tup [.int 0, .int 0]) G Q = (l.length + 1 + 2 ≤ 16777216 ∧ Q (plD (l ++ [i, 0, 0])) G) := fun G Q => by simp [binW, plD, line]
  have b2 : ∀ G Q, binW .add (plD (l ++ [i])) (.tup [.int 1, .int 0]) G Q = (l.length + 1 + 2 ≤ 16777216 ∧ Q (plD (l ++ [i, 1, 0])) G) := fun G Q => by simp [binW, plD, line]
  have pc := Stm.pure_toDs pu.1
  have pd := Stm.pure_toDs pu.2
  simp [Stm.toD, idxW, e1, wipe, lcS]
  intro p hpG
  have fin : ∀ x y, x = plD (way l b a i 0 c) → y = plD (way l b a i 1 d) → ∃ G'', Sub G'' (del (up G p (.lst [x, y])) p) ∧ Q (.tup [x, y]) G'' := fun x y ex ey => ⟨G, fun z w hz => by
    unfold del
    by_cases e : z = p
    · rw [e, hpG] at hz; cases hz
    · simp [e, up_ne e, hz], by rw [ex, ey]; exact q⟩
  cases hc : c.isEmpty <;> cases hd : d.isEmpty <;> simp [binW_ii, eqO_tupnil _ _ pc, eqO_tupnil _ _ pd, Stm.toDs_isEmpty, hc, hd, b1, b2, line, primW, tupleOfW, seqL]
  · exact ⟨by omega, fin _ _ (by simp [way, hc]) (by simp [way, hd])⟩
  · refine ⟨by omega, sp_behind h hp i1 hl ?_⟩
    simp
    exact fin _ _ (by simp [way, hc]) (by simp [way, hd])
  · refine sp_behind h hp i1 hl ?_
    simp
    exact ⟨by omega, fin _ _ (by simp [way, hc]) (by simp [way, hd])⟩
  · refine sp_behind h hp i1 hl ?_
    simp
    refine sp_behind h hp i1 hl ?_
    simp
    exact fin _ _ (by simp [way, hc]) (by simp [way, hd])
end
end AT
/-! M2: what a statement does to two spots, in plain Lean. -/
namespace AT
open PySem (Str Addr)
def spD : Option Str → D
  | none => .non
  | some s => .str s
def ltD (l : List Str) : D := .tup (l.map D.str)
structure Eff where
  ls : List Str
  a : Option Str
  b : Option Str
def Eff.toD (e : Eff) : D := .tup [ltD e.ls, spD e.a, spD e.b]
def emptiedM (x : Str) (a b : Option Str) : Eff := if a = some x then ⟨["e.end"], some "x", b⟩ else if b = some x then ⟨["y.end"], a, some "x"⟩ else ⟨[], a, b⟩
def madeM (x : Str) (a b : Option Str) : List Eff :=
  let e := emptiedM x a b
  e :: (if e.a = none then [⟨e.ls, some x, e.b⟩] else if e.b = none then [⟨e.ls ++ [("y.new" : Str)], e.a, some x⟩] else [])
def takenM (p x : Str) (a b : Option Str) : List Eff :=
  let e := emptiedM x a b
  e :: ((if e.a = some p then [⟨e.ls ++ [(("e." : Str) ++ ("take" : Str)) ++ p], some x, e.b⟩] else []) ++ (if e.b = some p then [⟨e.ls ++ [(("y." : Str) ++ ("take" : Str)) ++ p], e.a, some x⟩] else []))
def movedM (y x : Str) (a b : Option Str) : List Eff := if x = y then [⟨[], a, b⟩] else
  let e := emptiedM x a b
  [⟨e.ls, if e.a = some y then some x else e.a, if e.b = some y then some x else e.b⟩]
def goneM (deed x : Str) (spot : Str) (a b : Option Str) : List Eff := if a = some x then [⟨[("e." : Str) ++ deed], some spot, b⟩] else if b = some x then [⟨[("y." : Str) ++ deed], a, some spot⟩] else [⟨[], a, b⟩]
end AT
namespace AT
open PySem (Str Addr)
def effM : Act → Option Str → Option Str → List Eff
  | .new x, a, b => madeM x a b
  | .take p x, a, b => takenM p x a b
  | .move y x, a, b => movedM y x a b
  | .put x p, a, b => goneM (("put" : Str) ++ p) x p a b
  | .fin x, a, b => goneM "end" x "x" a b
  | .go u x, a, b => goneM u x x a b
/-- short names -/
def Act.short : Act → Bool
  | .new x => decide (x.length ≤ 500)
  | .take p x => decide (p.length ≤ 500) && decide (x.length ≤ 500)
  | .move y x => decide (y.length ≤ 500) && decide (x.length ≤ 500)
  | .put x p => decide (x.length ≤ 500) && decide (p.length ≤ 500)
  | .fin x => decide (x.length ≤ 500)
  | .go u x => decide (u.length ≤ 500) && decide (x.length ≤ 500)
end AT
/-! B7: emptied, made, taken, moved, gone_through. -/
namespace AT
open PySem (Str Addr)
structure DWalker (P : Pr) : Prop where
  emptied : P.defs f_emptied = some d_emptied
  made : P.defs f_made = some d_made
  taken : P.defs f_taken = some d_taken
  moved : P.defs f_moved = some d_moved
  gone_through : P.defs f_gone_through = some d_gone_through
  effects : P.defs f_effects = some d_effects
theorem app_end (s : Str) (h : s = "e." ∨ s = "y.") : s.length + ("end" : Str).length ≤ 16777216 := by
  rcases h with rfl | rfl <;> decide +kernel
theorem e_end : ("e." : Str) ++ ("end" : Str) = "e.end" := by decide +kernel
theorem y_end : ("y." : Str) ++ ("end" : Str) = "y.end" := by decide +kernel
theorem eqO_sp (G : Gp) (a : Option Str) (x : Str) : eqO G (spD a) (.str x) = some (decide (a = some x)) := by
  cases a with
  | none => simp [spD, eqO, D.pure, D.depth, D.eqB]
  | some s =>
    simp [spD, eqO, D.pure, D.depth, D.eqB]
    by_cases e : s = x
    · simp [e]
    · simp [e]
section
variable {P : Pr} {n : Nat} {G : Gp} {Q : KE} {E : KX}
theorem sp_emptied (h : DWalker P) {x : Str} {a b : Option Str} (q : Q (emptiedM x a b).toD G) : wpF P (n + 1) f_emptied [.str x, spD a, spD b] G Q E := by
  unfold wpF
  rw [h.emptied]
  refine ⟨rfl, ?_⟩
  have l1 := app_end "e." (.inl rfl)
  have l2 := app_end "y." (.inr rfl)
  simp [d_emptied, wpSs, wpS, wpE, wpEs, wpT, start, cmpW, line, eqO_sp, binW, l1, l2, e_end, y_end]
  unfold emptiedM at q
  by_cases h1 : a = some x
  · simp [h1] at q ⊢
    exact ⟨G, Sub.refl G, q⟩
  · by_cases h2 : b = some x
    · simp [h1, h2] at q ⊢
      exact ⟨G, Sub.refl G, q⟩
    · simp [h1, h2] at q ⊢
      exact ⟨G, Sub.refl G, q⟩
end
end AT
/-! B8: made, taken, moved, gone_through. -/
namespace AT
open PySem (Str Addr)
@[simp] theorem isNon_sp (a : Option Str) : D.isNon (spD a) = a.isNone := by cases a <;> rfl
/-- what returns a list that was made anew -/
def RetL (Q : KE) (G : Gp) (ds : List D) : Prop := ∀ p, G p = none → Q (.ref p) (up G p (.lst ds))
section
variable {P : Pr} {n : Nat} {G : Gp} {Q : KE} {E : KX}
theorem emp_short (x : Str) (a b : Option Str) : (emptiedM x a b).ls.length ≤ 1 := by
  unfold emptiedM
  split
  · simp
  · split <;> simp
theorem binW_lt (l : List Str) (s : Str) (G : Gp) (Q : KE) : binW .add (ltD l) (.tup [.str s]) G Q = (l.length + 1 ≤ 16777216 ∧ Q (ltD (l ++ [s])) G) := by simp [binW, ltD, line]
theorem sp_made (h : DWalker P) {x : Str} {a b : Option Str} (q : RetL Q G ((madeM x a b).map Eff.toD)) : wpF P (n + 2) f_made [.str x, spD a, spD b] G Q E := by
  unfold wpF
  rw [h.made]
  refine ⟨rfl, ?_⟩
  simp [d_made, wpSs, wpS, wpE, wpEs, wpT, wpG, wpGs, CTs.len, start, cmpW, line]
  refine sp_emptied h ?_
  have sh := emp_short x a b
  unfold madeM at q
  generalize emptiedM x a b = e at q sh
  simp [Eff.toD, wpG, wpGs, CTs.len]
  intro p hp
  have q := q p hp
  cases ha : e.a with
  | none =>
    simp [ha, kindO, primW, appendW, line, spD]
    simp [ha, Eff.toD, spD] at q
    exact ⟨_, Sub.refl _, q⟩
  | some s =>
    cases hb : e.b with
    | none =>
      simp [ha, hb, kindO, primW, appendW, line, spD, binW_lt]
      simp [ha, hb, Eff.toD, spD] at q
      exact ⟨by omega, _, Sub.refl _, q⟩
    | some t =>
      simp [ha, hb, kindO, primW, appendW, line, spD]
      simp [ha, hb, Eff.toD, spD] at q
      exact ⟨_, Sub.refl _, q⟩
theorem sp_moved (h : DWalker P) {y x : Str} {a b : Option Str} (q : RetL Q G ((movedM y x a b).map Eff.toD)) : wpF P (n + 2) f_moved [.str y, .str x, spD a, spD b] G Q E := by
  unfold wpF
  rw [h.moved]
  refine ⟨rfl, ?_⟩
  have e1 : eqO G (.str x) (.str y) = some (decide (x = y)) := by simpa [spD] using eqO_sp G (some x) y
  simp [d_moved, wpSs, wpS, wpE, wpEs, wpT, wpG, wpGs, CTs.len, start, cmpW, line, e1]
  unfold movedM at q
  by_cases hxy : x = y
  · simp [hxy]
    intro p hp
    have q := q p hp
    simp [hxy, Eff.toD, ltD] at q
    exact ⟨_, Sub.refl _, q⟩
  · simp [hxy]
    refine sp_emptied h ?_
    simp only [hxy, if_false] at q
    generalize emptiedM x a b = e at q
    simp [Eff.toD, wpG, wpGs, CTs.len, eqO_sp]
    have fin : ∀ p, G p = none → ∃ G'', Sub G'' (up G p (.lst [(Eff.mk e.ls (if e.a = some y then some x else e.a) (if e.b = some y then some x else e.b)).toD])) ∧ Q (.ref p) G'' := fun p hp => ⟨_, Sub.refl _, by simpa using q p hp⟩
    by_cases h1 : e.a = some y <;> by_cases h2 : e.b = some y <;> simp [h1, h2, Eff.toD, spD] at fin ⊢ <;> exact fin
theorem sp_gone (h : DWalker P) {deed x spot : Str} {a b : Option Str} (hd : deed.length ≤ 1000) (q : RetL Q G ((goneM deed x spot a b).map Eff.toD)) : wpF P (n + 1) f_gone_through [.str deed, .str x, .str spot, spD a, spD b] G Q E := by
  unfold wpF
  rw [h.gone_through]
  refine ⟨rfl, ?_⟩
  have l1 : ("e." : Str).length = 2 := by decide +kernel
  have l2 : ("y." : Str).length = 2 := by decide +kernel
  have l3 : 2 + deed.length ≤ 16777216 := by omega
  simp [d_gone_through, wpSs, wpS, wpE, wpEs, wpT, wpG, wpGs, CTs.len, start, cmpW, line, eqO_sp, binW, l1, l2, l3]
  unfold goneM at q
  by_cases h1 : a = some x
  · simp [h1]
    intro p hp
    have q := q p hp
    simp [h1, Eff.toD, ltD, spD] at q
    exact ⟨_, Sub.refl _, q⟩
  · by_cases h2 : b = some x
    · simp [h1, h2]
      intro p hp
      have q := q p hp
      simp [h1, h2, Eff.toD, ltD, spD] at q
      exact ⟨_, Sub.refl _, q⟩
    · simp [h1, h2]
      intro p hp
      have q := q p hp
      simp [h1, h2, Eff.toD, ltD, spD] at q
      exact ⟨_, Sub.refl _, q⟩
theorem sp_taken (h : DWalker P) {p x : Str} {a b : Option Str} (hp : p.length ≤ 1000) (q : RetL Q G ((takenM p x a b).map Eff.toD)) : wpF P (n + 2) f_taken [.str p, .str x, spD a, spD b] G Q E := by
  unfold wpF
  rw [h.taken]
  refine ⟨rfl, ?_⟩
  have l1 : ("e." : Str).length + ("take" : Str).length ≤ 16777216 := by decide +kernel
  have l2 : ("y." : Str).length + ("take" : Str).length ≤ 16777216 := by decide +kernel
  have l3 : (("e." : Str) ++ ("take" : Str)).length = 6 := by decide +kernel
  have l4 : (("y." : Str) ++ ("take" : Str)).length = 6 := by decide +kernel
  have l5 : 6 + p.length ≤ 16777216 := by omega
  have bs : ∀ (s t : Str) G Q, binW .add (.str s) (.str t) G Q = (s.length + t.length ≤ 16777216 ∧ Q (.str (s ++ t)) G) := fun s t G Q => rfl
  simp [d_taken, wpSs, wpS, wpE, wpEs, wpT, wpG, wpGs, CTs.len, start, cmpW, line]
  refine sp_emptied h ?_
  have sh := emp_short x a b
  unfold takenM at q
  generalize emptiedM x a b = e at q sh
  simp [Eff.toD, wpG, wpGs, CTs.len]
  intro r hr
  have q := q r hr
  have s2 : e.ls.length + 1 ≤ 16777216 := by omega
  by_cases h1 : e.a = some p <;> by_cases h2 : e.b = some p <;> simp [h1, h2, eqO_sp, kindO, primW, appendW, line, binW_lt, bs, l1, l2, l3, l4, l5, s2] <;> simp [h1, h2, Eff.toD] at q <;> exact ⟨_, Sub.refl _, q⟩
end
end AT
/-! B9: effects. -/
namespace AT
open PySem (Str Addr)
theorem eqO_ss (G : Gp) (s t : Str) : eqO G (.str s) (.str t) = some (decide (s = t)) := by simpa [spD] using eqO_sp G (some s) t
theorem len_app (s t : Str) : (s ++ t).length = s.length + t.length := by
  show (s.cps ++ t.cps).size = s.cps.size + t.cps.size
  exact Array.size_append
section
variable {P : Pr} {n : Nat} {G : Gp} {Q : KE} {E : KX}
theorem binW_ss (s t : Str) (G : Gp) (Q : KE) : binW .add (.str s) (.str t) G Q = (s.length + t.length ≤ 16777216 ∧ Q (.str (s ++ t)) G) := rfl
theorem RetL.kp {ds : List D} (q : RetL Q G ds) : RetL (fun v G' => ∃ G'', Sub G'' G' ∧ Q v G'') G ds := fun p hp => ⟨_, Sub.refl _, q p hp⟩
theorem sp_effects (h : DWalker P) {c : Act} {a b : Option Str} (hs : c.short = true) (q : RetL Q G ((effM c a b).map Eff.toD)) : wpF P (n + 3) f_effects [.tup c.toDs, spD a, spD b] G Q E := by
  unfold wpF
  rw [h.effects]
  refine ⟨rfl, ?_⟩
  have n1 : ¬ (("take" : Str) = "new") := by decide +kernel
  have n2 : ¬ (("move" : Str) = "new") := by decide +kernel
  have n3 : ¬ (("put" : Str) = "new") := by decide +kernel
  have n4 : ¬ (("end" : Str) = "new") := by decide +kernel
  have n5 : ¬ (("do" : Str) = "new") := by decide +kernel
  have n6 : ¬ (("move" : Str) = "take") := by decide +kernel
  have n7 : ¬ (("put" : Str) = "take") := by decide +kernel
  have n8 : ¬ (("end" : Str) = "take") := by decide +kernel
  have n9 : ¬ (("do" : Str) = "take") := by decide +kernel
  have n10 : ¬ (("put" : Str) = "move") := by decide +kernel
  have n11 : ¬ (("end" : Str) = "move") := by decide +kernel
  have n12 : ¬ (("do" : Str) = "move") := by decide +kernel
  have n13 : ¬ (("end" : Str) = "put") := by decide +kernel
  have n14 : ¬ (("do" : Str) = "put") := by decide +kernel
  have n15 : ¬ (("do" : Str) = "end") := by decide +kernel
  have lp : ("put" : Str).length = 3 := by decide +kernel
  have le : ("end" : Str).length = 3 := by decide +kernel
  cases c <;> simp [Act.short] at hs <;> simp [d_effects, Act.toDs, wpSs, wpS, wpE, wpEs, wpT, wpG, wpGs, CTs.len, start, cmpW, line, idxW, eqO_ss, binW_ss, n1, n2, n3, n4, n5, n6, n7, n8, n9, n10, n11, n12, n13, n14, n15]
  · exact sp_made h q.kp
  · refine ⟨by omega, sp_gone h (by rw [len_app]; omega) q.kp⟩
  · exact sp_taken h (by omega) q.kp
  · exact sp_moved h q.kp
  · exact sp_gone h (by omega) q.kp
  · exact sp_gone h (by omega) q.kp
end
end AT
/-! M3: the places of a program with where each leads, in plain Lean. -/
namespace AT
open PySem (Str Addr)
mutual
theorem Stm.pureB_true : ∀ s : Stm, s.pureB = true
  | .act c => by simp [Stm.pureB]
  | .loop b => by simp [Stm.pureB, Stm.puresB_true b]
  | .either b c => by simp [Stm.pureB, Stm.puresB_true b, Stm.puresB_true c]
theorem Stm.puresB_true : ∀ b : List Stm, Stm.puresB b = true
  | [] => rfl
  | s :: ss => by simp [Stm.puresB, Stm.pureB_true s, Stm.puresB_true ss]
end
/-- a row of the leads: place, statement, where going on (or 0) leads, where 1 leads -/
structure Ld where
  pl : Plc
  st : Stm
  on : Plc
  into : Plc
mutual
def ldS (l a : Plc) (n i : Nat) : Stm → List Ld
  | .act c => [⟨l ++ [i], .act c, if i + 1 < n then l ++ [i + 1] else a, if i + 1 < n then l ++ [i + 1] else a⟩]
  | .loop b => ⟨l ++ [i], .loop b, if i + 1 < n then l ++ [i + 1] else a, if b.isEmpty then l ++ [i] else l ++ [i, 0]⟩ :: ldB (l ++ [i]) (l ++ [i]) b.length 0 b
  | .either b c => ⟨l ++ [i], .either b c, if b.isEmpty then (if i + 1 < n then l ++ [i + 1] else a) else l ++ [i, 0, 0], if c.isEmpty then (if i + 1 < n then l ++ [i + 1] else a) else l ++ [i, 1, 0]⟩ ::
      (ldB (l ++ [i, 0]) (if i + 1 < n then l ++ [i + 1] else a) b.length 0 b ++ ldB (l ++ [i, 1]) (if i + 1 < n then l ++ [i + 1] else a) c.length 0 c)
def ldB (l a : Plc) (n i : Nat) : List Stm → List Ld
  | [] => []
  | s :: ss => ldS l a n i s ++ ldB l a n (i + 1) ss
end
def leads (prog : List Stm) : List Ld := ldB [] [prog.length] prog.length 0 prog
def look (prog : List Stm) (p : Plc) : Option Ld := (leads prog).find? fun e => e.pl == p
/-- what a row of the leads says -/
structure LdOk (prog : List Stm) (e : Ld) (l : Plc) (b : List Stm) (a : Plc) (i : Nat) : Prop where
  pos : Pos prog l b a
  pl : e.pl = l ++ [i]
  get : b[i]? = some e.st
  on : e.on = match e.st with
    | .either c d => way l b a i 0 c
    | _ => nxt l b a i
  into : e.into = match e.st with
    | .loop c => if c.isEmpty then l ++ [i] else l ++ [i, 0]
    | .either c d => way l b a i 1 d
    | .act c => nxt l b a i
mutual
theorem ldS_ok {prog : List Stm} : ∀ (s : Stm) (l a : Plc) (b : List Stm) (i : Nat), Pos prog l b a → b[i]? = some s → ∀ e ∈ ldS l a b.length i s, ∃ l' b' a' i', LdOk prog e l' b' a' i'
  | .act c, l, a, b, i, hp, hi, e, he => by
    simp [ldS] at he
    subst he
    exact ⟨l, b, a, i, hp, rfl, hi, rfl, rfl⟩
  | .loop d, l, a, b, i, hp, hi, e, he => by
    simp only [ldS, List.mem_cons] at he
    rcases he with rfl | he
    · exact ⟨l, b, a, i, hp, rfl, hi, rfl, rfl⟩
    · exact ldB_ok d (l ++ [i]) (l ++ [i]) d 0 (Pos.loop hp hi) (by simp) e he
  | .either c d, l, a, b, i, hp, hi, e, he => by
    simp only [ldS, List.mem_cons, List.mem_append] at he
    rcases he with rfl | he | he
    · exact ⟨l, b, a, i, hp, rfl, hi, rfl, rfl⟩
    · exact ldB_ok c _ _ c 0 (Pos.left hp hi) (by simp) e he
    · exact ldB_ok d _ _ d 0 (Pos.right hp hi) (by simp) e he
theorem ldB_ok {prog : List Stm} : ∀ (ss : List Stm) (l a : Plc) (b : List Stm) (i : Nat), Pos prog l b a → b.drop i = ss → ∀ e ∈ ldB l a b.length i ss, ∃ l' b' a' i', LdOk prog e l' b' a' i'
  | [], l, a, b, i, hp, hi, e, he => by simp [ldB] at he
  | s :: ss, l, a, b, i, hp, hi, e, he => by
    simp only [ldB, List.mem_append] at he
    have h1 : b[i]? = some s := by
      have := List.getElem?_drop (xs := b) (i := i) (j := 0)
      rw [hi] at this
      simpa using this.symm
    have h2 : b.drop (i + 1) = ss := by
      have := List.drop_drop (i := 1) (j := i) (l := b)
      rw [hi] at this
      simpa using this.symm
    rcases he with he | he
    · exact ldS_ok s l a b i hp h1 e he
    · exact ldB_ok ss l a b (i + 1) hp h2 e he
end
theorem leads_ok {prog : List Stm} {e : Ld} (h : e ∈ leads prog) : ∃ l b a i, LdOk prog e l b a i := ldB_ok prog [] _ prog 0 Pos.root rfl e h
/-- the row of a statement -/
def ldRow (l : Plc) (b : List Stm) (a : Plc) (i : Nat) (s : Stm) : Ld := ⟨l ++ [i], s, (match s with
    | .either c d => way l b a i 0 c
    | _ => nxt l b a i), (match s with
    | .loop c => if c.isEmpty then l ++ [i] else l ++ [i, 0]
    | .either c d => way l b a i 1 d
    | .act c => nxt l b a i)⟩
theorem ldB_mem {l a : Plc} {n : Nat} : ∀ (ss : List Stm) (i j : Nat) (s : Stm), ss[j]? = some s → ∀ e ∈ ldS l a n (i + j) s, e ∈ ldB l a n i ss
  | [], i, j, s, h, e, he => by simp at h
  | t :: ss, i, 0, s, h, e, he => by
    simp at h
    subst h
    simp only [ldB, List.mem_append]
    exact .inl (by simpa using he)
  | t :: ss, i, j + 1, s, h, e, he => by
    simp at h
    simp only [ldB, List.mem_append]
    exact .inr (ldB_mem ss (i + 1) j s h e (by rw [show i + 1 + j = i + (j + 1) by omega]; exact he))
theorem pos_sub {prog : List Stm} {l : Plc} {b : List Stm} {a : Plc} (h : Pos prog l b a) : ∀ e ∈ ldB l a b.length 0 b, e ∈ leads prog := by
  induction h with
  | root => exact fun e he => he
  | @loop l b a i c h hi ih =>
    intro e he
    refine ih e (ldB_mem b 0 i _ hi e ?_)
    simp only [Nat.zero_add, ldS, List.mem_cons]
    exact .inr he
  | @left l b a i c d h hi ih =>
    intro e he
    refine ih e (ldB_mem b 0 i _ hi e ?_)
    simp only [Nat.zero_add, ldS, List.mem_cons, List.mem_append]
    exact .inr (.inl he)
  | @right l b a i c d h hi ih =>
    intro e he
    refine ih e (ldB_mem b 0 i _ hi e ?_)
    simp only [Nat.zero_add, ldS, List.mem_cons, List.mem_append]
    exact .inr (.inr he)
theorem pos_row {prog : List Stm} {l : Plc} {b : List Stm} {a : Plc} {i : Nat} {s : Stm} (h : Pos prog l b a) (hi : b[i]? = some s) : ldRow l b a i s ∈ leads prog := by
  refine pos_sub h _ (ldB_mem b 0 i s hi _ ?_)
  cases s <;> simp [ldS, ldRow, way, nxt]
/-- keys: every place below leads -/
theorem ld_key : (∀ (s : Stm) (l a : Plc) (n i : Nat), ∀ e ∈ ldS l a n i s, ∃ r, e.pl = l ++ i :: r) ∧ (∀ (b : List Stm) (l a : Plc) (n i : Nat), ∀ e ∈ ldB l a n i b, ∃ j r, i ≤ j ∧ j < i + b.length ∧ e.pl = l ++ j :: r) := by
  suffices h : ∀ (k : Nat), (∀ (s : Stm), sizeOf s < k → ∀ (l a : Plc) (n i : Nat), ∀ e ∈ ldS l a n i s, ∃ r, e.pl = l ++ i :: r) ∧ (∀ (b : List Stm), sizeOf b < k → ∀ (l a : Plc) (n i : Nat), ∀ e ∈ ldB l a n i b, ∃ j r, i ≤ j ∧ j < i + b.length ∧ e.pl = l ++ j :: r) from
    ⟨fun s => (h (sizeOf s + 1)).1 s (by omega), fun b => (h (sizeOf b + 1)).2 b (by omega)⟩
  intro k
  induction k with
  | zero => exact ⟨fun s h => by omega, fun s h => by omega⟩
  | succ k ih =>
    refine ⟨fun s hs l a n i e he => ?_, fun b hb l a n i e he => ?_⟩
    · cases s with
      | act c =>
        simp [ldS] at he
        exact ⟨[], by simp [he]⟩
      | loop b =>
        simp only [ldS, List.mem_cons] at he
        rcases he with rfl | he
        · exact ⟨[], rfl⟩
        · obtain ⟨j, r, h1, h2, h3⟩ := ih.2 b (by simp at hs; omega) _ _ _ _ e he
          exact ⟨j :: r, by simp [h3]⟩
      | either b c =>
        simp only [ldS, List.mem_cons, List.mem_append] at he
        rcases he with rfl | he | he
        · exact ⟨[], rfl⟩
        · obtain ⟨j, r, h1, h2, h3⟩ := ih.2 b (by simp at hs; omega) _ _ _ _ e he
          exact ⟨0 :: j :: r, by simp [h3]⟩
        · obtain ⟨j, r, h1, h2, h3⟩ := ih.2 c (by simp at hs; omega) _ _ _ _ e he
          exact ⟨1 :: j :: r, by simp [h3]⟩
    · cases b with
      | nil => simp [ldB] at he
      | cons s ss =>
        simp only [ldB, List.mem_append] at he
        rcases he with he | he
        · obtain ⟨r, hr⟩ := ih.1 s (by simp at hb; omega) _ _ _ _ e he
          exact ⟨i, r, by omega, by simp, hr⟩
        · obtain ⟨j, r, h1, h2, h3⟩ := ih.2 ss (by simp at hb; omega) _ _ _ _ e he
          exact ⟨j, r, by omega, by simp; omega, h3⟩
end AT
/-! M4: keys of the leads are distinct; valid places. -/
namespace AT
open PySem (Str Addr)
theorem ld_keyS {s : Stm} {l a : Plc} {n i : Nat} {e : Ld} (he : e ∈ ldS l a n i s) : ∃ r, e.pl = l ++ i :: r := ld_key.1 s l a n i e he
theorem ld_keyB {b : List Stm} {l a : Plc} {n i : Nat} {e : Ld} (he : e ∈ ldB l a n i b) : ∃ j r, i ≤ j ∧ j < i + b.length ∧ e.pl = l ++ j :: r := ld_key.2 b l a n i e he
def keysL (es : List Ld) : List Plc := es.map (·.pl)
mutual
theorem ldS_nodup : ∀ (s : Stm) (l a : Plc) (n i : Nat), (keysL (ldS l a n i s)).Nodup
  | .act c, l, a, n, i => by simp [ldS, keysL]
  | .loop b, l, a, n, i => by
    have h := ldB_nodup b (l ++ [i]) (l ++ [i]) b.length 0
    simp only [ldS, keysL, List.map_cons, List.nodup_cons]
    refine ⟨?_, h⟩
    intro hm
    obtain ⟨e, he, hp⟩ := List.mem_map.mp hm
    obtain ⟨j, r, h1, h2, h3⟩ := ld_keyB he
    rw [h3] at hp
    have := congrArg List.length hp
    simp at this
  | .either b c, l, a, n, i => by
    simp only [ldS, keysL, List.map_cons, List.map_append, List.nodup_cons, List.nodup_append]
    refine ⟨?_, ldB_nodup b _ _ _ 0, ldB_nodup c _ _ _ 0, ?_⟩
    · intro hm
      rcases List.mem_append.mp hm with hm | hm <;> obtain ⟨e, he, hp⟩ := List.mem_map.mp hm <;> obtain ⟨j, r, h1, h2, h3⟩ := ld_keyB he <;> rw [h3] at hp <;> have := congrArg List.length hp <;> simp at this
    · intro x hx y hy e
      obtain ⟨e1, he1, rfl⟩ := List.mem_map.mp hx
      obtain ⟨e2, he2, rfl⟩ := List.mem_map.mp hy
      obtain ⟨j, r, h1, h2, h3⟩ := ld_keyB he1
      obtain ⟨j', r', h1', h2', h3'⟩ := ld_keyB he2
      rw [h3, h3'] at e
      simp at e
theorem ldB_nodup : ∀ (b : List Stm) (l a : Plc) (n i : Nat), (keysL (ldB l a n i b)).Nodup
  | [], l, a, n, i => by simp [ldB, keysL]
  | s :: ss, l, a, n, i => by
    simp only [ldB, keysL, List.map_append, List.nodup_append]
    refine ⟨ldS_nodup s _ _ _ _, ldB_nodup ss _ _ _ _, ?_⟩
    intro x hx y hy e
    obtain ⟨e1, he1, rfl⟩ := List.mem_map.mp hx
    obtain ⟨e2, he2, rfl⟩ := List.mem_map.mp hy
    obtain ⟨r, h3⟩ := ld_keyS he1
    obtain ⟨j', r', h1', h2', h3'⟩ := ld_keyB he2
    rw [h3, h3'] at e
    simp at e
    omega
end
theorem leads_nodup (prog : List Stm) : (keysL (leads prog)).Nodup := ldB_nodup prog _ _ _ _
theorem find_nodup : ∀ {es : List Ld} {e : Ld}, (keysL es).Nodup → e ∈ es → es.find? (fun x => x.pl == e.pl) = some e
  | x :: es, e, hn, he => by
    simp only [keysL, List.map_cons, List.nodup_cons] at hn
    rw [List.find?_cons]
    rcases List.mem_cons.mp he with rfl | he
    · rw [show (e.pl == e.pl) = true from by simp]
    · have : x.pl ≠ e.pl := fun h => hn.1 (h ▸ List.mem_map.mpr ⟨e, he, rfl⟩)
      rw [show (x.pl == e.pl) = false from by simpa using this]
      exact find_nodup hn.2 he
theorem look_mem {prog : List Stm} {e : Ld} (h : e ∈ leads prog) : look prog e.pl = some e := find_nodup (leads_nodup prog) h
theorem look_some {prog : List Stm} {p : Plc} {e : Ld} (h : look prog p = some e) : e ∈ leads prog ∧ e.pl = p := ⟨List.mem_of_find?_eq_some h, by simpa using List.find?_some h⟩
/-- a place of the program, or its end -/
def PlOk (prog : List Stm) (p : Plc) : Prop := p = [prog.length] ∨ p ∈ keysL (leads prog)
theorem look_end (prog : List Stm) : look prog [prog.length] = none := by
  unfold look
  rw [List.find?_eq_none]
  intro e he
  obtain ⟨j, r, h1, h2, h3⟩ := ld_keyB he
  simp [h3]
  omega
theorem PlOk.first (prog : List Stm) : PlOk prog [0] := by
  cases prog with
  | nil => exact .inl rfl
  | cons s ss =>
    refine .inr (List.mem_map.mpr ⟨ldRow [] (s :: ss) [(s :: ss).length] 0 s, pos_row Pos.root (by simp), rfl⟩)
theorem PlOk.key {prog : List Stm} {l : Plc} {b : List Stm} {a : Plc} {i : Nat} (h : Pos prog l b a) (hi : i < b.length) : PlOk prog (l ++ [i]) :=
  .inr (List.mem_map.mpr ⟨ldRow l b a i b[i], pos_row h (List.getElem?_eq_getElem hi), rfl⟩)
theorem PlOk.after {prog : List Stm} {l : Plc} {b : List Stm} {a : Plc} (h : Pos prog l b a) : PlOk prog a := by
  induction h with
  | root => exact .inl rfl
  | loop h hi ih => exact PlOk.key h (List.getElem?_eq_some_iff.mp hi).1
  | left h hi ih =>
    split
    · exact PlOk.key h (by assumption)
    · exact ih
  | right h hi ih =>
    split
    · exact PlOk.key h (by assumption)
    · exact ih
theorem PlOk.nxt {prog : List Stm} {l : Plc} {b : List Stm} {a : Plc} (h : Pos prog l b a) (i : Nat) : PlOk prog (nxt l b a i) := by
  unfold AT.nxt
  split
  · exact PlOk.key h (by assumption)
  · exact PlOk.after h
theorem ne_len {c : List Stm} (h : c.isEmpty = false) : 0 < c.length := by
  cases c with
  | nil => simp at h
  | cons x c => simp
theorem LdOk.on_ok {prog : List Stm} {e : Ld} {l : Plc} {b : List Stm} {a : Plc} {i : Nat} (h : LdOk prog e l b a i) : PlOk prog e.on := by
  rw [h.on]
  have hg := h.get
  cases hs : e.st with
  | act c => exact PlOk.nxt h.pos i
  | loop c => exact PlOk.nxt h.pos i
  | either c d =>
    simp only [way]
    rw [hs] at hg
    cases hc : c.isEmpty with
    | true => exact PlOk.nxt h.pos i
    | false =>
      have := PlOk.key (Pos.left h.pos hg) (ne_len hc)
      simpa using this
theorem LdOk.into_ok {prog : List Stm} {e : Ld} {l : Plc} {b : List Stm} {a : Plc} {i : Nat} (h : LdOk prog e l b a i) : PlOk prog e.into := by
  rw [h.into]
  have hg := h.get
  cases hs : e.st with
  | act c => exact PlOk.nxt h.pos i
  | loop c =>
    rw [hs] at hg
    cases hc : c.isEmpty with
    | true => simp only [hc, if_true]; exact PlOk.key h.pos (List.getElem?_eq_some_iff.mp hg).1
    | false =>
      have := PlOk.key (Pos.loop h.pos hg) (ne_len hc)
      simp only [hc]
      simpa using this
  | either c d =>
    simp only [way]
    rw [hs] at hg
    cases hc : d.isEmpty with
    | true => exact PlOk.nxt h.pos i
    | false =>
      have := PlOk.key (Pos.right h.pos hg) (ne_len hc)
      simpa using this
theorem look_ok {prog : List Stm} {p : Plc} {e : Ld} (h : look prog p = some e) : PlOk prog e.on ∧ PlOk prog e.into := by
  obtain ⟨l, b, a, i, hl⟩ := leads_ok (look_some h).1
  exact ⟨hl.on_ok, hl.into_ok⟩
theorem PlOk.look {prog : List Stm} {p : Plc} (h : PlOk prog p) : p = [prog.length] ∨ ∃ e, look prog p = some e := by
  rcases h with h | h
  · exact .inl h
  · obtain ⟨e, he, rfl⟩ := List.mem_map.mp h
    exact .inr ⟨e, look_mem he⟩
/-! how many, how deep -/
mutual
def Stm.cnt : Stm → Nat
  | .act _ => 1
  | .loop b => 1 + Stm.cnts b
  | .either b c => 1 + (Stm.cnts b + Stm.cnts c)
def Stm.cnts : List Stm → Nat
  | [] => 0
  | s :: ss => s.cnt + Stm.cnts ss
end
mutual
def Stm.dep : Stm → Nat
  | .act _ => 0
  | .loop b => Stm.deps b
  | .either b c => max (Stm.deps b) (Stm.deps c)
/-- how deep a body is: 1, and its statements' bodies -/
def Stm.deps : List Stm → Nat
  | [] => 1
  | s :: ss => max (s.dep + 1) (Stm.deps ss)
end
mutual
theorem ldS_len : ∀ (s : Stm) (l a : Plc) (n i : Nat), (ldS l a n i s).length = s.cnt
  | .act c, l, a, n, i => by simp [ldS, Stm.cnt]
  | .loop b, l, a, n, i => by simp [ldS, Stm.cnt, ldB_len b]; omega
  | .either b c, l, a, n, i => by simp [ldS, Stm.cnt, ldB_len b, ldB_len c]; omega
theorem ldB_len : ∀ (b : List Stm) (l a : Plc) (n i : Nat), (ldB l a n i b).length = Stm.cnts b
  | [], l, a, n, i => by simp [ldB, Stm.cnts]
  | s :: ss, l, a, n, i => by simp [ldB, Stm.cnts, ldS_len s, ldB_len ss]
end
theorem leads_len (prog : List Stm) : (leads prog).length = Stm.cnts prog := ldB_len prog _ _ _ _
theorem Stm.deps_get : ∀ {b : List Stm} {i : Nat} {s : Stm}, b[i]? = some s → s.dep + 1 ≤ Stm.deps b
  | [], i, s, h => by simp at h
  | x :: b, 0, s, h => by
    simp at h
    subst h
    simp [Stm.deps]
    omega
  | x :: b, i + 1, s, h => by
    simp at h
    have := Stm.deps_get h
    simp [Stm.deps]
    omega
theorem Stm.deps_pos : ∀ (b : List Stm), 1 ≤ Stm.deps b
  | [] => by simp [Stm.deps]
  | s :: ss => by simp [Stm.deps]; omega
theorem Pos.deep {prog : List Stm} {l : Plc} {b : List Stm} {a : Plc} (h : Pos prog l b a) : l.length + 2 * Stm.deps b ≤ 2 * Stm.deps prog := by
  induction h with
  | root => simp
  | loop h hi ih => have := Stm.deps_get hi; simp [Stm.dep] at this ⊢; omega
  | left h hi ih => have := Stm.deps_get hi; simp [Stm.dep] at this ⊢; omega
  | right h hi ih => have := Stm.deps_get hi; simp [Stm.dep] at this ⊢; omega
end AT
/-! S0: texts that stand written; the tactic that runs straight code. -/
namespace AT
open PySem (Str Addr)
theorem str_ext {s t : Str} (h : s.cps = t.cps) : s = t := by
  cases s; cases t; cases h; rfl
theorem ofString_inj' {s t : String} (h : PySem.Str.ofString s = PySem.Str.ofString t) : s = t := by
  rw [PySem.Str.ofString_eq_toList, PySem.Str.ofString_eq_toList] at h
  injection h with h
  have h := congrArg Array.toList h
  simp only at h
  have inj : ∀ (a b : List Char), a.map Char.toNat = b.map Char.toNat → a = b := by
    intro a
    induction a with
    | nil => intro b hb; cases b with
      | nil => rfl
      | cons y b => simp at hb
    | cons x a ih => intro b hb; cases b with
      | nil => simp at hb
      | cons y b =>
        simp only [List.map_cons, List.cons.injEq] at hb
        rw [ih b hb.2, Char.toNat_inj.mp hb.1]
  exact String.toList_inj.mp (inj _ _ h)
@[simp] theorem ofString_inj (s t : String) : (PySem.Str.ofString s = PySem.Str.ofString t) = (s = t) := propext ⟨ofString_inj', fun h => by rw [h]⟩
@[simp] theorem ofString_app (s t : String) : PySem.Str.ofString s ++ PySem.Str.ofString t = PySem.Str.ofString (s ++ t) := by
  apply str_ext
  rw [PySem.Str.ofString_eq_toList, PySem.Str.ofString_eq_toList, PySem.Str.ofString_eq_toList]
  show (List.map Char.toNat s.toList).toArray ++ (List.map Char.toNat t.toList).toArray = (List.map Char.toNat (s ++ t).toList).toArray
  simp
@[simp] theorem ofString_len (s : String) : (PySem.Str.ofString s).length = s.toList.length := by
  rw [PySem.Str.ofString_eq_toList]
  show (List.map Char.toNat s.toList).toArray.size = _
  simp
theorem eqO_ss' (G : Gp) (s t : Str) : eqO G (.str s) (.str t) = some (decide (s = t)) := by
  simp only [eqO, D.pure, D.depth, D.eqB]
  by_cases h : s = t <;> simp [h]
theorem len_app' (s t : Str) : (s ++ t).length = s.length + t.length := Array.size_append
theorem app_assoc (s t u : Str) : s ++ t ++ u = s ++ (t ++ u) := str_ext Array.append_assoc
example : ("take" : Str) ≠ "new" := by simp
example : ("e." : Str) ++ ("take" : Str) = "e.take" := by simp
example : ("e.take" : Str).length ≤ 7 := by simp
example : (("take" : Str) == "new") = false := by simp
example : [("take" : Str), ("new" : Str)].any (fun x => x == ("new" : Str)) = true := by simp
end AT
/-! M5: the walker in plain Lean. -/
namespace AT
open PySem (Str Addr)
def nmS : List Str := [("a" : Str), ("b" : Str), ("c" : Str), ("d" : Str)]
def piS : List Str := [("p" : Str), ("q" : Str)]
def wdS : List Str := [("u" : Str), ("v" : Str), ("w" : Str)]
def Act.ok : Act → Bool
  | .new x => nmS.contains x
  | .put x p => nmS.contains x && piS.contains p
  | .take p x => piS.contains p && nmS.contains x
  | .move y x => nmS.contains y && nmS.contains x
  | .fin x => nmS.contains x
  | .go u x => wdS.contains u && nmS.contains x
mutual
def Stm.ok : Stm → Bool
  | .act c => c.ok
  | .loop b => Stm.oks b
  | .either b c => Stm.oks b && Stm.oks c
def Stm.oks : List Stm → Bool
  | [] => true
  | s :: ss => s.ok && Stm.oks ss
end
theorem Stm.oks_get : ∀ {b : List Stm} {i : Nat} {s : Stm}, Stm.oks b = true → b[i]? = some s → s.ok = true
  | [], i, s, h, e => by simp at e
  | x :: b, 0, s, h, e => by
    simp at e
    subst e
    simp [Stm.oks] at h
    exact h.1
  | x :: b, i + 1, s, h, e => by
    simp at e
    simp [Stm.oks] at h
    exact Stm.oks_get h.2 e
theorem Pos.oks {prog b : List Stm} {l a : Plc} (h : Pos prog l b a) (hp : Stm.oks prog = true) : Stm.oks b = true := by
  induction h with
  | root => exact hp
  | loop h e ih => have := Stm.oks_get ih e; simpa [Stm.ok] using this
  | left h e ih => have := Stm.oks_get ih e; simp [Stm.ok] at this; exact this.1
  | right h e ih => have := Stm.oks_get ih e; simp [Stm.ok] at this; exact this.2
/-- a program within the limits -/
structure GoodP (prog : List Stm) : Prop where
  ok : Stm.oks prog = true
  many : Stm.cnts prog ≤ 40
  deep : Stm.deps prog ≤ 6
/-- a state of the walker -/
structure W where
  pl : Plc
  a : Option Str
  b : Option Str
  deriving DecidableEq
def W.toD (w : W) : D := .tup [plD w.pl, spD w.a, spD w.b]
def W.first : W := ⟨[0], none, none⟩
abbrev Way := List Str × W
def wayD (x : Way) : D := .tup [ltD x.1, x.2.toD]
def waysL (e : Ld) (w : W) : List Way := match e.st with
  | .act c => (effM c w.a w.b).map fun f => (f.ls, ⟨e.on, f.a, f.b⟩)
  | _ => [([], ⟨e.on, w.a, w.b⟩), ([], ⟨e.into, w.a, w.b⟩)]
def waysM (prog : List Stm) (w : W) : List Way := match look prog w.pl with
  | none => []
  | some e => waysL e w
def spots : List (Option Str) := [none, some ("a" : Str), some ("b" : Str), some ("c" : Str), some ("d" : Str), some ("p" : Str), some ("q" : Str), some ("x" : Str)]
/-- what holds at each state that is come to -/
structure WOk (prog : List Stm) (w : W) : Prop where
  pl : PlOk prog w.pl
  a : w.a ∈ spots
  b : w.b ∈ spots
  ne : w.a = w.b → ∀ x ∈ nmS, w.a ≠ some x
theorem WOk.first (prog : List Stm) : WOk prog W.first := ⟨PlOk.first prog, by simp [W.first, spots], by simp [W.first, spots], by simp [W.first]⟩
def lettersS : List Str := [("e.putp" : Str), ("e.putq" : Str), ("e.takep" : Str), ("e.takeq" : Str), ("e.end" : Str), ("e.u" : Str), ("e.v" : Str), ("e.w" : Str), ("y.putp" : Str), ("y.putq" : Str), ("y.takep" : Str), ("y.takeq" : Str), ("y.end" : Str), ("y.u" : Str), ("y.v" : Str), ("y.w" : Str), ("y.new" : Str)]
def EffOk (f : Eff) : Prop := f.a ∈ spots ∧ f.b ∈ spots ∧ (f.a = f.b → ∀ x ∈ nmS, f.a ≠ some x) ∧ (∀ s ∈ f.ls, s ∈ lettersS)
def effOkB (f : Eff) : Bool := decide (f.a ∈ spots) && decide (f.b ∈ spots) && (!decide (f.a = f.b) || nmS.all fun x => !decide (f.a = some x)) && f.ls.all fun s => decide (s ∈ lettersS)
def neB (a b : Option Str) : Bool := !decide (a = b) || nmS.all fun x => !decide (a = some x)
def actsS : List Act := nmS.map .new ++ (nmS.flatMap fun x => piS.map fun p => .put x p) ++ (nmS.flatMap fun x => piS.map fun p => .take p x) ++ (nmS.flatMap fun x => nmS.map fun p => .move x p) ++ nmS.map .fin ++ (nmS.flatMap fun x => wdS.map fun p => .go p x)
def effsOk : Bool := actsS.all fun c => spots.all fun a => spots.all fun b => !neB a b || ((effM c a b).all effOkB && decide ((effM c a b).length ≤ 3))
theorem effsOk_true : effsOk = true := by decide +kernel
theorem Act.mem_of_ok {c : Act} (h : c.ok = true) : c ∈ actsS := by
  cases c with
  | new x => simp [Act.ok] at h; simp [actsS, h]
  | put x p => simp [Act.ok] at h; simp [actsS]; exact h
  | take p x => simp [Act.ok] at h; simp [actsS]; exact ⟨x, h.2, p, h.1, rfl, rfl⟩
  | move y x => simp [Act.ok] at h; simp [actsS]; exact h
  | fin x => simp [Act.ok] at h; simp [actsS, h]
  | go u x => simp [Act.ok] at h; simp [actsS]; exact ⟨x, h.2, u, h.1, rfl, rfl⟩
theorem eff_ok {c : Act} (hc : c.ok = true) {a b : Option Str} (ha : a ∈ spots) (hb : b ∈ spots) (ne : a = b → ∀ x ∈ nmS, a ≠ some x) : (∀ f ∈ effM c a b, EffOk f) ∧ (effM c a b).length ≤ 3 := by
  have h := effsOk_true
  simp only [effsOk, List.all_eq_true] at h
  have h := h c (Act.mem_of_ok hc) a ha b hb
  have hn : neB a b = true := by
    unfold neB
    by_cases e : a = b
    · simp only [e, decide_true, Bool.not_true, Bool.false_or, List.all_eq_true]
      intro x hx
      have := ne e x hx
      rw [e] at this
      simp [this]
    · simp [e]
  simp only [hn, Bool.not_true, Bool.false_or, Bool.and_eq_true, List.all_eq_true, decide_eq_true_eq] at h
  refine ⟨fun f hf => ?_, h.2⟩
  have h := h.1 f hf
  simp only [effOkB, Bool.and_eq_true, decide_eq_true_eq, List.all_eq_true] at h
  obtain ⟨⟨⟨h1, h2⟩, h3⟩, h4⟩ := h
  refine ⟨h1, h2, fun e x hx => ?_, h4⟩
  simp only [e, decide_true, Bool.not_true, Bool.false_or, List.all_eq_true] at h3
  have := h3 x hx
  rw [e]
  simpa using this
theorem ways_ok {prog : List Stm} (g : GoodP prog) {w : W} (h : WOk prog w) : (∀ x ∈ waysM prog w, WOk prog x.2 ∧ ∀ s ∈ x.1, s ∈ lettersS) ∧ (waysM prog w).length ≤ 3 := by
  unfold waysM
  cases hl : look prog w.pl with
  | none => simp
  | some e =>
    obtain ⟨h1, h2⟩ := look_ok hl
    obtain ⟨l, b, a, i, ho⟩ := leads_ok (look_some hl).1
    simp only [waysL]
    cases hs : e.st with
    | act c =>
      have hc : c.ok = true := by
        have := Stm.oks_get (ho.pos.oks g.ok) ho.get
        rw [hs] at this
        exact this
      obtain ⟨k1, k2⟩ := eff_ok hc h.a h.b h.ne
      simp only
      refine ⟨fun x hx => ?_, by simpa using k2⟩
      obtain ⟨f, hf, rfl⟩ := List.mem_map.mp hx
      obtain ⟨m1, m2, m3, m4⟩ := k1 f hf
      exact ⟨⟨h1, m1, m2, m3⟩, m4⟩
    | loop c => 
      simp only
      refine ⟨fun x hx => ?_, by simp⟩
      simp at hx
      rcases hx with rfl | rfl
      · exact ⟨⟨h1, h.a, h.b, h.ne⟩, by simp⟩
      · exact ⟨⟨h2, h.a, h.b, h.ne⟩, by simp⟩
    | either c d => 
      simp only
      refine ⟨fun x hx => ?_, by simp⟩
      simp at hx
      rcases hx with rfl | rfl
      · exact ⟨⟨h1, h.a, h.b, h.ne⟩, by simp⟩
      · exact ⟨⟨h2, h.a, h.b, h.ne⟩, by simp⟩
end AT
/-! S1: the equations of what must hold (AT0) one by one (printed by genw2.py), as rules for simp, outermost first; loops and comprehensions with their parts shut. -/
namespace AT
open PySem (Str Addr)
/-- what simp does not look into -/
inductive Sh {α : Sort _} (a : α) : Type where
  | mk
/-- a call, what comes behind it shut -/
def CallF (F : Orc) (f : Nat) (ds : List D) (G : Gp) (Q : KE) (E : KX) (_ : Sh Q) (_ : Sh E) : Prop := F f ds G Q E
/-- a comprehension's turns, what comes behind them shut -/
def LcF (asg : D → St → Gp → (St → Gp → Prop) → Prop) (tst : St → Gp → KB → Prop) (elt : St → Gp → KE → Prop) (chk : Gp → Prop) (p : Addr) (σ : St) (Q : Gp → Prop) (_ : Sh Q) (ds : List D) (G : Gp) : Prop := lcS asg tst elt chk p σ Q ds G
def DcF (asg : D → St → Gp → (St → Gp → Prop) → Prop) (key elt : St → Gp → KE → Prop) (chk : Gp → Prop) (p : Addr) (σ : St) (Q : Gp → Prop) (_ : Sh Q) (ds : List D) (G : Gp) : Prop := dcS asg key elt chk p σ Q ds G
theorem LcF_nil {asg : D → St → Gp → (St → Gp → Prop) → Prop} {tst : St → Gp → KB → Prop} {elt : St → Gp → KE → Prop} {chk : Gp → Prop} {p : Addr} {σ : St} {Q : Gp → Prop} {t : Sh Q} {G : Gp} : LcF asg tst elt chk p σ Q t [] G = (chk G ∧ Q G) := (rfl)
theorem LcF_cons {asg : D → St → Gp → (St → Gp → Prop) → Prop} {tst : St → Gp → KB → Prop} {elt : St → Gp → KE → Prop} {chk : Gp → Prop} {p : Addr} {σ : St} {Q : Gp → Prop} {t : Sh Q} {G : Gp} {x : D} {xs : List D} : LcF asg tst elt chk p σ Q t (x :: xs) G = (chk G ∧ asg x σ G fun σ1 G1 => tst σ1 G1 fun b G2 =>
      if b = true then elt σ1 G2 fun y G3 => match G3 p with
        | some (.lst acc) => acc.length < line ∧ LcF asg tst elt chk p σ Q t xs (up G3 p (.lst (acc ++ [y])))
        | _ => False
      else LcF asg tst elt chk p σ Q t xs G2) := (rfl)
def bdS (C : Cls) (F : Orc) (b : CSs) (E : KX) (W : Option D) (K : KS) (σ : St) (G : Gp) : Prop := wpSs C F b E W K σ G
def bdT (C : Cls) (F : Orc) (W : Option D) (c : CB) (E : KX) (σ : St) (G : Gp) (Q : KB) : Prop := wpT C F W c E σ G Q
def bdTs (C : Cls) (F : Orc) (W : Option D) (c : CO2) (E : KX) (σ : St) (G : Gp) (Q : KB) : Prop := wpTs C F W c E σ G Q
def bdE (C : Cls) (F : Orc) (W : Option D) (e : CE) (E : KX) (σ : St) (G : Gp) (Q : KE) : Prop := wpE C F W e E σ G Q
def bdG (C : Cls) (F : Orc) (W : Option D) (t : CT) (E : KX) (d : D) (σ : St) (G : Gp) (Q : St → Gp → Prop) : Prop := wpG C F W t E d σ G Q
@[simp ↓] theorem bdS_eq {C : Cls} {F : Orc} {b : CSs} {E : KX} {W : Option D} {K : KS} {σ : St} {G : Gp} : bdS C F b E W K σ G = wpSs C F b E W K σ G := (rfl)
@[simp ↓] theorem bdT_eq {C : Cls} {F : Orc} {W : Option D} {c : CB} {E : KX} {σ : St} {G : Gp} {Q : KB} : bdT C F W c E σ G Q = wpT C F W c E σ G Q := (rfl)
@[simp ↓] theorem bdTs_no {C : Cls} {F : Orc} {W : Option D} {E : KX} {σ : St} {G : Gp} {Q : KB} : bdTs C F W .no E σ G Q = Q true G := (rfl)
@[simp ↓] theorem bdTs_so {C : Cls} {F : Orc} {W : Option D} {c : CB} {E : KX} {σ : St} {G : Gp} {Q : KB} : bdTs C F W (.so c) E σ G Q = wpT C F W c E σ G Q := (rfl)
@[simp ↓] theorem bdE_eq {C : Cls} {F : Orc} {W : Option D} {e : CE} {E : KX} {σ : St} {G : Gp} {Q : KE} : bdE C F W e E σ G Q = wpE C F W e E σ G Q := (rfl)
@[simp ↓] theorem bdG_eq {C : Cls} {F : Orc} {W : Option D} {t : CT} {E : KX} {d : D} {σ : St} {G : Gp} {Q : St → Gp → Prop} : bdG C F W t E d σ G Q = wpG C F W t E d σ G Q := (rfl)
@[simp ↓] theorem wpE_lc {C : Cls} {F : Orc} {W : Option D} {E : KX} {σ : St} {G : Gp} {Q : KE} {elt : CE} {t : CT} {it : CI} {cs : CO2} {vs : List Nat} : wpE C F W (CE.lc elt t it cs vs) E σ G Q = (wpI C F W it E σ G fun ds chk G1 => ∀ p, G1 p = none →
      LcF (bdG C F W t fun _ _ => False) (bdTs C F W cs fun _ _ => False) (bdE C F W elt fun _ _ => False) chk p (wipe σ vs) (fun G2 => Q (.ref p) G2) .mk ds (up G1 p (.lst []))) := (rfl)
@[simp ↓] theorem wpE_dc {C : Cls} {F : Orc} {W : Option D} {E : KX} {σ : St} {G : Gp} {Q : KE} {k v : CE} {t : CT} {it : CI} {vs : List Nat} : wpE C F W (CE.dc k v t it vs) E σ G Q = (wpI C F W it E σ G fun ds chk G1 => ∀ p, G1 p = none →
      DcF (bdG C F W t fun _ _ => False) (bdE C F W k fun _ _ => False) (bdE C F W v fun _ _ => False) chk p (wipe σ vs) (fun G2 => Q (.ref p) G2) .mk ds (up G1 p (.dct []))) := (rfl)
@[simp ↓] theorem wpS_whl {C : Cls} {F : Orc} {W : Option D} {E : KX} {K : KS} {σ : St} {G : Gp} {c : CB} {b : CSs} : wpS C F (CS.whl c b) E W K σ G = (∃ n, whlN (bdT C F W c E) (bdS C F b E W) K n σ G) := (rfl)
@[simp ↓] theorem wpS_for {C : Cls} {F : Orc} {W : Option D} {E : KX} {K : KS} {σ : St} {G : Gp} {t : CT} {it : CI} {b : CSs} : wpS C F (CS.for_ t it b) E W K σ G = (wpI C F W it E σ G fun ds chk G1 => forS (bdG C F W t E) (bdS C F b E W) chk K ds σ G1) := (rfl)
@[simp ↓] theorem wpSs_nil {C : Cls} {F : Orc} {W : Option D} {E : KX} {K : KS} {σ : St} {G : Gp} : wpSs C F .nil E W K σ G = K.nx σ G := (rfl)
@[simp ↓] theorem wpSs_cons {C : Cls} {F : Orc} {W : Option D} {E : KX} {K : KS} {σ : St} {G : Gp} {s : CS} {ss : CSs} : wpSs C F (.cons s ss) E W K σ G = wpS C F s E W { K with nx := wpSs C F ss E W K } σ G := (rfl)
@[simp ↓] theorem wpE_cst {C : Cls} {F : Orc} {W : Option D} {E : KX} {σ : St} {G : Gp} {Q : KE} {d} : wpE C F W (.cst d : CE) E σ G Q = (Q d G) := (rfl)
@[simp ↓] theorem wpE_var {C : Cls} {F : Orc} {W : Option D} {E : KX} {σ : St} {G : Gp} {Q : KE} {i} : wpE C F W (.var i : CE) E σ G Q = (match σ[i]? with
    | some (some d) => Q d G
    | _ => False) := (rfl)
@[simp ↓] theorem wpE_neg {C : Cls} {F : Orc} {W : Option D} {E : KX} {σ : St} {G : Gp} {Q : KE} {a} : wpE C F W (.neg a : CE) E σ G Q = (wpE C F W a E σ G fun x G1 => match x with
    | .int i => Q (.int (-i)) G1
    | _ => False) := (rfl)
@[simp ↓] theorem wpE_bin {C : Cls} {F : Orc} {W : Option D} {E : KX} {σ : St} {G : Gp} {Q : KE} {op} {a} {b} : wpE C F W (.bin op a b : CE) E σ G Q = (wpE C F W a E σ G fun x G1 => wpE C F W b E σ G1 fun y G2 => binW op x y G2 Q) := (rfl)
@[simp ↓] theorem wpE_cmp {C : Cls} {F : Orc} {W : Option D} {E : KX} {σ : St} {G : Gp} {Q : KE} {op} {a} {b} : wpE C F W (.cmp op a b : CE) E σ G Q = (wpE C F W a E σ G fun x G1 => wpE C F W b E σ G1 fun y G2 => cmpW op x y G2 fun k G3 => Q (.bl k) G3) := (rfl)
@[simp ↓] theorem wpE_chn {C : Cls} {F : Orc} {W : Option D} {E : KX} {σ : St} {G : Gp} {Q : KE} {op} {op'} {a} {b} {c} : wpE C F W (.chn op op' a b c : CE) E σ G Q = (wpE C F W a E σ G fun x G1 => wpE C F W b E σ G1 fun y G2 => cmpW op x y G2 fun k G3 =>
      if k = true then wpE C F W c E σ G3 fun z G4 => cmpW op' y z G4 fun k' G5 => Q (.bl k') G5 else Q (.bl false) G3) := (rfl)
@[simp ↓] theorem wpE_and {C : Cls} {F : Orc} {W : Option D} {E : KX} {σ : St} {G : Gp} {Q : KE} {a} {b} : wpE C F W (.and a b : CE) E σ G Q = (wpE C F W a E σ G fun x G1 => match D.truth G1 x with
    | some k => if k = true then wpE C F W b E σ G1 Q else Q x G1
    | none => False) := (rfl)
@[simp ↓] theorem wpE_or {C : Cls} {F : Orc} {W : Option D} {E : KX} {σ : St} {G : Gp} {Q : KE} {a} {b} : wpE C F W (.or a b : CE) E σ G Q = (wpE C F W a E σ G fun x G1 => match D.truth G1 x with
    | some k => if k = true then Q x G1 else wpE C F W b E σ G1 Q
    | none => False) := (rfl)
@[simp ↓] theorem wpE_not {C : Cls} {F : Orc} {W : Option D} {E : KX} {σ : St} {G : Gp} {Q : KE} {a} : wpE C F W (.not a : CE) E σ G Q = (wpE C F W a E σ G fun x G1 => match D.truth G1 x with
    | some k => Q (.bl (!k)) G1
    | none => False) := (rfl)
@[simp ↓] theorem wpE_ite {C : Cls} {F : Orc} {W : Option D} {E : KX} {σ : St} {G : Gp} {Q : KE} {c} {a} {b} : wpE C F W (.ite c a b : CE) E σ G Q = (wpT C F W c E σ G fun k G1 => if k = true then wpE C F W a E σ G1 Q else wpE C F W b E σ G1 Q) := (rfl)
@[simp ↓] theorem wpE_tup {C : Cls} {F : Orc} {W : Option D} {E : KX} {σ : St} {G : Gp} {Q : KE} {es} : wpE C F W (.tup es : CE) E σ G Q = (wpEs C F W es E σ G fun ds G1 => ds.length ≤ line ∧ Q (.tup ds) G1) := (rfl)
@[simp ↓] theorem wpE_lst {C : Cls} {F : Orc} {W : Option D} {E : KX} {σ : St} {G : Gp} {Q : KE} {es} : wpE C F W (.lst es : CE) E σ G Q = (wpEs C F W es E σ G fun ds G1 => ds.length ≤ line ∧ ∀ p, G1 p = none → Q (.ref p) (up G1 p (.lst ds))) := (rfl)
@[simp ↓] theorem wpE_dct {C : Cls} {F : Orc} {W : Option D} {E : KX} {σ : St} {G : Gp} {Q : KE} {kvs} : wpE C F W (.dct kvs : CE) E σ G Q = (∀ p, G p = none → wpKV C F W kvs E σ (up G p (.dct [])) fun ps G2 => G2 p = some (.dct []) ∧ match putAll [] ps with
    | some m => Q (.ref p) (up G2 p (.dct m))
    | none => False) := (rfl)
@[simp ↓] theorem wpE_idx {C : Cls} {F : Orc} {W : Option D} {E : KX} {σ : St} {G : Gp} {Q : KE} {a} {i} : wpE C F W (.idx a i : CE) E σ G Q = (wpE C F W a E σ G fun x G1 => wpE C F W i E σ G1 fun y G2 => idxW x y G2 Q) := (rfl)
@[simp ↓] theorem wpE_sli {C : Cls} {F : Orc} {W : Option D} {E : KX} {σ : St} {G : Gp} {Q : KE} {a} {lo} {hi} : wpE C F W (.sli a lo hi : CE) E σ G Q = (wpE C F W a E σ G fun x G1 => wpO C F W lo E σ G1 fun l G2 => wpO C F W hi E σ G2 fun h G3 => sliW x l h G3 Q) := (rfl)
@[simp ↓] theorem wpE_att {C : Cls} {F : Orc} {W : Option D} {E : KX} {σ : St} {G : Gp} {Q : KE} {o} {f} : wpE C F W (.att o f : CE) E σ G Q = (wpE C F W o E σ G fun x G1 => match x with
    | .ref a => match G1 a with
      | some (.ins _ fs) => match fld fs f with
        | some d => Q d G1
        | none => False
      | _ => False
    | _ => False) := (rfl)
@[simp ↓] theorem wpE_call {C : Cls} {F : Orc} {W : Option D} {E : KX} {σ : St} {G : Gp} {Q : KE} {f} {es} : wpE C F W (.call f es : CE) E σ G Q = (wpEs C F W es E σ G fun ds G1 => CallF F f ds G1 Q E .mk .mk) := (rfl)
@[simp ↓] theorem wpE_kcall {C : Cls} {F : Orc} {W : Option D} {E : KX} {σ : St} {G : Gp} {Q : KE} {f} {es} {to} : wpE C F W (.kcall f es to : CE) E σ G Q = (wpEs C F W es E σ G fun ds G1 => ds.length = to.length ∧ CallF F f (to.filterMap fun j => ds[j]?) G1 Q E .mk .mk) := (rfl)
@[simp ↓] theorem wpE_meth {C : Cls} {F : Orc} {W : Option D} {E : KX} {σ : St} {G : Gp} {Q : KE} {o} {m} {es} : wpE C F W (.meth o m es : CE) E σ G Q = (wpE C F W o E σ G fun x G1 => match x with
    | .ref a => match G1 a with
      | some (.ins c fs) => match C.meth c m with
        | some f => wpEs C F W es E σ G1 fun ds G2 => CallF F f (.ref a :: ds) G2 Q E .mk .mk
        | none => False
      | _ => False
    | _ => False) := (rfl)
@[simp ↓] theorem wpE_mk {C : Cls} {F : Orc} {W : Option D} {E : KX} {σ : St} {G : Gp} {Q : KE} {c} {es} : wpE C F W (.mk c es : CE) E σ G Q = (match C.init c with
    | some f => wpEs C F W es E σ G fun ds G1 => ∀ p, G1 p = none → CallF F f (.ref p :: ds) (up G1 p (.ins c [])) (fun d G2 => d = .non ∧ Q (.ref p) G2) E .mk .mk
    | none => False) := (rfl)
@[simp ↓] theorem wpE_vcall {C : Cls} {F : Orc} {W : Option D} {E : KX} {σ : St} {G : Gp} {Q : KE} {g} {es} : wpE C F W (.vcall g es : CE) E σ G Q = (wpE C F W g E σ G fun x G1 => match x with
    | .fn f => wpEs C F W es E σ G1 fun ds G2 => CallF F f ds G2 Q E .mk .mk
    | _ => False) := (rfl)
@[simp ↓] theorem wpE_prim {C : Cls} {F : Orc} {W : Option D} {E : KX} {σ : St} {G : Gp} {Q : KE} {p} {es} : wpE C F W (.prim p es : CE) E σ G Q = (wpEs C F W es E σ G fun ds G1 => primW p ds G1 Q) := (rfl)
@[simp ↓] theorem wpE_bm {C : Cls} {F : Orc} {W : Option D} {E : KX} {σ : St} {G : Gp} {Q : KE} {p} {t} {o} {es} : wpE C F W (.bm p t o es : CE) E σ G Q = (wpE C F W o E σ G fun x G1 => kindO G1 x = some t ∧ wpEs C F W es E σ G1 fun ds G2 => kindO G2 x = some t ∧ primW p (x :: ds) G2 Q) := (rfl)
@[simp ↓] theorem wpE_tmp {C : Cls} {F : Orc} {W : Option D} {E : KX} {σ : St} {G : Gp} {Q : KE} {p} {e} : wpE C F W (.tmp p e : CE) E σ G Q = (wpE C F W e E σ G fun x G1 => primW p [x] G1 fun d G2 => match x with
    | .ref a => Q d (del G2 a)
    | _ => Q d G2) := (rfl)
@[simp ↓] theorem wpE_isi {C : Cls} {F : Orc} {W : Option D} {E : KX} {σ : St} {G : Gp} {Q : KE} {e} {t} : wpE C F W (.isi e t : CE) E σ G Q = (wpE C F W e E σ G fun x G1 => match isTy t x with
    | some b => Q (.bl b) G1
    | none => False) := (rfl)
@[simp ↓] theorem wpE_what {C : Cls} {F : Orc} {W : Option D} {E : KX} {σ : St} {G : Gp} {Q : KE}  : wpE C F W (.what : CE) E σ G Q = (match W with
    | some d => Q d G
    | none => False) := (rfl)
@[simp ↓] theorem wpT_val {C : Cls} {F : Orc} {W : Option D} {E : KX} {σ : St} {G : Gp} {Q : KB} {e} : wpT C F W (.val e : CB) E σ G Q = (wpE C F W e E σ G fun x G1 => match D.truth G1 x with
    | some k => Q k G1
    | none => False) := (rfl)
@[simp ↓] theorem wpT_not {C : Cls} {F : Orc} {W : Option D} {E : KX} {σ : St} {G : Gp} {Q : KB} {a} : wpT C F W (.not a : CB) E σ G Q = (wpT C F W a E σ G fun k G1 => Q (!k) G1) := (rfl)
@[simp ↓] theorem wpT_and {C : Cls} {F : Orc} {W : Option D} {E : KX} {σ : St} {G : Gp} {Q : KB} {a} {b} : wpT C F W (.and a b : CB) E σ G Q = (wpT C F W a E σ G fun k G1 => if k = true then wpT C F W b E σ G1 Q else Q false G1) := (rfl)
@[simp ↓] theorem wpT_or {C : Cls} {F : Orc} {W : Option D} {E : KX} {σ : St} {G : Gp} {Q : KB} {a} {b} : wpT C F W (.or a b : CB) E σ G Q = (wpT C F W a E σ G fun k G1 => if k = true then Q true G1 else wpT C F W b E σ G1 Q) := (rfl)
@[simp ↓] theorem wpT_ite {C : Cls} {F : Orc} {W : Option D} {E : KX} {σ : St} {G : Gp} {Q : KB} {c} {a} {b} : wpT C F W (.ite c a b : CB) E σ G Q = (wpT C F W c E σ G fun k G1 => if k = true then wpT C F W a E σ G1 Q else wpT C F W b E σ G1 Q) := (rfl)
@[simp ↓] theorem wpT_cmp {C : Cls} {F : Orc} {W : Option D} {E : KX} {σ : St} {G : Gp} {Q : KB} {op} {a} {b} : wpT C F W (.cmp op a b : CB) E σ G Q = (wpE C F W a E σ G fun x G1 => wpE C F W b E σ G1 fun y G2 => cmpW op x y G2 Q) := (rfl)
@[simp ↓] theorem wpT_chn {C : Cls} {F : Orc} {W : Option D} {E : KX} {σ : St} {G : Gp} {Q : KB} {op} {op'} {a} {b} {c} : wpT C F W (.chn op op' a b c : CB) E σ G Q = (wpE C F W a E σ G fun x G1 => wpE C F W b E σ G1 fun y G2 => cmpW op x y G2 fun k G3 => if k = true then wpE C F W c E σ G3 fun z G4 => cmpW op' y z G4 Q else Q false G3) := (rfl)
@[simp ↓] theorem wpEs_nil {C : Cls} {F : Orc} {W : Option D} {E : KX} {σ : St} {G : Gp} {Q : List D → Gp → Prop}  : wpEs C F W (.nil : CEs) E σ G Q = (Q [] G) := (rfl)
@[simp ↓] theorem wpEs_cons {C : Cls} {F : Orc} {W : Option D} {E : KX} {σ : St} {G : Gp} {Q : List D → Gp → Prop} {e} {es} : wpEs C F W (.cons e es : CEs) E σ G Q = (wpE C F W e E σ G fun d G1 => wpEs C F W es E σ G1 fun ds G2 => Q (d :: ds) G2) := (rfl)
@[simp ↓] theorem wpKV_nil {C : Cls} {F : Orc} {W : Option D} {E : KX} {σ : St} {G : Gp} {Q : List (D × D) → Gp → Prop}  : wpKV C F W (.nil : CKV) E σ G Q = (Q [] G) := (rfl)
@[simp ↓] theorem wpKV_cons {C : Cls} {F : Orc} {W : Option D} {E : KX} {σ : St} {G : Gp} {Q : List (D × D) → Gp → Prop} {k} {v} {r} : wpKV C F W (.cons k v r : CKV) E σ G Q = (wpE C F W k E σ G fun x G1 => wpE C F W v E σ G1 fun y G2 => wpKV C F W r E σ G2 fun ps G3 => Q ((x, y) :: ps) G3) := (rfl)
@[simp ↓] theorem wpO_no {C : Cls} {F : Orc} {W : Option D} {E : KX} {σ : St} {G : Gp} {Q : Option Int → Gp → Prop}  : wpO C F W (.no : CO) E σ G Q = (Q none G) := (rfl)
@[simp ↓] theorem wpO_so {C : Cls} {F : Orc} {W : Option D} {E : KX} {σ : St} {G : Gp} {Q : Option Int → Gp → Prop} {e} : wpO C F W (.so e : CO) E σ G Q = (wpE C F W e E σ G fun d G1 => match d with
    | .int i => Q (some i) G1
    | _ => False) := (rfl)
@[simp ↓] theorem wpI_seq {C : Cls} {F : Orc} {W : Option D} {E : KX} {σ : St} {G : Gp} {Q : List D → (Gp → Prop) → Gp → Prop} {e} : wpI C F W (.seq e : CI) E σ G Q = (wpE C F W e E σ G fun x G1 => match x with
    | .tup ds => Q ds (fun _ => True) G1
    | .ref a => match G1 a with
      | some (.lst ds) => Q ds (fun G2 => G2 a = some (.lst ds)) G1
      | _ => False
    | _ => False) := (rfl)
@[simp ↓] theorem wpI_rng1 {C : Cls} {F : Orc} {W : Option D} {E : KX} {σ : St} {G : Gp} {Q : List D → (Gp → Prop) → Gp → Prop} {e} : wpI C F W (.rng1 e : CI) E σ G Q = (wpE C F W e E σ G fun x G1 => match x with
    | .int n => (-16777216 ≤ n ∧ n ≤ 16777216) ∧ Q ((List.range n.toNat).map fun i => D.int (i : Nat)) (fun _ => True) G1
    | _ => False) := (rfl)
@[simp ↓] theorem wpI_rng2 {C : Cls} {F : Orc} {W : Option D} {E : KX} {σ : St} {G : Gp} {Q : List D → (Gp → Prop) → Gp → Prop} {a} {b} : wpI C F W (.rng2 a b : CI) E σ G Q = (wpE C F W a E σ G fun x G1 => wpE C F W b E σ G1 fun y G2 => match x, y with
    | .int m, .int n => (0 ≤ m ∧ m ≤ 16777216 ∧ -16777216 ≤ n ∧ n ≤ 16777216) ∧ Q ((List.range (n - m).toNat).map fun i => D.int (m + (i : Nat))) (fun _ => True) G2
    | _, _ => False) := (rfl)
@[simp ↓] theorem wpI_enu {C : Cls} {F : Orc} {W : Option D} {E : KX} {σ : St} {G : Gp} {Q : List D → (Gp → Prop) → Gp → Prop} {e} : wpI C F W (.enu e : CI) E σ G Q = (wpE C F W e E σ G fun x G1 => match x with
    | .tup ds => Q (ds.mapIdx fun i d => D.tup [.int (i : Nat), d]) (fun _ => True) G1
    | .ref a => match G1 a with
      | some (.lst ds) => Q (ds.mapIdx fun i d => D.tup [.int (i : Nat), d]) (fun G2 => G2 a = some (.lst ds)) G1
      | _ => False
    | _ => False) := (rfl)
@[simp ↓] theorem wpI_zip {C : Cls} {F : Orc} {W : Option D} {E : KX} {σ : St} {G : Gp} {Q : List D → (Gp → Prop) → Gp → Prop} {a} {b} : wpI C F W (.zip a b : CI) E σ G Q = (wpE C F W a E σ G fun x G1 => wpE C F W b E σ G1 fun y G2 => match x, y with
    | .tup xs, .tup ys => Q (List.zipWith (fun x y => D.tup [x, y]) xs ys) (fun _ => True) G2
    | _, _ => False) := (rfl)
@[simp ↓] theorem wpI_itm {C : Cls} {F : Orc} {W : Option D} {E : KX} {σ : St} {G : Gp} {Q : List D → (Gp → Prop) → Gp → Prop} {e} : wpI C F W (.itm e : CI) E σ G Q = (wpE C F W e E σ G fun x G1 => match x with
    | .ref a => match G1 a with
      | some (.dct kvs) => Q (kvs.map fun p => D.tup [p.1, p.2]) (fun G2 => G2 a = some (.dct kvs)) G1
      | _ => False
    | _ => False) := (rfl)
@[simp ↓] theorem wpS_asg {C : Cls} {F : Orc} {W : Option D} {E : KX} {K : KS} {σ : St} {G : Gp} {t} {e} : wpS C F (.asg t e : CS) E W K σ G = (wpE C F W e E σ G fun d G1 => wpG C F W t E d σ G1 K.nx) := (rfl)
@[simp ↓] theorem wpS_expr {C : Cls} {F : Orc} {W : Option D} {E : KX} {K : KS} {σ : St} {G : Gp} {e} : wpS C F (.expr e : CS) E W K σ G = (wpE C F W e E σ G fun _ G1 => K.nx σ G1) := (rfl)
@[simp ↓] theorem wpS_ite {C : Cls} {F : Orc} {W : Option D} {E : KX} {K : KS} {σ : St} {G : Gp} {c} {a} {b} : wpS C F (.ite c a b : CS) E W K σ G = (wpT C F W c E σ G fun k G1 => if k = true then wpSs C F a E W K σ G1 else wpSs C F b E W K σ G1) := (rfl)
@[simp ↓] theorem wpS_ret {C : Cls} {F : Orc} {W : Option D} {E : KX} {K : KS} {σ : St} {G : Gp} {e} : wpS C F (.ret e : CS) E W K σ G = (wpE C F W e E σ G K.rt) := (rfl)
@[simp ↓] theorem wpS_retN {C : Cls} {F : Orc} {W : Option D} {E : KX} {K : KS} {σ : St} {G : Gp}  : wpS C F (.retN : CS) E W K σ G = (K.rt .non G) := (rfl)
@[simp ↓] theorem wpS_brk {C : Cls} {F : Orc} {W : Option D} {E : KX} {K : KS} {σ : St} {G : Gp}  : wpS C F (.brk : CS) E W K σ G = (K.bk σ G) := (rfl)
@[simp ↓] theorem wpS_cont {C : Cls} {F : Orc} {W : Option D} {E : KX} {K : KS} {σ : St} {G : Gp}  : wpS C F (.cont : CS) E W K σ G = (K.ct σ G) := (rfl)
@[simp ↓] theorem wpS_pass {C : Cls} {F : Orc} {W : Option D} {E : KX} {K : KS} {σ : St} {G : Gp}  : wpS C F (.pass : CS) E W K σ G = (K.nx σ G) := (rfl)
@[simp ↓] theorem wpS_rse {C : Cls} {F : Orc} {W : Option D} {E : KX} {K : KS} {σ : St} {G : Gp} {c} {e} : wpS C F (.rse c e : CS) E W K σ G = (wpE C F W e E σ G fun d G1 => E ⟨c, d⟩ G1) := (rfl)
@[simp ↓] theorem wpS_tryN {C : Cls} {F : Orc} {W : Option D} {E : KX} {K : KS} {σ : St} {G : Gp} {b} : wpS C F (.tryN b : CS) E W K σ G = (wpSs C F b (fun _ _ => False) W K σ G) := (rfl)
@[simp ↓] theorem wpS_tryC {C : Cls} {F : Orc} {W : Option D} {E : KX} {K : KS} {σ : St} {G : Gp} {b} {hs} : wpS C F (.tryC b hs : CS) E W K σ G = (wpSs C F b (fun x G1 => wpHs C F hs x E K (σ.map fun _ => none) G1) W K σ G) := (rfl)
@[simp ↓] theorem primW_len {xs : List D} {G : Gp} {Q : KE} : primW .len xs G Q = lenW xs G Q := (rfl)
@[simp ↓] theorem primW_intOf {xs : List D} {G : Gp} {Q : KE} : primW .intOf xs G Q = intOfW xs G Q := (rfl)
@[simp ↓] theorem primW_max2 {xs : List D} {G : Gp} {Q : KE} : primW .max2 xs G Q = max2W xs G Q := (rfl)
@[simp ↓] theorem primW_min2 {xs : List D} {G : Gp} {Q : KE} : primW .min2 xs G Q = min2W xs G Q := (rfl)
@[simp ↓] theorem primW_tupleOf {xs : List D} {G : Gp} {Q : KE} : primW .tupleOf xs G Q = tupleOfW xs G Q := (rfl)
@[simp ↓] theorem primW_listOf {xs : List D} {G : Gp} {Q : KE} : primW .listOf xs G Q = listOfW xs G Q := (rfl)
@[simp ↓] theorem primW_allOf {xs : List D} {G : Gp} {Q : KE} : primW .allOf xs G Q = allOfW xs G Q := (rfl)
@[simp ↓] theorem primW_anyOf {xs : List D} {G : Gp} {Q : KE} : primW .anyOf xs G Q = anyOfW xs G Q := (rfl)
@[simp ↓] theorem primW_sumOf {xs : List D} {G : Gp} {Q : KE} : primW .sumOf xs G Q = sumOfW xs G Q := (rfl)
@[simp ↓] theorem primW_minL {xs : List D} {G : Gp} {Q : KE} : primW .minL xs G Q = minLW xs G Q := (rfl)
@[simp ↓] theorem primW_append {xs : List D} {G : Gp} {Q : KE} : primW .append xs G Q = appendW xs G Q := (rfl)
@[simp ↓] theorem primW_pop0 {xs : List D} {G : Gp} {Q : KE} : primW .pop0 xs G Q = pop0W xs G Q := (rfl)
@[simp ↓] theorem primW_pop1 {xs : List D} {G : Gp} {Q : KE} : primW .pop1 xs G Q = pop1W xs G Q := (rfl)
@[simp ↓] theorem primW_index {xs : List D} {G : Gp} {Q : KE} : primW .index xs G Q = indexW xs G Q := (rfl)
@[simp ↓] theorem primW_get1 {xs : List D} {G : Gp} {Q : KE} : primW .get1 xs G Q = get1W xs G Q := (rfl)
@[simp ↓] theorem primW_get2 {xs : List D} {G : Gp} {Q : KE} : primW .get2 xs G Q = get2W xs G Q := (rfl)
@[simp ↓] theorem primW_update {xs : List D} {G : Gp} {Q : KE} : primW .update xs G Q = updateW xs G Q := (rfl)
@[simp ↓] theorem primW_sortI {xs : List D} {G : Gp} {Q : KE} : primW .sortI xs G Q = sortIW xs G Q := (rfl)
@[simp ↓] theorem primW_heappush {xs : List D} {G : Gp} {Q : KE} : primW .heappush xs G Q = heappushW xs G Q := (rfl)
@[simp ↓] theorem primW_heappop {xs : List D} {G : Gp} {Q : KE} : primW .heappop xs G Q = heappopW xs G Q := (rfl)
@[simp ↓] theorem wpG_nm {C : Cls} {F : Orc} {W : Option D} {E : KX} {d : D} {σ : St} {G : Gp} {Q : St → Gp → Prop} {i : Nat} : wpG C F W (.nm i) E d σ G Q = Q (σ.set i (some d)) G := (rfl)
@[simp ↓] theorem wpG_tup {C : Cls} {F : Orc} {W : Option D} {E : KX} {ds : List D} {σ : St} {G : Gp} {Q : St → Gp → Prop} {ts : CTs} : wpG C F W (.tup ts) E (.tup ds) σ G Q = (ds.length = ts.len ∧ wpGs C F W ts E ds σ G Q) := (rfl)
@[simp ↓] theorem wpG_sub {C : Cls} {F : Orc} {W : Option D} {E : KX} {d : D} {σ : St} {G : Gp} {Q : St → Gp → Prop} {o i : CE} : wpG C F W (.sub o i) E d σ G Q = (wpE C F W o E σ G fun x G1 => wpE C F W i E σ G1 fun k G2 => match x with
    | .ref a => match G2 a with
      | some (.lst ds) => match k with
        | .int j => match ixN ds.length j with
          | some n => Q σ (up G2 a (.lst (ds.set n d)))
          | none => False
        | _ => False
      | some (.dct kvs) => kindOk kvs k = true ∧ kvs.length < 1000000 ∧ Q σ (up G2 a (.dct (keyPut kvs k d)))
      | _ => False
    | _ => False) := (rfl)
@[simp ↓] theorem wpG_att {C : Cls} {F : Orc} {W : Option D} {E : KX} {d : D} {σ : St} {G : Gp} {Q : St → Gp → Prop} {o : CE} {f : Nat} : wpG C F W (.att o f) E d σ G Q = (wpE C F W o E σ G fun x G1 => match x with
    | .ref a => match G1 a with
      | some (.ins c fs) => fs.length < 1000 ∧ Q σ (up G1 a (.ins c (putF f d fs)))
      | _ => False
    | _ => False) := (rfl)
@[simp ↓] theorem wpGs_nil {C : Cls} {F : Orc} {W : Option D} {E : KX} {σ : St} {G : Gp} {Q : St → Gp → Prop} : wpGs C F W .nil E [] σ G Q = Q σ G := (rfl)
@[simp ↓] theorem wpGs_cons {C : Cls} {F : Orc} {W : Option D} {E : KX} {d : D} {ds : List D} {σ : St} {G : Gp} {Q : St → Gp → Prop} {t : CT} {ts : CTs} : wpGs C F W (.cons t ts) E (d :: ds) σ G Q = (wpG C F W t E d σ G fun σ1 G1 => wpGs C F W ts E ds σ1 G1 Q) := (rfl)
@[simp ↓] theorem idxW_tup {ds : List D} {j : Int} {G : Gp} {Q : KE} : idxW (.tup ds) (.int j) G Q = (match ixD ds j with
      | some d => Q d G
      | none => False) := (rfl)
@[simp ↓] theorem idxW_rol {ds : List D} {j : Int} {G : Gp} {Q : KE} : idxW (.rol ds) (.int j) G Q = (match ixD ds j with
      | some d => Q d G
      | none => False) := (rfl)
@[simp ↓] theorem idxW_ref {a : Addr} {i : D} {G : Gp} {Q : KE} : idxW (.ref a) i G Q = (match G a with
    | some (.lst ds) => match i with
      | .int j => match ixD ds j with
        | some d => Q d G
        | none => False
      | _ => False
    | some (.dct kvs) => kindOk kvs i = true ∧ match keyAt kvs i with
      | some d => Q d G
      | none => False
    | _ => False) := (rfl)
@[simp ↓] theorem binW_iadd {i j : Int} {G : Gp} {Q : KE} : binW .add (.int i) (.int j) G Q = Q (.int (i + j)) G := (rfl)
@[simp ↓] theorem binW_isub {i j : Int} {G : Gp} {Q : KE} : binW .sub (.int i) (.int j) G Q = Q (.int (i - j)) G := (rfl)
@[simp ↓] theorem binW_imul {i j : Int} {G : Gp} {Q : KE} : binW .mul (.int i) (.int j) G Q = (((-(2 ^ 64) < i ∧ i < 2 ^ 64) ∨ (-(2 ^ 64) < j ∧ j < 2 ^ 64)) ∧ Q (.int (i * j)) G) := (rfl)
@[simp ↓] theorem binW_ifdiv {i j : Int} {G : Gp} {Q : KE} : binW .fdiv (.int i) (.int j) G Q = ((j ≠ 0 ∧ j.natAbs < 1073741824) ∧ Q (.int (i.fdiv j)) G) := (rfl)
@[simp ↓] theorem binW_imod {i j : Int} {G : Gp} {Q : KE} : binW .mod (.int i) (.int j) G Q = (j ≠ 0 ∧ Q (.int (i.fmod j)) G) := (rfl)
@[simp ↓] theorem binW_ipow {i j : Int} {G : Gp} {Q : KE} : binW .pow (.int i) (.int j) G Q = ((0 ≤ j ∧ j ≤ 1000000 ∧ i.natAbs < 2 ^ 64) ∧ Q (.int (i ^ j.toNat)) G) := (rfl)
@[simp ↓] theorem binW_sadd {a b : Str} {G : Gp} {Q : KE} : binW .add (.str a) (.str b) G Q = (a.length + b.length ≤ line ∧ Q (.str (a ++ b)) G) := (rfl)
@[simp ↓] theorem binW_tadd {xs ys : List D} {G : Gp} {Q : KE} : binW .add (.tup xs) (.tup ys) G Q = (xs.length + ys.length ≤ line ∧ Q (.tup (xs ++ ys)) G) := (rfl)
@[simp ↓] theorem binW_tmul {xs : List D} {j : Int} {G : Gp} {Q : KE} : binW .mul (.tup xs) (.int j) G Q = ((1 ≤ j ∧ j ≤ 1000 ∧ xs.length ≤ 1000 ∧ xs ≠ []) ∧ Q (.tup (List.replicate j.toNat xs).flatten) G) := (rfl)
@[simp ↓] theorem binW_ladd {a b : Addr} {G : Gp} {Q : KE} : binW .add (.ref a) (.ref b) G Q = (match G a, G b with
    | some (.lst xs), some (.lst ys) => xs.length + ys.length ≤ line ∧ ∀ p, G p = none → Q (.ref p) (up G p (.lst (xs ++ ys)))
    | _, _ => False) := (rfl)
@[simp ↓] theorem lenW_tup {ds : List D} {G : Gp} {Q : KE} : lenW [.tup ds] G Q = Q (.int ds.length) G := (rfl)
@[simp ↓] theorem lenW_rol {ds : List D} {G : Gp} {Q : KE} : lenW [.rol ds] G Q = Q (.int ds.length) G := (rfl)
@[simp ↓] theorem lenW_str {s : Str} {G : Gp} {Q : KE} : lenW [.str s] G Q = (s.length ≤ line ∧ Q (.int s.length) G) := (rfl)
@[simp ↓] theorem lenW_ref {a : Addr} {G : Gp} {Q : KE} : lenW [.ref a] G Q = (match G a with
    | some (.lst ds) => Q (.int ds.length) G
    | some (.dct kvs) => ((kvs.all fun p => D.isT p.1) = true ∨ (kvs.all fun p => flatK p.1) = true) ∧ Q (.int kvs.length) G
    | _ => False) := (rfl)
@[simp ↓] theorem sliW_tup {ds : List D} {l h : Option Int} {G : Gp} {Q : KE} : sliW (.tup ds) l h G Q = Q (.tup (cutD ds l h)) G := (rfl)
@[simp ↓] theorem sliW_str {s : Str} {l h : Option Int} {G : Gp} {Q : KE} : sliW (.str s) l h G Q = (s.length ≤ line ∧ Q (.str ⟨(cutD s.cps.toList l h).toArray⟩) G) := (rfl)
@[simp ↓] theorem sliW_ref {a : Addr} {l h : Option Int} {G : Gp} {Q : KE} : sliW (.ref a) l h G Q = (match G a with
    | some (.lst ds) => ∀ p, G p = none → Q (.ref p) (up G p (.lst (cutD ds l h)))
    | _ => False) := (rfl)
@[simp] theorem cutD_from {α : Type} (xs : List α) (k : Nat) : cutD xs (some (k : Int)) none = xs.drop k := by
  unfold cutD sIx
  have h : ¬ (k : Int) < 0 := by omega
  simp only [h, if_false]
  by_cases h2 : k ≤ xs.length
  · have e : (min (k : Int) (xs.length : Int)).toNat = k := by omega
    rw [e, List.take_of_length_le (by simp)]
  · have e : (min (k : Int) (xs.length : Int)).toNat = xs.length := by omega
    rw [e, List.drop_eq_nil_of_le (Nat.le_refl _), List.drop_eq_nil_of_le (by omega)]
    simp
@[simp] theorem cutD_from1 {α : Type} (xs : List α) : cutD xs (some 1) none = xs.drop 1 := cutD_from xs 1
@[simp] theorem cutD_from2 {α : Type} (xs : List α) : cutD xs (some 2) none = xs.drop 2 := cutD_from xs 2
@[simp] theorem cutD_to {α : Type} (xs : List α) (k : Nat) : cutD xs none (some (k : Int)) = xs.take k := by
  unfold cutD sIx
  have h : ¬ (k : Int) < 0 := by omega
  simp only [h, if_false, List.drop_zero, Nat.sub_zero]
  by_cases h2 : k ≤ xs.length
  · have e : (min (k : Int) (xs.length : Int)).toNat = k := by omega
    rw [e]
  · have e : (min (k : Int) (xs.length : Int)).toNat = xs.length := by omega
    rw [e, List.take_of_length_le (Nat.le_refl _), List.take_of_length_le (by omega)]
@[simp] theorem cutD_to1 {α : Type} (xs : List α) : cutD xs none (some 1) = xs.take 1 := cutD_to xs 1
@[simp] theorem cutD_to2 {α : Type} (xs : List α) : cutD xs none (some 2) = xs.take 2 := cutD_to xs 2
@[simp] theorem cutD_to3 {α : Type} (xs : List α) : cutD xs none (some 3) = xs.take 3 := cutD_to xs 3
@[simp ↓] theorem truth_non {G : Gp} : D.truth G .non = some false := (rfl)
@[simp ↓] theorem truth_bl {G : Gp} {b : Bool} : D.truth G (.bl b) = some b := (rfl)
@[simp ↓] theorem truth_int {G : Gp} {i : Int} : D.truth G (.int i) = some (i != 0) := (rfl)
@[simp ↓] theorem truth_tup {G : Gp} {ds : List D} : D.truth G (.tup ds) = some (!ds.isEmpty) := (rfl)
@[simp ↓] theorem truth_rol {G : Gp} {ds : List D} : D.truth G (.rol ds) = some (!ds.isEmpty) := (rfl)
@[simp ↓] theorem truth_ref {G : Gp} {a : Addr} : D.truth G (.ref a) = (match G a with
    | some (.lst ds) => some (!ds.isEmpty)
    | _ => none) := (rfl)
@[simp ↓] theorem intOf_int {i : Int} {G : Gp} {Q : KE} : intOfW [.int i] G Q = Q (.int i) G := (rfl)
@[simp ↓] theorem intOf_bl {b : Bool} {G : Gp} {Q : KE} : intOfW [.bl b] G Q = Q (.int (if b then 1 else 0)) G := (rfl)
@[simp ↓] theorem max2_ints {i j : Int} {G : Gp} {Q : KE} : max2W [.int i, .int j] G Q = Q (.int (if j > i then j else i)) G := (rfl)
@[simp ↓] theorem min2_ints {i j : Int} {G : Gp} {Q : KE} : min2W [.int i, .int j] G Q = Q (.int (if j < i then j else i)) G := (rfl)
@[simp ↓] theorem cmpW_eq {x y : D} {G : Gp} {Q : KB} : cmpW .eq x y G Q = (match eqO G x y with
    | some b => Q b G
    | none => False) := (rfl)
@[simp ↓] theorem cmpW_ne {x y : D} {G : Gp} {Q : KB} : cmpW .ne x y G Q = (match eqO G x y with
    | some b => Q (!b) G
    | none => False) := (rfl)
@[simp ↓] theorem cmpW_lt_int {i j : Int} {G : Gp} {Q : KB} : cmpW .lt (.int i) (.int j) G Q = Q (decide (i < j)) G := (rfl)
@[simp ↓] theorem cmpW_lt_tup {xs ys : List D} {G : Gp} {Q : KB} : cmpW .lt (.tup xs) (.tup ys) G Q = (match ints? xs, ints? ys with
      | some is, some js => Q (lexLt is js) G
      | _, _ => False) := (rfl)
@[simp ↓] theorem cmpW_le_int {i j : Int} {G : Gp} {Q : KB} : cmpW .le (.int i) (.int j) G Q = Q (decide (i ≤ j)) G := (rfl)
@[simp ↓] theorem cmpW_gt_int {i j : Int} {G : Gp} {Q : KB} : cmpW .gt (.int i) (.int j) G Q = Q (decide (j < i)) G := (rfl)
@[simp ↓] theorem cmpW_ge_int {i j : Int} {G : Gp} {Q : KB} : cmpW .ge (.int i) (.int j) G Q = Q (decide (j ≤ i)) G := (rfl)
@[simp ↓] theorem cmpW_isn {x : D} {G : Gp} {Q : KB} : cmpW .isn x .non G Q = Q (D.isNon x) G := (rfl)
@[simp ↓] theorem cmpW_nisn {x : D} {G : Gp} {Q : KB} : cmpW .nisn x .non G Q = Q (!D.isNon x) G := (rfl)
@[simp ↓] theorem cmpW_isb {a b : Bool} {G : Gp} {Q : KB} : cmpW .isb (.bl a) (.bl b) G Q = Q (a == b) G := (rfl)
@[simp ↓] theorem cmpW_isbn {b : Bool} {G : Gp} {Q : KB} : cmpW .isb .non (.bl b) G Q = Q false G := (rfl)
@[simp ↓] theorem cmpW_nisb {a b : Bool} {G : Gp} {Q : KB} : cmpW .nisb (.bl a) (.bl b) G Q = Q (!(a == b)) G := (rfl)
@[simp ↓] theorem cmpW_nisbn {b : Bool} {G : Gp} {Q : KB} : cmpW .nisb .non (.bl b) G Q = Q true G := (rfl)
@[simp ↓] theorem cmpW_inn_tup {x : D} {ds : List D} {G : Gp} {Q : KB} : cmpW .inn x (.tup ds) G Q = (match inO G x (.tup ds) with
      | some b => Q b G
      | none => False) := (rfl)
@[simp ↓] theorem cmpW_inn_ref {x : D} {a : Addr} {G : Gp} {Q : KB} : cmpW .inn x (.ref a) G Q = (match G a with
      | some (.dct kvs) => kindOk kvs x = true ∧ Q (keyAt kvs x).isSome G
      | _ => match inO G x (.ref a) with
        | some b => Q b G
        | none => False) := (rfl)
@[simp ↓] theorem cmpW_nin_tup {x : D} {ds : List D} {G : Gp} {Q : KB} : cmpW .nin x (.tup ds) G Q = (match inO G x (.tup ds) with
      | some b => Q (!b) G
      | none => False) := (rfl)
@[simp ↓] theorem cmpW_nin_ref {x : D} {a : Addr} {G : Gp} {Q : KB} : cmpW .nin x (.ref a) G Q = (match G a with
      | some (.dct kvs) => kindOk kvs x = true ∧ Q (!(keyAt kvs x).isSome) G
      | _ => match inO G x (.ref a) with
        | some b => Q (!b) G
        | none => False) := (rfl)
@[simp] theorem isNon_non : D.isNon .non = true := (rfl)
@[simp] theorem isNon_bl (b : Bool) : D.isNon (.bl b) = false := (rfl)
@[simp] theorem isNon_int (i : Int) : D.isNon (.int i) = false := (rfl)
@[simp] theorem isNon_str (s : Str) : D.isNon (.str s) = false := (rfl)
@[simp] theorem isNon_tup (l : List D) : D.isNon (.tup l) = false := (rfl)
@[simp] theorem isNon_ref (a : Addr) : D.isNon (.ref a) = false := (rfl)
@[simp] theorem eqB_non_non   : D.eqB (.non ) (.non ) = true := by simp only [D.eqB]
@[simp] theorem eqB_non_bl  (a' : Bool) : D.eqB (.non ) (.bl a') = false := by simp only [D.eqB]
@[simp] theorem eqB_non_int  (i' : Int) : D.eqB (.non ) (.int i') = false := by simp only [D.eqB]
@[simp] theorem eqB_non_str  (s' : Str) : D.eqB (.non ) (.str s') = false := by simp only [D.eqB]
@[simp] theorem eqB_non_tup  (l' : List D) : D.eqB (.non ) (.tup l') = false := by simp only [D.eqB]
@[simp] theorem eqB_bl_non (a : Bool)  : D.eqB (.bl a) (.non ) = false := by simp only [D.eqB]
@[simp] theorem eqB_bl_bl (a : Bool) (a' : Bool) : D.eqB (.bl a) (.bl a') = (a == a') := by simp only [D.eqB]
@[simp] theorem eqB_bl_int (a : Bool) (i' : Int) : D.eqB (.bl a) (.int i') = ((if a then 1 else 0 : Int) == i') := by simp only [D.eqB]
@[simp] theorem eqB_bl_str (a : Bool) (s' : Str) : D.eqB (.bl a) (.str s') = false := by simp only [D.eqB]
@[simp] theorem eqB_bl_tup (a : Bool) (l' : List D) : D.eqB (.bl a) (.tup l') = false := by simp only [D.eqB]
@[simp] theorem eqB_int_non (i : Int)  : D.eqB (.int i) (.non ) = false := by simp only [D.eqB]
@[simp] theorem eqB_int_bl (i : Int) (a' : Bool) : D.eqB (.int i) (.bl a') = (i == (if a' then 1 else 0 : Int)) := by simp only [D.eqB]
@[simp] theorem eqB_int_int (i : Int) (i' : Int) : D.eqB (.int i) (.int i') = (i == i') := by simp only [D.eqB]
@[simp] theorem eqB_int_str (i : Int) (s' : Str) : D.eqB (.int i) (.str s') = false := by simp only [D.eqB]
@[simp] theorem eqB_int_tup (i : Int) (l' : List D) : D.eqB (.int i) (.tup l') = false := by simp only [D.eqB]
@[simp] theorem eqB_str_non (s : Str)  : D.eqB (.str s) (.non ) = false := by simp only [D.eqB]
@[simp] theorem eqB_str_bl (s : Str) (a' : Bool) : D.eqB (.str s) (.bl a') = false := by simp only [D.eqB]
@[simp] theorem eqB_str_int (s : Str) (i' : Int) : D.eqB (.str s) (.int i') = false := by simp only [D.eqB]
@[simp] theorem eqB_str_str (s : Str) (s' : Str) : D.eqB (.str s) (.str s') = (s == s') := by simp only [D.eqB]
@[simp] theorem eqB_str_tup (s : Str) (l' : List D) : D.eqB (.str s) (.tup l') = false := by simp only [D.eqB]
@[simp] theorem eqB_tup_non (l : List D)  : D.eqB (.tup l) (.non ) = false := by simp only [D.eqB]
@[simp] theorem eqB_tup_bl (l : List D) (a' : Bool) : D.eqB (.tup l) (.bl a') = false := by simp only [D.eqB]
@[simp] theorem eqB_tup_int (l : List D) (i' : Int) : D.eqB (.tup l) (.int i') = false := by simp only [D.eqB]
@[simp] theorem eqB_tup_str (l : List D) (s' : Str) : D.eqB (.tup l) (.str s') = false := by simp only [D.eqB]
@[simp] theorem eqB_tup_tup (l : List D) (l' : List D) : D.eqB (.tup l) (.tup l') = D.eqBs l l' := by simp only [D.eqB]
@[simp] theorem eqBs_nil' : D.eqBs [] [] = true := by simp only [D.eqBs]
@[simp] theorem eqBs_cn (x : D) (xs : List D) : D.eqBs (x :: xs) [] = false := by simp only [D.eqBs]
@[simp] theorem eqBs_nc (x : D) (xs : List D) : D.eqBs [] (x :: xs) = false := by simp only [D.eqBs]
@[simp] theorem eqBs_cons (x y : D) (xs ys : List D) : D.eqBs (x :: xs) (y :: ys) = (D.eqB x y && D.eqBs xs ys) := by simp only [D.eqBs]
@[simp] theorem pure_non  : D.pure (.non ) = true := by simp only [D.pure]
@[simp] theorem depth_non  : D.depth (.non ) = 0 := by simp only [D.depth]
@[simp] theorem pure_bl (a : Bool) : D.pure (.bl a) = true := by simp only [D.pure]
@[simp] theorem depth_bl (a : Bool) : D.depth (.bl a) = 0 := by simp only [D.depth]
@[simp] theorem pure_int (i : Int) : D.pure (.int i) = true := by simp only [D.pure]
@[simp] theorem depth_int (i : Int) : D.depth (.int i) = 0 := by simp only [D.depth]
@[simp] theorem pure_str (s : Str) : D.pure (.str s) = true := by simp only [D.pure]
@[simp] theorem depth_str (s : Str) : D.depth (.str s) = 0 := by simp only [D.depth]
@[simp] theorem pure_tup (l : List D) : D.pure (.tup l) = D.pures l := by simp only [D.pure]
@[simp] theorem depth_tup (l : List D) : D.depth (.tup l) = D.depths l + 1 := by simp only [D.depth]
@[simp] theorem pure_ref (a : Addr) : D.pure (.ref a) = false := by simp only [D.pure]
@[simp] theorem pure_fn (f : Nat) : D.pure (.fn f) = false := by simp only [D.pure]
@[simp] theorem pure_rol (l : List D) : D.pure (.rol l) = false := by simp only [D.pure]
@[simp] theorem pures_nil : D.pures [] = true := by simp only [D.pures]
@[simp] theorem pures_cons (x : D) (xs : List D) : D.pures (x :: xs) = (D.pure x && D.pures xs) := by simp only [D.pures]
@[simp] theorem depths_nil : D.depths [] = 0 := by simp only [D.depths]
@[simp] theorem depths_cons (x : D) (xs : List D) : D.depths (x :: xs) = max (D.depth x) (D.depths xs) := by simp only [D.depths]
theorem eqO_val {G : Gp} {x y : D} (h : D.pure x = true) (h2 : D.pure y = true) (h3 : min (D.depth x) (D.depth y) ≤ 60) : eqO G x y = some (D.eqB x y) := by
  cases x <;> cases y <;> simp only [eqO, h, h2, h3, decide_true, Bool.and_self, if_true] <;> simp at h
theorem eqO_int (G : Gp) (i j : Int) : eqO G (.int i) (.int j) = some (i == j) := by rw [eqO_val] <;> simp
theorem eqO_str (G : Gp) (s t : Str) : eqO G (.str s) (.str t) = some (s == t) := by rw [eqO_val] <;> simp
theorem eqO_bl (G : Gp) (s t : Bool) : eqO G (.bl s) (.bl t) = some (s == t) := by rw [eqO_val] <;> simp
theorem inO_tup (G : Gp) (x : D) (ds : List D) (h : D.pure x = true) (h2 : D.pures ds = true) (h3 : D.depth x ≤ 60) : inO G x (.tup ds) = some (ds.any fun y => D.eqB y x) := by simp [inO, items?, h, h2, h3]
theorem inO_str_tup (G : Gp) (s : Str) (ds : List D) (h2 : D.pures ds = true) : inO G (.str s) (.tup ds) = some (ds.any fun y => D.eqB y (.str s)) := inO_tup G _ _ rfl h2 (by simp)
@[simp ↓] theorem line_num : line = 16777216 := (rfl)
@[simp] theorem start_eq (n : Nat) (ds : List D) : start n ds = ds.map some ++ List.replicate (n - ds.length) none := (rfl)
@[simp] theorem ctsLen_nil : CTs.nil.len = 0 := (rfl)
@[simp] theorem ctsLen_cons (t : CT) (ts : CTs) : (CTs.cons t ts).len = ts.len + 1 := (rfl)
@[simp] theorem kindO_tup (G : Gp) (l : List D) : kindO G (.tup l) = some .tup := (rfl)
@[simp] theorem kindO_str (G : Gp) (s : Str) : kindO G (.str s) = some .str := (rfl)
@[simp] theorem kindO_ref (G : Gp) (a : Addr) : kindO G (.ref a) = (match G a with
    | some (.lst _) => some .lst
    | some (.dct _) => some .dct
    | _ => none) := (rfl)
@[simp ↓] theorem appendW_ref {a : Addr} {y : D} {G : Gp} {Q : KE} : appendW [.ref a, y] G Q = (match G a with
    | some (.lst ds) => ds.length < line ∧ Q .non (up G a (.lst (ds ++ [y])))
    | _ => False) := (rfl)
end AT
/-! R2: a comprehension whose elements leave nothing behind. -/
namespace AT
open PySem (Str Addr)
theorem lc_pure {asg : D → St → Gp → (St → Gp → Prop) → Prop} {tst : St → Gp → KB → Prop} {elt : St → Gp → KE → Prop} {chk : Gp → Prop} {p : Addr} {σ : St} {G : Gp} {Q : Gp → Prop} {ds : List D} (f : D → D)
    (ht : ∀ σ G Q, tst σ G Q = Q true G) (hc : ∀ acc, chk (up G p (.lst acc))) (hl : ds.length ≤ 16777216)
    (he : ∀ x ∈ ds, ∀ (acc : List D) (Q2 : KE), Q2 (f x) (up G p (.lst acc)) → asg x σ (up G p (.lst acc)) fun σ1 G1 => elt σ1 G1 Q2)
    (q : Q (up G p (.lst (ds.map f)))) : lcS asg tst elt chk p σ Q ds (up G p (.lst [])) := by
  refine lc_rule (I := fun xs G' => ∃ dn, ds = dn ++ xs ∧ G' = up G p (.lst (dn.map f))) ?_ ?_ ⟨[], rfl, rfl⟩
  · rintro x xs G' ⟨dn, e, rfl⟩ W hW
    refine ⟨hc _, ?_⟩
    simp only [ht, if_true]
    refine he x (by rw [e]; simp) _ _ ?_
    simp only [up_same, up_up]
    refine ⟨?_, hW _ ⟨dn ++ [x], by simp [e], by simp⟩⟩
    have : ds.length = dn.length + (xs.length + 1) := by rw [e]; simp
    simp [line]
    omega
  · rintro G' ⟨dn, e, rfl⟩
    refine ⟨hc _, ?_⟩
    simp at e
    rw [← e]
    exact q
end AT
/-! B10: ways_of. -/
namespace AT
open PySem (Str Addr)
theorem eqBs_ints : ∀ (p q : Plc), D.eqBs (p.map fun (i : Nat) => D.int i) (q.map fun (i : Nat) => D.int i) = decide (p = q)
  | [], [] => rfl
  | [], y :: q => rfl
  | x :: p, [] => rfl
  | x :: p, y :: q => by
    simp only [List.map_cons, D.eqBs, D.eqB, eqBs_ints p q]
    have e : ((x : Int) == (y : Int)) = decide (x = y) := by
      by_cases h : x = y
      · simp [h]
      · have : ¬ (x : Int) = (y : Int) := by omega
        simp [h, this]
    simp [e]
@[simp] theorem eqB_pl (p q : Plc) : D.eqB (plD p) (plD q) = decide (p = q) := by
  unfold plD
  simp only [D.eqB]
  exact eqBs_ints p q
theorem eqO_pl (G : Gp) (p q : Plc) : eqO G (plD p) (plD q) = some (decide (p = q)) := by
  have e : eqO G (plD p) (plD q) = if D.pure (plD p) && D.pure (plD q) && decide (min (D.depth (plD p)) (D.depth (plD q)) ≤ 60) then some (D.eqB (plD p) (plD q)) else none := rfl
  rw [e]
  simp
section
variable {P : Pr} {n : Nat} {G : Gp} {Q : KE} {E : KX}
structure DWalk (P : Pr) : Prop where
  places : DPlaces P
  walker : DWalker P
  ways_of : P.defs f_ways_of = some d_ways_of
  first_state : P.defs f_first_state = some d_first_state
theorem Act.short_of_ok {c : Act} (h : c.ok = true) : c.short = true := by
  have : (actsS.all fun c => c.short) = true := by decide +kernel
  exact (List.all_eq_true.mp this) c (Act.mem_of_ok h)
theorem GoodP.short {prog : List Stm} (g : GoodP prog) {l : Plc} {b : List Stm} {a : Plc} (h : Pos prog l b a) : l.length < 1000 := by
  have := h.deep
  have := g.deep
  omega
theorem sp_ways_of (h : DWalk P) {prog : List Stm} (g : GoodP prog) {w : W} (hw : WOk prog w) (q : RetL Q G ((waysM prog w).map wayD)) : wpF P (n + 4) f_ways_of [.tup (Stm.toDs prog), w.toD] G Q E := by
  unfold wpF
  rw [h.ways_of]
  refine ⟨rfl, ?_⟩
  simp [d_ways_of, W.toD]
  refine sp_end_place h.places ?_
  simp [eqO_pl]
  unfold waysM at q
  rcases hw.pl.look with e | ⟨e, he⟩
  · have := look_end prog
    rw [← e] at this
    rw [this] at q
    simp [e]
    exact fun p hp => ⟨_, Sub.refl _, q p hp⟩
  · have ne : ¬ w.pl = [prog.length] := fun e2 => by rw [e2, look_end] at he; cases he
    simp [ne]
    simp only [he] at q
    obtain ⟨l, b, a, i, ho⟩ := leads_ok (look_some he).1
    have hpl : w.pl = l ++ [i] := by rw [← (look_some he).2, ho.pl]
    have hl := g.short ho.pos
    rw [hpl]
    refine sp_statement_at h.places ho.pos.body ho.get ?_
    try simp []
    unfold waysL at q
    have i1 : i < b.length := (List.getElem?_eq_some_iff.mp ho.get).1
    have h1 := ho.on
    have h2 := ho.into
    have h3 := ho.get
    cases hs : e.st with
    | act c =>
      have hc : c.ok = true := by
        have := Stm.oks_get (ho.pos.oks g.ok) ho.get
        rw [hs] at this
        exact this
      rw [hs] at h1 q
      have st : ∃ (s : String) (r : List D), c.toDs = .str s :: r ∧ s ≠ "loop" ∧ s ≠ "either" := by cases c <;> simp [Act.toDs]
      obtain ⟨s, r, hs1, hs2, hs3⟩ := st
      simp [Stm.toD, hs1, inO_str_tup, Ne.symm hs2, Ne.symm hs3]
      refine sp_behind h.places ho.pos i1 hl ?_
      try simp []
      refine sp_effects h.walker (Act.short_of_ok hc) ?_
      intro p hp
      simp
      intro p2 hp2
      have n2 : p2 ≠ p := fun e => by rw [e] at hp2; simp at hp2
      have n3 : G p2 = none := by rwa [up_ne n2] at hp2
      refine lc_pure (f := fun d => match d with
        | .tup [ls, a, b] => .tup [ls, .tup [plD e.on, a, b]]
        | d => d) ?_ ?_ ?_ ?_ ?_
      · intros; rfl
      · intro acc
        rw [up_ne (Ne.symm n2)]
        simp
      · have := (eff_ok hc hw.a hw.b hw.ne).2
        simp
        omega
      · intro x hx acc Q2 q2
        obtain ⟨f, hf, rfl⟩ := List.mem_map.mp hx
        simp [Eff.toD, wpG, wpGs, CTs.len, wipe]
        rw [h1] at q2
        exact q2
      · refine ⟨up G p2 (.lst (((effM c w.a w.b).map fun f => (f.ls, (⟨e.on, f.a, f.b⟩ : W))).map wayD)), ?_, q p2 n3⟩
        intro z c' hz
        by_cases e2 : z = p2
        · subst e2
          simp at hz ⊢
          rw [← hz]
          simp [Function.comp_def, Eff.toD, wayD, W.toD]
        · rw [up_ne e2] at hz ⊢
          have e3 : z ≠ p := fun e => by rw [e, hp] at hz; cases hz
          rw [up_ne e3]
          exact hz
    | loop c =>
      rw [hs] at h1 h2 h3 q
      simp [Stm.toD, inO_str_tup]
      refine sp_ways_at h.places ho.pos h3 hl (Stm.puresB_true _) ?_
      simp
      intro p hp
      refine lc_pure (f := fun d => .tup [.tup [], .tup [d, spD w.a, spD w.b]]) ?_ ?_ ?_ ?_ ?_
      · intros; rfl
      · intro acc; trivial
      · simp
      · intro x hx acc Q2 q2
        simp [wpG, wipe]
        exact q2
      · refine ⟨_, Sub.refl _, ?_⟩
        have q := q p hp
        simp [wayD, W.toD, ltD, h1, h2] at q
        simpa using q
    | either c d =>
      rw [hs] at h1 h2 h3 q
      simp [Stm.toD, inO_str_tup]
      refine sp_ways_at2 h.places ho.pos h3 hl (Stm.puresB_true _) ?_
      simp
      intro p hp
      refine lc_pure (f := fun d => .tup [.tup [], .tup [d, spD w.a, spD w.b]]) ?_ ?_ ?_ ?_ ?_
      · intros; rfl
      · intro acc; trivial
      · simp
      · intro x hx acc Q2 q2
        simp [wpG, wipe]
        exact q2
      · refine ⟨_, Sub.refl _, ?_⟩
        have q := q p hp
        simp [wayD, W.toD, ltD, h1, h2] at q
        simpa using q
end
end AT
/-! M6: tables, and the walker beside a table, in plain Lean. -/
namespace AT
open PySem (Str Addr)
structure Tab where
  moves : List (List Nat)
  bad : List Bool
def natsD (l : List Nat) : D := .tup (l.map fun (i : Nat) => D.int i)
def Tab.toD (t : Tab) : D := .tup [.tup (t.moves.map natsD), .tup (t.bad.map D.bl)]
structure TabOk (t : Tab) : Prop where
  rows : ∀ r ∈ t.moves, r.length = 17 ∧ ∀ x ∈ r, x < t.moves.length
  bad : t.bad.length = t.moves.length
  pos : 0 < t.moves.length
  most : t.moves.length ≤ 200
def ixL (s : Str) : Nat := lettersS.idxOf s
def movedT (t : Tab) (s : Nat) (l : Str) : Nat := (t.moves.getD s []).getD (ixL l) 0
def badT (t : Tab) (s : Nat) : Bool := t.bad.getD s false
def ledM (t : Tab) : Nat → List Str → Bool → Option Nat
  | s, [], _ => some s
  | s, l :: ls, m => if (m || decide (l = ("y.new" : Str))) && badT t (movedT t s l) then none else ledM t (movedT t s l) ls (m || decide (l = ("y.new" : Str)))
abbrev Nd := W × Nat
def ndD (x : Nd) : D := .tup [x.1.toD, .int x.2]
def costM (prog : List Stm) (w : W) : Nat := match look prog w.pl with
  | some e => match e.st with
    | .act _ => 1
    | _ => 0
  | none => 0
structure Link where
  w : W
  ls : List Str
  then_ : W
inductive Pth (prog : List Stm) (t : Tab) : List Link → Option Nd → Nat → Prop
  | nil : Pth prog t [] (some (W.first, 0)) 0
  | cons {p : List Link} {w : W} {s k : Nat} {x : Way} : Pth prog t p (some (w, s)) k → x ∈ waysM prog w →
      Pth prog t (⟨w, x.1, x.2⟩ :: p) ((ledM t s x.1 w.b.isSome).map fun s' => (x.2, s')) (k + costM prog w)
/-- the least step at which the walker breaks the table -/
def IsLeast (prog : List Stm) (t : Tab) (r : Option Nat) : Prop := match r with
  | none => ∀ k p, ¬ Pth prog t p none k
  | some k => (∃ p, Pth prog t p none k) ∧ ∀ k' p', Pth prog t p' none k' → k ≤ k'
theorem IsLeast.unique {prog : List Stm} {t : Tab} {r r' : Option Nat} (h : IsLeast prog t r) (h' : IsLeast prog t r') : r = r' := by
  cases r with
  | none => cases r' with
    | none => rfl
    | some k => exact absurd h'.1.choose_spec (h k _)
  | some k => cases r' with
    | none => exact absurd h.1.choose_spec (h' k _)
    | some k' =>
      have a := h.2 _ _ h'.1.choose_spec
      have b := h'.2 _ _ h.1.choose_spec
      rw [Nat.le_antisymm a b]
theorem ixL_lt {l : Str} (h : l ∈ lettersS) : ixL l < 17 := List.idxOf_lt_length_iff.mpr h
theorem movedT_lt {t : Tab} (ok : TabOk t) {s : Nat} (hs : s < t.moves.length) {l : Str} (hl : l ∈ lettersS) : movedT t s l < t.moves.length := by
  unfold movedT
  have h1 := ok.rows t.moves[s] (List.getElem_mem hs)
  have h2 := ixL_lt hl
  have e1 : t.moves.getD s [] = t.moves[s] := by simp [List.getD, List.getElem?_eq_getElem hs]
  rw [e1]
  have e2 : t.moves[s].getD (ixL l) 0 = t.moves[s][ixL l]'(by omega) := by simp [List.getD, List.getElem?_eq_getElem (show ixL l < t.moves[s].length by omega)]
  rw [e2]
  exact h1.2 _ (List.getElem_mem _)
theorem ledM_lt {t : Tab} (ok : TabOk t) : ∀ (ls : List Str) (s : Nat) (m : Bool) (s' : Nat), s < t.moves.length → (∀ l ∈ ls, l ∈ lettersS) → ledM t s ls m = some s' → s' < t.moves.length
  | [], s, m, s', hs, hl, h => by
    simp [ledM] at h
    omega
  | l :: ls, s, m, s', hs, hl, h => by
    simp only [ledM] at h
    split at h
    · cases h
    · exact ledM_lt ok ls _ _ s' (movedT_lt ok hs (hl l (by simp))) (fun x hx => hl x (by simp [hx])) h
/-- nodes that are come to -/
structure NdOk (prog : List Stm) (t : Tab) (x : Nd) : Prop where
  w : WOk prog x.1
  s : x.2 < t.moves.length
theorem Pth.ok {prog : List Stm} {t : Tab} (g : GoodP prog) (ok : TabOk t) {p : List Link} {o : Option Nd} {k : Nat} (h : Pth prog t p o k) : ∀ x, o = some x → NdOk prog t x := by
  induction h with
  | nil =>
    intro x hx
    cases hx
    exact ⟨WOk.first prog, ok.pos⟩
  | cons h hx ih =>
    rename_i w s k x
    intro y hy
    have h1 := ih _ rfl
    have h2 := (ways_ok g h1.w).1 x hx
    cases hl : ledM t s x.1 w.b.isSome with
    | none => rw [hl] at hy; cases hy
    | some s' =>
      rw [hl] at hy
      cases hy
      exact ⟨h2.1, ledM_lt ok _ _ _ _ h1.s h2.2 hl⟩
/-- all nodes that there may be -/
def allNd (prog : List Stm) (t : Tab) : List Nd := ([prog.length] :: keysL (leads prog)).flatMap fun p => spots.flatMap fun a => spots.flatMap fun b => (List.range t.moves.length).map fun s => (⟨p, a, b⟩, s)
theorem NdOk.mem {prog : List Stm} {t : Tab} {x : Nd} (h : NdOk prog t x) : x ∈ allNd prog t := by
  unfold allNd
  simp only [List.mem_flatMap, List.mem_map, List.mem_range]
  refine ⟨x.1.pl, ?_, x.1.a, h.w.a, x.1.b, h.w.b, x.2, h.s, rfl⟩
  rcases h.w.pl with e | e
  · simp [e]
  · simp [e]
theorem allNd_len {prog : List Stm} {t : Tab} (g : GoodP prog) (ok : TabOk t) : (allNd prog t).length ≤ 524800 := by
  unfold allNd
  have h1 : (keysL (leads prog)).length ≤ 40 := by simp [keysL, leads_len]; exact g.many
  have h2 := ok.most
  simp only [List.length_flatMap, List.length_map, List.length_range, List.map_const', List.sum_replicate_nat, List.length_cons]
  have h3 : spots.length = 8 := rfl
  rw [h3]
  have h4 : (keysL (leads prog)).length + 1 ≤ 41 := by omega
  calc _ ≤ 41 * (8 * (8 * 200)) := Nat.mul_le_mul h4 (Nat.mul_le_mul_left _ (Nat.mul_le_mul_left _ h2))
    _ = 524800 := by decide
end AT
/-! B11: moved_by, led_by, costs_of. -/
namespace AT
open PySem (Str Addr)
def lettersD : List D := lettersS.map D.str
theorem lettersD_eq : [D.str "e.putp", D.str "e.putq", D.str "e.takep", D.str "e.takeq", D.str "e.end", D.str "e.u", D.str "e.v", D.str "e.w", D.str "y.putp", D.str "y.putq", D.str "y.takep", D.str "y.takeq", D.str "y.end", D.str "y.u", D.str "y.v", D.str "y.w", D.str "y.new"] = lettersD := rfl
theorem pures_strs (l : List Str) : D.pures (l.map D.str) = true := by
  induction l with
  | nil => rfl
  | cons i l ih => simpa [D.pures, D.pure] using ih
theorem findIdx_strs : ∀ (l : List Str) (s : Str), s ∈ l → (l.map D.str).findIdx? (fun d => D.eqB d (.str s)) = some (l.idxOf s)
  | x :: l, s, h => by
    simp only [List.map_cons, List.findIdx?_cons, D.eqB]
    by_cases e : x = s
    · subst e
      simp
    · have h2 : s ∈ l := by
        rcases List.mem_cons.mp h with h | h
        · exact absurd h.symm e
        · exact h
      have e3 : (x == s) = false := by simpa using e
      simp [e, e3, findIdx_strs l s h2, List.idxOf_cons]
theorem indexW_letters {l : Str} (h : l ∈ lettersS) (G : Gp) (Q : KE) (q : Q (.int (ixL l)) G) : indexW [.tup lettersD, .str l] G Q := by
  have e : lettersD.findIdx? (fun d => D.eqB d (.str l)) = some (ixL l) := findIdx_strs lettersS l h
  have p : D.pures lettersD = true := pures_strs _
  simp [indexW, items?, D.pure, D.depth, p, e]
  exact q
structure DTab (P : Pr) : Prop where
  moved_by : P.defs f_moved_by = some d_moved_by
  led_by : P.defs f_led_by = some d_led_by
  costs_of : P.defs f_costs_of = some d_costs_of
section
variable {P : Pr} {n : Nat} {G : Gp} {Q : KE} {E : KX}
theorem sp_moved_by (h : DTab P) {t : Tab} (ok : TabOk t) {s : Nat} (hs : s < t.moves.length) {l : Str} (hl : l ∈ lettersS) (q : Q (.int (movedT t s l)) G) : wpF P (n + 1) f_moved_by [t.toD, .int s, .str l] G Q E := by
  unfold wpF
  rw [h.moved_by]
  refine ⟨rfl, ?_⟩
  have e1 := List.getElem?_eq_getElem hs
  have h1 := (ok.rows t.moves[s] (List.getElem_mem hs)).1
  have h2 := ixL_lt hl
  have e2 : t.moves[s][ixL l]? = some (movedT t s l) := by
    have : ixL l < t.moves[s].length := by omega
    unfold movedT
    simp [List.getD, e1, List.getElem?_eq_getElem this]
  simp [d_moved_by, Tab.toD, e1, natsD]
  refine indexW_letters hl _ _ ?_
  simp [e2]
  exact ⟨_, Sub.refl _, q⟩
theorem sp_led_by (h : DTab P) {t : Tab} (ok : TabOk t) {s : Nat} (hs : s < t.moves.length) {ls : List Str} (hl : ∀ l ∈ ls, l ∈ lettersS) {m : Bool} (q : Q (match ledM t s ls m with
    | some s' => .int s'
    | none => .non) G) : wpF P (n + 2) f_led_by [t.toD, .int s, ltD ls, .bl m] G Q E := by
  unfold wpF
  rw [h.led_by]
  refine ⟨rfl, ?_⟩
  simp [d_led_by, ltD]
  refine for_rule (I := fun xs σ G' => G' = G ∧ ∃ ls' s' m' x, xs = ls'.map D.str ∧ σ = [some t.toD, some (.int (s' : Nat)), some (.tup (ls.map D.str)), some (.bl m'), x] ∧ s' < t.moves.length ∧ (∀ l ∈ ls', l ∈ lettersS) ∧ ledM t s' ls' m' = ledM t s ls m) ?_ ?_ ⟨rfl, ls, s, m, none, rfl, rfl, hs, hl, rfl⟩
  · rintro x xs σ G' ⟨rfl, ls', s', m', y, e1, rfl, h1, h2, h3⟩ W hW
    cases ls' with
    | nil => simp at e1
    | cons l ls' =>
      simp only [List.map_cons, List.cons.injEq] at e1
      obtain ⟨rfl, rfl⟩ := e1
      simp [wpG]
      refine sp_moved_by h ok h1 (h2 l (by simp)) ?_
      try simp []
      have h4 := movedT_lt ok h1 (h2 l (by simp))
      have hb : t.bad[movedT t s' l]? = some (badT t (movedT t s' l)) := by
        rw [List.getElem?_eq_getElem (by rw [ok.bad]; exact h4)]
        simp [badT, List.getD, List.getElem?_eq_getElem (show movedT t s' l < t.bad.length by rw [ok.bad]; exact h4)]
      simp only [ledM] at h3
      have nx : ∀ m2, ¬ ((m2 && badT t (movedT t s' l)) = true) → m2 = (m' || decide (l = ("y.new" : Str))) → W [some t.toD, some (.int (movedT t s' l)), some (.tup (ls.map D.str)), some (.bl m2), some (.str l)] G' := by
        intro m2 hm e
        subst e
        rw [if_neg hm] at h3
        exact hW _ _ ⟨rfl, ls', movedT t s' l, _, _, rfl, rfl, h4, fun x hx => h2 x (by simp [hx]), h3⟩
      have rt : ∀ m2, ((m2 && badT t (movedT t s' l)) = true) → m2 = (m' || decide (l = ("y.new" : Str))) → ∃ G'', Sub G'' G' ∧ Q D.non G'' := by
        intro m2 hm e
        subst e
        rw [if_pos hm] at h3
        rw [← h3] at q
        exact ⟨_, Sub.refl _, q⟩
      cases hm : m' with
      | true =>
        simp [hm] at nx rt ⊢
        simp [idxW, Tab.toD, hb]
        cases hbb : badT t (movedT t s' l) with
        | true => simp; exact rt hbb
        | false => simp; exact nx hbb
      | false =>
        simp [hm, eqO_ss'] at nx rt ⊢
        by_cases hn : l = ("y.new" : Str)
        · simp [hn] at nx rt hb ⊢
          simp [idxW, Tab.toD, hb]
          cases hbb : badT t (movedT t s' ("y.new" : Str)) with
          | true => simp; exact rt hbb
          | false => simp; exact nx hbb
        · simp [hn] at nx rt ⊢
          exact nx
  · rintro σ G' ⟨rfl, ls', s', m', y, e1, rfl, h1, h2, h3⟩
    cases ls' with
    | cons l ls' => simp at e1
    | nil =>
      simp [ledM] at h3
      rw [← h3] at q
      simp
      exact ⟨_, Sub.refl _, q⟩
def askM (prog : List Stm) (w : W) : Nat := match look prog w.pl with
  | some e => match e.st with
    | .act (.take _ _) => 1
    | .act _ => 0
    | _ => 1
  | none => 0
theorem sp_costs_of (h : DTab P) (hd : DPlaces P) {prog : List Stm} {w : W} (hw : PlOk prog w.pl) (q : Q (.tup [.int (costM prog w), .int (askM prog w)]) G) : wpF P (n + 3) f_costs_of [.tup (Stm.toDs prog), plD w.pl] G Q E := by
  unfold wpF
  rw [h.costs_of]
  refine ⟨rfl, ?_⟩
  simp [d_costs_of]
  refine sp_end_place hd ?_
  simp [eqO_pl]
  unfold costM askM at q
  rcases hw.look with e | ⟨e, he⟩
  · have := look_end prog
    rw [← e] at this
    rw [this] at q
    simp [e]
    exact ⟨_, Sub.refl _, q⟩
  · have ne : ¬ w.pl = [prog.length] := fun e2 => by rw [e2, look_end] at he; cases he
    simp [ne]
    simp only [he] at q
    obtain ⟨l, b, a, i, ho⟩ := leads_ok (look_some he).1
    have hpl : w.pl = l ++ [i] := by rw [← (look_some he).2, ho.pl]
    rw [hpl]
    refine sp_statement_at hd ho.pos.body ho.get ?_
    try simp []
    cases hs : e.st with
    | act c =>
      rw [hs] at q
      cases c <;> simp [Stm.toD, Act.toDs, inO_str_tup, eqO_ss'] <;> exact ⟨_, Sub.refl _, q⟩
    | loop c =>
      rw [hs] at q
      simp [Stm.toD, inO_str_tup]
      exact ⟨_, Sub.refl _, q⟩
    | either c d =>
      rw [hs] at q
      simp [Stm.toD, inO_str_tup]
      exact ⟨_, Sub.refl _, q⟩
end
end AT
/-! M7: the search by a heap, in plain Lean: what holds of heap and known ones. -/
namespace AT
open PySem (Str Addr)
theorem perm_lift {α β : Type} {f : α → β} : ∀ {l l' : List β}, l.Perm l' → ∀ m' : List α, l' = m'.map f → ∃ m : List α, m.Perm m' ∧ l = m.map f := by
  intro l l' h
  induction h with
  | nil => intro m' e; exact ⟨[], by cases m' with | nil => exact .nil | cons a m => simp at e, rfl⟩
  | cons x h ih =>
    intro m' e
    cases m' with
    | nil => simp at e
    | cons a m =>
      simp only [List.map_cons, List.cons.injEq] at e
      obtain ⟨m2, h2, e2⟩ := ih m e.2
      exact ⟨a :: m2, h2.cons a, by simp [e.1, e2]⟩
  | swap x y l =>
    intro m' e
    match m', e with
    | a :: b :: m, e =>
      simp only [List.map_cons, List.cons.injEq] at e
      exact ⟨b :: a :: m, .swap _ _ _, by simp [e.1, e.2.1, e.2.2]⟩
    | [], e => simp at e
    | [a], e => simp at e
  | trans h1 h2 ih1 ih2 =>
    intro m' e
    obtain ⟨m2, h3, e3⟩ := ih2 m' e
    obtain ⟨m1, h4, e4⟩ := ih1 m2 e3
    exact ⟨m1, h4.trans h3, e4⟩
theorem nodup_len {α : Type} [DecidableEq α] : ∀ {l m : List α}, l.Nodup → (∀ x ∈ l, x ∈ m) → l.length ≤ m.length
  | [], m, h, s => by simp
  | x :: l, m, h, s => by
    have hx := s x (by simp)
    have h2 := List.nodup_cons.mp h
    have := nodup_len (l := l) (m := m.erase x) h2.2 (fun y hy => by
      have : y ≠ x := fun e => h2.1 (e ▸ hy)
      exact (List.mem_erase_of_ne this).mpr (s y (by simp [hy])))
    rw [List.length_erase_of_mem hx] at this
    have : 0 < m.length := List.length_pos_of_mem hx
    simp
    omega
structure En where
  k : Nat
  m : Nat
  num : Nat
  o : Option Nd
  p : List Link
def Link.wD : List Link → D
  | [] => .non
  | ⟨w, ls, w'⟩ :: p => .tup [Link.wD p, w.toD, ltD ls, w'.toD]
def onD : Option Nd → D
  | none => .non
  | some x => ndD x
def En.toD (e : En) : D := .tup [.int e.k, .int e.m, .int e.num, onD e.o, Link.wD e.p]
def knD (kn : List (Nd × Nat)) : List (D × D) := kn.map fun x => (ndD x.1, .bl true)
/-- it is waited for, known, or still to come -/
def Cov (es : List En) (kn : List (Nd × Nat)) (pend : List (Option Nd × Nat)) (o : Option Nd) (k : Nat) : Prop :=
  (∃ e ∈ es, e.o = o ∧ e.k ≤ k) ∨ (∃ n d, o = some n ∧ (n, d) ∈ kn ∧ d ≤ k) ∨ (∃ x ∈ pend, x.1 = o ∧ x.2 ≤ k)
structure LW (prog : List Stm) (t : Tab) (num : Nat) (es : List En) (kn : List (Nd × Nat)) (pend : List (Option Nd × Nat)) (low : Nat) : Prop where
  pth : ∀ e ∈ es, Pth prog t e.p e.o e.k
  nums : ∀ e ∈ es, e.num ≤ num
  nodup : (es.map (·.num)).Nodup
  kn_nodup : (kn.map (·.1)).Nodup
  kn_ok : ∀ x ∈ kn, NdOk prog t x.1
  low1 : ∀ x ∈ kn, x.2 ≤ low
  low2 : ∀ e ∈ es, low ≤ e.k
  cover : ∀ x ∈ kn, ∀ y ∈ waysM prog x.1.1, Cov es kn pend ((ledM t x.1.2 y.1 x.1.1.b.isSome).map fun s' => (y.2, s')) (x.2 + costM prog x.1.1)
  begin_ : Cov es kn pend (some (W.first, 0)) 0
  len : es.length + pend.length ≤ 3 * kn.length + 1
theorem LW.all {prog : List Stm} {t : Tab} {num low : Nat} {es : List En} {kn : List (Nd × Nat)} (h : LW prog t num es kn [] low) {p : List Link} {o : Option Nd} {k : Nat} (hp : Pth prog t p o k) :
    (∃ e ∈ es, e.k ≤ k) ∨ (∃ n d, o = some n ∧ (n, d) ∈ kn ∧ d ≤ k) := by
  induction hp with
  | nil =>
    rcases h.begin_ with ⟨e, he, h1, h2⟩ | h1 | ⟨x, hx, _⟩
    · exact .inl ⟨e, he, h2⟩
    · exact .inr h1
    · simp at hx
  | @cons p w s k x hp hx ih =>
    rcases ih with ⟨e, he, h1⟩ | ⟨n, d, e, h1, h2⟩
    · exact .inl ⟨e, he, by omega⟩
    · cases e
      rcases h.cover _ h1 x hx with ⟨e, he, h3, h4⟩ | ⟨n, d', h3, h4, h5⟩ | ⟨x, hx, _⟩
      · exact .inl ⟨e, he, by simp only at h4; omega⟩
      · exact .inr ⟨n, d', h3, h4, by simp only at h5; omega⟩
      · simp at hx
theorem LW.empty {prog : List Stm} {t : Tab} {num low : Nat} {kn : List (Nd × Nat)} (h : LW prog t num [] kn [] low) : ∀ k p, ¬ Pth prog t p none k := by
  intro k p hp
  rcases h.all hp with ⟨e, he, _⟩ | ⟨n, d, e, _⟩
  · simp at he
  · cases e
theorem LW.least {prog : List Stm} {t : Tab} {num low : Nat} {es : List En} {kn : List (Nd × Nat)} (h : LW prog t num es kn [] low) {e : En} (he : ∀ e' ∈ es, e.k ≤ e'.k) : ∀ k' p', Pth prog t p' none k' → e.k ≤ k' := by
  intro k p hp
  rcases h.all hp with ⟨e', h1, h2⟩ | ⟨n, d, e, _⟩
  · have := he e' h1
    omega
  · cases e
theorem LW.perm {prog : List Stm} {t : Tab} {num low : Nat} {es es' : List En} {kn : List (Nd × Nat)} {pend : List (Option Nd × Nat)} (h : LW prog t num es kn pend low) (hp : es'.Perm es) : LW prog t num es' kn pend low := by
  have cv : ∀ o k, Cov es kn pend o k → Cov es' kn pend o k := by
    intro o k hc
    rcases hc with ⟨e, he, h1⟩ | h1
    · exact .inl ⟨e, hp.mem_iff.mpr he, h1⟩
    · exact .inr h1
  exact ⟨fun e he => h.pth e (hp.mem_iff.mp he), fun e he => h.nums e (hp.mem_iff.mp he), (hp.map _).nodup_iff.mpr h.nodup, h.kn_nodup, h.kn_ok, h.low1, fun e he => h.low2 e (hp.mem_iff.mp he), fun x hx y hy => cv _ _ (h.cover x hx y hy), cv _ _ h.begin_, by rw [hp.length_eq]; exact h.len⟩
/-- a node that was known before is taken out -/
theorem LW.old {prog : List Stm} {t : Tab} {num low : Nat} {es : List En} {kn : List (Nd × Nat)} {e : En} {n : Nd} {d : Nat} (h : LW prog t num (e :: es) kn [] low) (ho : e.o = some n) (hk : (n, d) ∈ kn) : LW prog t num es kn [] low := by
  have cv : ∀ o k, Cov (e :: es) kn [] o k → Cov es kn [] o k := by
    intro o k hc
    rcases hc with ⟨e', he, h1, h2⟩ | h1
    · rcases List.mem_cons.mp he with rfl | he
      · refine .inr (.inl ⟨n, d, by rw [← h1, ho], hk, ?_⟩)
        have a := h.low1 _ hk
        have b := h.low2 e' (by simp)
        simp only at a
        omega
      · exact .inl ⟨e', he, h1, h2⟩
    · exact .inr h1
  have hn := h.nodup
  simp only [List.map_cons, List.nodup_cons] at hn
  have hl := h.len
  exact ⟨fun e he => h.pth e (by simp [he]), fun e he => h.nums e (by simp [he]), hn.2, h.kn_nodup, h.kn_ok, h.low1, fun e he => h.low2 e (by simp [he]), fun x hx y hy => cv _ _ (h.cover x hx y hy), cv _ _ h.begin_, by simp at hl ⊢; omega⟩
def pendM (prog : List Stm) (t : Tab) (n : Nd) (k : Nat) (ws : List Way) : List (Option Nd × Nat) := ws.map fun y => ((ledM t n.2 y.1 n.1.b.isSome).map (fun s' => (y.2, s')), k + costM prog n.1)
/-- a new node is taken out: its ways are to come -/
theorem LW.new {prog : List Stm} {t : Tab} (g : GoodP prog) (ok : TabOk t) {num low : Nat} {es : List En} {kn : List (Nd × Nat)} {e : En} {n : Nd} (h : LW prog t num (e :: es) kn [] low) (he : ∀ e' ∈ es, e.k ≤ e'.k) (ho : e.o = some n) (hk : n ∉ kn.map (·.1)) : LW prog t num es (kn ++ [(n, e.k)]) (pendM prog t n e.k (waysM prog n.1)) e.k := by
  have hno : NdOk prog t n := by
    have := h.pth e (by simp)
    exact this.ok g ok n ho
  have cv : ∀ o k, Cov (e :: es) kn [] o k → Cov es (kn ++ [(n, e.k)]) (pendM prog t n e.k (waysM prog n.1)) o k := by
    intro o k hc
    rcases hc with ⟨e', he, h1, h2⟩ | ⟨n', d, h1, h2, h3⟩ | ⟨x, hx, _⟩
    · rcases List.mem_cons.mp he with rfl | he
      · exact .inr (.inl ⟨n, e'.k, by rw [← h1, ho], by simp, h2⟩)
      · exact .inl ⟨e', he, h1, h2⟩
    · exact .inr (.inl ⟨n', d, h1, by simp [h2], h3⟩)
    · simp at hx
  have hn := h.nodup
  simp only [List.map_cons, List.nodup_cons] at hn
  have hl := h.len
  have h3 := (ways_ok g hno.w).2
  refine ⟨fun e he => h.pth e (by simp [he]), fun e he => h.nums e (by simp [he]), hn.2, ?_, ?_, ?_, he, ?_, cv _ _ h.begin_, ?_⟩
  · rw [List.map_append, List.nodup_append]
    refine ⟨h.kn_nodup, by simp, ?_⟩
    intro a ha b hb e
    simp at hb
    subst hb
    exact hk (e ▸ ha)
  · intro x hx
    rcases List.mem_append.mp hx with hx | hx
    · exact h.kn_ok x hx
    · simp at hx
      subst hx
      exact hno
  · intro x hx
    have b := h.low2 e (by simp)
    rcases List.mem_append.mp hx with hx | hx
    · have a := h.low1 x hx
      omega
    · simp at hx
      subst hx
      simp
  · intro x hx y hy
    rcases List.mem_append.mp hx with hx | hx
    · exact cv _ _ (h.cover x hx y hy)
    · simp at hx
      subst hx
      exact .inr (.inr ⟨_, List.mem_map.mpr ⟨y, hy, rfl⟩, rfl, by simp⟩)
  · simp [pendM] at hl ⊢
    omega
/-- one of those to come is pushed -/
theorem LW.push {prog : List Stm} {t : Tab} {num low : Nat} {es : List En} {kn : List (Nd × Nat)} {o : Option Nd} {k m : Nat} {p : List Link} {pend : List (Option Nd × Nat)} (h : LW prog t num es kn ((o, k) :: pend) low) (hp : Pth prog t p o k) (hl : low ≤ k) : LW prog t (num + 1) (⟨k, m, num + 1, o, p⟩ :: es) kn pend low := by
  have cv : ∀ o' k', Cov es kn ((o, k) :: pend) o' k' → Cov (⟨k, m, num + 1, o, p⟩ :: es) kn pend o' k' := by
    intro o' k' hc
    rcases hc with ⟨e', he, h1, h2⟩ | h1 | ⟨x, hx, h1, h2⟩
    · exact .inl ⟨e', by simp [he], h1, h2⟩
    · exact .inr (.inl h1)
    · rcases List.mem_cons.mp hx with rfl | hx
      · exact .inl ⟨_, List.mem_cons_self, h1, h2⟩
      · exact .inr (.inr ⟨x, hx, h1, h2⟩)
  have hlen := h.len
  refine ⟨?_, ?_, ?_, h.kn_nodup, h.kn_ok, h.low1, ?_, fun x hx y hy => cv _ _ (h.cover x hx y hy), cv _ _ h.begin_, by simp at hlen ⊢; omega⟩
  · intro e he
    rcases List.mem_cons.mp he with rfl | he
    · exact hp
    · exact h.pth e he
  · intro e he
    rcases List.mem_cons.mp he with rfl | he
    · simp
    · have := h.nums e he
      omega
  · simp only [List.map_cons, List.nodup_cons]
    refine ⟨?_, h.nodup⟩
    intro hm
    obtain ⟨e, he, e2⟩ := List.mem_map.mp hm
    have := h.nums e he
    omega
  · intro e he
    rcases List.mem_cons.mp he with rfl | he
    · exact hl
    · exact h.low2 e he
theorem LW.start {prog : List Stm} {t : Tab} : LW prog t 0 [⟨0, 0, 0, some (W.first, 0), []⟩] [] [] 0 :=
  ⟨by simp; exact .nil, by simp, by simp, by simp, by simp, by simp, by simp, by simp, .inl ⟨_, List.mem_cons_self, rfl, Nat.le_refl _⟩, by simp⟩
theorem LW.kn_len {prog : List Stm} {t : Tab} (g : GoodP prog) (ok : TabOk t) {num low : Nat} {es : List En} {kn : List (Nd × Nat)} {pend : List (Option Nd × Nat)} (h : LW prog t num es kn pend low) : kn.length ≤ 524800 := by
  have := nodup_len (m := allNd prog t) h.kn_nodup (fun x hx => by
    obtain ⟨y, hy, rfl⟩ := List.mem_map.mp hx
    exact (h.kn_ok y hy).mem)
  simp at this
  have := allNd_len g ok
  omega
end AT
/-! B12: least_way. -/
namespace AT
open PySem (Str Addr)
@[simp] theorem pure_sp (a : Option Str) : D.pure (spD a) = true := by cases a <;> rfl
@[simp] theorem depth_sp (a : Option Str) : D.depth (spD a) = 0 := by cases a <;> rfl
@[simp] theorem eqB_sp (a b : Option Str) : D.eqB (spD a) (spD b) = decide (a = b) := by
  cases a <;> cases b <;> simp [spD, D.eqB]
  rename_i s t
  by_cases h : s = t <;> simp [h]
@[simp] theorem pure_W (w : W) : D.pure w.toD = true := by simp [W.toD, D.pure, D.pures]
@[simp] theorem depth_W (w : W) : D.depth w.toD = 2 := by simp [W.toD, D.depth, D.depths]
@[simp] theorem eqB_W (w v : W) : D.eqB w.toD v.toD = decide (w = v) := by
  cases w; cases v
  simp [W.toD, D.eqB, D.eqBs]
@[simp] theorem pure_nd (x : Nd) : D.pure (ndD x) = true := by simp [ndD, D.pure, D.pures]
@[simp] theorem depth_nd (x : Nd) : D.depth (ndD x) = 3 := by simp [ndD, D.depth, D.depths]
theorem beq_nat_int (x y : Nat) : ((x : Int) == (y : Int)) = decide (x = y) := by
  by_cases h : x = y
  · simp [h]
  · have : ¬ (x : Int) = (y : Int) := by omega
    simp [h, this]
@[simp] theorem eqB_nd (x y : Nd) : D.eqB (ndD x) (ndD y) = decide (x = y) := by
  cases x; cases y
  simp [ndD, D.eqB, D.eqBs, beq_nat_int]
/-- a dict whose keys are some coded ones -/
theorem keyAt_in {α : Type} [DecidableEq α] {f : α → D} (hf : ∀ x y, D.eqB (f x) (f y) = decide (x = y)) (v : α → D) : ∀ {ks : List α} {x : α}, x ∈ ks → keyAt (ks.map fun k => (f k, v k)) (f x) = some (v x)
  | k :: ks, x, hx => by
    have ih := keyAt_in hf v (ks := ks) (x := x)
    unfold keyAt at ih ⊢
    simp only [List.map_cons, List.find?_cons, hf]
    by_cases h : k = x
    · subst h
      simp
    · have h2 : x ∈ ks := by
        rcases List.mem_cons.mp hx with e | e
        · exact absurd e.symm h
        · exact e
      simp only [h, decide_false, ih h2]
theorem keyAt_out {α : Type} [DecidableEq α] {f : α → D} (hf : ∀ x y, D.eqB (f x) (f y) = decide (x = y)) (v : α → D) : ∀ {ks : List α} {x : α}, x ∉ ks → keyAt (ks.map fun k => (f k, v k)) (f x) = none
  | [], x, hx => by simp [keyAt]
  | k :: ks, x, hx => by
    have ih := keyAt_out hf v (ks := ks) (x := x)
    unfold keyAt at ih ⊢
    simp only [List.map_cons, List.find?_cons, hf]
    have h : k ≠ x := fun e => hx (by simp [e])
    have h2 : x ∉ ks := fun e => hx (by simp [e])
    simp only [h, decide_false, ih h2]
theorem knD_eq (kn : List (Nd × Nat)) : knD kn = (kn.map (·.1)).map fun k => (ndD k, D.bl true) := by simp [knD]
theorem keyAt_kn (kn : List (Nd × Nat)) (x : Nd) : keyAt (knD kn) (ndD x) = if x ∈ kn.map (·.1) then some (.bl true) else none := by
  rw [knD_eq]
  by_cases h : x ∈ kn.map (·.1)
  · rw [keyAt_in eqB_nd (fun _ => .bl true) h, if_pos h]
  · rw [keyAt_out eqB_nd (fun _ => .bl true) h, if_neg h]
theorem kindOk_kn (kn : List (Nd × Nat)) (x : Nd) : kindOk (knD kn) (ndD x) = true := by
  have : ∀ y : Nd, D.isT (ndD y) = true := fun y => rfl
  simp [kindOk, D.keyOk, this, knD]
theorem keyPut_kn (kn : List (Nd × Nat)) (x : Nd) (k : Nat) (h : x ∉ kn.map (·.1)) : keyPut (knD kn) (ndD x) (.bl true) = knD (kn ++ [(x, k)]) := by
  unfold keyPut
  rw [keyAt_kn]
  simp only [h, if_false]
  simp [knD]
theorem Sub.upR {G G' : Gp} {p : Addr} (h : G p = none) (s : Sub G G') (c : Cell) : Sub G (AT.up G' p c) := fun a c' e => by
  by_cases e2 : a = p
  · subst e2
    rw [h] at e
    cases e
  · rw [up_ne e2]
    exact s a c' e
theorem Sub.none {G G' : Gp} {p : Addr} (s : Sub G G') (h : G' p = Option.none) : G p = Option.none := by
  cases hg : G p with
  | none => rfl
  | some c =>
    have := s p c hg
    rw [h] at this
    cases this
theorem hkey_En (e : En) : hkey e.toD = some ((e.k : Int), (e.m : Int), (e.num : Int)) := rfl
structure DLeast (P : Pr) : Prop where
  walk : DWalk P
  tab : DTab P
  least_way : P.defs f_least_way = some d_least_way
section
variable {P : Pr} {n : Nat} {G : Gp} {Q : KE} {E : KX}
@[simp] theorem idxW_W0 (w : W) (G : Gp) (Q : KE) : idxW w.toD (.int 0) G Q = Q (plD w.pl) G := rfl
@[simp] theorem idxW_W1 (w : W) (G : Gp) (Q : KE) : idxW w.toD (.int 1) G Q = Q (spD w.a) G := rfl
@[simp] theorem idxW_W2 (w : W) (G : Gp) (Q : KE) : idxW w.toD (.int 2) G Q = Q (spD w.b) G := rfl
@[simp] theorem wpG_nd {C : Cls} {F : Orc} {X : Option D} {E : KX} {σ : St} {G : Gp} {Q : St → Gp → Prop} {t s : CT} (x : Nd) : wpG C F X (.tup (.cons t (.cons s .nil))) E (ndD x) σ G Q = (wpG C F X t E x.1.toD σ G fun σ1 G1 => wpG C F X s E (.int x.2) σ1 G1 Q) := by
  simp [ndD, wpG_tup, wpGs_cons, wpGs_nil, CTs.len]
@[simp] theorem wpG_way {C : Cls} {F : Orc} {X : Option D} {E : KX} {σ : St} {G : Gp} {Q : St → Gp → Prop} {t s : CT} (x : Way) : wpG C F X (.tup (.cons t (.cons s .nil))) E (wayD x) σ G Q = (wpG C F X t E (ltD x.1) σ G fun σ1 G1 => wpG C F X s E x.2.toD σ1 G1 Q) := by
  simp [wayD, wpG_tup, wpGs_cons, wpGs_nil, CTs.len]
theorem sp_first_state (h : DWalk P) {x : D} (q : Q W.first.toD G) : wpF P (n + 2) f_first_state [x] G Q E := by
  unfold wpF
  rw [h.first_state]
  refine ⟨rfl, ?_⟩
  simp [d_first_state]
  refine sp_first_place h.places ?_
  try simp []
  exact ⟨_, Sub.refl _, q⟩
theorem sp_least_way (h : DLeast P) {prog : List Stm} (g : GoodP prog) {t : Tab} (ok : TabOk t)
    (q0 : (∀ k p, ¬ Pth prog t p none k) → Q .non G)
    (q1 : ∀ k p, Pth prog t p none k → (∀ k' p', Pth prog t p' none k' → k ≤ k') → Q (.tup [.int (k : Nat), Link.wD p]) G) :
    wpF P (n + 5) f_least_way [.tup (Stm.toDs prog), t.toD] G Q E := by
  unfold wpF
  rw [h.least_way]
  refine ⟨rfl, ?_⟩
  simp [d_least_way]
  refine sp_first_state h.walk ?_
  simp []
  intro pw hpw pk hpk
  try simp []
  have n1 : pk ≠ pw := fun e => by rw [e] at hpk; simp at hpk
  have n2 : G pk = none := by rwa [up_ne n1] at hpk
  simp [putAll]
  refine whl_rule (I := fun k σ G' => Sub G G' ∧ ∃ (es : List En) (kn : List (Nd × Nat)) (num low : Nat) (x5 x6 x7 x8 x9 x10 x11 x12 x13 x14 x15 x16 x17 : Option D),
    σ = [some (.tup (Stm.toDs prog)), some t.toD, some (.int num), some (.ref pw), some (.ref pk), x5, x6, x7, x8, x9, x10, x11, x12, x13, x14, x15, x16, x17] ∧
    G' pw = some (.lst (es.map En.toD)) ∧ G' pk = some (.dct (knD kn)) ∧ HeapOk (es.map En.toD) ∧ LW prog t num es kn [] low ∧ k = 4 * (524800 - kn.length) + es.length) ?_ (k := 4 * 524800 + 1) ?_
  · rintro k σ G' ⟨hs, es, kn, num, low, x5, x6, x7, x8, x9, x10, x11, x12, x13, x14, x15, x16, x17, rfl, hw, hk, ho, hl, hm⟩ W hW
    try simp []
    intro pe hpe
    have ne1 : pw ≠ pe := fun e => by rw [e, hpe] at hw; cases hw
    have ne2 : pk ≠ pe := fun e => by rw [e, hpe] at hk; cases hk
    have hs' : Sub G (up G' pe (.lst [])) := Sub.upR (hs.none hpe) hs _
    simp only [eqO, up_same, up_ne ne1, hw]
    cases es with
    | nil =>
      simp [D.pures, D.depths, D.eqBs]
      exact ⟨_, hs', q0 hl.empty⟩
    | cons e0 es0 =>
      try simp []
      simp only [heappopW, up_ne ne1, hw]
      refine ⟨ho, by simp, ?_⟩
      intro m ds' hperm hok hmin
      obtain ⟨ms, hms, ems⟩ := perm_lift hperm.symm (e0 :: es0) rfl
      cases ms with
      | nil => simp at ems
      | cons e es =>
        simp only [List.map_cons, List.cons.injEq] at ems
        obtain ⟨rfl, rfl⟩ := ems
        have hl := hl.perm hms
        have hlen : es.length = es0.length := by have := hms.length_eq; simpa using this
        have hmin' : ∀ e' ∈ es, e.k ≤ e'.k := by
          intro e' he'
          have := hmin e'.toD (List.mem_map.mpr ⟨e', he', rfl⟩) _ _ (hkey_En e) (hkey_En e')
          unfold klt at this
          simp only at this
          omega
        simp [En.toD]
        have hpth := hl.pth e (by simp)
        cases hn : e.o with
        | none =>
          simp [onD]
          rw [hn] at hpth
          refine ⟨G, Sub.upR hpw hs' _, q1 e.k e.p hpth ?_⟩
          refine hl.least (e := e) ?_
          intro e' he'
          rcases List.mem_cons.mp he' with rfl | he'
          · exact Nat.le_refl _
          · exact hmin' e' he'
        | some nd =>
          have e1 : D.isNon (onD (some nd)) = false := rfl
          simp [e1]
          simp only [up_ne n1, up_ne ne2, hk]
          have e2 : onD (some nd) = ndD nd := rfl
          rw [e2]
          simp only [kindOk_kn, keyAt_kn]
          by_cases hmem : nd ∈ kn.map (·.1)
          · have hmem' := hmem
            simp at hmem'
            obtain ⟨d, hd⟩ := hmem'
            simp [show ∃ x, (nd, x) ∈ kn from ⟨d, hd⟩]
            refine hW (4 * (524800 - kn.length) + es.length) _ _ (by rw [hm]; simp; omega) ⟨Sub.upR hpw hs' _, es, kn, num, low, _, _, _, _, _, _, _, _, _, _, _, _, _, rfl, by simp, ?_, hok, hl.old hn hd, rfl⟩
            rw [up_ne n1, up_ne ne2, hk]
          · have hmem' := hmem
            simp only [List.mem_map] at hmem
            simp [List.mem_map] at hmem
            simp [hmem]
            have hnew := hl.new g ok hmin' hn hmem'
            have hkl := hnew.kn_len g ok
            have hno : NdOk prog t nd := (hpth.ok g ok) nd hn
            rw [keyPut_kn kn nd e.k hmem']
            simp at hkl
            have ldk : (knD kn).length = kn.length := by simp [knD]
            refine ⟨by rw [ldk]; omega, ?_⟩
            refine sp_costs_of h.tab h.walk.places hno.w.pl ?_
            try simp []
            refine sp_ways_of h.walk g hno.w ?_
            intro pl hpl
            try simp []
            have ne3 : pw ≠ pl := fun e => by rw [← e] at hpl; rw [up_ne (Ne.symm n1)] at hpl; simp at hpl
            have ne4 : pk ≠ pl := fun e => by rw [← e] at hpl; simp at hpl
            have hs2 : Sub G (up (up G' pe (.lst [])) pw (.lst (es.map En.toD))) := Sub.upR hpw hs' _
            have hs3 := Sub.upR n2 hs2 (.dct (knD (kn ++ [(nd, e.k)])))
            have gpl : G pl = none := hs3.none hpl
            have hs4 := Sub.upR gpl hs3 (.lst ((waysM prog nd.1).map wayD))
            try simp only [up_same]
            refine for_rule (I := fun xs σ G2 => Sub G G2 ∧ ∃ (ws : List Way) (es' : List En) (num' : Nat) (y14 y15 y16 y17 : Option D), xs = ws.map wayD ∧ (∀ x ∈ ws, x ∈ waysM prog nd.1) ∧
              σ = [some (.tup (Stm.toDs prog)), some t.toD, some (.int num'), some (.ref pw), some (.ref pk), some (.int e.k), some (.int e.m), some (.int e.num), some (ndD nd), some (Link.wD e.p), some nd.1.toD, some (.int nd.2), some (.int (costM prog nd.1)), some (.int (askM prog nd.1)), y14, y15, y16, y17] ∧
              G2 pw = some (.lst (es'.map En.toD)) ∧ G2 pk = some (.dct (knD (kn ++ [(nd, e.k)]))) ∧ G2 pl = some (.lst ((waysM prog nd.1).map wayD)) ∧ HeapOk (es'.map En.toD) ∧ LW prog t num' es' (kn ++ [(nd, e.k)]) (pendM prog t nd e.k ws) e.k ∧ es'.length + ws.length ≤ es.length + 3) ?_ ?_ ⟨hs4, waysM prog nd.1, es, num, _, _, _, _, rfl, fun x hx => hx, rfl, by rw [up_ne ne3, up_ne (Ne.symm n1)]; simp, by rw [up_ne ne4]; simp, by simp, hok, hnew, by have := (ways_ok g hno.w).2; omega⟩
            · rintro x xs σ G2 ⟨hsub, ws, es', num', y14, y15, y16, y17, ex, hin, rfl, gw, gk, gl, hok', hlw, hlen'⟩ W2 hW2
              cases ws with
              | nil => simp at ex
              | cons y ws =>
                simp only [List.map_cons, List.cons.injEq] at ex
                obtain ⟨rfl, rfl⟩ := ex
                refine ⟨gl, ?_⟩
                have ly := (ways_ok g hno.w).1 y (hin y (by simp))
                try simp []
                refine sp_led_by h.tab ok hno.s ly.2 ?_
                try simp []
                have hp2 := Pth.cons (hn ▸ hpth : Pth prog t e.p (some (nd.1, nd.2)) e.k) (hin y (by simp))
                have e6 : (!(spD nd.1.b).isNon) = nd.1.b.isSome := by cases nd.1.b <;> rfl
                try simp only [isNon_sp] at *
                have e7 : (!nd.1.b.isNone) = nd.1.b.isSome := by cases nd.1.b <;> rfl
                try simp only [e7]
                have hpush := hlw.push (m := e.m + askM prog nd.1) hp2 (by omega)
                have hps := hlw.len
                have hkl' := hlw.kn_len g ok
                have tail : ∀ (o : Option Nd) (v16 : D), o = (ledM t nd.2 y.1 nd.1.b.isSome).map (fun s' => (y.2, s')) → 
                    heappushW [.ref pw, .tup [.int ((e.k : Int) + costM prog nd.1), .int ((e.m : Int) + askM prog nd.1), .int ((num' : Int) + 1), onD o, .tup [Link.wD e.p, nd.1.toD, ltD y.1, y.2.toD]]] G2 (fun _ G3 => W2 [some (.tup (Stm.toDs prog)), some t.toD, some (.int ((num' : Int) + 1)), some (.ref pw), some (.ref pk), some (.int e.k), some (.int e.m), some (.int e.num), some (ndD nd), some (Link.wD e.p), some nd.1.toD, some (.int nd.2), some (.int (costM prog nd.1)), some (.int (askM prog nd.1)), some (ltD y.1), some y.2.toD, some v16, some (onD o)] G3) := by
                  intro o v16 eo
                  subst eo
                  simp only [heappushW, gw]
                  refine ⟨hok', by simp [hkey], ?_, ?_, ?_⟩
                  · intro hmm
                    obtain ⟨d, hd, e8⟩ := List.mem_map.mp hmm
                    obtain ⟨e', he', rfl⟩ := List.mem_map.mp hd
                    rw [hkey_En] at e8
                    simp [hkey] at e8
                    have := hlw.nums e' he'
                    omega
                  · simp at hps hkl' ⊢
                    try simp [line]
                    omega
                  · intro ds hperm2 hok2
                    obtain ⟨es2, hes2, rfl⟩ := perm_lift (f := En.toD) hperm2 (⟨e.k + costM prog nd.1, e.m + askM prog nd.1, num' + 1, (ledM t nd.2 y.1 nd.1.b.isSome).map (fun s' => (y.2, s')), ⟨nd.1, y.1, y.2⟩ :: e.p⟩ :: es') (by simp [En.toD, Link.wD])
                    refine hW2 _ _ ⟨Sub.upR hpw hsub _, ws, es2, num' + 1, _, _, _, _, rfl, fun x hx => hin x (by simp [hx]), rfl, by simp, by rw [up_ne n1]; exact gk, by rw [up_ne (Ne.symm ne3)]; exact gl, hok2, ?_, ?_⟩
                    · exact hpush.perm hes2
                    · have := hes2.length_eq
                      simp at this hlen' ⊢
                      omega
                cases hled : ledM t nd.2 y.1 nd.1.b.isSome with
                | none =>
                  try simp []
                  have := tail none .non (by rw [hled]; rfl)
                  exact this
                | some s' =>
                  try simp []
                  have := tail (some (y.2, s')) (.int s') (by rw [hled]; rfl)
                  exact this
            · rintro σ G2 ⟨hsub, ws, es', num', y14, y15, y16, y17, ex, hin, rfl, gw, gk, gl, hok', hlw, hlen'⟩
              cases ws with
              | cons y ws => simp at ex
              | nil =>
                refine ⟨gl, ?_⟩
                simp
                refine hW (4 * (524800 - (kn ++ [(nd, e.k)]).length) + es'.length) _ _ (by rw [hm]; simp at hlen' ⊢; omega) ⟨hsub, es', _, num', e.k, _, _, _, _, _, _, _, _, _, _, _, _, _, rfl, gw, gk, hok', hlw, rfl⟩
  · refine ⟨Sub.upR n2 (Sub.up hpw _) _, [⟨0, 0, 0, some (W.first, 0), []⟩], [], 0, 0, _, _, _, _, _, _, _, _, _, _, _, _, _, rfl, ?_, by simp [knD], ?_, LW.start, by simp⟩
    · rw [up_ne (Ne.symm n1)]
      simp [En.toD, onD, ndD, Link.wD]
    · refine ⟨by simp [hkey_En], by simp, ?_⟩
      intro i x y hi hx
      cases i with
      | zero => omega
      | succ i => simp at hx
end
end AT
/-! B13: is_of, forms_of, has_form, bodies_of, walked, want_program, made_program. -/
namespace AT
open PySem (Str Addr)
structure DProg (P : Pr) : Prop where
  is_of : P.defs f_is_of = some d_is_of
  forms_of : P.defs f_forms_of = some d_forms_of
  has_form : P.defs f_has_form = some d_has_form
  bodies_of : P.defs f_bodies_of = some d_bodies_of
  walked : P.defs f_walked = some d_walked
  want_program : P.defs f_want_program = some d_want_program
theorem any_strs (l : List Str) (s : Str) : (l.map D.str).any (fun y => D.eqB y (.str s)) = decide (s ∈ l) := by
  induction l with
  | nil => simp
  | cons x l ih =>
    simp only [List.map_cons, List.any_cons, ih, D.eqB]
    by_cases h : x = s
    · simp [h]
    · have h2 : ¬ s = x := fun e => h e.symm
      have h3 : (x == s) = false := by simpa using h
      simp [h2, h3]
theorem inO_strs (G : Gp) (l : List Str) (s : Str) : inO G (.str s) (.tup (l.map D.str)) = some (decide (s ∈ l)) := by
  simp only [inO, items?, D.pure, pures_strs, D.depth, any_strs]
  simp
section
variable {P : Pr} {n : Nat} {G : Gp} {Q : KE} {E : KX}
theorem sp_is_of (h : DProg P) {s : Str} {l : List Str} (q : Q (.bl (decide (s ∈ l))) G) : wpF P (n + 1) f_is_of [.str s, .tup (l.map D.str)] G Q E := by
  unfold wpF
  rw [h.is_of]
  refine ⟨rfl, ?_⟩
  simp [d_is_of, isTy, inO_strs]
  exact ⟨_, Sub.refl _, q⟩
def nmD : D := .tup (nmS.map D.str)
def piD : D := .tup (piS.map D.str)
def wdD : D := .tup (wdS.map D.str)
def formsM : Act → List (List Str)
  | .new _ => [nmS]
  | .put _ _ => [nmS, piS]
  | .take _ _ => [piS, nmS]
  | .move _ _ => [nmS, nmS]
  | .fin _ => [nmS]
  | .go _ _ => [wdS, nmS]
def argsM : Act → List Str
  | .new x => [x]
  | .put x p => [x, p]
  | .take p x => [p, x]
  | .move y x => [y, x]
  | .fin x => [x]
  | .go u x => [u, x]
def wordM : Act → Str
  | .new x => "new"
  | .put x p => "put"
  | .take p x => "take"
  | .move y x => "move"
  | .fin x => "end"
  | .go u x => "do"
theorem toDs_eq (c : Act) : c.toDs = .str (wordM c) :: (argsM c).map D.str := by cases c <;> rfl
theorem sp_forms_of (h : DProg P) {c : Act} (q : Q (.tup ((formsM c).map fun l => .tup (l.map D.str))) G) : wpF P (n + 1) f_forms_of [.str (wordM c)] G Q E := by
  unfold wpF
  rw [h.forms_of]
  refine ⟨rfl, ?_⟩
  cases c <;> simp [d_forms_of, wordM, inO_str_tup, eqO_str] <;> exact ⟨_, Sub.refl _, q⟩
theorem Sub.tmp {G : Gp} {p : Addr} (h : G p = Option.none) (c : Cell) : Sub G (del (AT.up G p c) p) := fun a c' e => by
  unfold del
  by_cases e2 : a = p
  · subst e2
    rw [h] at e
    cases e
  · simp [e2, up_ne e2, e]
theorem bools_map (l : List Bool) : bools? (l.map D.bl) = some l := by
  induction l with
  | nil => rfl
  | cons b l ih => simp [bools?, ih]
theorem bools_true {α : Type} (l : List α) : bools? (l.map fun _ => D.bl true) = some (List.replicate l.length true) := by
  induction l with
  | nil => rfl
  | cons b l ih => simp [bools?, ih, List.replicate_succ]
theorem act_args (c : Act) (h : c.ok = true) : (argsM c).length = (formsM c).length ∧ ∀ (i : Nat) (x : Str) (l : List Str), (argsM c)[i]? = some x → (formsM c)[i]? = some l → x ∈ l := by
  refine ⟨by cases c <;> rfl, ?_⟩
  intro i x l h1 h2
  cases c <;> simp [Act.ok] at h <;> simp only [argsM, formsM] at h1 h2
  · match i, h1, h2 with
    | 0, h1, h2 => simp at h1 h2; rw [← h1, ← h2]; exact h
  · match i, h1, h2 with
    | 0, h1, h2 => simp at h1 h2; rw [← h1, ← h2]; exact h.1
    | 1, h1, h2 => simp at h1 h2; rw [← h1, ← h2]; exact h.2
  · match i, h1, h2 with
    | 0, h1, h2 => simp at h1 h2; rw [← h1, ← h2]; exact h.1
    | 1, h1, h2 => simp at h1 h2; rw [← h1, ← h2]; exact h.2
  · match i, h1, h2 with
    | 0, h1, h2 => simp at h1 h2; rw [← h1, ← h2]; exact h.1
    | 1, h1, h2 => simp at h1 h2; rw [← h1, ← h2]; exact h.2
  · match i, h1, h2 with
    | 0, h1, h2 => simp at h1 h2; rw [← h1, ← h2]; exact h
  · match i, h1, h2 with
    | 0, h1, h2 => simp at h1 h2; rw [← h1, ← h2]; exact h.1
    | 1, h1, h2 => simp at h1 h2; rw [← h1, ← h2]; exact h.2
theorem sp_has_form (h : DProg P) {s : Stm} (hs : s.ok = true) (q : Q (.bl true) G) : wpF P (n + 2) f_has_form [s.toD] G Q E := by
  unfold wpF
  rw [h.has_form]
  refine ⟨rfl, ?_⟩
  have e1 : ∀ s t, D.pure s = true → D.pures t = true → eqO G (.tup (s :: t)) (.tup []) = some false := fun s t h1 h2 => by
    rw [eqO_val] <;> simp [h1, h2]
  cases s with
  | act c =>
    have e2 : D.pures ((argsM c).map D.str) = true := pures_strs _
    have e3 : inO G (.str (wordM c)) (.tup [.str "loop", .str "either"]) = some false := by
      cases c <;> simp [wordM, inO_str_tup]
    simp only [Stm.toD, toDs_eq]
    simp [d_has_form, isTy, e1, e2, e3]
    refine sp_forms_of h ?_
    try simp []
    obtain ⟨e4, e8⟩ := act_args c hs
    simp [e4]
    have e5 : eqO G (.int ((formsM c).length + 1)) (.int (1 + (formsM c).length)) = some true := by
      rw [eqO_int]
      simp
      omega
    simp [e5]
    intro p hp
    refine lc_pure (f := fun d => .bl true) ?_ ?_ ?_ ?_ ?_
    · intros; rfl
    · intro acc; trivial
    · cases c <;> simp [formsM]
    · intro x hx acc Q2 q2
      obtain ⟨i, hi, rfl⟩ := List.mem_mapIdx.mp hx
      simp at hi
      have hi2 : i < (argsM c).length := by omega
      simp [wipe, hi2]
      refine sp_is_of h ?_
      try simp []
      have := e8 i _ _ (List.getElem?_eq_getElem hi2) (List.getElem?_eq_getElem hi)
      simpa [this] using q2
    · simp [allOfW, seqL, bools_true]
      have : ∀ k, (List.replicate k true).all id = true := fun k => by simp
      exact ⟨_, Sub.tmp hp _, q⟩
  | loop b =>
    have pb := Stm.pure_toDs (Stm.puresB_true b)
    simp [Stm.toD, d_has_form, isTy, e1, pb, inO_str_tup, eqO_str, eqO_int]
    intro p hp
    refine lc_pure (f := fun d => .bl true) ?_ ?_ ?_ ?_ ?_
    · intros; rfl
    · intro acc; trivial
    · simp
    · intro x hx acc Q2 q2
      simp at hx
      subst hx
      simp [wipe, isTy]
      exact q2
    · simp [allOfW, seqL, bools?]
      exact ⟨_, Sub.tmp hp _, q⟩
  | either b c =>
    have pb := Stm.pure_toDs (Stm.puresB_true b)
    have pc := Stm.pure_toDs (Stm.puresB_true c)
    simp [Stm.toD, d_has_form, isTy, e1, pb, pc, inO_str_tup, eqO_str, eqO_int]
    intro p hp
    refine lc_pure (f := fun d => .bl true) ?_ ?_ ?_ ?_ ?_
    · intros; rfl
    · intro acc; trivial
    · simp
    · intro x hx acc Q2 q2
      simp at hx
      rcases hx with rfl | rfl
      · simp [wipe, isTy]
        exact q2
      · simp [wipe, isTy]
        exact q2
    · simp [allOfW, seqL, bools?]
      exact ⟨_, Sub.tmp hp _, q⟩
end
end AT
/-! B14: bodies_of, walked, want_program, made_program. -/
namespace AT
open PySem (Str Addr)
mutual
/-- the places of a body's statements, in text order -/
def plS (l : Plc) (i : Nat) : Stm → List Plc
  | .act _ => [l ++ [i]]
  | .loop b => (l ++ [i]) :: plB (l ++ [i]) 0 b
  | .either b c => (l ++ [i]) :: (plB (l ++ [i, 0]) 0 b ++ plB (l ++ [i, 1]) 0 c)
def plB (l : Plc) (i : Nat) : List Stm → List Plc
  | [] => []
  | s :: ss => plS l i s ++ plB l (i + 1) ss
end
mutual
theorem plS_ld : ∀ (s : Stm) (l a : Plc) (n i : Nat), keysL (ldS l a n i s) = plS l i s
  | .act c, l, a, n, i => by simp [ldS, keysL, plS]
  | .loop b, l, a, n, i => by
    have := plB_ld b (l ++ [i]) (l ++ [i]) b.length 0
    simp only [keysL] at this
    simp [ldS, keysL, plS, this]
  | .either b c, l, a, n, i => by
    have h1 := plB_ld b (l ++ [i, 0]) (if i + 1 < n then l ++ [i + 1] else a) b.length 0
    have h2 := plB_ld c (l ++ [i, 1]) (if i + 1 < n then l ++ [i + 1] else a) c.length 0
    simp only [keysL] at h1 h2
    simp [ldS, keysL, plS, h1, h2]
theorem plB_ld : ∀ (b : List Stm) (l a : Plc) (n i : Nat), keysL (ldB l a n i b) = plB l i b
  | [], l, a, n, i => by simp [ldB, keysL, plB]
  | s :: ss, l, a, n, i => by
    have h1 := plS_ld s l a n i
    have h2 := plB_ld ss l a n (i + 1)
    simp only [keysL] at h1 h2
    simp [ldB, keysL, plB, h1, h2]
end
theorem plB_len (b : List Stm) (l : Plc) (i : Nat) : (plB l i b).length = Stm.cnts b := by
  rw [← plB_ld b l l 0 i]
  simp [keysL, ldB_len]
theorem plS_len (s : Stm) (l : Plc) (i : Nat) : (plS l i s).length = s.cnt := by
  rw [← plS_ld s l l 0 i]
  simp [keysL, ldS_len]
theorem plB_app : ∀ (b c : List Stm) (l : Plc) (i : Nat), plB l i (b ++ c) = plB l i b ++ plB l (i + b.length) c
  | [], c, l, i => by simp [plB]
  | s :: ss, c, l, i => by
    simp only [List.cons_append, plB, plB_app ss c l (i + 1), List.append_assoc, List.length_cons]
    rw [show i + 1 + ss.length = i + (ss.length + 1) by omega]
theorem Stm.cnts_app : ∀ (b c : List Stm), Stm.cnts (b ++ c) = Stm.cnts b + Stm.cnts c
  | [], c => by simp [Stm.cnts]
  | s :: ss, c => by simp [Stm.cnts, Stm.cnts_app ss c]; omega
theorem Stm.cnt_pos (s : Stm) : 1 ≤ s.cnt := by cases s <;> simp [Stm.cnt]
theorem Stm.oks_app : ∀ (b c : List Stm), Stm.oks (b ++ c) = (Stm.oks b && Stm.oks c)
  | [], c => by simp [Stm.oks]
  | s :: ss, c => by simp [Stm.oks, Stm.oks_app ss c, Bool.and_assoc]
theorem Stm.deps_app : ∀ (b c : List Stm), Stm.deps (b ++ c) = max (Stm.deps b) (Stm.deps c)
  | [], c => by have := Stm.deps_pos c; simp [Stm.deps]; omega
  | s :: ss, c => by simp [Stm.deps, Stm.deps_app ss c, Nat.max_assoc]
/-- the turns of enumerate -/
def enF : Nat → List D → List D
  | _, [] => []
  | i, d :: ds => .tup [.int i, d] :: enF (i + 1) ds
theorem enF_eq (ds : List D) : (ds.mapIdx fun i d => D.tup [.int (i : Nat), d]) = enF 0 ds := by
  have key : ∀ (ds : List D) (k : Nat), (ds.mapIdx fun i d => D.tup [.int ((k + i : Nat) : Int), d]) = enF k ds := by
    intro ds
    induction ds with
    | nil => intro k; rfl
    | cons d ds ih =>
      intro k
      rw [List.mapIdx_cons]
      simp only [enF, Nat.add_zero]
      rw [← ih (k + 1)]
      simp only [Nat.add_assoc, Nat.add_comm 1]
  have := key ds 0
  simpa using this
theorem forS_nil {asg : D → St → Gp → (St → Gp → Prop) → Prop} {body : KS → St → Gp → Prop} {chk : Gp → Prop} {K : KS} {σ : St} {G : Gp} : forS asg body chk K [] σ G = (chk G ∧ K.nx σ G) := rfl
theorem forS_cons {asg : D → St → Gp → (St → Gp → Prop) → Prop} {body : KS → St → Gp → Prop} {chk : Gp → Prop} {K : KS} {x : D} {xs : List D} {σ : St} {G : Gp} : forS asg body chk K (x :: xs) σ G = (chk G ∧ asg x σ G fun σ1 G1 => body { K with nx := forS asg body chk K xs, ct := forS asg body chk K xs, bk := K.nx } σ1 G1) := rfl
theorem Sub.cell {G G' : Gp} {p : Addr} {c : Cell} (s : Sub (AT.up G p c) G') : G' p = some c := s p c (by simp)
theorem Sub.up2 {G G' : Gp} {p : Addr} {c d : Cell} (s : Sub (AT.up G p c) G') : Sub (AT.up G p d) (AT.up G' p d) := fun a c' e => by
  by_cases e2 : a = p
  · subst e2
    simpa using e
  · rw [up_ne e2] at e ⊢
    exact s a c' (by rw [up_ne e2]; exact e)
theorem Sub.new {G G' : Gp} {p : Addr} (s : Sub G G') (h : G' p = Option.none) (c : Cell) : Sub G (AT.up G' p c) := Sub.upR (s.none h) s c
section
variable {P : Pr} {n : Nat} {G : Gp} {Q : KE} {E : KX}
/-- the bodies of a statement with their leads -/
def bodsM (pl : Plc) : Stm → List D
  | .act _ => []
  | .loop b => [.tup [plD pl, .tup (Stm.toDs b)]]
  | .either b c => [.tup [plD (pl ++ [0]), .tup (Stm.toDs b)], .tup [plD (pl ++ [1]), .tup (Stm.toDs c)]]
theorem sp_bodies_of (h : DProg P) {s : Stm} {pl : Plc} (hl : pl.length < 1000) (q : RetL Q G (bodsM pl s)) : wpF P (n + 1) f_bodies_of [s.toD, plD pl] G Q E := by
  unfold wpF
  rw [h.bodies_of]
  refine ⟨rfl, ?_⟩
  have b1 := binW_pl pl 0
  have b2 := binW_pl pl 1
  simp only [Int.ofNat_eq_natCast, Int.cast_ofNat_Int] at b1 b2
  cases s with
  | act c =>
    simp only [Stm.toD, toDs_eq]
    simp [d_bodies_of]
    have e1 : eqO G (.str (wordM c)) (.str "loop") = some false := by rw [eqO_str]; cases c <;> simp [wordM]
    have e2 : eqO G (.str (wordM c)) (.str "either") = some false := by rw [eqO_str]; cases c <;> simp [wordM]
    simp [e1, e2]
    intro p hp
    exact ⟨_, Sub.refl _, q p hp⟩
  | loop b =>
    simp [Stm.toD, d_bodies_of, eqO_str]
    intro p hp
    exact ⟨_, Sub.refl _, q p hp⟩
  | either b c =>
    simp [Stm.toD, d_bodies_of, eqO_str]
    intro p hp
    refine lc_pure (f := fun d => match d with
      | .int 0 => .tup [plD (pl ++ [0]), .tup (Stm.toDs b)]
      | _ => .tup [plD (pl ++ [1]), .tup (Stm.toDs c)]) ?_ ?_ ?_ ?_ ?_
    · intros; rfl
    · intro acc; trivial
    · simp
    · intro x hx acc Q2 q2
      simp at hx
      rcases hx with rfl | rfl
      · simp [wipe, b1]
        exact ⟨by omega, q2⟩
      · simp [wipe, b2]
        exact ⟨by omega, q2⟩
    · exact ⟨_, Sub.refl _, q p hp⟩
theorem sp_walked (h : DProg P) : ∀ (k : Nat) {b : List Stm} {l : Plc} {dp : Nat} {pf : Addr} {fs : List D} {G : Gp} {Q : KE} {E : KX}, Stm.deps b ≤ k → G pf = some (.lst fs) → Stm.oks b = true → dp + Stm.deps b ≤ 7 → l.length + 2 * k < 900 → fs.length ≤ 40 →
    (fs.length + Stm.cnts b ≤ 40 → Q .non (up G pf (.lst (fs ++ (plB l 0 b).map plD)))) →
    (40 < fs.length + Stm.cnts b → ∀ fs', E ⟨5, .int 41⟩ (up G pf (.lst fs'))) →
    wpF P (n + 2 + k) f_walked [.tup (Stm.toDs b), plD l, .int dp, .ref pf] G Q E := by
  intro k
  induction k with
  | zero => intro b l dp pf fs G Q E hk; have := Stm.deps_pos b; omega
  | succ k ih =>
    intro b l dp pf fs G Q E hk hG ho hd hl hfs q e
    show wpF P (n + 2 + k + 1) _ _ _ _ _
    unfold wpF
    rw [h.walked]
    refine ⟨rfl, ?_⟩
    have d1 := Stm.deps_pos b
    have d2 : ¬ (6 : Int) < (dp : Int) := by omega
    simp [d_walked, d2]
    rw [enF_eq]
    refine for_rule (I := fun xs σ G' => ∃ (pre ss : List Stm) (x4 x5 x6 x7 x8 : Option D), b = pre ++ ss ∧ xs = enF pre.length (Stm.toDs ss) ∧ fs.length + Stm.cnts pre ≤ 40 ∧ Sub (up G pf (.lst (fs ++ (plB l 0 pre).map plD))) G' ∧
      σ = [some (.tup (Stm.toDs b)), some (plD l), some (.int dp), some (.ref pf), x4, x5, x6, x7, x8]) ?_ ?_ ⟨[], b, _, _, _, _, _, rfl, rfl, by simp [Stm.cnts, hfs], ?_, rfl⟩
    · rintro x xs σ G' ⟨pre, ss, x4, x5, x6, x7, x8, eb, ex, hc, hsub, rfl⟩ W hW
      refine ⟨trivial, ?_⟩
      cases ss with
      | nil => simp [Stm.toDs, enF] at ex
      | cons s ss =>
        simp only [Stm.toDs, enF, List.cons.injEq] at ex
        obtain ⟨rfl, rfl⟩ := ex
        have hcb : Stm.cnts b = Stm.cnts pre + (s.cnt + Stm.cnts ss) := by rw [eb, Stm.cnts_app]; rfl
        have hs : s.ok = true := by rw [eb, Stm.oks_app] at ho; simp [Stm.oks] at ho; exact ho.2.1
        have hsd : s.dep + 1 ≤ Stm.deps b := by rw [eb, Stm.deps_app]; simp [Stm.deps]; omega
        have hpl : (fs ++ (plB l 0 pre).map plD).length = fs.length + Stm.cnts pre := by simp [plB_len]
        have gf := hsub.cell
        simp [gf, hpl, eqO_int]
        refine ⟨by omega, ?_⟩
        by_cases h40 : (fs.length : Int) + (Stm.cnts pre : Int) = 40
        · simp only [h40, if_true]
          have := s.cnt_pos
          exact ⟨_, hsub, e (by omega) _⟩
        · simp only [h40, if_false]
          refine ⟨by omega, ?_⟩
          rw [show n + 2 + k = (n + k) + 2 by omega]
          refine sp_has_form h hs ?_
          try simp []
          rw [show (n + k) + 2 = (n + k + 1) + 1 by omega]
          refine sp_bodies_of h (by simp; omega) ?_
          intro pb hpb
          try simp []
          have hsub2 := Sub.up2 (d := .lst (fs ++ (List.map plD (plB l 0 pre) ++ [plD (l ++ [pre.length])]))) hsub
          have hsub3 := hsub2.new hpb (.lst (bodsM (l ++ [pre.length]) s))
          have n1 : pf ≠ pb := fun e => by rw [← e] at hpb; simp at hpb
          have fin : ∀ (G2 : Gp) (y4 y5 y6 y7 y8 : Option D) , fs.length + Stm.cnts (pre ++ [s]) ≤ 40 → Sub (up G pf (.lst (fs ++ (plB l 0 (pre ++ [s])).map plD))) G2 → W [some (.tup (Stm.toDs b)), some (plD l), some (.int dp), some (.ref pf), y4, y5, y6, y7, y8] G2 := by
            intro G2 y4 y5 y6 y7 y8 hc2 e2
            refine hW _ _ ⟨pre ++ [s], ss, _, _, _, _, _, by simp [eb], by simp, hc2, e2, rfl⟩
          have gb : ∀ c, up (up G' pf c) pb (.lst (bodsM (l ++ [pre.length]) s)) pf = some c := fun c => by rw [up_ne n1]; simp
          have hca : Stm.cnts (pre ++ [s]) = Stm.cnts pre + s.cnt := by rw [Stm.cnts_app]; simp [Stm.cnts]
          have hpa : plB l 0 (pre ++ [s]) = plB l 0 pre ++ plS l pre.length s := by rw [plB_app]; simp [plB]
          have hcp := s.cnt_pos
          try simp only [up_same]
          cases s with
          | act c =>
            simp only [bodsM, forS_nil, up_same, true_and]
            try simp []
            refine fin _ _ _ _ _ _ (by rw [hca]; simp [Stm.cnt]; omega) ?_
            simpa [hpa, plS, bodsM] using hsub3
          | loop c =>
            simp only [Stm.ok] at hs
            simp only [Stm.dep] at hsd
            simp only [bodsM, forS_nil, forS_cons, up_same, true_and] at hsub3 gb ⊢
            try simp []
            rw [show (n + k + 1) + 1 = n + 2 + k by omega]
            refine ih (fs := fs ++ (List.map plD (plB l 0 pre) ++ [plD (l ++ [pre.length])])) (by omega) (gb _) hs (dp := dp + 1) (by omega) (by simp; omega) (by simp [plB_len]; omega) ?_ ?_
            · intro hle
              simp [plB_len] at hle
              refine ⟨by show up _ _ _ pb = _; rw [up_ne (Ne.symm n1)]; simp, ?_⟩
              refine fin _ _ _ _ _ _ (by rw [hca]; simp [Stm.cnt]; omega) ?_
              have := Sub.up2 (d := .lst (fs ++ (List.map plD (plB l 0 pre) ++ [plD (l ++ [pre.length])]) ++ List.map plD (plB (l ++ [pre.length]) 0 c))) hsub3
              simpa [hpa, plS] using this
            · intro hgt fs'
              simp [plB_len] at hgt
              exact ⟨_, Sub.up2 hsub3, e (by simp [Stm.cnt] at hcb; omega) fs'⟩
          | either c d =>
            simp [Stm.ok] at hs
            simp only [Stm.dep] at hsd
            simp only [bodsM, forS_nil, forS_cons, up_same, true_and, List.append_assoc, List.cons_append, List.nil_append] at hsub3 gb ⊢
            try simp []
            rw [show (n + k + 1) + 1 = n + 2 + k by omega]
            refine ih (fs := fs ++ (List.map plD (plB l 0 pre) ++ [plD (l ++ [pre.length])])) (by omega) (gb _) hs.1 (dp := dp + 1) (by omega) (by simp; omega) (by simp [plB_len]; omega) ?_ ?_
            · intro hle
              simp [plB_len] at hle
              refine ⟨by show up _ _ _ pb = _; rw [up_ne (Ne.symm n1)]; simp, ?_⟩
              have hsub4 := Sub.up2 (d := .lst (fs ++ (List.map plD (plB l 0 pre) ++ [plD (l ++ [pre.length])]) ++ List.map plD (plB (l ++ [pre.length, 0]) 0 c))) hsub3
              try simp []
              refine ih (fs := fs ++ (List.map plD (plB l 0 pre) ++ [plD (l ++ [pre.length])]) ++ List.map plD (plB (l ++ [pre.length, 0]) 0 c)) (by omega) (by simp) hs.2 (dp := dp + 1) (by omega) (by simp; omega) (by simp [plB_len]; omega) ?_ ?_
              · intro hle2
                simp [plB_len] at hle2
                refine ⟨by show up _ _ _ pb = _; rw [up_ne (Ne.symm n1), up_ne (Ne.symm n1)]; simp, ?_⟩
                refine fin _ _ _ _ _ _ (by rw [hca]; simp [Stm.cnt]; omega) ?_
                have := Sub.up2 (d := .lst (fs ++ (List.map plD (plB l 0 pre) ++ [plD (l ++ [pre.length])]) ++ List.map plD (plB (l ++ [pre.length, 0]) 0 c) ++ List.map plD (plB (l ++ [pre.length, 1]) 0 d))) hsub4
                simpa [hpa, plS] using this
              · intro hgt fs'
                simp [plB_len] at hgt
                have := Sub.up2 (d := .lst fs') hsub4
                exact ⟨up G pf (.lst fs'), by simpa using this, e (by simp [Stm.cnt] at hcb; omega) fs'⟩
            · intro hgt fs'
              simp [plB_len] at hgt
              exact ⟨_, Sub.up2 hsub3, e (by simp [Stm.cnt] at hcb; omega) fs'⟩
    · rintro σ G' ⟨pre, ss, x4, x5, x6, x7, x8, eb, ex, hc, hsub, rfl⟩
      cases ss with
      | cons s ss => simp [Stm.toDs, enF] at ex
      | nil =>
        simp at eb
        subst eb
        exact ⟨trivial, _, hsub, q hc⟩
    · intro z c hz
      by_cases e2 : z = pf
      · subst e2
        simpa [plB, hG] using hz
      · rwa [up_ne e2] at hz
theorem sp_want_program (h : DProg P) {b : List Stm} (ho : Stm.oks b = true) (hd : Stm.deps b ≤ 6) (q : Stm.cnts b ≤ 40 → RetL Q G ((plB [] 0 b).map plD)) (e : 40 < Stm.cnts b → E ⟨5, .int 41⟩ G) : wpF P (n + 9) f_want_program [.tup (Stm.toDs b)] G Q E := by
  unfold wpF
  rw [h.want_program]
  refine ⟨rfl, ?_⟩
  simp [d_want_program, isTy]
  intro p hp
  refine sp_walked h 6 (n := n) (l := []) (dp := 1) (fs := []) hd (by simp) ho (by omega) (by simp) (by simp) ?_ ?_
  · intro hc
    try simp []
    exact ⟨_, Sub.refl _, q (by simpa using hc) p hp⟩
  · intro hc fs'
    try simp []
    exact ⟨G, Sub.up hp _, e (by simpa using hc)⟩
end
end AT
/-! B15: is_row, want_table, least_steps, keeps, made_program. -/
namespace AT
open PySem (Str Addr)
structure DVerd (P : Pr) : Prop where
  prog : DProg P
  least : DLeast P
  is_number : P.defs f_is_number = some d_is_number
  is_row : P.defs f_is_row = some d_is_row_1
  want_table : P.defs f_want_table = some d_want_table
  least_steps : P.defs f_least_steps = some d_least_steps
  keeps : P.defs f_keeps = some d_keeps
section
variable {P : Pr} {n : Nat} {G : Gp} {Q : KE} {E : KX}
theorem sp_is_number (h : P.defs f_is_number = some d_is_number) {i : Int} (q : Q (.bl true) G) : wpF P (n + 1) f_is_number [.int i] G Q E := by
  unfold wpF
  rw [h]
  refine ⟨rfl, ?_⟩
  simp [d_is_number, isTy]
  exact ⟨_, Sub.refl _, q⟩
theorem bools_all : ∀ {ds : List D}, (∀ d ∈ ds, d = .bl true) → bools? ds = some (List.replicate ds.length true)
  | [], h => rfl
  | d :: ds, h => by
    rw [h d (by simp)]
    have := bools_all (ds := ds) (fun x hx => h x (List.mem_cons_of_mem _ hx))
    simp [bools?, this, List.replicate_succ]
theorem allOf_true {p : Addr} {ds : List D} (hp : G p = some (.lst ds)) (h : ∀ d ∈ ds, d = .bl true) (q : Q (.bl true) G) : allOfW [.ref p] G Q := by
  simp [allOfW, seqL, hp, bools_all h]
  exact q
theorem sp_is_row (h : DVerd P) {r : List Nat} {m : Nat} (h1 : r.length = 17) (h2 : ∀ x ∈ r, x < m) (q : Q (.bl true) G) : wpF P (n + 2) f_is_row [natsD r, .int m] G Q E := by
  unfold wpF
  rw [h.is_row]
  refine ⟨rfl, ?_⟩
  simp [d_is_row_1, natsD, isTy, h1, eqO_int]
  intro p hp
  refine lc_pure (f := fun d => .bl true) ?_ ?_ ?_ ?_ ?_
  · intros; rfl
  · intro acc; trivial
  · simp [h1]
  · intro x hx acc Q2 q2
    obtain ⟨i, hi, rfl⟩ := List.mem_map.mp hx
    simp [wipe]
    refine sp_is_number h.is_number ?_
    try simp []
    have e1 := h2 i hi
    simp [e1]
    exact q2
  · rw [primW_allOf]
    refine allOf_true (up_same) (by simp) ?_
    exact ⟨_, Sub.tmp hp _, q⟩
theorem sp_want_table (h : DVerd P) {t : Tab} (ok : TabOk t) (q : Q .non G) : wpF P (n + 3) f_want_table [t.toD] G Q E := by
  unfold wpF
  rw [h.want_table]
  refine ⟨rfl, ?_⟩
  simp [d_want_table, Tab.toD, isTy, eqO_int]
  intro p hp
  refine lc_pure (f := fun d => .bl true) ?_ ?_ ?_ ?_ ?_
  · intros; rfl
  · intro acc; trivial
  · simp
  · intro x hx acc Q2 q2
    simp at hx
    rcases hx with rfl | rfl <;> simp [wipe, isTy] <;> exact q2
  · rw [primW_allOf]
    refine allOf_true (up_same) (by simp) ?_
    have hsub := Sub.tmp hp (.lst [D.bl true, D.bl true])
    simp only [List.map_cons, List.map_nil]
    generalize del (up G p (.lst [D.bl true, D.bl true])) p = G1 at hsub
    have pos := ok.pos
    have most := ok.most
    have e1 : eqO G1 (.tup (t.moves.map natsD)) (.tup []) = some false := by
      have hp : D.pures (t.moves.map natsD) = true := by
        have : ∀ l : List (List Nat), D.pures (l.map natsD) = true := by
          intro l
          induction l with
          | nil => rfl
          | cons r l ih => simp [ih, natsD]
        exact this _
      rw [eqO_val] <;> simp [hp]
      cases hm : t.moves with
      | nil => simp [hm] at pos
      | cons r l => simp
    have e2 : eqO G1 (.int t.moves.length) (.int t.bad.length) = some true := by
      rw [eqO_int, ok.bad]
      simp
    simp [e1, eqO_int, ok.bad]
    rw [enF_eq]
    refine for_rule (I := fun xs σ G' => G' = G1 ∧ ∃ (i : Nat) (rs : List (List Nat)) (x1 x4 x5 : Option D), t.moves.drop i = rs ∧ xs = enF i (rs.map natsD) ∧
      σ = [some (.tup [.tup (t.moves.map natsD), .tup (t.bad.map D.bl)]), x1, some (.tup (t.moves.map natsD)), some (.tup (t.bad.map D.bl)), x4, x5]) ?_ ?_ ⟨rfl, 0, t.moves, _, _, _, rfl, rfl, rfl⟩
    · rintro x xs σ G' ⟨rfl, i, rs, x1, x4, x5, hd, ex, rfl⟩ W hW
      refine ⟨trivial, ?_⟩
      cases rs with
      | nil => simp [enF] at ex
      | cons r rs =>
        simp only [List.map_cons, enF, List.cons.injEq] at ex
        obtain ⟨rfl, rfl⟩ := ex
        have hi : i < t.moves.length := by
          rcases Nat.lt_or_ge i t.moves.length with h | h
          · exact h
          · rw [List.drop_eq_nil_of_le h] at hd; cases hd
        have hr : t.moves[i] = r := by
          rw [List.drop_eq_getElem_cons hi] at hd
          exact (List.cons.inj hd).1
        have hd2 : t.moves.drop (i + 1) = rs := by
          rw [List.drop_eq_getElem_cons hi] at hd
          exact (List.cons.inj hd).2
        have hr2 := ok.rows r (by rw [← hr]; exact List.getElem_mem _)
        have hi2 : i < t.bad.length := by rw [ok.bad]; exact hi
        have hb : t.bad[i]? = some t.bad[i] := List.getElem?_eq_getElem hi2
        try simp []
        refine sp_is_row h hr2.1 hr2.2 ?_
        simp [hb, isTy]
        exact hW _ _ ⟨rfl, i + 1, rs, _, _, _, hd2, rfl, rfl⟩
    · rintro σ G' ⟨rfl, i, rs, x1, x4, x5, hd, ex, rfl⟩
      refine ⟨trivial, ?_⟩
      have e3 : ¬ (200 : Int) < (t.moves.length : Int) := by omega
      simp [e3]
      exact ⟨_, hsub, q⟩
def onI : Option Nat → D
  | none => .non
  | some k => .int k
theorem sp_least_steps (h : DVerd P) {prog : List Stm} (g : GoodP prog) {t : Tab} (ok : TabOk t) (q : ∀ r, IsLeast prog t r → Q (onI r) G) : wpF P (n + 10) f_least_steps [.tup (Stm.toDs prog), t.toD] G Q E := by
  unfold wpF
  rw [h.least_steps]
  refine ⟨rfl, ?_⟩
  simp [d_least_steps]
  refine sp_want_program h.prog g.ok g.deep ?_ (fun e => absurd g.many (by omega))
  intro _ p hp
  try simp []
  refine sp_want_table h ok ?_
  try simp []
  refine sp_least_way h.least g ok ?_ ?_
  · intro hn
    try simp []
    exact ⟨G, Sub.up hp _, q none hn⟩
  · intro k p1 h1 h2
    try simp []
    exact ⟨G, Sub.up hp _, q (some k) ⟨⟨p1, h1⟩, h2⟩⟩
theorem sp_keeps (h : DVerd P) {prog : List Stm} (g : GoodP prog) {t : Tab} (ok : TabOk t) (q : ∀ r, IsLeast prog t r → Q (.bl r.isNone) G) : wpF P (n + 11) f_keeps [.tup (Stm.toDs prog), t.toD] G Q E := by
  unfold wpF
  rw [h.keeps]
  refine ⟨rfl, ?_⟩
  simp [d_keeps]
  refine sp_least_steps h g ok ?_
  intro r hr
  try simp []
  have := q r hr
  cases r with
  | none => simp [onI]; exact ⟨_, Sub.refl _, this⟩
  | some k => simp [onI]; exact ⟨_, Sub.refl _, this⟩
theorem sp_made_program (h : DProg P) (hm : P.defs f_made_program = some d_made_program) {b : List Stm} (ho : Stm.oks b = true) (hd : Stm.deps b ≤ 6) (q : Stm.cnts b ≤ 40 → Q (.tup (Stm.toDs b)) G) (e : 40 < Stm.cnts b → E ⟨5, .int 41⟩ G) : wpF P (n + 10) f_made_program [.tup (Stm.toDs b)] G Q E := by
  unfold wpF
  rw [hm]
  refine ⟨rfl, ?_⟩
  simp [d_made_program]
  refine sp_want_program h ho hd ?_ ?_
  · intro hc p hp
    try simp []
    exact ⟨G, Sub.up hp _, q hc⟩
  · intro hc
    exact ⟨G, Sub.refl _, e hc⟩
end
end AT
/-! L1: how the laws draw: _law_pool, _law_take, _law_one, _law_plain. -/
namespace AT
open PySem (Str Addr)
structure DDraw (P : Pr) : Prop where
  pool : P.defs f__law_pool = some d__law_pool
  take : P.defs f__law_take = some d__law_take
  one : P.defs f__law_one = some d__law_one
  plain : P.defs f__law_plain = some d__law_plain
  body : P.defs f__law_body = some d__law_body
/-- a source's cell -/
abbrev srcC (x y : Nat) : Cell := .lst [.int x, .int y]
section
variable {P : Pr} {n : Nat} {G : Gp} {Q : KE} {E : KX}
theorem sp_pool (h : DDraw P) {ns : List Int} {k : Nat} (hk : k ≤ 1000) (q : ∀ x y : Nat, RetL Q G [.int x, .int y]) : wpF P (n + 1) f__law_pool [.rol (ns.map D.int), .int k] G Q E := by
  unfold wpF
  rw [h.pool]
  refine ⟨rfl, ?_⟩
  have key : ∀ c : Int, 0 ≤ (if c < -1 - c then -1 - c else c) ∧ (∀ p, G p = none → ∃ G'', Sub G'' (up G p (.lst [.int ((if c < -1 - c then -1 - c else c) * (if 1000000000000000000 ≤ (if c < -1 - c then -1 - c else c) then 1 else 0)), .int ((((if c < -1 - c then -1 - c else c).fmod 2147483629 + 7919 * (k : Int) * (k : Int) + 31 * (k : Int) + 17) * 48271).fmod 2147483647)])) ∧ Q (D.ref p) G'') := by
    intro c
    have hb : 0 ≤ (if c < -1 - c then -1 - c else c) := by split <;> omega
    refine ⟨hb, ?_⟩
    generalize (if c < -1 - c then -1 - c else c) = b at hb
    have e1 : ∃ x : Nat, b * (if 1000000000000000000 ≤ b then 1 else 0) = (x : Int) := by
      split
      · exact ⟨b.toNat, by omega⟩
      · exact ⟨0, by simp⟩
    have e2 : ∃ y : Nat, (((b.fmod 2147483629 + 7919 * (k : Int) * (k : Int) + 31 * (k : Int) + 17) * 48271).fmod 2147483647) = (y : Int) := 
      ⟨_, (Int.toNat_of_nonneg (Int.fmod_nonneg_of_pos _ (by omega))).symm⟩
    obtain ⟨x, hx⟩ := e1
    obtain ⟨y, hy⟩ := e2
    rw [hx, hy]
    intro p hp
    exact ⟨_, Sub.refl _, q x y p hp⟩
  simp [d__law_pool]
  have kk : (-18446744073709551616 < 7919 * (k : Int) ∧ 7919 * (k : Int) < 18446744073709551616) ∨ (-18446744073709551616 < (k : Int) ∧ (k : Int) < 18446744073709551616) := by omega
  split
  · rename_i hlt
    have e := List.getElem?_eq_getElem hlt
    have e2 := key ns[k]
    simp [e, kk]
    refine ⟨?_, e2.2⟩
    right
    split <;> omega
  · split
    · have e2 := key 0
      refine ⟨kk, ?_⟩
      simpa using e2.2
    · rename_i hne
      cases ns with
      | nil => simp at hne
      | cons c ns =>
        have e2 := key c
        simp [kk]
        refine ⟨?_, e2.2⟩
        right
        split <;> omega
theorem sp_take (h : DDraw P) {ps : Addr} {x y top : Nat} (hG : G ps = some (srcC x y)) (h1 : 0 < top) (h2 : top < 1000000000) (q : ∀ (d x' y' : Nat), d < top → Q (.int d) (up G ps (srcC x' y'))) : wpF P (n + 1) f__law_take [.ref ps, .int top] G Q E := by
  unfold wpF
  rw [h.take]
  refine ⟨rfl, ?_⟩
  simp [d__law_take, hG]
  have md : ∀ z : Int, 0 ≤ z → ∃ d : Nat, z.fmod top = (d : Int) ∧ d < top := fun z hz =>
    ⟨(z.fmod top).toNat, (Int.toNat_of_nonneg (Int.fmod_nonneg_of_pos _ (by omega))).symm, by have := Int.fmod_lt_of_pos z (b := (top : Int)) (by omega); omega⟩
  split
  · rename_i hx
    obtain ⟨d, e1, e2⟩ := md x (by omega)
    have e3 : (x : Int).fdiv top = ((x / top : Nat) : Int) := by
      rw [Int.fdiv_eq_ediv_of_nonneg _ (by omega)]
      rfl
    have c1 : top ≠ 0 := by omega
    have c2 : (top : Int).natAbs < 1073741824 := by simp; omega
    simp [ixN, e1, e3]
    refine ⟨c1, ⟨c1, by omega⟩, ?_⟩
    exact ⟨_, Sub.refl _, q d _ _ e2⟩
  · obtain ⟨y2, e3⟩ : ∃ y2 : Nat, ((y : Int) * 39373 + 7).fmod 2147483647 = (y2 : Int) := ⟨_, (Int.toNat_of_nonneg (Int.fmod_nonneg_of_pos _ (by omega))).symm⟩
    have e4 : (y2 : Int) < 2147483647 := by rw [← e3]; exact Int.fmod_lt_of_pos _ (by omega)
    obtain ⟨y3, e5⟩ : ∃ y3 : Nat, ((y2 : Int) * y2).fmod 2147483629 = (y3 : Int) := ⟨_, (Int.toNat_of_nonneg (Int.fmod_nonneg_of_pos _ (by omega))).symm⟩
    have e6 : (y3 : Int).fdiv 32 = (y3 : Int) / 32 := by
      rw [Int.fdiv_eq_ediv_of_nonneg _ (by omega)]
    obtain ⟨d, e1, e2⟩ := md ((y3 : Int) / 32) (by omega)
    have c1 : top ≠ 0 := by omega
    simp [ixN, e3, e5, e6, e1]
    refine ⟨by omega, c1, ?_⟩
    exact ⟨_, Sub.refl _, q d _ _ e2⟩
theorem sp_one_tup (h : DDraw P) {ps : Addr} {x y : Nat} {ds : List D} (hG : G ps = some (srcC x y)) (h1 : ds ≠ []) (h2 : ds.length < 1000000000) (q : ∀ (d : D) (x' y' : Nat), d ∈ ds → Q d (up G ps (srcC x' y'))) : wpF P (n + 2) f__law_one [.ref ps, .tup ds] G Q E := by
  unfold wpF
  rw [h.one]
  refine ⟨rfl, ?_⟩
  simp [d__law_one]
  refine sp_take h hG (List.length_pos_iff.mpr h1) h2 ?_
  intro d x' y' hd
  try simp []
  have e := List.getElem?_eq_getElem hd
  simp [e]
  exact ⟨_, Sub.refl _, q _ x' y' (List.getElem_mem _)⟩
theorem sp_one_lst (h : DDraw P) {ps a : Addr} {x y : Nat} {ds : List D} (hG : G ps = some (srcC x y)) (ha : G a = some (.lst ds)) (hne : a ≠ ps) (h1 : ds ≠ []) (h2 : ds.length < 1000000000) (q : ∀ (d : D) (x' y' : Nat), d ∈ ds → Q d (up G ps (srcC x' y'))) : wpF P (n + 2) f__law_one [.ref ps, .ref a] G Q E := by
  unfold wpF
  rw [h.one]
  refine ⟨rfl, ?_⟩
  simp [d__law_one, ha]
  refine sp_take h hG (List.length_pos_iff.mpr h1) h2 ?_
  intro d x' y' hd
  try simp []
  have e := List.getElem?_eq_getElem hd
  have e2 : up G ps (srcC x' y') a = some (.lst ds) := by rw [up_ne hne, ha]
  simp [e2, e]
  exact ⟨_, Sub.refl _, q _ x' y' (List.getElem_mem _)⟩
/-- names, piles: tuples of texts -/
def strsD (l : List Str) : D := .tup (l.map D.str)
theorem sp_one_strs (h : DDraw P) {ps : Addr} {x y : Nat} {l : List Str} (hG : G ps = some (srcC x y)) (h1 : l ≠ []) (h2 : l.length < 1000000) (q : ∀ (s : Str) (x' y' : Nat), s ∈ l → Q (.str s) (up G ps (srcC x' y'))) : wpF P (n + 2) f__law_one [.ref ps, strsD l] G Q E := by
  refine sp_one_tup h hG (by simpa using h1) (by simp; omega) ?_
  intro d x' y' hd
  try simp []
  obtain ⟨s, hs, rfl⟩ := List.mem_map.mp hd
  exact q s x' y' hs
theorem sp_plain (h : DDraw P) {ps : Addr} {x y : Nat} {l p : List Str} (hG : G ps = some (srcC x y)) (h1 : l ≠ []) (h2 : l.length < 1000) (h3 : p ≠ []) (h4 : p.length < 1000) (h5 : ∀ s ∈ l, s ∈ nmS) (h6 : ∀ s ∈ p, s ∈ piS) (q : ∀ (c : Act) (x' y' : Nat), c.ok = true → Q (.tup c.toDs) (up G ps (srcC x' y'))) : wpF P (n + 3) f__law_plain [.ref ps, strsD l, strsD p] G Q E := by
  unfold wpF
  rw [h.plain]
  refine ⟨rfl, ?_⟩
  simp [d__law_plain]
  refine sp_take h hG (top := 12) (by omega) (by omega) ?_
  intro way x1 y1 hw
  try simp []
  refine sp_one_strs h (by simp; exact ⟨rfl, rfl⟩) h1 (by omega) ?_
  intro s x2 y2 hs
  try simp []
  refine sp_one_strs h (by simp; exact ⟨rfl, rfl⟩) h1 (by omega) ?_
  intro s' x3 y3 hs'
  try simp []
  refine sp_one_strs h (by simp; exact ⟨rfl, rfl⟩) h3 (by omega) ?_
  intro r x4 y4 hr
  try simp []
  have fin : ∀ (c : Act) (x' y' : Nat), c.ok = true → ∃ G'', Sub G'' (up G ps (srcC x' y')) ∧ Q (.tup c.toDs) G'' := fun c x' y' hc => ⟨_, Sub.refl _, q c x' y' hc⟩
  have n1 := h5 s hs
  have n2 := h5 s' hs'
  have n3 := h6 r hr
  simp [eqO_int]
  split
  · exact fin (.new s) _ _ (by simp [Act.ok, n1])
  · split
    · exact fin (.put s r) _ _ (by simp [Act.ok, n1, n3])
    · split
      · exact fin (.take r s) _ _ (by simp [Act.ok, n1, n3])
      · split
        · exact fin (.move s s') _ _ (by simp [Act.ok, n1, n2])
        · split
          · exact fin (.fin s) _ _ (by simp [Act.ok, n1])
          · intro pl hpl
            have ne : pl ≠ ps := fun e => by rw [e] at hpl; simp at hpl
            refine sp_one_lst h (a := pl) (by rw [up_ne (Ne.symm ne)]; simp; exact ⟨rfl, rfl⟩) (up_same) ne (by simp) (by simp) ?_
            intro d x5 y5 hd
            simp at hd
            have hp0 : G pl = none := by rwa [up_ne ne] at hpl
            have hs5 : Sub (up G ps (srcC x5 y5)) (up (up (up G ps (srcC x4 y4)) pl (.lst [.str "u", .str "v", .str "w"])) ps (srcC x5 y5)) := Sub.up2 ((Sub.refl _).new hpl _)
            rcases hd with rfl | rfl | rfl <;> try simp []
            · exact ⟨_, hs5, q (.go "u" s) x5 y5 (by simp [Act.ok, n1, wdS])⟩
            · exact ⟨_, hs5, q (.go "v" s) x5 y5 (by simp [Act.ok, n1, wdS])⟩
            · exact ⟨_, hs5, q (.go "w" s) x5 y5 (by simp [Act.ok, n1, wdS])⟩
end
end AT
/-! L2: _law_body. -/
namespace AT
open PySem (Str Addr)
theorem Stm.toD_act (c : Act) : (Stm.act c).toD = .tup c.toDs := rfl
section
variable {P : Pr}
theorem sp_body (h : DDraw P) {l p : List Str} (h1 : l ≠ []) (h2 : l.length < 1000) (h3 : p ≠ []) (h4 : p.length < 1000) (h5 : ∀ s ∈ l, s ∈ nmS) (h6 : ∀ s ∈ p, s ∈ piS) : ∀ (deep : Nat) {n many : Nat} {ps : Addr} {x y : Nat} {G : Gp} {Q : KE} {E : KX}, G ps = some (srcC x y) → many < 10000 →
    (∀ (b : List Stm) (x' y' : Nat), Stm.oks b = true → Stm.cnts b ≤ many → Stm.deps b ≤ deep + 1 → Q (.tup (Stm.toDs b)) (up G ps (srcC x' y'))) → wpF P (n + 4 + deep) f__law_body [.ref ps, .int many, .int deep, strsD l, strsD p] G Q E := by
  intro deep
  induction deep using Nat.strongRecOn with
  | _ deep ih =>
    intro n many ps x y G Q E hG hm q
    rw [show n + 4 + deep = (n + 3 + deep) + 1 by omega]
    unfold wpF
    rw [h.body]
    refine ⟨rfl, ?_⟩
    simp [d__law_body]
    intro pf hpf
    have ne : pf ≠ ps := fun e => by rw [e, hG] at hpf; cases hpf
    refine whl_rule (I := fun k σ G' => ∃ (b : List Stm) (left x y : Nat) (x7 x8 x9 x10 : Option D), left = k ∧ left + Stm.cnts b ≤ many ∧ Stm.oks b = true ∧ Stm.deps b ≤ deep + 1 ∧ Sub (up G ps (srcC x y)) G' ∧ G' pf = some (.lst (Stm.toDs b)) ∧ b.length < 16000000 ∧
      σ = [some (.ref ps), some (.int many), some (.int deep), some (strsD l), some (strsD p), some (.ref pf), some (.int left), x7, x8, x9, x10]) ?_ (k := many) ⟨[], many, x, y, _, _, _, _, rfl, by simp [Stm.cnts], rfl, by simp [Stm.deps], ?_, by simp [Stm.toDs], by simp, rfl⟩
    · rintro k σ G' ⟨b, left, x, y, x7, x8, x9, x10, rfl, hc, ho, hd, hsub, hpf', hbl, rfl⟩ W hW
      try simp []
      by_cases hl : left = 0
      · subst hl
        try simp []
        have e0 : ∀ Q', Q' (.tup (Stm.toDs b)) G' → tupleOfW [.ref pf] G' Q' := fun Q' hq => by simp [tupleOfW, seqL, hpf']; exact hq
        exact e0 _ ⟨_, hsub, q b x y ho (by omega) hd⟩
      · have hl2 : 0 < left := by omega
        simp [hl2]
        have hcb : Stm.cnts b ≤ many := by omega
        have hlen : ∀ b : List Stm, b.length ≤ Stm.cnts b := by
          intro b
          induction b with
          | nil => simp
          | cons s b ih => have := s.cnt_pos; simp [Stm.cnts]; omega
        have gs := hsub.cell
        -- behind a statement that is put there
        have fin : ∀ (s : Stm) (left' x y : Nat) (G2 : Gp) (y7 y8 y9 y10 : Option D), s.ok = true → s.dep + 1 ≤ deep + 1 → left' + s.cnt ≤ left → Sub (up G ps (srcC x y)) G2 → G2 pf = some (.lst (Stm.toDs b ++ [s.toD])) →
            W [some (.ref ps), some (.int many), some (.int deep), some (strsD l), some (strsD p), some (.ref pf), some (.int left'), y7, y8, y9, y10] G2 := by
          intro s left' x y G2 y7 y8 y9 y10 hs hsd hle hs2 hg2
          have hsp := s.cnt_pos
          have hca : Stm.cnts (b ++ [s]) = Stm.cnts b + s.cnt := by rw [Stm.cnts_app]; simp [Stm.cnts]
          refine hW left' _ _ (by omega) ⟨b ++ [s], left', x, y, _, _, _, _, rfl, by omega, by rw [Stm.oks_app, ho]; simp [Stm.oks, hs], by rw [Stm.deps_app]; simp [Stm.deps]; omega, hs2, by rw [hg2, Stm.toDs_append]; rfl, ?_, rfl⟩
          have := hlen (b ++ [s])
          omega
        have hbl2 : (Stm.toDs b).length < 16777216 := by rw [Stm.toDs_length]; omega
        have hfp : ∀ {x y : Nat} {G2 : Gp}, Sub (up G ps (srcC x y)) G2 → ∀ c, Sub (up G ps (srcC x y)) (up G2 pf c) := fun hs c => Sub.upR (by rw [up_ne ne]; exact hpf) hs c
        have mn : ∀ (a c : Nat), (if (c : Int) < (a : Int) then (c : Int) else (a : Int)) = ((min a c : Nat) : Int) := by
          intro a c
          split <;> omega
        have mn2 : ∀ (a c : Nat), (if c < a then (c : Int) else (a : Int)) = ((min a c : Nat) : Int) := by
          intro a c
          split <;> omega
        have l1 : (left : Int) - 1 = ((left - 1 : Nat) : Int) := by omega
        -- a plain one
        have pln : ∀ (G2 : Gp) (x y : Nat) {Q : KE} {E : KX}, Sub (up G ps (srcC x y)) G2 →
            (∀ (c : Act) (x' y' : Nat), c.ok = true → up G2 ps (srcC x' y') pf = G2 pf → (∀ (y7 y8 y9 y10 : Option D), G2 pf = some (.lst (Stm.toDs b)) → W [some (.ref ps), some (.int many), some (.int deep), some (strsD l), some (strsD p), some (.ref pf), some (.int ((left : Int) - 1)), y7, y8, y9, y10] (up (up G2 ps (srcC x' y')) pf (.lst (Stm.toDs b ++ [.tup c.toDs])))) → Q (.tup c.toDs) (up G2 ps (srcC x' y'))) →
            wpF P (n + 3 + deep) f__law_plain [.ref ps, strsD l, strsD p] G2 Q E := by
          intro G2 x y Q E hs2 hq
          rw [show n + 3 + deep = (n + deep) + 3 by omega]
          refine sp_plain h hs2.cell h1 h2 h3 h4 h5 h6 ?_
          intro c x' y' hc
          try simp []
          refine hq c x' y' hc (up_ne ne) ?_
          intro y7 y8 y9 y10 hg2
          rw [l1]
          exact fin (.act c) (left - 1) x' y' _ _ _ _ _ (by simpa [Stm.ok] using hc) (by simp [Stm.dep]) (by simp [Stm.cnt]; omega) (hfp (Sub.up2 hs2) _) (by simp [Stm.toD])
        have hB : ∀ A B : Prop, ¬ (0 < deep ∧ 1 < (left : Int)) → (if 0 < deep then if 1 < (left : Int) then A else B else B) = B := by
          intro A B hn
          by_cases c1 : 0 < deep
          · have c2 : ¬ 1 < (left : Int) := fun c2 => hn ⟨c1, c2⟩
            simp [c1, c2]
          · simp [c1]
        have ino : ∀ d : D, d ∈ [D.int 2, D.int 1, D.int 3, D.int 0, D.int 2] → ∃ i : Nat, d = .int i := by
          intro d hd
          simp at hd
          rcases hd with rfl | rfl | rfl | rfl | rfl
          · exact ⟨2, rfl⟩
          · exact ⟨1, rfl⟩
          · exact ⟨3, rfl⟩
          · exact ⟨0, rfl⟩
          · exact ⟨2, rfl⟩
        by_cases c : 0 < deep ∧ 1 < (left : Int)
        · have hd1 : (deep : Int) - 1 = ((deep - 1 : Nat) : Int) := by omega
          simp only [c.1, c.2, if_true]
          rw [show n + 3 + deep = (n + 2 + deep) + 1 by omega]
          refine sp_take h gs (top := 7) (by omega) (by omega) ?_
          intro way x1 y1 hway
          try simp []
          intro pl hpl
          try simp []
          have s1 := Sub.up2 (d := srcC x1 y1) hsub
          have s2 := s1.new hpl (.lst [.int 2, .int 1, .int 3, .int 0, .int 2])
          have n1 : pl ≠ ps := fun e => by rw [e] at hpl; simp at hpl
          have n2 : pl ≠ pf := fun e => by rw [e, up_ne ne, hpf'] at hpl; cases hpl
          rw [show n + 2 + deep + 1 = (n + deep + 1) + 2 by omega]
          refine sp_one_lst h (a := pl) s2.cell up_same n1 (by simp) (by simp) ?_
          intro d x2 y2 hdm
          obtain ⟨inn, rfl⟩ := ino d hdm
          have s3 := Sub.up2 (d := srcC x2 y2) s2
          have g3 : up (up (up G' ps (srcC x1 y1)) pl (.lst [.int 2, .int 1, .int 3, .int 0, .int 2])) ps (srcC x2 y2) pf = some (.lst (Stm.toDs b)) := by rw [up_ne ne, up_ne (Ne.symm n2), up_ne ne, hpf']
          generalize up (up (up G' ps (srcC x1 y1)) pl (.lst [.int 2, .int 1, .int 3, .int 0, .int 2])) ps (srcC x2 y2) = G3 at s3 g3
          have hmn : (if (inn : Int) < (left : Int) - 1 then (inn : Int) else (left : Int) - 1) = ((min (left - 1) inn : Nat) : Int) := by split <;> omega
          simp [eqO_int]
          rw [hmn]
          have rd : ∀ {m : Nat}, m ≤ left - 1 → ∀ {x y : Nat} {G4 : Gp} {Q : KE} {E : KX}, Sub (up G ps (srcC x y)) G4 → (∀ (b : List Stm) (x' y' : Nat), Stm.oks b = true → Stm.cnts b ≤ m → Stm.deps b ≤ deep → Q (D.tup (Stm.toDs b)) (up G4 ps (srcC x' y'))) →
              wpF P (n + deep + 1 + 2) f__law_body [.ref ps, .int m, .int ((deep - 1 : Nat) : Int), strsD l, strsD p] G4 Q E := by
            intro m hm2 x y G4 Q E hs4 hq
            rw [show n + deep + 1 + 2 = n + 4 + (deep - 1) by omega]
            refine ih (deep - 1) (by omega) hs4.cell (by omega) ?_
            intro b x' y' k1 k2 k3
            exact hq b x' y' k1 k2 (by omega)
          split
          · -- a loop
            rename_i hw0
            refine ⟨by simp [g3], ?_⟩
            rw [hd1]
            refine rd (Nat.min_le_left _ _) s3 ?_
            intro c x' y' k1 k2 k3
            have g4 : up G3 ps (srcC x' y') pf = some (.lst (Stm.toDs b)) := by rw [up_ne ne, g3]
            simp [g4]
            refine ⟨hbl2, ?_⟩
            have e3 : (left : Int) - 1 - ((min (left - 1) inn : Nat) : Int) = ((left - 1 - min (left - 1) inn : Nat) : Int) := by omega
            rw [e3]
            refine fin (.loop c) _ x' y' _ _ _ _ _ (by simpa [Stm.ok] using k1) (by simp [Stm.dep]; omega) (by simp [Stm.cnt]; omega) (hfp (Sub.up2 s3) _) (by simp [Stm.toD])
          · split
            · -- an either
              have e3 : (left : Int) - 1 - ((min (left - 1) inn : Nat) : Int) = ((left - 1 - min (left - 1) inn : Nat) : Int) := by omega
              rw [e3]
              rw [show n + deep + 1 + 2 = (n + deep + 2) + 1 by omega]
              refine sp_take h s3.cell (top := 3) (by omega) (by omega) ?_
              intro d3 x3 y3 hd3
              try simp []
              have g4 : up G3 ps (srcC x3 y3) pf = some (.lst (Stm.toDs b)) := by rw [up_ne ne, g3]
              have s4 := Sub.up2 (d := srcC x3 y3) s3
              generalize up G3 ps (srcC x3 y3) = G4 at s4 g4
              simp [hd1]
              rw [mn (left - 1 - min (left - 1) inn) d3]
              try rw [hd1]
              refine rd (Nat.min_le_left _ _) s4 ?_
              intro c x' y' k1 k2 k3
              have g5 : up G4 ps (srcC x' y') pf = some (.lst (Stm.toDs b)) := by rw [up_ne ne, g4]
              have s5 := Sub.up2 (d := srcC x' y') s4
              generalize up G4 ps (srcC x' y') = G5 at s5 g5
              simp [g5]
              try rw [hd1]
              refine rd (m := min (left - 1 - min (left - 1) inn) d3) (by omega) s5 ?_
              intro c2 x'' y'' k4 k5 k6
              have g6 : up G5 ps (srcC x'' y'') pf = some (.lst (Stm.toDs b)) := by rw [up_ne ne, g5]
              simp [g6]
              refine ⟨hbl2, ?_⟩
              have e4 : (left : Int) - 1 - ((min (left - 1) inn : Nat) : Int) - ((min (left - 1 - min (left - 1) inn) d3 : Nat) : Int) = ((left - 1 - min (left - 1) inn - min (left - 1 - min (left - 1) inn) d3 : Nat) : Int) := by omega
              rw [e4]
              refine fin (.either c c2) _ x'' y'' _ _ _ _ _ (by simp [Stm.ok, k1, k4]) (by simp [Stm.dep]; omega) (by simp [Stm.cnt]; omega) (hfp (Sub.up2 s5) _) (by simp [Stm.toD])
            · refine ⟨by simp [g3], ?_⟩
              rw [show n + deep + 1 + 2 = n + 3 + deep by omega]
              refine pln _ x2 y2 s3 ?_
              intro c x' y' hc hg3 hk
              rw [g3] at hg3
              simp [hg3]
              exact ⟨hbl2, hk _ _ _ _ g3⟩
        · rw [hB _ _ c]
          clear mn mn2
          intro pl hpl
          have s2 := hsub.new hpl (.lst [.int 2, .int 1, .int 3, .int 0, .int 2])
          have n1 : pl ≠ ps := fun e => by rw [e, gs] at hpl; cases hpl
          have n2 : pl ≠ pf := fun e => by rw [e, hpf'] at hpl; cases hpl
          rw [show n + 3 + deep = (n + deep + 1) + 2 by omega]
          refine sp_one_lst h (a := pl) s2.cell up_same n1 (by simp) (by simp) ?_
          intro d x2 y2 hdm
          obtain ⟨inn, rfl⟩ := ino d hdm
          have s3 := Sub.up2 (d := srcC x2 y2) s2
          have g3 : up (up G' pl (.lst [.int 2, .int 1, .int 3, .int 0, .int 2])) ps (srcC x2 y2) pf = some (.lst (Stm.toDs b)) := by rw [up_ne ne, up_ne (Ne.symm n2), hpf']
          generalize up (up G' pl (.lst [.int 2, .int 1, .int 3, .int 0, .int 2])) ps (srcC x2 y2) = G3 at s3 g3
          simp [eqO_int]
          refine ⟨by simp [g3], ?_⟩
          rw [show n + deep + 1 + 2 = n + 3 + deep by omega]
          refine pln _ x2 y2 s3 ?_
          intro c x' y' hc hg3 hk
          rw [g3] at hg3
          simp [hg3]
          exact ⟨hbl2, hk _ _ _ _ g3⟩
    · intro z c hz
      have e1 : up G ps (srcC x y) = G := by
        funext z
        unfold up
        split
        · rename_i e; rw [e, hG]
        · rfl
      rw [e1] at hz
      exact Sub.up hpf _ z c hz
end
end AT
/-! L3: _law_leads. -/
namespace AT
open PySem (Str Addr)
def ldKV (e : Ld) : D × D := (plD e.pl, .tup [e.st.toD, plD e.on, plD e.into])
/-- what returns a dict that was made anew -/
def RetD (Q : KE) (G : Gp) (kvs : List (D × D)) : Prop := ∀ p, G p = none → Q (.ref p) (up G p (.dct kvs))
theorem keyAt_ld_out : ∀ {es : List Ld} {p : Plc}, p ∉ keysL es → keyAt (es.map ldKV) (plD p) = none
  | [], p, h => by simp [keyAt]
  | e :: es, p, h => by
    simp only [keysL, List.map_cons, List.mem_cons, not_or] at h
    have ih := keyAt_ld_out (es := es) h.2
    unfold keyAt at ih ⊢
    have : ¬ e.pl = p := fun x => h.1 x.symm
    simp only [List.map_cons, List.find?_cons, ldKV, eqB_pl, this, decide_false]
    exact ih
theorem keyAt_ld : ∀ {es : List Ld} {p : Plc}, keyAt (es.map ldKV) (plD p) = (es.find? fun e => e.pl == p).map fun e => (ldKV e).2
  | [], p => by simp [keyAt]
  | e :: es, p => by
    have ih := keyAt_ld (es := es) (p := p)
    unfold keyAt at ih ⊢
    simp only [List.map_cons, List.find?_cons, ldKV, eqB_pl]
    by_cases h : e.pl = p
    · simp [h]
    · have h2 : (e.pl == p) = false := by simpa using h
      simp only [h, decide_false, h2]
      exact ih
theorem isT_pl (p : Plc) : D.isT (plD p) = true := rfl
theorem kindOk_ld (es : List Ld) (p : Plc) : kindOk (es.map ldKV) (plD p) = true := by
  simp [kindOk, D.keyOk, isT_pl, ldKV]
theorem keyPut_ld {es : List Ld} {e : Ld} (h : e.pl ∉ keysL es) : keyPut (es.map ldKV) (plD e.pl) (.tup [e.st.toD, plD e.on, plD e.into]) = (es ++ [e]).map ldKV := by
  unfold keyPut
  rw [keyAt_ld_out h]
  simp [ldKV]
theorem fold_ld : ∀ (fs es : List Ld), (keysL (es ++ fs)).Nodup → (fs.map ldKV).foldl (fun m p => keyPut m p.1 p.2) (es.map ldKV) = (es ++ fs).map ldKV
  | [], es, h => by simp
  | f :: fs, es, h => by
    have hf : f.pl ∉ keysL es := by
      simp only [keysL, List.map_append, List.map_cons, List.nodup_append] at h
      intro hm
      exact h.2.2 _ hm _ (by simp) rfl
    simp only [List.map_cons, List.foldl_cons]
    have e1 : keyPut (es.map ldKV) (ldKV f).1 (ldKV f).2 = (es ++ [f]).map ldKV := keyPut_ld hf
    rw [e1, fold_ld fs (es ++ [f]) (by simpa using h)]
    simp
theorem ldB_app : ∀ (b c : List Stm) (l a : Plc) (n i : Nat), ldB l a n i (b ++ c) = ldB l a n i b ++ ldB l a n (i + b.length) c
  | [], c, l, a, n, i => by simp [ldB]
  | s :: ss, c, l, a, n, i => by
    simp only [List.cons_append, ldB, ldB_app ss c l a n (i + 1), List.append_assoc, List.length_cons]
    rw [show i + 1 + ss.length = i + (ss.length + 1) by omega]
theorem binW_pl0 (l : Plc) (G : Gp) (Q : KE) : binW .add (plD l) (.tup [.int 0]) G Q = (l.length + 1 ≤ 16777216 ∧ Q (plD (l ++ [0])) G) := binW_pl l 0 G Q
theorem binW_pl1 (l : Plc) (G : Gp) (Q : KE) : binW .add (plD l) (.tup [.int 1]) G Q = (l.length + 1 ≤ 16777216 ∧ Q (plD (l ++ [1])) G) := binW_pl l 1 G Q
theorem binW_pl00 (l : Plc) (G : Gp) (Q : KE) : binW .add (plD l) (.tup [.int 0, .int 0]) G Q = (l.length + 2 ≤ 16777216 ∧ Q (plD (l ++ [0, 0])) G) := by simp [binW, plD, line]
theorem binW_pl10 (l : Plc) (G : Gp) (Q : KE) : binW .add (plD l) (.tup [.int 1, .int 0]) G Q = (l.length + 2 ≤ 16777216 ∧ Q (plD (l ++ [1, 0])) G) := by simp [binW, plD, line]
/-- the dict's pairs, shut -/
def ldC (es : List Ld) : List (D × D) := es.map ldKV
theorem ldC_len (es : List Ld) : (ldC es).length = es.length := by simp [ldC]
theorem kindOk_ldC (es : List Ld) (p : Plc) : kindOk (ldC es) (plD p) = true := kindOk_ld es p
theorem lcS_nil {asg : D → St → Gp → (St → Gp → Prop) → Prop} {tst : St → Gp → KB → Prop} {elt : St → Gp → KE → Prop} {chk : Gp → Prop} {p : Addr} {σ : St} {Q : Gp → Prop} {G : Gp} : lcS asg tst elt chk p σ Q [] G = (chk G ∧ Q G) := rfl
theorem lcS_cons {asg : D → St → Gp → (St → Gp → Prop) → Prop} {tst : St → Gp → KB → Prop} {elt : St → Gp → KE → Prop} {chk : Gp → Prop} {p : Addr} {σ : St} {Q : Gp → Prop} {G : Gp} {x : D} {xs : List D} : lcS asg tst elt chk p σ Q (x :: xs) G = (chk G ∧ asg x σ G fun σ1 G1 => tst σ1 G1 fun b G2 =>
      if b = true then elt σ1 G2 fun y G3 => match G3 p with
        | some (.lst acc) => acc.length < line ∧ lcS asg tst elt chk p σ Q xs (up G3 p (.lst (acc ++ [y])))
        | _ => False
      else lcS asg tst elt chk p σ Q xs G2) := rfl
structure DLaw (P : Pr) : Prop where
  leads : P.defs f__law_leads = some d__law_leads
  places : P.defs f__law_places = some d__law_places
section
variable {P : Pr}
theorem update_ld {G : Gp} {Q : KE} {pd pr : Addr} {es fs : List Ld} (hd : G pd = some (.dct (ldC es))) (hr : G pr = some (.dct (ldC fs))) (hne : pd ≠ pr) (hes : es ≠ []) (hn : (keysL (es ++ fs)).Nodup) (hl : es.length + fs.length ≤ 1000000) (q : Q .non (up G pd (.dct (ldC (es ++ fs))))) : updateW [.ref pd, .ref pr] G Q := by
  simp only [updateW, hd, hr]
  refine ⟨hne, by simpa [ldC] using hes, by simp [ldC, ldKV, isT_pl], ?_, by simpa [ldC] using hl, ?_⟩
  · intro p hp
    obtain ⟨e, he, rfl⟩ := List.mem_map.mp hp
    exact ⟨kindOk_ld _ _, rfl⟩
  · have := fold_ld fs es hn
    unfold ldC at q ⊢
    rw [this]
    exact q
theorem sp_leads (h : P.defs f__law_leads = some d__law_leads) : ∀ (k : Nat) {n : Nat} {b : List Stm} {l a : Plc} {G : Gp} {Q : KE} {E : KX}, Stm.deps b ≤ k → Stm.cnts b ≤ 10000 → l.length + 2 * k < 900 → RetD Q G (ldC (ldB l a b.length 0 b)) →
    wpF P (n + 1 + k) f__law_leads [.tup (Stm.toDs b), plD l, plD a] G Q E := by
  intro k
  induction k with
  | zero => intro n b l a G Q E hk; have := Stm.deps_pos b; omega
  | succ k ih =>
    intro n b l a G Q E hk hc hl q
    rw [show n + 1 + (k + 1) = (n + 1 + k) + 1 by omega]
    unfold wpF
    rw [h]
    refine ⟨rfl, ?_⟩
    simp [d__law_leads, putAll]
    intro pd hpd
    rw [Stm.toDs_length]
    have hcl : ∀ b : List Stm, b.length ≤ Stm.cnts b := by
      intro b
      induction b with
      | nil => simp
      | cons s b ih => have := s.cnt_pos; simp [Stm.cnts]; omega
    have hbl := hcl b
    refine ⟨by omega, ?_⟩
    refine for_rule (I := fun xs σ G' => ∃ (pre ss : List Stm) (x4 x5 x6 x7 x8 x9 : Option D), b = pre ++ ss ∧ xs = (List.range' pre.length ss.length).map (fun i => D.int (i : Nat)) ∧ Sub G G' ∧ G' pd = some (.dct (ldC (ldB l a b.length 0 pre))) ∧
      σ = [some (.tup (Stm.toDs b)), some (plD l), some (plD a), some (.ref pd), x4, x5, x6, x7, x8, x9]) ?_ ?_ ⟨[], b, _, _, _, _, _, _, rfl, by rw [List.range_eq_range']; rfl, Sub.up hpd _, by simp [ldB, ldC], rfl⟩
    · rintro x xs σ G' ⟨pre, ss, x4, x5, x6, x7, x8, x9, eb, ex, hsub, hg, rfl⟩ W hW
      refine ⟨trivial, ?_⟩
      cases ss with
      | nil => simp at ex
      | cons s ss =>
        rw [List.length_cons, List.range'_succ] at ex
        simp only [List.map_cons, List.cons.injEq] at ex
        obtain ⟨rfl, rfl⟩ := ex
        have hcb : Stm.cnts b = Stm.cnts pre + (s.cnt + Stm.cnts ss) := by rw [eb, Stm.cnts_app]; rfl
        have hsd : s.dep + 1 ≤ Stm.deps b := by rw [eb, Stm.deps_app]; simp [Stm.deps]; omega
        have hb1 : b.length = pre.length + (ss.length + 1) := by rw [eb]; simp
        have hbg : b[pre.length]? = some s := by rw [eb]; simp
        have happ : ldB l a b.length 0 (pre ++ [s]) = ldB l a b.length 0 pre ++ ldS l a b.length pre.length s := by rw [ldB_app]; simp [ldB]
        have hnd : (keysL (ldB l a b.length 0 pre ++ ldS l a b.length pre.length s)).Nodup := by rw [← happ]; exact ldB_nodup _ _ _ _ _
        have hlen : (ldB l a b.length 0 pre).length ≤ 10000 := by rw [ldB_len]; omega
        have fin : ∀ (G2 : Gp) (y4 y5 y6 y7 y8 y9 : Option D), Sub G G2 → G2 pd = some (.dct (ldC (ldB l a b.length 0 pre ++ ldS l a b.length pre.length s))) → W [some (.tup (Stm.toDs b)), some (plD l), some (plD a), some (.ref pd), y4, y5, y6, y7, y8, y9] G2 := by
          intro G2 y4 y5 y6 y7 y8 y9 hs2 hg2
          refine hW _ _ ⟨pre ++ [s], ss, _, _, _, _, _, _, by rw [eb]; simp, by simp, hs2, by rw [happ]; exact hg2, rfl⟩
        have key : ((pre.length : Int) + 1 < (b.length : Int)) ↔ pre.length + 1 < b.length := by omega
        have hnotin : (l ++ [pre.length]) ∉ keysL (ldB l a b.length 0 pre) := by
          intro hm
          obtain ⟨e, he, e2⟩ := List.mem_map.mp hm
          obtain ⟨j, r, j1, j2, j3⟩ := ld_keyB he
          rw [j3] at e2
          simp at e2
          omega
        have hput : ∀ (s : Stm) (x y : Plc), keyPut (ldC (ldB l a b.length 0 pre)) (plD (l ++ [pre.length])) (.tup [s.toD, plD x, plD y]) = ldC (ldB l a b.length 0 pre ++ [Ld.mk (l ++ [pre.length]) s x y]) := fun s x y => keyPut_ld (e := Ld.mk (l ++ [pre.length]) s x y) hnotin
        have hcn := s.cnt_pos
        by_cases hi : pre.length + 1 < b.length <;> (cases s with
          | act c =>
            have e1 : ∀ G, eqO G (.str (wordM c)) (.str "loop") = some false := fun G => by rw [eqO_str]; cases c <;> simp [wordM]
            have e2 : ∀ G, eqO G (.str (wordM c)) (.str "either") = some false := fun G => by rw [eqO_str]; cases c <;> simp [wordM]
            have ht := hput (.act c)
            simp only [Stm.toD, toDs_eq] at ht
            simp [Stm.toDs_get, hbg, Stm.toDs_length, key, hi, Stm.toD, toDs_eq, e1, e2, hg, kindOk_ldC, ldC_len, ht]
            refine ⟨by omega, by omega, ?_⟩
            exact fin _ _ _ _ _ _ _ (Sub.upR hpd hsub _) (by simp [ldS, hi])
          | loop c =>
            have pc := Stm.pure_toDs (Stm.puresB_true c)
            have ht := hput (.loop c)
            simp only [Stm.toD] at ht
            simp only [Stm.dep] at hsd
            simp only [Stm.cnt] at hcb
            cases hce : c.isEmpty <;> (
              simp [Stm.toDs_get, hbg, Stm.toDs_length, key, hi, Stm.toD, eqO_str, eqO_tupnil _ _ pc, Stm.toDs_isEmpty, hce, hg, kindOk_ldC, ldC_len, ht, binW_pl0]
              repeat (refine ⟨by omega, ?_⟩)
              refine ih (by omega) (by omega) (by simp; omega) ?_
              intro pr hpr
              have n1 : pd ≠ pr := fun e => by rw [← e] at hpr; simp at hpr
              simp [up_ne n1]
              simp [ldS, hi, hce] at hnd
              refine update_ld (by rw [up_ne n1]; exact up_same) up_same n1 (by simp) (by simpa using hnd) (by simp [ldB_len]; omega) ?_
              try simp []
              exact fin _ _ _ _ _ _ _ (Sub.upR hpd ((Sub.upR hpd hsub _).new hpr _) _) (by simp [ldS, hi, hce]))
          | either c d =>
            have pc := Stm.pure_toDs (Stm.puresB_true c)
            have pd2 := Stm.pure_toDs (Stm.puresB_true d)
            have ht := hput (.either c d)
            simp only [Stm.toD] at ht
            simp only [Stm.dep] at hsd
            simp only [Stm.cnt] at hcb
            cases hce : c.isEmpty <;> cases hde : d.isEmpty <;> (
              simp [Stm.toDs_get, hbg, Stm.toDs_length, key, hi, Stm.toD, eqO_str, eqO_tupnil _ _ pc, eqO_tupnil _ _ pd2, Stm.toDs_isEmpty, hce, hde, hg, kindOk_ldC, ldC_len, ht, binW_pl0, binW_pl1]
              refine ⟨by omega, ?_⟩
              intro pw hpw
              have n0 : pd ≠ pw := fun e => by rw [← e, hg] at hpw; cases hpw
              have hs1 := hsub.new hpw (.lst [plD (if c.isEmpty then (if pre.length + 1 < b.length then l ++ [pre.length + 1] else a) else l ++ [pre.length, 0, 0]), plD (if d.isEmpty then (if pre.length + 1 < b.length then l ++ [pre.length + 1] else a) else l ++ [pre.length, 1, 0])])
              simp only [hce, hde, hi, if_true, if_false] at hs1
              simp [List.range_succ, ↓LcF_cons, ↓LcF_nil, wipe, eqO_tupnil _ _ pc, eqO_tupnil _ _ pd2, Stm.toDs_isEmpty, hce, hde, binW_pl00, binW_pl10, up_ne n0, hg, kindOk_ldC, ldC_len, ht, binW_pl0, binW_pl1]
              repeat (refine ⟨by omega, ?_⟩)
              refine ih (by omega) (by omega) (by simp; omega) ?_
              intro pr hpr
              have n1 : pd ≠ pr := fun e => by rw [← e] at hpr; simp at hpr
              simp [up_ne n1]
              simp [ldS, hi, hce, hde] at hnd
              have hs2 := Sub.upR (c := .dct (ldC (ldB l a b.length 0 pre))) hpd hs1
              refine update_ld (by rw [up_ne n1]; exact up_same) up_same n1 (by simp) ?_ (by simp [ldB_len]; omega) ?_
              · simp only [← List.cons_append, ← List.append_assoc] at hnd
                simp only [keysL, List.map_append] at hnd ⊢
                have := (List.nodup_append.mp hnd).1
                simpa using this
              · simp [binW_pl0, binW_pl1, up_ne n1]
                repeat (refine ⟨by omega, ?_⟩)
                refine ih (by omega) (by omega) (by simp; omega) ?_
                intro pr2 hpr2
                have n2 : pd ≠ pr2 := fun e => by rw [← e] at hpr2; simp at hpr2
                simp [up_ne n2]
                refine update_ld (by rw [up_ne n2]; exact up_same) up_same n2 (by simp) (by simpa using hnd) (by simp [ldB_len]; omega) ?_
                try simp []
                exact fin _ _ _ _ _ _ _ (Sub.upR hpd ((Sub.upR hpd ((Sub.upR hpd hs1 _).new hpr _) _).new hpr2 _) _) (by simp [ldS, hi, hce, hde])))
    · rintro σ G' ⟨pre, ss, x4, x5, x6, x7, x8, x9, eb, ex, hsub, hg, rfl⟩
      cases ss with
      | cons s ss => rw [List.length_cons, List.range'_succ] at ex; simp at ex
      | nil =>
        simp at eb
        subst eb
        refine ⟨trivial, ?_⟩
        try simp []
        refine ⟨up G pd (.dct (ldC (ldB l a b.length 0 b))), ?_, q pd hpd⟩
        intro z c hz
        by_cases e2 : z = pd
        · subst e2
          rw [hg]
          simpa using hz
        · rw [up_ne e2] at hz
          exact hsub z c hz
end
end AT
section
set_option maxHeartbeats 2000000
/-! L4: _law_places, _law_ways. -/
namespace AT
open PySem (Str Addr)
theorem ixD_m1_2 {α : Type} (a b : α) : ixD [a, b] (-1) = some b := rfl
theorem ixD_m1_3 {α : Type} (a b c : α) : ixD [a, b, c] (-1) = some c := rfl
theorem eqO_non_str (G : Gp) (s : Str) : eqO G .non (.str s) = some false := by rw [eqO_val] <;> simp
theorem putAll_s3 {a b c : Str} (x y z : D) (h1 : ¬ a = b) (h2 : ¬ a = c) (h3 : ¬ b = c) : putAll [] [(.str a, x), (.str b, y), (.str c, z)] = some [(.str a, x), (.str b, y), (.str c, z)] := by
  have e1 : (a == b) = false := by simpa using h1
  have e2 : (a == c) = false := by simpa using h2
  have e3 : (b == c) = false := by simpa using h3
  simp [putAll, kindOk, D.keyOk, D.isT, flatK, keyPut, keyAt, e1, e2, e3]
theorem putAll_nil (m : List (D × D)) : putAll m [] = some m := rfl
theorem putAll_cons (m : List (D × D)) (k v : D) (r : List (D × D)) : putAll m ((k, v) :: r) = if kindOk m k = true then putAll (keyPut m k v) r else none := rfl
theorem kindOk_snil (s : Str) : kindOk [] (.str s) = true := rfl
theorem kindOk_scons (k s : Str) (v : D) (r : List (D × D)) : kindOk ((.str k, v) :: r) (.str s) = kindOk r (.str s) := by
  simp [kindOk, D.isT]
theorem keyAt_snil (s : Str) : keyAt [] (.str s) = none := rfl
theorem keyAt_scons (k s : Str) (v : D) (r : List (D × D)) : keyAt ((.str k, v) :: r) (.str s) = if k = s then some v else keyAt r (.str s) := by
  unfold keyAt
  simp only [List.find?_cons, eqB_str_str]
  by_cases h : k = s
  · simp [h]
  · have : (k == s) = false := by simpa using h
    simp [h, this]
theorem keyPut_new {m : List (D × D)} {k v : D} (h : keyAt m k = none) : keyPut m k v = m ++ [(k, v)] := by
  unfold keyPut
  simp [h]
theorem Sub.upM {G G' : Gp} (s : Sub G G') (p : Addr) (c : Cell) : Sub (AT.up G p c) (AT.up G' p c) := fun a c' e => by
  by_cases e2 : a = p
  · subst e2
    simpa using e
  · rw [up_ne e2] at e ⊢
    exact s a c' e
section
variable {P : Pr} {n : Nat} {G : Gp} {Q : KE} {E : KX}
theorem sp_places (h : DLaw P) {prog : List Stm} (g : GoodP prog) (q : RetD Q G (ldC (leads prog))) : wpF P (n + 8) f__law_places [.tup (Stm.toDs prog)] G Q E := by
  unfold wpF
  rw [h.places]
  refine ⟨rfl, ?_⟩
  simp [d__law_places, Stm.toDs_length]
  refine sp_leads h.leads 6 (n := n) (l := []) (a := [prog.length]) g.deep (by have := g.many; omega) (by simp) ?_
  intro p hp
  try simp []
  exact ⟨_, Sub.refl _, q p hp⟩
theorem keyAt_ldC (prog : List Stm) (p : Plc) : keyAt (ldC (leads prog)) (plD p) = (look prog p).map fun e => .tup [e.st.toD, plD e.on, plD e.into] := keyAt_ld
theorem wpG_W {C : Cls} {F : Orc} {X : Option D} {E : KX} {σ : St} {G : Gp} {Q : St → Gp → Prop} {t s r : CT} (w : W) : wpG C F X (.tup (.cons t (.cons s (.cons r .nil)))) E w.toD σ G Q = (wpG C F X t E (plD w.pl) σ G fun σ1 G1 => wpG C F X s E (spD w.a) σ1 G1 fun σ2 G2 => wpG C F X r E (spD w.b) σ2 G2 Q) := by
  simp [W.toD, wpG_tup, wpGs_cons, wpGs_nil, CTs.len]
theorem eqO_sps (G : Gp) (a : Option Str) (s : Str) : eqO G (spD a) (.str s) = some (decide (a = some s)) := eqO_sp G a s
theorem wayD_mk (ls : List Str) (p : Plc) (a b : Option Str) : wayD (ls, ⟨p, a, b⟩) = .tup [ltD ls, .tup [plD p, spD a, spD b]] := rfl
theorem sp_law_ways (h : P.defs f__law_ways = some d__law_ways) {prog : List Stm} (g : GoodP prog) {w : W} (hw : WOk prog w) {pd : Addr} (hG : G pd = some (.dct (ldC (leads prog)))) {x : D} (q : RetL Q G ((waysM prog w).map wayD)) : wpF P (n + 1) f__law_ways [x, .ref pd, w.toD] G Q E := by
  unfold wpF
  rw [h]
  refine ⟨rfl, ?_⟩
  obtain ⟨wp, wa, wb⟩ := w
  unfold waysM at q
  cases hl : look prog wp with
  | none =>
    simp only [hl] at q
    simp [d__law_ways, ↓wpG_W, hG, kindOk_ldC, keyAt_ldC, hl]
    intro p hp
    exact ⟨_, Sub.refl _, q p hp⟩
  | some e =>
    simp only [hl, waysL] at q
    obtain ⟨l, b, a, i, ho⟩ := leads_ok (look_some hl).1
    cases hs : e.st with
    | act c =>
      have hc : c.ok = true := by
        have := Stm.oks_get (ho.pos.oks g.ok) ho.get
        rw [hs] at this
        exact this
      rw [hs] at q
      simp only at q
      have hne := hw.ne
      simp only at hne
      clear hw ho g h
      have f1 : ∀ {ds : List D}, RetL Q G ds → ∀ p, G p = none → ∃ G'', Sub G'' (up G p (.lst ds)) ∧ Q (.ref p) G'' := fun q p hp => ⟨_, Sub.refl _, q p hp⟩
      have f2 : ∀ {ds : List D} {ds' : List D}, RetL Q G ds → ∀ p, G p = none → ∀ p1, up G p (.lst ds') p1 = none → ∃ G'', Sub G'' (up (up G p (.lst ds')) p1 (.lst ds)) ∧ Q (.ref p1) G'' := fun q p hp p1 hp1 => ⟨_, (Sub.up hp _).upM _ _, q p1 ((Sub.up hp _).none hp1)⟩
      have f3 : ∀ {ds : List D} {m m' : List (D × D)}, RetL Q G ds → ∀ p, G p = none → ∀ p1, up G p (.lst ds) p1 = none → ∀ p2, up (up G p (.lst ds)) p1 (.dct m) p2 = none → ∃ G'', Sub G'' (up (up (up G p (.lst ds)) p1 (.dct m)) p2 (.dct m')) ∧ Q (.ref p) G'' := fun q p hp p1 hp1 p2 hp2 => ⟨_, ((Sub.refl _).new hp1 _).new hp2 _, q p hp⟩
      have f4 : ∀ {ds ds' : List D} {m m' : List (D × D)}, RetL Q G ds → ∀ p, G p = none → ∀ p1, up G p (.lst ds') p1 = none → ∀ p2, up (up G p (.lst ds')) p1 (.dct m) p2 = none → ∀ p3, up (up (up G p (.lst ds')) p1 (.dct m)) p2 (.dct m') p3 = none → ∃ G'', Sub G'' (up (up (up (up G p (.lst ds')) p1 (.dct m)) p2 (.dct m')) p3 (.lst ds)) ∧ Q (.ref p3) G'' := fun {ds ds' m m'} q p hp p1 hp1 p2 hp2 p3 hp3 => by
        have s := ((Sub.up hp (.lst ds')).new hp1 (.dct m)).new hp2 (.dct m')
        exact ⟨_, s.upM _ _, q p3 (s.none hp3)⟩
      cases c with
      | new x =>
        simp [Act.ok] at hc
        simp [d__law_ways, hG, kindOk_ldC, keyAt_ldC, hl, hs, Stm.toD, Act.toDs, inO_str_tup, eqO_str, eqO_sps, W.toD]
        simp only [effM, madeM, emptiedM] at q
        rcases wa with _ | s <;> rcases wb with _ | t
        all_goals try by_cases he0 : s = x
        all_goals try by_cases he1 : t = x
        all_goals first | (exfalso; subst_vars; exact hne rfl _ (hc) rfl) | skip
        all_goals simp [spD, *] at q ⊢
        all_goals exact f1 (by simpa [wayD, W.toD, ltD, spD] using q)
      | put y p =>
        simp [Act.ok] at hc
        have hpl : p.length = 1 := by
          have := hc.2
          simp [piS] at this
          rcases this with rfl | rfl <;> simp
        simp [d__law_ways, hG, kindOk_ldC, keyAt_ldC, hl, hs, Stm.toD, Act.toDs, inO_str_tup, eqO_str, eqO_sps, W.toD, putAll_s3, kindOk_snil, kindOk_scons, keyAt_snil, keyAt_scons, ixD_m1_2, ixD_m1_3, len_app', hpl]
        simp only [effM, goneM] at q
        rcases wa with _ | s <;> rcases wb with _ | t
        all_goals try by_cases he0 : s = y
        all_goals try by_cases he1 : t = y
        all_goals first | (exfalso; subst_vars; exact hne rfl _ (hc.1) rfl) | skip
        all_goals simp [spD, *] at q ⊢
        all_goals first | exact f1 (by simpa [wayD, W.toD, ltD, spD] using q) | exact f3 (by simpa [wayD, W.toD, ltD, spD] using q) | exact f4 (by simpa [wayD, W.toD, ltD, spD] using q) | exact f2 (by simpa [wayD, W.toD, ltD, spD] using q)
      | take p x =>
        simp [Act.ok] at hc
        have hpx : ¬ p = x := by
          rintro rfl
          have := hc.1; have h2 := hc.2
          simp [nmS, piS] at this h2
          rcases this with rfl | rfl <;> simp at h2
        have hxp : ¬ ("x" : Str) = p := by
          rintro rfl
          have := hc.1
          simp [piS] at this
        have hpl : p.length = 1 := by
          have := hc.1
          simp [piS] at this
          rcases this with rfl | rfl <;> simp
        simp [d__law_ways, hG, kindOk_ldC, keyAt_ldC, hl, hs, Stm.toD, Act.toDs, inO_str_tup, eqO_str, eqO_sps, W.toD, hpl]
        simp only [effM, takenM, emptiedM] at q
        rcases wa with _ | s <;> rcases wb with _ | t
        all_goals try by_cases he0 : s = x
        all_goals try by_cases he1 : t = x
        all_goals try by_cases he2 : s = p
        all_goals try by_cases he3 : t = p
        all_goals first | (exfalso; subst_vars; exact hne rfl _ (hc.2) rfl) | skip
        all_goals simp [spD, *] at q ⊢
        all_goals (try simp [len_app', hpl])
        all_goals first | exact f1 (by simpa [wayD, W.toD, ltD, spD] using q) | exact f3 (by simpa [wayD, W.toD, ltD, spD] using q) | exact f4 (by simpa [wayD, W.toD, ltD, spD] using q) | exact f2 (by simpa [wayD, W.toD, ltD, spD] using q)
      | move y x =>
        simp [Act.ok] at hc
        have hxy : ¬ ("x" : Str) = y := by
          rintro rfl
          have := hc.1
          simp [nmS] at this
        simp [d__law_ways, hG, kindOk_ldC, keyAt_ldC, hl, hs, Stm.toD, Act.toDs, inO_str_tup, eqO_str, eqO_sps, W.toD]
        simp only [effM, movedM, emptiedM] at q
        by_cases he0 : y = x
        · subst he0
          simp at q ⊢
          exact f1 (by simpa [wayD, W.toD, ltD, spD] using q)
        · have he1 : ¬ x = y := fun e => he0 e.symm
          rcases wa with _ | s <;> rcases wb with _ | t
          all_goals try by_cases hs1 : s = x
          all_goals try by_cases ht1 : t = x
          all_goals try by_cases hs2 : s = y
          all_goals try by_cases ht2 : t = y
          all_goals first | (exfalso; subst_vars; exact hne rfl _ hc.2 rfl) | skip
          all_goals simp [spD, *] at q ⊢
          all_goals (intro p hp p1 hp1; exact ⟨_, (Sub.up hp _).upM _ _, (show RetL Q G _ by simpa [wayD, W.toD, ltD, spD] using q) p1 ((Sub.up hp _).none hp1)⟩)
      | fin x =>
        simp [Act.ok] at hc
        have hxl : x.length = 1 := by
          have := hc
          simp [nmS] at this
          rcases this with rfl | rfl | rfl | rfl <;> simp
        simp [d__law_ways, hG, kindOk_ldC, keyAt_ldC, hl, hs, Stm.toD, Act.toDs, inO_str_tup, eqO_str, eqO_sps, W.toD, putAll_s3, kindOk_snil, kindOk_scons, keyAt_snil, keyAt_scons, ixD_m1_2, ixD_m1_3, len_app', hxl]
        simp only [effM, goneM] at q
        rcases wa with _ | s <;> rcases wb with _ | t
        all_goals try by_cases he0 : s = x
        all_goals try by_cases he1 : t = x
        all_goals first | (exfalso; subst_vars; exact hne rfl _ (hc) rfl) | skip
        all_goals simp [spD, *] at q ⊢
        all_goals first | exact f1 (by simpa [wayD, W.toD, ltD, spD] using q) | exact f3 (by simpa [wayD, W.toD, ltD, spD] using q) | exact f4 (by simpa [wayD, W.toD, ltD, spD] using q) | exact f2 (by simpa [wayD, W.toD, ltD, spD] using q)
      | go u x =>
        simp [Act.ok] at hc
        have hxl : x.length = 1 := by
          have := hc.2
          simp [nmS] at this
          rcases this with rfl | rfl | rfl | rfl <;> simp
        have hpl : u.length = 1 := by
          have := hc.1
          simp [wdS] at this
          rcases this with rfl | rfl | rfl <;> simp
        simp [d__law_ways, hG, kindOk_ldC, keyAt_ldC, hl, hs, Stm.toD, Act.toDs, inO_str_tup, eqO_str, eqO_sps, W.toD, putAll_s3, kindOk_snil, kindOk_scons, keyAt_snil, keyAt_scons, ixD_m1_2, ixD_m1_3, len_app', hxl, hpl]
        simp only [effM, goneM] at q
        rcases wa with _ | s <;> rcases wb with _ | t
        all_goals try by_cases he0 : s = x
        all_goals try by_cases he1 : t = x
        all_goals first | (exfalso; subst_vars; exact hne rfl _ (hc.2) rfl) | skip
        all_goals simp [spD, *] at q ⊢
        all_goals first | exact f1 (by simpa [wayD, W.toD, ltD, spD] using q) | exact f3 (by simpa [wayD, W.toD, ltD, spD] using q) | exact f4 (by simpa [wayD, W.toD, ltD, spD] using q) | exact f2 (by simpa [wayD, W.toD, ltD, spD] using q)
    | loop c =>
      rw [hs] at q
      simp [d__law_ways, ↓wpG_W, hG, kindOk_ldC, keyAt_ldC, hl, hs, Stm.toD, inO_str_tup]
      intro p hp
      exact ⟨_, Sub.refl _, by simpa [wayD, W.toD, ltD] using q p hp⟩
    | either c d =>
      rw [hs] at q
      simp [d__law_ways, ↓wpG_W, hG, kindOk_ldC, keyAt_ldC, hl, hs, Stm.toD, inO_str_tup]
      intro p hp
      exact ⟨_, Sub.refl _, by simpa [wayD, W.toD, ltD] using q p hp⟩
end
end AT
end
section
set_option maxHeartbeats 2000000
/-! L5: _law_letters, _law_table, _law_many. -/
namespace AT
open PySem (Str Addr)
section
variable {P : Pr} {n : Nat} {G : Gp} {Q : KE} {E : KX}
theorem sp_letters (h : P.defs f__law_letters = some d__law_letters) (q : RetL Q G lettersD) : wpF P (n + 1) f__law_letters [] G Q E := by
  unfold wpF
  rw [h]
  refine ⟨rfl, ?_⟩
  simp [d__law_letters]
  intro p hp p1 hp1
  have s1 : Sub G (up (up G p (.lst [.str "putp", .str "putq", .str "takep", .str "takeq", .str "end", .str "u", .str "v", .str "w"])) p1 (.lst [])) := (Sub.up hp _).new hp1 _
  have n1 : p ≠ p1 := fun e => by rw [← e] at hp1; simp at hp1
  refine lc_pure (f := fun d => match d with
    | .str s => .str ("e." ++ s)
    | d => d) ?_ ?_ ?_ ?_ ?_
  · intros; rfl
  · intro acc; simp [up_ne n1]
  · simp
  · intro x hx acc Q2 q2
    simp at hx
    rcases hx with rfl | rfl | rfl | rfl | rfl | rfl | rfl | rfl <;> (simp [wipe]; simpa using q2)
  · simp [up_ne n1]
    intro p2 hp2
    have n2 : p ≠ p2 := fun e => by rw [← e, up_ne n1] at hp2; simp at hp2
    have n3 : p1 ≠ p2 := fun e => by rw [← e] at hp2; simp at hp2
    refine lc_pure (f := fun d => match d with
      | .str s => .str ("y." ++ s)
      | d => d) ?_ ?_ ?_ ?_ ?_
    · intros; rfl
    · intro acc; simp [up_ne n1, up_ne n2]
    · simp
    · intro x hx acc Q2 q2
      simp at hx
      rcases hx with rfl | rfl | rfl | rfl | rfl | rfl | rfl | rfl <;> (simp [wipe]; simpa using q2)
    · simp [up_ne n3]
      intro p3 hp3 p4 hp4
      have n4 : p3 ≠ p4 := fun e => by rw [← e] at hp4; simp at hp4
      simp [up_ne n4]
      intro p5 hp5
      refine ⟨up G p5 (.lst lettersD), Sub.upM ?s _ _, q p5 (Sub.none ?s hp5)⟩
      exact ((((Sub.up hp _).new hp1 _).new hp2 _).new hp3 _).new hp4 _
theorem Sub.del {G G' : Gp} {p : Addr} (h : G p = Option.none) (s : Sub G G') : Sub G (AT.del G' p) := fun a c' e => by
  unfold AT.del
  by_cases e2 : a = p
  · subst e2
    rw [h] at e
    cases e
  · simp [e2, s a c' e]
theorem lc_src {asg : D → St → Gp → (St → Gp → Prop) → Prop} {tst : St → Gp → KB → Prop} {elt : St → Gp → KE → Prop} {chk : Gp → Prop} {σ : St} {Q : Gp → Prop} {ds : List D} {ps p : Addr} {a b : Nat} {G0 : Gp} (R : D → Prop)
    (h0 : Sub (up G ps (srcC a b)) G0) (hp : G0 p = none) (ht : ∀ σ G Q, tst σ G Q = Q true G) (hc : ∀ G', chk G') (hl : ds.length ≤ 16777216)
    (he : ∀ x ∈ ds, ∀ (a b : Nat) (G' : Gp) (acc : List D) (Q2 : KE), Sub (up G ps (srcC a b)) G' → G' p = some (.lst acc) → (∀ (a' b' : Nat) (y : D) (G2 : Gp), R y → Sub (up G ps (srcC a' b')) G2 → G2 p = some (.lst acc) → Q2 y G2) → asg x σ G' fun σ1 G1 => elt σ1 G1 Q2)
    (q : ∀ (a b : Nat) (acc : List D) (G' : Gp), acc.length = ds.length → (∀ y ∈ acc, R y) → Sub (up G ps (srcC a b)) G' → G' p = some (.lst acc) → Q G') : lcS asg tst elt chk p σ Q ds (up G0 p (.lst [])) := by
  have hpp : ∀ a b, up G ps (srcC a b) p = none := by
    intro a' b'
    have h1 : up G ps (srcC a b) p = none := h0.none hp
    have ne : p ≠ ps := fun e => by rw [e] at h1; simp at h1
    rw [up_ne ne] at h1 ⊢
    exact h1
  refine lc_rule (I := fun xs G' => ∃ (a b : Nat) (acc dn : List D), ds = dn ++ xs ∧ acc.length = dn.length ∧ (∀ y ∈ acc, R y) ∧ Sub (up G ps (srcC a b)) G' ∧ G' p = some (.lst acc)) ?_ ?_ ⟨a, b, [], [], rfl, rfl, by simp, h0.new hp _, by simp⟩
  · rintro x xs G' ⟨a', b', acc, dn, e, e2, hR, hs, hg⟩ W hW
    refine ⟨hc _, ?_⟩
    simp only [ht, if_true]
    refine he x (by rw [e]; simp) a' b' G' acc _ hs hg ?_
    intro a2 b2 y G2 hy hs2 hg2
    simp only [hg2]
    have : ds.length = dn.length + (xs.length + 1) := by rw [e]; simp
    refine ⟨by simp [line]; omega, hW _ ⟨a2, b2, acc ++ [y], dn ++ [x], by simp [e], by simp [e2], ?_, Sub.upR (hpp _ _) hs2 _, by simp⟩⟩
    intro z hz
    rcases List.mem_append.mp hz with hz | hz
    · exact hR z hz
    · simp at hz
      subst hz
      exact hy
  · rintro G' ⟨a', b', acc, dn, e, e2, hR, hs, hg⟩
    simp at e
    exact ⟨hc _, q a' b' acc G' (by rw [e2, e]) hR hs hg⟩
theorem tupleOf_lst {p : Addr} {ds : List D} (hg : G p = some (.lst ds)) (q : Q (.tup ds) G) : tupleOfW [.ref p] G Q := by
  simp [tupleOfW, seqL, hg]
  exact q
theorem exists_nats : ∀ {acc : List D} {m : Nat}, (∀ y ∈ acc, ∃ i : Nat, y = .int i ∧ i < m) → ∃ l : List Nat, acc = l.map (fun (i : Nat) => D.int i) ∧ ∀ i ∈ l, i < m
  | [], m, h => ⟨[], rfl, by simp⟩
  | y :: acc, m, h => by
    obtain ⟨i, hi, h1⟩ := h y (by simp)
    obtain ⟨l, hl, h2⟩ := exists_nats (acc := acc) (m := m) (fun z hz => h z (by simp [hz]))
    exact ⟨i :: l, by rw [hi, hl]; rfl, by simp; exact ⟨h1, h2⟩⟩
theorem exists_rows : ∀ {acc : List D} {R : List Nat → Prop}, (∀ y ∈ acc, ∃ r, y = natsD r ∧ R r) → ∃ l : List (List Nat), acc = l.map natsD ∧ ∀ r ∈ l, R r
  | [], R, h => ⟨[], rfl, by simp⟩
  | y :: acc, R, h => by
    obtain ⟨i, hi, h1⟩ := h y (by simp)
    obtain ⟨l, hl, h2⟩ := exists_rows (acc := acc) (R := R) (fun z hz => h z (by simp [hz]))
    exact ⟨i :: l, by rw [hi, hl]; rfl, by simp; exact ⟨h1, h2⟩⟩
theorem exists_bls : ∀ {acc : List D}, (∀ y ∈ acc, ∃ b, y = D.bl b) → ∃ l : List Bool, acc = l.map D.bl
  | [], h => ⟨[], rfl⟩
  | y :: acc, h => by
    obtain ⟨i, hi⟩ := h y (by simp)
    obtain ⟨l, hl⟩ := exists_bls (acc := acc) (fun z hz => h z (by simp [hz]))
    exact ⟨i :: l, by rw [hi, hl]; rfl⟩
theorem sp_law_table (h : DDraw P) (ht : P.defs f__law_table = some d__law_table) {ps : Addr} {x y most : Nat} (hG : G ps = some (srcC x y)) (h1 : 0 < most) (h2 : most ≤ 200) (q : ∀ (t : Tab) (x' y' : Nat), TabOk t → t.moves.length ≤ most → Q t.toD (up G ps (srcC x' y'))) : wpF P (n + 2) f__law_table [.ref ps, .int most] G Q E := by
  unfold wpF
  rw [ht]
  refine ⟨rfl, ?_⟩
  simp [d__law_table]
  refine sp_take h hG h1 (by omega) ?_
  intro m0 x1 y1 hm0
  try simp []
  have em : (1 : Int) + (m0 : Int) = ((m0 + 1 : Nat) : Int) := by omega
  rw [em]
  simp only [Int.toNat_natCast]
  refine ⟨by omega, ?_⟩
  intro p hp
  have hnp : ∀ {a b : Nat} {G' : Gp} {p : Addr}, Sub (up G ps (srcC a b)) G' → G' p = none → ∀ a' b', up G ps (srcC a' b') p = none := by
    intro a b G' p h0 hp a' b'
    have h1 : up G ps (srcC a b) p = none := h0.none hp
    have ne : p ≠ ps := fun e => by rw [e] at h1; simp at h1
    rw [up_ne ne] at h1 ⊢
    exact h1
  refine lc_src (G := G) (fun d => ∃ r, d = natsD r ∧ r.length = 17 ∧ ∀ i ∈ r, i < m0 + 1) (Sub.refl _) hp (fun _ _ _ => rfl) (fun _ => trivial) (by simp; omega) ?_ ?_
  · intro z hz a b G' acc Q2 hs hg hq
    obtain ⟨i, hi, rfl⟩ := List.mem_map.mp hz
    simp [wipe]
    intro p2 hp2
    have n2 : p ≠ p2 := fun e => by rw [← e, hg] at hp2; cases hp2
    have n0 : p ≠ ps := fun e => by rw [e] at hp; simp at hp
    have gp : G p = none := by rwa [up_ne n0] at hp
    have hs' : Sub (up (up G p (.lst acc)) ps (srcC a b)) G' := by
      intro z c hz
      by_cases e1 : z = p
      · subst e1
        rw [up_ne n0] at hz
        simp at hz
        rw [hg, hz]
      · by_cases e2 : z = ps
        · subst e2
          simp at hz
          rw [hs.cell, ← hz]
        · rw [up_ne e2, up_ne e1] at hz
          exact hs z c (by rw [up_ne e2]; exact hz)
    refine lc_src (G := up G p (.lst acc)) (fun d => ∃ i : Nat, d = .int i ∧ i < m0 + 1) hs' hp2 (fun _ _ _ => rfl) (fun _ => trivial) (by simp) ?_ ?_
    · intro z hz a b G2 acc2 Q3 hs2 hg2 hq2
      obtain ⟨j, hj, rfl⟩ := List.mem_map.mp hz
      try simp []
      rw [show ((m0 : Int) + 1) = ((m0 + 1 : Nat) : Int) from rfl]
      refine sp_take h hs2.cell (by omega) (by omega) ?_
      intro d x2 y2 hd
      try simp []
      have n3 : p2 ≠ ps := fun e => by rw [e, hs'.cell] at hp2; cases hp2
      exact hq2 x2 y2 (.int d) _ ⟨d, rfl, hd⟩ (Sub.up2 hs2) (by rw [up_ne n3]; exact hg2)
    · intro a b acc2 G2 hl hR hs2 hg2
      obtain ⟨r, rfl, hr⟩ := exists_nats hR
      rw [primW_tupleOf]
      refine tupleOf_lst hg2 ?_
      simp at hl
      have hs3 : Sub (up G ps (srcC a b)) G2 := by
        intro z c hz
        refine hs2 z c ?_
        by_cases e2 : z = ps
        · subst e2
          simpa using hz
        · rw [up_ne e2] at hz ⊢
          exact Sub.up gp _ z c hz
      refine hq a b (natsD r) _ ⟨r, rfl, hl, hr⟩ (Sub.del (hnp hs hp2 _ _) hs3) ?_
      have : G2 p = some (.lst acc) := hs2 p _ (by rw [up_ne n0]; simp)
      unfold AT.del
      simp [n2, this]
  · intro a b acc G1 hl hR hs hg
    obtain ⟨rows, rfl, hr⟩ := exists_rows (R := fun r => r.length = 17 ∧ ∀ i ∈ r, i < m0 + 1) hR
    rw [primW_tupleOf]
    refine tupleOf_lst hg ?_
    simp at hl
    have hs1 := Sub.del (hnp (Sub.refl (up G ps (srcC x1 y1))) hp a b) hs
    generalize AT.del G1 p = G2 at hs1
    try simp []
    refine ⟨by omega, ?_⟩
    intro p2 hp2
    refine lc_src (G := G) (fun d => ∃ b, d = .bl b) hs1 hp2 (fun _ _ _ => rfl) (fun _ => trivial) (by simp; omega) ?_ ?_
    · intro z hz a b G3 acc2 Q3 hs2 hg2 hq2
      obtain ⟨j, hj, rfl⟩ := List.mem_map.mp hz
      simp [wipe]
      refine sp_take h hs2.cell (top := 3) (by omega) (by omega) ?_
      intro d x2 y2 hd
      simp [eqO_int]
      have n3 : p2 ≠ ps := fun e => by rw [e, hs1.cell] at hp2; cases hp2
      exact hq2 x2 y2 _ _ ⟨_, rfl⟩ (Sub.up2 hs2) (by rw [up_ne n3]; exact hg2)
    · intro a b acc2 G3 hl2 hR2 hs2 hg2
      obtain ⟨bs, rfl⟩ := exists_bls hR2
      rw [primW_tupleOf]
      refine tupleOf_lst hg2 ?_
      simp at hl2
      try simp []
      have hs3 := Sub.del (hnp hs1 hp2 a b) hs2
      refine ⟨_, hs3, q ⟨rows, bs⟩ a b ⟨?_, by simp; omega, by simp; omega, by simp; omega⟩ (by simp; omega)⟩
      intro r hr2
      have := hr r hr2
      simp only
      rw [hl]
      exact this
end
end AT
end
/-! M8: the search layer by layer, in plain Lean. -/
namespace AT
open PySem (Str Addr)
def CovB (es kn : List (Nd × Nat)) (pend : List (Option Nd × Nat)) (o : Option Nd) (k : Nat) : Prop :=
  (∃ e ∈ es, o = some e.1 ∧ e.2 ≤ k) ∨ (∃ n d, o = some n ∧ (n, d) ∈ kn ∧ d ≤ k) ∨ (∃ x ∈ pend, x.1 = o ∧ x.2 ≤ k)
structure LB (prog : List Stm) (t : Tab) (es kn : List (Nd × Nat)) (pend : List (Option Nd × Nat)) (low : Nat) : Prop where
  pth : ∀ e ∈ es, ∃ p, Pth prog t p (some e.1) e.2
  kn_nodup : (kn.map (·.1)).Nodup
  kn_ok : ∀ x ∈ kn, NdOk prog t x.1
  low1 : ∀ x ∈ kn, x.2 ≤ low
  low2 : ∀ e ∈ es, low ≤ e.2
  low3 : ∀ x ∈ pend, low ≤ x.2 ∧ (x.1 = none → low + 1 ≤ x.2)
  cover : ∀ x ∈ kn, ∀ y ∈ waysM prog x.1.1, CovB es kn pend ((ledM t x.1.2 y.1 x.1.1.b.isSome).map fun s' => (y.2, s')) (x.2 + costM prog x.1.1)
  begin_ : CovB es kn pend (some (W.first, 0)) 0
theorem LB.all {prog : List Stm} {t : Tab} {low : Nat} {es kn : List (Nd × Nat)} {pend : List (Option Nd × Nat)} (h : LB prog t es kn pend low) {p : List Link} {o : Option Nd} {k : Nat} (hp : Pth prog t p o k) :
    (∃ e ∈ es, e.2 ≤ k) ∨ (∃ n d, o = some n ∧ (n, d) ∈ kn ∧ d ≤ k) ∨ (∃ x ∈ pend, x.2 ≤ k) := by
  induction hp with
  | nil =>
    rcases h.begin_ with ⟨e, he, h1, h2⟩ | h1 | ⟨x, hx, _, h2⟩
    · exact .inl ⟨e, he, h2⟩
    · exact .inr (.inl h1)
    · exact .inr (.inr ⟨x, hx, h2⟩)
  | @cons p w s k x hp hx ih =>
    rcases ih with ⟨e, he, h1⟩ | ⟨n, d, e, h1, h2⟩ | ⟨x, hx, h1⟩
    · exact .inl ⟨e, he, by omega⟩
    · cases e
      rcases h.cover _ h1 x hx with ⟨e, he, h3, h4⟩ | ⟨n, d', h3, h4, h5⟩ | ⟨x, hx, h3, h4⟩
      · exact .inl ⟨e, he, by simp only at h4; omega⟩
      · exact .inr (.inl ⟨n, d', h3, h4, by simp only at h5; omega⟩)
      · exact .inr (.inr ⟨x, hx, by simp only at h4; omega⟩)
    · exact .inr (.inr ⟨x, hx, by omega⟩)
theorem LB.empty {prog : List Stm} {t : Tab} {low : Nat} {kn : List (Nd × Nat)} (h : LB prog t [] kn [] low) : ∀ k p, ¬ Pth prog t p none k := by
  intro k p hp
  rcases h.all hp with ⟨e, he, _⟩ | ⟨n, d, e, _⟩ | ⟨x, hx, _⟩
  · simp at he
  · cases e
  · simp at hx
theorem led_none_ne {t : Tab} {s : Nat} {m : Bool} {ls : List Str} (h : ledM t s ls m = none) : ls ≠ [] := by
  rintro rfl
  simp [ledM] at h
theorem ways_none_cost {prog : List Stm} {t : Tab} {w : W} {s : Nat} {m : Bool} {x : Way} (hx : x ∈ waysM prog w) (h : ledM t s x.1 m = none) : costM prog w = 1 := by
  have hne := led_none_ne h
  unfold waysM at hx
  unfold costM
  cases hl : look prog w.pl with
  | none => rw [hl] at hx; simp at hx
  | some e =>
    rw [hl] at hx
    simp only [waysL] at hx
    cases hs : e.st with
    | act c => simp [hs]
    | loop c => rw [hs] at hx; simp at hx; rcases hx with rfl | rfl <;> simp at hne
    | either c d => rw [hs] at hx; simp at hx; rcases hx with rfl | rfl <;> simp at hne
/-- no play breaks the table sooner than a step behind the least that waits -/
theorem LB.least {prog : List Stm} {t : Tab} {low : Nat} {es kn : List (Nd × Nat)} {pend : List (Option Nd × Nat)} (h : LB prog t es kn pend low) : ∀ k' p', Pth prog t p' none k' → low + 1 ≤ k' := by
  intro k p hp
  generalize ho : (none : Option Nd) = o at hp
  cases hp with
  | nil => cases ho
  | @cons p w s k x hp hx =>
    have hn : ledM t s x.1 w.b.isSome = none := by
      cases hl : ledM t s x.1 w.b.isSome with
      | none => rfl
      | some s' => rw [hl] at ho; cases ho
    have hc := ways_none_cost hx hn
    rcases h.all hp with ⟨e, he, h1⟩ | ⟨n, d, e, h1, h2⟩ | ⟨x, hx, h1⟩
    · have := h.low2 e he
      omega
    · cases e
      rcases h.cover _ h1 x hx with ⟨e, he, h3, h4⟩ | ⟨n, d', h3, h4, h5⟩ | ⟨x, hx, h3, h4⟩
      · simp [hn] at h3
      · simp [hn] at h3
      · simp only [hn, Option.map_none] at h3
        have := (h.low3 x hx).2 h3
        simp only at h4
        omega
    · have := (h.low3 x hx).1
      omega
theorem LB.same {prog : List Stm} {t : Tab} {low : Nat} {es es' kn : List (Nd × Nat)} {pend : List (Option Nd × Nat)} (h : LB prog t es kn pend low) (hp : ∀ e, e ∈ es' ↔ e ∈ es) : LB prog t es' kn pend low := by
  have cv : ∀ o k, CovB es kn pend o k → CovB es' kn pend o k := by
    intro o k hc
    rcases hc with ⟨e, he, h1⟩ | h1
    · exact .inl ⟨e, (hp e).mpr he, h1⟩
    · exact .inr h1
  exact ⟨fun e he => h.pth e ((hp e).mp he), h.kn_nodup, h.kn_ok, h.low1, fun e he => h.low2 e ((hp e).mp he), h.low3, fun x hx y hy => cv _ _ (h.cover x hx y hy), cv _ _ h.begin_⟩
theorem LB.up {prog : List Stm} {t : Tab} {low low' : Nat} {es kn : List (Nd × Nat)} (h : LB prog t es kn [] low) (h1 : low ≤ low') (h2 : ∀ e ∈ es, low' ≤ e.2) : LB prog t es kn [] low' :=
  ⟨h.pth, h.kn_nodup, h.kn_ok, fun x hx => Nat.le_trans (h.low1 x hx) h1, h2, by simp, h.cover, h.begin_⟩
theorem LB.old {prog : List Stm} {t : Tab} {low : Nat} {es kn : List (Nd × Nat)} {e : Nd × Nat} {d : Nat} (h : LB prog t (e :: es) kn [] low) (hk : (e.1, d) ∈ kn) : LB prog t es kn [] low := by
  have cv : ∀ o k, CovB (e :: es) kn [] o k → CovB es kn [] o k := by
    intro o k hc
    rcases hc with ⟨e', he, h1, h2⟩ | h1
    · rcases List.mem_cons.mp he with rfl | he
      · refine .inr (.inl ⟨e'.1, d, h1, hk, ?_⟩)
        have a := h.low1 _ hk
        have b := h.low2 e' (by simp)
        simp only at a
        omega
      · exact .inl ⟨e', he, h1, h2⟩
    · exact .inr h1
  exact ⟨fun e he => h.pth e (by simp [he]), h.kn_nodup, h.kn_ok, h.low1, fun e he => h.low2 e (by simp [he]), by simp, fun x hx y hy => cv _ _ (h.cover x hx y hy), cv _ _ h.begin_⟩
theorem LB.new {prog : List Stm} {t : Tab} (g : GoodP prog) (ok : TabOk t) {low : Nat} {es kn : List (Nd × Nat)} {n : Nd} (h : LB prog t ((n, low) :: es) kn [] low) (hk : n ∉ kn.map (·.1)) : LB prog t es (kn ++ [(n, low)]) (pendM prog t n low (waysM prog n.1)) low := by
  have hno : NdOk prog t n := by
    obtain ⟨p, hp⟩ := h.pth (n, low) (by simp)
    exact hp.ok g ok n rfl
  have cv : ∀ o k, CovB ((n, low) :: es) kn [] o k → CovB es (kn ++ [(n, low)]) (pendM prog t n low (waysM prog n.1)) o k := by
    intro o k hc
    rcases hc with ⟨e', he, h1, h2⟩ | ⟨n', d, h1, h2, h3⟩ | ⟨x, hx, _⟩
    · rcases List.mem_cons.mp he with rfl | he
      · exact .inr (.inl ⟨n, low, h1, by simp, h2⟩)
      · exact .inl ⟨e', he, h1, h2⟩
    · exact .inr (.inl ⟨n', d, h1, by simp [h2], h3⟩)
    · simp at hx
  refine ⟨fun e he => h.pth e (by simp [he]), ?_, ?_, ?_, fun e he => h.low2 e (by simp [he]), ?_, ?_, cv _ _ h.begin_⟩
  · rw [List.map_append, List.nodup_append]
    refine ⟨h.kn_nodup, by simp, ?_⟩
    intro a ha b hb e
    simp at hb
    subst hb
    exact hk (e ▸ ha)
  · intro x hx
    rcases List.mem_append.mp hx with hx | hx
    · exact h.kn_ok x hx
    · simp at hx
      subst hx
      exact hno
  · intro x hx
    rcases List.mem_append.mp hx with hx | hx
    · exact h.low1 x hx
    · simp at hx
      subst hx
      simp
  · intro x hx
    obtain ⟨y, hy, rfl⟩ := List.mem_map.mp hx
    refine ⟨by simp, ?_⟩
    intro hn
    have : ledM t n.2 y.1 n.1.b.isSome = none := by
      cases hl : ledM t n.2 y.1 n.1.b.isSome with
      | none => rfl
      | some s' => simp [hl] at hn
    have := ways_none_cost hy this
    simp only
    omega
  · intro x hx y hy
    rcases List.mem_append.mp hx with hx | hx
    · exact cv _ _ (h.cover x hx y hy)
    · simp at hx
      subst hx
      exact .inr (.inr ⟨_, List.mem_map.mpr ⟨y, hy, rfl⟩, rfl, by simp⟩)
theorem LB.push {prog : List Stm} {t : Tab} {low : Nat} {es kn : List (Nd × Nat)} {m : Nd} {k : Nat} {p : List Link} {pend : List (Option Nd × Nat)} (h : LB prog t es kn ((some m, k) :: pend) low) (hp : Pth prog t p (some m) k) : LB prog t ((m, k) :: es) kn pend low := by
  have cv : ∀ o' k', CovB es kn ((some m, k) :: pend) o' k' → CovB ((m, k) :: es) kn pend o' k' := by
    intro o' k' hc
    rcases hc with ⟨e', he, h1, h2⟩ | h1 | ⟨x, hx, h1, h2⟩
    · exact .inl ⟨e', by simp [he], h1, h2⟩
    · exact .inr (.inl h1)
    · rcases List.mem_cons.mp hx with rfl | hx
      · exact .inl ⟨_, List.mem_cons_self, h1.symm, h2⟩
      · exact .inr (.inr ⟨x, hx, h1, h2⟩)
  refine ⟨?_, h.kn_nodup, h.kn_ok, h.low1, ?_, fun x hx => h.low3 x (by simp [hx]), fun x hx y hy => cv _ _ (h.cover x hx y hy), cv _ _ h.begin_⟩
  · intro e he
    rcases List.mem_cons.mp he with rfl | he
    · exact ⟨p, hp⟩
    · exact h.pth e he
  · intro e he
    rcases List.mem_cons.mp he with rfl | he
    · exact (h.low3 (some m, k) (by simp)).1
    · exact h.low2 e he
theorem LB.start {prog : List Stm} {t : Tab} : LB prog t [((W.first, 0), 0)] [] [] 0 :=
  ⟨by simp; exact ⟨_, .nil⟩, by simp, by simp, by simp, by simp, by simp, by simp, .inl ⟨_, List.mem_cons_self, rfl, Nat.le_refl _⟩⟩
theorem LB.kn_len {prog : List Stm} {t : Tab} (g : GoodP prog) (ok : TabOk t) {low : Nat} {es kn : List (Nd × Nat)} {pend : List (Option Nd × Nat)} (h : LB prog t es kn pend low) : kn.length ≤ 524800 := by
  have := nodup_len (m := allNd prog t) h.kn_nodup (fun x hx => by
    obtain ⟨y, hy, rfl⟩ := List.mem_map.mp hx
    exact (h.kn_ok y hy).mem)
  simp at this
  have := allNd_len g ok
  omega
end AT
section
set_option maxHeartbeats 2000000
/-! L6: _law_search. -/
namespace AT
open PySem (Str Addr)
def CSs.at : CSs → Nat → CS
  | .nil, _ => .pass
  | .cons s _, 0 => s
  | .cons _ r, n + 1 => CSs.at r n
def CS.bd : CS → CSs
  | .whl _ b => b
  | .for_ _ _ b => b
  | _ => .nil
/-- the keys of a dict of nodes -/
def ndC (l : List Nd) : List (D × D) := l.map fun x => (ndD x, .bl true)
theorem kindOk_ndC (l : List Nd) (x : Nd) : kindOk (ndC l) (ndD x) = true := by
  have : ∀ y : Nd, D.isT (ndD y) = true := fun y => rfl
  simp [kindOk, D.keyOk, this, ndC]
theorem keyAt_ndC (l : List Nd) (x : Nd) : keyAt (ndC l) (ndD x) = if x ∈ l then some (.bl true) else none := by
  by_cases h : x ∈ l
  · rw [if_pos h]; exact keyAt_in eqB_nd (fun _ => .bl true) h
  · rw [if_neg h]; exact keyAt_out eqB_nd (fun _ => .bl true) h
theorem keyPut_ndC_new {l : List Nd} {x : Nd} (h : x ∉ l) : keyPut (ndC l) (ndD x) (.bl true) = ndC (l ++ [x]) := by
  unfold keyPut
  rw [keyAt_ndC]
  simp [h, ndC]
theorem keyPut_ndC_old {l : List Nd} {x : Nd} (h : x ∈ l) : keyPut (ndC l) (ndD x) (.bl true) = ndC l := by
  unfold keyPut
  rw [keyAt_ndC]
  simp only [h, if_true, Option.isSome_some]
  unfold ndC
  rw [List.map_map]
  apply List.map_congr_left
  intro y hy
  simp only [Function.comp_apply]
  split <;> rfl
theorem ndC_len (l : List Nd) : (ndC l).length = l.length := by simp [ndC]
theorem indexW_lettersL {pl : Addr} {G : Gp} {Q : KE} (hg : G pl = some (.lst lettersD)) {l : Str} (h : l ∈ lettersS) (q : Q (.int (ixL l)) G) : indexW [.ref pl, .str l] G Q := by
  have e : lettersD.findIdx? (fun d => D.eqB d (.str l)) = some (ixL l) := findIdx_strs lettersS l h
  have p : D.pures lettersD = true := pures_strs _
  simp [indexW, items?, hg, p, e]
  exact q
section
variable {P : Pr} {n : Nat} {G : Gp} {Q : KE} {E : KX}
theorem eqO_dct_nil {a b : Addr} {l : List Nd} (ha : G a = some (.dct (ndC l))) (hb : G b = some (.dct [])) : eqO G (.ref a) (.ref b) = some l.isEmpty := by
  have e1 : ((ndC l).all fun p => D.isT p.1) = true := by
    simp [ndC]
    intro x s h
    rfl
  simp only [eqO, ha, hb, e1]
  cases l <;> simp [ndC]
theorem sp_law_search (h : DLaw P) (hl : P.defs f__law_letters = some d__law_letters) (hw : P.defs f__law_ways = some d__law_ways) (hs : P.defs f__law_search = some d__law_search) {prog : List Stm} (g : GoodP prog) {t : Tab} (ok : TabOk t) (q : ∀ r, IsLeast prog t r → Q (onI r) G) : wpF P (n + 9) f__law_search [.tup (Stm.toDs prog), t.toD] G Q E := by
  unfold wpF
  rw [hs]
  refine ⟨rfl, ?_⟩
  simp [d__law_search]
  refine sp_places h g ?_
  intro pd hpd
  try simp []
  refine sp_letters hl ?_
  intro pl hpl
  simp [Tab.toD]
  have npl : pl ≠ pd := fun e => by rw [e] at hpl; simp at hpl
  have gb1 : up (up G pd (.dct (ldC (leads prog)))) pl (.lst lettersD) pd = some (.dct (ldC (leads prog))) := by rw [up_ne (Ne.symm npl)]; simp
  have gb2 : up (up G pd (.dct (ldC (leads prog)))) pl (.lst lettersD) pl = some (.lst lettersD) := by simp
  have gbs : Sub G (up (up G pd (.dct (ldC (leads prog)))) pl (.lst lettersD)) := (Sub.up hpd _).new hpl _
  generalize up (up G pd (.dct (ldC (leads prog)))) pl (.lst lettersD) = Gb at gb1 gb2 gbs
  intro ph0 hph0
  have e1 : putAll [] [(D.tup [D.tup [D.tup [D.int 0], D.non, D.non], D.int 0], D.bl true)] = some (ndC [(W.first, 0)]) := by
    simp [putAll, kindOk, D.keyOk, D.isT, keyPut, keyAt, ndC, ndD, W.toD, W.first, plD, spD]
  rw [e1]
  simp only []
  intro pk hpk
  have gpk : Gb pk = none := (Sub.up hph0 _).none hpk
  have nhk : ph0 ≠ pk := fun e => by rw [← e] at hpk; simp at hpk
  simp only [putAll_nil]
  refine whl_rule (I := fun k σ G' => Sub Gb G' ∧ ∃ (here : List Nd) (kn : List (Nd × Nat)) (c : Nat) (ph : Addr) (x9 x10 x11 x12 x13 x14 x15 x16 x17 x18 : Option D),
    σ = [some (.tup (Stm.toDs prog)), some t.toD, some (.ref pd), some (.ref pl), some (.tup (t.moves.map natsD)), some (.tup (t.bad.map D.bl)), some (.ref ph), some (.ref pk), some (.int c), x9, x10, x11, x12, x13, x14, x15, x16, x17, x18] ∧
    G' ph = some (.dct (ndC here)) ∧ G' pk = some (.dct (ndC (kn.map (·.1)))) ∧ here.Nodup ∧ LB prog t (here.map fun x => (x, c)) kn [] c ∧ k = 2 * (524800 - kn.length) + (if here = [] then 0 else 1)) ?_ (k := 2 * 524800 + 1)
    ⟨?_, [(W.first, 0)], [], 0, ph0, none, none, none, none, none, none, none, none, none, none, by simp [Tab.toD], by rw [up_ne nhk]; simp, by simp [ndC], by simp, LB.start, by simp⟩
  · rintro k σ G' ⟨hsub, here, kn, c, ph, x9, x10, x11, x12, x13, x14, x15, x16, x17, x18, rfl, hgh, hgk, hnd, hlb, hk⟩ W1 hW1
    simp [putAll_nil]
    intro p0 hp0
    have n0 : ph ≠ p0 := fun e => by rw [← e, hgh] at hp0; cases hp0
    have n0k : pk ≠ p0 := fun e => by rw [← e, hgk] at hp0; cases hp0
    rw [eqO_dct_nil (a := ph) (l := here) (by rw [up_ne n0]; exact hgh) (by simp)]
    have hsub0 := hsub.new hp0 (.dct [])
    cases hhe : here with
    | nil =>
      subst hhe
      try simp []
      exact ⟨G, gbs.trans hsub0, q none (hlb.empty)⟩
    | cons h0 hs0 =>
      rw [← hhe]
      have hne : here ≠ [] := by rw [hhe]; simp
      have hie : here.isEmpty = false := by rw [hhe]; rfl
      simp [hie]
      intro pz hpz
      have nz1 : ph ≠ pz := fun e => by rw [← e, up_ne n0, hgh] at hpz; cases hpz
      have nz2 : pk ≠ pz := fun e => by rw [← e, up_ne n0k, hgk] at hpz; cases hpz
      have gpz : Gb pz = none := hsub0.none hpz
      have hsub1 := hsub0.new hpz (.dct [])
      try simp []
      simp only [listOfW, up_ne nz1, up_ne n0, hgh]
      intro pw hpw
      have nw2 : pk ≠ pw := fun e => by rw [← e, up_ne nz2, up_ne n0k, hgk] at hpw; cases hpw
      have nw3 : pz ≠ pw := fun e => by rw [← e] at hpw; simp at hpw
      have gpw : Gb pw = none := hsub1.none hpw
      have hsub2 := hsub1.new hpw (.lst ((ndC here).map (·.1)))
      have hkl := hlb.kn_len g ok
      have hhl : here.length ≤ 524800 := by
        have := nodup_len (m := allNd prog t) hnd (fun x hx => by
          obtain ⟨p, hp⟩ := hlb.pth (x, c) (List.mem_map.mpr ⟨x, hx, rfl⟩)
          exact ((hp.ok g ok) x rfl).mem)
        have := allNd_len g ok
        omega
      refine whl_rule (I := fun k2 σ G' => Sub Gb G' ∧ ∃ (wt later : List Nd) (kn' : List (Nd × Nat)) (x11 x12 x13 x14 x15 x16 x17 x18 : Option D),
        σ = [some (.tup (Stm.toDs prog)), some t.toD, some (.ref pd), some (.ref pl), some (.tup (t.moves.map natsD)), some (.tup (t.bad.map D.bl)), some (.ref ph), some (.ref pk), some (.int ((c : Int) + 1)), some (.ref pw), some (.ref pz), x11, x12, x13, x14, x15, x16, x17, x18] ∧
        G' pw = some (.lst (wt.map ndD)) ∧ G' pz = some (.dct (ndC later)) ∧ G' pk = some (.dct (ndC (kn'.map (·.1)))) ∧ later.Nodup ∧ LB prog t ((wt.map fun x => (x, c)) ++ later.map fun x => (x, c + 1)) kn' [] c ∧
        wt.length + later.length ≤ 524801 + 3 * kn'.length ∧ kn.length ≤ kn'.length ∧ (kn.length = kn'.length → later = []) ∧ k2 = 4 * (524800 - kn'.length) + wt.length) ?_ (k := 4 * (524800 - kn.length) + here.length)
        ⟨hsub2, here, [], kn, _, _, _, _, _, _, _, _, rfl, by simp [ndC], by rw [up_ne nw3]; simp [ndC], by rw [up_ne nw2, up_ne nz2, up_ne n0k]; exact hgk, by simp, by simpa using hlb, by simp; omega, Nat.le_refl _, fun _ => rfl, rfl⟩
      rintro k2 σ G2 ⟨hs2, wt, later, kn', x11, x12, x13, x14, x15, x16, x17, x18, rfl, gw, gz, gk, hndl, hlb2, hlen, hkk, hkz, hk2⟩ W2 hW2
      try simp []
      intro p1 hp1
      have m1 : pw ≠ p1 := fun e => by rw [← e, gw] at hp1; cases hp1
      have m2 : pz ≠ p1 := fun e => by rw [← e, gz] at hp1; cases hp1
      have m3 : pk ≠ p1 := fun e => by rw [← e, gk] at hp1; cases hp1
      have hs3 := hs2.new hp1 (.lst [])
      simp only [eqO, up_same, up_ne m1, gw]
      have hkl2 := hlb2.kn_len g ok
      rcases List.eq_nil_or_concat wt with rfl | ⟨wt', nd, rfl⟩
      · simp [D.eqBs]
        refine hW1 (2 * (524800 - kn'.length) + (if later = [] then 0 else 1)) _ _ ?_ ⟨hs3, later, kn', c + 1, pz, _, _, _, _, _, _, _, _, _, _, rfl, by rw [up_ne m2]; exact gz, by rw [up_ne m3]; exact gk, hndl, ?_, rfl⟩
        · rw [hk, if_neg hne]
          by_cases e : kn.length = kn'.length
          · rw [hkz e]
            simp
            omega
          · split <;> omega
        · refine LB.up (low := c) ?_ (by omega) (fun e he => by obtain ⟨x, hx, rfl⟩ := List.mem_map.mp he; simp)
          simpa using hlb2
      · rw [List.concat_eq_append] at gw hlb2 hlen hk2 ⊢
        have hnil : ¬ (List.map ndD (wt' ++ [nd])).length = ([] : List D).length := by simp
        rw [if_neg hnil]
        simp [up_ne m1, gw]
        simp only [pop0W, up_ne m1, gw]
        have el : (List.map ndD (wt' ++ [nd])).getLast? = some (ndD nd) := by simp
        have ed : (List.map ndD (wt' ++ [nd])).dropLast = wt'.map ndD := by simp
        rw [el, ed]
        simp only []
        have nkw : pk ≠ pw := nw2
        have gk3 : up (up G2 p1 (.lst [])) pw (.lst (wt'.map ndD)) pk = some (.dct (ndC (kn'.map (·.1)))) := by rw [up_ne nw2, up_ne m3]; exact gk
        have gz3 : up (up G2 p1 (.lst [])) pw (.lst (wt'.map ndD)) pz = some (.dct (ndC later)) := by rw [up_ne nw3, up_ne m2]; exact gz
        have hs4 := Sub.upR gpw hs3 (.lst (wt'.map ndD))
        have gw3 : up (up G2 p1 (.lst [])) pw (.lst (wt'.map ndD)) pw = some (.lst (wt'.map ndD)) := by simp
        generalize up (up G2 p1 (.lst [])) pw (.lst (wt'.map ndD)) = G3 at gk3 gz3 hs4 gw3
        try simp []
        have en : D.tup [nd.1.toD, D.int nd.2] = ndD nd := rfl
        rw [en]
        simp [gk3, kindOk_ndC, keyAt_ndC]
        have hlb3 : LB prog t ((nd, c) :: ((wt'.map fun x => (x, c)) ++ later.map fun x => (x, c + 1))) kn' [] c := by
          refine hlb2.same ?_
          intro e
          simp [or_assoc, or_comm, or_left_comm]
        by_cases hmem : nd ∈ kn'.map (·.1)
        · have hm2 : ∃ x, (nd, x) ∈ kn' := by simpa using hmem
          obtain ⟨d, hd⟩ := hm2
          have hk3 : keyAt (ndC (kn'.map (·.1))) (ndD nd) = some (.bl true) := by rw [keyAt_ndC, if_pos hmem]
          simp only [hk3, Option.isSome_some, if_true]
          refine hW2 (4 * (524800 - kn'.length) + wt'.length) _ _ (by rw [hk2]; simp) ⟨hs4, wt', later, kn', _, _, _, _, _, _, _, _, rfl, gw3, gz3, gk3, hndl, hlb3.old hd, by simp at hlen; omega, hkk, hkz, rfl⟩
        · have hk3 : keyAt (ndC (kn'.map (·.1))) (ndD nd) = none := by rw [keyAt_ndC, if_neg hmem]
          simp only [hk3, Option.isSome_none, Bool.false_eq_true, if_false]
          have hnew := hlb3.new g ok hmem
          have hkn := hnew.kn_len g ok
          simp at hkn
          refine ⟨by simp [ndC_len]; omega, ?_⟩
          obtain ⟨pth, hpth⟩ := hlb3.pth (nd, c) (by simp)
          have hno := (hpth.ok g ok) nd rfl
          rw [keyPut_ndC_new hmem]
          have ekn : kn'.map (·.1) ++ [nd] = (kn' ++ [(nd, c)]).map (·.1) := by simp
          rw [ekn]
          have hs5 := Sub.upR gpk hs4 (.dct (ndC ((kn' ++ [(nd, c)]).map (·.1))))
          have gw5 : up G3 pk (.dct (ndC ((kn' ++ [(nd, c)]).map (·.1)))) pw = some (.lst (wt'.map ndD)) := by rw [up_ne (Ne.symm nw2)]; exact gw3
          have gz5 : up G3 pk (.dct (ndC ((kn' ++ [(nd, c)]).map (·.1)))) pz = some (.dct (ndC later)) := by rw [up_ne (Ne.symm nz2)]; exact gz3
          have gk5 : up G3 pk (.dct (ndC ((kn' ++ [(nd, c)]).map (·.1)))) pk = some (.dct (ndC ((kn' ++ [(nd, c)]).map (·.1)))) := by simp
          generalize up G3 pk (.dct (ndC ((kn' ++ [(nd, c)]).map (·.1)))) = G5 at hs5 gw5 gz5 gk5
          have gd5 := hs5 pd _ gb1
          have gl5 := hs5 pl _ gb2
          have hways := ways_ok g hno.w
          have key : ∀ (bs : Bool), bs = decide (costM prog nd.1 = 1) → ∀ (K : KS), (∀ σ G, W2 σ G → K.nx σ G) → (∀ v G, (∃ G'', Sub G'' G ∧ Q v G'') → K.rt v G) → ∀ (y14 y15 y16 y17 y18 : Option D) (pv : Addr) (G6 : Gp), Sub G5 G6 → G5 pv = none → G6 pv = some (.lst ((waysM prog nd.1).map wayD)) →
              G6 pw = G5 pw → G6 pz = G5 pz → G6 pk = G5 pk →
              forS (bdG P.cls (wpF P (n + 8)) none (CT.tup (CTs.cons (CT.nm 14) (CTs.cons (CT.nm 15) CTs.nil))) fun x G' => ∃ G'', Sub G'' G' ∧ E x G'')
                (bdS P.cls (wpF P (n + 8)) (CS.bd (CSs.at (CS.bd (CSs.at (CS.bd (CSs.at d__law_search.body 2)) 2)) 4)) (fun x G' => ∃ G'', Sub G'' G' ∧ E x G'') none)
                (fun G2 => G2 pv = some (.lst ((waysM prog nd.1).map wayD))) K ((waysM prog nd.1).map wayD)
                [some (.tup (Stm.toDs prog)), some t.toD, some (.ref pd), some (.ref pl), some (.tup (t.moves.map natsD)), some (.tup (t.bad.map D.bl)), some (.ref ph), some (.ref pk), some (.int ((c : Int) + 1)), some (.ref pw), some (.ref pz), some (.bl bs), some nd.1.toD, some (.int nd.2), y14, y15, y16, y17, y18] G6 := by
            intro bs hbs K hKn hKr y14 y15 y16 y17 y18 pv G6 hs6 hpv hgv e6w e6z e6k
            have nvw : pv ≠ pw := fun e => by rw [e, gw5] at hpv; cases hpv
            have nvz : pv ≠ pz := fun e => by rw [e, gz5] at hpv; cases hpv
            refine for_rule (I := fun xs σ G7 => Sub Gb G7 ∧ ∃ (ws : List Way) (wt2 later2 : List Nd) (y14 y15 y16 y17 y18 : Option D), xs = ws.map wayD ∧ (∀ x ∈ ws, x ∈ waysM prog nd.1) ∧
              σ = [some (.tup (Stm.toDs prog)), some t.toD, some (.ref pd), some (.ref pl), some (.tup (t.moves.map natsD)), some (.tup (t.bad.map D.bl)), some (.ref ph), some (.ref pk), some (.int ((c : Int) + 1)), some (.ref pw), some (.ref pz), some (.bl bs), some nd.1.toD, some (.int nd.2), y14, y15, y16, y17, y18] ∧
              G7 pv = some (.lst ((waysM prog nd.1).map wayD)) ∧ G7 pw = some (.lst (wt2.map ndD)) ∧ G7 pz = some (.dct (ndC later2)) ∧ G7 pk = some (.dct (ndC ((kn' ++ [(nd, c)]).map (·.1)))) ∧ later2.Nodup ∧
              LB prog t ((wt2.map fun x => (x, c)) ++ later2.map fun x => (x, c + 1)) (kn' ++ [(nd, c)]) (pendM prog t nd c ws) c ∧ wt2.length + later2.length + ws.length ≤ wt'.length + later.length + 3 ∧ wt2.length + ws.length ≤ wt'.length + 3) ?_ ?_
              ⟨hs5.trans hs6, waysM prog nd.1, wt', later, _, _, _, _, _, rfl, fun x hx => hx, rfl, hgv, by rw [e6w]; exact gw5, by rw [e6z]; exact gz5, by rw [e6k]; exact gk5, hndl, hnew, by have := hways.2; omega, by have := hways.2; omega⟩
            · rintro x xs σ G7 ⟨hs7, ws, wt2, later2, y14, y15, y16, y17, y18, ex, hin, rfl, gv7, gw7, gz7, gk7, hnd7, hlb7, hlen7, hlen8⟩ W3 hW3
              refine ⟨gv7, ?_⟩
              cases ws with
              | nil => simp at ex
              | cons y ws =>
                simp only [List.map_cons, List.cons.injEq] at ex
                obtain ⟨rfl, rfl⟩ := ex
                have hy := hin y (by simp)
                have ly := hways.1 y hy
                simp [d__law_search, CSs.at, CS.bd, ↓wpG_way, ltD]
                have gl7 := hs7 pl _ gb2
                refine for_rule (I := fun xs σ G8 => G8 = G7 ∧ ∃ (ls : List Str) (now : Nat) (m : Bool) (y16 : Option D), xs = ls.map D.str ∧ now < t.moves.length ∧ (∀ l ∈ ls, l ∈ lettersS) ∧ ledM t now ls m = ledM t nd.2 y.1 nd.1.b.isSome ∧
                  σ = [some (.tup (Stm.toDs prog)), some t.toD, some (.ref pd), some (.ref pl), some (.tup (t.moves.map natsD)), some (.tup (t.bad.map D.bl)), some (.ref ph), some (.ref pk), some (.int ((c : Int) + 1)), some (.ref pw), some (.ref pz), some (.bl bs), some nd.1.toD, some (.int nd.2), some (.tup (y.1.map D.str)), some y.2.toD, y16, some (.bl m), some (.int now)]) ?_ ?_
                  ⟨rfl, y.1, nd.2, nd.1.b.isSome, _, rfl, hno.s, ly.2, rfl, rfl⟩
                · rintro x xs σ G8 ⟨rfl, ls, now, m, y16, ex2, hnow, hlls, hled, rfl⟩ W4 hW4
                  refine ⟨trivial, ?_⟩
                  cases ls with
                  | nil => simp at ex2
                  | cons lt ls =>
                    simp only [List.map_cons, List.cons.injEq] at ex2
                    obtain ⟨rfl, rfl⟩ := ex2
                    have hlt := hlls lt (by simp)
                    have f1 := List.getElem?_eq_getElem hnow
                    have f2 := (ok.rows t.moves[now] (List.getElem_mem hnow)).1
                    have f3 := ixL_lt hlt
                    have f4 : t.moves[now][ixL lt]? = some (movedT t now lt) := by
                      have : ixL lt < t.moves[now].length := by omega
                      unfold movedT
                      simp [List.getD, f1, List.getElem?_eq_getElem this]
                    have f5 := movedT_lt ok hnow hlt
                    have hb : t.bad[movedT t now lt]? = some (badT t (movedT t now lt)) := by
                      have h5 : movedT t now lt < t.bad.length := by rw [ok.bad]; exact f5
                      simp [badT, List.getD, List.getElem?_eq_getElem h5]
                    simp only [ledM] at hled
                    simp [f1, gl7, natsD]
                    refine indexW_lettersL gl7 hlt ?_
                    have nx : ∀ m2, ¬ ((m2 && badT t (movedT t now lt)) = true) → m2 = (m || decide (lt = ("y.new" : Str))) → W4 [some (.tup (Stm.toDs prog)), some t.toD, some (.ref pd), some (.ref pl), some (.tup (t.moves.map natsD)), some (.tup (t.bad.map D.bl)), some (.ref ph), some (.ref pk), some (.int ((c : Int) + 1)), some (.ref pw), some (.ref pz), some (.bl bs), some nd.1.toD, some (.int nd.2), some (.tup (y.1.map D.str)), some y.2.toD, some (.str lt), some (.bl m2), some (.int (movedT t now lt))] G8 := by
                      intro m2 hm e
                      subst e
                      rw [if_neg hm] at hled
                      exact hW4 _ _ ⟨rfl, ls, movedT t now lt, _, _, rfl, f5, fun x hx => hlls x (by simp [hx]), hled, rfl⟩
                    have rt : ∀ m2, ((m2 && badT t (movedT t now lt)) = true) → m2 = (m || decide (lt = ("y.new" : Str))) → K.rt (.int ((c : Int) + 1)) G8 := by
                      intro m2 hm e
                      subst e
                      rw [if_pos hm] at hled
                      have hc1 := ways_none_cost hy hled.symm
                      have hp2 := Pth.cons hpth hy
                      rw [← hled, hc1] at hp2
                      exact hKr _ _ ⟨G, gbs.trans hs7, q (some (c + 1)) ⟨⟨_, hp2⟩, hlb7.least⟩⟩
                    cases hm : m with
                    | true =>
                      simp [hm] at nx rt
                      simp [f4, hb]
                      cases hbb : badT t (movedT t now lt) with
                      | true => simp []; exact rt hbb
                      | false => simp []; exact nx hbb
                    | false =>
                      simp [hm] at nx rt
                      by_cases hn : lt = ("y.new" : Str)
                      · have hn2 : (lt == ("y.new" : Str)) = true := by simp [hn]
                        simp [hn] at nx rt
                        simp [f4, hb, eqO_str, hn2]
                        rw [hn] at hb f4 ⊢
                        cases hbb : badT t (movedT t now ("y.new" : Str)) with
                        | true => simp []; exact rt hbb
                        | false => simp []; exact nx hbb
                      · have hn2 : (lt == ("y.new" : Str)) = false := by simpa using hn
                        simp [hn] at nx rt
                        simp [f4, hb, eqO_str, hn2]
                        exact nx
                · rintro σ G8 ⟨rfl, ls, now, m, y16, ex2, hnow, hlls, hled, rfl⟩
                  refine ⟨trivial, ?_⟩
                  cases ls with
                  | cons l ls => simp at ex2
                  | nil =>
                    simp only [ledM] at hled
                    have en2 : D.tup [y.2.toD, D.int (now : Nat)] = ndD (y.2, now) := rfl
                    have hp2 := Pth.cons hpth hy
                    rw [← hled] at hp2
                    simp only [Option.map_some] at hp2
                    have hlb8 := hlb7
                    simp only [pendM, List.map_cons, ← hled, Option.map_some] at hlb8
                    have hlb9 := hlb8.push hp2
                    simp at hlen7 hlen8 hlen
                    cases hbs2 : bs with
                    | true =>
                      have hc1 : costM prog nd.1 = 1 := by rw [hbs2] at hbs; simpa using hbs.symm
                      simp [en2, gz7, kindOk_ndC, ndC_len]
                      have hkz : later2.length < 1000000 := by
                        have := nodup_len (m := allNd prog t) hnd7 (fun x hx => by
                          obtain ⟨p, hp⟩ := hlb7.pth (x, c + 1) (List.mem_append.mpr (.inr (List.mem_map.mpr ⟨x, hx, rfl⟩)))
                          exact ((hp.ok g ok) x rfl).mem)
                        have := allNd_len g ok
                        omega
                      refine ⟨hkz, ?_⟩
                      by_cases hml : (y.2, now) ∈ later2
                      · rw [keyPut_ndC_old hml]
                        refine hW3 _ _ ⟨Sub.upR gpz hs7 _, ws, wt2, later2, _, _, _, _, _, rfl, fun x hx => hin x (by simp [hx]), (by rw [hbs2]), by rw [up_ne nvz]; exact gv7, by rw [up_ne (Ne.symm nw3)]; exact gw7, by simp, by rw [up_ne nz2]; exact gk7, hnd7, ?_, by omega, by omega⟩
                        refine hlb9.same ?_
                        intro e
                        simp only [hc1, List.mem_cons, List.mem_append]
                        constructor
                        · intro h; exact .inr h
                        · rintro (rfl | h)
                          · exact .inr (List.mem_map.mpr ⟨_, hml, rfl⟩)
                          · exact h
                      · rw [keyPut_ndC_new hml]
                        refine hW3 _ _ ⟨Sub.upR gpz hs7 _, ws, wt2, later2 ++ [(y.2, now)], _, _, _, _, _, rfl, fun x hx => hin x (by simp [hx]), (by rw [hbs2]), by rw [up_ne nvz]; exact gv7, by rw [up_ne (Ne.symm nw3)]; exact gw7, by simp, by rw [up_ne nz2]; exact gk7, ?_, ?_, by simp; omega, by omega⟩
                        · rw [List.nodup_append]
                          refine ⟨hnd7, by simp, ?_⟩
                          intro a ha b hb e
                          simp at hb
                          rw [e, hb] at ha
                          exact hml ha
                        · refine hlb9.same ?_
                          intro e
                          simp only [hc1, List.mem_cons, List.mem_append, List.map_append, List.map_cons, List.map_nil, List.not_mem_nil, or_false]
                          constructor
                          · rintro (h | h | h)
                            · exact .inr (.inl h)
                            · exact .inr (.inr h)
                            · exact .inl h
                          · rintro (h | h | h)
                            · exact .inr (.inr h)
                            · exact .inl h
                            · exact .inr (.inl h)
                    | false =>
                      have hc0 : costM prog nd.1 = 0 := by
                        rw [hbs2] at hbs
                        have h1 : ¬ costM prog nd.1 = 1 := by simpa using hbs.symm
                        unfold costM at h1 ⊢
                        cases hl : look prog nd.1.pl with
                        | none => rfl
                        | some e =>
                          rw [hl] at h1
                          cases hs : e.st <;> simp [hs] at h1 ⊢
                      simp [en2, gw7]
                      refine ⟨by omega, ?_⟩
                      refine hW3 _ _ ⟨Sub.upR gpw hs7 _, ws, wt2 ++ [(y.2, now)], later2, _, _, _, _, _, rfl, fun x hx => hin x (by simp [hx]), (by rw [hbs2]), by rw [up_ne nvw]; exact gv7, by simp, by rw [up_ne nw3]; exact gz7, by rw [up_ne nw2]; exact gk7, hnd7, ?_, by simp; omega, by simp; omega⟩
                      refine hlb9.same ?_
                      intro e
                      simp only [hc0, Nat.add_zero, List.mem_cons, List.mem_append, List.map_append, List.map_cons, List.map_nil, List.not_mem_nil, or_false]
                      constructor
                      · rintro ((h | h) | h)
                        · exact .inr (.inl h)
                        · exact .inl h
                        · exact .inr (.inr h)
                      · rintro (h | h | h)
                        · exact .inl (.inr h)
                        · exact .inl (.inl h)
                        · exact .inr h
            · rintro σ G7 ⟨hs7, ws, wt2, later2, y14, y15, y16, y17, y18, ex, hin, rfl, gv7, gw7, gz7, gk7, hnd7, hlb7, hlen7, hlen8⟩
              cases ws with
              | cons y ws => simp at ex
              | nil =>
                refine ⟨gv7, hKn _ _ ?_⟩
                simp at hlen7 hlen8 hlen
                refine hW2 (4 * (524800 - (kn' ++ [(nd, c)]).length) + wt2.length) _ _ (by rw [hk2]; simp; omega) ⟨hs7, wt2, later2, kn' ++ [(nd, c)], _, _, _, _, _, _, _, _, rfl, gw7, gz7, gk7, hnd7, hlb7, by simp; omega, by simp; omega, by simp; omega, rfl⟩
          have fin : ∀ (bs : Bool), bs = decide (costM prog nd.1 = 1) → ∀ (K : KS), (∀ σ G, W2 σ G → K.nx σ G) → (∀ v G, (∃ G'', Sub G'' G ∧ Q v G'') → K.rt v G) → ∀ (y14 y15 y16 y17 y18 : Option D) (pv : Addr), G5 pv = none →
              forS (bdG P.cls (wpF P (n + 8)) none (CT.tup (CTs.cons (CT.nm 14) (CTs.cons (CT.nm 15) CTs.nil))) fun x G' => ∃ G'', Sub G'' G' ∧ E x G'')
                (bdS P.cls (wpF P (n + 8)) (CS.bd (CSs.at (CS.bd (CSs.at (CS.bd (CSs.at d__law_search.body 2)) 2)) 4)) (fun x G' => ∃ G'', Sub G'' G' ∧ E x G'') none)
                (fun G2 => G2 pv = some (.lst ((waysM prog nd.1).map wayD))) K ((waysM prog nd.1).map wayD)
                [some (.tup (Stm.toDs prog)), some t.toD, some (.ref pd), some (.ref pl), some (.tup (t.moves.map natsD)), some (.tup (t.bad.map D.bl)), some (.ref ph), some (.ref pk), some (.int ((c : Int) + 1)), some (.ref pw), some (.ref pz), some (.bl bs), some nd.1.toD, some (.int nd.2), y14, y15, y16, y17, y18] (up G5 pv (.lst ((waysM prog nd.1).map wayD))) := by
            intro bs hbs K hKn hKr y14 y15 y16 y17 y18 pv hpv
            have v1 : pw ≠ pv := fun e => by rw [← e, gw5] at hpv; cases hpv
            have v2 : pz ≠ pv := fun e => by rw [← e, gz5] at hpv; cases hpv
            have v3 : pk ≠ pv := fun e => by rw [← e, gk5] at hpv; cases hpv
            exact key bs hbs K hKn hKr y14 y15 y16 y17 y18 pv _ (Sub.up hpv _) hpv (by simp) (up_ne v1) (up_ne v2) (up_ne v3)
          cases hlk : look prog nd.1.pl with
          | none =>
            simp [gd5, kindOk_ldC, keyAt_ldC, hlk]
            rw [show keyAt (ldC (leads prog)) (plD nd.1.pl) = none from by rw [keyAt_ldC, hlk]; rfl]
            rw [show n + 8 = (n + 7) + 1 by omega]
            refine sp_law_ways hw g hno.w gd5 ?_
            intro pv hpv
            try simp only [up_same]
            refine fin false (by simp [costM, hlk]) _ ?_ ?_ _ _ _ _ _ pv hpv
            · exact fun σ G h => h
            · exact fun v G h => h
          | some e =>
            cases hst : e.st with
            | act ac =>
              have e5 : inO G5 (.str (wordM ac)) (.tup [.str "loop", .str "either"]) = some false := by
                rw [inO_str_tup _ _ _ (by simp)]
                cases ac <;> simp [wordM]
              simp [gd5, kindOk_ldC, keyAt_ldC, hlk, hst, Stm.toD, toDs_eq, e5]
              rw [show n + 8 = (n + 7) + 1 by omega]
              refine sp_law_ways hw g hno.w gd5 ?_
              intro pv hpv
              try simp only [up_same]
              refine fin true (by simp [costM, hlk, hst]) _ ?_ ?_ _ _ _ _ _ pv hpv
              · exact fun σ G h => h
              · exact fun v G h => h
            | loop b =>
              simp [gd5, kindOk_ldC, keyAt_ldC, hlk, hst, Stm.toD, inO_str_tup]
              rw [show n + 8 = (n + 7) + 1 by omega]
              refine sp_law_ways hw g hno.w gd5 ?_
              intro pv hpv
              try simp only [up_same]
              refine fin false (by simp [costM, hlk, hst]) _ ?_ ?_ _ _ _ _ _ pv hpv
              · exact fun σ G h => h
              · exact fun v G h => h
            | either b1 b2 =>
              simp [gd5, kindOk_ldC, keyAt_ldC, hlk, hst, Stm.toD, inO_str_tup]
              rw [show n + 8 = (n + 7) + 1 by omega]
              refine sp_law_ways hw g hno.w gd5 ?_
              intro pv hpv
              try simp only [up_same]
              refine fin false (by simp [costM, hlk, hst]) _ ?_ ?_ _ _ _ _ _ pv hpv
              · exact fun σ G h => h
              · exact fun v G h => h
  · refine (Sub.upR gpk (Sub.up hph0 _) _)
end
end AT
end
section
set_option maxHeartbeats 2000000
/-! L7: _law_many. -/
namespace AT
open PySem (Str Addr)
section
variable {P : Pr}
theorem sumOf_ints {G : Gp} {Q : KE} {p : Addr} {l : List Nat} (hg : G p = some (.lst (l.map fun (i : Nat) => D.int i))) (q : Q (.int (l.sum : Nat)) G) : sumOfW [.ref p] G Q := by
  have e : ∀ l : List Nat, ints? (l.map fun (i : Nat) => D.int i) = some (l.map fun (i : Nat) => (i : Int)) := by
    intro l
    induction l with
    | nil => rfl
    | cons i l ih => simp [ints?, ih]
  have e2 : ∀ l : List Nat, (l.map fun (i : Nat) => (i : Int)).sum = ((l.sum : Nat) : Int) := by
    intro l
    induction l with
    | nil => rfl
    | cons i l ih => simp [ih]
  simp only [sumOfW, seqL, hg, Option.bind_some, e, e2]
  exact q
theorem sp_law_many (h : P.defs f__law_many = some d__law_many) : ∀ (k : Nat) {n : Nat} {b : List Stm} {G : Gp} {Q : KE} {E : KX}, Stm.deps b ≤ k → Q (.int (Stm.cnts b)) G → wpF P (n + k) f__law_many [.tup (Stm.toDs b)] G Q E := by
  intro k
  induction k with
  | zero => intro n b G Q E hk; have := Stm.deps_pos b; omega
  | succ k ih =>
    intro n b G Q E hk q
    rw [show n + (k + 1) = (n + k) + 1 by omega]
    unfold wpF
    rw [h]
    refine ⟨rfl, ?_⟩
    simp [d__law_many]
    refine for_rule (I := fun xs σ G' => ∃ (pre ss : List Stm) (x2 x3 x4 : Option D), b = pre ++ ss ∧ xs = Stm.toDs ss ∧ Sub G G' ∧ σ = [some (.tup (Stm.toDs b)), some (.int (Stm.cnts pre)), x2, x3, x4]) ?_ ?_ ⟨[], b, _, _, _, rfl, rfl, Sub.refl _, rfl⟩
    · rintro x xs σ G' ⟨pre, ss, x2, x3, x4, eb, ex, hs, rfl⟩ W hW
      refine ⟨trivial, ?_⟩
      cases ss with
      | nil => simp [Stm.toDs] at ex
      | cons s ss =>
        simp only [Stm.toDs, List.cons.injEq] at ex
        obtain ⟨rfl, rfl⟩ := ex
        have hsd : s.dep + 1 ≤ Stm.deps b := by rw [eb, Stm.deps_app]; simp [Stm.deps]; omega
        have fin : ∀ (G2 : Gp) (x2 x3 x4 : Option D) (m : Nat), m = s.cnt → Sub G G2 → W [some (.tup (Stm.toDs b)), some (.int ((Stm.cnts pre : Int) + m)), x2, x3, x4] G2 := by
          intro G2 x2 x3 x4 m hm hs2
          subst hm
          refine hW _ _ ⟨pre ++ [s], ss, x2, x3, x4, by simp [eb], rfl, hs2, ?_⟩
          rw [Stm.cnts_app]
          simp [Stm.cnts]
        cases s with
        | act c =>
          have e5 : ∀ G, inO G (.str (wordM c)) (.tup [.str "loop", .str "either"]) = some false := fun G => by
            rw [inO_str_tup _ _ _ (by simp)]
            cases c <;> simp [wordM]
          simp [Stm.toD, toDs_eq, e5]
          intro p hp
          simp [↓LcF_nil]
          try rw [primW_sumOf]
          refine sumOf_ints (l := []) (by simp) ?_
          try simp []
          have := fin (del (up G' p (.lst [])) p) (some (.tup c.toDs)) (some (.tup [])) x4 1 (by simp [Stm.cnt]) (Sub.del (hs.none hp) (hs.new hp _))
          simpa using this
        | loop c =>
          simp only [Stm.dep] at hsd
          simp [Stm.toD, inO_str_tup]
          intro p hp
          simp [↓LcF_cons, ↓LcF_nil, wipe]
          refine ih (by omega) ?_
          try simp [↓LcF_cons, ↓LcF_nil, wipe]
          try rw [primW_sumOf]
          refine sumOf_ints (l := [Stm.cnts c]) (by simp) ?_
          try simp []
          have := fin (del (up G' p (.lst [.int (Stm.cnts c)])) p) (some (.tup [.str "loop", .tup (Stm.toDs c)])) (some (.tup [.tup (Stm.toDs c)])) x4 (1 + Stm.cnts c) (by simp [Stm.cnt]) (Sub.del (hs.none hp) (hs.new hp _))
          simpa [Int.add_assoc] using this
        | either c d =>
          simp only [Stm.dep] at hsd
          simp [Stm.toD, inO_str_tup]
          intro p hp
          simp [↓LcF_cons, ↓LcF_nil, wipe]
          refine ih (by omega) ?_
          try simp [↓LcF_cons, ↓LcF_nil, wipe]
          refine ih (by omega) ?_
          try simp [↓LcF_cons, ↓LcF_nil, wipe]
          try rw [primW_sumOf]
          refine sumOf_ints (l := [Stm.cnts c, Stm.cnts d]) (by simp) ?_
          try simp []
          have := fin (del (up G' p (.lst [.int (Stm.cnts c), .int (Stm.cnts d)])) p) (some (.tup [.str "either", .tup (Stm.toDs c), .tup (Stm.toDs d)])) (some (.tup [.tup (Stm.toDs c), .tup (Stm.toDs d)])) x4 (1 + (Stm.cnts c + Stm.cnts d)) (by simp [Stm.cnt]) (Sub.del (hs.none hp) (hs.new hp _))
          simpa [Int.add_assoc] using this
    · rintro σ G' ⟨pre, ss, x2, x3, x4, eb, ex, hs, rfl⟩
      cases ss with
      | cons s ss => simp [Stm.toDs] at ex
      | nil =>
        simp at eb
        subst eb
        exact ⟨trivial, _, hs, q⟩
end
end AT
end
section
set_option maxHeartbeats 2000000
/-! L8: the law k38 over Core. -/
namespace AT
open PySem (Str Addr)
mutual
theorem Stm.depth_toD : ∀ (s : Stm), D.depth s.toD ≤ 2 * s.dep + 1
  | .act c => by cases c <;> simp [Stm.toD, Act.toDs, Stm.dep]
  | .loop b => by have := Stm.depths_toDs b; simp [Stm.toD, Stm.dep]; omega
  | .either b c => by have := Stm.depths_toDs b; have := Stm.depths_toDs c; simp [Stm.toD, Stm.dep]; omega
theorem Stm.depths_toDs : ∀ (b : List Stm), D.depths (Stm.toDs b) + 1 ≤ 2 * Stm.deps b
  | [] => by simp [Stm.toDs, Stm.deps]
  | s :: ss => by have := Stm.depth_toD s; have := Stm.depths_toDs ss; simp [Stm.toDs, Stm.deps]; omega
end
mutual
theorem eqB_refl : ∀ (d : D), D.pure d = true → D.eqB d d = true
  | .non, h => by simp
  | .bl b, h => by simp
  | .int i, h => by simp
  | .str s, h => by simp
  | .tup l, h => by simp at h; simp [eqBs_refl l h]
  | .rol l, h => by simp at h
  | .ref a, h => by simp at h
  | .fn f, h => by simp at h
theorem eqBs_refl : ∀ (l : List D), D.pures l = true → D.eqBs l l = true
  | [], h => by simp
  | d :: l, h => by simp at h; simp [eqB_refl d h.1, eqBs_refl l h.2]
end
theorem eqO_prog (G : Gp) (b : List Stm) (h : Stm.deps b ≤ 6) : eqO G (.tup (Stm.toDs b)) (.tup (Stm.toDs b)) = some true := by
  have p := Stm.pure_toDs (Stm.puresB_true b)
  have d := Stm.depths_toDs b
  rw [eqO_val (by simpa using p) (by simpa using p) (by simp; omega)]
  simp [eqBs_refl _ p]
theorem eqO_onI (G : Gp) (r : Option Nat) : eqO G (onI r) (onI r) = some true := by
  cases r <;> rw [eqO_val] <;> simp [onI]
theorem Stm.cnts_len : ∀ b : List Stm, b.length ≤ Stm.cnts b
  | [] => by simp
  | s :: b => by have := s.cnt_pos; have := Stm.cnts_len b; simp [Stm.cnts]; omega
structure DK38 (P : Pr) : Prop where
  draw : DDraw P
  verd : DVerd P
  law : DLaw P
  letters : P.defs f__law_letters = some d__law_letters
  ways : P.defs f__law_ways = some d__law_ways
  search : P.defs f__law_search = some d__law_search
  table : P.defs f__law_table = some d__law_table
  many : P.defs f__law_many = some d__law_many
  made : P.defs f_made_program = some d_made_program
  k38 : P.defs f_law = some d_law_2
  sub : P.cls.sub 5 5 = true
theorem k38_core {P : Pr} (h : DK38 P) (ns : List Int) : wpF P 31 f_law [.rol (ns.map D.int)] (fun _ => none) (fun d _ => d = .bl true) (fun _ _ => False) := by
  show wpF P (30 + 1) _ _ _ _ _
  unfold wpF
  rw [h.k38]
  refine ⟨rfl, ?_⟩
  simp [d_law_2]
  refine sp_pool h.draw (n := 29) (k := 0) (by omega) ?_
  intro x0 y0 ps hps
  try simp []
  intro p1 hp1
  have n1 : p1 ≠ ps := fun e => by rw [e] at hp1; simp at hp1
  refine sp_one_lst h.draw (n := 28) (a := p1) (ps := ps) (x := x0) (y := y0) (by rw [up_ne (Ne.symm n1)]; simp) up_same n1 (by simp) (by simp) ?_
  intro d1 x1 y1 hd1
  try simp []
  have hmost : ∃ m : Nat, d1 = .int m ∧ m ≤ 40 := by
    simp at hd1
    rcases hd1 with rfl | rfl | rfl | rfl | rfl
    · exact ⟨12, rfl, by omega⟩
    · exact ⟨20, rfl, by omega⟩
    · exact ⟨40, rfl, by omega⟩
    · exact ⟨16, rfl, by omega⟩
    · exact ⟨12, rfl, by omega⟩
  obtain ⟨most, rfl, hmost⟩ := hmost
  generalize hG1 : up (up (up (fun _ => none) ps (.lst [.int x0, .int y0])) p1 (.lst [.int 12, .int 20, .int 40, .int 16, .int 12])) ps (srcC x1 y1) = G1
  have g1 : G1 ps = some (srcC x1 y1) := by rw [← hG1]; simp
  clear hG1
  try simp []
  intro p2 hp2
  have n2 : p2 ≠ ps := fun e => by rw [e, g1] at hp2; cases hp2
  refine sp_one_lst h.draw (n := 28) (a := p2) (ps := ps) (x := x1) (y := y1) (by rw [up_ne (Ne.symm n2)]; exact g1) up_same n2 (by simp) (by simp) ?_
  intro d2 x2 y2 hd2
  try simp []
  have hdeep : ∃ m : Nat, d2 = .int m ∧ m ≤ 5 := by
    simp at hd2
    rcases hd2 with rfl | rfl | rfl
    · exact ⟨3, rfl, by omega⟩
    · exact ⟨5, rfl, by omega⟩
    · exact ⟨2, rfl, by omega⟩
  obtain ⟨dp, rfl, hdeep⟩ := hdeep
  generalize hG2 : up (up G1 p2 (.lst [.int 3, .int 5, .int 5, .int 2])) ps (srcC x2 y2) = G2
  have g2 : G2 ps = some (srcC x2 y2) := by rw [← hG2]; simp
  clear hG2
  try simp []
  have es1 : D.tup [.str "a", .str "b"] = strsD ["a", "b"] := rfl
  have es2 : D.tup [.str "p"] = strsD ["p"] := rfl
  rw [es1, es2]
  rw [show (30 : Nat) = (26 - dp) + 4 + dp by omega]
  refine sp_body h.draw (by simp) (by simp) (by simp) (by simp) (by simp [nmS]) (by simp [piS]) dp g2 (by omega) ?_
  intro b x3 y3 ho hc hd
  try simp []
  rw [show (26 - dp) + 4 + dp = 30 by omega]
  have gd : GoodP b := ⟨ho, by omega, by omega⟩
  try simp []
  refine sp_law_table h.draw h.table (n := 28) (most := 4) up_same (by omega) (by omega) ?_
  intro t x4 y4 ok ht
  try simp []
  generalize up G2 ps (srcC x4 y4) = G3
  try simp []
  refine sp_law_search h.law h.letters h.ways h.search (n := 21) gd ok ?_
  intro r hr
  try simp []
  refine sp_least_steps h.verd (n := 20) gd ok ?_
  intro r' hr'
  try simp []
  rw [hr'.unique hr]
  simp [eqO_onI]
  refine sp_keeps h.verd (n := 19) gd ok ?_
  intro r2 hr2
  try simp []
  rw [hr2.unique hr]
  have ebl : ∀ (x : Bool), eqO G3 (.bl x) (.bl x) = some true := fun x => by rw [eqO_val] <;> simp
  have enn : D.isNon (onI r) = r.isNone := by cases r <;> rfl
  simp [enn, ebl, eqO_int]
  have key : wpF P 30 f_made_program [D.tup (Stm.toDs b)] G3 (fun v G1 => v = .tup (Stm.toDs b) ∧ G1 = G3) (fun x G' => False) :=
    sp_made_program h.verd.prog h.made (n := 20) ho (by omega) (fun _ => ⟨rfl, rfl⟩) (fun hc => by omega)
  split
  · refine sp_law_many h.many 6 (n := 24) (by omega) ?_
    have e1 : (41 : Int) - (Stm.cnts b : Int) = ((41 - Stm.cnts b : Nat) : Int) := by omega
    simp [e1]
    refine ⟨by omega, ?_⟩
    have e2 : Stm.toDs b ++ List.replicate (41 - Stm.cnts b) (D.tup [.str "end", .str "a"]) = Stm.toDs (b ++ List.replicate (41 - Stm.cnts b) (.act (.fin "a"))) := by
      rw [Stm.toDs_append]
      congr 1
      generalize 41 - Stm.cnts b = m
      induction m with
      | zero => rfl
      | succ m ih => rw [List.replicate_succ, List.replicate_succ, ih]; rfl
    have c1 : ∀ m, Stm.cnts (List.replicate m (.act (.fin "a"))) = m ∧ Stm.oks (List.replicate m (.act (.fin "a"))) = true ∧ Stm.deps (List.replicate m (.act (.fin "a"))) = 1 := by
      intro m
      induction m with
      | zero => simp [Stm.cnts, Stm.oks, Stm.deps]
      | succ m ih =>
        obtain ⟨i1, i2, i3⟩ := ih
        rw [List.replicate_succ]
        have e4 : (Stm.act (.fin "a")).ok = true := by simp [Stm.ok, Act.ok, nmS]
        refine ⟨?_, ?_, ?_⟩
        · rw [Stm.cnts, i1, Stm.cnt]; omega
        · rw [Stm.oks, i2, e4]; rfl
        · rw [Stm.deps, i3, Stm.dep]; rfl
    obtain ⟨c1, c2, c3⟩ := c1 (41 - Stm.cnts b)
    refine ⟨by simp only [Stm.toDs_length]; have := Stm.cnts_len b; omega, ?_⟩
    rw [e2]
    refine sp_made_program h.verd.prog h.made (n := 20) (by rw [Stm.oks_app, ho, c2]; rfl) (by rw [Stm.deps_app, c3]; have := gd.deep; omega) (fun hc => by rw [Stm.cnts_app, c1] at hc; omega) (fun hc => ?_)
    simp [wpHs, h.sub]
    simp [eqO_int]
    exact ⟨_, Sub.refl _⟩
  · refine sp_made_program h.verd.prog h.made (n := 20) ho (by omega) (fun _ => ?_) (fun hc => by omega)
    simp [eqO_prog _ _ gd.deep]
    exact ⟨_, Sub.refl _⟩
end AT
end
namespace AT.K38
open AT
def deep : Nat := 30
theorem dplaces : DPlaces P := ⟨rfl, rfl, rfl, rfl, rfl, rfl, rfl⟩
theorem dwalk : DWalk P := ⟨dplaces, ⟨rfl, rfl, rfl, rfl, rfl, rfl⟩, rfl, rfl⟩
theorem dverd : DVerd P := ⟨⟨rfl, rfl, rfl, rfl, rfl, rfl⟩, ⟨dwalk, ⟨rfl, rfl, rfl⟩, rfl⟩, rfl, rfl, rfl, rfl, rfl⟩
theorem core (ns : List Int) (h : ns.length ≤ 63) : wpF P (deep + 1) f_law [.rol (ns.map D.int)] (fun _ => none) (fun d _ => d = .bl true) (fun _ _ => False) :=
  k38_core ⟨⟨rfl, rfl, rfl, rfl, rfl⟩, dverd, ⟨rfl, rfl⟩, rfl, rfl, rfl, rfl, rfl, rfl, rfl, by decide +kernel⟩ ns
end AT.K38
/-! k38: the end (printed by gen2.py). -/
namespace AT.K38
open PySem PySem.Spec PyProof.Rows L2 AT
theorem walk {l : PySem.W.OpenLaw} {q : Program} {loose : List Str} {XP : (Str → Option Value) → Heap → Prop} {YP : World → Heap → Prop} {d : DefRec} {K : Params → PySem.W.Frag} (hn : l.most = some 63) (hdf : d.params.defaults = []) (hnm : d.name = "law")
    (hY : ∀ (w : World) (h : Heap), YP w h → (K w.params).In h) (A : ∀ w : World, Has l.prog (K w.params)) : PySem.W.WalkO q loose XP YP l.row.toRowW d [] (fun f vs => PySem.call f vs) := by
  refine L2.walk_of (n := 63) (k := 2 * deep + 2) (x := "script") (CX := fun w => L2.CX l.prog w) (sp := fun w => spLaw (K w.params)) hn (by decide) hdf ⟨rfl, by decide, by decide⟩ hY (fun w mg fa h KX G hmg => ?_) (fun w H a ns hl ho hs => ⟨a, ns, rfl, hl, ho, hs, fun _ => rfl⟩) (fun w H s e s' z => cx_no z)
  obtain ⟨fl, xl, a, fd, h1, h2, h3, h4⟩ := static KX G (A w)
  rw [hnm] at hmg
  have e := hmg.symm.trans h1
  cases e
  refine ⟨fd, fun s v => ?_, fun base KB GB => ?_⟩
  · obtain ⟨oc, od, kV, doc, pm, an, cdv, ct, osl, rfl, lk, hcd⟩ := h3.ex
    exact .of_eq rfl
  have S := h4 w base
  obtain ⟨g1, g2⟩ := fn_all S deep
  exact FnOk.imp (fn_ok S g1 g2 (f := f_law) (d := d_law_2) rfl h3 sc_law rfl rfl ok_law) (fun vs H Q E q => spLaw_of (T := ⟨l.prog, w, K w.params, mg, base, fun f => fl.lookup f, fun _ => none, fun c => xl.lookup c, nmOf Γ.nms⟩) core vs H Q E q)
end AT.K38
open PySem PySem.W PyProof.Rows in
set_option maxRecDepth 100000 in
set_option maxHeartbeats 0 in
theorem PySem.Challenge.cw_anytwo_k38_forty_statements_searched_holds : PySem.Challenge.rw_anytwo_k38_forty_statements_searched.Holds := by
  w_on; o_law; k_head; (case hw => w_witness2)
  k_fill
  refine AT.K38.walk (l := PySem.Challenge.rw_anytwo_k38_forty_statements_searched) rfl rfl rfl (fun w h Y => PySem.W.kIn_of Y) (fun w => ?_)
  refine {
    f_is_number := by
      refine' AT.FnIn.of ?n ?l ?c ?k
      (case n => k_is)
      (case l => k_is)
      (case c => k_is)
      (case k => k_is),
    f_is_of := by
      refine' AT.FnIn.of ?n ?l ?c ?k
      (case n => k_is)
      (case l => k_is)
      (case c => k_is)
      (case k => k_is),
    f_forms_of := by
      refine' AT.FnIn.of ?n ?l ?c ?k
      (case n => k_is)
      (case l => k_is)
      (case c => k_is)
      (case k => k_is),
    f_has_form := by
      refine' AT.FnIn.of ?n ?l ?c ?k
      (case n => k_is)
      (case l => k_is)
      (case c => k_is)
      (case k => k_is),
    f_bodies_of := by
      refine' AT.FnIn.of ?n ?l ?c ?k
      (case n => k_is)
      (case l => k_is)
      (case c => k_is)
      (case k => k_is),
    f_walked := by
      refine' AT.FnIn.of ?n ?l ?c ?k
      (case n => k_is)
      (case l => k_is)
      (case c => k_is)
      (case k => k_is),
    f_want_program := by
      refine' AT.FnIn.of ?n ?l ?c ?k
      (case n => k_is)
      (case l => k_is)
      (case c => k_is)
      (case k => k_is),
    f_made_program := by
      refine' AT.FnIn.of ?n ?l ?c ?k
      (case n => k_is)
      (case l => k_is)
      (case c => k_is)
      (case k => k_is),
    f_first_place := by
      refine' AT.FnIn.of ?n ?l ?c ?k
      (case n => k_is)
      (case l => k_is)
      (case c => k_is)
      (case k => k_is),
    f_end_place := by
      refine' AT.FnIn.of ?n ?l ?c ?k
      (case n => k_is)
      (case l => k_is)
      (case c => k_is)
      (case k => k_is),
    f_body_at := by
      refine' AT.FnIn.of ?n ?l ?c ?k
      (case n => k_is)
      (case l => k_is)
      (case c => k_is)
      (case k => k_is),
    f_statement_at := by
      refine' AT.FnIn.of ?n ?l ?c ?k
      (case n => k_is)
      (case l => k_is)
      (case c => k_is)
      (case k => k_is),
    f_behind := by
      refine' AT.FnIn.of ?n ?l ?c ?k
      (case n => k_is)
      (case l => k_is)
      (case c => k_is)
      (case k => k_is),
    f_statement_at_leads := by
      refine' AT.FnIn.of ?n ?l ?c ?k
      (case n => k_is)
      (case l => k_is)
      (case c => k_is)
      (case k => k_is),
    f_ways_at := by
      refine' AT.FnIn.of ?n ?l ?c ?k
      (case n => k_is)
      (case l => k_is)
      (case c => k_is)
      (case k => k_is),
    f_emptied := by
      refine' AT.FnIn.of ?n ?l ?c ?k
      (case n => k_is)
      (case l => k_is)
      (case c => k_is)
      (case k => k_is),
    f_made := by
      refine' AT.FnIn.of ?n ?l ?c ?k
      (case n => k_is)
      (case l => k_is)
      (case c => k_is)
      (case k => k_is),
    f_taken := by
      refine' AT.FnIn.of ?n ?l ?c ?k
      (case n => k_is)
      (case l => k_is)
      (case c => k_is)
      (case k => k_is),
    f_moved := by
      refine' AT.FnIn.of ?n ?l ?c ?k
      (case n => k_is)
      (case l => k_is)
      (case c => k_is)
      (case k => k_is),
    f_gone_through := by
      refine' AT.FnIn.of ?n ?l ?c ?k
      (case n => k_is)
      (case l => k_is)
      (case c => k_is)
      (case k => k_is),
    f_effects := by
      refine' AT.FnIn.of ?n ?l ?c ?k
      (case n => k_is)
      (case l => k_is)
      (case c => k_is)
      (case k => k_is),
    f_ways_of := by
      refine' AT.FnIn.of ?n ?l ?c ?k
      (case n => k_is)
      (case l => k_is)
      (case c => k_is)
      (case k => k_is),
    f_first_state := by
      refine' AT.FnIn.of ?n ?l ?c ?k
      (case n => k_is)
      (case l => k_is)
      (case c => k_is)
      (case k => k_is),
    f_is_row := by
      refine' AT.FnIn.of ?n ?l ?c ?k
      (case n => k_is)
      (case l => k_is)
      (case c => k_is)
      (case k => k_is),
    f_want_table := by
      refine' AT.FnIn.of ?n ?l ?c ?k
      (case n => k_is)
      (case l => k_is)
      (case c => k_is)
      (case k => k_is),
    f_moved_by := by
      refine' AT.FnIn.of ?n ?l ?c ?k
      (case n => k_is)
      (case l => k_is)
      (case c => k_is)
      (case k => k_is),
    f_led_by := by
      refine' AT.FnIn.of ?n ?l ?c ?k
      (case n => k_is)
      (case l => k_is)
      (case c => k_is)
      (case k => k_is),
    f_costs_of := by
      refine' AT.FnIn.of ?n ?l ?c ?k
      (case n => k_is)
      (case l => k_is)
      (case c => k_is)
      (case k => k_is),
    f_least_way := by
      refine' AT.FnIn.of ?n ?l ?c ?k
      (case n => k_is)
      (case l => k_is)
      (case c => k_is)
      (case k => k_is),
    f_least_steps := by
      refine' AT.FnIn.of ?n ?l ?c ?k
      (case n => k_is)
      (case l => k_is)
      (case c => k_is)
      (case k => k_is),
    f_keeps := by
      refine' AT.FnIn.of ?n ?l ?c ?k
      (case n => k_is)
      (case l => k_is)
      (case c => k_is)
      (case k => k_is),
    f__law_pool := by
      refine' AT.FnIn.of ?n ?l ?c ?k
      (case n => k_is)
      (case l => k_is)
      (case c => k_is)
      (case k => k_is),
    f__law_take := by
      refine' AT.FnIn.of ?n ?l ?c ?k
      (case n => k_is)
      (case l => k_is)
      (case c => k_is)
      (case k => k_is),
    f__law_one := by
      refine' AT.FnIn.of ?n ?l ?c ?k
      (case n => k_is)
      (case l => k_is)
      (case c => k_is)
      (case k => k_is),
    f__law_plain := by
      refine' AT.FnIn.of ?n ?l ?c ?k
      (case n => k_is)
      (case l => k_is)
      (case c => k_is)
      (case k => k_is),
    f__law_body := by
      refine' AT.FnIn.of ?n ?l ?c ?k
      (case n => k_is)
      (case l => k_is)
      (case c => k_is)
      (case k => k_is),
    f__law_leads := by
      refine' AT.FnIn.of ?n ?l ?c ?k
      (case n => k_is)
      (case l => k_is)
      (case c => k_is)
      (case k => k_is),
    f__law_places := by
      refine' AT.FnIn.of ?n ?l ?c ?k
      (case n => k_is)
      (case l => k_is)
      (case c => k_is)
      (case k => k_is),
    f__law_ways := by
      refine' AT.FnIn.of ?n ?l ?c ?k
      (case n => k_is)
      (case l => k_is)
      (case c => k_is)
      (case k => k_is),
    f__law_letters := by
      refine' AT.FnIn.of ?n ?l ?c ?k
      (case n => k_is)
      (case l => k_is)
      (case c => k_is)
      (case k => k_is),
    f__law_table := by
      refine' AT.FnIn.of ?n ?l ?c ?k
      (case n => k_is)
      (case l => k_is)
      (case c => k_is)
      (case k => k_is),
    f__law_search := by
      refine' AT.FnIn.of ?n ?l ?c ?k
      (case n => k_is)
      (case l => k_is)
      (case c => k_is)
      (case k => k_is),
    f__law_many := by
      refine' AT.FnIn.of ?n ?l ?c ?k
      (case n => k_is)
      (case l => k_is)
      (case c => k_is)
      (case k => k_is),
    f_law := by
      refine' AT.FnIn.of ?n ?l ?c ?k
      (case n => k_is)
      (case l => k_is)
      (case c => k_is)
      (case k => k_is),
    c_NAMES := by
      refine' AT.CstIn.tup ?cn ?cl ?cz ?cw
      (case cn => k_is)
      (case cl => k_is)
      (case cz => decide)
      (case cw => exact AT.WVs.cons (AT.WV.str _ _) (AT.WVs.cons (AT.WV.str _ _) (AT.WVs.cons (AT.WV.str _ _) (AT.WVs.cons (AT.WV.str _ _) (AT.WVs.nil))))),
    c_PILES := by
      refine' AT.CstIn.tup ?cn ?cl ?cz ?cw
      (case cn => k_is)
      (case cl => k_is)
      (case cz => decide)
      (case cw => exact AT.WVs.cons (AT.WV.str _ _) (AT.WVs.cons (AT.WV.str _ _) (AT.WVs.nil))),
    c_OWN_WORDS := by
      refine' AT.CstIn.tup ?cn ?cl ?cz ?cw
      (case cn => k_is)
      (case cl => k_is)
      (case cz => decide)
      (case cw => exact AT.WVs.cons (AT.WV.str _ _) (AT.WVs.cons (AT.WV.str _ _) (AT.WVs.cons (AT.WV.str _ _) (AT.WVs.nil)))),
    c_LOOP := by
      refine' AT.CstIn.str ?n
      (case n => k_is),
    c_EITHER := by
      refine' AT.CstIn.str ?n
      (case n => k_is),
    c_MOST_STATEMENTS := by
      refine' AT.CstIn.int ?n
      (case n => k_is),
    c_DEEPEST := by
      refine' AT.CstIn.int ?n
      (case n => k_is),
    c_ELDER := by
      refine' AT.CstIn.str ?n
      (case n => k_is),
    c_YOUNGER := by
      refine' AT.CstIn.str ?n
      (case n => k_is),
    c_NEW := by
      refine' AT.CstIn.str ?n
      (case n => k_is),
    c_LETTERS := by
      refine' AT.CstIn.tup ?cn ?cl ?cz ?cw
      (case cn => k_is)
      (case cl => k_is)
      (case cz => decide)
      (case cw => exact AT.WVs.cons (AT.WV.str _ _) (AT.WVs.cons (AT.WV.str _ _) (AT.WVs.cons (AT.WV.str _ _) (AT.WVs.cons (AT.WV.str _ _) (AT.WVs.cons (AT.WV.str _ _) (AT.WVs.cons (AT.WV.str _ _) (AT.WVs.cons (AT.WV.str _ _) (AT.WVs.cons (AT.WV.str _ _) (AT.WVs.cons (AT.WV.str _ _) (AT.WVs.cons (AT.WV.str _ _) (AT.WVs.cons (AT.WV.str _ _) (AT.WVs.cons (AT.WV.str _ _) (AT.WVs.cons (AT.WV.str _ _) (AT.WVs.cons (AT.WV.str _ _) (AT.WVs.cons (AT.WV.str _ _) (AT.WVs.cons (AT.WV.str _ _) (AT.WVs.cons (AT.WV.str _ _) (AT.WVs.nil)))))))))))))))))),
    c_ENDED := by
      refine' AT.CstIn.str ?n
      (case n => k_is),
    c_MOST_STATES := by
      refine' AT.CstIn.int ?n
      (case n => k_is),
    c_TAKE := by
      refine' AT.CstIn.str ?n
      (case n => k_is),
    b_len := by k_is,
    b_int := by k_is,
    b_max := by k_is,
    b_min := by k_is,
    b_tuple := by k_is,
    b_list := by k_is,
    b_all := by k_is,
    b_any := by k_is,
    b_sum := by k_is,
    b_sorted := by k_is,
    b_isinstance := by k_is,
    b_range := by k_is,
    b_enumerate := by k_is,
    b_bool := by k_is,
    b_str := by k_is,
    b_super := by k_is,
    opq := by k_is,
    h_push := by k_is,
    h_pop := by k_is,
    x_Refused := by
      refine' AT.XcIn.of ?n ?o ?bmv ?sa ?exC ?tyC ?kC ?fi ?ti ?wh ?vE ?l ?c ?har ?hself ?lc ?v2 ?hfile ?lcc ?cD ?mC ?sC ?hb ?hp ?hs ?hm ?bi ?ga ?gg ?hd
      (case n => k_is)
      (case o => k_is)
      (case bmv => exact rfl)
      (case sa => k_is)
      (case exC => k_is)
      (case tyC => k_is)
      (case kC => k_is)
      (case fi => k_is)
      (case ti => k_is)
      (case wh => k_is)
      (case vE => k_is)
      (case l => k_is)
      (case c => k_is)
      (case har => exact rfl)
      (case hself => exact rfl)
      (case lc => k_is)
      (case v2 => exact rfl)
      (case hfile => exact rfl)
      (case lcc => k_is)
      (case cD => k_is)
      (case mC => k_is)
      (case sC => ks_is)
      (case hb => exact rfl)
      (case hp => exact rfl)
      (case hs => exact rfl)
      (case hm => exact rfl)
      (case bi => exact fun _ _ _ _ _ _ _ _ _ us hl => match us, hl with | [_, _], _ => rfl)
      (case ga => k_is)
      (case gg => k_is)
      (case hd => k_is),
    x_BadProgram := by
      refine' AT.XcIn.of ?n ?o ?bmv ?sa ?exC ?tyC ?kC ?fi ?ti ?wh ?vE ?l ?c ?har ?hself ?lc ?v2 ?hfile ?lcc ?cD ?mC ?sC ?hb ?hp ?hs ?hm ?bi ?ga ?gg ?hd
      (case n => k_is)
      (case o => k_is)
      (case bmv => exact rfl)
      (case sa => k_is)
      (case exC => k_is)
      (case tyC => k_is)
      (case kC => k_is)
      (case fi => k_is)
      (case ti => k_is)
      (case wh => k_is)
      (case vE => k_is)
      (case l => k_is)
      (case c => k_is)
      (case har => exact rfl)
      (case hself => exact rfl)
      (case lc => k_is)
      (case v2 => exact rfl)
      (case hfile => exact rfl)
      (case lcc => k_is)
      (case cD => k_is)
      (case mC => k_is)
      (case sC => ks_is)
      (case hb => exact rfl)
      (case hp => exact rfl)
      (case hs => exact rfl)
      (case hm => exact rfl)
      (case bi => exact fun _ _ _ _ _ _ _ _ _ us hl => match us, hl with | [_, _], _ => rfl)
      (case ga => k_is)
      (case gg => k_is)
      (case hd => k_is),
    x_BadTable := by
      refine' AT.XcIn.of ?n ?o ?bmv ?sa ?exC ?tyC ?kC ?fi ?ti ?wh ?vE ?l ?c ?har ?hself ?lc ?v2 ?hfile ?lcc ?cD ?mC ?sC ?hb ?hp ?hs ?hm ?bi ?ga ?gg ?hd
      (case n => k_is)
      (case o => k_is)
      (case bmv => exact rfl)
      (case sa => k_is)
      (case exC => k_is)
      (case tyC => k_is)
      (case kC => k_is)
      (case fi => k_is)
      (case ti => k_is)
      (case wh => k_is)
      (case vE => k_is)
      (case l => k_is)
      (case c => k_is)
      (case har => exact rfl)
      (case hself => exact rfl)
      (case lc => k_is)
      (case v2 => exact rfl)
      (case hfile => exact rfl)
      (case lcc => k_is)
      (case cD => k_is)
      (case mC => k_is)
      (case sC => ks_is)
      (case hb => exact rfl)
      (case hp => exact rfl)
      (case hs => exact rfl)
      (case hm => exact rfl)
      (case bi => exact fun _ _ _ _ _ _ _ _ _ us hl => match us, hl with | [_, _], _ => rfl)
      (case ga => k_is)
      (case gg => k_is)
      (case hd => k_is),
    x_TooMany := by
      refine' AT.XcIn.of ?n ?o ?bmv ?sa ?exC ?tyC ?kC ?fi ?ti ?wh ?vE ?l ?c ?har ?hself ?lc ?v2 ?hfile ?lcc ?cD ?mC ?sC ?hb ?hp ?hs ?hm ?bi ?ga ?gg ?hd
      (case n => k_is)
      (case o => k_is)
      (case bmv => exact rfl)
      (case sa => k_is)
      (case exC => k_is)
      (case tyC => k_is)
      (case kC => k_is)
      (case fi => k_is)
      (case ti => k_is)
      (case wh => k_is)
      (case vE => k_is)
      (case l => k_is)
      (case c => k_is)
      (case har => exact rfl)
      (case hself => exact rfl)
      (case lc => k_is)
      (case v2 => exact rfl)
      (case hfile => exact rfl)
      (case lcc => k_is)
      (case cD => k_is)
      (case mC => k_is)
      (case sC => ks_is)
      (case hb => exact rfl)
      (case hp => exact rfl)
      (case hs => exact rfl)
      (case hm => exact rfl)
      (case bi => exact fun _ _ _ _ _ _ _ _ _ us hl => match us, hl with | [_, _], _ => rfl)
      (case ga => k_is)
      (case gg => k_is)
      (case hd => k_is),
    s_Refused_Refused := by
      refine' AT.SubX.of ?h1 ?h2 ?h3 ?h4 ?h5 ?h6
      (case h1 => k_is)
      (case h2 => k_is)
      (case h3 => k_is)
      (case h4 => k_is)
      (case h5 => k_is)
      (case h6 => k_is),
    s_Refused_BadProgram := by
      refine' AT.SubX.of ?h1 ?h2 ?h3 ?h4 ?h5 ?h6
      (case h1 => k_is)
      (case h2 => k_is)
      (case h3 => k_is)
      (case h4 => k_is)
      (case h5 => k_is)
      (case h6 => k_is),
    s_Refused_BadTable := by
      refine' AT.SubX.of ?h1 ?h2 ?h3 ?h4 ?h5 ?h6
      (case h1 => k_is)
      (case h2 => k_is)
      (case h3 => k_is)
      (case h4 => k_is)
      (case h5 => k_is)
      (case h6 => k_is),
    s_Refused_TooMany := by
      refine' AT.SubX.of ?h1 ?h2 ?h3 ?h4 ?h5 ?h6
      (case h1 => k_is)
      (case h2 => k_is)
      (case h3 => k_is)
      (case h4 => k_is)
      (case h5 => k_is)
      (case h6 => k_is),
    s_BadProgram_Refused := by
      refine' AT.SubX.of ?h1 ?h2 ?h3 ?h4 ?h5 ?h6
      (case h1 => k_is)
      (case h2 => k_is)
      (case h3 => k_is)
      (case h4 => k_is)
      (case h5 => k_is)
      (case h6 => k_is),
    s_BadProgram_BadProgram := by
      refine' AT.SubX.of ?h1 ?h2 ?h3 ?h4 ?h5 ?h6
      (case h1 => k_is)
      (case h2 => k_is)
      (case h3 => k_is)
      (case h4 => k_is)
      (case h5 => k_is)
      (case h6 => k_is),
    s_BadProgram_BadTable := by
      refine' AT.SubX.of ?h1 ?h2 ?h3 ?h4 ?h5 ?h6
      (case h1 => k_is)
      (case h2 => k_is)
      (case h3 => k_is)
      (case h4 => k_is)
      (case h5 => k_is)
      (case h6 => k_is),
    s_BadProgram_TooMany := by
      refine' AT.SubX.of ?h1 ?h2 ?h3 ?h4 ?h5 ?h6
      (case h1 => k_is)
      (case h2 => k_is)
      (case h3 => k_is)
      (case h4 => k_is)
      (case h5 => k_is)
      (case h6 => k_is),
    s_BadTable_Refused := by
      refine' AT.SubX.of ?h1 ?h2 ?h3 ?h4 ?h5 ?h6
      (case h1 => k_is)
      (case h2 => k_is)
      (case h3 => k_is)
      (case h4 => k_is)
      (case h5 => k_is)
      (case h6 => k_is),
    s_BadTable_BadProgram := by
      refine' AT.SubX.of ?h1 ?h2 ?h3 ?h4 ?h5 ?h6
      (case h1 => k_is)
      (case h2 => k_is)
      (case h3 => k_is)
      (case h4 => k_is)
      (case h5 => k_is)
      (case h6 => k_is),
    s_BadTable_BadTable := by
      refine' AT.SubX.of ?h1 ?h2 ?h3 ?h4 ?h5 ?h6
      (case h1 => k_is)
      (case h2 => k_is)
      (case h3 => k_is)
      (case h4 => k_is)
      (case h5 => k_is)
      (case h6 => k_is),
    s_BadTable_TooMany := by
      refine' AT.SubX.of ?h1 ?h2 ?h3 ?h4 ?h5 ?h6
      (case h1 => k_is)
      (case h2 => k_is)
      (case h3 => k_is)
      (case h4 => k_is)
      (case h5 => k_is)
      (case h6 => k_is),
    s_TooMany_Refused := by
      refine' AT.SubX.of ?h1 ?h2 ?h3 ?h4 ?h5 ?h6
      (case h1 => k_is)
      (case h2 => k_is)
      (case h3 => k_is)
      (case h4 => k_is)
      (case h5 => k_is)
      (case h6 => k_is),
    s_TooMany_BadProgram := by
      refine' AT.SubX.of ?h1 ?h2 ?h3 ?h4 ?h5 ?h6
      (case h1 => k_is)
      (case h2 => k_is)
      (case h3 => k_is)
      (case h4 => k_is)
      (case h5 => k_is)
      (case h6 => k_is),
    s_TooMany_BadTable := by
      refine' AT.SubX.of ?h1 ?h2 ?h3 ?h4 ?h5 ?h6
      (case h1 => k_is)
      (case h2 => k_is)
      (case h3 => k_is)
      (case h4 => k_is)
      (case h5 => k_is)
      (case h6 => k_is),
    s_TooMany_TooMany := by
      refine' AT.SubX.of ?h1 ?h2 ?h3 ?h4 ?h5 ?h6
      (case h1 => k_is)
      (case h2 => k_is)
      (case h3 => k_is)
      (case h4 => k_is)
      (case h5 => k_is)
      (case h6 => k_is) }
