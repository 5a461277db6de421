import PyProof.Rows.All
import Wide.All
import OpenK.AllK
import Wide.FinOn
import HandS.ForMost
import HandS.ForExc
import HandS.IsInst
import HandS.Style
import HandS.SortInts
import HandS.SortKw
import HandS.Conv
import HandS.EndBits
import KE.KSortKeySt
import HandS.TryOnly
import HandS.WideBits
import HandS.Rev
import HandS.Strs
import HandS.TupAny
import KE.GoesEnum
import HandS.Zip
import HandS.Walk
import HandS.Deep
import HandS.SortRule
import PySem.Challenge.RW_tiepress_k52_splits_whole
set_option Elab.async false
set_option linter.all false
set_option maxRecDepth 100000
set_option maxHeartbeats 4000000
/-! ## A small language of plain data: values, programs with slots, their evaluator -/
namespace DS
open PySem PySem.Spec PyProof.Rows L2

/-- plain data. rol: a list that is only read (the script); pr: a pair that a walk gives, to be taken apart -/
inductive D where
  | non | bl (b : Bool) | int (i : Int) | str (x : Str)
  | tup (xs : List D) | lst (xs : List D) | rol (xs : List D) | ins (c : Nat) (fs : List D) | pr (x y : D)

inductive Out (α : Type) where
  | bad
  | ok (a : α)
  | exc (c : Nat) (fs : List D)
namespace Out
@[reducible] def bnd {α β : Type} (x : Out α) (f : α → Out β) : Out β :=
  match x with
  | bad => bad
  | ok a => f a
  | exc c fs => exc c fs
@[simp] theorem bnd_ok {α β : Type} (a : α) (f : α → Out β) : bnd (ok a) f = f a := rfl
@[simp] theorem bnd_bad {α β : Type} (f : α → Out β) : bnd bad f = bad := rfl
@[simp] theorem bnd_exc {α β : Type} (c : Nat) (fs : List D) (f : α → Out β) : bnd (exc c fs) f = exc c fs := rfl
end Out

/-- an answer: data; a list just made, held by nobody; a list of a slot, looked at -/
inductive Ar where
  | v (x : D) | fr (ds : List D) | br (i : Nat) (ds : List D)
def Ar.view : Ar → D
  | .v d => d | .fr ds => .lst ds | .br _ ds => .lst ds
def Ar.seal : Ar → Ar
  | .v d => .v d | .fr ds => .v (.lst ds) | .br i ds => .br i ds
def Ar.isB : Ar → Bool
  | .br _ _ => true | _ => false
/-- what a slot holds: nothing; data; a list of its own; such a list while a loop walks it; a dict of its own; an instance that is being made -/
inductive Sl where
  | un | val (d : D) | own (ds : List D) | lock (ds : List D) | dic (kvs : List (Key × D)) | obj (c : Nat) (fs : List D)
def Sl.owns : Sl → Bool
  | .own _ => true | .dic _ => true | .obj _ _ => true | _ => false
abbrev En := List Sl

/-! ### operations on data -/
def seqOf : D → Option (List D)
  | .lst xs => some xs | .tup xs => some xs | .rol xs => some xs | _ => none
mutual
def toPD : D → Option PyData
  | .non => some .none | .bl b => some (.bool b) | .int i => some (.int i) | .str x => some (.str x)
  | .tup xs => (toPDs xs).map PyData.tuple
  | .lst xs => (toPDs xs).map PyData.list
  | .rol xs => (toPDs xs).map PyData.list
  | .ins _ _ => none
  | .pr _ _ => none
def toPDs : List D → Option (List PyData)
  | [] => some []
  | d :: ds => match toPD d, toPDs ds with
    | some x, some xs => some (x :: xs)
    | _, _ => none
end
def eqD (x y : D) : Option Bool :=
  match toPD x, toPD y with
  | some a, some b => if SeqAt.shaped a && SeqAt.shaped b then some (PyData.eqv a b) else none
  | _, _ => none
/-- the flat ones as values -/
def flat? : D → Option V
  | .non => some .non | .bl b => some (.bl b) | .int i => some (.int i) | .str x => some (.str x) | _ => none
def flats? : List D → Option (List V)
  | [] => some []
  | d :: ds => match flat? d, flats? ds with
    | some x, some xs => some (x :: xs)
    | _, _ => none
def ints? : List D → Option (List Int)
  | [] => some []
  | .int i :: ds => (ints? ds).map (i :: ·)
  | _ => none
def strs? : List D → Option (List Str)
  | [] => some []
  | .str i :: ds => (strs? ds).map (i :: ·)
  | _ => none
def bls? : List D → Option (List Bool)
  | [] => some []
  | .bl i :: ds => (bls? ds).map (i :: ·)
  | _ => none
mutual
def noL : D → Bool
  | .lst _ => false
  | .rol _ => false
  | .tup xs => noLs xs
  | .ins _ fs => noLs fs
  | .pr x y => noL x && noL y
  | .non => true
  | .bl _ => true
  | .int _ => true
  | .str _ => true
def noLs : List D → Bool
  | [] => true
  | d :: ds => noL d && noLs ds
end
def Ar.noL : Ar → Bool
  | .v d => DS.noL d | .fr ds => noLs ds | .br _ _ => false
def truthD : D → Option Bool
  | .non => some false | .bl b => some b | .int i => some (i != 0)
  | .str x => if x.length ≤ sizeLine then some ((x.length : Int) != 0) else none
  | .tup xs => some (!xs.isEmpty) | .lst xs => some (!xs.isEmpty) | .rol xs => some (!xs.isEmpty)
  | .ins _ _ => none
  | .pr _ _ => none
instance (i j : Int) : Decidable (CMul i j) := by unfold CMul; infer_instance
instance (i j : Int) : Decidable (CDivW i j) := by unfold CDivW; infer_instance
instance (i j : Int) : Decidable (CPow i j) := by unfold CPow; infer_instance
def ob {α : Type} : Option α → Out α
  | some a => .ok a
  | none => .bad
def binD (o : Operator) (x y : D) : Out Ar :=
  match o, x, y with
  | .Add, .int i, .int j => .ok (.v (.int (i + j)))
  | .Sub, .int i, .int j => .ok (.v (.int (i - j)))
  | .Mult, .int i, .int j => if CMul i j then .ok (.v (.int (i * j))) else .bad
  | .FloorDiv, .int i, .int j => if CDivW i j then .ok (.v (.int (i / j))) else .bad
  | .Mod, .int i, .int j => if 0 < j then .ok (.v (.int (i % j))) else .bad
  | .Pow, .int i, .int j => if CPow i j then .ok (.v (.int (i ^ j.toNat))) else .bad
  | .LShift, .int i, .int j => if CPow i j then .ok (.v (.int (i * 2 ^ j.toNat))) else .bad
  | .RShift, .int i, .int j => if 0 ≤ j then .ok (.v (.int (i / 2 ^ j.toNat))) else .bad
  | .BitAnd, .int i, .int j => .ok (.v (.int (Builtin.bitAnd i j)))
  | .BitOr, .int i, .int j => .ok (.v (.int (Builtin.bitOr i j)))
  | .BitXor, .int i, .int j => .ok (.v (.int (Builtin.bitXor i j)))
  | .Add, .str i, .str j => if i.length + j.length ≤ sizeLine then .ok (.v (.str (i ++ j))) else .bad
  | .Add, .lst xs, .lst ys => if xs.length + ys.length ≤ sizeLine then .ok (.fr (xs ++ ys)) else .bad
  | .Add, .tup xs, .tup ys => if xs.length + ys.length ≤ sizeLine then .ok (.v (.tup (xs ++ ys))) else .bad
  | .Mult, .lst xs, .int k => if -(2 ^ 63) ≤ k ∧ k < 2 ^ 63 ∧ xs.length * k.toNat ≤ sizeLine then .ok (.fr (List.replicate k.toNat xs).flatten) else .bad
  | _, _, _ => .bad
instance {xs : List D} : Decidable (xs ≠ []) := match xs with
  | [] => .isFalse (fun h => h rfl)
  | _ :: _ => .isTrue (fun h => nomatch h)
def unD (o : UnaryOp) (x : D) : Out Ar :=
  match o, x with
  | .USub, .int i => .ok (.v (.int (-i)))
  | .Invert, .int i => .ok (.v (.int (Builtin.bitNot i)))
  | _, _ => .bad
def inD (x y : D) : Option Bool :=
  match y with
  | .lst ys => match flat? x, flats? ys with
    | some v, some vs => some (inV v vs)
    | _, _ => none
  | .tup ys => match flat? x, flats? ys with
    | some v, some vs => some (inV v vs)
    | _, _ => none
  | .rol ys => match flat? x, flats? ys with
    | some v, some vs => some (inV v vs)
    | _, _ => none
  | .str z => match x with
    | .str w => some (!(Builtin.Str.occurrences z w 0 z.length 1).isEmpty)
    | _ => none
  | _ => none
def cmpD (o : CmpOp) (x y : D) : Option Bool :=
  match o with
  | .Eq => eqD x y
  | .NotEq => (eqD x y).map (!·)
  | .Lt => match x, y with
    | .int i, .int j => some (decide (i < j))
    | _, _ => none
  | .LtE => match x, y with
    | .int i, .int j => some (decide (i ≤ j))
    | _, _ => none
  | .Gt => match x, y with
    | .int i, .int j => some (decide (j < i))
    | _, _ => none
  | .GtE => match x, y with
    | .int i, .int j => some (decide (j ≤ i))
    | _, _ => none
  | .Is => match y with
    | .non => (match x with
      | .non => some true
      | _ => some false)
    | .bl b => (match x with
      | .bl a => some (decide (a = b))
      | _ => none)
    | _ => none
  | .IsNot => match y with
    | .non => (match x with
      | .non => some false
      | _ => some true)
    | .bl b => (match x with
      | .bl a => some (!decide (a = b))
      | _ => none)
    | _ => none
  | .In => inD x y
  | .NotIn => (inD x y).map (!·)
def ixD (x i : D) : Option D :=
  match i with
  | .int k => match x with
    | .lst xs => atI xs k
    | .tup xs => atI xs k
    | .rol xs => atI xs k
    | .str z => if z.length ≤ sizeLine then (atI z.cps.toList k).map fun c => .str ⟨#[c]⟩ else none
    | _ => none
  | _ => none
def partD (b : Bool) (d : D) : Option (Option Int) := if b = true then some none else match d with
  | .int i => some (some i)
  | _ => none
def cutD {α : Type} (xs : List α) (lo hi : Option Int) : List α := (xs.drop (HT.sIx xs.length 0 lo)).take (HT.sIx xs.length xs.length hi - HT.sIx xs.length 0 lo)
def sliceD (x : D) (lo hi : Option (Option Int)) : Out Ar :=
  match lo, hi with
  | some l, some h => (match x with
    | .lst xs => .ok (.fr (cutD xs l h))
    | .rol xs => .ok (.fr (cutD xs l h))
    | .tup xs => if HT.sIx xs.length 0 l = 0 ∧ HT.sIx xs.length xs.length h = xs.length then .ok (.v (.tup xs)) else .ok (.v (.tup (cutD xs l h)))
    | _ => .bad)
  | _, _ => .bad
/-- a class as isinstance asks for it -/
inductive Cl where
  | ty (n : String) | own (c : Nat)
  deriving DecidableEq
def tyD : D → Option String
  | .non => some "NoneType" | .bl _ => some "bool" | .int _ => some "int" | .str _ => some "str"
  | .tup _ => some "tuple" | .lst _ => some "list" | .rol _ => some "list" | .ins _ _ => none | .pr _ _ => none
def isiD (x : D) (T : Cl) : Option Bool :=
  match T with
  | .ty n => (tyD x).bind fun t => kitB t n
  | .own _ => none
/-- ints in ascending order -/
def isort (ns : List Int) : List Int := ns.mergeSort fun a b => decide (a ≤ b)
inductive Blt where
  | len | int | tuple | list | sorted | sum | max | min | max2 | min2 | abs | any | all | isi (T : Cl)
  deriving DecidableEq
def bltD (b : Blt) (xs : List D) : Out Ar :=
  match b, xs with
  | .len, [x] => (match seqOf x with
    | some ys => .ok (.v (.int ys.length))
    | none => (match x with
      | .str z => if z.length ≤ sizeLine then .ok (.v (.int z.length)) else .bad
      | _ => .bad))
  | .int, [x] => (match x with
    | .int i => .ok (.v (.int i))
    | .bl k => .ok (.v (.int (if k then 1 else 0)))
    | _ => .bad)
  | .tuple, [x] => (match x with
    | .tup ys => .ok (.v (.tup ys))
    | .lst ys => .ok (.v (.tup ys))
    | .rol ys => .ok (.v (.tup ys))
    | _ => .bad)
  | .list, [x] => (match seqOf x with
    | some ys => .ok (.fr ys)
    | none => .bad)
  | .sorted, [x] => (match x with
    | .lst ys => (match ints? ys with
      | some ns => .ok (.fr ((isort ns).map .int))
      | none => .bad)
    | _ => .bad)
  | .sum, [x] => (match x with
    | .lst ys => (match ints? ys with
      | some ns => .ok (.v (.int ns.sum))
      | none => .bad)
    | _ => .bad)
  | .max2, [.int i, .int j] => .ok (.v (.int (if j > i then j else i)))
  | .min2, [.int i, .int j] => .ok (.v (.int (if j < i then j else i)))
  | .abs, [.int i] => .ok (.v (.int (if i < 0 then -i else i)))
  | .any, [.lst ys] => (match bls? ys with
    | some bs => .ok (.v (.bl (bs.any id)))
    | none => .bad)
  | .all, [.lst ys] => (match bls? ys with
    | some bs => .ok (.v (.bl (bs.all id)))
    | none => .bad)
  | .isi T, [x] => (match isiD x T with
    | some b => .ok (.v (.bl b))
    | none => .bad)
  | _, _ => .bad

/-! ### programs -/
/-- a target; what a loop walks -/
inductive Tg where
  | nm (i : Nat) | tp (is : List Nat)
inductive ItK where
  | seq | range1 | range2 | enum | zip | chars
/-- operations on values: a field; a new instance; a method; is it of the class; methods of built-in types; reversed; sorted texts -/
inductive Op where
  | fld (c : Nat) (f : Str) | make (c : Nat) | meth (c f : Nat) | isC (c : Nat)
  | bitlen | index (t : Bool) | upper | rev (t : Bool) | sortS | sortT
  deriving DecidableEq
mutual
inductive IR where
  | slot (i : Nat) | move (i : Nat) | bor (i : Nat)
  | int (n : Int) | bl (b : Bool) | non | str (x : Str)
  | bin (o : Operator) (a b : IR) | un (o : UnaryOp) (a : IR)
  | cmp (o : CmpOp) (a b : IR) | chain (o o' : CmpOp) (a b c : IR)
  | andE (es : IRs) | orE (es : IRs) | notE (a : IR) | ife (c a b : IR)
  | cmpT (o : CmpOp) (a b : IR) | chainT (o o' : CmpOp) (a b c : IR) | inDicT (neg : Bool) (e : IR) (i : Nat)
  | tru (a : IR) | andT (es : IRs) | orT (es : IRs) | notT (a : IR)
  | tup (es : IRs) | lst (es : IRs) | ix (a i : IR) | slice (a lo hi : IR)
  | call (f : Nat) (es : IRs)
  | callK (f : Nat) (perm : List Nat) (es : IRs)
  | blt (b : Blt) (es : IRs)
  | sortRev (e : IR) | sortKey (f : Nat) (e : IR)
  | comp (t : Tg) (own : List Nat) (k : ItK) (es : IRs) (ifs : IR) (e : IR)
  | inDic (neg : Bool) (e : IR) (i : Nat) | getDic (i : Nat) (e : IR)
  | selfF (i c : Nat) (f : Str) | listDic (i : Nat)
  | op (o : Op) (es : IRs)
inductive IRs where
  | nil | cons (e : IR) (es : IRs)
end
mutual
inductive SR where
  | set (i : Nat) (e : IR) | setS (i : Nat) (e : IR) | unp (is : List Nat) (e : IR) | par (is : List Nat) (es : IRs)
  | aug (i : Nat) (o : Operator) (e : IR)
  | setIx (i : Nat) (k e : IR) | setDic (i : Nat) (k e : IR) | newDic (i : Nat)
  | app (i : Nat) (e : IR) | expr (e : IR) | ret (e : IR) | retN
  | ife (c : IR) (a b : SRs) | whl (c : IR) (b : SRs)
  | for_ (t : Tg) (k : ItK) (es : IRs) (b : SRs)
  | brk | cont | pass
  | setF (i c : Nat) (f : Str) (e : IR) | dead
inductive SRs where
  | nil | cons (s : SR) (ss : SRs)
end
def IR.isNon : IR → Bool
  | .non => true
  | _ => false
def IRs.len : IRs → Nat
  | .nil => 0
  | .cons _ es => es.len + 1

/-! ### the evaluator -/
/-- the defs' meanings; the classes' field names -/
structure Cxt where
  fn : Nat → List D → Out Ar
  fuel : Nat
  fields : Nat → List Str
  make : Nat → List D → Out Ar

def keyD : D → Option Key
  | .int i => some (.inl i)
  | .str x => some (.inr x)
  | _ => none
def putD (kvs : List (Key × D)) (k : Key) (v : D) : List (Key × D) :=
  if (kvs.any fun q => decide (q.1 = k)) = true then kvs.map (fun q => if q.1 = k then (q.1, v) else q) else kvs ++ [(k, v)]
def getD' (kvs : List (Key × D)) (k : Key) : Option D := (kvs.find? fun q => decide (q.1 = k)).map (·.2)

def zipD : List D → List D → List D
  | a :: as, b :: bs => .pr a b :: zipD as bs
  | _, _ => []
def enumD : Nat → List D → List D
  | _, [] => []
  | n, d :: ds => .pr (.int n) d :: enumD (n + 1) ds
def rangeD (lo : Int) : Nat → List D
  | 0 => []
  | n + 1 => .int lo :: rangeD (lo + 1) n
def range1D : List D → Option (List D)
  | [.int j] => if -(2 ^ 62) ≤ j ∧ j < 2 ^ 62 then some (rangeD 0 j.toNat) else none
  | _ => none
def range2D : List D → Option (List D)
  | [.int i, .int j] => if -(2 ^ 62) ≤ i ∧ i < 2 ^ 62 ∧ -(2 ^ 62) ≤ j ∧ j < 2 ^ 62 then some (rangeD i (j - i).toNat) else none
  | _ => none
def zip2D : List D → Option (List D)
  | [x, y] => match seqOf x, seqOf y with
    | some xs, some ys => if xs.length = ys.length then some (zipD xs ys) else none
    | _, _ => none
  | _ => none
def seq1D : List D → Option (List D)
  | [x] => seqOf x
  | _ => none
def charsOf (x : Str) : List D := x.cps.toList.map fun c => .str ⟨#[c]⟩
def chars1D : List D → Option (List D)
  | [.str x] => some (charsOf x)
  | _ => none
def itD (k : ItK) (xs : List D) : Option (List D) :=
  match k with
  | .seq => seq1D xs
  | .range1 => range1D xs
  | .range2 => range2D xs
  | .enum => (seq1D xs).map (enumD 0)
  | .zip => zip2D xs
  | .chars => chars1D xs

def setAll : List Nat → List D → En → En
  | i :: is, d :: ds, σ => setAll is ds (σ.set i (.val d))
  | _, _, σ => σ
def asg (t : Tg) (d : D) (σ : En) : Option En :=
  match t with
  | .nm i => some (σ.set i (.val d))
  | .tp is => match d with
    | .pr x y => if is.length = 2 then some (setAll is [x, y] σ) else none
    | .tup ds => if ds.length = is.length then some (setAll is ds σ) else none
    | .lst ds => if ds.length = is.length then some (setAll is ds σ) else none
    | .rol ds => if ds.length = is.length then some (setAll is ds σ) else none
    | _ => none
/-- own slots that are looked at -/
def lockers : List Ar → En → List Nat
  | .br i _ :: rs, σ => match σ[i]? with
    | some (.own _) => if i ∈ lockers rs σ then lockers rs σ else i :: lockers rs σ
    | _ => lockers rs σ
  | _ :: rs, σ => lockers rs σ
  | [], _ => []
def okBr : List Ar → En → Bool
  | .br i _ :: rs, σ => (match σ[i]? with
    | some (.own _) => true
    | some (.lock _) => true
    | _ => false) && okBr rs σ
  | _ :: rs, σ => okBr rs σ
  | [], _ => true
def lockAt (σ : En) (i : Nat) : En := match σ[i]? with
  | some (.own ds) => σ.set i (.lock ds)
  | _ => σ
def unlockAt (σ : En) (i : Nat) : En := match σ[i]? with
  | some (.lock ds) => σ.set i (.own ds)
  | _ => σ
def wipeE (σ : En) : List Nat → En
  | [] => σ
  | v :: vs => (wipeE σ vs).set v .un
/-- the slots is of σ as they were in τ -/
def backE (τ σ : En) : List Nat → En
  | [] => σ
  | i :: is => (backE τ σ is).set i (τ.getD i .un)
def noOwn (σ : En) (is : List Nat) : Bool := is.all fun i => match σ[i]? with
  | some (.own _) => false
  | some (.lock _) => false
  | some (.dic _) => false
  | some (.obj _ _) => false
  | _ => true
def fldD (C : Cxt) (x : D) (f : Str) : Option D :=
  match x with
  | .ins c fs => ((C.fields c).zip fs).lookup f
  | _ => none

/-- texts in order -/
def ssort (xs : List Str) : List Str := xs.mergeSort fun a b => !decide (b.cps.toList < a.cps.toList)
/-- t: of a tuple -/
def indexD (t : Bool) (x y : D) : Option Nat :=
  match x, y with
  | .tup xs, .str z => if t = true then (strs? xs).bind fun ss => ss.findIdx? fun s => decide (s = z) else none
  | .lst xs, .str z => if t = true then none else (strs? xs).bind fun ss => ss.findIdx? fun s => decide (s = z)
  | .rol xs, .str z => if t = true then none else (strs? xs).bind fun ss => ss.findIdx? fun s => decide (s = z)
  | _, _ => none
def isCD (x : D) (c : Nat) : Option Bool :=
  match x with
  | .ins k _ => if k = c then some true else none
  | .pr _ _ => none
  | _ => some false
def keyV : Key → D
  | .inl i => .int i
  | .inr x => .str x
/-- rows of a number, a tuple of numbers, a number: in the order of Python -/
abbrev Trip := Int × List Int × Int
def trip? : D → Option Trip
  | .tup [.int a, .tup ns, .int b] => (ints? ns).map fun ms => (a, ms, b)
  | _ => none
def trips? : List D → Option (List Trip)
  | [] => some []
  | d :: ds => match trip? d, trips? ds with
    | some x, some xs => some (x :: xs)
    | _, _ => none
def trD (t : Trip) : D := .tup [.int t.1, .tup (t.2.1.map .int), .int t.2.2]
def ltT (s t : Trip) : Bool := if s.1 = t.1 then (if s.2.1 = t.2.1 then decide (s.2.2 < t.2.2) else HT.lexLt s.2.1 t.2.1) else decide (s.1 < t.1)
def tsort (ts : List Trip) : List Trip := ts.mergeSort fun a b => !ltT b a
def opD (C : Cxt) (o : Op) (xs : List D) : Out Ar :=
  match o with
  | .fld c f => (match xs with
    | [.ins k fs] => if k = c then ob (((C.fields c).zip fs).lookup f) |>.bnd fun d => .ok (.v d) else .bad
    | _ => .bad)
  | .make c => C.make c xs
  | .meth c f => (match xs with
    | .ins k fs :: ds => if k = c then C.fn f (.ins k fs :: ds) else .bad
    | _ => .bad)
  | .isC c => (match xs with
    | [x] => (match isCD x c with
      | some b => .ok (.v (.bl b))
      | none => .bad)
    | _ => .bad)
  | .bitlen => (match xs with
    | [.int i] => .ok (.v (.int (Builtin.Int.intBits i : Nat)))
    | _ => .bad)
  | .index t => (match xs with
    | [x, y] => (match indexD t x y with
      | some k => .ok (.v (.int (k : Nat)))
      | none => .bad)
    | _ => .bad)
  | .upper => (match xs with
    | [.str x] => if x.length ≤ 5592405 then .ok (.v (.str (Txt.upper x))) else .bad
    | _ => .bad)
  | .rev t => (match xs with
    | [x] => (match seqOf x with
      | some ys => if t = true then .ok (.v (.tup ys.reverse)) else .ok (.fr ys.reverse)
      | none => .bad)
    | _ => .bad)
  | .sortT => (match xs with
    | [.lst ys] => (match trips? ys with
      | some ts => .ok (.fr ((tsort ts).map trD))
      | none => .bad)
    | _ => .bad)
  | .sortS => (match xs with
    | [.lst ys] => (match strs? ys with
      | some ss => if ss.length < 64 then .ok (.fr ((ssort ss).map .str)) else .bad
      | none => .bad)
    | _ => .bad)

/-- a stable sort by keys -/
def kins {α : Type} (k : Int) (a : α) : List (Int × α) → List (Int × α)
  | [] => [(k, a)]
  | q :: r => if k ≤ q.1 then (k, a) :: q :: r else q :: kins k a r
def ksort {α : Type} : List (Int × α) → List (Int × α)
  | [] => []
  | q :: r => kins q.1 q.2 (ksort r)
def keysD (m : List D → Out Ar) : List D → Out (List Int)
  | [] => .ok []
  | d :: ds => (m [d]).bnd fun r => match r with
    | .v (.int k) => (keysD m ds).bnd fun ks => .ok (k :: ks)
    | _ => .bad
def consO : Option D → List D → List D
  | some y, ys => y :: ys
  | none, ys => ys
/-- one turn after another of a comprehension -/
def compLoop (turn : D → En → Out (Option D × En)) : List D → En → Out (List D × En)
  | [], σ => .ok ([], σ)
  | x :: xs, σ => (turn x σ).bnd fun o => (compLoop turn xs o.2).bnd fun z => .ok (consO o.1 z.1, z.2)

def sq (x : Out (Ar × En)) : Out (Ar × En) := x.bnd fun p => .ok (p.1.seal, p.2)
mutual
def ev (C : Cxt) : IR → En → Out (Ar × En)
  | .slot i, σ => match σ[i]? with
    | some (.val d) => .ok (.v d, σ)
    | some (.own ds) => .ok (.v (.lst ds), σ.set i (.val (.lst ds)))
    | _ => .bad
  | .move i, σ => match σ[i]? with
    | some (.val d) => .ok (.v d, σ)
    | some (.own ds) => .ok (.fr ds, σ.set i .un)
    | _ => .bad
  | .bor i, σ => match σ[i]? with
    | some (.val d) => .ok (.v d, σ)
    | some (.own ds) => .ok (.br i ds, σ)
    | some (.lock ds) => .ok (.br i ds, σ)
    | _ => .bad
  | .int n, σ => .ok (.v (.int n), σ)
  | .bl b, σ => .ok (.v (.bl b), σ)
  | .non, σ => .ok (.v .non, σ)
  | .str x, σ => .ok (.v (.str x), σ)
  | .bin o a b, σ => (sq (ev C a σ)).bnd fun (x, σ1) => (sq (ev C b σ1)).bnd fun (y, σ2) => (binD o x.view y.view).bnd fun r => .ok (r, σ2)
  | .un o a, σ => (sq (ev C a σ)).bnd fun (x, σ1) => (unD o x.view).bnd fun r => .ok (r, σ1)
  | .cmp o a b, σ => (sq (ev C a σ)).bnd fun (x, σ1) => (sq (ev C b σ1)).bnd fun (y, σ2) => (ob (cmpD o x.view y.view)).bnd fun r => .ok (.v (.bl r), σ2)
  | .chain o o' a b c, σ => (sq (ev C a σ)).bnd fun (x, σ1) => (sq (ev C b σ1)).bnd fun (y, σ2) => (ob (cmpD o x.view y.view)).bnd fun r =>
      if r = true then (sq (ev C c σ2)).bnd fun (z, σ3) => (ob (cmpD o' y.view z.view)).bnd fun r' => .ok (.v (.bl r'), σ3)
      else .ok (.v (.bl false), σ2)
  | .cmpT o a b, σ => (sq (ev C a σ)).bnd fun (x, σ1) => (sq (ev C b σ1)).bnd fun (y, σ2) => (ob (cmpD o x.view y.view)).bnd fun r => .ok (.v (.bl r), σ2)
  | .chainT o o' a b c, σ => (sq (ev C a σ)).bnd fun (x, σ1) => (sq (ev C b σ1)).bnd fun (y, σ2) => (ob (cmpD o x.view y.view)).bnd fun r =>
      if r = true then (sq (ev C c σ2)).bnd fun (z, σ3) => (ob (cmpD o' y.view z.view)).bnd fun r' => .ok (.v (.bl r'), σ3)
      else .ok (.v (.bl false), σ2)
  | .andE es, σ => evAnd C es σ
  | .orE es, σ => evOr C es σ
  | .tru a, σ => (sq (ev C a σ)).bnd fun (x, σ1) => (ob (truthD x.view)).bnd fun b => .ok (.v (.bl b), σ1)
  | .andT es, σ => evAndT C es σ
  | .orT es, σ => evOrT C es σ
  | .notT a, σ => (ev C a σ).bnd fun (x, σ1) => match x with
    | .v (.bl b) => .ok (.v (.bl (!b)), σ1)
    | _ => .bad
  | .notE a, σ => (sq (ev C a σ)).bnd fun (x, σ1) => match x.view with
    | .bl b => .ok (.v (.bl (!b)), σ1)
    | _ => .bad
  | .ife c a b, σ => (ev C c σ).bnd fun (k, σ1) => match k with
    | .v (.bl k) => if k = true then sq (ev C a σ1) else sq (ev C b σ1)
    | _ => .bad
  | .tup es, σ => (evs C es σ).bnd fun (rs, σ1) => if rs.any Ar.isB then .bad else if rs.length ≤ sizeLine then .ok (.v (.tup (rs.map Ar.view)), σ1) else .bad
  | .lst es, σ => (evs C es σ).bnd fun (rs, σ1) => if rs.any Ar.isB then .bad else if rs.length ≤ sizeLine then .ok (.fr (rs.map Ar.view), σ1) else .bad
  | .ix a i, σ => (sq (ev C a σ)).bnd fun (x, σ1) => (sq (ev C i σ1)).bnd fun (y, σ2) => (ob (ixD x.view y.view)).bnd fun r => .ok (.v r, σ2)
  | .slice a lo hi, σ => (sq (ev C a σ)).bnd fun (x, σ1) => (sq (ev C lo σ1)).bnd fun (l, σ2) => (sq (ev C hi σ2)).bnd fun (h, σ3) => (sliceD x.view (partD lo.isNon l.view) (partD hi.isNon h.view)).bnd fun r => .ok (r, σ3)
  | .call f es, σ => (evs C es σ).bnd fun (rs, σ1) => (C.fn f (rs.map Ar.view)).bnd fun r => if rs.any Ar.isB && !r.noL then .bad else .ok (r, σ1)
  | .callK f perm es, σ => (evs C es σ).bnd fun (rs, σ1) => (C.fn f (perm.map fun j => (rs.map Ar.view).getD j .non)).bnd fun r => if rs.any Ar.isB && !r.noL then .bad else .ok (r, σ1)
  | .blt b es, σ => (evs C es σ).bnd fun (rs, σ1) => (bltD b (rs.map Ar.view)).bnd fun r => .ok (r, σ1)
  | .sortRev e, σ => (sq (ev C e σ)).bnd fun (x, σ1) => match x.view with
    | .lst ys => (match ints? ys with
      | some ns => .ok (.fr ((isort ns).reverse.map .int), σ1)
      | none => .bad)
    | _ => .bad
  | .sortKey f e, σ => (sq (ev C e σ)).bnd fun (x, σ1) => match x.view with
    | .lst ys => (keysD (C.fn f) ys).bnd fun ks => .ok (.fr ((ksort (ks.zip ys)).map (·.2)), σ1)
    | _ => .bad
  | .comp t own k es ifs e, σ => (evs C es σ).bnd fun (rs, σ1) =>
      match itD k (rs.map Ar.view) with
      | none => .bad
      | some xs => if noOwn ((lockers rs σ1).foldl lockAt σ1) own && okBr rs σ1 then
          (compLoop (fun x τ => match asg t x τ with
            | none => .bad
            | some τ1 => (ev C ifs τ1).bnd fun (kv, τ2) => match kv with
              | .v (.bl k) => if k = true then (sq (ev C e τ2)).bnd fun (r, τ3) => if r.isB then .bad else .ok (some r.view, wipeE τ3 own)
                else .ok (none, wipeE τ2 own)
              | _ => .bad) xs (wipeE ((lockers rs σ1).foldl lockAt σ1) own)).bnd fun (ys, σ2) =>
            if ys.length ≤ sizeLine then .ok (.fr ys, (lockers rs σ1).foldr (fun i τ => unlockAt τ i) (backE ((lockers rs σ1).foldl lockAt σ1) σ2 own)) else .bad
        else .bad
  | .inDic neg e i, σ => (sq (ev C e σ)).bnd fun (x, σ1) => match keyD x.view, σ1[i]? with
    | some k, some (.dic kvs) => .ok (.v (.bl (if neg then !(getD' kvs k).isSome else (getD' kvs k).isSome)), σ1)
    | _, _ => .bad
  | .inDicT neg e i, σ => (sq (ev C e σ)).bnd fun (x, σ1) => match keyD x.view, σ1[i]? with
    | some k, some (.dic kvs) => .ok (.v (.bl (if neg then !(getD' kvs k).isSome else (getD' kvs k).isSome)), σ1)
    | _, _ => .bad
  | .getDic i e, σ => (sq (ev C e σ)).bnd fun (x, σ1) => match keyD x.view, σ1[i]? with
    | some k, some (.dic kvs) => (ob (getD' kvs k)).bnd fun r => .ok (.v r, σ1)
    | _, _ => .bad
  | .selfF i c f, σ => match σ[i]? with
    | some (.obj k fs) => if k = c then (ob (((C.fields c).zip fs).lookup f)).bnd fun r => .ok (.v r, σ) else .bad
    | _ => .bad
  | .listDic i, σ => match σ[i]? with
    | some (.dic kvs) => .ok (.fr (kvs.map fun q => keyV q.1), σ)
    | _ => .bad
  | .op o es, σ => (evs C es σ).bnd fun (rs, σ1) => (opD C o (rs.map Ar.view)).bnd fun r => if rs.any Ar.isB && !r.noL then .bad else .ok (r, σ1)
def evs (C : Cxt) : IRs → En → Out (List Ar × En)
  | .nil, σ => .ok ([], σ)
  | .cons e es, σ => (sq (ev C e σ)).bnd fun (r, σ1) => (evs C es σ1).bnd fun (rs, σ2) => .ok (r :: rs, σ2)
def evAnd (C : Cxt) : IRs → En → Out (Ar × En)
  | .nil, _ => .bad
  | .cons e es, σ => match es with
    | .nil => sq (ev C e σ)
    | .cons _ _ => (sq (ev C e σ)).bnd fun (x, σ1) => match x.view with
      | .bl b => if b = true then evAnd C es σ1 else .ok (.v (.bl false), σ1)
      | _ => .bad
def evOr (C : Cxt) : IRs → En → Out (Ar × En)
  | .nil, _ => .bad
  | .cons e es, σ => match es with
    | .nil => sq (ev C e σ)
    | .cons _ _ => (sq (ev C e σ)).bnd fun (x, σ1) => match x.view with
      | .bl b => if b = true then .ok (.v (.bl true), σ1) else evOr C es σ1
      | _ => .bad
def evAndT (C : Cxt) : IRs → En → Out (Ar × En)
  | .nil, σ => .ok (.v (.bl true), σ)
  | .cons e es, σ => (ev C e σ).bnd fun (x, σ1) => match x with
      | .v (.bl b) => if b = true then evAndT C es σ1 else .ok (.v (.bl false), σ1)
      | _ => .bad
def evOrT (C : Cxt) : IRs → En → Out (Ar × En)
  | .nil, σ => .ok (.v (.bl false), σ)
  | .cons e es, σ => (ev C e σ).bnd fun (x, σ1) => match x with
      | .v (.bl b) => if b = true then .ok (.v (.bl true), σ1) else evOrT C es σ1
      | _ => .bad
end

/-- how a statement ends -/
inductive Fl where
  | nx | bk | ct | rt (r : Ar)
def forLoop (t : Tg) (body : En → Out (Fl × En)) : List D → En → Out (Fl × En)
  | [], σ => .ok (.nx, σ)
  | x :: xs, σ => match asg t x σ with
    | none => .bad
    | some σ1 => (body σ1).bnd fun (f, σ2) => match f with
      | .nx => forLoop t body xs σ2
      | .ct => forLoop t body xs σ2
      | .bk => .ok (.nx, σ2)
      | .rt r => .ok (.rt r, σ2)
def whileLoop (c : En → Out (Ar × En)) (body : En → Out (Fl × En)) : Nat → En → Out (Fl × En)
  | 0, _ => .bad
  | n + 1, σ => (c σ).bnd fun (k, σ1) => match k with
    | .v (.bl k) => if k = true then (body σ1).bnd fun (f, σ2) => (match f with
        | .nx => whileLoop c body n σ2
        | .ct => whileLoop c body n σ2
        | .bk => .ok (.nx, σ2)
        | .rt r => .ok (.rt r, σ2))
      else .ok (.nx, σ1)
    | _ => .bad
def augD (o : Operator) (x y : D) : Out Ar :=
  match o, x, y with
  | .Add, .int i, .int j => .ok (.v (.int (i + j)))
  | .Sub, .int i, .int j => .ok (.v (.int (i - j)))
  | .Mult, .int i, .int j => if CMul i j then .ok (.v (.int (i * j))) else .bad
  | .BitAnd, .int i, .int j => .ok (.v (.int (Builtin.bitAnd i j)))
  | .BitOr, .int i, .int j => .ok (.v (.int (Builtin.bitOr i j)))
  | .BitXor, .int i, .int j => .ok (.v (.int (Builtin.bitXor i j)))
  | .Add, .str i, .str j => if i.length + j.length ≤ sizeLine then .ok (.v (.str (i ++ j))) else .bad
  | _, _, _ => .bad
mutual
def ex (C : Cxt) : SR → En → Out (Fl × En)
  | .set i e, σ => (ev C e σ).bnd fun (r, σ1) => match r with
    | .v d => .ok (.nx, σ1.set i (.val d))
    | .fr ds => .ok (.nx, σ1.set i (.own ds))
    | .br _ _ => .bad
  | .setS i e, σ => (sq (ev C e σ)).bnd fun (r, σ1) => match r with
    | .v d => .ok (.nx, σ1.set i (.val d))
    | _ => .bad
  | .unp is e, σ => (sq (ev C e σ)).bnd fun (r, σ1) => match r with
    | .v (.tup ds) => if ds.length = is.length then .ok (.nx, setAll is ds σ1) else .bad
    | _ => .bad
  | .par is es, σ => (evs C es σ).bnd fun (rs, σ1) => if rs.any Ar.isB then .bad else if rs.length = is.length then .ok (.nx, setAll is (rs.map Ar.view) σ1) else .bad
  | .aug i o e, σ => match σ[i]? with
    | some (.val x) => (sq (ev C e σ)).bnd fun (r, σ1) => (augD o x r.view).bnd fun z => match z with
      | .v d => .ok (.nx, σ1.set i (.val d))
      | _ => .bad
    | _ => .bad
  | .setIx i k e, σ => (sq (ev C e σ)).bnd fun z => match z.1, z.2[i]? with
    | .v d, some (.own _) => (sq (ev C k z.2)).bnd fun q => (match q.2[i]?, q.1.view with
      | some (.own ds), .int n => (match ixN ds.length n with
        | some j => .ok (.nx, q.2.set i (.own (ds.set j d)))
        | none => .bad)
      | _, _ => .bad)
    | _, _ => .bad
  | .setDic i k e, σ => (sq (ev C e σ)).bnd fun z => match z.1, z.2[i]? with
    | .v d, some (.dic _) => (sq (ev C k z.2)).bnd fun q => (match q.2[i]?, keyD q.1.view with
      | some (.dic kvs), some k => if kvs.length < sizeLine then .ok (.nx, q.2.set i (.dic (putD kvs k d))) else .bad
      | _, _ => .bad)
    | _, _ => .bad
  | .newDic i, σ => .ok (.nx, σ.set i (.dic []))
  | .app i e, σ => match σ[i]? with
    | some (.own _) => (sq (ev C e σ)).bnd fun (r, σ1) => (match r, σ1[i]? with
      | .v d, some (.own ds) => if ds.length < sizeLine then .ok (.nx, σ1.set i (.own (ds ++ [d]))) else .bad
      | _, _ => .bad)
    | _ => .bad
  | .expr e, σ => (sq (ev C e σ)).bnd fun (_, σ1) => .ok (.nx, σ1)
  | .ret e, σ => (ev C e σ).bnd fun (r, σ1) => if r.isB then .bad else .ok (.rt r, σ1)
  | .retN, σ => .ok (.rt (.v .non), σ)
  | .ife c a b, σ => (ev C c σ).bnd fun (k, σ1) => match k with
    | .v (.bl k) => if k = true then exs C a σ1 else exs C b σ1
    | _ => .bad
  | .whl c b, σ => whileLoop (ev C c) (exs C b) C.fuel σ
  | .for_ t k es b, σ => (evs C es σ).bnd fun (rs, σ1) => match itD k (rs.map Ar.view) with
    | none => .bad
    | some xs => if okBr rs σ1 then (forLoop t (exs C b) xs ((lockers rs σ1).foldl lockAt σ1)).bnd fun (f, σ2) => .ok (f, (lockers rs σ1).foldr (fun i τ => unlockAt τ i) σ2) else .bad
  | .brk, σ => .ok (.bk, σ)
  | .cont, σ => .ok (.ct, σ)
  | .pass, σ => .ok (.nx, σ)
  | .setF i c f e, σ => (sq (ev C e σ)).bnd fun (r, σ1) => match r, σ1[i]? with
    | .v d, some (.obj k fs) => if k = c ∧ (C.fields c)[fs.length]? = some f then .ok (.nx, σ1.set i (.obj c (fs ++ [d]))) else .bad
    | _, _ => .bad
  | .dead, _ => .bad
def exs (C : Cxt) : SRs → En → Out (Fl × En)
  | .nil, σ => .ok (.nx, σ)
  | .cons s ss, σ => (ex C s σ).bnd fun (f, σ1) => match f with
    | .nx => exs C ss σ1
    | .bk => .ok (.bk, σ1)
    | .ct => .ok (.ct, σ1)
    | .rt r => .ok (.rt r, σ1)
end
/-- a def: how many slots, its body -/
structure Df where
  slots : Nat
  arity : Nat
  body : SRs
def run (C : Cxt) (d : Df) (xs : List D) : Out Ar :=
  if xs.length = d.arity then
    (exs C d.body (xs.map Sl.val ++ List.replicate (d.slots - xs.length) .un)).bnd fun (f, _) => match f with
      | .rt r => if r.isB then .bad else .ok r
      | .nx => .ok (.v .non)
      | _ => .bad
  else .bad

/-- an __init__: the instance that is made of the arguments -/
def runI (C : Cxt) (c : Nat) (d : Df) (xs : List D) : Out Ar :=
  if xs.length + 1 = d.arity then
    (exs C d.body (.obj c [] :: (xs.map Sl.val ++ List.replicate (d.slots - (xs.length + 1)) .un))).bnd fun (f, σ) => match f, σ with
      | .nx, .obj k fs :: _ => if k = c ∧ fs.length = (C.fields c).length then .ok (.v (.ins c fs)) else .bad
      | _, _ => .bad
  else .bad

/-! ### data in the heap -/
structure Par where
  K : PySem.W.Frag
  cl : Nat → Addr
  fields : Nat → List Str
/-- a tuple that is known to have no dict -/
def TupS (S : Hp) (a : Addr) (vs : List V) : Prop := ∃ o : Obj, S a = some (.frz o (.tup vs)) ∧ o.dict = none
theorem TupS.sqT {K : PySem.W.Frag} {S : Hp} {a : Addr} {vs : List V} (h : TupS S a vs) : SqT K S a vs := h.elim fun o q => .inl (.inr ⟨o, q.1⟩)
section
variable (p : Par)
mutual
def Rep (S : Hp) : D → V → Prop
  | .non, v => v = .non
  | .bl b, v => v = .bl b
  | .int i, v => v = .int i
  | .str x, v => v = .str x
  | .tup xs, v => ∃ a vs, v = .ref a ∧ TupS S a vs ∧ Reps S xs vs
  | .pr x y, v => ∃ t v1 v2, v = .ref t ∧ SqT p.K S t [v1, v2] ∧ Rep S x v1 ∧ Rep S y v2
  | .lst xs, v => ∃ a vs, v = .ref a ∧ Rd S a (.lst vs) ∧ Reps S xs vs
  | .rol xs, v => ∃ a vs, v = .ref a ∧ SqL p.K S a vs ∧ Reps S xs vs
  | .ins c fs, v => ∃ a dx vs, v = .ref a ∧ S a = some (.ins (p.cl c) dx ((p.fields c).zip vs)) ∧ Reps S fs vs
def Reps (S : Hp) : List D → List V → Prop
  | [], vs => vs = []
  | d :: ds, vs => ∃ v r, vs = v :: r ∧ Rep S d v ∧ Reps S ds r
end
end
def Sub (S S' : Hp) : Prop := ∀ a o, S a = some o → S' a = some o
theorem Sub.refl (S : Hp) : Sub S S := fun _ _ h => h
theorem Sub.trans {A B C : Hp} (x : Sub A B) (y : Sub B C) : Sub A C := fun a o h => y a o (x a o h)
section
variable {p : Par} {S S' : Hp}
theorem Rd.sub (h : Sub S S') {a : Addr} {u : HO} (r : Rd S a u) : Rd S' a u := by
  rcases r with r | ⟨o, r⟩
  · exact .inl (h _ _ r)
  · exact .inr ⟨o, h _ _ r⟩
theorem SqL.sub {K : PySem.W.Frag} (h : Sub S S') {a : Addr} {u : List V} (r : SqL K S a u) : SqL K S' a u := r.imp (DS.Rd.sub h) id
theorem SqT.sub {K : PySem.W.Frag} (h : Sub S S') {a : Addr} {u : List V} (r : SqT K S a u) : SqT K S' a u := r.imp (DS.Rd.sub h) id
mutual
theorem Rep.sub (h : Sub S S') : ∀ (d : D) (v : V), Rep p S d v → Rep p S' d v
  | .non, _, r => r
  | .bl _, _, r => r
  | .int _, _, r => r
  | .str _, _, r => r
  | .tup xs, v, r => by
    obtain ⟨a, vs, e, q, rr⟩ := (show ∃ a vs, v = .ref a ∧ TupS S a vs ∧ Reps p S xs vs from r)
    exact ⟨a, vs, e, q.elim fun o z => ⟨o, h _ _ z.1, z.2⟩, Reps.sub h xs vs rr⟩
  | .pr x y, v, r => by
    obtain ⟨t, v1, v2, e, q, r1, r2⟩ := (show ∃ t v1 v2, v = .ref t ∧ SqT p.K S t [v1, v2] ∧ Rep p S x v1 ∧ Rep p S y v2 from r)
    exact ⟨t, v1, v2, e, DS.SqT.sub h q, Rep.sub h x v1 r1, Rep.sub h y v2 r2⟩
  | .lst xs, v, r => by
    obtain ⟨a, vs, e, q, rr⟩ := (show ∃ a vs, v = .ref a ∧ Rd S a (.lst vs) ∧ Reps p S xs vs from r)
    exact ⟨a, vs, e, DS.Rd.sub h q, Reps.sub h xs vs rr⟩
  | .rol xs, v, r => by
    obtain ⟨a, vs, e, q, rr⟩ := (show ∃ a vs, v = .ref a ∧ SqL p.K S a vs ∧ Reps p S xs vs from r)
    exact ⟨a, vs, e, DS.SqL.sub h q, Reps.sub h xs vs rr⟩
  | .ins c fs, v, r => by
    obtain ⟨a, dx, vs, e, q, rr⟩ := (show ∃ a dx vs, v = .ref a ∧ S a = some (.ins (p.cl c) dx ((p.fields c).zip vs)) ∧ Reps p S fs vs from r)
    exact ⟨a, dx, vs, e, h _ _ q, Reps.sub h fs vs rr⟩
theorem Reps.sub (h : Sub S S') : ∀ (ds : List D) (vs : List V), Reps p S ds vs → Reps p S' ds vs
  | [], _, r => r
  | d :: ds, vs, r => by
    obtain ⟨v, q, e, r1, r2⟩ := (show ∃ v q, vs = v :: q ∧ Rep p S d v ∧ Reps p S ds q from r)
    exact ⟨v, q, e, Rep.sub h d v r1, Reps.sub h ds q r2⟩
end
theorem Reps.length : ∀ {ds : List D} {vs : List V}, Reps p S ds vs → ds.length = vs.length
  | [], _, r => by
    cases (show _ = [] from r)
    rfl
  | d :: ds, vs, r => by
    obtain ⟨v, q, e, r1, r2⟩ := (show ∃ v q, vs = v :: q ∧ Rep p S d v ∧ Reps p S ds q from r)
    subst e
    exact congrArg (· + 1) (Reps.length r2)
theorem Reps.get : ∀ {ds : List D} {vs : List V} {i : Nat} {d : D}, Reps p S ds vs → ds[i]? = some d → ∃ v, vs[i]? = some v ∧ Rep p S d v
  | [], _, _, _, r, h => by simp at h
  | d :: ds, vs, i, d', r, h => by
    obtain ⟨v, q, e, r1, r2⟩ := (show ∃ v q, vs = v :: q ∧ Rep p S d v ∧ Reps p S ds q from r)
    subst e
    cases i with
    | zero => simp at h; subst h; exact ⟨v, rfl, r1⟩
    | succ i => exact Reps.get (i := i) r2 (by simpa using h)
theorem Reps.get' : ∀ {ds : List D} {vs : List V} {i : Nat} {v : V}, Reps p S ds vs → vs[i]? = some v → ∃ d, ds[i]? = some d ∧ Rep p S d v
  | [], vs, _, _, r, h => by
    cases (show vs = [] from r)
    simp at h
  | d :: ds, vs, i, v', r, h => by
    obtain ⟨v, q, e, r1, r2⟩ := (show ∃ v q, vs = v :: q ∧ Rep p S d v ∧ Reps p S ds q from r)
    subst e
    cases i with
    | zero => simp at h; subst h; exact ⟨d, rfl, r1⟩
    | succ i => exact Reps.get' (i := i) r2 (by simpa using h)
theorem Reps.append : ∀ {ds es : List D} {vs us : List V}, Reps p S ds vs → Reps p S es us → Reps p S (ds ++ es) (vs ++ us)
  | [], _, vs, _, r, q => by
    cases (show vs = [] from r)
    exact q
  | d :: ds, es, vs, us, r, q => by
    obtain ⟨v, q', e, r1, r2⟩ := (show ∃ v q, vs = v :: q ∧ Rep p S d v ∧ Reps p S ds q from r)
    subst e
    exact ⟨v, q' ++ us, rfl, r1, Reps.append r2 q⟩
theorem Reps.one {d : D} {v : V} (r : Rep p S d v) : Reps p S [d] [v] := ⟨v, [], rfl, r, rfl⟩
theorem Reps.set : ∀ {ds : List D} {vs : List V} (i : Nat) {d : D} {v : V}, Reps p S ds vs → Rep p S d v → Reps p S (ds.set i d) (vs.set i v)
  | [], vs, _, _, _, r, _ => by
    cases (show vs = [] from r)
    exact rfl
  | d :: ds, vs, i, d', v', r, q => by
    obtain ⟨v, q', e, r1, r2⟩ := (show ∃ v q, vs = v :: q ∧ Rep p S d v ∧ Reps p S ds q from r)
    subst e
    cases i with
    | zero => exact ⟨v', q', rfl, q, r2⟩
    | succ i => exact ⟨v, q'.set i v', rfl, r1, Reps.set i r2 q⟩
theorem Reps.drop : ∀ {ds : List D} {vs : List V} (n : Nat), Reps p S ds vs → Reps p S (ds.drop n) (vs.drop n)
  | ds, vs, 0, r => r
  | [], vs, n + 1, r => by
    cases (show vs = [] from r)
    exact rfl
  | d :: ds, vs, n + 1, r => by
    obtain ⟨v, q', e, r1, r2⟩ := (show ∃ v q, vs = v :: q ∧ Rep p S d v ∧ Reps p S ds q from r)
    subst e
    exact Reps.drop n r2
theorem Reps.take : ∀ {ds : List D} {vs : List V} (n : Nat), Reps p S ds vs → Reps p S (ds.take n) (vs.take n)
  | ds, vs, 0, r => rfl
  | [], vs, n + 1, r => by
    cases (show vs = [] from r)
    exact rfl
  | d :: ds, vs, n + 1, r => by
    obtain ⟨v, q', e, r1, r2⟩ := (show ∃ v q, vs = v :: q ∧ Rep p S d v ∧ Reps p S ds q from r)
    subst e
    exact ⟨v, q'.take n, rfl, r1, Reps.take n r2⟩
theorem Reps.cut {ds : List D} {vs : List V} (lo hi : Option Int) (r : Reps p S ds vs) : Reps p S (cutD ds lo hi) (cutV vs lo hi) := by
  unfold cutD cutV
  rw [r.length]
  exact (r.drop _).take _
theorem Reps.rep {ds : List D} {vs : List V} (r : Reps p S ds vs) : ∀ n : Nat, Reps p S (List.replicate n ds).flatten (List.replicate n vs).flatten
  | 0 => rfl
  | n + 1 => by
    rw [List.replicate_succ, List.replicate_succ, List.flatten_cons, List.flatten_cons]
    exact r.append (Reps.rep r n)
theorem Reps.ints : ∀ {ns : List Int} {vs : List V}, Reps p S (ns.map D.int) vs ↔ vs = ns.map V.int
  | [], vs => Iff.rfl
  | n :: ns, vs => by
    constructor
    · intro r
      obtain ⟨v, q, e, r1, r2⟩ := (show ∃ v q, vs = v :: q ∧ Rep p S (.int n) v ∧ Reps p S (ns.map D.int) q from r)
      cases (show v = .int n from r1)
      rw [e, Reps.ints.mp r2]
      rfl
    · intro e
      exact ⟨.int n, ns.map V.int, e, rfl, Reps.ints.mpr rfl⟩
theorem ints?_eq : ∀ {ds : List D} {ns : List Int}, ints? ds = some ns → ds = ns.map D.int
  | [], ns, h => by
    simp [ints?] at h
    subst h
    rfl
  | d :: ds, ns, h => by
    cases d with
    | int i =>
      simp only [ints?, Option.map_eq_some_iff] at h
      obtain ⟨ms, h1, h2⟩ := h
      subst h2
      rw [ints?_eq h1]
      rfl
    | _ => simp [ints?] at h
theorem bls?_eq : ∀ {ds : List D} {ns : List Bool}, bls? ds = some ns → ds = ns.map D.bl
  | [], ns, h => by
    simp [bls?] at h
    subst h
    rfl
  | d :: ds, ns, h => by
    cases d with
    | bl i =>
      simp only [bls?, Option.map_eq_some_iff] at h
      obtain ⟨ms, h1, h2⟩ := h
      subst h2
      rw [bls?_eq h1]
      rfl
    | _ => simp [bls?] at h
theorem Reps.bls : ∀ {ns : List Bool} {vs : List V}, Reps p S (ns.map D.bl) vs → vs = ns.map V.bl
  | [], vs, r => r
  | n :: ns, vs, r => by
    obtain ⟨v, q, e, r1, r2⟩ := (show ∃ v q, vs = v :: q ∧ Rep p S (.bl n) v ∧ Reps p S (ns.map D.bl) q from r)
    cases (show v = .bl n from r1)
    rw [e, Reps.bls r2]
    rfl
theorem flat?_rep : ∀ {d : D} {v w : V}, flat? d = some w → Rep p S d v → v = w ∧ flatV w = true
  | .non, v, w, h, r => by
    cases h
    exact ⟨r, rfl⟩
  | .bl b, v, w, h, r => by
    cases h
    exact ⟨r, rfl⟩
  | .int b, v, w, h, r => by
    cases h
    exact ⟨r, rfl⟩
  | .str b, v, w, h, r => by
    cases h
    exact ⟨r, rfl⟩
  | .tup _, v, w, h, r => by cases h
  | .lst _, v, w, h, r => by cases h
  | .rol _, v, w, h, r => by cases h
  | .ins _ _, v, w, h, r => by cases h
  | .pr _ _, v, w, h, r => by cases h
theorem flats?_rep : ∀ {ds : List D} {vs ws : List V}, flats? ds = some ws → Reps p S ds vs → vs = ws ∧ ws.all flatV = true
  | [], vs, ws, h, r => by
    simp [flats?] at h
    subst h
    exact ⟨r, rfl⟩
  | d :: ds, vs, ws, h, r => by
    obtain ⟨v, q, e, r1, r2⟩ := (show ∃ v q, vs = v :: q ∧ Rep p S d v ∧ Reps p S ds q from r)
    simp only [flats?] at h
    split at h
    · rename_i x xs h1 h2
      cases h
      obtain ⟨e1, f1⟩ := flat?_rep h1 r1
      obtain ⟨e2, f2⟩ := flats?_rep h2 r2
      subst e1 e2
      exact ⟨e, by simp [f1, f2]⟩
    · cases h
mutual
theorem toPD_rep {K : PySem.W.Frag} (hK : p.K = K) : ∀ {d : D} {v : V} {x : PyData}, toPD d = some x → Rep p S d v → Dp K S v x
  | .non, v, x, h, r => by
    cases h
    cases (show v = _ from r)
    exact .non
  | .bl b, v, x, h, r => by
    cases h
    cases (show v = _ from r)
    exact .bl b
  | .int i, v, x, h, r => by
    cases h
    cases (show v = _ from r)
    exact .int i
  | .str i, v, x, h, r => by
    cases h
    cases (show v = _ from r)
    exact .str i
  | .tup xs, v, x, h, r => by
    obtain ⟨a, vs, e, q, rr⟩ := (show ∃ a vs, v = .ref a ∧ TupS S a vs ∧ Reps p S xs vs from r)
    simp only [toPD, Option.map_eq_some_iff] at h
    obtain ⟨ys, h1, h2⟩ := h
    subst h2 e hK
    exact .tup q.sqT (toPDs_rep rfl h1 rr)
  | .lst xs, v, x, h, r => by
    obtain ⟨a, vs, e, q, rr⟩ := (show ∃ a vs, v = .ref a ∧ Rd S a (.lst vs) ∧ Reps p S xs vs from r)
    simp only [toPD, Option.map_eq_some_iff] at h
    obtain ⟨ys, h1, h2⟩ := h
    subst h2 e
    exact .lst (.inl q) (toPDs_rep hK h1 rr)
  | .rol xs, v, x, h, r => by
    obtain ⟨a, vs, e, q, rr⟩ := (show ∃ a vs, v = .ref a ∧ SqL p.K S a vs ∧ Reps p S xs vs from r)
    simp only [toPD, Option.map_eq_some_iff] at h
    obtain ⟨ys, h1, h2⟩ := h
    subst h2 e hK
    exact .lst q (toPDs_rep rfl h1 rr)
  | .ins _ _, v, x, h, r => by cases h
  | .pr _ _, v, x, h, r => by cases h
theorem toPDs_rep {K : PySem.W.Frag} (hK : p.K = K) : ∀ {ds : List D} {vs : List V} {xs : List PyData}, toPDs ds = some xs → Reps p S ds vs → DpAll K S vs xs
  | [], vs, xs, h, r => by
    simp only [toPDs, Option.some.injEq] at h
    cases (show vs = [] from r)
    subst h
    exact .nil
  | d :: ds, vs, xs, h, r => by
    obtain ⟨v, q, e, r1, r2⟩ := (show ∃ v q, vs = v :: q ∧ Rep p S d v ∧ Reps p S ds q from r)
    simp only [toPDs] at h
    split at h
    · rename_i y ys h1 h2
      cases h
      subst e
      exact .cons (toPD_rep hK h1 r1) (toPDs_rep hK h2 r2)
    · cases h
end
end
end DS
/-! ## The state: slots, heap -/
namespace DS
open PySem PySem.Spec PyProof.Rows L2

/-- the heap at the entry, what was sealed there; which list a slot is locked at -/
structure Dy where
  H0 : Hp
  S0 : Hp
  lk : Nat → Option Addr
  ob : Option (Addr × Addr) := none

def RepKs (p : Par) (S : Hp) : List (Key × D) → List (Key × V) → Prop
  | [], vs => vs = []
  | (k, d) :: ds, vs => ∃ v r, vs = (k, v) :: r ∧ Rep p S d v ∧ RepKs p S ds r
theorem RepKs.sub {p : Par} {S S' : Hp} (h : Sub S S') : ∀ {ds : List (Key × D)} {vs : List (Key × V)}, RepKs p S ds vs → RepKs p S' ds vs
  | [], _, r => r
  | (k, d) :: ds, vs, r => by
    obtain ⟨v, q, e, r1, r2⟩ := (show ∃ v r, vs = (k, v) :: r ∧ Rep p S d v ∧ RepKs p S ds r from r)
    exact ⟨v, q, e, Rep.sub h d v r1, RepKs.sub h r2⟩

def SlOk (p : Par) (y : Dy) (S H : Hp) (i : Nat) (o : Option (Option V)) : Sl → Prop
  | .un => True
  | .val d => ∃ v, o = some (some v) ∧ Rep p S d v
  | .own ds => ∃ l vs, o = some (some (.ref l)) ∧ H l = some (.lst vs) ∧ S l = none ∧ y.H0 l = none ∧ Reps p S ds vs
  | .lock ds => ∃ l vs, o = some (some (.ref l)) ∧ y.lk i = some l ∧ y.H0 l = some (.lst vs) ∧ S l = none ∧ Reps p S ds vs
  | .dic kvs => ∃ l kv, o = some (some (.ref l)) ∧ H l = some (.dK kv) ∧ S l = none ∧ y.H0 l = none ∧ RepKs p S kvs kv
  | .obj c fs => ∃ (l : Addr) (q : Addr × List V), o = some (some (.ref l)) ∧ H l = some (.ins (p.cl c) q.1 ((p.fields c).zip q.2)) ∧ S l = none ∧ y.H0 l = none ∧ y.ob = some (l, q.1) ∧ Reps p S fs q.2

structure Stt (p : Par) (y : Dy) (S : Hp) (σ : L2.St) (H : Hp) (ρ : En) : Prop where
  sub : Sub S H
  same : Sub y.H0 H
  sub0 : Sub y.S0 S
  old : ∀ a : Addr, y.H0 a ≠ none → S a = y.S0 a
  len : ρ.length = σ.length
  lk : ∀ (j : Nat) (l : Addr), y.lk j = some l → y.H0 l ≠ none
  sl : ∀ (i : Nat) (s : Sl), ρ[i]? = some s → SlOk p y S H i σ[i]? s
  sep : ∀ (i j : Nat) (s t : Sl) (l : Addr), ρ[i]? = some s → ρ[j]? = some t → s.owns = true → t.owns = true → σ[i]? = some (some (.ref l)) → σ[j]? = some (some (.ref l)) → i = j

/-- nobody's -/
def Free (σ : L2.St) (ρ : En) (l : Addr) : Prop := ∀ (i : Nat) (s : Sl), ρ[i]? = some s → s.owns = true → σ[i]? ≠ some (some (.ref l))

def RepA (p : Par) (y : Dy) (S : Hp) (σ : L2.St) (H : Hp) (ρ : En) : Ar → V → Prop
  | .v d, v => Rep p S d v
  | .fr ds, v => ∃ l vs, v = .ref l ∧ H l = some (.lst vs) ∧ S l = none ∧ y.H0 l = none ∧ Reps p S ds vs ∧ Free σ ρ l
  | .br i ds, v => ∃ l vs, v = .ref l ∧ σ[i]? = some (some (.ref l)) ∧ H l = some (.lst vs) ∧ Reps p S ds vs
/-- as it is looked at -/
def RepV (p : Par) (S H : Hp) : D → V → Prop
  | .lst ds, v => ∃ l vs, v = .ref l ∧ Rd H l (.lst vs) ∧ Reps p S ds vs
  | d, v => Rep p S d v

section
variable {p : Par} {y : Dy} {S S' : Hp} {σ : L2.St} {H H' : Hp} {ρ : En}
theorem RepA.viewV (st : Stt p y S σ H ρ) : ∀ {r : Ar} {v : V}, RepA p y S σ H ρ r v → RepV p S H r.view v
  | .v d, v, h => by
    cases d with
    | lst ds =>
      obtain ⟨a, vs, e, q, rr⟩ := (show ∃ a vs, v = .ref a ∧ Rd S a (.lst vs) ∧ Reps p S ds vs from h)
      exact ⟨a, vs, e, DS.Rd.sub st.sub q, rr⟩
    | _ => exact h
  | .fr ds, v, h => by
    obtain ⟨l, vs, e, h1, _, _, r, _⟩ := h
    exact ⟨l, vs, e, .inl h1, r⟩
  | .br i ds, v, h => by
    obtain ⟨l, vs, e, _, h1, r⟩ := h
    exact ⟨l, vs, e, .inl h1, r⟩
theorem RepV.mono (hS : Sub S S') (hH : Sub H H') : ∀ {d : D} {v : V}, RepV p S H d v → RepV p S' H' d v
  | .lst ds, v, h => by
    obtain ⟨l, vs, e, q, r⟩ := h
    exact ⟨l, vs, e, DS.Rd.sub hH q, Reps.sub hS _ _ r⟩
  | .non, v, h => h
  | .bl _, v, h => h
  | .int _, v, h => h
  | .str _, v, h => h
  | .tup xs, v, h => Rep.sub hS (.tup xs) v h
  | .rol xs, v, h => Rep.sub hS (.rol xs) v h
  | .ins c fs, v, h => Rep.sub hS (.ins c fs) v h
  | .pr a b, v, h => Rep.sub hS (.pr a b) v h
/-- sealed or looked at: what stays -/
theorem RepA.mono {y' : Dy} {ρ' : En} (hS : Sub S S') (hH : Sub H H') : ∀ {r : Ar} {v : V}, r.seal = r → RepA p y S σ H ρ r v → RepA p y' S' σ H' ρ' r v
  | .v d, v, _, h => Rep.sub hS d v h
  | .fr ds, v, e, h => nomatch e
  | .br i ds, v, _, h => by
    obtain ⟨l, vs, e, q0, q, r⟩ := h
    exact ⟨l, vs, e, q0, hH _ _ q, Reps.sub hS _ _ r⟩
theorem Ar.seal_seal (r : Ar) : r.seal.seal = r.seal := by cases r <;> rfl
theorem Ar.view_seal (r : Ar) : r.seal.view = r.view := by cases r <;> rfl

theorem SlOk.grow (hS : Sub S S') (hH : Sub H H') (hn : ∀ a, H a ≠ none → S' a = S a) (hsam : Sub y.H0 H) {i : Nat} {o : Option (Option V)} : ∀ {s : Sl}, SlOk p y S H i o s → SlOk p y S' H' i o s
  | .un, h => h
  | .val d, ⟨v, e, r⟩ => ⟨v, e, Rep.sub hS d v r⟩
  | .own ds, ⟨l, vs, e, h1, h2, h3, r⟩ => ⟨l, vs, e, hH _ _ h1, (hn l (by rw [h1]; simp)).trans h2, h3, Reps.sub hS _ _ r⟩
  | .lock ds, ⟨l, vs, e, h1, h2, h3, r⟩ => ⟨l, vs, e, h1, h2, (hn l (by rw [hsam _ _ h2]; simp)).trans h3, Reps.sub hS _ _ r⟩
  | .dic kvs, ⟨l, vs, e, h1, h2, h3, r⟩ => ⟨l, vs, e, hH _ _ h1, (hn l (by rw [h1]; simp)).trans h2, h3, RepKs.sub hS r⟩
  | .obj c kvs, ⟨l, vs, e, h1, h2, h3, h4, r⟩ => ⟨l, vs, e, hH _ _ h1, (hn l (by rw [h1]; simp)).trans h2, h3, h4, Reps.sub hS _ _ r⟩
/-- new things stand, some of them sealed -/
theorem Stt.grow (st : Stt p y S σ H ρ) (hS : Sub S S') (hH : Sub H H') (hSH : Sub S' H') (hn : ∀ a, H a ≠ none → S' a = S a) : Stt p y S' σ H' ρ where
  sub := hSH
  same := st.same.trans hH
  sub0 := st.sub0.trans hS
  old := fun a h => (hn a (by
    cases q : y.H0 a with
    | none => exact absurd q h
    | some o => rw [st.same _ _ q]; simp)).trans (st.old a h)
  len := st.len
  lk := st.lk
  sl := fun i s e => SlOk.grow hS hH hn st.same (st.sl i s e)
  sep := st.sep
/-- a new thing, sealed -/
theorem Stt.newS (st : Stt p y S σ H ρ) {a : Addr} {o : HO} (ha : H a = none) : Stt p y (upd S a o) σ (upd H a o) ρ ∧ Sub S (upd S a o) ∧ Sub H (upd H a o) := by
  have hSa : S a = none := by
    cases q : S a with
    | none => rfl
    | some u => rw [st.sub _ _ q] at ha; cases ha
  have h1 : Sub S (upd S a o) := fun b u h => by rw [upd_ne (ne_of_none h hSa)]; exact h
  have h2 : Sub H (upd H a o) := fun b u h => by rw [upd_ne (ne_of_none h ha)]; exact h
  refine ⟨st.grow h1 h2 (fun b u h => ?_) fun b hb => ?_, h1, h2⟩
  · by_cases e : b = a
    · subst e
      rw [upd_same] at h ⊢
      exact h
    · rw [upd_ne e] at h ⊢
      exact st.sub _ _ h
  · rw [upd_ne (fun e => hb (by rw [e]; exact ha))]
/-- a new thing, not sealed -/
theorem Stt.newF (st : Stt p y S σ H ρ) {a : Addr} {o : HO} (ha : H a = none) : Stt p y S σ (upd H a o) ρ ∧ Sub H (upd H a o) := by
  have h2 : Sub H (upd H a o) := fun b u h => by rw [upd_ne (ne_of_none h ha)]; exact h
  exact ⟨st.grow (Sub.refl _) h2 (st.sub.trans h2) fun _ _ => rfl, h2⟩
theorem Stt.none0 (st : Stt p y S σ H ρ) {a : Addr} (ha : H a = none) : S a = none ∧ y.H0 a = none := by
  constructor
  · cases q : S a with
    | none => rfl
    | some u => rw [st.sub _ _ q] at ha; cases ha
  · cases q : y.H0 a with
    | none => rfl
    | some u => rw [st.same _ _ q] at ha; cases ha
/-- a fresh list's answer -/
theorem Stt.freshA (st : Stt p y S σ H ρ) {a : Addr} {vs : List V} {ds : List D} (ha : H a = none) (r : Reps p S ds vs) : RepA p y S σ (upd H a (.lst vs)) ρ (.fr ds) (.ref a) := by
  refine ⟨a, vs, rfl, upd_same, (st.none0 ha).1, (st.none0 ha).2, r, fun i s e ho q => ?_⟩
  have h := st.sl i s e
  cases s with
  | own ds' =>
    obtain ⟨l, us, e1, e2, _⟩ := (show SlOk p y S H i σ[i]? (.own ds') from h)
    rw [e1] at q
    cases q
    rw [ha] at e2
    cases e2
  | dic ds' =>
    obtain ⟨l, us, e1, e2, _⟩ := (show SlOk p y S H i σ[i]? (.dic ds') from h)
    rw [e1] at q
    cases q
    rw [ha] at e2
    cases e2
  | obj c0 ds' =>
    obtain ⟨l, us, e1, e2, _⟩ := (show SlOk p y S H i σ[i]? (.obj c0 ds') from h)
    rw [e1] at q
    cases q
    rw [ha] at e2
    cases e2
  | _ => cases ho
/-- a list of nobody is sealed -/
theorem Stt.sealF (st : Stt p y S σ H ρ) {l : Addr} {vs : List V} (h1 : H l = some (.lst vs)) (h2 : S l = none) (h3 : y.H0 l = none) (hf : Free σ ρ l) :
    Stt p y (upd S l (.lst vs)) σ H ρ ∧ Sub S (upd S l (.lst vs)) := by
  have hs : Sub S (upd S l (.lst vs)) := fun b u h => by rw [upd_ne (ne_of_none h h2)]; exact h
  refine ⟨⟨fun b u h => ?_, st.same, st.sub0.trans hs, fun a h => ?_, st.len, st.lk, fun i s e => ?_, st.sep⟩, hs⟩
  · by_cases e : b = l
    · subst e
      rw [upd_same] at h
      rw [h1]
      exact h
    · rw [upd_ne e] at h
      exact st.sub _ _ h
  · rw [upd_ne (fun e => h (by rw [e]; exact h3))]
    exact st.old a h
  · have q := st.sl i s e
    cases s with
    | un => trivial
    | val d =>
      obtain ⟨v, e1, r⟩ := q
      exact ⟨v, e1, Rep.sub hs d v r⟩
    | own ds =>
      obtain ⟨l', us, e1, e2, e3, e4, r⟩ := q
      exact ⟨l', us, e1, e2, by rw [upd_ne (fun z => hf i _ e rfl (by rw [e1, z]))]; exact e3, e4, Reps.sub hs _ _ r⟩
    | lock ds =>
      obtain ⟨l', us, e1, e2, e3, e4, r⟩ := q
      exact ⟨l', us, e1, e2, e3, by rw [upd_ne (fun z => by rw [z, h3] at e3; cases e3)]; exact e4, Reps.sub hs _ _ r⟩
    | dic ds =>
      obtain ⟨l', us, e1, e2, e3, e4, r⟩ := q
      exact ⟨l', us, e1, e2, by rw [upd_ne (fun z => hf i _ e rfl (by rw [e1, z]))]; exact e3, e4, RepKs.sub hs r⟩
    | obj c0 ds =>
      obtain ⟨l', us, e1, e2, e3, e4, e5, r⟩ := q
      exact ⟨l', us, e1, e2, by rw [upd_ne (fun z => hf i _ e rfl (by rw [e1, z]))]; exact e3, e4, e5, Reps.sub hs _ _ r⟩
/-- an answer is sealed -/
theorem Stt.sealA (st : Stt p y S σ H ρ) : ∀ {r : Ar} {v : V}, RepA p y S σ H ρ r v → ∃ S', Stt p y S' σ H ρ ∧ Sub S S' ∧ RepA p y S' σ H ρ r.seal v
  | .v d, v, h => ⟨S, st, Sub.refl _, h⟩
  | .br i d, v, h => ⟨S, st, Sub.refl _, h⟩
  | .fr ds, v, h => by
    obtain ⟨l, vs, e, h1, h2, h3, r, hf⟩ := h
    obtain ⟨st', hs⟩ := st.sealF h1 h2 h3 hf
    exact ⟨_, st', hs, l, vs, e, .inl upd_same, Reps.sub hs _ _ r⟩
theorem Stt.dropSlot (st : Stt p y S σ H ρ) (i : Nat) : Stt p y S σ H (ρ.set i .un) where
  sub := st.sub
  same := st.same
  sub0 := st.sub0
  old := st.old
  len := by rw [List.length_set]; exact st.len
  lk := st.lk
  sl := fun j s e => by
    by_cases h : i = j
    · subst h
      by_cases hl : i < ρ.length
      · rw [List.getElem?_set_self hl] at e
        cases e
        trivial
      · rw [List.getElem?_eq_none (by rw [List.length_set]; omega)] at e
        cases e
    · rw [List.getElem?_set_ne h] at e
      exact st.sl j s e
  sep := fun j k s t l e1 e2 o1 o2 q1 q2 => by
    have f : ∀ {j : Nat} {s : Sl}, (ρ.set i .un)[j]? = some s → s.owns = true → ρ[j]? = some s := fun {j s} e o => by
      by_cases h : i = j
      · subst h
        by_cases hl : i < ρ.length
        · rw [List.getElem?_set_self hl] at e
          cases e
          cases o
        · rw [List.getElem?_eq_none (by rw [List.length_set]; omega)] at e
          cases e
      · rw [List.getElem?_set_ne h] at e
        exact e
    exact st.sep j k s t l (f e1 o1) (f e2 o2) o1 o2 q1 q2
theorem Stt.lt (st : Stt p y S σ H ρ) {i : Nat} {s : Sl} (e : ρ[i]? = some s) : i < ρ.length := (List.getElem?_eq_some_iff.mp e).1
theorem Stt.sepSet (st : Stt p y S σ H ρ) {i : Nat} {s : Sl} (ho : s.owns = true → ∃ s0, ρ[i]? = some s0 ∧ s0.owns = true) :
    ∀ (j k : Nat) (s' t : Sl) (l : Addr), (ρ.set i s)[j]? = some s' → (ρ.set i s)[k]? = some t → s'.owns = true → t.owns = true → σ[j]? = some (some (.ref l)) → σ[k]? = some (some (.ref l)) → j = k := fun j k s' t l e1 e2 o1 o2 q1 q2 => by
    have f : ∀ {j : Nat} {s' : Sl}, (ρ.set i s)[j]? = some s' → s'.owns = true → ∃ s0, ρ[j]? = some s0 ∧ s0.owns = true := fun {j s'} e o => by
      by_cases h : i = j
      · subst h
        by_cases hl : i < ρ.length
        · rw [List.getElem?_set_self hl] at e
          cases e
          exact ho o
        · rw [List.getElem?_eq_none (by rw [List.length_set]; omega)] at e
          cases e
      · rw [List.getElem?_set_ne h] at e
        exact ⟨s', e, o⟩
    obtain ⟨s1, a1, b1⟩ := f e1 o1
    obtain ⟨s2, a2, b2⟩ := f e2 o2
    exact st.sep j k s1 s2 l a1 a2 b1 b2 q1 q2
/-- the slot's value as it is, told otherwise -/
theorem Stt.retell (st : Stt p y S σ H ρ) {i : Nat} {s : Sl} (hs : i < ρ.length → SlOk p y S H i σ[i]? s) (ho : s.owns = true → ∃ s0, ρ[i]? = some s0 ∧ s0.owns = true) : Stt p y S σ H (ρ.set i s) where
  sub := st.sub
  same := st.same
  sub0 := st.sub0
  old := st.old
  len := by rw [List.length_set]; exact st.len
  lk := st.lk
  sl := fun j t e => by
    by_cases h : i = j
    · subst h
      by_cases hl : i < ρ.length
      · rw [List.getElem?_set_self hl] at e
        cases e
        exact hs hl
      · rw [List.getElem?_eq_none (by rw [List.length_set]; omega)] at e
        cases e
    · rw [List.getElem?_set_ne h] at e
      exact st.sl j t e
  sep := st.sepSet ho
/-- a slot is set to a value -/
theorem Stt.put (st : Stt p y S σ H ρ) {i : Nat} {s : Sl} {v : V} (hs : SlOk p y S H i (some (some v)) s) (ho : s.owns = true → ∃ l, v = .ref l ∧ Free σ ρ l) : Stt p y S (σ.set i (some v)) H (ρ.set i s) where
  sub := st.sub
  same := st.same
  sub0 := st.sub0
  old := st.old
  len := by rw [List.length_set, List.length_set]; exact st.len
  lk := st.lk
  sl := fun j t e => by
    by_cases h : i = j
    · subst h
      by_cases hl : i < ρ.length
      · rw [List.getElem?_set_self hl] at e
        cases e
        rw [List.getElem?_set_self (by rw [← st.len]; exact hl)]
        exact hs
      · rw [List.getElem?_eq_none (by rw [List.length_set]; omega)] at e
        cases e
    · rw [List.getElem?_set_ne h] at e
      rw [List.getElem?_set_ne h]
      exact st.sl j t e
  sep := fun j k s' t l e1 e2 o1 o2 q1 q2 => by
    by_cases hl : i < ρ.length
    · by_cases hj : i = j
      · by_cases hk : i = k
        · omega
        · exfalso
          subst hj
          rw [List.getElem?_set_self hl] at e1
          cases e1
          obtain ⟨l', e, hf⟩ := ho o1
          rw [List.getElem?_set_self (by rw [← st.len]; exact hl)] at q1
          cases q1
          cases e
          rw [List.getElem?_set_ne hk] at e2 q2
          exact hf k t e2 o2 q2
      · by_cases hk : i = k
        · exfalso
          subst hk
          rw [List.getElem?_set_self hl] at e2
          cases e2
          obtain ⟨l', e, hf⟩ := ho o2
          rw [List.getElem?_set_self (by rw [← st.len]; exact hl)] at q2
          cases q2
          cases e
          rw [List.getElem?_set_ne hj] at e1 q1
          exact hf j s' e1 o1 q1
        · rw [List.getElem?_set_ne hj] at e1 q1
          rw [List.getElem?_set_ne hk] at e2 q2
          exact st.sep j k s' t l e1 e2 o1 o2 q1 q2
    · have hl' : σ.length ≤ i := by rw [← st.len]; omega
      rw [List.set_eq_of_length_le (by omega)] at e1 e2
      rw [List.set_eq_of_length_le hl'] at q1 q2
      exact st.sep j k s' t l e1 e2 o1 o2 q1 q2
theorem Stt.putVal (st : Stt p y S σ H ρ) (i : Nat) {d : D} {v : V} (r : Rep p S d v) : Stt p y S (σ.set i (some v)) H (ρ.set i (.val d)) := st.put ⟨v, rfl, r⟩ fun z => nomatch z
theorem Stt.putOwn (st : Stt p y S σ H ρ) (i : Nat) {ds : List D} {v : V} (r : RepA p y S σ H ρ (.fr ds) v) : Stt p y S (σ.set i (some v)) H (ρ.set i (.own ds)) := by
  obtain ⟨l, vs, e, h1, h2, h3, r, hf⟩ := r
  subst e
  exact st.put ⟨l, vs, rfl, h1, h2, h3, r⟩ fun _ => ⟨l, rfl, hf⟩
/-- an own list is written -/
theorem Stt.write (st : Stt p y S σ H ρ) {i : Nat} {s s' : Sl} {l : Addr} {u : HO} (e : ρ[i]? = some s) (ho : s.owns = true) (hl : σ[i]? = some (some (.ref l))) (h2 : S l = none) (h3 : y.H0 l = none)
    (hs : SlOk p y S (upd H l u) i σ[i]? s') (ho' : s'.owns = true) : Stt p y S σ (upd H l u) (ρ.set i s') := by
  have st1 : Stt p y S σ (upd H l u) (ρ.set i .un) := by
    refine ⟨fun b o h => ?_, fun b o h => ?_, st.sub0, st.old, by rw [List.length_set]; exact st.len, st.lk, fun j t q => ?_, (st.dropSlot i).sep⟩
    · rw [upd_ne (ne_of_none h h2)]
      exact st.sub _ _ h
    · rw [upd_ne (ne_of_none h h3)]
      exact st.same _ _ h
    · by_cases hij : i = j
      · subst hij
        rw [List.getElem?_set_self (st.lt e)] at q
        cases q
        trivial
      · rw [List.getElem?_set_ne hij] at q
        have r := st.sl j t q
        have ne : ∀ l', t.owns = true → σ[j]? = some (some (.ref l')) → l' ≠ l := fun l' o z w => hij (st.sep i j s t l e q ho o hl (by rw [← w]; exact z))
        cases t with
        | un => trivial
        | val d => exact r
        | own ds =>
          obtain ⟨l', us, e1, e2, r⟩ := r
          exact ⟨l', us, e1, by rw [upd_ne (ne l' rfl e1)]; exact e2, r⟩
        | lock ds => exact r
        | dic ds =>
          obtain ⟨l', us, e1, e2, r⟩ := r
          exact ⟨l', us, e1, by rw [upd_ne (ne l' rfl e1)]; exact e2, r⟩
        | obj c0 ds =>
          obtain ⟨l', us, e1, e2, r⟩ := r
          exact ⟨l', us, e1, by rw [upd_ne (ne l' rfl e1)]; exact e2, r⟩
  refine ⟨st1.sub, st1.same, st1.sub0, st1.old, by rw [List.length_set]; exact st.len, st.lk, fun j t q => ?_, st.sepSet fun _ => ⟨s, e, ho⟩⟩
  · by_cases hij : i = j
    · subst hij
      rw [List.getElem?_set_self (st.lt e)] at q
      cases q
      exact hs
    · rw [List.getElem?_set_ne hij] at q
      exact st1.sl j t (by rw [List.getElem?_set_ne hij]; exact q)

/-! ### locks -/
def Dy.locked (y : Dy) (i : Nat) (l : Addr) (vs : List V) : Dy := { H0 := upd y.H0 l (.lst vs), S0 := y.S0, lk := fun j => if j = i then some l else y.lk j, ob := y.ob }
theorem Stt.lock1 (st : Stt p y S σ H ρ) {i : Nat} {ds : List D} (e : ρ[i]? = some (.own ds)) :
    ∃ l vs, σ[i]? = some (some (.ref l)) ∧ H l = some (.lst vs) ∧ y.H0 l = none ∧ Stt p (y.locked i l vs) S σ H (ρ.set i (.lock ds)) := by
  obtain ⟨l, vs, h1, h2, h3, h4, h5⟩ := (show SlOk p y S H i σ[i]? (.own ds) from st.sl i _ e)
  refine ⟨l, vs, h1, h2, h4, ?_⟩
  have hlt := st.lt e
  refine ⟨st.sub, fun a o q => ?_, st.sub0, fun a q => ?_, by rw [List.length_set]; exact st.len, fun j l' q => ?_, fun j s q => ?_, st.sepSet fun z => nomatch z⟩
  · have q : upd y.H0 l (.lst vs) a = some o := q
    by_cases z : a = l
    · subst z
      rw [upd_same] at q
      rw [h2]
      exact q
    · rw [upd_ne z] at q
      exact st.same _ _ q
  · have q : upd y.H0 l (.lst vs) a ≠ none := q
    by_cases z : a = l
    · subst z
      show S a = y.S0 a
      rw [h3]
      cases w : y.S0 a with
      | none => rfl
      | some o =>
        have := st.sub0 _ _ w
        rw [h3] at this
        cases this
    · rw [upd_ne z] at q
      exact st.old a q
  · have q : (if j = i then some l else y.lk j) = some l' := q
    show upd y.H0 l (.lst vs) l' ≠ none
    by_cases z : l' = l
    · subst z
      rw [upd_same]
      simp
    · rw [upd_ne z]
      split at q
      · cases q
        exact absurd rfl z
      · exact st.lk j l' q
  · by_cases z : i = j
    · subst z
      rw [List.getElem?_set_self hlt] at q
      cases q
      exact ⟨l, vs, h1, by show (if i = i then some l else y.lk i) = some l; rw [if_pos rfl], upd_same, h3, h5⟩
    · rw [List.getElem?_set_ne z] at q
      have r := st.sl j s q
      have ne : ∀ l', s.owns = true → σ[j]? = some (some (.ref l')) → l' ≠ l := fun l' o a w => z (st.sep i j _ s l e q rfl o h1 (by rw [← w]; exact a))
      cases s with
      | un => trivial
      | val d => exact r
      | own ds' =>
        obtain ⟨l', us, e1, e2, e3, e4, r⟩ := r
        exact ⟨l', us, e1, e2, e3, by show upd y.H0 l (.lst vs) l' = none; rw [upd_ne (ne l' rfl e1)]; exact e4, r⟩
      | lock ds' =>
        obtain ⟨l', us, e1, e2, e3, e4, r⟩ := r
        refine ⟨l', us, e1, ?_, ?_, e4, r⟩
        · show (if j = i then some l else y.lk j) = some l'
          rw [if_neg (fun w => z w.symm)]
          exact e2
        · show upd y.H0 l (.lst vs) l' = some (.lst us)
          rw [upd_ne (ne_of_none e3 h4)]
          exact e3
      | dic ds' =>
        obtain ⟨l', us, e1, e2, e3, e4, r⟩ := r
        exact ⟨l', us, e1, e2, e3, by show upd y.H0 l (.lst vs) l' = none; rw [upd_ne (ne l' rfl e1)]; exact e4, r⟩
      | obj c0 ds' =>
        obtain ⟨l', us, e1, e2, e3, e4, r⟩ := r
        exact ⟨l', us, e1, e2, e3, by show upd y.H0 l (.lst vs) l' = none; rw [upd_ne (ne l' rfl e1)]; exact e4, r⟩
theorem Stt.unlock1 {i : Nat} {l : Addr} {vs : List V} (h4 : y.H0 l = none) (hlk : ∀ (j : Nat) (l' : Addr), y.lk j = some l' → y.H0 l' ≠ none) (hlj : ∀ a o, y.S0 a = some o → y.S0 a = some o)
    (st : Stt p (y.locked i l vs) S σ H ρ) : Stt p y S σ H (unlockAt ρ i) := by
  have hup : ∀ a, y.H0 a ≠ none → (y.locked i l vs).H0 a ≠ none := fun a q => by
    show upd y.H0 l (.lst vs) a ≠ none
    rw [upd_ne (fun z => q (by rw [z]; exact h4))]
    exact q
  have hsub : Sub y.H0 (y.locked i l vs).H0 := fun a o q => by
    show upd y.H0 l (.lst vs) a = some o
    rw [upd_ne (ne_of_none q h4)]
    exact q
  have slo : ∀ (j : Nat) (s : Sl), i ≠ j ∨ (∀ ds, s ≠ .lock ds) → SlOk p (y.locked i l vs) S H j σ[j]? s → SlOk p y S H j σ[j]? s := fun j s hj r => by
    cases s with
    | un => trivial
    | val d => exact r
    | own ds' =>
      obtain ⟨l', us, e1, e2, e3, e4, r⟩ := r
      refine ⟨l', us, e1, e2, e3, ?_, r⟩
      cases q : y.H0 l' with
      | none => rfl
      | some o => exact absurd e4 (hup l' (by rw [q]; simp))
    | lock ds' =>
      rcases hj with hj | hj
      · obtain ⟨l', us, e1, e2, e3, e4, r⟩ := r
        have e2' : y.lk j = some l' := by
          have e2 : (if j = i then some l else y.lk j) = some l' := e2
          rw [if_neg (fun w => hj w.symm)] at e2
          exact e2
        refine ⟨l', us, e1, e2', ?_, e4, r⟩
        have e3 : upd y.H0 l (.lst vs) l' = some (.lst us) := e3
        rw [upd_ne (fun w => hlk j l' e2' (by rw [w]; exact h4))] at e3
        exact e3
      · exact absurd rfl (hj ds')
    | dic ds' =>
      obtain ⟨l', us, e1, e2, e3, e4, r⟩ := r
      refine ⟨l', us, e1, e2, e3, ?_, r⟩
      cases q : y.H0 l' with
      | none => rfl
      | some o => exact absurd e4 (hup l' (by rw [q]; simp))
    | obj c0 ds' =>
      obtain ⟨l', us, e1, e2, e3, e4, r⟩ := r
      refine ⟨l', us, e1, e2, e3, ?_, r⟩
      cases q : y.H0 l' with
      | none => rfl
      | some o => exact absurd e4 (hup l' (by rw [q]; simp))
  have base : ∀ (ρ' : En), ρ'.length = ρ.length → (∀ (j : Nat) (s : Sl), ρ'[j]? = some s → SlOk p y S H j σ[j]? s) →
      (∀ (j k : Nat) (s t : Sl) (l' : Addr), ρ'[j]? = some s → ρ'[k]? = some t → s.owns = true → t.owns = true → σ[j]? = some (some (.ref l')) → σ[k]? = some (some (.ref l')) → j = k) → Stt p y S σ H ρ' := fun ρ' hl h1 h2 =>
    ⟨st.sub, hsub.trans st.same, st.sub0, fun a q => st.old a (hup a q), hl.trans st.len, hlk, h1, h2⟩
  unfold unlockAt
  split
  · rename_i ds hd
    obtain ⟨l', us, e1, e2, e3, e4, r⟩ := (show SlOk p (y.locked i l vs) S H i σ[i]? (.lock ds) from st.sl i _ hd)
    have e2 : (if i = i then some l else y.lk i) = some l' := e2
    rw [if_pos rfl] at e2
    cases e2
    have hlt := st.lt hd
    have nol : ∀ (j : Nat) (t : Sl), i ≠ j → ρ[j]? = some t → t.owns = true → σ[j]? ≠ some (some (.ref l)) := fun j t hj ht ho z => by
      have q := st.sl j t ht
      have hne : (y.locked i l vs).H0 l ≠ none := by rw [e3]; simp
      cases t with
      | own ds' =>
        obtain ⟨l2, _, a1, _, _, a4, _⟩ := q
        rw [a1] at z
        cases z
        exact hne a4
      | dic ds' =>
        obtain ⟨l2, _, a1, _, _, a4, _⟩ := q
        rw [a1] at z
        cases z
        exact hne a4
      | obj c0 ds' =>
        obtain ⟨l2, _, a1, _, _, a4, _⟩ := q
        rw [a1] at z
        cases z
        exact hne a4
      | _ => cases ho
    refine base _ (by rw [List.length_set]) (fun j s q => ?_) fun j k s t l' q1 q2 o1 o2 z1 z2 => ?_
    · by_cases z : i = j
      · subst z
        rw [List.getElem?_set_self hlt] at q
        cases q
        exact ⟨l, us, e1, st.same _ _ e3, e4, h4, r⟩
      · rw [List.getElem?_set_ne z] at q
        exact slo j s (.inl z) (st.sl j s q)
    · by_cases w1 : i = j
      · by_cases w2 : i = k
        · omega
        · exfalso
          subst w1
          rw [e1] at z1
          cases z1
          rw [List.getElem?_set_ne w2] at q2
          exact nol k t w2 q2 o2 z2
      · by_cases w2 : i = k
        · exfalso
          subst w2
          rw [e1] at z2
          cases z2
          rw [List.getElem?_set_ne w1] at q1
          exact nol j s w1 q1 o1 z1
        · rw [List.getElem?_set_ne w1] at q1
          rw [List.getElem?_set_ne w2] at q2
          exact st.sep j k s t l' q1 q2 o1 o2 z1 z2
  · rename_i hd
    refine base ρ rfl (fun j s q => slo j s ?_ (st.sl j s q)) st.sep
    by_cases z : i = j
    · subst z
      exact .inr fun ds w => hd ds (by rw [q, w])
    · exact .inl z
theorem lockers_own : ∀ (rs : List Ar) (ρ : En), (lockers rs ρ).Nodup ∧ (∀ i ∈ lockers rs ρ, ∃ ds, ρ[i]? = some (.own ds)) ∧ ∀ i ds ds', Ar.br i ds ∈ rs → ρ[i]? = some (.own ds') → i ∈ lockers rs ρ
  | [], ρ => ⟨List.nodup_nil, (fun i h => nomatch h), (fun i ds ds' h => nomatch h)⟩
  | .v d :: rs, ρ => by
    obtain ⟨h1, h2, h3⟩ := lockers_own rs ρ
    refine ⟨h1, h2, fun i ds ds' h => ?_⟩
    rcases List.mem_cons.mp h with z | z
    · cases z
    · exact h3 i ds ds' z
  | .fr d :: rs, ρ => by
    obtain ⟨h1, h2, h3⟩ := lockers_own rs ρ
    refine ⟨h1, h2, fun i ds ds' h => ?_⟩
    rcases List.mem_cons.mp h with z | z
    · cases z
    · exact h3 i ds ds' z
  | .br j e :: rs, ρ => by
    obtain ⟨h1, h2, h3⟩ := lockers_own rs ρ
    by_cases hd : ∃ ds, ρ[j]? = some (.own ds)
    · obtain ⟨ds0, hd⟩ := hd
      have eq : lockers (.br j e :: rs) ρ = if j ∈ lockers rs ρ then lockers rs ρ else j :: lockers rs ρ := by
        show (match ρ[j]? with | some (.own _) => _ | _ => _) = _
        rw [hd]
      rw [eq]
      split
      · rename_i hm
        refine ⟨h1, h2, fun i ds ds' h q => ?_⟩
        rcases List.mem_cons.mp h with z | z
        · cases z
          exact hm
        · exact h3 i ds ds' z q
      · rename_i hm
        refine ⟨List.nodup_cons.mpr ⟨hm, h1⟩, fun i hi => ?_, fun i ds ds' h q => ?_⟩
        · rcases List.mem_cons.mp hi with z | z
          · rw [z]
            exact ⟨ds0, hd⟩
          · exact h2 i z
        · rcases List.mem_cons.mp h with z | z
          · cases z
            exact List.mem_cons_self
          · exact List.mem_cons_of_mem _ (h3 i ds ds' z q)
    · have eq : lockers (.br j e :: rs) ρ = lockers rs ρ := by
        show (match ρ[j]? with | some (.own _) => _ | _ => _) = _
        split
        · rename_i ds q
          exact absurd ⟨ds, q⟩ hd
        · rfl
      rw [eq]
      refine ⟨h1, h2, fun i ds ds' h q => ?_⟩
      rcases List.mem_cons.mp h with z | z
      · cases z
        exact absurd ⟨ds', q⟩ hd
      · exact h3 i ds ds' z q
theorem Free.unlock1 {i : Nat} {l l' : Addr} {vs : List V} (st : Stt p (y.locked i l vs) S σ H ρ) (h : (y.locked i l vs).H0 l' = none) (hf : Free σ ρ l') : Free σ (unlockAt ρ i) l' := by
  unfold unlockAt
  split
  · rename_i ds hd
    obtain ⟨l2, us, e1, e2, e3, e4, r⟩ := (show SlOk p (y.locked i l vs) S H i σ[i]? (.lock ds) from st.sl i _ hd)
    intro j s q o z
    by_cases w : i = j
    · subst w
      rw [e1] at z
      cases z
      rw [h] at e3
      cases e3
    · rw [List.getElem?_set_ne w] at q
      exact hf j s q o z
  · exact hf
/-- the locks are opened again -/
def Back (p : Par) (y y1 : Dy) (ls : List Nat) : Prop := ∀ (S' : Hp) (σ' : L2.St) (H' : Hp) (ρ' : En), Stt p y1 S' σ' H' ρ' → Stt p y S' σ' H' (ls.foldr (fun i τ => unlockAt τ i) ρ') ∧
  ∀ l, y1.H0 l = none → Free σ' ρ' l → Free σ' (ls.foldr (fun i τ => unlockAt τ i) ρ') l
/-- several, one after another -/
theorem Stt.locks : ∀ (ls : List Nat) {y : Dy} {ρ : En}, ls.Nodup → (∀ i ∈ ls, ∃ ds, ρ[i]? = some (.own ds)) → Stt p y S σ H ρ → ∃ y1, Stt p y1 S σ H (ls.foldl lockAt ρ) ∧ Sub y.H0 y1.H0 ∧ Back p y y1 ls ∧
    (∀ i ∈ ls, ∀ l, σ[i]? = some (some (.ref l)) → ∃ vs, H l = some (.lst vs) ∧ y1.H0 l = some (.lst vs))
  | [], y, ρ, _, _, st => ⟨y, st, Sub.refl _, fun _ _ _ _ st' => ⟨st', fun _ _ h => h⟩, fun i hi => nomatch hi⟩
  | i :: ls, y, ρ, hn, ho, st => by
    obtain ⟨ds, hd⟩ := ho i List.mem_cons_self
    obtain ⟨hni, hn'⟩ := List.nodup_cons.mp hn
    obtain ⟨l, vs, h1, h2, h3, st1⟩ := st.lock1 hd
    have e : lockAt ρ i = ρ.set i (.lock ds) := by unfold lockAt; rw [hd]
    obtain ⟨y1, st2, hs, hb, hp⟩ := Stt.locks ls hn' (fun j hj => by
      obtain ⟨ds', q⟩ := ho j (List.mem_cons_of_mem _ hj)
      exact ⟨ds', by rw [List.getElem?_set_ne (fun z => hni (by rw [z]; exact hj))]; exact q⟩) st1
    have h0 : Sub y.H0 (y.locked i l vs).H0 := fun a o q => by
      show upd y.H0 l (.lst vs) a = some o
      rw [upd_ne (ne_of_none q h3)]
      exact q
    have hpin : y1.H0 l = some (.lst vs) := hs _ _ (by show upd y.H0 l (.lst vs) l = _; rw [upd_same])
    refine ⟨y1, by show Stt p y1 S σ H (ls.foldl lockAt (lockAt ρ i)); rw [e]; exact st2, h0.trans hs, fun S' σ' H' ρ' st' => ⟨Stt.unlock1 h3 st.lk (fun _ _ q => q) (hb _ _ _ _ st').1, fun l' q hf => ?_⟩, fun j hj l' q2 => ?_⟩
    · refine Free.unlock1 (hb _ _ _ _ st').1 ?_ ((hb _ _ _ _ st').2 l' q hf)
      cases z : (y.locked i l vs).H0 l' with
      | none => rfl
      | some o => rw [hs _ _ z] at q; cases q
    rcases List.mem_cons.mp hj with w | w
    · subst w
      rw [h1] at q2
      cases q2
      exact ⟨vs, h2, hpin⟩
    · exact hp j w l' q2
end
end DS
/-! ## Operations: from the layer's rules to data -/
namespace DS
open PySem PySem.Spec PyProof.Rows L2

abbrev FinQ (p : Par) (y : Dy) (σ : L2.St) (S H : Hp) (Q : VK) : Ar × En → Prop :=
  fun r => ∀ v H' S', Stt p y S' σ H' r.2 → Sub S S' → Sub H H' → RepA p y S' σ H' r.2 r.1 v → Q v H'

section
variable {p : Par} {y : Dy} {S S' : Hp} {σ : L2.St} {H H' : Hp} {ρ : En} {Q : VK}
theorem FinQ.sub {r : Ar × En} (h : FinQ p y σ S H Q r) (hS : Sub S S') (hH : Sub H H') : FinQ p y σ S' H' Q r :=
  fun v H2 S2 st a b q => h v H2 S2 st (hS.trans a) (hH.trans b) q
theorem FinQ.val {d : D} {v : V} (h : FinQ p y σ S H Q (.v d, ρ)) (st : Stt p y S σ H ρ) (r : Rep p S d v) : Q v H :=
  h v H S st (Sub.refl _) (Sub.refl _) r
theorem FinQ.lst {ds : List D} {vs : List V} (h : FinQ p y σ S H Q (.fr ds, ρ)) (st : Stt p y S σ H ρ) (r : Reps p S ds vs) : ∀ a, H a = none → Q (.ref a) (upd H a (.lst vs)) := fun a ha => by
  obtain ⟨st', hH⟩ := st.newF (o := .lst vs) ha
  exact h _ _ S st' (Sub.refl _) hH (st.freshA ha r)
theorem FinQ.tup {ds : List D} {vs : List V} (h : FinQ p y σ S H Q (.v (.tup ds), ρ)) (st : Stt p y S σ H ρ) (r : Reps p S ds vs) : ∀ (a : Addr) (o : Obj), H a = none → o.dict = none → Q (.ref a) (upd H a (.frz o (.tup vs))) := fun a o ha hd => by
  obtain ⟨st', hS, hH⟩ := st.newS (o := .frz o (.tup vs)) ha
  exact h _ _ _ st' hS hH ⟨a, vs, rfl, ⟨o, upd_same, hd⟩, Reps.sub hS _ _ r⟩

/-- over the heap itself -/
theorem RepV.rep (hSH : Sub S H) : ∀ {d : D} {v : V}, RepV p S H d v → Rep p H d v
  | .lst ds, v, h => by
    obtain ⟨l, vs, e, q, r⟩ := h
    exact ⟨l, vs, e, q, Reps.sub hSH _ _ r⟩
  | .non, v, h => h
  | .bl _, v, h => h
  | .int _, v, h => h
  | .str _, v, h => h
  | .tup xs, v, h => Rep.sub hSH (.tup xs) v h
  | .rol xs, v, h => Rep.sub hSH (.rol xs) v h
  | .ins c fs, v, h => Rep.sub hSH (.ins c fs) v h
  | .pr a b, v, h => Rep.sub hSH (.pr a b) v h
theorem RepV.lst' {ds : List D} {v : V} (h : RepV p S H (.lst ds) v) : ∃ l vs, v = .ref l ∧ Rd H l (.lst vs) ∧ Reps p S ds vs := h
theorem RepV.tup' {ds : List D} {v : V} (hSH : Sub S H) (h : RepV p S H (.tup ds) v) : ∃ l vs, v = .ref l ∧ SqT p.K H l vs ∧ Reps p S ds vs := by
  obtain ⟨a, vs, e, q, r⟩ := (show ∃ a vs, v = .ref a ∧ TupS S a vs ∧ Reps p S ds vs from h)
  exact ⟨a, vs, e, DS.SqT.sub hSH q.sqT, r⟩
theorem RepV.rol' {ds : List D} {v : V} (hSH : Sub S H) (h : RepV p S H (.rol ds) v) : ∃ l vs, v = .ref l ∧ SqL p.K H l vs ∧ Reps p S ds vs := by
  obtain ⟨a, vs, e, q, r⟩ := (show ∃ a vs, v = .ref a ∧ SqL p.K S a vs ∧ Reps p S ds vs from h)
  exact ⟨a, vs, e, DS.SqL.sub hSH q, r⟩
theorem RepV.seq {d : D} {ds : List D} {v : V} (hSH : Sub S H) (e : seqOf d = some ds) (h : RepV p S H d v) : ∃ l vs, v = .ref l ∧ (SqL p.K H l vs ∨ SqT p.K H l vs) ∧ Reps p S ds vs := by
  cases d with
  | lst xs =>
    cases e
    obtain ⟨l, vs, e, q, r⟩ := h.lst'
    exact ⟨l, vs, e, .inl (.inl q), r⟩
  | tup xs =>
    cases e
    obtain ⟨l, vs, e, q, r⟩ := h.tup' hSH
    exact ⟨l, vs, e, .inr q, r⟩
  | rol xs =>
    cases e
    obtain ⟨l, vs, e, q, r⟩ := h.rol' hSH
    exact ⟨l, vs, e, .inl q, r⟩
  | _ => cases e
end

/-! ### new tuples, known to have no dict -/
section
variable {X : Cx}
theorem tup_new {pins : List (Addr × Obj)} {σ : L2.St} {H : Hp} {s : Shared} {xs : List V} {us : List Value} (I : Inv X pins σ H s) (r : Vals xs us) (few : xs.length ≤ sizeLine) :
    Inv X pins σ (upd H s.heap.objs.size (.frz { cls := .type "tuple", data := .seq us.toArray } (.tup xs))) { s with heap := s.heap.push { cls := .type "tuple", data := .seq us.toArray } } :=
  I.laid (t' := s.toks) (fun _ _ was => Heap.get?_push_of_some _ was) (Nat.le_refl _) ⟨Heap.get?_push_size _ rfl, few, us, r, IsTup.new _ _⟩
def tTupS (t : TA) : TE := fun σ H Q => t σ H fun xs H1 => xs.length ≤ sizeLine ∧ ∀ (p : Addr) (o : Obj), H1 p = none → o.dict = none → Q (.ref p) (upd H1 p (.frz o (.tup xs)))
theorem pe_tupS {es : List Expr} {k : Nat} {pos : Pos} {t : TA} (args : PA X es t) : PE X (.Tuple es k pos) (tTupS t) := by
  constructor
  intro pins s σ H Q I todo
  refine wpAny_Tuple_spliced (thn (args.run pos pins s σ H _ I todo) ?_)
  rintro us s1 ⟨xs, H1, I1, rel, few, give⟩
  have n := rel.length
  exact ⟨by omega, .ref _, _, tup_new I1 rel few, rfl, give _ _ I1.fresh rfl⟩
theorem call_tupS : CallR X (.type "tuple") (fun xs H Q => ∃ p ys, xs = [.ref p] ∧ ((SqL X.K H p ys ∧ ∀ (l : Addr) (o : Obj), H l = none → o.dict = none → Q (.ref l) (upd H l (.frz o (.tup ys)))) ∨ (SqT X.K H p ys ∧ Q (.ref p) H))) := by
  rintro pins σ₁ σ₂ H xs us Q I rel ⟨p, ys, rfl, how⟩
  rcases rel with _ | ⟨⟨⟩, ⟨⟩⟩
  rcases how with ⟨sq, give⟩ | ⟨sq, give⟩
  · obtain ⟨its, rv, pl, few⟩ := I.list sq
    have n := rv.length
    refine call_tuple_list pl.isList (fun h2 kept => ?_) (by simp only [List.size_toArray]; omega)
    have I1 := I.kept (t' := σ₁.toks) kept
    exact ⟨.ref _, _, tup_new I1 rv few, rfl, give _ _ (I1.hok.fresh (Nat.le_refl _)) rfl⟩
  · obtain ⟨its, -, pl, -⟩ := I.tuple sq
    exact call_tuple_same pl ⟨.ref p, H, I, rfl, give⟩
def rSlS (K : PySem.W.Frag) : V → Option Int → Option Int → Hp → VK → Prop := fun x lo hi H Q => ∃ a xs, x = .ref a ∧ SqT K H a xs ∧
  (HT.sIx xs.length 0 lo = 0 ∧ HT.sIx xs.length xs.length hi = xs.length → Q (.ref a) H) ∧ (¬ (HT.sIx xs.length 0 lo = 0 ∧ HT.sIx xs.length xs.length hi = xs.length) → ∀ (p : Addr) (o : Obj), H p = none → o.dict = none → Q (.ref p) (upd H p (.frz o (.tup (cutV xs lo hi)))))
theorem sl_tupS : SlR X (rSlS X.K) := by
  rintro pins σ₁ σ₂ H x v vl vu lo hi sl Q I rx hs pl pu ⟨a, xs, rfl, sq, all_, part⟩
  cases rx
  obtain ⟨us, rel, here, few⟩ := I.tuple sq
  have n : us.toArray.size = xs.length := by simp [rel.length]
  refine ⟨"tuple", _, PyProof.Rows.slot_tuple_getitem.lookup, here.typeIs, ?_⟩
  by_cases whole : HT.sIx xs.length 0 lo = 0 ∧ HT.sIx xs.length xs.length hi = xs.length
  · exact getItem_tuple_whole here hs pl pu (by rwa [n]) ⟨.ref a, H, I, rfl, all_ whole⟩
  · refine HT.getItem_tuple_cut here hs pl pu (by rwa [n]) ?_ (by rwa [n])
    rw [n]
    exact ⟨.ref _, _, tup_new I ((rel.drop _).take _) (Nat.le_trans (cutV_length xs lo hi) few), rfl, part whole _ _ I.fresh rfl⟩
def rCatS (K : PySem.W.Frag) : R2 := fun x y H Q => ∃ a b xs ys, x = .ref a ∧ y = .ref b ∧ SqT K H a xs ∧ SqT K H b ys ∧ xs.length + ys.length ≤ sizeLine ∧
  (xs = [] → Q (.ref b) H) ∧ (xs ≠ [] → ys = [] → Q (.ref a) H) ∧ (∀ (p : Addr) (o : Obj), H p = none → o.dict = none → Q (.ref p) (upd H p (.frz o (.tup (xs ++ ys)))))
theorem op_catS : OpR X (binaryOp .Add) (rCatS X.K) := by
  rintro pins σ₁ σ₂ H x y v u Q I rx ry ⟨a, b, xs, ys, rfl, rfl, s1, s2, few, none1, none2, both⟩
  cases rx; cases ry
  obtain ⟨us, rel, here, -⟩ := I.tuple s1
  obtain ⟨ws, rel2, there, -⟩ := I.tuple s2
  by_cases empty : xs = []
  · subst empty
    cases rel
    exact cat_tup0 here there ⟨.ref b, H, I, rfl, none1 rfl⟩
  · refine HT.cat_tup here there (fun z => empty (rel.nil_iff.mp z)) (fun z => ⟨.ref a, H, I, rfl, none2 empty (rel2.nil_iff.mp z)⟩) (fun _ => ?_) (by rw [← rel.length, ← rel2.length]; exact few)
    exact ⟨.ref _, _, tup_new I (rel.append rel2) (by simpa using few), rfl, both _ _ I.fresh rfl⟩
end
/-! ### list + list, list * int over what is read -/
section
variable {X : Cx}
theorem Inv.lstR {pins : List (Addr × Obj)} {σ : L2.St} {H : Hp} {s : Shared} {a : Addr} {xs : List V} (I : Inv X pins σ H s) (here : Rd H a (.lst xs)) : xs.length ≤ sizeLine ∧ ∃ (vs : List Value) (e : Nat), Vals xs vs ∧ xs.length = vs.length ∧ s.heap.get? a = some { cls := .type "list", data := .seq vs.toArray e } := by
  have ok := here.ok I.hok
  obtain ⟨few, vs, e, rel, get⟩ := ok
  exact ⟨few, vs, e, rel, rel.length, get⟩
def rCatR : R2 := fun x y H Q => ∃ l b xs zs, x = .ref l ∧ y = .ref b ∧ Rd H l (.lst xs) ∧ Rd H b (.lst zs) ∧ xs.length + zs.length ≤ sizeLine ∧ ∀ p, H p = none → Q (.ref p) (upd H p (.lst (xs ++ zs)))
theorem op_catR : OpR X (binaryOp .Add) rCatR := by
  rintro pins σ₁ σ₂ H x y v u Q I rx ry ⟨one, two, as, bs, rfl, rfl, H1, H2, few, give⟩
  cases rx; cases ry
  obtain ⟨-, p1, n1, v1, c1, g1⟩ := DS.Inv.lstR I H1
  obtain ⟨-, p2, n2, v2, c2, g2⟩ := DS.Inv.lstR I H2
  have end_ := I.lnew (t' := σ₁.toks) (v1.append v2) (by simpa using few)
  rw [← List.append_toArray] at end_
  have fin : EP X pins σ₂ Q (.ref σ₁.heap.objs.size) _ := ⟨.ref _, _, end_, rfl, give _ I.fresh⟩
  exact PySem.P.add_list g1 g2 fin (by simp only [List.size_toArray]; omega)
def rRepR : R2 := fun x y H Q => ∃ l k xs, x = .ref l ∧ y = .int k ∧ Rd H l (.lst xs) ∧ -(2 ^ 63) ≤ k ∧ k < 2 ^ 63 ∧ xs.length * k.toNat ≤ sizeLine ∧ (∀ p, H p = none → Q (.ref p) (upd H p (.lst (List.replicate k.toNat xs).flatten)))
theorem rep_made (ps : List Value) (m : Nat) : List.foldl (fun x1 x2 => x1 ++ x2) #[] (List.replicate (if ps.toArray.isEmpty = true then 0 else m) ps.toArray) = (List.replicate m ps).flatten.toArray := by
  cases ps
  · simp
  · rename_i q r
    simpa using foldl_rep (q :: r) m []
theorem op_repR : OpR X (binaryOp .Mult) rRepR := by
  rintro pins σ₁ σ₂ H x y v u Q I rx ry ⟨l, k, xs, rfl, rfl, H1, lo, hi, few, give⟩
  cases rx
  obtain ⟨t, rfl⟩ := ry
  obtain ⟨-, ps, n, v1, c1, g1⟩ := DS.Inv.lstR I H1
  have few' : ps.toArray.size * k.toNat ≤ sizeLine := by simpa [← c1] using few
  have line : (sizeLine : Nat) ≤ (2 ^ 63 - 1) / 8 := by decide
  have inner := AutoListH.list___mul___list_int_3 l ps.toArray n k t (by simp [fitsIndex_both lo hi]) (Nat.not_lt.mpr (Nat.le_trans few' line)) (by rw [notLongL few']; exact Bool.false_ne_true)
  have end_ := I.lnew (t' := σ₁.toks) (v1.rep k.toNat) (by rw [PyProof.Rows.lm_len_rep_flat, Nat.mul_comm]; exact few)
  rw [← rep_made] at end_
  have fin : EP X pins σ₂ Q (.ref σ₁.heap.objs.size) _ := ⟨.ref _, _, end_, rfl, give _ I.fresh⟩
  have there : σ₁.TypeIs (.ref l) "list" := ⟨_, g1, rfl⟩
  exact wpAny_binaryOp_repeat_ref (T := "list") (U := "int") (by decide) there (fun _ => typeIs_int _ k t) noFill_list_mul F.fills_int_mul F.slot_int_rmul repeat_list F.slot_int_index.lookup
    (call_meets F.slot_int_rmul (typeIs_int σ₁ k t) F.entry_int_rmul (F.args_int_rmul_2 _ _) (int___rmul___int_list k t l ps.toArray n) (And.intro g1 (And.intro rfl (And.intro there
      (call_meets F.slot_list_mul there F.entry_list_mul (F.args_list_mul_2 _ _) inner (And.intro g1 fin))))))

/-! ### two-place operators -/
def rBin (K : PySem.W.Frag) : Operator → R2
  | .Add => fun x y H Q => rI0 (fun i j => .int (i + j)) x y H Q ∨ (∃ i j, x = .str i ∧ y = .str j ∧ i.length + j.length ≤ sizeLine ∧ Q (.str (i ++ j)) H) ∨ rCatR x y H Q ∨ rCatS K x y H Q
  | .Sub => rI0 fun i j => .int (i - j)
  | .Mult => fun x y H Q => rI CMul (fun i j => .int (i * j)) x y H Q ∨ rRepR x y H Q
  | .FloorDiv => rI CDivW fun i j => .int (i / j)
  | .Mod => rI (fun _ j => 0 < j) fun i j => .int (i % j)
  | .Pow => rI CPow fun i j => .int (i ^ j.toNat)
  | .LShift => rI CPow fun i j => .int (i * 2 ^ j.toNat)
  | .RShift => rI (fun _ j => 0 ≤ j) fun i j => .int (i / 2 ^ j.toNat)
  | .BitAnd => rI0 fun i j => .int (Builtin.bitAnd i j)
  | .BitOr => rI0 fun i j => .int (Builtin.bitOr i j)
  | .BitXor => rI0 fun i j => .int (Builtin.bitXor i j)
  | .MatMult => fun _ _ _ _ => False
  | .Div => fun _ _ _ _ => False
theorem OpR.never {f : Value → Value → Sem Value} : OpR X f (fun _ _ _ _ => False) := fun _ _ _ _ _ _ _ _ _ _ _ _ h => h.elim
theorem op_bin : ∀ o : Operator, OpR X (binaryOp o) (rBin X.K o)
  | .Add => op_add.or (op_add_str.or (op_catR.or op_catS))
  | .Sub => op_sub
  | .Mult => op_mul.or op_repR
  | .FloorDiv => op_fdivW
  | .Mod => op_mod
  | .Pow => op_pow
  | .LShift => op_shl
  | .RShift => op_shr
  | .BitAnd => op_and
  | .BitOr => op_or
  | .BitXor => op_xor
  | .MatMult => OpR.never
  | .Div => OpR.never
section
variable {p : Par} {y : Dy} {S : Hp} {σ : L2.St} {H : Hp} {ρ : En} {Q : VK}
theorem bin_fin {o : Operator} {a b : D} {v w : V} {r : Ar} (e : binD o a b = .ok r) (st : Stt p y S σ H ρ) (ra : RepV p S H a v) (rb : RepV p S H b w) (fin : FinQ p y σ S H Q (r, ρ)) : rBin p.K o v w H Q := by
  unfold binD at e
  split at e
  case h_1 i j => cases e; cases (show v = _ from ra); cases (show w = _ from rb); exact .inl ⟨_, _, rfl, rfl, fin.val st rfl⟩
  case h_2 i j => cases e; cases (show v = _ from ra); cases (show w = _ from rb); exact ⟨_, _, rfl, rfl, fin.val st rfl⟩
  case h_3 i j =>
    split at e
    · rename_i hc; cases e; cases (show v = _ from ra); cases (show w = _ from rb); exact .inl ⟨_, _, rfl, rfl, hc, fin.val st rfl⟩
    · cases e
  case h_4 i j =>
    split at e
    · rename_i hc; cases e; cases (show v = _ from ra); cases (show w = _ from rb); exact ⟨_, _, rfl, rfl, hc, fin.val st rfl⟩
    · cases e
  case h_5 i j =>
    split at e
    · rename_i hc; cases e; cases (show v = _ from ra); cases (show w = _ from rb); exact ⟨_, _, rfl, rfl, hc, fin.val st rfl⟩
    · cases e
  case h_6 i j =>
    split at e
    · rename_i hc; cases e; cases (show v = _ from ra); cases (show w = _ from rb); exact ⟨_, _, rfl, rfl, hc, fin.val st rfl⟩
    · cases e
  case h_7 i j =>
    split at e
    · rename_i hc; cases e; cases (show v = _ from ra); cases (show w = _ from rb); exact ⟨_, _, rfl, rfl, hc, fin.val st rfl⟩
    · cases e
  case h_8 i j =>
    split at e
    · rename_i hc; cases e; cases (show v = _ from ra); cases (show w = _ from rb); exact ⟨_, _, rfl, rfl, hc, fin.val st rfl⟩
    · cases e
  case h_9 i j => cases e; cases (show v = _ from ra); cases (show w = _ from rb); exact ⟨_, _, rfl, rfl, fin.val st rfl⟩
  case h_10 i j => cases e; cases (show v = _ from ra); cases (show w = _ from rb); exact ⟨_, _, rfl, rfl, fin.val st rfl⟩
  case h_11 i j => cases e; cases (show v = _ from ra); cases (show w = _ from rb); exact ⟨_, _, rfl, rfl, fin.val st rfl⟩
  case h_12 i j =>
    split at e
    · rename_i hc; cases e; cases (show v = _ from ra); cases (show w = _ from rb); exact .inr (.inl ⟨_, _, rfl, rfl, hc, fin.val st rfl⟩)
    · cases e
  case h_13 xs ys =>
    split at e
    · rename_i hc
      cases e
      obtain ⟨l, vs, e1, q1, r1⟩ := ra.lst'
      obtain ⟨l2, us, e2, q2, r2⟩ := rb.lst'
      exact .inr (.inr (.inl ⟨l, l2, vs, us, e1, e2, q1, q2, by rw [← r1.length, ← r2.length]; exact hc, fin.lst st (r1.append r2)⟩))
    · cases e
  case h_14 xs ys =>
    split at e
    · rename_i hc
      cases e
      obtain ⟨l, vs, e1, q1, r1⟩ := ra.tup' st.sub
      obtain ⟨l2, us, e2, q2, r2⟩ := rb.tup' st.sub
      have l1 := r1.length
      have l2' := r2.length
      refine .inr (.inr (.inr ⟨l, l2, vs, us, e1, e2, q1, q2, by omega, ?_, ?_, ?_⟩))
      · intro z
        have hx : xs = [] := by rw [z] at l1; exact List.length_eq_zero_iff.mp l1
        subst hx
        have rb' := rb
        subst e2
        refine fin.val st ?_
        rw [List.nil_append]
        exact rb'
      · intro _ z
        have hy : ys = [] := by rw [z] at l2'; exact List.length_eq_zero_iff.mp l2'
        subst hy
        have ra' := ra
        subst e1
        refine fin.val st ?_
        rw [List.append_nil]
        exact ra'
      · exact fin.tup st (r1.append r2)
    · cases e
  case h_15 xs k =>
    split at e
    · rename_i hc
      cases e
      obtain ⟨l, vs, e1, q1, r1⟩ := ra.lst'
      cases (show w = _ from rb)
      exact .inr ⟨l, _, vs, e1, rfl, q1, hc.1, hc.2.1, by rw [← r1.length]; exact hc.2.2, fin.lst st (r1.rep _)⟩
    · cases e
  case h_16 => cases e
end
end
end DS
namespace DS
open PySem PySem.Spec PyProof.Rows L2
section
variable {X : Cx}
def rUn : UnaryOp → V → Hp → VK → Prop
  | .USub => rU fun i => .int (-i)
  | .Invert => rU fun i => .int (Builtin.bitNot i)
  | .Not => fun _ _ _ => False
  | .UAdd => fun _ _ _ => False
theorem op_un : ∀ o : UnaryOp, UnR X (unaryOp o) (rUn o)
  | .USub => un_neg
  | .Invert => un_inv
  | .Not => fun _ _ _ _ _ _ _ _ _ h => h.elim
  | .UAdd => fun _ _ _ _ _ _ _ _ _ h => h.elim
section
variable {p : Par} {y : Dy} {S : Hp} {σ : L2.St} {H : Hp} {ρ : En} {Q : VK}
theorem un_fin {o : UnaryOp} {a : D} {v : V} {r : Ar} (e : unD o a = .ok r) (st : Stt p y S σ H ρ) (ra : RepV p S H a v) (fin : FinQ p y σ S H Q (r, ρ)) : rUn o v H Q := by
  unfold unD at e
  split at e
  · cases e; cases (show v = _ from ra); exact ⟨_, rfl, fin.val st rfl⟩
  · cases e; cases (show v = _ from ra); exact ⟨_, rfl, fin.val st rfl⟩
  · cases e

/-! ### comparisons -/
def rCmp (K : PySem.W.Frag) : CmpOp → R2
  | .Eq => rEqD K
  | .NotEq => rNeD K
  | .Lt => rI0 fun i j => .bl (decide (i < j))
  | .LtE => rI0 fun i j => .bl (decide (i ≤ j))
  | .Gt => rI0 fun i j => .bl (decide (j < i))
  | .GtE => rI0 fun i j => .bl (decide (j ≤ i))
  | .Is => fun x y H Q => (y = .non ∧ Q (.bl (decide (x = .non))) H) ∨ rIsB x y H Q
  | .IsNot => fun x y H Q => (y = .non ∧ Q (.bl (!decide (x = .non))) H) ∨ rNotB x y H Q
  | .In => fun x y H Q => rIn K false x y H Q ∨ (∃ i j, x = .str i ∧ y = .str j ∧ Q (.bl (!(Builtin.Str.occurrences j i 0 j.length 1).isEmpty)) H)
  | .NotIn => fun x y H Q => rIn K true x y H Q ∨ (∃ i j, x = .str i ∧ y = .str j ∧ Q (.bl (!(!(Builtin.Str.occurrences j i 0 j.length 1).isEmpty))) H)
theorem op_cmp (hu : X.A.units + 64 < cLine) : ∀ o : CmpOp, OpR X (compareOp o) (rCmp X.K o)
  | .Eq => op_eqD hu
  | .NotEq => op_neD hu
  | .Lt => op_lt
  | .LtE => op_le
  | .Gt => op_gt
  | .GtE => op_ge
  | .Is => op_isN.or op_isBl
  | .IsNot => op_notN.or op_notBl
  | .In => op_in_seq.or op_in_str
  | .NotIn => op_notIn_seq.or op_notin_str
theorem Rep.nonIff {d : D} {v : V} (r : Rep p S d v) : decide (v = .non) = (match d with | .non => true | _ => false) := by
  cases d with
  | non => cases (show v = _ from r); rfl
  | bl b => cases (show v = _ from r); rfl
  | int b => cases (show v = _ from r); rfl
  | str b => cases (show v = _ from r); rfl
  | tup xs => obtain ⟨a, vs, e, _⟩ := (show ∃ a vs, v = .ref a ∧ TupS S a vs ∧ Reps p S xs vs from r); subst e; rfl
  | pr a b => obtain ⟨t, v1, v2, e, _⟩ := (show ∃ t v1 v2, v = .ref t ∧ SqT p.K S t [v1, v2] ∧ Rep p S a v1 ∧ Rep p S b v2 from r); subst e; rfl
  | lst xs => obtain ⟨a, vs, e, _⟩ := (show ∃ a vs, v = .ref a ∧ Rd S a (.lst vs) ∧ Reps p S xs vs from r); subst e; rfl
  | rol xs => obtain ⟨a, vs, e, _⟩ := (show ∃ a vs, v = .ref a ∧ SqL p.K S a vs ∧ Reps p S xs vs from r); subst e; rfl
  | ins c fs => obtain ⟨a, dx, vs, e, _⟩ := (show ∃ a dx vs, v = .ref a ∧ S a = some (.ins (p.cl c) dx ((p.fields c).zip vs)) ∧ Reps p S fs vs from r); subst e; rfl
theorem eq_fin {a b : D} {v w : V} {k : Bool} (e : eqD a b = some k) (ra : Rep p H a v) (rb : Rep p H b w) : ∃ d e, Dp p.K H v d ∧ Dp p.K H w e ∧ SeqAt.shaped d = true ∧ SeqAt.shaped e = true ∧ PyData.eqv d e = k := by
  unfold eqD at e
  split at e
  · rename_i x z h1 h2
    split at e
    · rename_i hs
      cases e
      simp only [Bool.and_eq_true] at hs
      exact ⟨x, z, toPD_rep rfl h1 ra, toPD_rep rfl h2 rb, hs.1, hs.2, rfl⟩
    · cases e
  · cases e
theorem in_fin {a b : D} {v w : V} {k : Bool} (e : inD a b = some k) (hSH : Sub S H) (ra : RepV p S H a v) (rb : RepV p S H b w) :
    (∃ q xs, w = .ref q ∧ (SqL p.K H q xs ∨ SqT p.K H q xs) ∧ flatV v = true ∧ xs.all flatV = true ∧ inV v xs = k) ∨ (∃ i j, v = .str i ∧ w = .str j ∧ (!(Builtin.Str.occurrences j i 0 j.length 1).isEmpty) = k) := by
  have seqc : ∀ {ys : List D}, seqOf b = some ys → (∃ v' vs, flat? a = some v' ∧ flats? ys = some vs ∧ inV v' vs = k) →
      (∃ q xs, w = .ref q ∧ (SqL p.K H q xs ∨ SqT p.K H q xs) ∧ flatV v = true ∧ xs.all flatV = true ∧ inV v xs = k) := fun {ys} hs ⟨v', vs, h1, h2, h3⟩ => by
    obtain ⟨l, us, e1, q1, r1⟩ := rb.seq hSH hs
    obtain ⟨e2, f2⟩ := flat?_rep h1 (ra.rep hSH)
    obtain ⟨e3, f3⟩ := flats?_rep h2 r1
    subst e2 e3
    exact ⟨l, _, e1, q1, f2, f3, h3⟩
  unfold inD at e
  split at e
  · split at e
    · rename_i h1 h2; cases e; exact .inl (seqc rfl ⟨_, _, h1, h2, rfl⟩)
    · cases e
  · split at e
    · rename_i h1 h2; cases e; exact .inl (seqc rfl ⟨_, _, h1, h2, rfl⟩)
    · cases e
  · split at e
    · rename_i h1 h2; cases e; exact .inl (seqc rfl ⟨_, _, h1, h2, rfl⟩)
    · cases e
  · split at e
    · cases e
      cases (show v = _ from ra)
      cases (show w = _ from rb)
      exact .inr ⟨_, _, rfl, rfl, rfl⟩
    · cases e
  · cases e
theorem cmp_fin {o : CmpOp} {a b : D} {v w : V} {k : Bool} (e : cmpD o a b = some k) (hSH : Sub S H) (ra : RepV p S H a v) (rb : RepV p S H b w) (q : Q (.bl k) H) : rCmp p.K o v w H Q := by
  cases o with
  | Eq =>
    obtain ⟨d, e', h1, h2, h3, h4, h5⟩ := eq_fin e (ra.rep hSH) (rb.rep hSH)
    exact ⟨d, e', h1, h2, h3, h4, by rw [h5]; exact q⟩
  | NotEq =>
    simp only [cmpD, Option.map_eq_some_iff] at e
    obtain ⟨k', e, rfl⟩ := e
    obtain ⟨d, e', h1, h2, h3, h4, h5⟩ := eq_fin e (ra.rep hSH) (rb.rep hSH)
    exact ⟨d, e', h1, h2, h3, h4, by rw [h5]; exact q⟩
  | Lt =>
    simp only [cmpD] at e
    split at e
    · cases e; cases (show v = _ from ra); cases (show w = _ from rb); exact ⟨_, _, rfl, rfl, q⟩
    · cases e
  | LtE =>
    simp only [cmpD] at e
    split at e
    · cases e; cases (show v = _ from ra); cases (show w = _ from rb); exact ⟨_, _, rfl, rfl, q⟩
    · cases e
  | Gt =>
    simp only [cmpD] at e
    split at e
    · cases e; cases (show v = _ from ra); cases (show w = _ from rb); exact ⟨_, _, rfl, rfl, q⟩
    · cases e
  | GtE =>
    simp only [cmpD] at e
    split at e
    · cases e; cases (show v = _ from ra); cases (show w = _ from rb); exact ⟨_, _, rfl, rfl, q⟩
    · cases e
  | Is =>
    simp only [cmpD] at e
    split at e
    · cases (show w = _ from rb)
      refine .inl ⟨rfl, ?_⟩
      rw [(ra.rep hSH).nonIff]
      cases a <;> (cases e; exact q)
    · split at e
      · cases e; cases (show v = _ from ra); cases (show w = _ from rb); exact .inr ⟨_, _, rfl, rfl, q⟩
      · cases e
    · cases e
  | IsNot =>
    simp only [cmpD] at e
    split at e
    · cases (show w = _ from rb)
      refine .inl ⟨rfl, ?_⟩
      rw [(ra.rep hSH).nonIff]
      cases a <;> (cases e; exact q)
    · split at e
      · cases e; cases (show v = _ from ra); cases (show w = _ from rb); exact .inr ⟨_, _, rfl, rfl, q⟩
      · cases e
    · cases e
  | In =>
    rcases in_fin e hSH ra rb with ⟨l, xs, h1, h2, h3, h4, h5⟩ | ⟨i, j, h1, h2, h3⟩
    · exact .inl ⟨l, xs, h1, h2, h3, h4, by show Q (.bl (inV v xs)) H; rw [h5]; exact q⟩
    · exact .inr ⟨i, j, h1, h2, by rw [h3]; exact q⟩
  | NotIn =>
    simp only [cmpD, Option.map_eq_some_iff] at e
    obtain ⟨k', e, rfl⟩ := e
    rcases in_fin e hSH ra rb with ⟨l, xs, h1, h2, h3, h4, h5⟩ | ⟨i, j, h1, h2, h3⟩
    · exact .inl ⟨l, xs, h1, h2, h3, h4, by show Q (.bl (!inV v xs)) H; rw [h5]; exact q⟩
    · exact .inr ⟨i, j, h1, h2, by rw [h3]; exact q⟩

/-! ### truth -/
theorem tru_fin {d : D} {v : V} {k : Bool} (e : truthD d = some k) (hSH : Sub S H) (r : RepV p S H d v) : TruV p.K v H k := by
  cases d with
  | non => cases e; cases (show v = _ from r); exact rfl
  | bl b => cases e; cases (show v = _ from r); exact rfl
  | int b => cases e; cases (show v = _ from r); exact rfl
  | str b =>
    simp only [truthD] at e
    split at e
    · rename_i hz; cases e; cases (show v = _ from r); exact ⟨hz, rfl⟩
    · cases e
  | ins c fs => cases e
  | pr a b => cases e
  | tup xs =>
    cases e
    obtain ⟨l, vs, e1, q, rr⟩ := r.tup' hSH
    subst e1
    have hl := rr.length
    refine .inr (.inl ⟨vs, q, ?_⟩)
    cases xs <;> cases vs <;> simp at hl ⊢
  | lst xs =>
    cases e
    obtain ⟨l, vs, e1, q, rr⟩ := r.lst'
    subst e1
    have hl := rr.length
    refine .inl ⟨vs, .inl q, ?_⟩
    cases xs <;> cases vs <;> simp at hl ⊢
  | rol xs =>
    cases e
    obtain ⟨l, vs, e1, q, rr⟩ := r.rol' hSH
    subst e1
    have hl := rr.length
    refine .inl ⟨vs, q, ?_⟩
    cases xs <;> cases vs <;> simp at hl ⊢

/-! ### a place in a sequence, a slice -/
theorem atI_rep {ds : List D} {vs : List V} (r : Reps p S ds vs) {k : Int} {d : D} (e : atI ds k = some d) : ∃ v, atI vs k = some v ∧ Rep p S d v := by
  unfold atI at e ⊢
  rw [← r.length]
  cases q : ixN ds.length k with
  | none => rw [q] at e; cases e
  | some j =>
    rw [q] at e
    exact r.get (show ds[j]? = some d from e)
theorem ix_fin {a b : D} {v w : V} {d : D} (e : ixD a b = some d) (st : Stt p y S σ H ρ) (ra : RepV p S H a v) (rb : RepV p S H b w) (q : ∀ u, Rep p S d u → Q u H) : rIx p.K v w H Q := by
  unfold ixD at e
  split at e
  · rename_i k
    cases (show w = _ from rb)
    split at e
    · obtain ⟨l, vs, e1, q1, r1⟩ := ra.lst'
      obtain ⟨u, e2, r2⟩ := atI_rep r1 e
      exact .inl ⟨l, vs, k, u, e1, rfl, .inl q1, e2, q u r2⟩
    · obtain ⟨l, vs, e1, q1, r1⟩ := ra.tup' st.sub
      obtain ⟨u, e2, r2⟩ := atI_rep r1 e
      exact .inr (.inl ⟨l, vs, k, u, e1, rfl, q1, e2, q u r2⟩)
    · obtain ⟨l, vs, e1, q1, r1⟩ := ra.rol' st.sub
      obtain ⟨u, e2, r2⟩ := atI_rep r1 e
      exact .inl ⟨l, vs, k, u, e1, rfl, q1, e2, q u r2⟩
    · split at e
      · rename_i hz
        simp only [Option.map_eq_some_iff] at e
        obtain ⟨c, e1, e2⟩ := e
        subst e2
        cases (show v = _ from ra)
        exact .inr (.inr ⟨_, k, c, rfl, rfl, hz, e1, q _ rfl⟩)
      · cases e
    · cases e
  · cases e
end
end
end DS
namespace DS
open PySem PySem.Spec PyProof.Rows L2
/-! ### sorted ints -/
theorem isort_perm (ns : List Int) : (isort ns).Perm ns := List.mergeSort_perm _ _
theorem isort_sorted (ns : List Int) : (isort ns).Pairwise (· ≤ ·) := by
  have h := List.pairwise_mergeSort (le := fun (a b : Int) => decide (a ≤ b)) (fun a b c h1 h2 => by simp at h1 h2 ⊢; omega) (fun a b => by simp; omega) ns
  exact h.imp fun h => by simpa using h
theorem isort_uniq {ns ms : List Int} (hp : ms.Perm ns) (hs : ms.Pairwise (· ≤ ·)) : ms = isort ns :=
  List.Perm.eq_of_pairwise (le := fun (a b : Int) => a ≤ b) (fun a b _ _ h1 h2 => by omega) hs (isort_sorted ns) (hp.trans (isort_perm ns).symm)
theorem isort_rev {ns ms : List Int} (hp : ms.Perm ns) (hs : ms.Pairwise (· ≥ ·)) : ms = (isort ns).reverse := by
  have h : ms.reverse = isort ns := isort_uniq (((List.reverse_perm ms).trans hp)) (by rw [List.pairwise_reverse]; exact hs)
  rw [← h, List.reverse_reverse]
section
variable {X : Cx}
section
variable {p : Par} {y : Dy} {S : Hp} {σ : L2.St} {H : Hp} {ρ : En} {Q : VK}
def rSl (K : PySem.W.Frag) : V → Option Int → Option Int → Hp → VK → Prop := fun x lo hi H Q => rSlL K x lo hi H Q ∨ rSlS K x lo hi H Q
theorem op_sl : SlR X (rSl X.K) := sl_list.or sl_tupS
theorem cutV_eq (vs : List V) (l h : Option Int) : cutV vs l h = cutD vs l h := rfl
theorem sl_fin {a : D} {v : V} {l h : Option Int} {r : Ar} {lo hi : Option (Option Int)} (e1 : lo = some l) (e2 : hi = some h) (e : sliceD a lo hi = .ok r) (st : Stt p y S σ H ρ) (ra : RepV p S H a v) (fin : FinQ p y σ S H Q (r, ρ)) : rSl p.K v l h H Q := by
  unfold sliceD at e
  rw [e1, e2] at e
  simp only at e
  split at e
  · cases e
    obtain ⟨b, vs, e3, q, rr⟩ := ra.lst'
    exact .inl ⟨b, vs, e3, .inl q, fin.lst st (rr.cut l h)⟩
  · cases e
    obtain ⟨b, vs, e3, q, rr⟩ := ra.rol' st.sub
    exact .inl ⟨b, vs, e3, q, fin.lst st (rr.cut l h)⟩
  · rename_i xs
    obtain ⟨b, vs, e3, q, rr⟩ := ra.tup' st.sub
    have hl := rr.length
    split at e
    · rename_i hw
      cases e
      subst e3
      exact .inr ⟨b, vs, rfl, q, fun _ => fin.val st ra, fun z => absurd (by rw [← hl]; exact hw) z⟩
    · rename_i hw
      cases e
      exact .inr ⟨b, vs, e3, q, fun z => absurd (by rw [← hl] at z; exact z) hw, fun _ => fin.tup st (rr.cut l h)⟩
  · cases e

/-! ### built-ins -/
theorem ty_rep {d : D} {v : V} {t : String} (e : tyD d = some t) (hSH : Sub S H) (r : RepV p S H d v) : TyX p.K H v (.type t) := by
  cases d with
  | non => cases e; cases (show v = _ from r); exact .base .non
  | bl b => cases e; cases (show v = _ from r); exact .base (.bl b)
  | int b => cases e; cases (show v = _ from r); exact .base (.int b)
  | str b => cases e; cases (show v = _ from r); exact .base (.str b)
  | ins c fs => cases e
  | pr a b => cases e
  | tup xs =>
    cases e
    obtain ⟨a, vs, e1, q, _⟩ := r.tup' hSH
    subst e1
    rcases q with (q | ⟨o, q⟩) | ⟨o, its, n, h1, h2, _⟩
    · exact .base (.tup q)
    · exact .fTuple q
    · exact .kTuple h1 h2
  | lst xs =>
    cases e
    obtain ⟨a, vs, e1, q, _⟩ := r.lst'
    subst e1
    rcases q with q | ⟨o, q⟩
    · exact .base (.lst q)
    · exact .base (.frz q)
  | rol xs =>
    cases e
    obtain ⟨a, vs, e1, q, _⟩ := r.rol' hSH
    subst e1
    rcases q with (q | ⟨o, q⟩) | ⟨o, its, n, h1, h2, _⟩
    · exact .base (.lst q)
    · exact .base (.frz q)
    · exact .kList h1 h2
def bltNm : Blt → Str
  | .len => "len" | .int => "int" | .tuple => "tuple" | .list => "list" | .sorted => "sorted" | .sum => "sum" | .max => "max" | .min => "min" | .max2 => "max" | .min2 => "min"
  | .abs => "abs" | .any => "any" | .all => "all" | .isi _ => "isinstance"
def bltVal : Blt → Value
  | .len => .builtin "len" | .int => .type "int" | .tuple => .type "tuple" | .list => .type "list" | .sorted => .builtin "sorted" | .sum => .builtin "sum" | .max => .builtin "max" | .min => .builtin "min"
  | .max2 => .builtin "max" | .min2 => .builtin "min" | .abs => .builtin "abs" | .any => .builtin "any" | .all => .builtin "all" | .isi _ => .builtin "isinstance"
def rBlt (K : PySem.W.Frag) : Blt → List V → Hp → VK → Prop
  | .len => fun xs H Q => (∃ p ys, xs = [.ref p] ∧ (SqL K H p ys ∨ SqT K H p ys) ∧ Q (.int ys.length) H) ∨ (∃ z, xs = [.str z] ∧ z.length ≤ sizeLine ∧ Q (.int z.length) H)
  | .int => fun xs H Q => (∃ i, xs = [.int i] ∧ Q (.int i) H) ∨ ∃ k, xs = [.bl k] ∧ Q (.int (if k then 1 else 0)) H
  | .tuple => fun xs H Q => ∃ p ys, xs = [.ref p] ∧ ((SqL K H p ys ∧ ∀ (l : Addr) (o : Obj), H l = none → o.dict = none → Q (.ref l) (upd H l (.frz o (.tup ys)))) ∨ (SqT K H p ys ∧ Q (.ref p) H))
  | .list => fun xs H Q => ∃ p ys, xs = [.ref p] ∧ (SqL K H p ys ∨ SqT K H p ys) ∧ ∀ l, H l = none → Q (.ref l) (upd H l (.lst ys))
  | .sorted => rSortedI K
  | .sum => rSum K
  | .max => fun _ _ _ => False
  | .min => fun _ _ _ => False
  | .max2 => fun xs H Q => ∃ i j, xs = [.int i, .int j] ∧ Q (.int (if j > i then j else i)) H
  | .min2 => fun xs H Q => ∃ i j, xs = [.int i, .int j] ∧ Q (.int (if j < i then j else i)) H
  | .abs => fun xs H Q => ∃ i, xs = [.int i] ∧ Q (.int (if i < 0 then -i else i)) H
  | .any => rAny K
  | .all => rAll K
  | .isi _ => fun _ _ _ => False
theorem CallR.never {f : Value} : CallR X f (fun _ _ _ => False) := fun _ _ _ _ _ _ _ _ _ h => h.elim
theorem op_blt (hc : X.calm = true) : ∀ b : Blt, CallR X (bltVal b) (rBlt X.K b)
  | .len => call_len_seq.or call_len_str
  | .int => call_int1
  | .tuple => call_tupS
  | .list => call_list_of
  | .sorted => cr_sortedI
  | .sum => cr_sum hc
  | .max => CallR.never
  | .min => CallR.never
  | .max2 => call_max2 hc
  | .min2 => call_min2 hc
  | .abs => call_abs
  | .any => cr_any hc
  | .all => cr_all hc
  | .isi _ => CallR.never
def RepVs (p : Par) (S H : Hp) : List D → List V → Prop
  | [], vs => vs = []
  | d :: ds, vs => ∃ v r, vs = v :: r ∧ RepV p S H d v ∧ RepVs p S H ds r
theorem blt_fin {b : Blt} {ds : List D} {vs : List V} {r : Ar} (hi : ∀ T, b ≠ .isi T) (e : bltD b ds = .ok r) (st : Stt p y S σ H ρ) (rs : RepVs p S H ds vs) (fin : FinQ p y σ S H Q (r, ρ)) : rBlt p.K b vs H Q := by
  have one : ∀ {d : D}, ds = [d] → ∃ v, vs = [v] ∧ RepV p S H d v := fun {d} h => by
    subst h
    obtain ⟨v, q, e1, r1, e2⟩ := rs
    cases (show q = [] from e2)
    exact ⟨v, e1, r1⟩
  have two : ∀ {d d' : D}, ds = [d, d'] → ∃ v w, vs = [v, w] ∧ RepV p S H d v ∧ RepV p S H d' w := fun {d d'} h => by
    subst h
    obtain ⟨v, q, e1, r1, w, q2, e2, r2, e3⟩ := rs
    cases (show q2 = [] from e3)
    subst e2
    exact ⟨v, w, e1, r1, r2⟩
  unfold bltD at e
  split at e
  · obtain ⟨v, rfl, rv⟩ := one rfl
    split at e
    · rename_i ys hq
      cases e
      obtain ⟨l, us, e1, q, rr⟩ := rv.seq st.sub hq
      subst e1
      exact .inl ⟨l, us, rfl, q, by rw [← rr.length]; exact fin.val st rfl⟩
    · split at e
      · split at e
        · rename_i hz; cases e; cases (show v = _ from rv); exact .inr ⟨_, rfl, hz, fin.val st rfl⟩
        · cases e
      · cases e
  · obtain ⟨v, rfl, rv⟩ := one rfl
    split at e
    · cases e; cases (show v = _ from rv); exact .inl ⟨_, rfl, fin.val st rfl⟩
    · cases e; cases (show v = _ from rv); exact .inr ⟨_, rfl, fin.val st rfl⟩
    · cases e
  · obtain ⟨v, rfl, rv⟩ := one rfl
    split at e
    · cases e
      obtain ⟨l, us, e1, q, rr⟩ := rv.tup' st.sub
      subst e1
      exact ⟨l, us, rfl, .inr ⟨q, fin.val st rv⟩⟩
    · cases e
      obtain ⟨l, us, e1, q, rr⟩ := rv.lst'
      subst e1
      exact ⟨l, us, rfl, .inl ⟨.inl q, fin.tup st rr⟩⟩
    · cases e
      obtain ⟨l, us, e1, q, rr⟩ := rv.rol' st.sub
      subst e1
      exact ⟨l, us, rfl, .inl ⟨q, fin.tup st rr⟩⟩
    · cases e
  · obtain ⟨v, rfl, rv⟩ := one rfl
    split at e
    · rename_i hq
      cases e
      obtain ⟨l, us, e1, q, rr⟩ := rv.seq st.sub hq
      subst e1
      exact ⟨l, us, rfl, q, fin.lst st rr⟩
    · cases e
  · obtain ⟨v, rfl, rv⟩ := one rfl
    split at e
    · split at e
      · rename_i ns hn
        cases e
        obtain ⟨l, us, e1, q, rr⟩ := rv.lst'
        rw [ints?_eq hn] at rr
        rw [Reps.ints.mp rr] at q
        subst e1
        exact ⟨l, ns, rfl, .inl q, fun ms a hp hs ha => by rw [isort_uniq hp hs]; exact fin.lst st (Reps.ints.mpr rfl) a ha⟩
      · cases e
    · cases e
  · obtain ⟨v, rfl, rv⟩ := one rfl
    split at e
    · split at e
      · rename_i ns hn
        cases e
        obtain ⟨l, us, e1, q, rr⟩ := rv.lst'
        rw [ints?_eq hn] at rr
        rw [Reps.ints.mp rr] at q
        subst e1
        exact ⟨l, ns, rfl, .inl q, fin.val st rfl⟩
      · cases e
    · cases e
  · cases e
    obtain ⟨v, w, rfl, r1, r2⟩ := two rfl
    cases (show v = _ from r1)
    cases (show w = _ from r2)
    exact ⟨_, _, rfl, fin.val st rfl⟩
  · cases e
    obtain ⟨v, w, rfl, r1, r2⟩ := two rfl
    cases (show v = _ from r1)
    cases (show w = _ from r2)
    exact ⟨_, _, rfl, fin.val st rfl⟩
  · cases e
    obtain ⟨v, rfl, r1⟩ := one rfl
    cases (show v = _ from r1)
    exact ⟨_, rfl, fin.val st rfl⟩
  · obtain ⟨v, rfl, rv⟩ := one rfl
    split at e
    · rename_i bs hb
      cases e
      obtain ⟨l, us, e1, q, rr⟩ := rv.lst'
      rw [bls?_eq hb] at rr
      rw [Reps.bls rr] at q
      subst e1
      exact ⟨l, bs, rfl, .inl q, fin.val st rfl⟩
    · cases e
  · obtain ⟨v, rfl, rv⟩ := one rfl
    split at e
    · rename_i bs hb
      cases e
      obtain ⟨l, us, e1, q, rr⟩ := rv.lst'
      rw [bls?_eq hb] at rr
      rw [Reps.bls rr] at q
      subst e1
      exact ⟨l, bs, rfl, .inl q, fin.val st rfl⟩
    · cases e
  · rename_i T _
    exact absurd rfl (hi T)
  · cases e
theorem isi_fin {d : D} {v : V} {T : Cl} {k : Bool} (e : isiD d T = some k) (hSH : Sub S H) (r : RepV p S H d v) (q : Q (.bl k) H) :
    ∃ n, T = .ty n ∧ rIsi p.K [v, .ty n] H Q := by
  cases T with
  | own c => cases e
  | ty n =>
    refine ⟨n, rfl, ?_⟩
    simp only [isiD, Option.bind_eq_some_iff] at e
    obtain ⟨t, e1, e2⟩ := e
    exact ⟨v, .ty n, .type t, .type n, k, rfl, .ty n, ty_rep e1 hSH r, kit_ty e2, q⟩
end
end
end DS
/-! ## Readings of expressions; calls -/
namespace DS
open PySem PySem.Spec PyProof.Rows L2

def Res {α : Type} (x : Out α) (k : α → Prop) : Prop := match x with
  | .ok a => k a
  | _ => False
theorem Res.bnd {α β : Type} {x : Out α} {f : α → Out β} {k : β → Prop} (h : Res (x.bnd f) k) : ∃ a, x = .ok a ∧ Res (f a) k := by
  cases x with
  | ok a => exact ⟨a, rfl, h⟩
  | bad => exact h.elim
  | exc c fs => exact h.elim
theorem Res.ok {α : Type} {x : Out α} {k : α → Prop} (h : Res x k) : ∃ a, x = .ok a ∧ k a := by
  cases x with
  | ok a => exact ⟨a, rfl, h⟩
  | bad => exact h.elim
  | exc c fs => exact h.elim
theorem ob_ok {α : Type} {o : Option α} {a : α} (h : ob o = .ok a) : o = some a := by
  cases o with
  | none => cases h
  | some b => cases h; rfl

section
variable (p : Par) (C : Cxt) (y : Dy)
/-- the reading of an expression's evaluation -/
def rdO (f : En → Out (Ar × En)) : TE := fun σ H Q => ∃ S ρ, Stt p y S σ H ρ ∧ Res (f ρ) (FinQ p y σ S H Q)
abbrev rdE (e : IR) : TE := rdO p y (ev C e)
abbrev rdQ (e : IR) : TE := rdO p y fun ρ => sq (ev C e ρ)
def RepAs (S : Hp) (σ : L2.St) (H : Hp) (ρ : En) : List Ar → List V → Prop
  | [], vs => vs = []
  | r :: rs, vs => ∃ v q, vs = v :: q ∧ r.seal = r ∧ RepA p y S σ H ρ r v ∧ RepAs S σ H ρ rs q
def rdA (es : IRs) : TA := fun σ H Q => ∃ S ρ, Stt p y S σ H ρ ∧ Res (evs C es ρ) fun r => ∀ vs H' S', Stt p y S' σ H' r.2 → Sub S S' → Sub H H' → RepAs p y S' σ H' r.2 r.1 vs → Q vs H'
/-- of a test -/
def rdO' (f : En → Out (Ar × En)) : TT := fun σ H Q => ∃ S ρ, Stt p y S σ H ρ ∧ Res (f ρ) fun r => ∃ b, r.1 = .v (.bl b) ∧ ∀ H' S', Stt p y S' σ H' r.2 → Sub S S' → Sub H H' → Q b H'
abbrev rdT (e : IR) : TT := rdO' p y (ev C e)
end
section
variable {X : Cx} {p : Par} {C : Cxt} {y : Dy} {S : Hp} {σ : L2.St} {H : Hp} {ρ : En}
theorem PE.mono {e : Expr} {t t' : TE} (h : PE X e t) (k : ∀ σ H Q, t' σ H Q → t σ H Q) : PE X e t' := ⟨fun pins s σ H Q I q => h.run pins s σ H Q I (k σ H Q q)⟩
theorem PT.mono {e : Expr} {t t' : TT} (h : PT X e t) (k : ∀ σ H Q, t' σ H Q → t σ H Q) : PT X e t' := ⟨fun pins s σ H Q I q => h.run pins s σ H Q I (k σ H Q q)⟩
theorem PW.mono {e : Expr} {t t' : TT} (h : PW X e t) (k : ∀ σ H Q, t' σ H Q → t σ H Q) : PW X e t' := ⟨fun w pins s σ H Q I q => h.run w pins s σ H Q I (k σ H Q q)⟩
theorem PA.mono {es : List Expr} {t t' : TA} (h : PA X es t) (k : ∀ σ H Q, t' σ H Q → t σ H Q) : PA X es t' := ⟨fun po pins s σ H Q I q => h.run po pins s σ H Q I (k σ H Q q)⟩
theorem PS.mono {st : Stmt} {t t' : TS} (h : PS X st t) (k : ∀ D σ H, t' D σ H → t D σ H) : PS X st t' := ⟨fun pins s σ H D I q => h.run pins s σ H D I (k D σ H q)⟩
theorem PSs.mono {st : List Stmt} {t t' : TS} (h : PSs X st t) (k : ∀ D σ H, t' D σ H → t D σ H) : PSs X st t' := ⟨fun pins s σ H D I q => h.run pins s σ H D I (k D σ H q)⟩
/-- sealed at once -/
theorem seal_of {e : Expr} {ir : IR} (h : PE X e (rdE p C y ir)) : PE X e (rdQ p C y ir) := PE.mono h fun σ H Q ⟨S, ρ, st, q⟩ => by
  refine ⟨S, ρ, st, ?_⟩
  obtain ⟨r, e1, q1⟩ := Res.bnd q
  rw [e1]
  exact fun v H' S' st' hS hH ra => by
    obtain ⟨S2, st2, hS2, ra2⟩ := st'.sealA ra
    exact q1 v H' S2 st2 (hS.trans hS2) hH ra2
/-- one operand -/
theorem one_rd {a : IR} {β : Type} {k : Ar × En → Out β} {F : β → Prop} {G : V → Hp → Prop} (st : Stt p y S σ H ρ) (h : Res ((sq (ev C a ρ)).bnd k) F)
    (fin : ∀ r ρ1 v H1 S1, Res (k (r, ρ1)) F → Stt p y S1 σ H1 ρ1 → Sub S S1 → Sub H H1 → r.seal = r → RepA p y S1 σ H1 ρ1 r v → G v H1) : rdQ p C y a σ H G := by
  refine ⟨S, ρ, st, ?_⟩
  obtain ⟨⟨r, ρ1⟩, e1, q1⟩ := Res.bnd h
  show Res (sq (ev C a ρ)) _
  rw [e1]
  refine fun v H' S' st' hS hH ra => fin r ρ1 v H' S' q1 st' hS hH ?_ ra
  obtain ⟨⟨r0, ρ0⟩, e2, e3⟩ : ∃ q, ev C a ρ = .ok q ∧ (Out.ok (q.1.seal, q.2) : Out (Ar × En)) = .ok (r, ρ1) := by
    unfold sq at e1
    cases q : ev C a ρ with
    | ok q0 => rw [q] at e1; exact ⟨q0, rfl, e1⟩
    | bad => rw [q] at e1; cases e1
    | exc c fs => rw [q] at e1; cases e1
  cases e3
  exact Ar.seal_seal _
/-- two operands -/
theorem two_rd {a b : IR} {β : Type} {k : Ar → Ar × En → Out β} {F : β → Prop} {G : V → V → Hp → Prop} (st : Stt p y S σ H ρ) (h : Res ((sq (ev C a ρ)).bnd fun x => (sq (ev C b x.2)).bnd fun z => k x.1 z) F)
    (fin : ∀ r1 r2 ρ2 v w H2 S2, Res (k r1 (r2, ρ2)) F → Stt p y S2 σ H2 ρ2 → Sub S S2 → Sub H H2 → RepV p S2 H2 r1.view v → RepV p S2 H2 r2.view w → RepA p y S2 σ H2 ρ2 r1 v → RepA p y S2 σ H2 ρ2 r2 w → G v w H2) :
    rdQ p C y a σ H fun v H1 => rdQ p C y b σ H1 fun w H2 => G v w H2 := by
  refine one_rd st h fun r1 ρ1 v H1 S1 q1 st1 hS hH s1 ra => ?_
  refine one_rd st1 q1 fun r2 ρ2 w H2 S2 q2 st2 hS2 hH2 s2 rb => ?_
  have ra2 : RepA p y S2 σ H2 ρ2 r1 v := RepA.mono hS2 hH2 s1 ra
  exact fin r1 r2 ρ2 v w H2 S2 q2 st2 (hS.trans hS2) (hH.trans hH2) (ra2.viewV st2) (rb.viewV st2) ra2 rb

theorem RepAs.views (st : Stt p y S σ H ρ) : ∀ {rs : List Ar} {vs : List V}, RepAs p y S σ H ρ rs vs → RepVs p S H (rs.map Ar.view) vs
  | [], vs, h => h
  | r :: rs, vs, ⟨v, q, e, _, ra, h⟩ => ⟨v, q, e, ra.viewV st, RepAs.views st h⟩
theorem RepAs.vals : ∀ {rs : List Ar} {vs : List V}, rs.any Ar.isB = false → RepAs p y S σ H ρ rs vs → Reps p S (rs.map Ar.view) vs
  | [], vs, _, h => h
  | r :: rs, vs, hb, ⟨v, q, e, s, ra, h⟩ => by
    rw [List.any_cons, Bool.or_eq_false_iff] at hb
    refine ⟨v, q, e, ?_, RepAs.vals hb.2 h⟩
    cases r with
    | v d => exact ra
    | fr ds => cases s
    | br i ds => cases hb.1
theorem RepAs.length : ∀ {rs : List Ar} {vs : List V}, RepAs p y S σ H ρ rs vs → rs.length = vs.length
  | [], vs, h => by cases (show vs = [] from h); rfl
  | r :: rs, vs, ⟨v, q, e, _, _, h⟩ => by subst e; exact congrArg (· + 1) (RepAs.length h)
theorem RepAs.mono {S' : Hp} {H' : Hp} {ρ' : En} {y' : Dy} (hS : Sub S S') (hH : Sub H H') : ∀ {rs : List Ar} {vs : List V}, RepAs p y S σ H ρ rs vs → RepAs p y' S' σ H' ρ' rs vs
  | [], vs, h => h
  | r :: rs, vs, ⟨v, q, e, s, ra, h⟩ => ⟨v, q, e, s, RepA.mono hS hH s ra, RepAs.mono hS hH h⟩

/-! ### calls of defs -/
def RetA (p : Par) (S' H H' : Hp) : Ar → V → Prop
  | .v d, v => Rep p S' d v
  | .fr ds, v => ∃ l vs, v = .ref l ∧ H' l = some (.lst vs) ∧ S' l = none ∧ H l = none ∧ Reps p S' ds vs
  | .br _ _, _ => False
/-- the promise of a def whose meaning is m -/
def spD (p : Par) (ar : Nat) (m : List D → Out Ar) : Sp := fun vs H Q _ => ∃ (S : Hp) (ds : List D), Sub S H ∧ Reps p S ds vs ∧ ds.length = ar ∧
  Res (m ds) fun r => ∀ v H' S', Sub S S' → Sub S' H' → Sub H H' → (∀ a, H a ≠ none → S' a = S a) → RetA p S' H H' r v → Q v H'
theorem spD.len {p : Par} {ar : Nat} {m : List D → Out Ar} {vs : List V} {H : Hp} {Q : VK} {E : XK} (h : spD p ar m vs H Q E) : vs.length = ar := by
  obtain ⟨S, ds, _, r, e, _⟩ := h
  rw [← r.length, e]
mutual
theorem Rep.unlist {S S' : Hp} (h : ∀ a o, S a = some o → (∀ xs, o ≠ .lst xs) → S' a = some o) : ∀ (d : D) (v : V), noL d = true → Rep p S d v → Rep p S' d v
  | .non, _, _, r => r
  | .bl _, _, _, r => r
  | .int _, _, _, r => r
  | .str _, _, _, r => r
  | .lst _, _, n, _ => nomatch n
  | .rol _, _, n, _ => nomatch n
  | .tup xs, v, n, r => by
    obtain ⟨a, vs, e, q, rr⟩ := (show ∃ a vs, v = .ref a ∧ TupS S a vs ∧ Reps p S xs vs from r)
    exact ⟨a, vs, e, q.elim fun o z => ⟨o, h _ _ z.1 (fun _ z => nomatch z), z.2⟩, Reps.unlist h xs vs n rr⟩
  | .pr x y, v, n, r => by
    obtain ⟨t, v1, v2, e, q, r1, r2⟩ := (show ∃ t v1 v2, v = .ref t ∧ SqT p.K S t [v1, v2] ∧ Rep p S x v1 ∧ Rep p S y v2 from r)
    rw [noL, Bool.and_eq_true] at n
    refine ⟨t, v1, v2, e, ?_, Rep.unlist h x v1 n.1 r1, Rep.unlist h y v2 n.2 r2⟩
    rcases q with (q | ⟨o, q⟩) | q
    · exact .inl (.inl (h _ _ q fun _ z => nomatch z))
    · exact .inl (.inr ⟨o, h _ _ q fun _ z => nomatch z⟩)
    · exact .inr q
  | .ins c fs, v, n, r => by
    obtain ⟨a, dx, vs, e, q, rr⟩ := (show ∃ a dx vs, v = .ref a ∧ S a = some (.ins (p.cl c) dx ((p.fields c).zip vs)) ∧ Reps p S fs vs from r)
    exact ⟨a, dx, vs, e, h _ _ q (fun _ z => nomatch z), Reps.unlist h fs vs n rr⟩
theorem Reps.unlist {S S' : Hp} (h : ∀ a o, S a = some o → (∀ xs, o ≠ .lst xs) → S' a = some o) : ∀ (ds : List D) (vs : List V), noLs ds = true → Reps p S ds vs → Reps p S' ds vs
  | [], _, _, r => r
  | d :: ds, vs, n, r => by
    obtain ⟨v, q, e, r1, r2⟩ := (show ∃ v q, vs = v :: q ∧ Rep p S d v ∧ Reps p S ds q from r)
    rw [noLs, Bool.and_eq_true] at n
    exact ⟨v, q, e, Rep.unlist h d v n.1 r1, Reps.unlist h ds q n.2 r2⟩
end
/-- what the borrowed ones stand at -/
def lentAt (S H : Hp) (vs : List V) : Hp := fun a => match S a with
  | some o => some o
  | none => if V.ref a ∈ vs then (match H a with
    | some (.lst xs) => some (.lst xs)
    | _ => none) else none
theorem lent_rep (hSH : Sub S H) {ws : List V} : ∀ {rs : List Ar} {vs : List V}, (∀ v ∈ vs, v ∈ ws) → RepAs p y S σ H ρ rs vs → Reps p (lentAt S H ws) (rs.map Ar.view) vs
  | [], vs, _, h => h
  | r :: rs, vs, hm, ⟨v, q, e, s, ra, h⟩ => by
    subst e
    have hs : Sub S (lentAt S H ws) := fun a o z => by unfold lentAt; rw [z]
    refine ⟨v, q, rfl, ?_, lent_rep hSH (fun u hu => hm u (List.mem_cons_of_mem _ hu)) h⟩
    cases r with
    | v d => exact Rep.sub hs d v ra
    | fr ds => cases s
    | br i ds =>
      obtain ⟨l, us, e1, _, h1, r1⟩ := ra
      refine ⟨l, us, e1, .inl ?_, Reps.sub hs _ _ r1⟩
      unfold lentAt
      cases q : S l with
      | some o =>
        have z := hSH _ _ q
        rw [h1] at z
        simp only
        rw [z]
      | none =>
        simp only
        rw [if_pos (by rw [← e1]; exact hm v List.mem_cons_self), h1]
theorem call_fin {rs : List Ar} {vs : List V} {args : List D} {ws : List V} {r : Ar} {m : List D → Out Ar} {Q : VK} {E : XK} {ar : Nat} (st : Stt p y S σ H ρ) (hr : ∀ S', Reps p S' (rs.map Ar.view) vs → Reps p S' args ws) (ras : RepAs p y S σ H ρ rs vs)
    (har : args.length = ar) (e : m args = .ok r) (hb : (rs.any Ar.isB && !r.noL) = false) (fin : FinQ p y σ S H Q (r, ρ)) : spD p ar m ws H Q E := by
  cases hB : rs.any Ar.isB with
  | false =>
    refine ⟨S, args, st.sub, hr S (ras.vals hB), har, ?_⟩
    rw [e]
    intro v H' S' h1 h2 h3 h4 h5
    have st' := st.grow h1 h3 h2 h4
    refine fin v H' S' st' h1 h3 ?_
    cases r with
    | v d => exact h5
    | br _ ds => exact h5.elim
    | fr ds =>
      obtain ⟨l, us, e1, q1, q2, q3, q4⟩ := h5
      refine ⟨l, us, e1, q1, q2, (st.none0 q3).2, q4, fun i s e2 ho z => ?_⟩
      have q := st.sl i s e2
      cases s with
      | own ds' =>
        obtain ⟨l', us', e3, e4, _⟩ := q
        rw [e3] at z
        cases z
        rw [q3] at e4
        cases e4
      | dic ds' =>
        obtain ⟨l', us', e3, e4, _⟩ := q
        rw [e3] at z
        cases z
        rw [q3] at e4
        cases e4
      | obj c0 ds' =>
        obtain ⟨l', us', e3, e4, _⟩ := q
        rw [e3] at z
        cases z
        rw [q3] at e4
        cases e4
      | _ => cases ho
  | true =>
    rw [hB] at hb
    have hn : r.noL = true := by
      cases q : r.noL with
      | true => rfl
      | false => rw [q] at hb; cases hb
    have hs : Sub S (lentAt S H vs) := fun a o z => by unfold lentAt; rw [z]
    have hsH : Sub (lentAt S H vs) H := fun a o z => by
      unfold lentAt at z
      cases q : S a with
      | some u =>
        rw [q] at z
        rw [← z]
        exact st.sub _ _ q
      | none =>
        rw [q] at z
        simp only at z
        split at z
        · split at z
          · rename_i xs hx
            rw [← z]
            exact hx
          · cases z
        · cases z
    refine ⟨lentAt S H vs, args, hsH, hr _ (lent_rep st.sub (fun _ h => h) ras), har, ?_⟩
    rw [e]
    intro v H' S2 h1 h2 h3 h4 h5
    -- the lent ones are taken back
    have key : ∀ a, S a = none → lentAt S H vs a ≠ none → ∃ xs, H a = some (.lst xs) ∧ S2 a = some (.lst xs) := fun a ha hne => by
      cases q : lentAt S H vs a with
      | none => exact absurd q hne
      | some o =>
        have hh := hsH _ _ q
        unfold lentAt at q
        rw [ha] at q
        simp only at q
        split at q
        · split at q
          · rename_i xs hx
            cases q
            refine ⟨xs, hx, ?_⟩
            have z := h4 a (by rw [hx]; simp)
            rw [z]
            unfold lentAt
            rw [ha]
            simp only
            rw [if_pos (by assumption), hx]
          · cases q
        · cases q
    let S' : Hp := fun a => if S a = none ∧ lentAt S H vs a ≠ none then none else S2 a
    have hSS' : Sub S S' := fun a o z => by
      show (if S a = none ∧ lentAt S H vs a ≠ none then none else S2 a) = some o
      rw [if_neg (fun w => by rw [z] at w; cases w.1)]
      exact h1 _ _ (hs _ _ z)
    have hS2 : Sub S' S2 := fun a o z => by
      have z' : (if S a = none ∧ lentAt S H vs a ≠ none then none else S2 a) = some o := z
      split at z'
      · cases z'
      · exact z'
    have back : ∀ a o, S2 a = some o → (∀ xs, o ≠ .lst xs) → S' a = some o := fun a o z hnl => by
      show (if S a = none ∧ lentAt S H vs a ≠ none then none else S2 a) = some o
      rw [if_neg (fun w => by
        obtain ⟨xs, _, q⟩ := key a w.1 w.2
        rw [z] at q
        exact hnl xs (Option.some.inj q))]
      exact z
    have st' : Stt p y S' σ H' ρ := st.grow hSS' h3 (hS2.trans h2) fun a ha => by
      show (if S a = none ∧ lentAt S H vs a ≠ none then none else S2 a) = S a
      by_cases w : S a = none ∧ lentAt S H vs a ≠ none
      · rw [if_pos w, w.1]
      · rw [if_neg w, h4 a ha]
        cases q : S a with
        | some o => exact hs _ _ q
        | none =>
          cases q2 : lentAt S H vs a with
          | none => rfl
          | some o => exact absurd ⟨q, by rw [q2]; simp⟩ w
    refine fin v H' S' st' hSS' h3 ?_
    cases r with
    | v d => exact Rep.unlist back d v hn h5
    | br _ ds => exact h5.elim
    | fr ds =>
      obtain ⟨l, us, e1, q1, q2, q3, q4⟩ := h5
      refine ⟨l, us, e1, q1, ?_, (st.none0 q3).2, Reps.unlist back _ _ hn q4, fun i s e2 ho z => ?_⟩
      · cases q : S' l with
        | none => rfl
        | some o => rw [hS2 _ _ q] at q2; cases q2
      have q := st.sl i s e2
      cases s with
      | own ds' =>
        obtain ⟨l', us', e3, e4, _⟩ := q
        rw [e3] at z
        cases z
        rw [q3] at e4
        cases e4
      | dic ds' =>
        obtain ⟨l', us', e3, e4, _⟩ := q
        rw [e3] at z
        cases z
        rw [q3] at e4
        cases e4
      | obj c0 ds' =>
        obtain ⟨l', us', e3, e4, _⟩ := q
        rw [e3] at z
        cases z
        rw [q3] at e4
        cases e4
      | _ => cases ho
end
/-- the promise of an __init__ -/
def spI (p : Par) (c n : Nat) (m : List D → Out Ar) : Sp := fun vs H Q _ => ∃ (S : Hp) (ds : List D) (l dx : Addr) (ws : List V), vs = .ref l :: ws ∧ H l = some (.ins (p.cl c) dx []) ∧ S l = none ∧ Sub S H ∧ Reps p S ds ws ∧ ds.length = n ∧
  Res (m ds) fun r => ∀ fs us H' S', r = .v (.ins c fs) → Sub S S' → Sub S' H' → (∀ a o, a ≠ l → H a = some o → H' a = some o) → (∀ a, H a ≠ none → S' a = S a) → H' l = some (.ins (p.cl c) dx ((p.fields c).zip us)) → Reps p S' fs us → Q .non H'
theorem spI_of {p : Par} {c n : Nat} {m : List D → Out Ar} {ws : List V} {H : Hp} {Q : VK} {E : XK} {x dx : Addr} (h : spD p n m ws H Q E) (hx : H x = none) (hd : H dx = none) (ne : dx ≠ x) :
    spI p c n m (.ref x :: ws) (upd (upd H dx (.own x)) x (.ins (p.cl c) dx [])) (fun v H2 => v = .non ∧ Q (.ref x) H2) E := by
  obtain ⟨S, ds, sub, rep, hl, res⟩ := h
  have no : ∀ {a o}, S a = some o → a ≠ x ∧ a ≠ dx := fun {a o} e => ⟨fun z => (by have q := sub _ _ e; rw [z, hx] at q; cases q), fun z => (by have q := sub _ _ e; rw [z, hd] at q; cases q)⟩
  have Sx : S x = none := by
    cases e : S x with
    | none => rfl
    | some o => exact absurd rfl (no e).1
  have up : ∀ {a o}, H a = some o → upd (upd H dx (.own x)) x (.ins (p.cl c) dx []) a = some o := fun {a o} e => by
    rw [upd_ne (ne_of_none e hx), upd_ne (ne_of_none e hd)]
    exact e
  refine ⟨S, ds, x, dx, ws, rfl, upd_same, Sx, fun a o e => up (sub a o e), rep, hl, ?_⟩
  obtain ⟨r, e, q⟩ := Res.ok res
  rw [e]
  intro fs us H' S' er s1 s2 s3 s4 hl' rr
  subst er
  have S'x : S' x = none := by
    rw [s4 x (by rw [upd_same]; simp)]
    exact Sx
  have hs : Sub S' (upd S' x (.ins (p.cl c) dx ((p.fields c).zip us))) := fun a o e => by
    rw [upd_ne (ne_of_none e S'x)]
    exact e
  refine ⟨rfl, q (.ref x) H' (upd S' x (.ins (p.cl c) dx ((p.fields c).zip us))) (s1.trans hs) (fun a o e => ?_) (fun a o e => s3 a o (ne_of_none e hx) (up e)) (fun a ha => ?_) ⟨x, dx, us, rfl, upd_same, Reps.sub hs _ _ rr⟩⟩
  · by_cases z : a = x
    · subst z
      rw [upd_same] at e
      rw [hl']
      exact e
    · rw [upd_ne z] at e
      exact s2 _ _ e
  · cases w : H a with
    | none => exact absurd w ha
    | some o =>
      rw [upd_ne (ne_of_none w hx)]
      exact s4 a (by rw [up w]; simp)
end DS
/-! ## enumerate over a tuple -/
namespace DS
open PySem PySem.Spec PyProof.Rows L2
/-- the two cells that a new enumerate puts behind the heap -/
abbrev enumOn (h : Heap) (first : Obj) : Heap :=
  (h.push first).push { cls := .type "enumerate", data := .fields #[.none, .bool false, .ref h.objs.size, rawInt 0, .none, .none] }
theorem enum_made {v : Value} {first : Obj} {may : Heap → Prop} (src : Begins v first may) : Meets (Builtin.«enumerate.__new__» ⟨[.type "enumerate", v], []⟩)
    (fun _ R s => may s.heap ∧ R (.ok (.ret (.ref (s.heap.push first).objs.size))) { s with heap := enumOn s.heap first }) := by
  refine .of_wp fun prog w around R world given => ?_
  obtain ⟨cells, gl, os, tick, sys⟩ := world
  have sub_ := sub_enumerate
  have start_ : ∀ {A' : Around} {E : Value → Shared → Prop} {Q : Value → Shared → Prop}, Q (.ref cells.objs.size) ⟨cells.push first, gl, os, tick, sys⟩ →
      wpAny (model prog w) A' (pyIter v) Q E ⟨cells, gl, os, tick, sys⟩ :=
    fun goal => src.iter prog w _ _ ⟨cells, gl, os, tick, sys⟩ _ given.1 goal
  have out := given.2
  wp_walk using start_
  refine wpAny_stack_any fun _ => wpAny_pure ?_
  split
  case h_1 =>
    rename_i c _ _ _ _ _
    cases (c == Value.type "enumerate") <;> (wp_walk using start_; exact ⟨_, rfl, out⟩)
  all_goals (wp_walk using start_; exact ⟨_, rfl, out⟩)
section
variable {prog : Program} {w : World} {A : Around} {E : Value → Shared → Prop} {s : Shared}
theorem enum_call {l : Addr} {vs : Array Value} {Q : Value → Shared → Prop} (tup : s.heap.IsTuple l vs)
    (go : ∀ h2, IsEnum h2 (s.heap.objs.size + 1) s.heap.objs.size 0 .none → h2.IsTupleIter s.heap.objs.size l 0 → (∀ b o, s.heap.get? b = some o → h2.get? b = some o) → Q (.ref (s.heap.objs.size + 1)) { s with heap := h2 }) :
    wpAny (model prog w) A (call (.type "enumerate") [.ref l]) Q E s := by
  have top : (s.heap.push { cls := .type "tuple_iterator", data := .fields #[.ref l, .int 0 0] }).objs.size = s.heap.objs.size + 1 := Heap.size_push ..
  have made : IsEnum (enumOn s.heap { cls := .type "tuple_iterator", data := .fields #[.ref l, .int 0 0] }) (s.heap.objs.size + 1) s.heap.objs.size 0 .none := by
    have at_ := Heap.get?_push_size (s.heap.push { cls := .type "tuple_iterator", data := .fields #[.ref l, .int 0 0] }) (o := { cls := .type "enumerate", data := .fields #[.none, .bool false, .ref s.heap.objs.size, rawInt 0, .none, .none] }) rfl
    rwa [top] at at_
  refine callType_new F.called_enumerate (by decide) (F.typeCall_enumerate_1 _) (F.newCall_enumerate_1 _) (fun ob => F.args_object_init_2 ob _) F.entry_enumerate_new (enum_made (begins_tuple l vs)) (And.intro tup ?_)
  show _ ∧ _
  rw [top]
  exact ⟨⟨_, made, rfl⟩, go _ made ⟨_, Heap.get?_push_of_some _ (Heap.get?_push_size _ rfl), rfl, rfl⟩ fun _ _ was => Heap.get?_push_of_some _ (Heap.get?_push_of_some _ was)⟩
end
/-- the turns: a new pair of the index and the item there -/
def IteT (K : PySem.W.Frag) (a : Addr) : It where
  go := fun i H => ∃ (xs : List V) (x : V), SqT K H a xs ∧ xs[i]? = some x
  yld := fun i H v H' => ∃ T x, v = .ref T ∧ H T = none ∧ H' = upd H T (.tup [.int (i : Nat), x]) ∧ ∀ xs, SqT K H a xs → xs[i]? = some x
  stop := fun i H => ∃ xs : List V, SqT K H a xs ∧ xs.length = i
/-- the kit's walk over enumerate, with a tuple below -/
def enum_walk {P : Program} {w : World} {A : Around} (calm : A.in1.handled = none) {e it a : Addr} (ne : e ≠ it) (ni : a ≠ it) (na : e ≠ a) (vs : Array Value) :=
  WalksT.enumerateD (prog := P) (w := w) (A := A) (Draws.tuple calm it a ni vs) e ne (fun z => (List.mem_cons.mp z).elim ne fun z => na (List.mem_singleton.mp z)) (List.mem_cons_self ..)
theorem enum_apart {h : Heap} {e it a : Addr} {n : Int} {old : Value} {vs : Array Value} (he : IsEnum h e it n old) (ht : h.IsTuple a vs) : e ≠ a := by
  rintro rfl
  obtain ⟨o, ho, hcl, -⟩ := ht
  cases he.symm.trans ho
  exact absurd (show Value.type "enumerate" = Value.type "tuple" from hcl) (by decide +kernel)
theorem turn_enumT {P : Program} {w : World} {K : PySem.W.Frag} {elts : List Expr} {kk : Nat} {tpos : Pos} (a e it : Addr) (ni : a ≠ it) :
    Turn P w K (.Tuple elts kk tpos) (IteT K a) [e, it] e (fun i h => (∃ old, IsEnum h e it ((i : Nat) : Int) old) ∧ h.IsTupleIter it a i ∧ e ≠ it) := by
  refine ⟨List.mem_cons_self .., ?_, ?_, ?_, ?_, fun _ i s Q E st q => st.1.elim fun _ he => wpAny_pyIter_enum he q⟩
  · rintro i h ⟨⟨old, he⟩, ⟨o, ho, -, hd⟩, -⟩ b hb
    simp only [List.mem_cons, List.not_mem_nil, or_false] at hb
    rcases hb with rfl | rfl
    · exact ⟨_, he, fun _ c => nomatch c⟩
    · exact ⟨o, ho, fun _ c => by rw [hd] at c; exact nomatch c⟩
  · rintro i h h' ⟨⟨old, he⟩, hi, ne⟩ k
    exact ⟨⟨old, k e (.head _) _ he⟩, hi.at fun o q => k it (.tail _ (.head _)) o q, ne⟩
  · rintro X rfl rfl rfl calm i pins s σ H E I free ⟨⟨old, he⟩, hit, ne⟩ ⟨xs, x, sq, hx⟩
    obtain ⟨us, rel, tup, -⟩ := I.tuple sq
    obtain ⟨u, hu, ru⟩ := rel.get hx
    have tup' : s.heap.IsTuple a us.toArray := tup
    have W := enum_walk (P := X.prog) (w := X.w) (A := X.A) (I.ok.hd calm) ne ni (enum_apart he tup') us.toArray
    have small : i < us.toArray.size := by simpa using (List.getElem?_eq_some_iff.mp hu).1
    refine W.item i s _ E small ⟨⟨old, he⟩, hit, tup'⟩ ?_
    rintro T vals h2 tk ⟨t, y, hy, rfl⟩ new_ isT mid rest
    have same : y = u := by
      have : us[i]? = some y := by simpa using hy
      exact Option.some.inj (this.symm.trans hu)
    subst same
    refine ⟨_, rfl, W.go elts kk tpos i T { s with heap := h2, toks := tk } _ E mid ?_⟩
    rintro h3 ⟨he3, hit3, -⟩ rest3
    have isT3 : h3.IsTuple T #[.int (i : Nat) t, y] := isT.at fun o q => rest3 T o (W.apart i T h2 mid) q
    have born : ObjOk X.prog X.w (upd H T (.tup [.int (i : Nat), x])) h3 T (.tup [.int (i : Nat), x]) := ⟨by show 2 ≤ sizeLine; decide, [.int (i : Nat) t, y], .cons ⟨_, rfl⟩ (.cons ru .nil), isT3⟩
    have I3 := I.turnedNew (t' := tk) (ch := [e, it]) (fun b o hb q => rest3 b o hb (rest b o hb q)) free new_ born
    refine ⟨.ref T, _, I3, rfl, ⟨T, x, rfl, I.hok.fresh new_, rfl, fun ys hy => by rw [I.tuple_inj hy sq]; exact hx⟩, ⟨he3, hit3, ne⟩, fun b hb => ?_⟩
    have apart_ : b ≠ T := fun z => W.apart i T h2 mid (z ▸ hb)
    rw [upd_ne apart_]
    exact (free b hb).1
  · rintro X rfl rfl rfl calm i pins s σ H E I free ⟨⟨old, he⟩, hit, ne⟩ ⟨xs, sq, rfl⟩
    obtain ⟨us, rel, tup, -⟩ := I.tuple sq
    have tup' : s.heap.IsTuple a us.toArray := tup
    have W := enum_walk (P := X.prog) (w := X.w) (A := X.A) (I.ok.hd calm) ne ni (enum_apart he tup') us.toArray
    have all_ : xs.length = us.toArray.size := by simp [rel.length]
    rw [all_] at he hit
    refine W.done s _ E ⟨⟨old, he⟩, hit, tup'⟩ fun h2 tk rest => ⟨rfl, ?_⟩
    exact I.turnedL rest free
def iEnumT (K : PySem.W.Frag) (ta : TA) : TI := fun σ H R => ta σ H fun vs H1 => ∃ a xs, vs = [.ref a] ∧ SqT K H1 a xs ∧ R (IteT K a) H1
theorem pi_enumT {X : Cx} {e : Expr} {ta : TA} {p pos tpos : Pos} {elts : List Expr} {kk : Nat} (hg : Gl X "enumerate") (hm : X.mg "enumerate" = none) (ha : PA X [e] ta) (hs : starEach [e] X.env = [(false, eval e X.env)]) :
    PI X (.Tuple elts kk tpos) (.Call (.Name "enumerate" p) [e] [] pos) (iEnumT X.K ta) := by
  constructor
  intro pins s σ H R I todo
  refine Call_ (ld_blt I hg hm boot_enumerate (PyProof.Rows.callWith_type1 (thn (ha.run pos pins s σ H _ I todo) ?_) hs rfl))
  rintro us s1 ⟨_, H1, I1, r1, a, xs, rfl, sq, rest⟩
  rcases r1 with _ | ⟨⟨⟩, ⟨⟩⟩
  obtain ⟨ps, -, tup, -⟩ := I1.tuple sq
  have below : a < s1.heap.objs.size := tup.elim fun o ho => Heap.lt_size ho.1
  refine enum_call (show s1.heap.IsTuple a ps.toArray from tup) fun h2 he hit old => wpAny_pyIter_enum he ?_
  refine ⟨_, [s1.heap.objs.size + 1, s1.heap.objs.size], _, _, H1, rfl, I1.kept (t' := s1.toks) old, turn_enumT a (s1.heap.objs.size + 1) s1.heap.objs.size (Nat.ne_of_lt below), ⟨⟨.none, he⟩, hit, Nat.succ_ne_self _⟩, ?_, rest⟩
  intro b hb
  have up : s1.heap.objs.size ≤ b := by
    rcases List.mem_cons.mp hb with rfl | hb
    · exact Nat.le_succ _
    · exact Nat.le_of_eq (List.mem_singleton.mp hb).symm
  exact I1.fpOk up (I1.hok.fresh up)
theorem walk_enumT {K : PySem.W.Frag} {a : Addr} {xs : List V} : Walk (IteT K a) xs.length (fun H => SqT K H a xs) (YPair (fun i => some (.int (i : Nat))) (fun i => xs[i]?)) where
  goes := fun i _ small sq => ⟨xs, xs[i], sq, by simp [small]⟩
  stops := fun _ sq => ⟨xs, sq, rfl⟩
  yields := by
    rintro i H v H' - sq ⟨T, x, e1, e2, e3, e4⟩
    exact ⟨T, .int (i : Nat), x, e1, e2, e3, rfl, e4 xs sq⟩
end DS
/-! ## What is walked -/
namespace DS
open PySem PySem.Spec PyProof.Rows L2
/-- J walks xs, over whatever heap holds what is sealed in S1 and what is pinned in B -/
structure WalkD (p : Par) (S1 B : Hp) (J : It) (xs : List D) : Prop where
  goes : ∀ (i : Nat) (H S : Hp), i < xs.length → Sub S1 S → Sub S H → Sub B H → J.go i H
  stops : ∀ (H S : Hp), Sub S1 S → Sub S H → Sub B H → J.stop xs.length H
  yields : ∀ (i : Nat) (H S : Hp) (x : V) (H' : Hp), i < xs.length → Sub S1 S → Sub S H → Sub B H → J.yld i H x H' →
    ∃ S' d, xs[i]? = some d ∧ Rep p S' d x ∧ Sub S S' ∧ Sub S' H' ∧ Sub H H' ∧ ∀ a, H a ≠ none → S' a = S a
section
variable {p : Par} {S1 B : Hp} {a b : Addr} {ds es : List D} {vs us : List V}
theorem WalkD.list (hq : ∀ H S, Sub S1 S → Sub S H → Sub B H → SqL p.K H a vs) (r : Reps p S1 ds vs) : WalkD p S1 B (Itl p.K a) ds where
  goes := fun i H S hi h1 h2 h3 => walk_list.goes i H (by rw [← r.length]; exact hi) (hq H S h1 h2 h3)
  stops := fun H S h1 h2 h3 => by rw [r.length]; exact walk_list.stops H (hq H S h1 h2 h3)
  yields := fun i H S x H' hi h1 h2 h3 y => by
    obtain ⟨e, hx⟩ := walk_list.yields i H x H' (by rw [← r.length]; exact hi) (hq H S h1 h2 h3) y
    subst e
    obtain ⟨d, hd, rd⟩ := r.get' hx
    exact ⟨S, d, hd, Rep.sub h1 d x rd, Sub.refl _, h2, Sub.refl _, fun _ _ => rfl⟩
theorem WalkD.tup (hq : ∀ H S, Sub S1 S → Sub S H → Sub B H → SqT p.K H a vs) (r : Reps p S1 ds vs) : WalkD p S1 B (Itt p.K a) ds where
  goes := fun i H S hi h1 h2 h3 => walk_tup.goes i H (by rw [← r.length]; exact hi) (hq H S h1 h2 h3)
  stops := fun H S h1 h2 h3 => by rw [r.length]; exact walk_tup.stops H (hq H S h1 h2 h3)
  yields := fun i H S x H' hi h1 h2 h3 y => by
    obtain ⟨e, hx⟩ := walk_tup.yields i H x H' (by rw [← r.length]; exact hi) (hq H S h1 h2 h3) y
    subst e
    obtain ⟨d, hd, rd⟩ := r.get' hx
    exact ⟨S, d, hd, Rep.sub h1 d x rd, Sub.refl _, h2, Sub.refl _, fun _ _ => rfl⟩
theorem rangeD_len : ∀ (n : Nat) (lo : Int), (rangeD lo n).length = n
  | 0, _ => rfl
  | n + 1, lo => congrArg (· + 1) (rangeD_len n (lo + 1))
theorem rangeD_get : ∀ (n : Nat) (lo : Int) (i : Nat), i < n → (rangeD lo n)[i]? = some (.int (lo + i))
  | 0, _, _, h => by omega
  | n + 1, lo, 0, _ => by simp [rangeD]
  | n + 1, lo, i + 1, h => by
    show (rangeD (lo + 1) n)[i]? = _
    rw [rangeD_get n (lo + 1) i (by omega)]
    congr 2
    omega
theorem WalkD.range (lo : Int) (n : Nat) : WalkD p S1 B (Itr lo n) (rangeD lo n) where
  goes := fun i H S hi _ _ _ => walk_range.goes i H (by rw [← rangeD_len n lo]; exact hi) trivial
  stops := fun H S _ _ _ => by rw [rangeD_len]; exact walk_range.stops H trivial
  yields := fun i H S x H' hi h1 h2 h3 y => by
    rw [rangeD_len] at hi
    obtain ⟨e, hx⟩ := walk_range.yields i H x H' hi trivial y
    subst e
    exact ⟨S, _, rangeD_get n lo i hi, hx, Sub.refl _, h2, Sub.refl _, fun _ _ => rfl⟩
theorem WalkD.chars (x : Str) : WalkD p S1 B (Its x) (charsOf x) where
  goes := fun i H S hi _ _ _ => by simpa [charsOf, Its] using hi
  stops := fun H S _ _ _ => by simp [charsOf, Its]
  yields := fun i H S v H' hi h1 h2 h3 y => by
    obtain ⟨e, ch, hc, ev⟩ := y
    subst e ev
    refine ⟨S, .str ⟨#[ch]⟩, ?_, rfl, Sub.refl _, h2, Sub.refl _, fun _ _ => rfl⟩
    unfold charsOf
    rw [List.getElem?_map, Array.getElem?_toList, hc]
    rfl
/-- a new pair -/
theorem pair_new {S H : Hp} {T : Addr} {d1 d2 : D} {x1 x2 : V} (h1 : Sub S H) (hT : H T = none) (r1 : Rep p S d1 x1) (r2 : Rep p S d2 x2) :
    ∃ S', Rep p S' (.pr d1 d2) (.ref T) ∧ Sub S S' ∧ Sub S' (upd H T (.tup [x1, x2])) ∧ Sub H (upd H T (.tup [x1, x2])) ∧ ∀ a, H a ≠ none → S' a = S a := by
  have hS : S T = none := by
    cases q : S T with
    | none => rfl
    | some u => rw [h1 _ _ q] at hT; cases hT
  have hs : Sub S (upd S T (.tup [x1, x2])) := fun c u z => by rw [upd_ne (ne_of_none z hS)]; exact z
  refine ⟨upd S T (.tup [x1, x2]), ⟨T, x1, x2, rfl, .inl (.inl upd_same), Rep.sub hs d1 x1 r1, Rep.sub hs d2 x2 r2⟩, hs, fun c u z => ?_, fun c u z => ?_, fun c z => ?_⟩
  · by_cases e : c = T
    · subst e
      rw [upd_same] at z ⊢
      exact z
    · rw [upd_ne e] at z ⊢
      exact h1 _ _ z
  · rw [upd_ne (ne_of_none z hT)]
    exact z
  · rw [upd_ne (fun e => z (by rw [e]; exact hT))]
theorem enumD_len : ∀ (ds : List D) (n : Nat), (enumD n ds).length = ds.length
  | [], _ => rfl
  | d :: ds, n => congrArg (· + 1) (enumD_len ds (n + 1))
theorem enumD_get : ∀ (ds : List D) (n i : Nat) (d : D), ds[i]? = some d → (enumD n ds)[i]? = some (.pr (.int ((n + i : Nat) : Int)) d)
  | [], _, i, d, h => by simp at h
  | e :: ds, n, 0, d, h => by
    simp at h
    subst h
    simp [enumD]
  | e :: ds, n, i + 1, d, h => by
    show (enumD (n + 1) ds)[i]? = _
    rw [enumD_get ds (n + 1) i d (by simpa using h)]
    congr 4
    omega
theorem WalkD.enumOf {J : It} {G : Hp → Prop} (w : Walk J vs.length G (YPair (fun i => some (.int (i : Nat))) (fun i => vs[i]?))) (hq : ∀ H S, Sub S1 S → Sub S H → Sub B H → G H) (r : Reps p S1 ds vs) : WalkD p S1 B J (enumD 0 ds) where
  goes := fun i H S hi h1 h2 h3 => w.goes i H (by rw [enumD_len, r.length] at hi; exact hi) (hq H S h1 h2 h3)
  stops := fun H S h1 h2 h3 => by rw [enumD_len, r.length]; exact w.stops H (hq H S h1 h2 h3)
  yields := fun i H S x H' hi h1 h2 h3 y => by
    obtain ⟨T, x1, x2, e1, e2, e3, e4, e5⟩ := w.yields i H x H' (by rw [enumD_len, r.length] at hi; exact hi) (hq H S h1 h2 h3) y
    obtain ⟨d, hd, rd⟩ := r.get' e5
    cases e4
    subst e1 e3
    obtain ⟨S', a1, a2, a3, a4, a5⟩ := pair_new (p := p) h2 e2 (d1 := .int (i : Nat)) (x1 := .int (i : Nat)) rfl (Rep.sub h1 d x2 rd)
    refine ⟨S', _, enumD_get ds 0 i d hd, ?_, a2, a3, a4, a5⟩
    have e0 : ((0 + i : Nat) : Int) = (i : Nat) := by omega
    rw [e0]
    exact a1
theorem zipD_len : ∀ (ds es : List D), ds.length = es.length → (zipD ds es).length = ds.length
  | [], [], _ => rfl
  | d :: ds, e :: es, h => congrArg (· + 1) (zipD_len ds es (by simpa using h))
theorem zipD_get : ∀ (ds es : List D) (i : Nat) (d e : D), ds[i]? = some d → es[i]? = some e → (zipD ds es)[i]? = some (.pr d e)
  | [], _, i, d, e, h, _ => by simp at h
  | _ :: _, [], i, d, e, _, h => by simp at h
  | x :: ds, z :: es, 0, d, e, h, h' => by
    simp at h h'
    subst h h'
    simp [zipD]
  | x :: ds, z :: es, i + 1, d, e, h, h' => zipD_get ds es i d e (by simpa using h) (by simpa using h')
theorem WalkD.zipOf {J : It} {G : Hp → Prop} (w : Walk J vs.length G (YPair (fun i => vs[i]?) (fun i => us[i]?))) (hq : ∀ H S, Sub S1 S → Sub S H → Sub B H → G H) (r : Reps p S1 ds vs) (r' : Reps p S1 es us) (hl : ds.length = es.length) : WalkD p S1 B J (zipD ds es) where
  goes := fun i H S hi h1 h2 h3 => w.goes i H (by rw [zipD_len ds es hl, r.length] at hi; exact hi) (hq H S h1 h2 h3)
  stops := fun H S h1 h2 h3 => by rw [zipD_len ds es hl, r.length]; exact w.stops H (hq H S h1 h2 h3)
  yields := fun i H S x H' hi h1 h2 h3 y => by
    obtain ⟨T, x1, x2, e1, e2, e3, e4, e5⟩ := w.yields i H x H' (by rw [zipD_len ds es hl, r.length] at hi; exact hi) (hq H S h1 h2 h3) y
    obtain ⟨d, hd, rd⟩ := r.get' e4
    obtain ⟨d', hd', rd'⟩ := r'.get' e5
    subst e1 e3
    obtain ⟨S', a1, a2, a3, a4, a5⟩ := pair_new (p := p) h2 e2 (Rep.sub h1 d x1 rd) (Rep.sub h1 d' x2 rd')
    exact ⟨S', _, zipD_get ds es i d d' hd hd', a1, a2, a3, a4, a5⟩
end

/-! ### the readings of what is walked -/
section
variable (p : Par) (C : Cxt) (y : Dy)
def rdI (k : ItK) (es : IRs) : TI := fun σ H R => ∃ S ρ, Stt p y S σ H ρ ∧ Res (evs C es ρ) fun r => ∃ xs, itD k (r.1.map Ar.view) = some xs ∧ okBr r.1 r.2 = true ∧
  ∀ J H1 S1 y1, Stt p y1 S1 σ H1 ((lockers r.1 r.2).foldl lockAt r.2) → Sub S S1 → Sub H H1 → Sub y.H0 y1.H0 →
    Back p y y1 (lockers r.1 r.2) → WalkD p S1 y1.H0 J xs → R J H1
end
section
variable {X : Cx} {p : Par} {C : Cxt} {y : Dy} {tg : Expr}
theorem PI.mono {it : Expr} {w w' : TI} (h : PI X tg it w) (k : ∀ σ H R, w' σ H R → w σ H R) : PI X tg it w' := ⟨fun pins s σ H R I q => h.run pins s σ H R I (k σ H R q)⟩
theorem PI.or {it : Expr} {w w' : TI} (h : PI X tg it w) (h' : PI X tg it w') : PI X tg it (fun σ H R => w σ H R ∨ w' σ H R) := ⟨fun pins s σ H R I q => q.elim (h.run pins s σ H R I) (h'.run pins s σ H R I)⟩
section
variable {S : Hp} {σ : L2.St} {H : Hp} {ρ : En}
/-- an argument that is walked: it stands while what is sealed and what is pinned stand -/
def Stay (p : Par) (S1 B : Hp) (d : D) (v : V) : Prop :=
  match d with
  | .lst ds => ∃ a vs, v = .ref a ∧ (∀ H S, Sub S1 S → Sub S H → Sub B H → SqL p.K H a vs) ∧ Reps p S1 ds vs
  | d => Rep p S1 d v
theorem stay_of {y1 : Dy} {rs : List Ar} {ρ1 : En} (st : Stt p y S σ H ρ1) (hob : okBr rs ρ1 = true) (hp : ∀ i ∈ lockers rs ρ1, ∀ l, σ[i]? = some (some (.ref l)) → ∃ vs, H l = some (.lst vs) ∧ y1.H0 l = some (.lst vs)) (h0 : Sub y.H0 y1.H0) :
    ∀ {r : Ar} {v : V}, r ∈ rs → r.seal = r → RepA p y S σ H ρ1 r v → Stay p S y1.H0 r.view v
  | .v d, v, _, _, ra => by
    cases d with
    | lst ds =>
      obtain ⟨a, vs, e, q, rr⟩ := (show ∃ a vs, v = .ref a ∧ Rd S a (.lst vs) ∧ Reps p S ds vs from ra)
      exact ⟨a, vs, e, fun H' S' h1 h2 _ => .inl (DS.Rd.sub h2 (DS.Rd.sub h1 q)), rr⟩
    | _ => exact ra
  | .fr ds, v, _, s, _ => nomatch s
  | .br i ds, v, hm, _, ra => by
    obtain ⟨a, vs, e, q0, q, rr⟩ := ra
    have hok : ∀ {rs : List Ar}, Ar.br i ds ∈ rs → okBr rs ρ1 = true → (∃ d, ρ1[i]? = some (.own d)) ∨ ∃ d, ρ1[i]? = some (.lock d) := fun {rs} => by
      induction rs with
      | nil => intro h; cases h
      | cons r rs ih =>
        intro h ho
        cases r with
        | v d =>
          rcases List.mem_cons.mp h with z | z
          · cases z
          · exact ih z ho
        | fr d =>
          rcases List.mem_cons.mp h with z | z
          · cases z
          · exact ih z ho
        | br j d =>
          have ho2 : ((match ρ1[j]? with | some (.own _) => true | some (.lock _) => true | _ => false) && okBr rs ρ1) = true := ho
          rw [Bool.and_eq_true] at ho2
          rcases List.mem_cons.mp h with z | z
          · cases z
            have h1 := ho2.1
            split at h1
            · rename_i d' hd; exact .inl ⟨d', hd⟩
            · rename_i d' hd; exact .inr ⟨d', hd⟩
            · cases h1
          · exact ih z ho2.2
    rcases hok hm hob with ⟨d, hd⟩ | ⟨d, hd⟩
    · obtain ⟨us, e1, e2⟩ := hp i ((lockers_own rs ρ1).2.2 i ds d hm hd) a q0
      rw [q] at e1
      cases e1
      exact ⟨a, vs, e, fun H' S' _ _ h3 => .inl (.inl (h3 _ _ e2)), rr⟩
    · obtain ⟨l, us, e1, _, e3, _, _⟩ := (show SlOk p y S H i σ[i]? (.lock d) from st.sl i _ hd)
      rw [e1] at q0
      cases q0
      rw [st.same _ _ e3] at q
      cases q
      exact ⟨a, vs, e, fun H' S' _ _ h3 => .inl (.inl (h3 _ _ (h0 _ _ e3))), rr⟩
theorem Stay.seq {S1 B : Hp} {d : D} {ds : List D} {v : V} (e : seqOf d = some ds) (h : Stay p S1 B d v) :
    ∃ a vs, v = .ref a ∧ Reps p S1 ds vs ∧ ((∀ H S, Sub S1 S → Sub S H → Sub B H → SqL p.K H a vs) ∨ (∀ H S, Sub S1 S → Sub S H → Sub B H → SqT p.K H a vs)) := by
  cases d with
  | lst xs =>
    cases e
    obtain ⟨a, vs, e1, q, rr⟩ := h
    exact ⟨a, vs, e1, rr, .inl q⟩
  | tup xs =>
    cases e
    obtain ⟨a, vs, e1, q, rr⟩ := (show ∃ a vs, v = .ref a ∧ TupS S1 a vs ∧ Reps p S1 ds vs from h)
    exact ⟨a, vs, e1, rr, .inr fun H S h1 h2 _ => DS.SqT.sub h2 (DS.SqT.sub h1 q.sqT)⟩
  | rol xs =>
    cases e
    obtain ⟨a, vs, e1, q, rr⟩ := (show ∃ a vs, v = .ref a ∧ SqL p.K S1 a vs ∧ Reps p S1 ds vs from h)
    exact ⟨a, vs, e1, rr, .inl fun H S h1 h2 _ => DS.SqL.sub h2 (DS.SqL.sub h1 q)⟩
  | _ => cases e
/-- from the arguments' reading to a walk's: the iterator is chosen by what the arguments are -/
theorem it_rd {es : IRs} {R : It → Hp → Prop} {G : List V → Hp → Prop} {rs : List Ar} {ρ1 : En} {xs : List D} (st : Stt p y S σ H ρ) (e1 : evs C es ρ = .ok (rs, ρ1)) (e3 : okBr rs ρ1 = true)
    (q : ∀ J H1 S1 y1, Stt p y1 S1 σ H1 ((lockers rs ρ1).foldl lockAt ρ1) → Sub S S1 → Sub H H1 → Sub y.H0 y1.H0 →
      Back p y y1 (lockers rs ρ1) → WalkD p S1 y1.H0 J xs → R J H1)
    (hG : ∀ (vs : List V) (H1 S1 : Hp) (y1 : Dy), Sub S1 H1 → Sub y1.H0 H1 → (∀ i, i < rs.length → ∃ r v, rs[i]? = some r ∧ vs[i]? = some v ∧ Stay p S1 y1.H0 r.view v) → rs.length = vs.length →
      (∀ J, WalkD p S1 y1.H0 J xs → R J H1) → G vs H1) : rdA p C y es σ H G := by
  refine ⟨S, ρ, st, ?_⟩
  rw [e1]
  intro vs H1 S1 st1 hS hH ras
  obtain ⟨hn, ho, _⟩ := lockers_own rs ρ1
  obtain ⟨y1, st2, h0, hb, hp⟩ := Stt.locks (lockers rs ρ1) hn ho st1
  refine hG vs H1 S1 y1 st1.sub st2.same (fun i hi => ?_) ras.length fun J w => q J H1 S1 y1 st2 hS hH h0 hb w
  have all : ∀ {qs : List Ar} {us : List V} {i : Nat}, (∀ r ∈ qs, r ∈ rs) → RepAs p y S1 σ H1 ρ1 qs us → i < qs.length → ∃ r v, qs[i]? = some r ∧ us[i]? = some v ∧ Stay p S1 y1.H0 r.view v := fun {qs} => by
    induction qs with
    | nil => intro us i _ _ hi; exact absurd hi (Nat.not_lt_zero _)
    | cons r qs ih =>
      intro us i hm hr hi
      obtain ⟨v, q, e, s, ra, h⟩ := hr
      subst e
      cases i with
      | zero => exact ⟨r, v, rfl, rfl, stay_of st1 e3 hp h0 (hm r List.mem_cons_self) s ra⟩
      | succ i =>
        obtain ⟨r', v', a1, a2, a3⟩ := ih (fun r hr => hm r (List.mem_cons_of_mem _ hr)) h (by simpa using hi)
        exact ⟨r', v', by simpa using a1, by simpa using a2, a3⟩
  exact all (fun r h => h) ras hi
end
theorem rdA1 {e : IR} {σ : L2.St} {H : Hp} {G : List V → Hp → Prop} (h : rdA p C y (.cons e .nil) σ H G) : rdQ p C y e σ H fun v H1 => G [v] H1 := by
  obtain ⟨S, ρ, st, q⟩ := h
  refine one_rd (F := fun r => ∀ vs H' S', Stt p y S' σ H' r.2 → Sub S S' → Sub H H' → RepAs p y S' σ H' r.2 r.1 vs → G vs H') (k := fun x => (evs C .nil x.2).bnd fun z => .ok (x.1 :: z.1, z.2)) st ?_ fun r ρ1 v H1 S1 q1 st1 hS hH s ra => ?_
  · exact q
  · exact q1 [v] H1 S1 st1 hS hH ⟨v, [], rfl, s, ra, rfl⟩
theorem rdO.imp {f : En → Out (Ar × En)} {σ : L2.St} {H : Hp} {Q Q' : VK} (h : rdO p y f σ H Q) (k : ∀ v H, Q v H → Q' v H) : rdO p y f σ H Q' := by
  obtain ⟨S, ρ, st, q⟩ := h
  refine ⟨S, ρ, st, ?_⟩
  obtain ⟨r, e1, q1⟩ := Res.ok q
  rw [e1]
  exact fun v H' S' a b c d => k _ _ (q1 v H' S' a b c d)
theorem rdA.imp {es : IRs} {σ : L2.St} {H : Hp} {Q Q' : List V → Hp → Prop} (h : rdA p C y es σ H Q) (k : ∀ v H, Q v H → Q' v H) : rdA p C y es σ H Q' := by
  obtain ⟨S, ρ, st, q⟩ := h
  refine ⟨S, ρ, st, ?_⟩
  obtain ⟨r, e1, q1⟩ := Res.ok q
  rw [e1]
  exact fun v H' S' a b c d => k _ _ (q1 v H' S' a b c d)
theorem one1 {r : Ar} {vs : List V} (hl : [r].length = vs.length) : ∃ v, vs = [v] := by
  cases vs with
  | nil => cases hl
  | cons v vs =>
    cases vs with
    | nil => exact ⟨v, rfl⟩
    | cons w vs => cases hl
theorem two2 {r r' : Ar} {vs : List V} (hl : [r, r'].length = vs.length) : ∃ v w, vs = [v, w] := by
  cases vs with
  | nil => cases hl
  | cons v vs =>
    cases vs with
    | nil => cases hl
    | cons w vs =>
      cases vs with
      | nil => exact ⟨v, w, rfl⟩
      | cons u vs => cases hl
/-- sequences: lists, tuples -/
theorem pi_seq {it : Expr} {e : IR} (hK : X.K = p.K) (h : PE X it (rdQ p C y e)) : PI X tg it (rdI p C y .seq (.cons e .nil)) := by
  refine PI.mono (DS.PI.or (pi_list h) (pi_tup h)) fun σ H R q => ?_
  obtain ⟨S, ρ, st, q0⟩ := id q
  obtain ⟨⟨rs, ρ1⟩, e1, xs, e2, e3, q⟩ := Res.ok q0
  obtain ⟨r, rfl⟩ : ∃ r, rs = [r] := by
    cases rs with
    | nil => cases e2
    | cons r rs =>
      cases rs with
      | nil => exact ⟨r, rfl⟩
      | cons r' rs => cases e2
  have e2 : seqOf r.view = some xs := e2
  by_cases ht : ∃ ts, r.view = .tup ts
  · obtain ⟨ts, ht⟩ := ht
    refine .inr (rdO.imp (rdA1 (G := fun vs H1 => ∃ v, vs = [v] ∧ ∃ a, v = .ref a ∧ (∃ xs, SqT X.K H1 a xs) ∧ R (Itt X.K a) H1) (it_rd st e1 e3 q fun vs H1 S1 y1 hS hB hst hl k => ?_)) fun v H1 ⟨w, e, z⟩ => by cases e; exact z)
    obtain ⟨v, rfl⟩ := one1 hl
    obtain ⟨r', v', a1, a2, a3⟩ := hst 0 (by simp)
    cases a1
    cases a2
    rw [ht] at a3 e2
    cases e2
    obtain ⟨a, us, e4, q4', rr⟩ := (show ∃ a vs, v = .ref a ∧ TupS S1 a vs ∧ Reps p S1 xs vs from a3)
    have q4 := q4'.sqT (K := p.K)
    refine ⟨v, rfl, a, e4, ⟨us, by rw [hK]; exact DS.SqT.sub hS q4⟩, ?_⟩
    rw [hK]
    exact k _ (.tup (fun H S h1 h2 _ => DS.SqT.sub h2 (DS.SqT.sub h1 q4)) rr)
  · refine .inl (rdO.imp (rdA1 (G := fun vs H1 => ∃ v, vs = [v] ∧ ∃ a, v = .ref a ∧ (∃ xs, SqL X.K H1 a xs) ∧ R (Itl X.K a) H1) (it_rd st e1 e3 q fun vs H1 S1 y1 hS hB hst hl k => ?_)) fun v H1 ⟨w, e, z⟩ => by cases e; exact z)
    obtain ⟨v, rfl⟩ := one1 hl
    obtain ⟨r', v', a1, a2, a3⟩ := hst 0 (by simp)
    cases a1
    cases a2
    have key : ∃ a us, v = .ref a ∧ (∀ H S, Sub S1 S → Sub S H → Sub y1.H0 H → SqL p.K H a us) ∧ Reps p S1 xs us := by
      cases hv : r.view with
      | lst ds =>
        rw [hv] at a3 e2
        cases e2
        exact a3
      | rol ds =>
        rw [hv] at a3 e2
        cases e2
        obtain ⟨a, us, e4, q4, rr⟩ := (show ∃ a vs, v = .ref a ∧ SqL p.K S1 a vs ∧ Reps p S1 xs vs from a3)
        exact ⟨a, us, e4, fun H S h1 h2 _ => DS.SqL.sub h2 (DS.SqL.sub h1 q4), rr⟩
      | tup ds => exact absurd ⟨ds, hv⟩ ht
      | _ => rw [hv] at e2; cases e2
    obtain ⟨a, us, e4, q4, rr⟩ := key
    refine ⟨v, rfl, a, e4, ⟨us, by rw [hK]; exact q4 H1 S1 (Sub.refl _) hS hB⟩, ?_⟩
    rw [hK]
    exact k _ (.list q4 rr)
theorem map1 {rs : List Ar} {d : D} (h : rs.map Ar.view = [d]) : ∃ r, rs = [r] ∧ r.view = d := by
  cases rs with
  | nil => simp at h
  | cons r rs =>
    cases rs with
    | nil => exact ⟨r, rfl, by simpa using h⟩
    | cons r' rs => simp at h
theorem map2 {rs : List Ar} {d e : D} (h : rs.map Ar.view = [d, e]) : ∃ r r', rs = [r, r'] ∧ r.view = d ∧ r'.view = e := by
  cases rs with
  | nil => simp at h
  | cons r rs =>
    cases rs with
    | nil => simp at h
    | cons r' rs =>
      cases rs with
      | nil =>
        simp at h
        exact ⟨r, r', rfl, h.1, h.2⟩
      | cons u rs => simp at h
theorem itD_range2 {ds xs : List D} (h : itD .range2 ds = some xs) : ∃ i j, ds = [.int i, .int j] ∧ (-(2 ^ 62) ≤ i ∧ i < 2 ^ 62 ∧ -(2 ^ 62) ≤ j ∧ j < 2 ^ 62) ∧ xs = rangeD i (j - i).toNat := by
  change range2D ds = some xs at h
  unfold range2D at h
  split at h
  · rename_i i j
    split at h
    · rename_i hj
      cases h
      exact ⟨i, j, rfl, hj, rfl⟩
    · cases h
  · cases h
theorem itD_range1 {ds xs : List D} (h : itD .range1 ds = some xs) : ∃ j, ds = [.int j] ∧ (-(2 ^ 62) ≤ j ∧ j < 2 ^ 62) ∧ xs = rangeD 0 j.toNat := by
  change range1D ds = some xs at h
  unfold range1D at h
  split at h
  · rename_i j
    split at h
    · rename_i hj
      cases h
      exact ⟨j, rfl, hj, rfl⟩
    · cases h
  · cases h
/-- range(n) -/
theorem pi_rng1 {a : Expr} {es : IRs} {q pos : Pos} (hg : Gl X "range") (hm : X.mg "range" = none) (hs : starEach [a] X.env = [(false, eval a X.env)]) (h : PA X [a] (rdA p C y es)) : PI X tg (.Call (.Name "range" q) [a] [] pos) (rdI p C y .range1 es) := by
  refine PI.mono (pi_range1 hg hm h hs) fun σ H R q => ?_
  obtain ⟨S, ρ, st, q0⟩ := id q
  obtain ⟨⟨rs, ρ1⟩, e1, xs, e2, e3, q⟩ := Res.ok q0
  refine it_rd st e1 e3 q fun vs H1 S1 y1 hS hB hst hl k => ?_
  obtain ⟨j, h2, hj, e4⟩ := itD_range1 e2
  obtain ⟨r, rfl, h3⟩ := map1 h2
  obtain ⟨v, rfl⟩ := one1 hl
  obtain ⟨r', v', a1, a2, a3⟩ := hst 0 (by simp)
  cases a1
  cases a2
  rw [h3] at a3
  cases (show v = _ from a3)
  subst e4
  exact ⟨j, rfl, hj.1, hj.2, k _ (.range 0 _)⟩
theorem pi_chars {it : Expr} {e : IR} (h : PE X it (rdQ p C y e)) : PI X tg it (rdI p C y .chars (.cons e .nil)) := by
  refine PI.mono (pi_str h) fun σ H R q => ?_
  obtain ⟨S, ρ, st, q0⟩ := id q
  obtain ⟨⟨rs, ρ1⟩, e1, xs, e2, e3, q⟩ := Res.ok q0
  refine rdO.imp (rdA1 (G := fun vs H1 => ∃ v, vs = [v] ∧ ∃ x, v = .str x ∧ R (Its x) H1) (it_rd st e1 e3 q fun vs H1 S1 y1 hS hB hst hl k => ?_)) fun v H1 ⟨w, e, z⟩ => by cases e; exact z
  have e2 : chars1D (rs.map Ar.view) = some xs := e2
  unfold chars1D at e2
  split at e2
  · rename_i x h2
    cases e2
    obtain ⟨r, rfl, h3⟩ := map1 h2
    obtain ⟨v, rfl⟩ := one1 hl
    obtain ⟨r', v', a1, a2, a3⟩ := hst 0 (by simp)
    cases a1
    cases a2
    rw [h3] at a3
    cases (show v = _ from a3)
    exact ⟨_, rfl, x, rfl, k _ (.chars x)⟩
  · cases e2
/-- range(a, b) -/
theorem pi_rng2 {a b : Expr} {es : IRs} {q pos : Pos} (hg : Gl X "range") (hm : X.mg "range" = none) (hs : starEach [a, b] X.env = [(false, eval a X.env), (false, eval b X.env)]) (hs2 : starEach [b] X.env = [(false, eval b X.env)]) (h : PA X [a, b] (rdA p C y es)) :
    PI X tg (.Call (.Name "range" q) [a, b] [] pos) (rdI p C y .range2 es) := by
  refine PI.mono (pi_range2 hg hm h hs hs2) fun σ H R q => ?_
  obtain ⟨S, ρ, st, q0⟩ := id q
  obtain ⟨⟨rs, ρ1⟩, e1, xs, e2, e3, q⟩ := Res.ok q0
  refine it_rd st e1 e3 q fun vs H1 S1 y1 hS hB hst hl k => ?_
  obtain ⟨i, j, h2, hj, e4⟩ := itD_range2 e2
  obtain ⟨r, r', rfl, h3, h4⟩ := map2 h2
  obtain ⟨v, w, rfl⟩ := two2 hl
  obtain ⟨r1, v1, a1, a2, a3⟩ := hst 0 (by simp)
  obtain ⟨r2, v2, b1, b2, b3⟩ := hst 1 (by simp)
  cases a1
  cases a2
  cases b1
  cases b2
  rw [h3] at a3
  rw [h4] at b3
  cases (show v = _ from a3)
  cases (show w = _ from b3)
  subst e4
  exact ⟨i, j, rfl, hj, k _ (.range i _)⟩
/-- enumerate(x) -/
theorem pi_enumA {a : Expr} {es : IRs} {q pos tpos : Pos} {elts : List Expr} {kk : Nat} (hK : X.K = p.K) (hg : Gl X "enumerate") (hm : X.mg "enumerate" = none) (hs : starEach [a] X.env = [(false, eval a X.env)]) (h : PA X [a] (rdA p C y es)) :
    PI X (.Tuple elts kk tpos) (.Call (.Name "enumerate" q) [a] [] pos) (rdI p C y .enum es) := by
  refine PI.mono (DS.PI.or (pi_enum hg hm h hs) (pi_enumT hg hm h hs)) fun σ H R q => ?_
  obtain ⟨S, ρ, st, q0⟩ := id q
  obtain ⟨⟨rs, ρ1⟩, e1, xs, e2, e3, q⟩ := Res.ok q0
  obtain ⟨r, rfl⟩ : ∃ r, rs = [r] := by
    cases rs with
    | nil => cases e2
    | cons r rs =>
      cases rs with
      | nil => exact ⟨r, rfl⟩
      | cons r' rs => cases e2
  change (seqOf r.view).map (enumD 0) = some xs at e2
  rw [Option.map_eq_some_iff] at e2
  obtain ⟨ys, e2, e4⟩ := e2
  subst e4
  by_cases ht : ∃ ts, r.view = .tup ts
  · obtain ⟨ts, ht⟩ := ht
    refine .inr (it_rd st e1 e3 q fun vs H1 S1 y1 hS hB hst hl k => ?_)
    obtain ⟨v, rfl⟩ := one1 hl
    obtain ⟨r', v', a1, a2, a3⟩ := hst 0 (by simp)
    cases a1
    cases a2
    rw [ht] at a3 e2
    cases e2
    obtain ⟨a, us, e4, q4', rr⟩ := (show ∃ a vs, v = .ref a ∧ TupS S1 a vs ∧ Reps p S1 ys vs from a3)
    have q4 := q4'.sqT (K := p.K)
    subst e4
    refine ⟨a, us, rfl, by rw [hK]; exact DS.SqT.sub hS q4, ?_⟩
    rw [hK]
    exact k _ (.enumOf walk_enumT (fun H S h1 h2 _ => DS.SqT.sub h2 (DS.SqT.sub h1 q4)) rr)
  · refine .inl (it_rd st e1 e3 q fun vs H1 S1 y1 hS hB hst hl k => ?_)
    obtain ⟨v, rfl⟩ := one1 hl
    obtain ⟨r', v', a1, a2, a3⟩ := hst 0 (by simp)
    cases a1
    cases a2
    have key : ∃ a us, v = .ref a ∧ (∀ H S, Sub S1 S → Sub S H → Sub y1.H0 H → SqL p.K H a us) ∧ Reps p S1 ys us := by
      cases hv : r.view with
      | lst ds =>
        rw [hv] at a3 e2
        cases e2
        exact a3
      | rol ds =>
        rw [hv] at a3 e2
        cases e2
        obtain ⟨a, us, e4, q4, rr⟩ := (show ∃ a vs, v = .ref a ∧ SqL p.K S1 a vs ∧ Reps p S1 ys vs from a3)
        exact ⟨a, us, e4, fun H S h1 h2 _ => DS.SqL.sub h2 (DS.SqL.sub h1 q4), rr⟩
      | tup ds => exact absurd ⟨ds, hv⟩ ht
      | _ => rw [hv] at e2; cases e2
    obtain ⟨a, us, e4, q4, rr⟩ := key
    subst e4
    refine ⟨a, us, rfl, by rw [hK]; exact q4 H1 S1 (Sub.refl _) hS hB, ?_⟩
    rw [hK]
    exact k _ (.enumOf walk_enum q4 rr)
end
end DS
/-! ## Targets, comprehensions -/
namespace DS
open PySem PySem.Spec PyProof.Rows L2
section
variable {p : Par} {y : Dy} {S S' : Hp} {σ : L2.St} {H H' : Hp} {ρ : En}
/-! ### a thing of nobody is pinned -/
def Dy.pin (y : Dy) (l : Addr) (vs : List V) : Dy := { H0 := upd y.H0 l (.lst vs), S0 := y.S0, lk := y.lk, ob := y.ob }
theorem Stt.pin (st : Stt p y S σ H ρ) {l : Addr} {vs : List V} (h2 : H l = some (.lst vs)) (h3 : S l = none) (h4 : y.H0 l = none) (hf : Free σ ρ l) : Stt p (y.pin l vs) S σ H ρ := by
  refine ⟨st.sub, fun a o q => ?_, st.sub0, fun a q => ?_, st.len, fun j l' q => ?_, fun j s q => ?_, st.sep⟩
  · have q : upd y.H0 l (.lst vs) a = some o := q
    by_cases z : a = l
    · subst z
      rw [upd_same] at q
      rw [h2]
      exact q
    · rw [upd_ne z] at q
      exact st.same _ _ q
  · have q : upd y.H0 l (.lst vs) a ≠ none := q
    by_cases z : a = l
    · subst z
      show S a = y.S0 a
      rw [h3]
      cases w : y.S0 a with
      | none => rfl
      | some o =>
        have := st.sub0 _ _ w
        rw [h3] at this
        cases this
    · rw [upd_ne z] at q
      exact st.old a q
  · show upd y.H0 l (.lst vs) l' ≠ none
    rw [upd_ne (fun z => st.lk j l' q (by rw [z]; exact h4))]
    exact st.lk j l' q
  · have r := st.sl j s q
    have ne : ∀ l', s.owns = true → σ[j]? = some (some (.ref l')) → l' ≠ l := fun l' o a w => hf j s q o (by rw [← w]; exact a)
    cases s with
    | un => trivial
    | val d => exact r
    | own ds' =>
      obtain ⟨l', us, e1, e2, e3, e4, r⟩ := r
      exact ⟨l', us, e1, e2, e3, by show upd y.H0 l (.lst vs) l' = none; rw [upd_ne (ne l' rfl e1)]; exact e4, r⟩
    | lock ds' =>
      obtain ⟨l', us, e1, e2, e3, e4, r⟩ := r
      refine ⟨l', us, e1, e2, ?_, e4, r⟩
      show upd y.H0 l (.lst vs) l' = some (.lst us)
      rw [upd_ne (ne_of_none e3 h4)]
      exact e3
    | dic ds' =>
      obtain ⟨l', us, e1, e2, e3, e4, r⟩ := r
      exact ⟨l', us, e1, e2, e3, by show upd y.H0 l (.lst vs) l' = none; rw [upd_ne (ne l' rfl e1)]; exact e4, r⟩
    | obj c0 ds' =>
      obtain ⟨l', us, e1, e2, e3, e4, r⟩ := r
      exact ⟨l', us, e1, e2, e3, by show upd y.H0 l (.lst vs) l' = none; rw [upd_ne (ne l' rfl e1)]; exact e4, r⟩
theorem Stt.unpin {l : Addr} {vs : List V} (h4 : y.H0 l = none) (hlk : ∀ (j : Nat) (l' : Addr), y.lk j = some l' → y.H0 l' ≠ none) (h0 : y.S0 l = none)
    (st : Stt p (y.pin l vs) S σ H ρ) : Stt p y S σ H ρ ∧ H l = some (.lst vs) ∧ S l = none ∧ Free σ ρ l := by
  have hpin : (y.pin l vs).H0 l = some (.lst vs) := by show upd y.H0 l (.lst vs) l = _; rw [upd_same]
  have hup : ∀ a, y.H0 a ≠ none → (y.pin l vs).H0 a ≠ none := fun a q => by
    show upd y.H0 l (.lst vs) a ≠ none
    rw [upd_ne (fun z => q (by rw [z]; exact h4))]
    exact q
  have hsub : Sub y.H0 (y.pin l vs).H0 := fun a o q => by
    show upd y.H0 l (.lst vs) a = some o
    rw [upd_ne (ne_of_none q h4)]
    exact q
  have hn : ∀ l', (y.pin l vs).H0 l' = none → y.H0 l' = none := fun l' e => by
    cases q : y.H0 l' with
    | none => rfl
    | some o => exact absurd e (hup l' (by rw [q]; simp))
  refine ⟨⟨st.sub, hsub.trans st.same, st.sub0, fun a q => st.old a (hup a q), st.len, hlk, fun j s q => ?_, st.sep⟩, st.same _ _ hpin, ?_, fun j s q o z => ?_⟩
  · have r := st.sl j s q
    cases s with
    | un => trivial
    | val d => exact r
    | own ds' =>
      obtain ⟨l', us, e1, e2, e3, e4, r⟩ := r
      exact ⟨l', us, e1, e2, e3, hn l' e4, r⟩
    | lock ds' =>
      obtain ⟨l', us, e1, e2, e3, e4, r⟩ := r
      refine ⟨l', us, e1, e2, ?_, e4, r⟩
      have e3 : upd y.H0 l (.lst vs) l' = some (.lst us) := e3
      rw [upd_ne (fun w => hlk j l' e2 (by rw [w]; exact h4))] at e3
      exact e3
    | dic ds' =>
      obtain ⟨l', us, e1, e2, e3, e4, r⟩ := r
      exact ⟨l', us, e1, e2, e3, hn l' e4, r⟩
    | obj c0 ds' =>
      obtain ⟨l', us, e1, e2, e3, e4, r⟩ := r
      exact ⟨l', us, e1, e2, e3, hn l' e4, r⟩
  · have := st.old l (by rw [hpin]; simp)
    rw [this]
    exact h0
  · have r := st.sl j s q
    cases s with
    | own ds' =>
      obtain ⟨l', us, e1, e2, e3, e4, r⟩ := r
      rw [e1] at z
      cases z
      rw [hpin] at e4
      cases e4
    | dic ds' =>
      obtain ⟨l', us, e1, e2, e3, e4, r⟩ := r
      rw [e1] at z
      cases z
      rw [hpin] at e4
      cases e4
    | obj c0 ds' =>
      obtain ⟨l', us, e1, e2, e3, e4, r⟩ := r
      rw [e1] at z
      cases z
      rw [hpin] at e4
      cases e4
    | _ => cases o
/-- a thing of nobody is written -/
theorem Stt.writeF (st : Stt p y S σ H ρ) {l : Addr} {u : HO} (h3 : S l = none) (h4 : y.H0 l = none) (hf : Free σ ρ l) : Stt p y S σ (upd H l u) ρ := by
  refine ⟨fun b o h => ?_, fun b o h => ?_, st.sub0, st.old, st.len, st.lk, fun j t q => ?_, st.sep⟩
  · rw [upd_ne (ne_of_none h h3)]
    exact st.sub _ _ h
  · rw [upd_ne (ne_of_none h h4)]
    exact st.same _ _ h
  · have r := st.sl j t q
    have ne : ∀ l', t.owns = true → σ[j]? = some (some (.ref l')) → l' ≠ l := fun l' o z w => hf j t q o (by rw [← w]; exact z)
    cases t with
    | un => trivial
    | val d => exact r
    | own ds =>
      obtain ⟨l', us, e1, e2, r⟩ := r
      exact ⟨l', us, e1, by rw [upd_ne (ne l' rfl e1)]; exact e2, r⟩
    | lock ds => exact r
    | dic ds =>
      obtain ⟨l', us, e1, e2, r⟩ := r
      exact ⟨l', us, e1, by rw [upd_ne (ne l' rfl e1)]; exact e2, r⟩

    | obj c0 ds =>
      obtain ⟨l', us, e1, e2, r⟩ := r
      exact ⟨l', us, e1, by rw [upd_ne (ne l' rfl e1)]; exact e2, r⟩

/-! ### targets -/
def gNames : List Nat → TGs
  | [] => gNil
  | i :: is => gCons (gName i) (gNames is)
def gOf (K : PySem.W.Frag) : Tg → TG
  | .nm i => gName i
  | .tp is => fun v σ H Q => gTup K is.length (gNames is) v σ H Q ∨ gLst K is.length (gNames is) v σ H Q
def Tg.slots : Tg → List Nat
  | .nm i => [i]
  | .tp is => is
theorem names_rd : ∀ {is : List Nat} {ds : List D} {vs : List V} {σ : L2.St} {ρ : En} {K : L2.St → Hp → Prop}, ds.length = is.length → Stt p y S σ H ρ → Reps p S ds vs →
    (∀ σ1, Stt p y S σ1 H (setAll is ds ρ) → (∀ j, j ∉ is → σ1[j]? = σ[j]?) → σ1.length = σ.length → K σ1 H) → gNames is vs σ H K
  | [], ds, vs, σ, ρ, K, hl, st, r, k => by
    cases ds with
    | nil =>
      cases (show vs = [] from r)
      exact ⟨rfl, k σ st (fun _ _ => rfl) rfl⟩
    | cons d ds => cases hl
  | i :: is, ds, vs, σ, ρ, K, hl, st, r, k => by
    cases ds with
    | nil => cases hl
    | cons d ds =>
      obtain ⟨v, q, e, r1, r2⟩ := (show ∃ v q, vs = v :: q ∧ Rep p S d v ∧ Reps p S ds q from r)
      subst e
      refine ⟨v, q, rfl, names_rd (by simpa using hl) (st.putVal i r1) r2 fun σ1 st1 h1 h2 => k σ1 st1 (fun j hj => ?_) (by rw [h2, List.length_set])⟩
      rw [h1 j (fun z => hj (List.mem_cons_of_mem _ z)), List.getElem?_set_ne (fun z => hj (by rw [z]; exact List.mem_cons_self))]
theorem asg_rd {t : Tg} {d : D} {x : V} {ρ1 : En} {K : L2.St → Hp → Prop} (hSH : Sub S H) (st : Stt p y S σ H ρ) (r : Rep p S d x) (e : asg t d ρ = some ρ1)
    (k : ∀ σ1, Stt p y S σ1 H ρ1 → (∀ j, j ∉ t.slots → σ1[j]? = σ[j]?) → σ1.length = σ.length → K σ1 H) : gOf p.K t x σ H K := by
  cases t with
  | nm i =>
    cases e
    exact k _ (st.putVal i r) (fun j hj => List.getElem?_set_ne (fun z => hj (by rw [z]; exact List.mem_cons_self))) (by rw [List.length_set])
  | tp is =>
    cases d with
    | tup ds =>
      have e : (if ds.length = is.length then some (setAll is ds ρ) else none) = some ρ1 := e
      split at e
      · rename_i hl
        cases e
        obtain ⟨a, vs, e1, q, rr⟩ := (show ∃ a vs, x = .ref a ∧ TupS S a vs ∧ Reps p S ds vs from r)
        exact .inl ⟨a, vs, e1, DS.SqT.sub hSH q.sqT, by rw [← rr.length, hl], names_rd hl st rr k⟩
      · cases e
    | pr d1 d2 =>
      have e : (if is.length = 2 then some (setAll is [d1, d2] ρ) else none) = some ρ1 := e
      split at e
      · rename_i hl
        cases e
        obtain ⟨a, v1, v2, e1, q, r1, r2⟩ := (show ∃ t v1 v2, x = .ref t ∧ SqT p.K S t [v1, v2] ∧ Rep p S d1 v1 ∧ Rep p S d2 v2 from r)
        exact .inl ⟨a, [v1, v2], e1, DS.SqT.sub hSH q, by rw [hl]; rfl, names_rd (by rw [hl]; rfl) st (show Reps p S [d1, d2] [v1, v2] from ⟨v1, [v2], rfl, r1, v2, [], rfl, r2, rfl⟩) k⟩
      · cases e
    | lst ds =>
      have e : (if ds.length = is.length then some (setAll is ds ρ) else none) = some ρ1 := e
      split at e
      · rename_i hl
        cases e
        obtain ⟨a, vs, e1, q, rr⟩ := (show ∃ a vs, x = .ref a ∧ Rd S a (.lst vs) ∧ Reps p S ds vs from r)
        exact .inr ⟨a, vs, e1, .inl (DS.Rd.sub hSH q), by rw [← rr.length, hl], names_rd hl st rr k⟩
      · cases e
    | rol ds =>
      have e : (if ds.length = is.length then some (setAll is ds ρ) else none) = some ρ1 := e
      split at e
      · rename_i hl
        cases e
        obtain ⟨a, vs, e1, q, rr⟩ := (show ∃ a vs, x = .ref a ∧ SqL p.K S a vs ∧ Reps p S ds vs from r)
        exact .inr ⟨a, vs, e1, DS.SqL.sub hSH q, by rw [← rr.length, hl], names_rd hl st rr k⟩
      · cases e
    | _ => cases e

/-! ### slots wiped, slots brought back -/
theorem wipeE_len (ρ : En) : ∀ is : List Nat, (wipeE ρ is).length = ρ.length
  | [] => rfl
  | i :: is => by unfold wipeE; rw [List.length_set, wipeE_len ρ is]
theorem wipe_get {σ : L2.St} {j : Nat} : ∀ {is : List Nat}, j ∉ is → (wipe σ is)[j]? = σ[j]?
  | [], _ => rfl
  | i :: is, h => by
    unfold wipe
    rw [List.getElem?_set_ne (fun z => h (by rw [z]; exact List.mem_cons_self)), wipe_get (fun z => h (List.mem_cons_of_mem _ z))]
theorem wipe_in {σ : L2.St} {j : Nat} : ∀ {is : List Nat}, j ∈ is → j < σ.length → (wipe σ is)[j]? = some none
  | [], h, _ => nomatch h
  | i :: is, h, hl => by
    unfold wipe
    by_cases z : i = j
    · subst z
      rw [List.getElem?_set_self (by rw [wipe_length]; exact hl)]
    · rw [List.getElem?_set_ne z]
      exact wipe_in ((List.mem_cons.mp h).resolve_left (fun w => z w.symm)) hl
theorem wipe_eq {σ σ1 : L2.St} {is : List Nat} (hl : σ1.length = σ.length) (h : ∀ j, j ∉ is → σ1[j]? = σ[j]?) : wipe σ1 is = wipe σ is := by
  refine List.ext_getElem? fun j => ?_
  by_cases hj : j ∈ is
  · by_cases hb : j < σ.length
    · rw [wipe_in hj hb, wipe_in hj (by rw [hl]; exact hb)]
    · rw [List.getElem?_eq_none (by rw [wipe_length]; omega), List.getElem?_eq_none (by rw [wipe_length]; omega)]
  · rw [wipe_get hj, wipe_get hj, h j hj]
theorem wipeE_get {ρ : En} {j : Nat} : ∀ {is : List Nat}, j ∉ is → (wipeE ρ is)[j]? = ρ[j]?
  | [], _ => rfl
  | i :: is, h => by
    unfold wipeE
    rw [List.getElem?_set_ne (fun z => h (by rw [z]; exact List.mem_cons_self)), wipeE_get (fun z => h (List.mem_cons_of_mem _ z))]
theorem Stt.wipe (st : Stt p y S σ H ρ) : ∀ is : List Nat, Stt p y S (L2.wipe σ is) H (wipeE ρ is)
  | [] => st
  | i :: is => by
    have st1 := Stt.wipe st is
    show Stt p y S ((L2.wipe σ is).set i none) H ((wipeE ρ is).set i .un)
    refine ⟨st1.sub, st1.same, st1.sub0, st1.old, by rw [List.length_set, List.length_set]; exact st1.len, st1.lk, fun j s e => ?_, fun j k s t l e1 e2 o1 o2 q1 q2 => ?_⟩
    · by_cases z : i = j
      · subst z
        by_cases hl : i < (wipeE ρ is).length
        · rw [List.getElem?_set_self hl] at e
          cases e
          trivial
        · rw [List.getElem?_eq_none (by rw [List.length_set]; omega)] at e
          cases e
      · rw [List.getElem?_set_ne z] at e ⊢
        exact st1.sl j s e
    · have f : ∀ {j : Nat} {s : Sl}, ((wipeE ρ is).set i .un)[j]? = some s → s.owns = true → i ≠ j := fun {j s} e o z => by
        subst z
        by_cases hl : i < (wipeE ρ is).length
        · rw [List.getElem?_set_self hl] at e
          cases e
          cases o
        · rw [List.getElem?_eq_none (by rw [List.length_set]; omega)] at e
          cases e
      have hj := f e1 o1
      have hk := f e2 o2
      rw [List.getElem?_set_ne hj] at e1 q1
      rw [List.getElem?_set_ne hk] at e2 q2
      exact st1.sep j k s t l e1 e2 o1 o2 q1 q2
theorem backE_len (τ ρ : En) : ∀ is : List Nat, (backE τ ρ is).length = ρ.length
  | [] => rfl
  | i :: is => by unfold backE; rw [List.length_set, backE_len τ ρ is]
theorem backE_get {τ ρ : En} {j : Nat} : ∀ {is : List Nat}, j ∉ is → (backE τ ρ is)[j]? = ρ[j]?
  | [], _ => rfl
  | i :: is, h => by
    unfold backE
    rw [List.getElem?_set_ne (fun z => h (by rw [z]; exact List.mem_cons_self)), backE_get (fun z => h (List.mem_cons_of_mem _ z))]
theorem backE_in {τ ρ : En} {j : Nat} : ∀ {is : List Nat}, j ∈ is → j < ρ.length → (backE τ ρ is)[j]? = some (τ.getD j .un)
  | [], h, _ => nomatch h
  | i :: is, h, hl => by
    unfold backE
    by_cases z : i = j
    · subst z
      rw [List.getElem?_set_self (by rw [backE_len]; exact hl)]
    · rw [List.getElem?_set_ne z]
      exact backE_in ((List.mem_cons.mp h).resolve_left (fun w => z w.symm)) hl
theorem Stt.back {S1 H1 : Hp} {τ : En} {is : List Nat} (st0 : Stt p y S1 σ H1 ρ) (hno : noOwn ρ is = true) (hS : Sub S1 S) (st : Stt p y S (L2.wipe σ is) H τ) : Stt p y S σ H (backE ρ τ is) := by
  have hlen : τ.length = σ.length := by rw [st.len, wipe_length]
  have notOwn : ∀ j, j ∈ is → ∀ s, ρ[j]? = some s → (s = .un ∨ ∃ d, s = .val d) := fun j hj s e => by
    have h := List.all_eq_true.mp hno j hj
    rw [e] at h
    cases s with
    | un => exact .inl rfl
    | val d => exact .inr ⟨d, rfl⟩
    | own d => cases h
    | lock d => cases h
    | dic d => cases h
    | obj c0 d => cases h
  have look : ∀ (j : Nat) (s : Sl), (backE ρ τ is)[j]? = some s → (j ∉ is ∧ τ[j]? = some s) ∨ (j ∈ is ∧ (s = .un ∨ ∃ d, s = .val d ∧ ρ[j]? = some s)) := fun j s e => by
    by_cases hj : j ∈ is
    · have hlt : j < τ.length := by
        have := (List.getElem?_eq_some_iff.mp e).1
        rw [backE_len] at this
        exact this
      rw [backE_in hj hlt] at e
      cases e
      refine .inr ⟨hj, ?_⟩
      rw [List.getD_eq_getElem?_getD]
      cases q : ρ[j]? with
      | none => exact .inl rfl
      | some s =>
        rcases notOwn j hj s q with z | ⟨d, z⟩
        · exact .inl z
        · exact .inr ⟨d, z, rfl⟩
    · rw [backE_get hj] at e
      exact .inl ⟨hj, e⟩
  refine ⟨st.sub, st.same, st.sub0, st.old, by rw [backE_len]; exact hlen, st.lk, fun j s e => ?_, fun j k s t l e1 e2 o1 o2 q1 q2 => ?_⟩
  · rcases look j s e with ⟨h1, h2⟩ | ⟨h1, h2⟩
    · have r := st.sl j s h2
      rw [wipe_get h1] at r
      exact r
    · rcases h2 with z | ⟨d, z, h3⟩
      · subst z
        trivial
      · subst z
        obtain ⟨v, e4, r⟩ := st0.sl j _ h3
        exact ⟨v, e4, Rep.sub hS d v r⟩
  · have f : ∀ {j : Nat} {s : Sl}, (backE ρ τ is)[j]? = some s → s.owns = true → j ∉ is ∧ τ[j]? = some s := fun {j s} e o => by
      rcases look j s e with h | ⟨_, h2⟩
      · exact h
      · rcases h2 with z | ⟨d, z, _⟩
        · subst z
          cases o
        · subst z
          cases o
    obtain ⟨a1, a2⟩ := f e1 o1
    obtain ⟨b1, b2⟩ := f e2 o2
    exact st.sep j k s t l a2 b2 o1 o2 (by rw [wipe_get a1]; exact q1) (by rw [wipe_get b1]; exact q2)
end

/-! ### comprehensions -/
section
variable {X : Cx} {p : Par} {C : Cxt} {y : Dy}
theorem PE.ex {ι : Type} {e : Expr} {t : ι → TE} (h : ∀ i, PE X e (t i)) : PE X e (fun σ H Q => ∃ i, t i σ H Q) := ⟨fun pins s σ H Q I ⟨i, q⟩ => (h i).run pins s σ H Q I q⟩
theorem PT.ex {ι : Type} {e : Expr} {t : ι → TT} (h : ∀ i, PT X e (t i)) : PT X e (fun σ H Q => ∃ i, t i σ H Q) := ⟨fun pins s σ H Q I ⟨i, q⟩ => (h i).run pins s σ H Q I q⟩
theorem PSs.ex {ι : Type} {e : List Stmt} {t : ι → TS} (h : ∀ i, PSs X e (t i)) : PSs X e (fun D σ H => ∃ i, t i D σ H) := ⟨fun pins s σ H D I ⟨i, q⟩ => (h i).run pins s σ H D I q⟩
/-- the turn of a comprehension -/
def turnC (C : Cxt) (t : Tg) (own : List Nat) (ifs e : IR) : D → En → Out (Option D × En) := fun x τ => match asg t x τ with
  | none => .bad
  | some τ1 => (ev C ifs τ1).bnd fun (kv, τ2) => match kv with
    | .v (.bl k) => if k = true then (sq (ev C e τ2)).bnd fun (r, τ3) => if r.isB then .bad else .ok (some r.view, wipeE τ3 own)
      else .ok (none, wipeE τ2 own)
    | _ => .bad
theorem comp_rd {t : Tg} {own : List Nat} {k : ItK} {es : IRs} {ifs e : IR} {σ : L2.St} {H : Hp} {Q : VK} (hsl : ∀ i ∈ t.slots, i ∈ own) (h : rdE p C y (.comp t own k es ifs e) σ H Q) :
    tLc (rdI p C y k es) (gOf p.K t) (fun σ H Q => ∃ y, rdT p C y ifs σ H Q) (fun σ H Q => ∃ y, rdQ p C y e σ H Q) own σ H Q := by
  obtain ⟨S, ρ, st, q⟩ := h
  obtain ⟨⟨rs, ρ1⟩, e1, q⟩ := Res.bnd (x := evs C es ρ) q
  dsimp only at q
  have q' := q
  cases e2 : itD k (rs.map Ar.view) with
  | none => rw [e2] at q; exact q.elim
  | some xs =>
  rw [e2] at q
  dsimp only at q
  split at q
  · rename_i hc
    rw [Bool.and_eq_true] at hc
    obtain ⟨hno, hbr⟩ := hc
    refine ⟨S, ρ, st, ?_⟩
    rw [e1]
    refine ⟨xs, e2, hbr, fun J H1 S1 y1 st1 hS hH hy hback w Da hDa => ?_⟩
    generalize hρl : (lockers rs ρ1).foldl lockAt ρ1 = ρl at *
    have q : Res ((compLoop (turnC C t own ifs e) xs (wipeE ρl own)).bnd fun z => if z.1.length ≤ sizeLine then Out.ok (Ar.fr z.1, (lockers rs ρ1).foldr (fun i τ => unlockAt τ i) (backE ρl z.2 own)) else .bad) (FinQ p y σ S H Q) := q
    have hD0 := st1.none0 hDa
    -- the invariant
    let Fin : List D × En → Prop := fun z => z.1.length ≤ sizeLine ∧ FinQ p y σ S H Q (.fr z.1, (lockers rs ρ1).foldr (fun i τ => unlockAt τ i) (backE ρl z.2 own))
    have q0 : Res (compLoop (turnC C t own ifs e) xs (wipeE ρl own)) Fin := by
      obtain ⟨z, e3, q3⟩ := Res.bnd q
      rw [e3]
      split at q3
      · rename_i hz
        exact ⟨hz, q3⟩
      · exact q3.elim
    refine ⟨fun i m Hi => m = xs.length - i ∧ i ≤ xs.length ∧ ∃ (Si : Hp) (τ : En) (acc : List V) (ds : List D), Stt p y1 Si (wipe σ own) Hi τ ∧ Sub S1 Si ∧ Sub H1 Hi ∧ Hi Da = some (.lst acc) ∧ Si Da = none ∧ Free (wipe σ own) τ Da ∧ Reps p Si ds acc ∧
      Res (compLoop (turnC C t own ifs e) (xs.drop i) τ) fun z => Fin (ds ++ z.1, z.2), ⟨xs.length, ?_⟩, ?_⟩
    · obtain ⟨sf, hf⟩ := st1.newF (o := .lst []) hDa
      have fr := st1.freshA (vs := []) (ds := []) hDa rfl
      obtain ⟨l, us, a1, a2, a3, a4, a5, a6⟩ := fr
      cases a1
      have sw := sf.wipe own
      refine ⟨rfl, Nat.zero_le _, S1, wipeE ρl own, [], [], sw, Sub.refl _, hf, upd_same, hD0.1, fun j s hj ho z => ?_, rfl, ?_⟩
      · have : j ∉ own := fun hjo => by
          rw [wipe_in hjo (by
            have := sw.lt hj
            rw [wipeE_len] at this
            rw [← sf.len]
            exact this)] at z
          cases z
        rw [wipe_get this] at z
        have hj' : ρl[j]? = some s := by
          rw [wipeE_get this] at hj
          exact hj
        exact a6 j s hj' ho z
      · exact q0
    · rintro i m Hi ⟨rfl, hi, Si, τ, acc, ds, sti, hSi, hHi, hD, hSD, hfree, racc, qi⟩
      have hB : Sub y1.H0 Hi := sti.same
      have h0 : y1.S0 Da = none := by
        cases z : y1.S0 Da with
        | none => rfl
        | some o => rw [sti.sub0 _ _ z] at hSD; cases hSD
      by_cases hlt : i < xs.length
      · refine .inr ⟨w.goes i Hi Si hlt hSi sti.sub hB, fun H' => ∃ (Si : Hp) (τ : En) (acc : List V) (ds : List D), Stt p y1 Si (wipe σ own) H' τ ∧ Sub S1 Si ∧ Sub H1 H' ∧ H' Da = some (.lst acc) ∧ Si Da = none ∧ Free (wipe σ own) τ Da ∧ Reps p Si ds acc ∧
          Res (compLoop (turnC C t own ifs e) (xs.drop (i + 1)) τ) fun z => Fin (ds ++ z.1, z.2), fun H' z => ⟨xs.length - (i + 1), by omega, rfl, hlt, z⟩, fun x H' yl => ?_⟩
        obtain ⟨S2, d, hd, rd, b1, b2, b3, b4⟩ := w.yields i Hi Si x H' hlt hSi sti.sub hB yl
        have sp : Stt p (y1.pin Da acc) Si (wipe σ own) Hi τ := Stt.pin sti hD hSD hD0.2 hfree
        have st2 : Stt p (y1.pin Da acc) S2 (wipe σ own) H' τ := sp.grow b1 b3 b2 b4
        have edrop : xs.drop i = d :: xs.drop (i + 1) := by
          obtain ⟨h1, h2⟩ := List.getElem?_eq_some_iff.mp hd
          rw [← h2]
          exact List.drop_eq_getElem_cons h1
        rw [edrop] at qi
        obtain ⟨⟨o, τ4⟩, e4, q4⟩ := Res.bnd (x := turnC C t own ifs e d τ) qi
        have q4 : Res ((compLoop (turnC C t own ifs e) (xs.drop (i + 1)) τ4).bnd fun z => .ok (consO o z.1, z.2)) fun z => Fin (ds ++ z.1, z.2) := q4
        unfold turnC at e4
        cases ea : asg t d τ with
        | none => rw [ea] at e4; cases e4
        | some τ1 =>
        rw [ea] at e4
        dsimp only at e4
        refine asg_rd b2 st2 rd ea fun σ1 st3 h1 h2 => ?_
        have hww : wipe (wipe σ own) own = wipe σ own := wipe_eq (wipe_length _ _) fun j hj => wipe_get hj
        have hw : wipe σ1 own = wipe σ own := (wipe_eq h2 fun j hj => h1 j fun z => hj (hsl j z)).trans hww
        -- a turn's end
        have fin : ∀ {S5 : Hp} {H5 : Hp} {τ5 : En} {new : List D} {nv : List V}, Stt p (y1.pin Da acc) S5 σ1 H5 τ5 → Sub Si S5 → Sub Hi H5 → Reps p S5 new nv → acc.length + nv.length ≤ sizeLine → (∀ z : List D × En, Fin (ds ++ (new ++ z.1), z.2) → Fin (ds ++ new ++ z.1, z.2)) →
            Res (compLoop (turnC C t own ifs e) (xs.drop (i + 1)) (wipeE τ5 own)) (fun z => Fin (ds ++ (new ++ z.1), z.2)) →
            ∃ (Si : Hp) (τ : En) (acc' : List V) (ds : List D), Stt p y1 Si (wipe σ own) (upd H5 Da (.lst (acc ++ nv))) τ ∧ Sub S1 Si ∧ Sub H1 (upd H5 Da (.lst (acc ++ nv))) ∧ (upd H5 Da (.lst (acc ++ nv))) Da = some (.lst acc') ∧ Si Da = none ∧ Free (wipe σ own) τ Da ∧ Reps p Si ds acc' ∧
              Res (compLoop (turnC C t own ifs e) (xs.drop (i + 1)) τ) fun z => Fin (ds ++ z.1, z.2) := fun {S5 H5 τ5 new nv} st5 g1 g2 rn hz hF hres => by
          obtain ⟨su, u1, u2, u3⟩ := Stt.unpin hD0.2 st1.lk h0 st5
          have sw := su.wipe own
          rw [hw] at sw
          have fw : Free (wipe σ own) (wipeE τ5 own) Da := fun j s hj ho z => by
            have hjo : j ∉ own := fun hjo => by
              rw [wipe_in hjo (by
                have := sw.lt hj
                rw [sw.len, wipe_length] at this
                exact this)] at z
              cases z
            rw [wipe_get hjo] at z
            have hj' : τ5[j]? = some s := by
              rw [wipeE_get hjo] at hj
              exact hj
            refine u3 j s hj' ho ?_
            rw [h1 j (fun w => hjo (hsl j w)), wipe_get hjo]
            exact z
          refine ⟨S5, wipeE τ5 own, acc ++ nv, ds ++ new, sw.writeF u2 hD0.2 fw, hSi.trans g1, fun a u z => ?_, upd_same, u2, fw, (Reps.sub g1 _ _ racc).append rn, ?_⟩
          · rw [upd_ne (ne_of_none z hDa)]
            exact g2 _ _ (hHi _ _ z)
          · obtain ⟨z, e6, q6⟩ := Res.ok hres
            rw [e6]
            exact hF z q6
        refine ⟨hw, y1.pin Da acc, S2, τ1, st3, ?_⟩
        cases ei : ev C ifs τ1 with
        | bad => rw [ei] at e4; cases e4
        | exc c fs => rw [ei] at e4; cases e4
        | ok kv =>
        obtain ⟨kv, τ2⟩ := kv
        rw [ei] at e4
        unfold Out.bnd at e4
        dsimp only at e4
        split at e4
        · rename_i kb
          refine ⟨kb, rfl, fun H3 S3 st4 c1 c2 => ?_⟩
          cases kb with
          | true =>
            simp only [if_true] at e4 ⊢
            obtain ⟨⟨r, τ3⟩, e5, e6⟩ : ∃ q, sq (ev C e τ2) = .ok q ∧ (if q.1.isB then Out.bad else .ok (some q.1.view, wipeE q.2 own)) = .ok (o, τ4) := by
              cases z : sq (ev C e τ2) with
              | bad => rw [z] at e4; cases e4
              | exc c fs => rw [z] at e4; cases e4
              | ok q => rw [z] at e4; exact ⟨q, rfl, e4⟩
            dsimp only at e6
            split at e6
            · cases e6
            · rename_i hb
              cases e6
              have hbnd : Res ((sq (ev C e τ2)).bnd fun q => (Out.ok q : Out (Ar × En))) fun q => q = (r, τ3) := by
                rw [e5]
                exact rfl
              refine ⟨y1.pin Da acc, one_rd st4 hbnd fun r' ρ' v H4 S4 q5 st5 d1 d2 s5 ra => ?_⟩
              cases (show (r', ρ') = (r, τ3) from q5)
              obtain ⟨z, e7, q7⟩ := Res.bnd q4
              have q7 : Fin (ds ++ (r.view :: z.1), z.2) := q7
              have hlen := q7.1
              simp only [List.length_append, List.length_cons] at hlen
              have hacc := racc.length
              have rv : Rep p S4 r.view v := by
                cases r with
                | v d => exact ra
                | fr ds => cases s5
                | br i ds => exact absurd rfl hb
              obtain ⟨_, u1, _, _⟩ := Stt.unpin hD0.2 st1.lk h0 st5
              refine ⟨acc, u1, by omega, fin (new := [r.view]) (nv := [v]) st5 (b1.trans (c1.trans d1)) (b3.trans (c2.trans d2)) (Reps.one rv) (by simp only [List.length_singleton]; omega) (fun z q => by rw [List.append_assoc]; exact q) ?_⟩
              rw [e7]
              exact q7
          | false =>
            simp only [Bool.false_eq_true, if_false] at e4 ⊢
            cases e4
            obtain ⟨z, e7, q7⟩ := Res.bnd q4
            have q7 : Fin (ds ++ z.1, z.2) := q7
            obtain ⟨_, u1, _, _⟩ := Stt.unpin hD0.2 st1.lk h0 st4
            have hlen := q7.1
            simp only [List.length_append] at hlen
            have hacc := racc.length
            have key := fin (new := []) (nv := []) st4 (b1.trans c1) (b3.trans c2) rfl (by simp only [List.length_nil]; omega) (fun z q => by rw [List.append_nil]; exact q) (by rw [e7]; exact q7)
            rw [List.append_nil] at key
            have eu : upd H3 Da (.lst acc) = H3 := by
              funext a
              by_cases z : a = Da
              · rw [z, upd_same, u1]
              · rw [upd_ne z]
            rw [eu] at key
            exact key
        · cases e4
      · have e : i = xs.length := by omega
        subst e
        refine .inl ⟨w.stops Hi Si hSi sti.sub hB, ?_⟩
        rw [List.drop_length] at qi
        have qi : Fin (ds ++ [], τ) := qi
        rw [List.append_nil] at qi
        obtain ⟨_, fq⟩ := qi
        have stb : Stt p y1 Si σ Hi (backE ρl τ own) := st1.back hno hSi sti
        obtain ⟨stu, hfb⟩ := hback _ _ _ _ stb
        refine fq _ _ Si stu (hS.trans hSi) (hH.trans hHi) ⟨Da, acc, rfl, hD, hSD, ?_, racc, ?_⟩
        · cases z : y.H0 Da with
          | none => rfl
          | some o => rw [hy _ _ z] at hD0; cases hD0.2
        · refine hfb Da hD0.2 fun j s hj ho z => ?_
          have hjo : j ∉ own := fun hjo => by
            have hlt : j < τ.length := by
              have := (List.getElem?_eq_some_iff.mp hj).1
              rw [backE_len] at this
              exact this
            rw [backE_in hjo hlt, List.getD_eq_getElem?_getD] at hj
            have h := List.all_eq_true.mp hno j hjo
            cases q : ρl[j]? with
            | none => rw [q] at hj; cases hj; cases ho
            | some s' =>
              rw [q] at hj h
              have hj2 : s' = s := Option.some.inj hj
              subst hj2
              cases s' with
              | own d => cases h
              | dic d => cases h
              | obj c0 d => cases h
              | _ => cases ho
          rw [backE_get hjo] at hj
          exact hfree j s hj ho (by rw [wipe_get hjo]; exact z)
  · exact q.elim
end
end DS
/-! ## sorted(xs, key=f), f a def -/
namespace DS
open PySem PySem.Spec PyProof.Rows L2
theorem kins_sorted {α : Type} {k : Int} {a : α} : ∀ {l : List (Int × α)}, l.Pairwise (fun p q => p.1 ≤ q.1) → (kins k a l).Pairwise (fun p q => p.1 ≤ q.1) ∧ ∀ q ∈ kins k a l, q = (k, a) ∨ q ∈ l
  | [], _ => ⟨List.pairwise_singleton _ _, fun q h => .inl (by simpa [kins] using h)⟩
  | q :: r, h => by
    unfold kins
    obtain ⟨h1, h2⟩ := List.pairwise_cons.mp h
    split
    · rename_i hk
      refine ⟨List.pairwise_cons.mpr ⟨fun z hz => ?_, h⟩, fun z hz => by simpa using hz⟩
      rcases List.mem_cons.mp hz with rfl | hz
      · exact hk
      · exact Int.le_trans hk (h1 z hz)
    · rename_i hk
      obtain ⟨i1, i2⟩ := kins_sorted (k := k) (a := a) h2
      refine ⟨List.pairwise_cons.mpr ⟨fun z hz => ?_, i1⟩, fun z hz => ?_⟩
      · rcases i2 z hz with rfl | hz
        · show q.1 ≤ k
          omega
        · exact h1 z hz
      · rcases List.mem_cons.mp hz with rfl | hz
        · exact .inr (List.mem_cons_self ..)
        · rcases i2 z hz with e | e
          · exact .inl e
          · exact .inr (List.mem_cons_of_mem _ e)
theorem ksort_sorted {α : Type} : ∀ l : List (Int × α), (ksort l).Pairwise (fun p q => p.1 ≤ q.1)
  | [] => .nil
  | q :: r => (kins_sorted (ksort_sorted r)).1
theorem kins_filter {α : Type} {k : Int} {a : α} (c : Int) : ∀ l : List (Int × α), l.Pairwise (fun p q => p.1 ≤ q.1) → (kins k a l).filter (fun p => p.1 == c) = ((k, a) :: l).filter (fun p => p.1 == c)
  | [], _ => rfl
  | q :: r, h => by
    unfold kins
    split
    · rfl
    · rename_i hk
      obtain ⟨h1, h2⟩ := List.pairwise_cons.mp h
      rw [List.filter_cons, kins_filter c r h2]
      by_cases e1 : q.1 = c
      · have e2 : ¬ k = c := by omega
        simp [List.filter_cons, e1, e2]
      · simp [List.filter_cons, e1]
theorem ksort_filter {α : Type} (c : Int) : ∀ l : List (Int × α), (ksort l).filter (fun p => p.1 == c) = l.filter (fun p => p.1 == c)
  | [] => rfl
  | q :: r => by
    show (kins q.1 q.2 (ksort r)).filter _ = _
    rw [kins_filter c _ (ksort_sorted r), List.filter_cons, List.filter_cons, ksort_filter c r]
theorem sorted_eq {α : Type} : ∀ {ps qs : List (Int × α)}, ps.Pairwise (fun p q => p.1 ≤ q.1) → qs.Pairwise (fun p q => p.1 ≤ q.1) → (∀ c, ps.filter (fun p => p.1 == c) = qs.filter (fun p => p.1 == c)) → ps = qs
  | [], [], _, _, _ => rfl
  | [], q :: qs, _, _, h => by
    have := h q.1
    simp at this
  | p :: ps, [], _, _, h => by
    have := h p.1
    simp at this
  | p :: ps, q :: qs, h1, h2, h => by
    obtain ⟨a1, a2⟩ := List.pairwise_cons.mp h1
    obtain ⟨b1, b2⟩ := List.pairwise_cons.mp h2
    have m1 : p ∈ (q :: qs).filter (fun z => z.1 == p.1) := by
      rw [← h]
      simp
    have m2 : q ∈ (p :: ps).filter (fun z => z.1 == q.1) := by
      rw [h]
      simp
    have l1 : q.1 ≤ p.1 := by
      rcases List.mem_cons.mp (List.mem_filter.mp m1).1 with e | e
      · rw [e]
        exact Int.le_refl _
      · exact b1 _ e
    have l2 : p.1 ≤ q.1 := by
      rcases List.mem_cons.mp (List.mem_filter.mp m2).1 with e | e
      · rw [e]
        exact Int.le_refl _
      · exact a1 _ e
    have e : p.1 = q.1 := Int.le_antisymm l2 l1
    have hp := h p.1
    rw [List.filter_cons, List.filter_cons] at hp
    rw [if_pos (by simp), if_pos (by simp [e])] at hp
    obtain ⟨e1, e2⟩ := List.cons.inj hp
    subst e1
    refine congrArg (List.cons p) (sorted_eq a2 b2 fun c => ?_)
    by_cases hc : p.1 = c
    · subst hc
      exact e2
    · have := h c
      simpa [List.filter_cons, hc] using this
inductive Z2 {α β : Type} (R : α → β → Prop) : List (Int × α) → List (Int × β) → Prop
  | nil : Z2 R [] []
  | cons {k : Int} {a : α} {b : β} {l : List (Int × α)} {m : List (Int × β)} (h : R a b) (r : Z2 R l m) : Z2 R ((k, a) :: l) ((k, b) :: m)
theorem kins_rel {α β : Type} {R : α → β → Prop} {k : Int} {a : α} {b : β} (hab : R a b) : ∀ {l : List (Int × α)} {m : List (Int × β)}, Z2 R l m → Z2 R (kins k a l) (kins k b m)
  | _, _, .nil => .cons hab .nil
  | _, _, .cons (k := c) h hr => by
    unfold kins
    dsimp only
    split
    · exact .cons hab (.cons h hr)
    · exact .cons h (kins_rel hab hr)
theorem ksort_rel {α β : Type} {R : α → β → Prop} : ∀ {l : List (Int × α)} {m : List (Int × β)}, Z2 R l m → Z2 R (ksort l) (ksort m)
  | _, _, .nil => .nil
  | _, _, .cons h hr => kins_rel h (ksort_rel hr)
theorem Z2.vals : ∀ {ks : List Int} {xs : List V} {vs : List Value}, Vals xs vs → Z2 RelV (ks.zip xs) (ks.zip vs)
  | [], _, _, _ => by simp; exact .nil
  | k :: ks, _, _, .nil => .nil
  | k :: ks, _, _, .cons h r => .cons h (Z2.vals r)
theorem Z2.out : ∀ {l : List (Int × V)} {m : List (Int × Value)}, Z2 RelV l m → Vals (l.map (·.2)) (m.map (·.2))
  | _, _, .nil => .nil
  | _, _, .cons h r => .cons h (Z2.out r)
section
variable {p : Par} {S : Hp}
theorem Z2.reps : ∀ {ks : List Int} {ds : List D} {vs : List V}, Reps p S ds vs → Z2 (Rep p S) (ks.zip ds) (ks.zip vs)
  | [], _, _, _ => by simp; exact .nil
  | k :: ks, [], vs, h => by
    cases (show vs = [] from h)
    exact .nil
  | k :: ks, d :: ds, vs, h => by
    obtain ⟨v, r, rfl, h1, h2⟩ := (show ∃ v r, vs = v :: r ∧ Rep p S d v ∧ Reps p S ds r from h)
    exact .cons h1 (Z2.reps h2)
theorem Z2.rout : ∀ {l : List (Int × D)} {m : List (Int × V)}, Z2 (Rep p S) l m → Reps p S (l.map (·.2)) (m.map (·.2))
  | _, _, .nil => rfl
  | _, _, .cons h r => ⟨_, _, rfl, h, Z2.rout r⟩
end
theorem kins_len {α : Type} {k : Int} {a : α} : ∀ l : List (Int × α), (kins k a l).length = l.length + 1
  | [] => rfl
  | q :: r => by
    unfold kins
    split
    · rfl
    · show (kins k a r).length + 1 = _
      rw [kins_len r]
      rfl
theorem ksort_len {α : Type} : ∀ l : List (Int × α), (ksort l).length = l.length
  | [] => rfl
  | q :: r => by
    show (kins q.1 q.2 (ksort r)).length = _
    rw [kins_len, ksort_len r]
    rfl
theorem keysD_len {m : List D → Out Ar} : ∀ {ds : List D} {ks : List Int}, keysD m ds = .ok ks → ks.length = ds.length
  | [], ks, h => by cases h; rfl
  | d :: ds, ks, h => by
    unfold keysD at h
    cases e : m [d] with
    | ok r =>
      rw [e] at h
      cases r with
      | v x =>
        cases x with
        | int k =>
          cases e2 : keysD m ds with
          | ok ks' =>
            have h : (Out.ok (k :: ks') : Out (List Int)) = .ok ks := by simpa [e2] using h
            cases h
            exact congrArg (· + 1) (keysD_len e2)
          | bad => simp [e2] at h
          | exc c fs => simp [e2] at h
        | _ => cases h
      | _ => cases h
    | bad => rw [e] at h; cases h
    | exc c fs => rw [e] at h; cases h
theorem keysD_at {m : List D → Out Ar} : ∀ {ds : List D} {ks : List Int} {i : Nat} {d : D} {k : Int}, keysD m ds = .ok ks → ds[i]? = some d → ks[i]? = some k → m [d] = .ok (.v (.int k))
  | [], ks, i, d, k, h, h1, h2 => by simp at h1
  | d :: ds, ks, i, d', k', h, h1, h2 => by
    unfold keysD at h
    cases e : m [d] with
    | ok r =>
      rw [e] at h
      cases r with
      | v x =>
        cases x with
        | int k =>
          cases e2 : keysD m ds with
          | ok ks' =>
            have h : (Out.ok (k :: ks') : Out (List Int)) = .ok ks := by simpa [e2] using h
            cases h
            cases i with
            | zero =>
              simp at h1 h2
              subst h1 h2
              exact e
            | succ i => exact keysD_at (i := i) e2 (by simpa using h1) (by simpa using h2)
          | bad => simp [e2] at h
          | exc c fs => simp [e2] at h
        | _ => cases h
      | _ => cases h
    | bad => rw [e] at h; cases h
    | exc c fs => rw [e] at h; cases h
end DS
/-! ### the machine: what stands behind the keys' loop -/
namespace DsSort
open PySem PyProof.Rows
section
variable {P : Program} {w : World} {A : Around} {X : Value → Shared → Prop} {t : Shared} {D kS : Addr} {xs : List Value} {zs : List Int} {ks : Array Value} {n m : Nat} {R : PySem.Fin → Shared → Prop}
/-- the keys' list emptied, the sorted values laid down -/
def ended (h : Heap) (D kS : Addr) (out : Array Value) : Heap := (h.update kS (.mapSeq fun _ => #[])).update D (.mapSeq fun _ => out)
theorem last_part {q : SortSt} (hD : t.heap.get? D = some (seqObj "list" #[] m)) (hS : t.heap.get? kS = some (seqObj "list" ks n)) (apart : kS ≠ D) (few : ks.size ≤ sizeLine) (few2 : (arrOf q).size ≤ sizeLine) (good : failedOf q = none)
    (go : ∀ c, R (.done (.ret .none)) { t with heap := ended t.heap D kS ((arrOf q).map (·.2)), toks := c }) : wpAny (model P w) A (ksk_tail D false m (.ref kS) q) R X t := by
  have still : (t.heap.update kS (.mapSeq fun _ => #[])).get? D = some (seqObj "list" #[] m) :=
    Eq.trans (Heap.get?_update_ne _ _ _ _ apart.symm) hD
  have size : ((arrOf q).map (·.2)).size ≤ sizeLine + 1 := by
    rw [Array.size_map]
    exact Nat.le_succ_of_le few2
  show wpAny _ _ (do
    Builtin.List.listUpdate (.ref kS) fun _ => #[]
    letGo ((arrOf q).map (·.1)).toList (failedOf q).toList
    let b := (← seqEpoch D) != m
    Builtin.List.listUpdate (.ref D) fun _ => (arrOf q).map (·.2)
    if let some e := failedOf q then rule "list.sort.comparison-raised"; throw e
    if b then rule "list.sort.modified"; raiseError "ValueError" "list modified during sort"
    ret .none) R X t
  rw [good]
  exact wpAny_bind (listUpdate_at hS rfl (wpAny_bind (wpAny_letGo (wpAny_bind (seqEpoch_at still rfl (wpAny_bind (listUpdate_at still rfl (by
    simp only [bne_self_eq_false]
    exact wpAny_pure (go _)) (Nat.zero_le _) size)))))) few (Nat.zero_le _))
/-- behind the keys: the values in the order of their keys -/
theorem end_part (hD : t.heap.get? D = some (seqObj "list" #[] m)) (hS : t.heap.get? kS = some (seqObj "list" ks n)) (apart : kS ≠ D) (are : IntsAre ks.toList zs) (same : zs.length = xs.length) (few : xs.length ≤ sizeLine)
    (go : ∀ c out, KskOutSt false zs xs out.toList → R (.done (.ret .none)) { t with heap := ended t.heap D kS out, toks := c }) : wpAny (model P w) A (ksk_end D false xs.toArray m (.ref kS) ks) R X t := by
  have k1 : ks.size = xs.length := by
    have := are.length
    simp only [Array.length_toList] at this
    omega
  obtain ⟨Z, hZ⟩ : ∃ Z, Z = ks.zip xs.toArray := ⟨_, rfl⟩
  have z1 : Z.size = xs.length := by
    rw [hZ, Array.size_zip, k1]
    simp
  have fin : ∀ q : SortSt, (arrOf q).Perm Z → failedOf q = none → SortedTo (arrOf q) (arrOf q).size → Stable intKind (arrOf q) Z → wpAny (model P w) A (ksk_tail D false m (.ref kS) q) R X t := fun q p1 p2 p3 p4 => by
    refine last_part hD hS apart (by omega) (by rw [p1.size_eq, z1]; exact few) p2 fun c => go c _ ?_
    rw [hZ] at p1 p4
    exact ksk_outSt (b := false) are p1 p3 p4
  show wpAny _ _ (do
    let kind ← if xs.toArray.size < 2 then pure general' else keyKind' ks
    let ((), q) ← (if xs.toArray.size < 2 then pure () else sortRuns').run (SortSt.mk' kind (ks.zip xs.toArray) #[] 7 none)
    ksk_tail D false m (.ref kS) q) R X t
  rw [← hZ]
  by_cases short : xs.toArray.size < 2
  · simp only [short, if_true]
    refine wpAny_bind (wpAny_pure (wpAny_bind (wpAny_pure (fin (SortSt.mk' general' Z #[] 7 none) (.refl _) rfl ?_ (.refl _)))))
    intro i j h1 h2
    have h3 : j < Z.size := h2
    have h4 : xs.length < 2 := by simpa using short
    obtain rfl : i = j := by omega
    exact Int.le_refl _
  · simp only [short, if_false]
    have long : 2 ≤ xs.length := by simpa using short
    rw [ksk_kind are (by omega)]
    have good := ksk_keysOfInt (ksk_intKeys (vs := xs) are)
    rw [← hZ] at good
    exact wpAny_bind (wpAny_pure (wpAny_bind (wpAny_mono (wpS_sortRunsSt (κ := intKind) (a₀ := Z) (st := SortSt.mk' oneType' Z #[] 7 none)
      (Q := fun _ q => (arrOf q).Perm Z ∧ failedOf q = none ∧ SortedTo (arrOf q) (arrOf q).size ∧ Stable intKind (arrOf q) Z) intKind_oneLt good ⟨.refl _, rfl, rfl⟩ rfl (.refl _) (by omega)
      fun q r1 r2 r3 r4 => ⟨r1, r2, by rw [r1.size_eq]; exact sortedTo_of_int r3, r4⟩) (fun r u hr => by
        obtain ⟨⟨⟩, q⟩ := r
        obtain ⟨rfl, r1, r2, r3, r4⟩ := hr
        exact fin q r1 r2 r3 r4) fun _ _ z => z)))
end
end DsSort
namespace DS
open PySem PySem.Spec PyProof.Rows L2
section
variable {X : Cx} {p : Par}
/-- one call of the key -/
theorem key_turn {pins : List (Addr × Obj)} {σ : L2.St} {H S : Hp} {s : Shared} {m : List D → Out Ar} {fa : Addr} {fd : FuncData} {ps : List Str} {k : Nat} {d : D} {x : V} {v : Value} {key : Int} (F : FnOk X.prog X.w X.K X.mg X.base CX0 k fa fd ps (spD p 1 m)) (hr : Room (k + 2) X.A) (hb : Binds X.K fd ps [])
    (I : Inv X pins σ H s) (sub : Sub S H) (rx : Rep p S d x) (rv : RelV x v) (hm : m [d] = .ok (.v (.int key))) :
    wpAny (model X.prog X.w) X.A.in1.in1 (call (.ref fa) [v]) (fun u s' => ∃ H' t, u = .int key t ∧ Inv X pins σ H' s' ∧ Sub H H') (fun _ _ => False) s := by
  have hsp : spD p 1 m [x] H (fun u H' => u = .int key ∧ Sub H H') (fun _ _ _ => False) := by
    refine ⟨S, [d], sub, ⟨x, [], rfl, rx, rfl⟩, rfl, ?_⟩
    rw [hm]
    exact fun u H' S' _ _ h3 _ ra => ⟨ra, h3⟩
  have r2 : Vals [x] [v] := .cons rv .nil
  have hl : [v].length = ps.length := F.len _ _ _ _ hsp
  have e0 : Env0 X.prog X.w X.K X.mg X.base X.A.in1.in1 X.stack s H := I.env0.in1.in1
  have hr2 : Room k X.A.in1.in1 := (hr.in1).in1
  have hbb := hb s [v] I.kIn hl
  rw [List.append_nil] at hbb
  refine wpAny_call (codeAny_mono (F.run X.A.in1.in1 X.stack s H ⟨[v], []⟩ [v] [x] _ _ hr2 e0 hbb r2 hsp) fun r s' hq => ?_)
  cases r with
  | error e => exact hq
  | ok fl =>
    cases fl with
    | ret u =>
      obtain ⟨y, H', I', ry, e1, h3⟩ := I.after hq
      subst e1
      obtain ⟨t, e2⟩ := (show ∃ t, u = .int key t from ry)
      exact ⟨H', t, e2, I', h3⟩
    | next => exact False.elim hq
    | brk => exact False.elim hq
    | cont => exact False.elim hq
theorem key_rest {pins : List (Addr × Obj)} {σ : L2.St} {H0 H S : Hp} {s : Shared} {m : List D → Out Ar} {fa a kS : Addr} {fd : FuncData} {ps : List Str} {k : Nat} {ds : List D} {xs : List V} {vs : List Value} {ks : List Int} {e1 : Nat} {E : Value → Shared → Prop} {P : PySem.Fin → Shared → Prop}
    (F : FnOk X.prog X.w X.K X.mg X.base CX0 k fa fd ps (spD p 1 m)) (hr : Room (k + 2) X.A) (hb : Binds X.K fd ps [])
    (I : Inv X pins σ H s) (hS : Sub S H0) (h0 : Sub H0 H) (rep : Reps p S ds xs) (rv : Vals xs vs) (hm : keysD m ds = .ok ks) (hZ : xs.length ≤ sizeLine)
    (ha : H a = some (.frz (seqObj "list" #[] e1) (.lst []))) (hk : H kS = some (.lst [])) (hka : kS ≠ a) (n0 : H0 a = none) (n1 : H0 kS = none) (nf : ∀ o' u', X.H_0 a ≠ some (.frz o' u'))
    (h : ∀ H' s', Inv X pins σ H' s' → Sub H0 H' → H' a = some (.lst ((ksort (ks.zip xs)).map (·.2))) → P (.done (.ret .none)) s') :
    wpAny (model X.prog X.w) X.A.in1.in1 (ksk_rest a (.ref fa) false vs.toArray e1 (.ref kS)) P E s := by
  have hl1 := keysD_len hm
  have hl2 := rep.length
  have hl3 := rv.length
  have hZ2 := hZ
  rw [sizeLine_eq] at hZ2
  refine wpAny_bind (m := rule "list.sort.key") (wpAny_rule ?_)
  rw [List.forIn_toArray]
  refine wpAny_bind (ksk_fold (fun j s' => ∃ Hj, Inv X pins σ Hj s' ∧ Sub H0 Hj ∧ Hj a = some (.frz (seqObj "list" #[] e1) (.lst [])) ∧ Hj kS = some (.lst ((ks.take j).map V.int))) vs 0 s
    ⟨H, I, h0, ha, by simpa using hk⟩ ?step ?done)
  case step =>
    rintro j v s' hx ⟨Hj, Ij, hj, haj, hkj⟩
    simp only [Nat.zero_add] at hkj ⊢
    have hjl : j < vs.length := (List.getElem?_eq_some_iff.mp hx).1
    obtain ⟨key, ek⟩ : ∃ key, ks[j]? = some key := ⟨_, List.getElem?_eq_getElem (by omega)⟩
    obtain ⟨d, ed⟩ : ∃ d, ds[j]? = some d := ⟨_, List.getElem?_eq_getElem (by omega)⟩
    obtain ⟨x, ex, rx⟩ := rep.get ed
    obtain ⟨v', ev, rxv⟩ := rv.get ex
    rw [hx] at ev
    cases ev
    refine wpAny_bind (wpAny_attempt (wpAny_mono (key_turn F hr hb Ij (hS.trans hj) rx rxv (keysD_at hm ed ek)) (fun u s'' he => ?_) fun _ _ hF => hF.elim))
    obtain ⟨H2, t, rfl, I2, h2⟩ := he
    try dsimp only
    obtain ⟨hz, its, n, rits, hlen, hobj⟩ := I2.lstM (h2 _ _ hkj)
    have hz2 : its.length ≤ vs.length := by
      rw [← hlen, List.length_map, List.length_take]
      omega
    have et : ks.take (j + 1) = ks.take j ++ [key] := by rw [List.take_add_one, ek]; simp
    refine wpAny_bind (listUpdate_at hobj rfl ?_ (by rw [List.size_toArray, sizeLine_eq]; omega) (Nat.le_trans (Nat.le_of_eq (Array.size_push ..)) (by rw [List.size_toArray, sizeLine_eq]; omega)))
    have I3 := I2.lset (f := fun q => q.push (.int key t)) (its' := its ++ [.int key t]) (ys := (ks.take (j + 1)).map V.int) (t' := s''.toks) (h2 _ _ hkj) hobj (by simp) (by
      rw [et, List.map_append]
      exact rits.append (.cons ⟨t, rfl⟩ .nil)) (by
        rw [List.length_map, List.length_take, sizeLine_eq]
        omega)
    refine wpAny_pure ⟨rfl, _, I3, fun b o q => ?_, ?_, upd_same⟩
    · rw [upd_ne (fun z => by rw [z, n1] at q; cases q)]
      exact h2 _ _ (hj _ _ q)
    · rw [upd_ne hka.symm]
      exact h2 _ _ haj
  case done =>
    rintro s' ⟨Hj, Ij, hj, haj, hkj⟩
    rw [Nat.zero_add, List.take_of_length_le (by omega)] at hkj
    obtain ⟨hz, its, n, rits, hlen, hobj⟩ := Ij.lstM hkj
    have hkI : IntsAre its ks := rits.ints
    have hao : s'.heap.get? a = some (seqObj "list" #[] e1) := (Ij.hok a _ haj).1
    try dsimp only
    refine wpAny_bind (listItems_at hobj rfl ?_)
    refine DsSort.end_part (zs := ks) (n := n) (ks := its.toArray) (xs := vs) hao hobj hka (by simpa using hkI) (by omega) (by rw [sizeLine_eq]; omega) fun tk out ho => ?_
    obtain ⟨pr, q1, q2, q3, q4⟩ := ho
    have epr : pr = ksort (ks.zip vs) := sorted_eq (by simpa using q3) (ksort_sorted _) fun c => by rw [q4 c, ksort_filter]
    have hov : Vals ((ksort (ks.zip xs)).map (·.2)) out.toList := by
      rw [q2, epr]
      exact (ksort_rel (Z2.vals rv)).out
    have I4 := Ij.lset (f := fun _ => (#[] : Array Value)) (its' := []) (ys := []) (t' := tk) hkj hobj rfl .nil (Nat.zero_le _)
    have ha4 : (upd Hj kS (.lst [])) a = some (.frz (seqObj "list" #[] e1) (.lst [])) := by rw [upd_ne hka.symm]; exact haj
    have I5 := I4.unlock ha4 nf
    have hao2 : (s'.heap.update kS (Obj.mapSeq fun _ => (#[] : Array Value))).get? a = some (seqObj "list" #[] e1) := (I5.hok a _ upd_same |> fun z => by
      exact ((Heap.SameBut.update s'.heap kS (Obj.mapSeq fun _ => (#[] : Array Value))).2 a hka.symm).trans hao)
    have I6 := I5.lset (f := fun _ => out) (its := []) (its' := out.toList) (ys := (ksort (ks.zip xs)).map (·.2)) (t' := tk) upd_same hao2 (by simp) hov (by
      rw [List.length_map, ksort_len, List.length_zip]
      omega)
    refine h _ _ I6 (fun b o q => ?_) upd_same
    have nb : b ≠ a := fun z => by rw [z, n0] at q; cases q
    have nk : b ≠ kS := fun z => by rw [z, n1] at q; cases q
    rw [upd_ne nb, upd_ne nb, upd_ne nk]
    exact hj _ _ q
/-- what sorted lays down before it sorts: a list that is gathered, and its copy -/
def twin (h : Heap) (vs : Array Value) : Heap := ((h.push (seqObj "list" #[] 0)).update h.objs.size (.mapSeq (· ++ vs))).push (seqObj "list" vs 0)
theorem twin_size (h : Heap) (vs : Array Value) : ((h.push (seqObj "list" #[] 0)).update h.objs.size (.mapSeq (· ++ vs))).objs.size = h.objs.size + 1 :=
  (Heap.size_update ..).trans (size_push' ..)
theorem twin_at (h : Heap) (vs : Array Value) : (twin h vs).get? (h.objs.size + 1) = some (seqObj "list" vs 0) := by
  have := Heap.get?_push_size ((h.push (seqObj "list" #[] 0)).update h.objs.size (.mapSeq (· ++ vs))) (o := seqObj "list" vs 0) rfl
  rwa [twin_size] at this
theorem twin_keep (h : Heap) (vs : Array Value) (b : Addr) (o : Obj) (e : h.get? b = some o) : (twin h vs).get? b = some o :=
  Heap.get?_push_of_some _ ((Heap.get?_update_ne _ _ _ _ (Nat.ne_of_lt (Heap.lt_size e))).trans (Heap.get?_push_of_some _ e))
theorem twin_run {P : Program} {w : World} {A : Around} {E : Value → Shared → Prop} {s : Shared} {l : Addr} {vs : List Value} {Q : PySem.Fin → Shared → Prop} {kw : List (Str × Value)} (hl : PlainL s.heap l vs.toArray) (hZ : vs.length ≤ sizeLine)
    (h : wpAny (model P w) A (do
      let _ ← holding [.ref (s.heap.objs.size + 1)] (call (.builtin "list.sort") [.ref (s.heap.objs.size + 1)] kw)
      ret (.ref (s.heap.objs.size + 1))) Q E { s with heap := twin s.heap vs.toArray }) : wpAny (model P w) A (Builtin.«sorted» ⟨[.ref l], kw⟩) Q E s := by
  rw [← twin_size s.heap vs.toArray] at h
  have z : vs.toArray.size ≤ sizeLine := by simpa using hZ
  exact wpAny_bind (m := checkCount "sorted" 1 1 [Value.ref l].length) (wpAny_pure (wpAny_bind (collect_list hl.isList (wpAny_bind (wpAny_newList h hZ)) z)))
/-- sorted(xs, key=f) -/
def rSortK (K : PySem.W.Frag) (p : Par) (m : List D → Out Ar) (fa : Addr) : List V → List V → Hp → VK → Prop := fun us zs H Q => ∃ (a : Addr) (S : Hp) (ds : List D) (xs : List V) (ks : List Int), us = [.ref a] ∧ zs = [.ref fa] ∧ SqL K H a xs ∧ Sub S H ∧ Reps p S ds xs ∧ keysD m ds = .ok ks ∧
  ∀ H' l, Sub H H' → H l = none → H' l = some (.lst ((ksort (ks.zip xs)).map (·.2))) → Q (.ref l) H'
theorem cr_sortK {m : List D → Out Ar} {fa : Addr} {fd : FuncData} {ps : List Str} {k : Nat} (F : FnOk X.prog X.w X.K X.mg X.base CX0 k fa fd ps (spD p 1 m)) (hr : Room (k + 2) X.A) (hb : Binds X.K fd ps []) : CallRK X (.builtin "sorted") ["key"] (rSortK X.K p m fa) := by
  intro pins s σ H us zs uv zv Q I r1 r2 h
  obtain ⟨a, S, ds, xs, ks, rfl, rfl, hsq, hS, rep, hm, q⟩ := h
  rw [Vals.ref1 r1, Vals.ref1 r2]
  obtain ⟨vs, rv, hl, hZ⟩ := I.list hsq
  have hlen := rv.length
  have hZ2 := hZ
  rw [sizeLine_eq] at hZ2
  show wpAny _ _ (call (.builtin "sorted") [.ref a] [(Str.ofString "key", .ref fa)]) _ _ _
  refine call_function_entry_kw kind_sorted plain_sorted entry_sorted (ksk_s1 _ _) ?_
  obtain ⟨h1, eh1⟩ : ∃ h1, h1 = twin s.heap vs.toArray := ⟨_, rfl⟩
  have hoL := twin_at s.heap vs.toArray
  have keep : ∀ b o, s.heap.get? b = some o → h1.get? b = some o := by
    rw [eh1]
    exact twin_keep s.heap vs.toArray
  rw [← eh1] at hoL
  refine twin_run hl (by omega) ?_
  rw [← eh1]
  have nD : H (s.heap.objs.size + 1) = none := I.hok.fresh (Nat.le_succ _)
  have I1 : Inv X pins σ (upd H (s.heap.objs.size + 1) (.lst xs)) { s with heap := h1, toks := s.toks } := I.laid keep (Nat.le_succ _) ⟨hZ, vs, 0, rv, hoL⟩
  refine wpAny_bind (wpAny_holding (wpAny_call_entry_kw slot_list_sort ⟨_, hoL, rfl⟩ entry_list_sort ?body (ksk_l1 _ _)))
  case body =>
    show wpAny (model X.prog X.w) X.A.in1.in1 (Builtin.«list.sort» ⟨[.ref (s.heap.objs.size + 1)], [(Str.ofString "key", .ref fa)]⟩) _ _ _
    rw [ksk_t1]
    obtain ⟨e1, ho1⟩ : ∃ e1, (h1.update (s.heap.objs.size + 1) (Obj.mapSeq fun _ => (#[] : Array Value))).get? (s.heap.objs.size + 1) = some (seqObj "list" #[] e1) := ⟨_, get?_update_seq hoL fun _ => #[]⟩
    have I2 := I1.lset (f := fun _ => (#[] : Array Value)) (its := vs) (its' := []) (ys := []) (t' := s.toks) upd_same hoL rfl .nil (Nat.zero_le _)
    unfold ksk_tree
    refine wpAny_bind (listItems_at hoL rfl ?_)
    refine wpAny_bind (listUpdate_at hoL rfl ?_ (by rw [List.size_toArray, sizeLine_eq]; omega) (Nat.zero_le _))
    refine wpAny_bind (seqEpoch_at ho1 rfl ?_)
    refine wpAny_bind (wpAny_newTuple ?_ (by show vs.length ≤ _; rw [sizeLine_eq]; omega))
    refine wpAny_bind (wpAny_newList ?_ (Nat.zero_le _))
    refine wpAny_holding ?_
    dsimp only
    have I3 := I2.kept (t' := s.toks) (h' := (h1.update (s.heap.objs.size + 1) (Obj.mapSeq fun _ => (#[] : Array Value))).push (seqObj "tuple" vs.toArray 0)) fun b u q => Heap.get?_push_of_some _ q
    have I4 := I3.lnew (its := []) (ys := []) (t' := s.toks) .nil (Nat.zero_le _)
    obtain ⟨kS, ekS⟩ : ∃ kS, kS = ((h1.update (s.heap.objs.size + 1) (Obj.mapSeq fun _ => (#[] : Array Value))).push (seqObj "tuple" vs.toArray 0)).objs.size := ⟨_, rfl⟩
    rw [← ekS] at I4 ⊢
    have hlt : s.heap.objs.size + 1 < h1.objs.size := Heap.lt_size hoL
    have ekS2 : kS = h1.objs.size + 1 := by rw [ekS, size_push', Heap.size_update]
    have hka : kS ≠ s.heap.objs.size + 1 := by omega
    have nK : H kS = none := I.hok.fresh (by omega)
    have ho4 : (((h1.update (s.heap.objs.size + 1) (Obj.mapSeq fun _ => (#[] : Array Value))).push (seqObj "tuple" vs.toArray 0)).push { cls := .type "list", data := .seq (([] : List Value)).toArray }).get? (s.heap.objs.size + 1) = some (seqObj "list" #[] e1) :=
      Heap.get?_push_of_some _ (Heap.get?_push_of_some _ ho1)
    have hD4 : (upd (upd (upd H (s.heap.objs.size + 1) (.lst xs)) (s.heap.objs.size + 1) (.lst [])) kS (.lst [])) (s.heap.objs.size + 1) = some (.lst []) := by rw [upd_ne hka.symm, upd_same]
    have nf := I4.nofrz hD4 trivial
    obtain ⟨od, I5⟩ := I4.lock hD4 trivial
    have eod : od = seqObj "list" #[] e1 := by
      have := (I5.hok _ _ upd_same).1
      rw [ho4] at this
      exact (Option.some.inj this).symm
    subst eod
    refine key_rest (H0 := H) (S := S) F hr hb I5 hS (fun b o q => ?_) rep rv hm hZ upd_same (by rw [upd_ne hka, upd_same]) hka nD nK nf fun H' s' I' h' ha' => ?_
    · have nb : b ≠ s.heap.objs.size + 1 := fun z => by rw [z, nD] at q; cases q
      have nk : b ≠ kS := fun z => by rw [z, nK] at q; cases q
      rw [upd_ne nb, upd_ne nk, upd_ne nb, upd_ne nb]
      exact q
    · refine ⟨_, rfl, ?_⟩
      exact wpAny_pure ⟨_, rfl, .ref (s.heap.objs.size + 1), H', I', rfl, q _ _ h' nD ha'⟩
end
end DS
/-! ## The check of expressions, and what it gives -/
namespace DS
open PySem PySem.Spec PyProof.Rows L2
/-- a class: its name, its fields in the order they are set, how many arguments it is made of, behind how many defs its __init__ stands -/
structure ClE where
  nm : Str
  fields : List Str
  ar : Nat
  lv : Nat
/-- the defs by name, with their parameters; which of them are methods; the classes; the texts and numbers of the module -/
structure Tab where
  fns : List (Str × List Str)
  kws : List (Nat × List Str × List Nat)
  keys : Nat
  room : Nat
  made : Nat
  mts : List (Nat × Nat × Str)
  cls : List ClE
  tx : List (Str × Str)
  nr : List (Str × Int)
def Tab.isM (T : Tab) (f : Nat) : Bool := T.mts.any fun q => q.1 == f
def IR.isTrue : IR → Bool
  | .bl true => true
  | _ => false
/-- where the code stands: the slots' names, the scope, the names that may be stored -/
structure CC where
  N : List Str
  sc : List (Str × NameKind)
  sto : List (Str × NameKind)
def dbg : Str := "__debug__"
def clsd : Str := "__classdict__"
def dnm : Str := "__name__"
def nmB (c : CC) (i : Nat) (x : Str) : Bool := decide (c.N[i]? = some x) && (match c.sc.lookup x with
  | some .local => true | some .cell => true | some .free => true | _ => false) && !(x == dbg) && !(x == clsd)
def stB (c : CC) (i : Nat) (x : Str) : Bool := decide (c.N[i]? = some x) && (match c.sto.lookup x with
  | some .local => true | some .cell => true | _ => false)
def glB (c : CC) (x : Str) : Bool := decide (c.sc.lookup x = some .globalImplicit) && !(x == dbg) && decide (x ≠ dnm)
def fnB (T : Tab) (f : Nat) (x : Str) : Bool := match T.fns[f]? with
  | some q => decide (q.1 = x) && !T.isM f
  | none => false
def mtB (T : Tab) (f c n : Nat) (m : Str) : Bool := (match T.fns[f]? with
  | some q => decide (q.2.length = n + 1)
  | none => false) && decide ((f, c, m) ∈ T.mts) && (match T.cls[c]? with
  | some e => !decide (m ∈ e.fields)
  | none => false)
def clB (T : Tab) (c : Nat) (x : Str) : Bool := match T.cls[c]? with
  | some e => decide (e.nm = x)
  | none => false
def mkB (T : Tab) (c n : Nat) : Bool := match T.cls[c]? with
  | some e => decide (e.ar = n) && decide (e.lv + 2 ≤ T.room) && decide (c < T.made)
  | none => false
def fdB (T : Tab) (c : Nat) (f : Str) : Bool := match T.cls[c]? with
  | some e => decide (f ∈ e.fields)
  | none => false
/-- no bare super() -/
def attB : Expr → Bool
  | .Call (.Name _ _) [] [] _ => false
  | _ => true
/-- the parts of an operation, in their order -/
def opShape (T : Tab) (c : CC) (n : Nat) : Op → Expr → Option (List Expr)
  | .fld k f, .Attribute a g _ => if f = g ∧ attB a = true ∧ fdB T k f = true then some [a] else none
  | .make k, .Call (.Name x _) as [] _ => if clB T k x = true ∧ glB c x = true ∧ mkB T k n = true ∧ as ≠ [] then some as else none
  | .meth k f, .Call (.Attribute o m apos) as [] pos => if mtB T f k as.length m = true ∧ attB o = true ∧ (apos.endLine == pos.line) = true ∧ as.length < 30 then some (o :: as) else none
  | .isC k, .Call (.Name x _) [a, .Name y _] [] _ => if x = "isinstance" ∧ glB c x = true ∧ clB T k y = true ∧ glB c y = true then some [a] else none
  | .bitlen, .Call (.Attribute o m apos) [] [] pos => if m = "bit_length" ∧ attB o = true ∧ (apos.endLine == pos.line) = true then some [o] else none
  | .upper, .Call (.Attribute o m apos) [] [] pos => if m = "upper" ∧ attB o = true ∧ (apos.endLine == pos.line) = true then some [o] else none
  | .index _, .Call (.Attribute o m apos) [a] [] pos => if m = "index" ∧ attB o = true ∧ (apos.endLine == pos.line) = true then some [o, a] else none
  | .sortS, .Call (.Name x _) [a] [] _ => if x = "sorted" ∧ glB c x = true then some [a] else none
  | .sortT, .Call (.Name x _) [a] [] _ => if x = "sorted" ∧ glB c x = true then some [a] else none
  | _, _ => none
def arB (T : Tab) (f n : Nat) : Bool := match T.fns[f]? with
  | some q => decide (n = q.2.length)
  | none => false
def notStar : Expr → Bool
  | .Starred _ _ => false
  | _ => true
def notSlice : Expr → Bool
  | .Slice _ _ _ _ => false
  | _ => true
def plainT : Expr → Bool
  | .UnaryOp .Not _ _ => false
  | .BoolOp _ _ _ => false
  | .IfExp _ _ _ _ => false
  | .Compare _ _ _ _ => false
  | _ => true
def bltNames : List Str := ["len", "int", "tuple", "list", "sorted", "sum", "max", "min", "abs", "any", "all", "isinstance", "range", "enumerate", "zip", "bool", "str"]
def tyTab : List (String × Str) := [("int", "int"), ("bool", "bool"), ("str", "str"), ("tuple", "tuple"), ("list", "list")]
def blkCC (c : CC) (scope : Scope) : CC := ⟨c.N, (relS scope { kind := .function, names := c.sc, isGenerator := false, isCoroutine := false }).names, scope.names⟩
def ownP (c : CC) (own : List Nat) : List (Str × Nat) := own.map fun i => (c.N.getD i dbg, i)
def itArgs (c : CC) (k : ItK) (tg iter : Expr) : Option (List Expr) :=
  match k with
  | .seq => some [iter]
  | .range1 => (match iter with
    | .Call (.Name x _) [a] [] _ => if glB c x && decide (x = "range") then some [a] else none
    | _ => none)
  | .range2 => (match iter with
    | .Call (.Name x _) [a, b] [] _ => if glB c x && decide (x = "range") then some [a, b] else none
    | _ => none)
  | .enum => (match tg with
    | .Tuple _ _ _ => (match iter with
      | .Call (.Name x _) [a] [] _ => if glB c x && decide (x = "enumerate") then some [a] else none
      | _ => none)
    | _ => none)
  | .zip => none
  | .chars => some [iter]
def okNs (c : CC) : List Nat → List Expr → Bool
  | [], [] => true
  | i :: is, .Name x _ :: es => stB c i x && okNs c is es
  | _, _ => false
def okTg (c : CC) (t : Tg) (e : Expr) : Bool :=
  match t with
  | .nm i => (match e with
    | .Name x _ => stB c i x
    | _ => false)
  | .tp is => (match e with
    | .Tuple es _ _ => okNs c is es
    | _ => false)
def kwNames : List Keyword → Option (List Str)
  | [] => some []
  | ⟨some n, _, _⟩ :: r => (kwNames r).map (n :: ·)
  | _ => none
def kwVals : List Keyword → List Expr
  | [] => []
  | ⟨_, v, _⟩ :: r => v :: kwVals r
mutual
def okE (T : Tab) (c : CC) : IR → Expr → Bool
  | .slot i, e => (match e with
    | .Name x _ => nmB c i x
    | _ => false)
  | .move i, e => (match e with
    | .Name x _ => nmB c i x
    | _ => false)
  | .bor i, e => (match e with
    | .Name x _ => nmB c i x
    | _ => false)
  | .int n, e => (match e with
    | .Constant (.int m) _ _ => decide (n = m)
    | .Name x _ => glB c x && decide ((x, n) ∈ T.nr)
    | _ => false)
  | .bl b, e => (match e with
    | .Constant (.bool b') _ _ => b == b'
    | _ => false)
  | .non, e => (match e with
    | .Constant .none _ _ => true
    | _ => false)
  | .str s, e => (match e with
    | .Constant (.str t) _ _ => decide (s = t)
    | .Name x _ => glB c x && decide ((x, s) ∈ T.tx)
    | _ => false)
  | .bin o a b, e => (match e with
    | .BinOp l o' r _ => decide (o = o') && okE T c a l && okE T c b r
    | _ => false)
  | .un o a, e => (match e with
    | .UnaryOp o' x _ => decide (o = o') && okE T c a x
    | _ => false)
  | .cmp o a b, e => (match e with
    | .Compare l [o'] [r] _ => decide (o = o') && okE T c a l && okE T c b r && !behindInMarks o' r
    | _ => false)
  | .chain o o2 a b d, e => (match e with
    | .Compare l [o', o2'] [r, r2] _ => decide (o = o') && decide (o2 = o2') && okE T c a l && okE T c b r && okE T c d r2 && !lastMarks [o', o2'] [r, r2]
    | _ => false)
  | .andE es, e => (match e with
    | .BoolOp .And vs _ => okEs T c es vs && !vs.isEmpty
    | _ => false)
  | .orE es, e => (match e with
    | .BoolOp .Or vs _ => okEs T c es vs && !vs.isEmpty
    | _ => false)
  | .notE a, e => (match e with
    | .UnaryOp .Not x _ => okE T c a x
    | _ => false)
  | .ife t a b, e => (match e with
    | .IfExp te be oe _ => okT T c t te && okE T c a be && okE T c b oe
    | _ => false)
  | .tup es, e => (match e with
    | .Tuple vs _ _ => okEs T c es vs
    | _ => false)
  | .lst es, e => (match e with
    | .List vs _ => okEs T c es vs
    | _ => false)
  | .ix a i, e => (match e with
    | .Subscript v s _ => okE T c a v && okE T c i s && notSlice s
    | _ => false)
  | .slice a lo hi, e => (match e with
    | .Subscript v (.Slice l h none _) _ => okE T c a v && (match l with
      | none => lo.isNon
      | some x => okE T c lo x && !lo.isNon) && (match h with
      | none => hi.isNon
      | some x => okE T c hi x && !hi.isNon)
    | _ => false)
  | .call f es, e => (match e with
    | .Call (.Name x _) as [] _ => fnB T f x && glB c x && okEs T c es as && arB T f es.len
    | _ => false)
  | .callK f perm es, e => (match e with
    | .Call (.Name x _) [] kws _ => fnB T f x && glB c x && okEs T c es (kwVals kws) && !kws.isEmpty && (match kwNames kws with
      | some ks => decide ((f, ks, perm) ∈ T.kws)
      | none => false)
    | _ => false)
  | .blt b es, e => (match e with
    | .Call (.Name x _) as [] _ => (match b with
      | .isi (.ty n) => (match as with
        | [_, .Name t _] => decide (x = "isinstance") && glB c x && glB c t && decide ((n, t) ∈ tyTab) && okEs T c es (as.take 1)
        | _ => false)
      | .isi (.own _) => false
      | b => decide (x = bltNm b) && glB c x && okEs T c es as && !as.isEmpty)
    | _ => false)
  | .sortRev a, e => (match e with
    | .Call (.Name x _) [v] [⟨some n, .Constant (.bool true) _ _, _⟩] _ => decide (x = "sorted") && glB c x && decide (n = "reverse") && okE T c a v && notStar v
    | _ => false)
  | .comp t own k es ifs a, e => (match e with
    | .ListComp elt [⟨tg, iter, cs, 0⟩] scope _ => (match itArgs c k tg iter with
      | some as => okEs T c es as
      | none => false) && okTg (blkCC c scope) t tg && t.slots.all (fun i => decide (i ∈ own)) && blkC c.N { kind := .function, names := c.sc, isGenerator := false, isCoroutine := false } scope (ownP c own) && (match cs with
      | [] => ifs.isTrue
      | [q] => okT T (blkCC c scope) ifs q
      | _ => false) && okE T (blkCC c scope) a elt
    | _ => false)
  | .cmpT _ _ _, _ => false
  | .chainT _ _ _ _ _, _ => false
  | .inDicT _ _ _, _ => false
  | .tru _, _ => false
  | .andT _, _ => false
  | .orT _, _ => false
  | .notT _, _ => false
  | .sortKey f a, e => (match e with
    | .Call (.Name x _) [v] [⟨some n, .Name fx _, _⟩] _ => decide (x = "sorted") && glB c x && decide (n = "key") && okE T c a v && notStar v && fnB T f fx && glB c fx && arB T f 1 && decide (f < T.keys)
    | _ => false)
  | .inDic neg a i, e => (match e with
    | .Compare l [o] [.Name x _] _ => decide (o = if neg then .NotIn else .In) && okE T c a l && nmB c i x
    | _ => false)
  | .getDic _ _, _ => false
  | .selfF i k f, e => (match e with
    | .Attribute (.Name x _) g _ => decide (f = g) && nmB c i x && fdB T k f
    | _ => false)
  | .listDic i, e => (match e with
    | .Call (.Name x _) [.Name d _] [] _ => decide (x = "list") && glB c x && nmB c i d
    | _ => false)
  | .op o es, e => (match opShape T c es.len o e with
    | some as => okEs T c es as
    | none => false)
def okEs (T : Tab) (c : CC) : IRs → List Expr → Bool
  | .nil, as => as.isEmpty
  | .cons a es, as => (match as with
    | e :: as => okE T c a e && notStar e && okEs T c es as
    | [] => false)
def okT (T : Tab) (c : CC) : IR → Expr → Bool
  | .tru a, e => plainT e && okE T c a e
  | .cmpT o a b, e => (match e with
    | .Compare l [o'] [r] _ => decide (o = o') && okE T c a l && okE T c b r && !behindInMarks o' r
    | _ => false)
  | .chainT o o2 a b d, e => (match e with
    | .Compare l [o', o2'] [r, r2] _ => decide (o = o') && decide (o2 = o2') && okE T c a l && okE T c b r && okE T c d r2 && !lastMarks [o', o2'] [r, r2]
    | _ => false)
  | .andT es, e => (match e with
    | .BoolOp .And vs _ => okTs T c es vs
    | _ => false)
  | .orT es, e => (match e with
    | .BoolOp .Or vs _ => okTs T c es vs
    | _ => false)
  | .notT a, e => (match e with
    | .UnaryOp .Not x _ => okT T c a x
    | _ => false)
  | .inDicT neg a i, e => (match e with
    | .Compare l [o] [.Name x _] _ => decide (o = if neg then .NotIn else .In) && okE T c a l && nmB c i x
    | _ => false)
  | _, _ => false
def okTs (T : Tab) (c : CC) : IRs → List Expr → Bool
  | .nil, _ => false
  | .cons a es, as => (match as with
    | [] => false
    | e :: as => okT T c a e && (match es with
      | .nil => as.isEmpty
      | .cons _ _ => okTs T c es as))
end
end DS
namespace DS
open PySem PySem.Spec PyProof.Rows L2
def gPerm (ks : List Str) (n : Nat) (perm : List Nat) : List Value → List Value → List Value := fun us ws => if us = [] ∧ ws.length = ks.length then perm.map (fun j => ws.getD j .none) else List.replicate (n + 1) .none
def gPermV (ks : List Str) (n : Nat) (perm : List Nat) : List V → List V → List V := fun us ws => if us = [] ∧ ws.length = ks.length then perm.map (fun j => ws.getD j .non) else List.replicate (n + 1) .non
structure FnSome (p : Par) (C : Cxt) (T : Tab) (X : Cx) (f : Nat) (nm : Str) (ps : List Str) : Prop where
  ex : ∃ (k : Nat) (a : Addr) (fd : FuncData), FnOk X.prog X.w X.K X.mg X.base CX0 k a fd ps (spD p ps.length (C.fn f)) ∧ Room k X.A ∧ (T.isM f = false → X.mg nm = some (.ref a)) ∧ PySem.W.keepIn X.K (.ref a) = true ∧ Binds X.K fd ps [] ∧
    ∀ c m, (f, c, m) ∈ T.mts → Meth X.K (p.cl c) m a
structure KwSome (p : Par) (C : Cxt) (T : Tab) (X : Cx) (f : Nat) (nm : Str) (ps ks : List Str) (perm : List Nat) : Prop where
  ex : ∃ (k : Nat) (a : Addr) (fd : FuncData), FnOk X.prog X.w X.K X.mg X.base CX0 k a fd ps (spD p ps.length (C.fn f)) ∧ Room k X.A ∧ (T.isM f = false → X.mg nm = some (.ref a)) ∧ PySem.W.keepIn X.K (.ref a) = true ∧ KBinds X.K fd ps ks (gPerm ks ps.length perm) (gPermV ks ps.length perm)
  len : perm.length = ps.length
structure KeySome (p : Par) (C : Cxt) (T : Tab) (X : Cx) (f : Nat) (nm : Str) (ps : List Str) : Prop where
  ex : ∃ (k : Nat) (a : Addr) (fd : FuncData), FnOk X.prog X.w X.K X.mg X.base CX0 k a fd ps (spD p ps.length (C.fn f)) ∧ Room (k + 2) X.A ∧ (T.isM f = false → X.mg nm = some (.ref a)) ∧ PySem.W.keepIn X.K (.ref a) = true ∧ Binds X.K fd ps []
/-- what isinstance says of a class of the text -/
structure IsiC (K : PySem.W.Frag) (C : Addr) : Prop where
  own : PySem.W.kitOne K (.ref C) (.ref C) = some true
  non : PySem.W.kitOne K (.type "NoneType") (.ref C) = some false
  bl : PySem.W.kitOne K (.type "bool") (.ref C) = some false
  int : PySem.W.kitOne K (.type "int") (.ref C) = some false
  str : PySem.W.kitOne K (.type "str") (.ref C) = some false
  tup : PySem.W.kitOne K (.type "tuple") (.ref C) = some false
  lst : PySem.W.kitOne K (.type "list") (.ref C) = some false
  cl : PySem.W.findIn K (.ref C) "__class__" = some (some (.builtin "object.__class__"))
  get : PySem.W.specialIn K (.builtin "object.__class__") "__get__" = some (some (.builtin "getset_descriptor.__get__"))
  tk : PySem.W.takesIn K (.builtin "object.__class__") = some true
  mro : PySem.W.mroIn K C (.type "object") = some true
/-- a class of the text -/
structure ClG (K : PySem.W.Frag) (mg : Str → Option Value) (p : Par) (k : Nat) (e : ClE) : Prop where
  fields : p.fields k = e.fields
  nd : e.fields.Nodup
  few : e.fields.length < 1000
  mg : mg e.nm = some (.ref (p.cl k))
  cls : Cls K (p.cl k)
  no : ∀ f ∈ e.fields, NoAttr K (p.cl k) f
  isi : IsiC K (p.cl k)
structure ClSome (p : Par) (C : Cxt) (T : Tab) (X : Cx) (k : Nat) (e : ClE) : Prop where
  g : ClG X.K X.mg p k e
  ex : k < T.made → ∃ (lv : Nat) (a : Addr) (fd : FuncData) (ps : List Str), FnOk X.prog X.w X.K X.mg X.base CX0 lv a fd ps (spI p k e.ar (C.make k)) ∧ Binds X.K fd ps [] ∧ Mk X.K (p.cl k) a ∧ lv = e.lv + 1
structure XOk (p : Par) (C : Cxt) (T : Tab) (X : Cx) (c : CC) : Prop where
  K : X.K = p.K
  calm : X.calm = true
  N : X.N = c.N
  nd : c.N.Nodup
  kind : X.env.scope.kind = .function
  sc : X.env.scope.names = c.sc
  sto : ∀ x : Str, c.sto.lookup x = some .local ∨ c.sto.lookup x = some .cell → Loc X.env.scope x ∧ (X.fn x = true ∨ X.env.scope.names.lookup x = some .local)
  blt : ∀ x ∈ bltNames, X.mg x = none
  units : X.A.units + 64 < cLine
  pass : PassesOwn (model X.prog X.w) X.A X.env X.xe
  fns : ∀ (f : Nat) (nm : Str) (ps : List Str), T.fns[f]? = some (nm, ps) → FnSome p C T X f nm ps
  srt : ∀ (f : Nat) (nm : Str) (ps : List Str), f < T.keys → T.fns[f]? = some (nm, ps) → KeySome p C T X f nm ps
  kws : ∀ (f : Nat) (ks : List Str) (perm : List Nat) (nm : Str) (ps : List Str), (f, ks, perm) ∈ T.kws → T.fns[f]? = some (nm, ps) → KwSome p C T X f nm ps ks perm
  flds : C.fields = p.fields
  room : ∀ lv, lv + 2 ≤ T.room → Room (lv + 2) X.A
  cls : ∀ (k : Nat) (e : ClE), T.cls[k]? = some e → ClSome p C T X k e
  tx : ∀ (x s : Str), (x, s) ∈ T.tx → ∃ t, X.mg x = some (.str s t)
  nr : ∀ (x : Str) (i : Int), (x, i) ∈ T.nr → ∃ t, X.mg x = some (.int i t)
section
variable {p : Par} {C : Cxt} {T : Tab} {X : Cx} {c : CC} {y : Dy}
theorem XOk.vis (hX : XOk p C T X c) {i : Nat} {x : Str} (h : nmB c i x = true) : X.N[i]? = some x ∧ Vis X.env.scope x ∧ (x == dbg) = false ∧ (x == clsd) = false := by
  unfold nmB at h
  simp only [Bool.and_eq_true, decide_eq_true_eq, Bool.not_eq_true'] at h
  obtain ⟨⟨⟨h1, h2⟩, h3⟩, h4⟩ := h
  refine ⟨by rw [hX.N]; exact h1, ?_, h3, h4⟩
  unfold Vis
  rw [hX.sc]
  split at h2
  · exact .inl (by assumption)
  · exact .inr (.inl (by assumption))
  · exact .inr (.inr (by assumption))
  · cases h2
theorem XOk.st (hX : XOk p C T X c) {i : Nat} {x : Str} (h : stB c i x = true) : X.N[i]? = some x ∧ Loc X.env.scope x ∧ (X.fn x = true ∨ X.env.scope.names.lookup x = some .local) := by
  unfold stB at h
  simp only [Bool.and_eq_true, decide_eq_true_eq] at h
  obtain ⟨h1, h2⟩ := h
  refine ⟨by rw [hX.N]; exact h1, ?_⟩
  refine hX.sto x ?_
  split at h2
  · exact .inl (by assumption)
  · exact .inr (by assumption)
  · cases h2
theorem XOk.gl (hX : XOk p C T X c) {x : Str} (h : glB c x = true) : Gl X x ∧ (x == dbg) = false ∧ x ≠ dnm := by
  unfold glB at h
  simp only [Bool.and_eq_true, decide_eq_true_eq, Bool.not_eq_true'] at h
  obtain ⟨⟨h1, h2⟩, h3⟩ := h
  refine ⟨?_, h2, h3⟩
  show X.env.scope.names.lookup x = _
  rw [hX.sc]
  exact h1
theorem XOk.fn (hX : XOk p C T X c) {f : Nat} {x : Str} (h : fnB T f x = true) : ∃ ps, T.fns[f]? = some (x, ps) ∧ FnSome p C T X f x ps ∧ T.isM f = false := by
  unfold fnB at h
  split at h
  · rename_i q hq
    simp only [Bool.and_eq_true, decide_eq_true_eq, Bool.not_eq_true'] at h
    obtain ⟨e, hm⟩ := h
    obtain ⟨n, ps⟩ := q
    cases e
    exact ⟨ps, hq, hX.fns f _ ps hq, hm⟩
  · cases h
theorem FnSome.blk {f : Nat} {nm : Str} {ps : List Str} (h : FnSome p C T X f nm ps) (s : Shared) (H : Hp) (scope : Scope) (cenv : Env) (fp : List Addr) : FnSome p C T (X.blk s H scope cenv fp) f nm ps := ⟨h.ex⟩
theorem KeySome.blk {f : Nat} {nm : Str} {ps : List Str} (h : KeySome p C T X f nm ps) (s : Shared) (H : Hp) (scope : Scope) (cenv : Env) (fp : List Addr) : KeySome p C T (X.blk s H scope cenv fp) f nm ps := ⟨h.ex⟩
theorem KwSome.blk {f : Nat} {nm : Str} {ps ks : List Str} {perm : List Nat} (h : KwSome p C T X f nm ps ks perm) (s : Shared) (H : Hp) (scope : Scope) (cenv : Env) (fp : List Addr) : KwSome p C T (X.blk s H scope cenv fp) f nm ps ks perm := ⟨h.ex, h.len⟩
theorem ClSome.blk {k : Nat} {e : ClE} (h : ClSome p C T X k e) (s : Shared) (H : Hp) (scope : Scope) (cenv : Env) (fp : List Addr) : ClSome p C T (X.blk s H scope cenv fp) k e := ⟨h.g, h.ex⟩
theorem XOk.cl (hX : XOk p C T X c) {k : Nat} {x : Str} (h : clB T k x = true) : ∃ e, T.cls[k]? = some e ∧ e.nm = x ∧ ClSome p C T X k e := by
  unfold clB at h
  split at h
  · rename_i e he
    exact ⟨e, he, of_decide_eq_true h, hX.cls k e he⟩
  · cases h
theorem XOk.blk (hX : XOk p C T X c) {scope : Scope} (hk : scope.kind = .function) (s : Shared) (H : Hp) (D : Addr) (cl : List (Str × Addr)) (fp : List Addr) : XOk p C T (X.blk s H scope (compEnvC scope cl D X.env) fp) (blkCC c scope) where
  K := hX.K
  calm := hX.calm
  N := hX.N
  nd := hX.nd
  kind := hk
  sc := by
    show (relS scope X.env.scope).names = _
    unfold blkCC relS
    dsimp only
    rw [hX.kind, hX.sc]
  sto := fun x h => by
    have h : scope.names.lookup x = some .local ∨ scope.names.lookup x = some .cell := h
    have e : (relS scope X.env.scope).names.lookup x = some .local ∨ (relS scope X.env.scope).names.lookup x = some .cell := by
      rcases h with h | h
      · exact .inl (lookup_relS_keep (by decide) h)
      · exact .inr (lookup_relS_keep (by decide) h)
    refine ⟨e, ?_⟩
    rcases h with h | h
    · exact .inr (lookup_relS_keep (by decide) h)
    · refine .inl ?_
      show (scope.names.lookup x == some NameKind.cell) = true
      rw [h]
      rfl
  blt := hX.blt
  units := hX.units
  pass := PassesOwn.never
  fns := fun f nm ps h => (hX.fns f nm ps h).blk ..
  srt := fun f nm ps h0 h => (hX.srt f nm ps h0 h).blk ..
  kws := fun f ks perm nm ps h1 h2 => (hX.kws f ks perm nm ps h1 h2).blk ..
  flds := hX.flds
  room := hX.room
  cls := fun k e h => (hX.cls k e h).blk ..
  tx := hX.tx
  nr := hX.nr

/-! ### shapes of the syntax -/
theorem star_cons {e : Expr} {es : List Expr} {env : Env} (h : notStar e = true) : starEach (e :: es) env = (false, eval e env) :: starEach es env := by
  cases e <;> first | rfl | cases h
theorem star_any {pos : Pos} {env : Env} : ∀ {es : List Expr}, es.all notStar = true → (backTo pos (starEach es env)).any (·.1) = false
  | [], _ => rfl
  | e :: es, h => by
    rw [List.all_cons, Bool.and_eq_true] at h
    rw [star_cons h.1]
    show (false || (backTo pos (starEach es env)).any (·.1)) = false
    rw [star_any h.2]
    rfl
theorem plain_ix {b : Expr} (h : notSlice b = true) : PlainIx b := by
  intro o i
  cases b <;> first | rfl | cases h
theorem plain_test {e : Expr} (h : plainT e = true) (env : Env) (whole : Sem Value) : isTrue e env whole = (do let v ← whole; standAt e.pos; holding [v] (truthy v)) := by
  cases e with
  | UnaryOp o x pos => cases o <;> first | rfl | cases h
  | BoolOp _ _ _ => cases h
  | IfExp _ _ _ _ => cases h
  | Compare _ _ _ _ => cases h
  | _ => rfl
theorem okEs_star : ∀ {es : IRs} {as : List Expr}, okEs T c es as = true → as.all notStar = true
  | .nil, [], _ => rfl
  | .nil, _ :: _, h => by simp [okEs] at h
  | .cons _ _, [], h => by simp [okEs] at h
  | .cons a es, e :: as, h => by
    simp only [okEs, Bool.and_eq_true] at h
    rw [List.all_cons, h.1.2, okEs_star h.2]
    rfl
theorem boot_blt : ∀ b : Blt, bootBuiltins (bltNm b) = some (bltVal b) := by
  intro b
  cases b with
  | isi T =>
    show bootBuiltins ("isinstance" : Str) = some (.builtin "isinstance")
    decide +kernel
  | _ => decide +kernel
theorem blt_in : ∀ b : Blt, bltNm b ∈ bltNames := by
  intro b
  cases b with
  | isi T =>
    show ("isinstance" : Str) ∈ bltNames
    decide +kernel
  | _ => decide +kernel
theorem ty_boot {n : String} {t : Str} (h : (n, t) ∈ tyTab) : bootBuiltins t = some (.type n) ∧ t ∈ bltNames := by
  unfold tyTab at h
  simp only [List.mem_cons, Prod.mk.injEq, List.not_mem_nil, or_false] at h
  rcases h with ⟨h1, h2⟩ | ⟨h1, h2⟩ | ⟨h1, h2⟩ | ⟨h1, h2⟩ | ⟨h1, h2⟩ <;> (subst h1 h2; exact ⟨by decide +kernel, by decide +kernel⟩)
end
end DS
/-! ## Each form of an expression -/
namespace DS
open PySem PySem.Spec PyProof.Rows L2
section
variable {p : Par} {C : Cxt} {T : Tab} {X : Cx} {c : CC} {y : Dy}
theorem FinQ.seal {σ : L2.St} {S H : Hp} {Q : VK} {r : Ar} {ρ : En} (h : FinQ p y σ S H Q (r, ρ)) : FinQ p y σ S H Q (r, ρ) := h

theorem n_const {e : Expr} {ir : IR} {d : D} {v : V} (he : PE X e (tC v)) (hv : ∀ ρ, ev C ir ρ = .ok (.v d, ρ)) (hr : ∀ S, Rep p S d v) : PE X e (rdE p C y ir) := PE.mono he fun σ H Q ⟨S, ρ, st, q⟩ => by
  have q : Res (ev C ir ρ) (FinQ p y σ S H Q) := q
  rw [hv] at q
  exact FinQ.val q st (hr S)
theorem n_slot {i : Nat} {e : Expr} (he : PE X e (tVar i)) : PE X e (rdE p C y (.slot i)) := PE.mono he fun σ H Q ⟨S, ρ, st, q⟩ => by
  have q : Res (ev C (.slot i) ρ) (FinQ p y σ S H Q) := q
  simp only [ev] at q
  split at q
  · rename_i d hd
    obtain ⟨v, e1, r⟩ := st.sl i _ hd
    exact ⟨v, e1, FinQ.val q st r⟩
  · rename_i ds hd
    obtain ⟨l, vs, e1, h1, h2, h3, r⟩ := (show SlOk p y S H i σ[i]? (.own ds) from st.sl i _ hd)
    have st1 := st.dropSlot i
    have fr : Free σ (ρ.set i .un) l := fun j s hj ho z => by
      by_cases w : i = j
      · subst w
        rw [List.getElem?_set_self (st.lt hd)] at hj
        cases hj
        cases ho
      · rw [List.getElem?_set_ne w] at hj
        exact w (st.sep i j _ s l hd hj rfl ho e1 z)
    obtain ⟨st2, hs⟩ := st1.sealF h1 h2 h3 fr
    have rr : Rep p (upd S l (.lst vs)) (.lst ds) (.ref l) := ⟨l, vs, rfl, .inl upd_same, Reps.sub hs _ _ r⟩
    have st3 := st2.retell (i := i) (s := .val (.lst ds)) (fun _ => ⟨_, e1, rr⟩) fun z => nomatch z
    rw [List.set_set] at st3
    exact ⟨_, e1, (q : FinQ p y σ S H Q _) _ H _ st3 hs (Sub.refl _) rr⟩
  · exact q.elim
theorem n_move {i : Nat} {e : Expr} (he : PE X e (tVar i)) : PE X e (rdE p C y (.move i)) := PE.mono he fun σ H Q ⟨S, ρ, st, q⟩ => by
  have q : Res (ev C (.move i) ρ) (FinQ p y σ S H Q) := q
  simp only [ev] at q
  split at q
  · rename_i d hd
    obtain ⟨v, e1, r⟩ := st.sl i _ hd
    exact ⟨v, e1, FinQ.val q st r⟩
  · rename_i ds hd
    obtain ⟨l, vs, e1, h1, h2, h3, r⟩ := (show SlOk p y S H i σ[i]? (.own ds) from st.sl i _ hd)
    have st1 := st.dropSlot i
    have fr : Free σ (ρ.set i .un) l := fun j s hj ho z => by
      by_cases w : i = j
      · subst w
        rw [List.getElem?_set_self (st.lt hd)] at hj
        cases hj
        cases ho
      · rw [List.getElem?_set_ne w] at hj
        exact w (st.sep i j _ s l hd hj rfl ho e1 z)
    exact ⟨_, e1, (q : FinQ p y σ S H Q _) _ H _ st1 (Sub.refl _) (Sub.refl _) ⟨l, vs, rfl, h1, h2, h3, r, fr⟩⟩
  · exact q.elim
theorem n_bor {i : Nat} {e : Expr} (he : PE X e (tVar i)) : PE X e (rdE p C y (.bor i)) := PE.mono he fun σ H Q ⟨S, ρ, st, q⟩ => by
  have q : Res (ev C (.bor i) ρ) (FinQ p y σ S H Q) := q
  simp only [ev] at q
  split at q
  · rename_i d hd
    obtain ⟨v, e1, r⟩ := st.sl i _ hd
    exact ⟨v, e1, FinQ.val q st r⟩
  · rename_i ds hd
    obtain ⟨l, vs, e1, h1, h2, h3, r⟩ := (show SlOk p y S H i σ[i]? (.own ds) from st.sl i _ hd)
    exact ⟨_, e1, (q : FinQ p y σ S H Q _) _ H S st (Sub.refl _) (Sub.refl _) ⟨l, vs, rfl, e1, h1, r⟩⟩
  · rename_i ds hd
    obtain ⟨l, vs, e1, _, h1, h2, r⟩ := (show SlOk p y S H i σ[i]? (.lock ds) from st.sl i _ hd)
    exact ⟨_, e1, (q : FinQ p y σ S H Q _) _ H S st (Sub.refl _) (Sub.refl _) ⟨l, vs, rfl, e1, st.same _ _ h1, r⟩⟩
  · exact q.elim
theorem n_bin (hK : X.K = p.K) {o : Operator} {a b : IR} {l r : Expr} {pos : Pos} (ha : PE X l (rdQ p C y a)) (hb : PE X r (rdQ p C y b)) : PE X (.BinOp l o r pos) (rdE p C y (.bin o a b)) :=
  PE.mono (pe_op (op_bin o) ha hb) fun σ H Q ⟨S, ρ, st, q⟩ => by
  refine two_rd (k := fun x z => (binD o x.view z.1.view).bnd fun r => .ok (r, z.2)) st q fun r1 r2 ρ2 v w H2 S2 q2 st2 hS hH ra rb _ _ => ?_
  obtain ⟨r, e1, q3⟩ := Res.bnd q2
  rw [hK]
  exact bin_fin e1 st2 ra rb (FinQ.sub (q3 : FinQ p y σ S H Q _) hS hH)
theorem n_un {o : UnaryOp} {a : IR} {l : Expr} {pos : Pos} (ha : PE X l (rdQ p C y a)) : PE X (.UnaryOp o l pos) (rdE p C y (.un o a)) :=
  PE.mono (pe_un (op_un o) ha) fun σ H Q ⟨S, ρ, st, q⟩ => by
  refine one_rd (k := fun x => (unD o x.1.view).bnd fun r => .ok (r, x.2)) st q fun r1 ρ1 v H1 S1 q1 st1 hS hH _ ra => ?_
  obtain ⟨r, e1, q3⟩ := Res.bnd q1
  exact un_fin e1 st1 (ra.viewV st1) (FinQ.sub (q3 : FinQ p y σ S H Q _) hS hH)
theorem n_cmp (hX : XOk p C T X c) {o : CmpOp} {a b : IR} {l r : Expr} {pos : Pos} (hm : behindInMarks o r = false) (ha : PE X l (rdQ p C y a)) (hb : PE X r (rdQ p C y b)) : PE X (.Compare l [o] [r] pos) (rdE p C y (.cmp o a b)) :=
  PE.mono (pe_cmpR (op_cmp hX.units o) ha hb hm) fun σ H Q ⟨S, ρ, st, q⟩ => by
  refine two_rd (k := fun x z => (ob (cmpD o x.view z.1.view)).bnd fun r => Out.ok (Ar.v (.bl r), z.2)) st q fun r1 r2 ρ2 v w H2 S2 q2 st2 hS hH ra rb _ _ => ?_
  obtain ⟨r, e1, q3⟩ := Res.bnd q2
  rw [hX.K]
  exact cmp_fin (ob_ok e1) st2.sub ra rb (FinQ.val (FinQ.sub (q3 : FinQ p y σ S H Q _) hS hH) st2 rfl)
theorem t_cmp (hX : XOk p C T X c) {o : CmpOp} {a b : IR} {l r : Expr} {pos : Pos} (hm : behindInMarks o r = false) (ha : PE X l (rdQ p C y a)) (hb : PE X r (rdQ p C y b)) : PT X (.Compare l [o] [r] pos) (rdT p C y (.cmpT o a b)) :=
  PT.mono (pt_cmpR (op_cmp hX.units o) ha hb hm) fun σ H Q ⟨S, ρ, st, q⟩ => by
  refine two_rd (k := fun x z => (ob (cmpD o x.view z.1.view)).bnd fun r => Out.ok (Ar.v (.bl r), z.2)) st q fun r1 r2 ρ2 v w H2 S2 q2 st2 hS hH ra rb _ _ => ?_
  obtain ⟨r, e1, q3⟩ := Res.bnd q2
  rw [hX.K]
  obtain ⟨b, e3, k⟩ := (show ∃ b, Ar.v (.bl r) = .v (.bl b) ∧ ∀ H' S', Stt p y S' σ H' ρ2 → Sub S S' → Sub H H' → Q b H' from q3)
  cases e3
  exact cmp_fin (ob_ok e1) st2.sub ra rb ⟨r, rfl, k H2 S2 st2 hS hH⟩
/-- a chain of two -/
theorem chain_in (hX : XOk p C T X c) {o o2 : CmpOp} {a b d : IR} {σ : L2.St} {H : Hp} {ρ : En} {S : Hp} {Q : VK} {F : Ar × En → Prop} (st : Stt p y S σ H ρ)
    (q : Res ((sq (ev C a ρ)).bnd fun x => (sq (ev C b x.2)).bnd fun z => (ob (cmpD o x.1.view z.1.view)).bnd fun r => if r = true then (sq (ev C d z.2)).bnd fun u => (ob (cmpD o2 z.1.view u.1.view)).bnd fun r' => .ok (.v (.bl r'), u.2) else .ok (.v (.bl false), z.2)) F)
    (hF : ∀ b ρ' H' S', F (.v (.bl b), ρ') → Stt p y S' σ H' ρ' → Sub S S' → Sub H H' → Q (.bl b) H') :
    tChain (rCmp X.K o) (rCmp X.K o2) (rdQ p C y a) (rdQ p C y b) (rdQ p C y d) σ H Q := by
  refine two_rd (k := fun x z => (ob (cmpD o x.view z.1.view)).bnd fun r => if r = true then (sq (ev C d z.2)).bnd fun u => (ob (cmpD o2 z.1.view u.1.view)).bnd fun r' => Out.ok (Ar.v (.bl r'), u.2) else .ok (.v (.bl false), z.2)) st q fun r1 r2 ρ2 v w H2 S2 q2 st2 hS hH ra rb _ rb' => ?_
  obtain ⟨r, e1, q3⟩ := Res.bnd q2
  rw [hX.K]
  refine cmp_fin (ob_ok e1) st2.sub ra rb ⟨r, rfl, ?_⟩
  cases r with
  | false =>
    rw [if_neg Bool.false_ne_true]
    exact hF false ρ2 H2 S2 q3 st2 hS hH
  | true =>
    rw [if_pos rfl]
    have q3 : Res ((sq (ev C d ρ2)).bnd fun u => (ob (cmpD o2 r2.view u.1.view)).bnd fun r' => Out.ok (Ar.v (.bl r'), u.2)) F := q3
    refine one_rd st2 q3 fun r3 ρ3 u H3 S3 q4 st3 hS3 hH3 _ rc => ?_
    obtain ⟨r', e5, q5⟩ := Res.bnd q4
    exact cmp_fin (ob_ok e5) st3.sub (RepV.mono hS3 hH3 rb) (rc.viewV st3) (hF r' ρ3 H3 S3 q5 st3 (hS.trans hS3) (hH.trans hH3))
theorem n_chain (hX : XOk p C T X c) {o o2 : CmpOp} {a b d : IR} {l r r2 : Expr} {pos : Pos} (hm : lastMarks [o, o2] [r, r2] = false) (ha : PE X l (rdQ p C y a)) (hb : PE X r (rdQ p C y b)) (hd : PE X r2 (rdQ p C y d)) :
    PE X (.Compare l [o, o2] [r, r2] pos) (rdE p C y (.chain o o2 a b d)) :=
  PE.mono (pe_chain (op_cmp hX.units o) (op_cmp hX.units o2) ha hb hd hm) fun σ H Q ⟨S, ρ, st, q⟩ =>
    chain_in hX st q fun b ρ' H' S' f st' hS hH => FinQ.val (FinQ.sub (f : FinQ p y σ S H Q _) hS hH) st' rfl
theorem t_chain (hX : XOk p C T X c) {o o2 : CmpOp} {a b d : IR} {l r r2 : Expr} {pos : Pos} (hm : lastMarks [o, o2] [r, r2] = false) (ha : PE X l (rdQ p C y a)) (hb : PE X r (rdQ p C y b)) (hd : PE X r2 (rdQ p C y d)) :
    PT X (.Compare l [o, o2] [r, r2] pos) (rdT p C y (.chainT o o2 a b d)) :=
  PT.mono (pt_chain (op_cmp hX.units o) (op_cmp hX.units o2) ha hb hd hm) fun σ H Q ⟨S, ρ, st, q⟩ =>
    chain_in hX st q fun b ρ' H' S' f st' hS hH => by
      obtain ⟨b', e3, k⟩ := (show ∃ b', Ar.v (.bl b) = .v (.bl b') ∧ ∀ H' S', Stt p y S' σ H' ρ' → Sub S S' → Sub H H' → Q b' H' from f)
      cases e3
      exact ⟨b, rfl, k H' S' st' hS hH⟩
theorem n_notE {a : IR} {l : Expr} {pos : Pos} (ha : PE X l (rdQ p C y a)) : PE X (.UnaryOp .Not l pos) (rdE p C y (.notE a)) :=
  PE.mono (pe_not ha) fun σ H Q ⟨S, ρ, st, q⟩ => by
  refine one_rd (k := fun x => match x.1.view with | .bl b => Out.ok (Ar.v (.bl (!b)), x.2) | _ => .bad) st q fun r1 ρ1 v H1 S1 q1 st1 hS hH _ ra => ?_
  have rv := ra.viewV st1
  dsimp only at q1
  split at q1
  · rename_i b hb
    rw [hb] at rv
    cases (show v = _ from rv)
    exact ⟨b, rfl, FinQ.val (FinQ.sub (q1 : FinQ p y σ S H Q _) hS hH) st1 rfl⟩
  · exact q1.elim
theorem n_ife {t a b : IR} {te ae be : Expr} {pos : Pos} (ht : PT X te (rdT p C y t)) (ha : PE X ae (rdQ p C y a)) (hb : PE X be (rdQ p C y b)) : PE X (.IfExp te ae be pos) (rdE p C y (.ife t a b)) :=
  PE.mono (pe_ifExp ht ha hb) fun σ H Q ⟨S, ρ, st, q⟩ => by
  refine ⟨S, ρ, st, ?_⟩
  obtain ⟨⟨k, ρ1⟩, e1, q1⟩ := Res.bnd (x := ev C t ρ) q
  rw [e1]
  dsimp only at q1
  split at q1
  · rename_i kb
    refine ⟨kb, rfl, fun H1 S1 st1 hS hH => ?_⟩
    cases kb with
    | true =>
      simp only [if_true] at q1 ⊢
      refine ⟨S1, ρ1, st1, ?_⟩
      obtain ⟨z, e2, q2⟩ := Res.ok q1
      show Res (sq (ev C a ρ1)) _
      rw [e2]
      exact FinQ.sub (q2 : FinQ p y σ S H Q _) hS hH
    | false =>
      simp only [Bool.false_eq_true, if_false] at q1 ⊢
      refine ⟨S1, ρ1, st1, ?_⟩
      obtain ⟨z, e2, q2⟩ := Res.ok q1
      show Res (sq (ev C b ρ1)) _
      rw [e2]
      exact FinQ.sub (q2 : FinQ p y σ S H Q _) hS hH
  · exact q1.elim
theorem n_tup {es : IRs} {as : List Expr} {k : Nat} {pos : Pos} (h : PA X as (rdA p C y es)) : PE X (.Tuple as k pos) (rdE p C y (.tup es)) :=
  PE.mono (pe_tupS h) fun σ H Q ⟨S, ρ, st, q⟩ => by
  refine ⟨S, ρ, st, ?_⟩
  obtain ⟨⟨rs, ρ1⟩, e1, q1⟩ := Res.bnd (x := evs C es ρ) q
  rw [e1]
  intro vs H1 S1 st1 hS hH ras
  dsimp only at q1
  split at q1
  · exact q1.elim
  · rename_i hb
    split at q1
    · rename_i hl
      refine ⟨by rw [← ras.length]; exact hl, FinQ.tup (FinQ.sub (q1 : FinQ p y σ S H Q _) hS hH) st1 (ras.vals (by simpa using hb))⟩
    · exact q1.elim
theorem n_lst {es : IRs} {as : List Expr} {pos : Pos} (h : PA X as (rdA p C y es)) : PE X (.List as pos) (rdE p C y (.lst es)) :=
  PE.mono (pe_lst h) fun σ H Q ⟨S, ρ, st, q⟩ => by
  refine ⟨S, ρ, st, ?_⟩
  obtain ⟨⟨rs, ρ1⟩, e1, q1⟩ := Res.bnd (x := evs C es ρ) q
  rw [e1]
  intro vs H1 S1 st1 hS hH ras
  dsimp only at q1
  split at q1
  · exact q1.elim
  · rename_i hb
    split at q1
    · rename_i hl
      refine ⟨by rw [← ras.length]; exact hl, FinQ.lst (FinQ.sub (q1 : FinQ p y σ S H Q _) hS hH) st1 (ras.vals (by simpa using hb))⟩
    · exact q1.elim
theorem n_ix (hK : X.K = p.K) {a i : IR} {l r : Expr} {pos : Pos} (hs : notSlice r = true) (ha : PE X l (rdQ p C y a)) (hb : PE X r (rdQ p C y i)) : PE X (.Subscript l r pos) (rdE p C y (.ix a i)) :=
  PE.mono (pe_ix ix_seq ha hb (plain_ix hs)) fun σ H Q ⟨S, ρ, st, q⟩ => by
  refine two_rd (k := fun x z => (ob (ixD x.view z.1.view)).bnd fun r => Out.ok (Ar.v r, z.2)) st q fun r1 r2 ρ2 v w H2 S2 q2 st2 hS hH ra rb _ _ => ?_
  obtain ⟨r, e1, q3⟩ := Res.bnd q2
  rw [hK]
  exact ix_fin (ob_ok e1) st2 ra rb fun u ru => FinQ.val (FinQ.sub (q3 : FinQ p y σ S H Q _) hS hH) st2 ru
def rdPart (p : Par) (C : Cxt) (y : Dy) (e : IR) (b : Bool) : TO := fun σ H Q => if b = true then Q none H else rdQ p C y e σ H fun v H1 => ∃ i, v = .int i ∧ Q (some i) H1
theorem po_of {e : IR} {l : Option Expr} (h : (match l with | none => e.isNon = true | some x => e.isNon = false ∧ PE X x (rdQ p C y e))) : PO X l (rdPart p C y e e.isNon) := by
  cases l with
  | none =>
    have h : e.isNon = true := h
    have hp := po_none (X := X)
    refine ⟨fun pins s σ H Q I q => hp.run pins s σ H Q I ?_⟩
    unfold rdPart at q
    rw [if_pos h] at q
    exact q
  | some x =>
    obtain ⟨h1, h2⟩ := (show e.isNon = false ∧ PE X x (rdQ p C y e) from h)
    have hp := po_some h2
    refine ⟨fun pins s σ H Q I q => hp.run pins s σ H Q I ?_⟩
    unfold rdPart at q
    rw [h1, if_neg Bool.false_ne_true] at q
    exact q
theorem part_in {e : IR} {σ : L2.St} {H : Hp} {ρ : En} {S : Hp} {β : Type} {k : Option (Option Int) → En → Out β} {F : β → Prop} {G : Option Int → Hp → Prop} (st : Stt p y S σ H ρ)
    (q : Res ((sq (ev C e ρ)).bnd fun x => k (partD e.isNon x.1.view) x.2) F) (hn : ∀ en, ¬ Res (k none en) F)
    (hG : ∀ o ρ1 H1 S1, Res (k (some o) ρ1) F → Stt p y S1 σ H1 ρ1 → Sub S S1 → Sub H H1 → G o H1) : rdPart p C y e e.isNon σ H G := by
  unfold rdPart
  cases hb : e.isNon with
  | true =>
    rw [if_pos rfl]
    cases e with
    | non => exact hG none ρ H S q st (Sub.refl _) (Sub.refl _)
    | _ => cases hb
  | false =>
    rw [if_neg Bool.false_ne_true]
    rw [hb] at q
    refine one_rd (k := fun x => k (partD false x.1.view) x.2) st q fun r ρ1 v H1 S1 q1 st1 hS hH s ra => ?_
    have rv := ra.viewV st1
    have q1 : Res (k (partD false r.view) ρ1) F := q1
    cases hv : r.view with
    | int i =>
      rw [hv] at q1 rv
      cases (show v = _ from rv)
      exact ⟨i, rfl, hG (some i) ρ1 H1 S1 q1 st1 hS hH⟩
    | _ =>
      rw [hv] at q1
      exact (hn ρ1 q1).elim
theorem n_slice (hK : X.K = p.K) {a lo hi : IR} {e : Expr} {l h : Option Expr} {pos p2 : Pos} (ha : PE X e (rdQ p C y a)) (hl : (match l with | none => lo.isNon = true | some x => lo.isNon = false ∧ PE X x (rdQ p C y lo)))
    (hh : (match h with | none => hi.isNon = true | some x => hi.isNon = false ∧ PE X x (rdQ p C y hi))) : PE X (.Subscript e (.Slice l h none p2) pos) (rdE p C y (.slice a lo hi)) :=
  PE.mono (pe_slice op_sl ha (po_of hl) (po_of hh)) fun σ H Q ⟨S, ρ, st, q⟩ => by
  have q : Res ((sq (ev C a ρ)).bnd fun x => (sq (ev C lo x.2)).bnd fun l => (sq (ev C hi l.2)).bnd fun h => (sliceD x.1.view (partD lo.isNon l.1.view) (partD hi.isNon h.1.view)).bnd fun r => .ok (r, h.2)) (FinQ p y σ S H Q) := q
  refine one_rd st q fun r1 ρ1 v H1 S1 q1 st1 hS hH s1 ra => ?_
  refine part_in (k := fun o en => (sq (ev C hi en)).bnd fun h => (sliceD r1.view o (partD hi.isNon h.1.view)).bnd fun r => .ok (r, h.2)) st1 q1 (fun en => ?_) fun o ρ2 H2 S2 q2 st2 hS2 hH2 => ?_
  · intro z
    obtain ⟨u, _, z⟩ := Res.bnd z
    exact z
  refine part_in (k := fun o' en => (sliceD r1.view (some o) o').bnd fun r => .ok (r, en)) st2 q2 (fun en z => z) fun o' ρ3 H3 S3 q3 st3 hS3 hH3 => ?_
  obtain ⟨r, e1, q4⟩ := Res.bnd q3
  rw [hK]
  have ra3 : RepA p y S3 σ H3 ρ3 r1 v := RepA.mono (hS2.trans hS3) (hH2.trans hH3) s1 ra
  exact sl_fin rfl rfl e1 st3 (ra3.viewV st3) (FinQ.sub (q4 : FinQ p y σ S H Q _) (hS.trans (hS2.trans hS3)) (hH.trans (hH2.trans hH3)))
end
end DS
namespace DS
open PySem PySem.Spec PyProof.Rows L2
section
variable {p : Par} {C : Cxt} {T : Tab} {X : Cx} {c : CC} {y : Dy}
/-! ### and, or -/
theorem n_and1 {e : IR} {a : Expr} {pos : Pos} (ha : PE X a (rdQ p C y e)) : PE X (.BoolOp .And [a] pos) (rdO p y (evAnd C (.cons e .nil))) := pe_one ha
theorem n_or1 {e : IR} {a : Expr} {pos : Pos} (ha : PE X a (rdQ p C y e)) : PE X (.BoolOp .Or [a] pos) (rdO p y (evOr C (.cons e .nil))) := pe_one ha
theorem n_and {e e' : IR} {es : IRs} {a b : Expr} {rest : List Expr} {pos : Pos} (ha : PE X a (rdQ p C y e)) (hb : PE X (.BoolOp .And (b :: rest) pos) (rdO p y (evAnd C (.cons e' es)))) :
    PE X (.BoolOp .And (a :: b :: rest) pos) (rdO p y (evAnd C (.cons e (.cons e' es)))) :=
  PE.mono (pe_and ha hb) fun σ H Q ⟨S, ρ, st, q⟩ => by
  refine one_rd (k := fun x => match x.1.view with | .bl b => if b = true then evAnd C (.cons e' es) x.2 else Out.ok (Ar.v (.bl false), x.2) | _ => .bad) st q fun r1 ρ1 v H1 S1 q1 st1 hS hH _ ra => ?_
  have rv := ra.viewV st1
  dsimp only at q1
  split at q1
  · rename_i b hb
    rw [hb] at rv
    cases (show v = _ from rv)
    refine ⟨b, rfl, ?_⟩
    cases b with
    | true =>
      simp only [if_true] at q1 ⊢
      refine ⟨S1, ρ1, st1, ?_⟩
      obtain ⟨z, e2, q2⟩ := Res.ok q1
      rw [e2]
      exact FinQ.sub (q2 : FinQ p y σ S H Q _) hS hH
    | false =>
      simp only [Bool.false_eq_true, if_false] at q1 ⊢
      exact FinQ.val (FinQ.sub (q1 : FinQ p y σ S H Q _) hS hH) st1 rfl
  · exact q1.elim
theorem n_or {e e' : IR} {es : IRs} {a b : Expr} {rest : List Expr} {pos : Pos} (ha : PE X a (rdQ p C y e)) (hb : PE X (.BoolOp .Or (b :: rest) pos) (rdO p y (evOr C (.cons e' es)))) :
    PE X (.BoolOp .Or (a :: b :: rest) pos) (rdO p y (evOr C (.cons e (.cons e' es)))) :=
  PE.mono (pe_or ha hb) fun σ H Q ⟨S, ρ, st, q⟩ => by
  refine one_rd (k := fun x => match x.1.view with | .bl b => if b = true then Out.ok (Ar.v (.bl true), x.2) else evOr C (.cons e' es) x.2 | _ => .bad) st q fun r1 ρ1 v H1 S1 q1 st1 hS hH _ ra => ?_
  have rv := ra.viewV st1
  dsimp only at q1
  split at q1
  · rename_i b hb
    rw [hb] at rv
    cases (show v = _ from rv)
    refine ⟨b, rfl, ?_⟩
    cases b with
    | true =>
      simp only [if_true] at q1 ⊢
      exact FinQ.val (FinQ.sub (q1 : FinQ p y σ S H Q _) hS hH) st1 rfl
    | false =>
      simp only [Bool.false_eq_true, if_false] at q1 ⊢
      refine ⟨S1, ρ1, st1, ?_⟩
      obtain ⟨z, e2, q2⟩ := Res.ok q1
      rw [e2]
      exact FinQ.sub (q2 : FinQ p y σ S H Q _) hS hH
  · exact q1.elim
/-! ### tests -/
theorem t_tru (hX : XOk p C T X c) {e : IR} {a : Expr} (hp : plainT a = true) (ha : PE X a (rdQ p C y e)) : PT X a (rdT p C y (.tru e)) :=
  PT.mono (pt_truth ha (plain_test hp X.env)) fun σ H Q ⟨S, ρ, st, q⟩ => by
  refine one_rd (k := fun x => (ob (truthD x.1.view)).bnd fun b => Out.ok (Ar.v (.bl b), x.2)) st q fun r1 ρ1 v H1 S1 q1 st1 hS hH _ ra => ?_
  obtain ⟨b, e1, q2⟩ := Res.bnd q1
  obtain ⟨b', e3, k⟩ := (show ∃ b', Ar.v (.bl b) = .v (.bl b') ∧ ∀ H' S', Stt p y S' σ H' ρ1 → Sub S S' → Sub H H' → Q b' H' from q2)
  cases e3
  refine ⟨b, ?_, k H1 S1 st1 hS hH⟩
  rw [hX.K]
  exact tru_fin (ob_ok e1) st1.sub (ra.viewV st1)
theorem rdO'.sub {f : En → Out (Ar × En)} {σ : L2.St} {H H1 : Hp} {S S1 : Hp} {ρ1 : En} {Q : Bool → Hp → Prop} (st1 : Stt p y S1 σ H1 ρ1) (hS : Sub S S1) (hH : Sub H H1)
    (q : Res (f ρ1) fun r => ∃ b, r.1 = .v (.bl b) ∧ ∀ H' S', Stt p y S' σ H' r.2 → Sub S S' → Sub H H' → Q b H') : rdO' p y f σ H1 Q := by
  refine ⟨S1, ρ1, st1, ?_⟩
  obtain ⟨z, e2, b, e3, k⟩ := Res.ok q
  rw [e2]
  exact ⟨b, e3, fun H' S' st' h1 h2 => k H' S' st' (hS.trans h1) (hH.trans h2)⟩
theorem t_not {e : IR} {a : Expr} {pos : Pos} (ha : PT X a (rdT p C y e)) : PT X (.UnaryOp .Not a pos) (rdT p C y (.notT e)) :=
  PT.mono (pt_not ha) fun σ H Q ⟨S, ρ, st, q⟩ => by
  refine ⟨S, ρ, st, ?_⟩
  obtain ⟨⟨k, ρ1⟩, e1, q1⟩ := Res.bnd (x := ev C e ρ) q
  rw [e1]
  dsimp only at q1
  split at q1
  · rename_i kb
    obtain ⟨b, e3, k⟩ := (show ∃ b, Ar.v (.bl (!kb)) = .v (.bl b) ∧ ∀ H' S', Stt p y S' σ H' ρ1 → Sub S S' → Sub H H' → Q b H' from q1)
    cases e3
    exact ⟨kb, rfl, k⟩
  · exact q1.elim
theorem t_and1 {e : IR} {a : Expr} {pos : Pos} (ha : PT X a (rdT p C y e)) : PW X (.BoolOp .And [a] pos) (rdO' p y (evAndT C (.cons e .nil))) :=
  PW.mono (pw_and1 ha) fun σ H Q ⟨S, ρ, st, q⟩ => by
  refine ⟨S, ρ, st, ?_⟩
  obtain ⟨⟨k, ρ1⟩, e1, q1⟩ := Res.bnd (x := ev C e ρ) q
  rw [e1]
  dsimp only at q1
  split at q1
  · rename_i kb
    cases kb with
    | true => exact q1
    | false => exact q1
  · exact q1.elim
theorem t_or1 {e : IR} {a : Expr} {pos : Pos} (ha : PT X a (rdT p C y e)) : PW X (.BoolOp .Or [a] pos) (rdO' p y (evOrT C (.cons e .nil))) :=
  PW.mono (pw_or1 ha) fun σ H Q ⟨S, ρ, st, q⟩ => by
  refine ⟨S, ρ, st, ?_⟩
  obtain ⟨⟨k, ρ1⟩, e1, q1⟩ := Res.bnd (x := ev C e ρ) q
  rw [e1]
  dsimp only at q1
  split at q1
  · rename_i kb
    cases kb with
    | true => exact q1
    | false => exact q1
  · exact q1.elim
theorem t_and {e : IR} {es : IRs} {a b : Expr} {rest : List Expr} {pos : Pos} (ha : PT X a (rdT p C y e)) (hb : PW X (.BoolOp .And (b :: rest) pos) (rdO' p y (evAndT C es))) :
    PW X (.BoolOp .And (a :: b :: rest) pos) (rdO' p y (evAndT C (.cons e es))) :=
  PW.mono (pw_and ha hb) fun σ H Q ⟨S, ρ, st, q⟩ => by
  refine ⟨S, ρ, st, ?_⟩
  obtain ⟨⟨k, ρ1⟩, e1, q1⟩ := Res.bnd (x := ev C e ρ) q
  rw [e1]
  dsimp only at q1
  split at q1
  · rename_i kb
    refine ⟨kb, rfl, fun H1 S1 st1 hS hH => ?_⟩
    cases kb with
    | true =>
      simp only [if_true] at q1 ⊢
      exact rdO'.sub st1 hS hH q1
    | false =>
      simp only [Bool.false_eq_true, if_false] at q1 ⊢
      obtain ⟨b, e3, k⟩ := (show ∃ b, Ar.v (.bl false) = .v (.bl b) ∧ ∀ H' S', Stt p y S' σ H' ρ1 → Sub S S' → Sub H H' → Q b H' from q1)
      cases e3
      exact k H1 S1 st1 hS hH
  · exact q1.elim
theorem t_or {e : IR} {es : IRs} {a b : Expr} {rest : List Expr} {pos : Pos} (ha : PT X a (rdT p C y e)) (hb : PW X (.BoolOp .Or (b :: rest) pos) (rdO' p y (evOrT C es))) :
    PW X (.BoolOp .Or (a :: b :: rest) pos) (rdO' p y (evOrT C (.cons e es))) :=
  PW.mono (pw_or ha hb) fun σ H Q ⟨S, ρ, st, q⟩ => by
  refine ⟨S, ρ, st, ?_⟩
  obtain ⟨⟨k, ρ1⟩, e1, q1⟩ := Res.bnd (x := ev C e ρ) q
  rw [e1]
  dsimp only at q1
  split at q1
  · rename_i kb
    refine ⟨kb, rfl, fun H1 S1 st1 hS hH => ?_⟩
    cases kb with
    | false =>
      simp only [Bool.false_eq_true, if_false] at q1 ⊢
      exact rdO'.sub st1 hS hH q1
    | true =>
      simp only [if_true] at q1 ⊢
      obtain ⟨b, e3, k⟩ := (show ∃ b, Ar.v (.bl true) = .v (.bl b) ∧ ∀ H' S', Stt p y S' σ H' ρ1 → Sub S S' → Sub H H' → Q b H' from q1)
      cases e3
      exact k H1 S1 st1 hS hH
  · exact q1.elim
/-! ### arguments -/
theorem a_nil : PA X [] (rdA p C y .nil) := PA.mono pa_nil fun σ H Q ⟨S, ρ, st, q⟩ => q [] H S st (Sub.refl _) (Sub.refl _) rfl
theorem a_consG {e : IR} {es : IRs} {σ : L2.St} {H : Hp} {Q : List V → Hp → Prop} (h : rdA p C y (.cons e es) σ H Q) : tCons (rdQ p C y e) (rdA p C y es) σ H Q := by
  obtain ⟨S, ρ, st, q⟩ := h
  refine one_rd (F := fun r => ∀ vs H' S', Stt p y S' σ H' r.2 → Sub S S' → Sub H H' → RepAs p y S' σ H' r.2 r.1 vs → Q vs H') (k := fun x => (evs C es x.2).bnd fun z => .ok (x.1 :: z.1, z.2)) st q fun r ρ1 v H1 S1 q1 st1 hS hH s ra => ?_
  refine ⟨S1, ρ1, st1, ?_⟩
  obtain ⟨⟨rs, ρ2⟩, e1, q2⟩ := Res.bnd (x := evs C es ρ1) q1
  rw [e1]
  intro vs H2 S2 st2 hS2 hH2 ras
  exact q2 (v :: vs) H2 S2 st2 (hS.trans hS2) (hH.trans hH2) ⟨v, vs, rfl, s, RepA.mono hS2 hH2 s ra, ras⟩
theorem a_cons {e : IR} {es : IRs} {a : Expr} {as : List Expr} (hs : notStar a = true) (ha : PE X a (rdQ p C y e)) (h : PA X as (rdA p C y es)) : PA X (a :: as) (rdA p C y (.cons e es)) :=
  PA.mono (pa_cons ha h (star_cons hs)) fun _ _ _ => a_consG
theorem PK.mono {kws : List Keyword} {t t' : TA} (h : PK X kws t) (k : ∀ σ H Q, t' σ H Q → t σ H Q) : PK X kws t' := ⟨fun po pins s σ H Q I q => h.run po pins s σ H Q I (k σ H Q q)⟩
theorem k_nil : PK X [] (rdA p C y .nil) := DS.PK.mono pk_nil fun σ H Q ⟨S, ρ, st, q⟩ => q [] H S st (Sub.refl _) (Sub.refl _) rfl
theorem k_cons {e : IR} {es : IRs} {a : Expr} {nm : Option Str} {kpos : Pos} {kws : List Keyword} (ha : PE X a (rdQ p C y e)) (h : PK X kws (rdA p C y es)) : PK X (⟨nm, a, kpos⟩ :: kws) (rdA p C y (.cons e es)) :=
  DS.PK.mono (pk_cons ha h) fun _ _ _ => a_consG

/-! ### calls -/
theorem args_rd {es : IRs} {σ : L2.St} {H : Hp} {Q : VK} {m : List Ar → Out Ar} {G : List V → Hp → Prop} {ρ : En} {S : Hp} (st : Stt p y S σ H ρ)
    (q : Res ((evs C es ρ).bnd fun z => (m z.1).bnd fun r => if z.1.any Ar.isB && !r.noL then .bad else .ok (r, z.2)) (FinQ p y σ S H Q))
    (hG : ∀ rs ρ1 vs H1 S1 r, m rs = .ok r → (rs.any Ar.isB && !r.noL) = false → Stt p y S1 σ H1 ρ1 → RepAs p y S1 σ H1 ρ1 rs vs → FinQ p y σ S1 H1 Q (r, ρ1) → G vs H1) : rdA p C y es σ H G := by
  refine ⟨S, ρ, st, ?_⟩
  obtain ⟨⟨rs, ρ1⟩, e1, q1⟩ := Res.bnd (x := evs C es ρ) q
  rw [e1]
  intro vs H1 S1 st1 hS hH ras
  obtain ⟨r, e2, q2⟩ := Res.bnd q1
  dsimp only at q2
  split at q2
  · exact q2.elim
  · rename_i hb
    exact hG rs ρ1 vs H1 S1 r e2 (by simpa using hb) st1 ras (FinQ.sub (q2 : FinQ p y σ S H Q _) hS hH)
theorem evs_len : ∀ {es : IRs} {ρ : En} {z : List Ar × En}, evs C es ρ = .ok z → z.1.length = es.len
  | .nil, ρ, z, h => by cases h; rfl
  | .cons e es, ρ, z, h => by
    have h : (sq (ev C e ρ)).bnd (fun x => (evs C es x.2).bnd fun w => .ok (x.1 :: w.1, w.2)) = .ok z := h
    cases q : sq (ev C e ρ) with
    | bad => rw [q] at h; cases h
    | exc c fs => rw [q] at h; cases h
    | ok x =>
      rw [q] at h
      have h : (evs C es x.2).bnd (fun w => .ok (x.1 :: w.1, w.2)) = Out.ok z := h
      cases q2 : evs C es x.2 with
      | bad => rw [q2] at h; cases h
      | exc c fs => rw [q2] at h; cases h
      | ok w =>
        rw [q2] at h
        cases h
        exact congrArg (· + 1) (evs_len q2)
theorem rdA_nil {σ : L2.St} {H : Hp} {G : List V → Hp → Prop} (h : rdA p C y .nil σ H G) : G [] H := by
  obtain ⟨S, ρ, st, q⟩ := h
  exact q [] H S st (Sub.refl _) (Sub.refl _) rfl
theorem n_call (hX : XOk p C T X c) {f : Nat} {x : Str} {es : IRs} {as : List Expr} {pos pos' : Pos} (hf : fnB T f x = true) (har : arB T f es.len = true) (hg : glB c x = true) (hst : as.all notStar = true) (hnil : as = [] → es = .nil) (h : PA X as (rdA p C y es)) :
    PE X (.Call (.Name x pos') as [] pos) (rdE p C y (.call f es)) := by
  obtain ⟨ps, hp, F, nM⟩ := hX.fn hf
  obtain ⟨k, a, fd, Fo, hr, hm, hk, hb, _⟩ := F.ex
  have hm := hm nM
  obtain ⟨g1, g2, g3⟩ := hX.gl hg
  have hlen : es.len = ps.length := by
    unfold arB at har
    rw [hp] at har
    exact of_decide_eq_true har
  have core : ∀ σ H Q, rdE p C y (.call f es) σ H Q → tCall (spD p ps.length (C.fn f)) [] E0 (rdA p C y es) σ H Q := fun σ H Q ⟨S, ρ, st, q⟩ => by
    have q : Res ((evs C es ρ).bnd fun z => (C.fn f (z.1.map Ar.view)).bnd fun r => if z.1.any Ar.isB && !r.noL then .bad else .ok (r, z.2)) (FinQ p y σ S H Q) := q
    have q' : Res ((evs C es ρ).bnd fun z => ((fun rs => if rs.length = es.len then C.fn f (rs.map Ar.view) else .bad) z.1).bnd fun r => if z.1.any Ar.isB && !r.noL then .bad else .ok (r, z.2)) (FinQ p y σ S H Q) := by
      obtain ⟨z, e1, q1⟩ := Res.bnd q
      rw [e1]
      show Res ((if z.1.length = es.len then C.fn f (z.1.map Ar.view) else .bad).bnd _) _
      rw [if_pos (evs_len e1)]
      exact q1
    refine args_rd (m := fun rs => if rs.length = es.len then C.fn f (rs.map Ar.view) else .bad) (G := fun vs H1 => spD p ps.length (C.fn f) (vs ++ []) H1 Q E0) st q' fun rs ρ1 vs H1 S1 r e1 hB st1 ras fin => ?_
    rw [List.append_nil]
    split at e1
    · rename_i hl
      exact call_fin (E := E0) st1 (fun _ z => z) ras (by rw [List.length_map, hl, hlen]) e1 hB fin
    · cases e1
  cases as with
  | nil =>
    cases hnil rfl
    exact PE.mono (pe_call0 Fo hr g1 hm hk hb .nil pass0 g2) fun σ H Q q => rdA_nil (core σ H Q q)
  | cons e as =>
    rw [List.all_cons, Bool.and_eq_true] at hst
    exact PE.mono (pe_call Fo hr g1 hm hk hb .nil pass0 h g2 (star_cons hst.1) (star_any hst.2)) core
theorem kw_all {env : Env} {pos : Pos} : ∀ {kws : List Keyword} {ks : List Str}, kwNames kws = some ks → (backToKw pos (keywordEach kws env)).all (·.1.isSome) = true ∧ (backToKw pos (keywordEach kws env)).filterMap (·.1) = ks ∧ (backToKw pos (keywordEach kws env)).any (·.1.isNone) = false
  | [], ks, h => by cases h; exact ⟨rfl, rfl, rfl⟩
  | ⟨some n, v, kp⟩ :: r, ks, h => by
    simp only [kwNames, Option.map_eq_some_iff] at h
    obtain ⟨ks', h1, h2⟩ := h
    subst h2
    obtain ⟨a1, a2, a3⟩ := kw_all (env := env) (pos := pos) h1
    refine ⟨?_, ?_, ?_⟩
    · show (true && (backToKw pos (keywordEach r env)).all (·.1.isSome)) = true
      rw [a1]
      rfl
    · show n :: (backToKw pos (keywordEach r env)).filterMap (·.1) = n :: ks'
      rw [a2]
    · show (false || (backToKw pos (keywordEach r env)).any (·.1.isNone)) = false
      rw [a3]
      rfl
  | ⟨none, v, kp⟩ :: r, ks, h => by simp [kwNames] at h
theorem reps_perm {S' : Hp} {ds : List D} {vs : List V} (r : Reps p S' ds vs) : ∀ (perm : List Nat), Reps p S' (perm.map fun j => ds.getD j .non) (perm.map fun j => vs.getD j .non)
  | [] => rfl
  | j :: js => by
    refine ⟨vs.getD j .non, _, rfl, ?_, reps_perm r js⟩
    show Rep p S' (ds.getD j .non) (vs.getD j .non)
    rw [List.getD_eq_getElem?_getD, List.getD_eq_getElem?_getD]
    cases q : ds[j]? with
    | some d =>
      obtain ⟨v, h1, h2⟩ := r.get q
      rw [h1]
      exact h2
    | none =>
      have : vs[j]? = none := by
        rw [List.getElem?_eq_none_iff] at q ⊢
        rw [← r.length]
        exact q
      rw [this]
      exact rfl
theorem n_callK (hX : XOk p C T X c) {f : Nat} {x : Str} {es : IRs} {kws : List Keyword} {ks : List Str} {perm : List Nat} {pos pos' : Pos} (hf : fnB T f x = true) (hg : glB c x = true) (hks : kwNames kws = some ks) (hkw : (f, ks, perm) ∈ T.kws) (hne : kws ≠ [])
    (h : PK X kws (rdA p C y es)) (hlk : es.len = ks.length) : PE X (.Call (.Name x pos') [] kws pos) (rdE p C y (.callK f perm es)) := by
  obtain ⟨ps, hp, _, nM⟩ := hX.fn hf
  have KW := hX.kws f ks perm x ps hkw hp
  obtain ⟨k, a, fd, Fo, hr, hm, hk, hb⟩ := KW.ex
  have hm := hm nM
  obtain ⟨g1, g2, g3⟩ := hX.gl hg
  obtain ⟨w1, w2, w3⟩ := kw_all (env := X.env) (pos := pos) hks
  refine ⟨fun pins s σ H Q I ⟨S, ρ, st, q⟩ => ?_⟩
  refine wpAny_Call_Name_kw (ld_glob I g1 hm ?_ g2)
  have q : Res ((evs C es ρ).bnd fun z => (C.fn f (perm.map fun j => (z.1.map Ar.view).getD j .non)).bnd fun r => if z.1.any Ar.isB && !r.noL then .bad else .ok (r, z.2)) (FinQ p y σ S H Q) := q
  have q' : Res ((evs C es ρ).bnd fun z => ((fun rs : List Ar => if rs.length = es.len then C.fn f (perm.map fun j => (rs.map Ar.view).getD j .non) else .bad) z.1).bnd fun r => if z.1.any Ar.isB && !r.noL then .bad else .ok (r, z.2)) (FinQ p y σ S H Q) := by
    obtain ⟨z, e1, q1⟩ := Res.bnd q
    rw [e1]
    show Res ((if z.1.length = es.len then C.fn f (perm.map fun j => (z.1.map Ar.view).getD j .non) else .bad).bnd _) _
    rw [if_pos (evs_len e1)]
    exact q1
  have hall : rdA p C y es σ H fun zs H2 => spD p ps.length (C.fn f) (gPermV ks ps.length perm [] zs) H2 Q E0 := by
    refine args_rd (m := fun rs => if rs.length = es.len then C.fn f (perm.map fun j => (rs.map Ar.view).getD j .non) else .bad) (G := fun zs H2 => spD p ps.length (C.fn f) (gPermV ks ps.length perm [] zs) H2 Q E0) st q' fun rs ρ1 vs H1 S1 r e1 hB st1 ras fin => ?_
    split at e1
    · rename_i hl
      unfold gPermV
      rw [if_pos ⟨rfl, by rw [← ras.length, hl, hlk]⟩]
      exact call_fin (E := E0) st1 (fun _ z => reps_perm z perm) ras (by rw [List.length_map]; exact KW.len) e1 hB fin
    · cases e1
  refine PySem.W.callWith_KW0 (h₀ := X.base) I.ok.mod.kin hk w1 (thn (h.run pos pins s σ H _ I hall) fun ws s2 ⟨zs, H2, I2, rz, q2⟩ => ⟨I2.kIn, ?_⟩) (by show (false || _) = false; rw [w3]; rfl)
  rw [w2]
  exact run_fnk Fo hr hb pass0 I2 .nil rz q2

/-! ### built-ins -/
theorem blt_mg (hX : XOk p C T X c) (b : Blt) : X.mg (bltNm b) = none := hX.blt _ (blt_in b)
theorem n_blt (hX : XOk p C T X c) {b : Blt} {es : IRs} {e : Expr} {as : List Expr} {pos pos' : Pos} (hi : ∀ T, b ≠ .isi T) (hg : glB c (bltNm b) = true) (hst : (e :: as).all notStar = true) (h : PA X (e :: as) (rdA p C y es)) :
    PE X (.Call (.Name (bltNm b) pos') (e :: as) [] pos) (rdE p C y (.blt b es)) := by
  obtain ⟨g1, g2, g3⟩ := hX.gl hg
  rw [List.all_cons, Bool.and_eq_true] at hst
  have core : ∀ σ H Q, rdE p C y (.blt b es) σ H Q → tCB (rBlt X.K b) (rdA p C y es) σ H Q := fun σ H Q ⟨S, ρ, st, q⟩ => by
    refine ⟨S, ρ, st, ?_⟩
    obtain ⟨⟨rs, ρ1⟩, e1, q1⟩ := Res.bnd (x := evs C es ρ) q
    rw [e1]
    intro vs H1 S1 st1 hS hH ras
    obtain ⟨r, e2, q2⟩ := Res.bnd q1
    rw [hX.K]
    exact blt_fin hi e2 st1 (ras.views st1) (FinQ.sub (q2 : FinQ p y σ S H Q _) hS hH)
  have ho := op_blt (X := X) hX.calm b
  have hbt := boot_blt b
  have hm := blt_mg hX b
  cases hv : bltVal b with
  | builtin id =>
    rw [hv] at ho hbt
    exact PE.mono (pe_callB ho g1 hm hbt h g3 g2 (star_cons hst.1) (star_any hst.2)) core
  | type t =>
    rw [hv] at ho hbt
    exact PE.mono (pe_callTy ho g1 hm hbt h g3 g2 (star_cons hst.1) (star_any hst.2)) core
  | _ => cases b <;> cases hv
theorem n_isi (hX : XOk p C T X c) {n : String} {t : Str} {a : IR} {e : Expr} {pos pos' pos2 : Pos} (hg : glB c ("isinstance" : Str) = true) (hgt : glB c t = true) (ht : (n, t) ∈ tyTab) (hse : notStar e = true) (ha : PE X e (rdQ p C y a)) :
    PE X (.Call (.Name "isinstance" pos') [e, .Name t pos2] [] pos) (rdE p C y (.blt (.isi (.ty n)) (.cons a .nil))) := by
  obtain ⟨g1, g2, g3⟩ := hX.gl hg
  obtain ⟨h1, h2, h3⟩ := hX.gl hgt
  obtain ⟨b1, b2⟩ := ty_boot ht
  have hn : PE X (.Name t pos2) (tC (.ty n)) := pe_bltn h1 (hX.blt _ b2) b1 rfl h3 h2
  have hpa : PA X [e, .Name t pos2] (tCons (rdQ p C y a) (tCons (tC (.ty n)) tNil)) := pa_cons ha (pa_cons hn pa_nil (star_cons rfl)) (star_cons hse)
  have hm : X.mg ("isinstance" : Str) = none := blt_mg hX (.isi (.ty n))
  refine PE.mono (pe_callB (id := "isinstance") call_isi g1 hm (boot_blt (.isi (.ty n))) hpa g3 g2 (star_cons hse) (star_any rfl)) fun σ H Q ⟨S, ρ, st, q⟩ => ?_
  refine one_rd (k := fun x => ((evs C .nil x.2).bnd fun z => .ok (x.1 :: z.1, z.2)).bnd fun w => (bltD (.isi (.ty n)) (w.1.map Ar.view)).bnd fun r => Out.ok (r, w.2)) st (by
    have q : Res ((evs C (.cons a .nil) ρ).bnd fun w => (bltD (.isi (.ty n)) (w.1.map Ar.view)).bnd fun r => Out.ok (r, w.2)) (FinQ p y σ S H Q) := q
    obtain ⟨w, e1, q1⟩ := Res.bnd q
    have e1 : (sq (ev C a ρ)).bnd (fun x => (evs C .nil x.2).bnd fun z => .ok (x.1 :: z.1, z.2)) = .ok w := e1
    cases q2 : sq (ev C a ρ) with
    | bad => rw [q2] at e1; cases e1
    | exc c fs => rw [q2] at e1; cases e1
    | ok x =>
      rw [q2] at e1
      have e1 : Out.ok ([x.1], x.2) = Out.ok w := e1
      cases e1
      exact q1) fun r1 ρ1 v H1 S1 q1 st1 hS hH _ ra => ?_
  have q1 : Res ((bltD (.isi (.ty n)) [r1.view]).bnd fun r => Out.ok (r, ρ1)) (FinQ p y σ S H Q) := q1
  obtain ⟨r, e2, q2⟩ := Res.bnd q1
  have e2 : (match isiD r1.view (.ty n) with | some b => Out.ok (Ar.v (.bl b)) | none => .bad) = .ok r := e2
  split at e2
  · rename_i b hb
    cases e2
    obtain ⟨n', e3, q3⟩ := isi_fin (p := p) (Q := Q) hb st1.sub (ra.viewV st1) (FinQ.val (FinQ.sub (q2 : FinQ p y σ S H Q _) hS hH) st1 rfl)
    cases e3
    rw [hX.K]
    exact q3
  · cases e2
/-- sorted(x, reverse=True) -/
theorem n_sortRev (hX : XOk p C T X c) {a : IR} {e : Expr} {pos pos' kp ep : Pos} {k : Nat} (hg : glB c ("sorted" : Str) = true) (hse : notStar e = true) (ha : PE X e (rdQ p C y a)) :
    PE X (.Call (.Name "sorted" pos') [e] [⟨some "reverse", .Constant (.bool true) k ep, kp⟩] pos) (rdE p C y (.sortRev a)) := by
  obtain ⟨g1, g2, g3⟩ := hX.gl hg
  have hpa : PA X [e] (tCons (rdQ p C y a) tNil) := pa_cons ha pa_nil (star_cons hse)
  have hm : X.mg ("sorted" : Str) = none := blt_mg hX .sorted
  have es : starEach [e] X.env = [(false, eval e X.env)] := star_cons hse
  refine PE.mono (pe_callBK (cr_sortedRev (b := true)) g1 hm (boot_blt .sorted) hpa (pk_cons pe_bl pk_nil) g3 g2 (by rw [es]; rfl) (by rw [es]; rfl)) fun σ H Q ⟨S, ρ, st, q⟩ => ?_
  refine one_rd (k := fun x => match x.1.view with | .lst ys => (match ints? ys with | some ns => Out.ok (Ar.fr ((isort ns).reverse.map .int), x.2) | none => .bad) | _ => .bad) st q fun r1 ρ1 v H1 S1 q1 st1 hS hH _ ra => ?_
  have rv := ra.viewV st1
  dsimp only at q1
  split at q1
  · rename_i ys hy
    split at q1
    · rename_i ns hn
      rw [hy] at rv
      obtain ⟨l, us, e1, q0, rr⟩ := rv.lst'
      rw [ints?_eq hn] at rr
      rw [Reps.ints.mp rr] at q0
      subst e1
      refine ⟨l, ns, rfl, rfl, .inl q0, fun ms a hp ho hn' => ?_⟩
      rw [isort_rev hp ho]
      exact FinQ.lst (FinQ.sub (q1 : FinQ p y σ S H Q _) hS hH) st1 (Reps.ints.mpr rfl) a hn'
    · exact q1.elim
  · exact q1.elim
/-- sorted(x, key=f) -/
theorem n_sortKey (hX : XOk p C T X c) {f : Nat} {a : IR} {e : Expr} {fx : Str} {pos pos' kp ep : Pos} (hg : glB c ("sorted" : Str) = true) (hse : notStar e = true) (hf : fnB T f fx = true) (hgf : glB c fx = true) (har : arB T f 1 = true) (hk : f < T.keys) (ha : PE X e (rdQ p C y a)) :
    PE X (.Call (.Name "sorted" pos') [e] [⟨some "key", .Name fx ep, kp⟩] pos) (rdE p C y (.sortKey f a)) := by
  obtain ⟨g1, g2, g3⟩ := hX.gl hg
  obtain ⟨f1, f2, f3⟩ := hX.gl hgf
  obtain ⟨ps, hps, _, nM⟩ := hX.fn hf
  obtain ⟨k, fa, fd, F, hr, hm0, hkp, hb⟩ := (hX.srt f fx ps hk hps).ex
  have hm0 := hm0 nM
  have hl1 : ps.length = 1 := by
    unfold arB at har
    rw [hps] at har
    exact (of_decide_eq_true har).symm
  rw [hl1] at F
  have hpa : PA X [e] (tCons (rdQ p C y a) tNil) := pa_cons ha pa_nil (star_cons hse)
  have hm : X.mg ("sorted" : Str) = none := blt_mg hX .sorted
  have es : starEach [e] X.env = [(false, eval e X.env)] := star_cons hse
  have hfn : PE X (.Name fx ep) (tC (.ref fa)) := pe_glob f1 hm0 rfl f2
  refine PE.mono (pe_callBK (cr_sortK (p := p) F hr hb) g1 hm (boot_blt .sorted) hpa (pk_cons hfn pk_nil) g3 g2 (by rw [es]; rfl) (by rw [es]; rfl)) fun σ H Q ⟨S, ρ, st, q⟩ => ?_
  refine one_rd (k := fun x => match x.1.view with | .lst ys => (keysD (C.fn f) ys).bnd fun ks => Out.ok (Ar.fr ((ksort (ks.zip ys)).map (·.2)), x.2) | _ => .bad) st q fun r1 ρ1 v H1 S1 q1 st1 hS hH _ ra => ?_
  have rv := ra.viewV st1
  dsimp only at q1
  split at q1
  · rename_i ys hy
    obtain ⟨ks, hks, q2⟩ := Res.bnd q1
    rw [hy] at rv
    obtain ⟨l, us, e1, q0, rr⟩ := rv.lst'
    subst e1
    refine ⟨l, S1, ys, us, ks, rfl, rfl, .inl q0, st1.sub, rr, hks, fun H' l' hsub hn hl => ?_⟩
    have stn := st1.grow (Sub.refl S1) hsub (st1.sub.trans hsub) fun _ _ => rfl
    refine (FinQ.sub (q2 : FinQ p y σ S H Q _) hS hH) (.ref l') H' S1 stn (Sub.refl _) hsub ?_
    have n1 := st1.none0 hn
    refine ⟨l', _, rfl, hl, ?_, ?_, (ksort_rel (Z2.reps rr)).rout, fun i s e2 ho z => ?_⟩
    · cases z : S1 l' with
      | none => rfl
      | some o => rw [st1.sub _ _ z] at hn; cases hn
    · cases z : y.H0 l' with
      | none => rfl
      | some o => rw [st1.same _ _ z] at hn; cases hn
    · have q := st1.sl i s e2
      cases s with
      | own ds' =>
        obtain ⟨l2, us', e3, e4, _⟩ := q
        rw [e3] at z
        cases z
        rw [hn] at e4
        cases e4
      | dic ds' =>
        obtain ⟨l2, us', e3, e4, _⟩ := q
        rw [e3] at z
        cases z
        rw [hn] at e4
        cases e4
      | obj c0 ds' =>
        obtain ⟨l2, us', e3, e4, _⟩ := q
        rw [e3] at z
        cases z
        rw [hn] at e4
        cases e4
      | _ => cases ho
  · exact q1.elim
end
end DS
/-! ## Operations on values: fields, new instances, methods, methods of built-in types -/
namespace DS
open PySem PySem.Spec PyProof.Rows L2
section
variable {p : Par} {C : Cxt} {T : Tab} {X : Cx} {c : CC} {y : Dy}
def PEs (p : Par) (C : Cxt) (y : Dy) (X : Cx) : IRs → List Expr → Prop
  | .nil, [] => True
  | .cons a es, e :: as => PE X e (rdQ p C y a) ∧ notStar e = true ∧ PEs p C y X es as
  | _, _ => False
theorem PEs.pa : ∀ {es : IRs} {as : List Expr}, PEs p C y X es as → PA X as (rdA p C y es)
  | .nil, [], _ => a_nil
  | .nil, _ :: _, h => h.elim
  | .cons _ _, [], h => h.elim
  | .cons _ _, _ :: _, h => a_cons h.2.1 h.1 h.2.2.pa
theorem PEs.star : ∀ {es : IRs} {as : List Expr}, PEs p C y X es as → as.all notStar = true
  | .nil, [], _ => rfl
  | .nil, _ :: _, h => h.elim
  | .cons _ _, [], h => h.elim
  | .cons _ _, _ :: _, h => by rw [List.all_cons, h.2.1, h.2.2.star]; rfl
theorem PEs.len : ∀ {es : IRs} {as : List Expr}, PEs p C y X es as → es.len = as.length
  | .nil, [], _ => rfl
  | .nil, _ :: _, h => h.elim
  | .cons _ _, [], h => h.elim
  | .cons _ _, _ :: _, h => congrArg (· + 1) h.2.2.len
theorem PEs.one {es : IRs} {a : Expr} (h : PEs p C y X es [a]) : ∃ e, es = .cons e .nil ∧ PE X a (rdQ p C y e) ∧ notStar a = true := by
  cases es with
  | nil => exact h.elim
  | cons e es =>
    cases es with
    | nil => exact ⟨e, rfl, h.1, h.2.1⟩
    | cons _ _ => exact h.2.2.elim
theorem PEs.two {es : IRs} {a b : Expr} (h : PEs p C y X es [a, b]) : ∃ e f, es = .cons e (.cons f .nil) ∧ PE X a (rdQ p C y e) ∧ PE X b (rdQ p C y f) ∧ notStar a = true ∧ notStar b = true := by
  cases es with
  | nil => exact h.elim
  | cons e es =>
    obtain ⟨f, rfl, h2, h3⟩ := h.2.2.one
    exact ⟨e, f, rfl, h.1, h2, h.2.1, h3⟩
theorem att_base {o : Expr} (h : attB o = true) (m : Str) (env : Env) (whole : Sem Value) : attributeBase o m env whole = whole := by
  unfold attributeBase
  split
  · cases h
  · rfl
theorem op_rd {o : Op} {es : IRs} {σ : L2.St} {H : Hp} {Q : VK} {G : List V → Hp → Prop} (h : rdE p C y (.op o es) σ H Q)
    (hG : ∀ rs ρ1 vs H1 S1 r, rs.length = es.len → opD C o (rs.map Ar.view) = .ok r → (rs.any Ar.isB && !r.noL) = false → Stt p y S1 σ H1 ρ1 → RepAs p y S1 σ H1 ρ1 rs vs → FinQ p y σ S1 H1 Q (r, ρ1) → G vs H1) : rdA p C y es σ H G := by
  obtain ⟨S, ρ, st, q⟩ := h
  have q : Res ((evs C es ρ).bnd fun z => (opD C o (z.1.map Ar.view)).bnd fun r => if z.1.any Ar.isB && !r.noL then .bad else .ok (r, z.2)) (FinQ p y σ S H Q) := q
  have q' : Res ((evs C es ρ).bnd fun z => ((fun rs => if rs.length = es.len then opD C o (rs.map Ar.view) else .bad) z.1).bnd fun r => if z.1.any Ar.isB && !r.noL then .bad else .ok (r, z.2)) (FinQ p y σ S H Q) := by
    obtain ⟨z, e1, q1⟩ := Res.bnd q
    rw [e1]
    show Res ((if z.1.length = es.len then opD C o (z.1.map Ar.view) else .bad).bnd _) _
    rw [if_pos (evs_len e1)]
    exact q1
  refine args_rd (m := fun rs => if rs.length = es.len then opD C o (rs.map Ar.view) else .bad) st q' fun rs ρ1 vs H1 S1 r e1 hB st1 ras fin => ?_
  split at e1
  · rename_i hl
    exact hG rs ρ1 vs H1 S1 r hl e1 hB st1 ras fin
  · cases e1
/-- of one value -/
theorem op1_rd {o : Op} {e : IR} {σ : L2.St} {H : Hp} {Q : VK} {G : V → Hp → Prop} (h : rdE p C y (.op o (.cons e .nil)) σ H Q)
    (hG : ∀ (r1 : Ar) ρ1 v H1 S1 r, opD C o [r1.view] = .ok r → Stt p y S1 σ H1 ρ1 → RepA p y S1 σ H1 ρ1 r1 v → FinQ p y σ S1 H1 Q (r, ρ1) → G v H1) : rdQ p C y e σ H G := by
  have h2 := rdA1 (G := fun vs H1 => ∃ v, vs = [v] ∧ G v H1) (op_rd h fun rs ρ1 vs H1 S1 r hl e1 hB st1 ras fin => by
    match rs, hl with
    | [r1], _ =>
      obtain ⟨v, _, e2, _, ra, e3⟩ := ras
      cases (show _ = [] from e3)
      exact ⟨v, e2, hG r1 ρ1 v H1 S1 r e1 st1 ra fin⟩)
  exact rdO.imp h2 fun v H1 ⟨w, e, q⟩ => by cases e; exact q
theorem op2_res {o : Op} {a b : IR} {ρ : En} {F : Ar × En → Prop} (q : Res (ev C (.op o (.cons a (.cons b .nil))) ρ) F) :
    Res ((sq (ev C a ρ)).bnd fun x => (sq (ev C b x.2)).bnd fun z => (opD C o [x.1.view, z.1.view]).bnd fun r => if [x.1, z.1].any Ar.isB && !r.noL then .bad else .ok (r, z.2)) F := by
  have q : Res ((evs C (.cons a (.cons b .nil)) ρ).bnd fun z => (opD C o (z.1.map Ar.view)).bnd fun r => if z.1.any Ar.isB && !r.noL then .bad else .ok (r, z.2)) F := q
  have e : evs C (.cons a (.cons b .nil)) ρ = (sq (ev C a ρ)).bnd fun x => (sq (ev C b x.2)).bnd fun z => .ok ([x.1, z.1], z.2) := by
    show (sq (ev C a ρ)).bnd (fun x => ((sq (ev C b x.2)).bnd fun z => ((Out.ok (([] : List Ar), z.2)).bnd fun w => .ok (z.1 :: w.1, w.2))).bnd fun u => .ok (x.1 :: u.1, u.2)) = _
    congr 1
    funext x
    cases sq (ev C b x.2) <;> rfl
  rw [e] at q
  cases e1 : sq (ev C a ρ) with
  | bad => rw [e1] at q; exact q
  | exc c0 fs => rw [e1] at q; exact q
  | ok x =>
    rw [e1] at q
    have q : Res (((sq (ev C b x.2)).bnd fun z => Out.ok ([x.1, z.1], z.2)).bnd fun z => (opD C o (z.1.map Ar.view)).bnd fun r => if z.1.any Ar.isB && !r.noL then .bad else .ok (r, z.2)) F := q
    show Res ((sq (ev C b x.2)).bnd _) _
    cases e2 : sq (ev C b x.2) with
    | bad => rw [e2] at q; exact q
    | exc c0 fs => rw [e2] at q; exact q
    | ok z => rw [e2] at q; exact q
/-- of two values -/
theorem op2_rd {o : Op} {a b : IR} {σ : L2.St} {H : Hp} {Q : VK} {G : V → V → Hp → Prop} (h : rdE p C y (.op o (.cons a (.cons b .nil))) σ H Q)
    (hG : ∀ (r1 r2 : Ar) ρ1 v w H1 S1 r, opD C o [r1.view, r2.view] = .ok r → Stt p y S1 σ H1 ρ1 → RepV p S1 H1 r1.view v → RepV p S1 H1 r2.view w → FinQ p y σ S1 H1 Q (r, ρ1) → G v w H1) :
    rdQ p C y a σ H fun v H1 => rdQ p C y b σ H1 fun w H2 => G v w H2 := by
  obtain ⟨S, ρ, st, q⟩ := h
  have q := op2_res q
  refine two_rd (k := fun x z => (opD C o [x.view, z.1.view]).bnd fun r => if [x, z.1].any Ar.isB && !r.noL then .bad else Out.ok (r, z.2)) st q fun r1 r2 ρ2 v w H2 S2 q2 st2 hS hH ra rb _ _ => ?_
  obtain ⟨r, e1, q3⟩ := Res.bnd q2
  split at q3
  · exact q3.elim
  · exact hG r1 r2 ρ2 v w H2 S2 r e1 st2 ra rb (FinQ.sub (q3 : FinQ p y σ S H Q _) hS hH)
theorem zip_look {S : Hp} : ∀ {fs : List Str} {ds : List D} {vs : List V} {f : Str} {d : D}, Reps p S ds vs → (fs.zip ds).lookup f = some d → ∃ v, (fs.zip vs).lookup f = some v ∧ Rep p S d v
  | [], _, _, _, _, _, h => by cases h
  | _ :: _, [], _, _, _, _, h => by cases h
  | g :: fs, d' :: ds, vs, f, d, r, h => by
    obtain ⟨v, q, e, r1, r2⟩ := (show ∃ v q, vs = v :: q ∧ Rep p S d' v ∧ Reps p S ds q from r)
    subst e
    simp only [List.zip_cons_cons, List.lookup_cons] at h ⊢
    split at h
    · cases h
      exact ⟨v, rfl, r1⟩
    · exact zip_look r2 h
theorem fd_cl {k : Nat} {f : Str} (hX : XOk p C T X c) (h : fdB T k f = true) : ∃ e, T.cls[k]? = some e ∧ f ∈ e.fields ∧ ClG X.K X.mg p k e := by
  unfold fdB at h
  split at h
  · rename_i e he
    exact ⟨e, he, of_decide_eq_true h, (hX.cls k e he).g⟩
  · cases h
theorem n_fld (hX : XOk p C T X c) {k : Nat} {f : Str} {a : IR} {e : Expr} {pos : Pos} (hb : attB e = true) (hf : fdB T k f = true) (ha : PE X e (rdQ p C y a)) : PE X (.Attribute e f pos) (rdE p C y (.op (.fld k f) (.cons a .nil))) := by
  obtain ⟨ce, _, hm, G⟩ := fd_cl hX hf
  refine PE.mono (pe_fld ha (att_base hb f X.env _)) fun σ H Q h => op1_rd h fun r1 ρ1 v H1 S1 r e1 st1 ra fin => ?_
  have rv := ra.viewV st1
  simp only [opD] at e1
  split at e1
  · rename_i k' fs hr
    simp only [List.cons.injEq, and_true] at hr
    rw [hr] at rv
    split at e1
    · rename_i hk
      subst hk
      cases e2 : ((C.fields k').zip fs).lookup f with
      | none => rw [e2] at e1; cases e1
      | some d =>
        rw [e2] at e1
        cases e1
        obtain ⟨a', dx, vs, e3, q, rr⟩ := (show ∃ a dx vs, v = .ref a ∧ S1 a = some (.ins (p.cl k') dx ((p.fields k').zip vs)) ∧ Reps p S1 fs vs from rv)
        rw [hX.flds] at e2
        obtain ⟨u, e4, ru⟩ := zip_look rr e2
        exact ⟨a', p.cl k', dx, _, u, e3, st1.sub _ _ q, G.cls, G.no f hm, e4, fin.val st1 ru⟩
    · cases e1
  · cases e1
theorem n_make (hX : XOk p C T X c) {k : Nat} {x : Str} {es : IRs} {as : List Expr} {pos pos' : Pos} (hc : clB T k x = true) (hg : glB c x = true) (hn : mkB T k es.len = true) (hne : as ≠ []) (h : PEs p C y X es as) :
    PE X (.Call (.Name x pos') as [] pos) (rdE p C y (.op (.make k) es)) := by
  obtain ⟨ce, h1, h2, S⟩ := hX.cl hc
  obtain ⟨g1, g2, g3⟩ := hX.gl hg
  unfold mkB at hn
  rw [h1] at hn
  simp only [Bool.and_eq_true, decide_eq_true_eq] at hn
  obtain ⟨lv, a, fd, ps, F, hb, M, hlv⟩ := S.ex hn.2
  have hr : Room (lv + 1) X.A := by rw [hlv]; exact hX.room _ hn.1.2
  have core : ∀ σ H Q, rdE p C y (.op (.make k) es) σ H Q → tMake (p.cl k) (spI p k ce.ar (C.make k)) [] E0 (rdA p C y es) σ H Q := fun σ H Q h =>
    op_rd h fun rs ρ1 vs H1 S1 r hl e1 hB st1 ras fin => fun x dx hx hd ne => by
      rw [List.append_nil]
      exact spI_of (call_fin (E := E0) st1 (fun _ z => z) ras (by rw [List.length_map, hl, hn.1.1]) e1 hB fin) hx hd ne
  have hm : X.mg x = some (.ref (p.cl k)) := h2 ▸ S.g.mg
  cases as with
  | nil => exact absurd rfl hne
  | cons e as =>
    have hst := h.star
    rw [List.all_cons, Bool.and_eq_true] at hst
    exact PE.mono (pe_make M F hr g1 hm hb .nil pass0 h.pa g2 (star_cons hst.1) (star_any hst.2)) core
theorem zip_no {f : Str} : ∀ {fs : List Str} {vs : List V}, f ∉ fs → (fs.zip vs).lookup f = none
  | [], _, _ => rfl
  | _ :: _, [], _ => rfl
  | g :: fs, v :: vs, h => by
    rw [List.zip_cons_cons, List.lookup_cons, show (f == g) = false from by simpa using fun z => h (by rw [z]; exact List.mem_cons_self)]
    exact zip_no fun z => h (List.mem_cons_of_mem _ z)
theorem star_few {pos : Pos} {env : Env} : ∀ {as : List Expr}, as.all notStar = true → (backTo pos (starEach as env)).all (fun x => !x.1) = true
  | [], _ => rfl
  | e :: as, h => by
    rw [List.all_cons, Bool.and_eq_true] at h
    rw [star_cons h.1]
    show (true && (backTo pos (starEach as env)).all (fun x => !x.1)) = true
    rw [star_few h.2]
    rfl
theorem meth_form {o : Expr} {m : Str} {as : List Expr} {apos pos : Pos} {env : Env} (hb : attB o = true) (hl : (apos.endLine == pos.line) = true) (hs : as.all notStar = true) (hn : as.length < 30) :
    eval (.Call (.Attribute o m apos) as [] pos) env = (do
      let ov ← eval o env
      standAt apos.atName
      let (f, first) ← holding [ov] (getMethod ov m (do return (← importBound o env).getD true))
      callWith pos f first (backTo pos (starEach as env)) (backToKw pos (keywordEach [] env))) := by
  have form : methodCallForm (as.length + ([] : List Keyword).length) (backTo pos (starEach as env)) (backToKw pos (keywordEach [] env)) = true := by
    unfold methodCallForm
    rw [star_few hs, show backToKw pos (keywordEach [] env) = [] from rfl]
    simpa using hn
  have at_ : methodCallPos true o env apos pos = pure pos := by
    unfold methodCallPos
    simp [hl]
  rw [arm_eval_Call, att_base hb]
  unfold methodCall
  rw [form, at_]
  rfl
theorem n_meth (hX : XOk p C T X c) {k f : Nat} {m : Str} {es : IRs} {o : Expr} {as : List Expr} {apos pos : Pos} (hm : mtB T f k as.length m = true) (hb : attB o = true) (hl : (apos.endLine == pos.line) = true) (hfew : as.length < 30) (h : PEs p C y X es (o :: as)) :
    PE X (.Call (.Attribute o m apos) as [] pos) (rdE p C y (.op (.meth k f) es)) := by
  cases es with
  | nil => exact h.elim
  | cons a rest =>
    obtain ⟨ho, hos, hr⟩ := h
    unfold mtB at hm
    simp only [Bool.and_eq_true, decide_eq_true_eq] at hm
    obtain ⟨⟨h1, h2⟩, h3⟩ := hm
    split at h1
    · rename_i q hq
      split at h3
      · rename_i ce hce
        obtain ⟨nm, ps⟩ := q
        have h1 := of_decide_eq_true h1
        have h3 : m ∉ ce.fields := by simpa using h3
        obtain ⟨lv, fa, fd, F, hR, _, hk, hbd, hme⟩ := (hX.fns f nm ps hq).ex
        have hM := hme k m h2
        have G := (hX.cls k ce hce).g
        have core : ∀ σ H Q, rdE p C y (.op (.meth k f) (.cons a rest)) σ H Q → tMeth (p.cl k) m (spD p ps.length (C.fn f)) [] E0 (rdQ p C y a) (rdA p C y rest) σ H Q := fun σ H Q ⟨S, ρ, st, q⟩ => by
          have q : Res ((sq (ev C a ρ)).bnd fun x => (evs C rest x.2).bnd fun z => (opD C (.meth k f) ((x.1 :: z.1).map Ar.view)).bnd fun r => if (x.1 :: z.1).any Ar.isB && !r.noL then .bad else .ok (r, z.2)) (FinQ p y σ S H Q) := by
            have q : Res (((sq (ev C a ρ)).bnd fun x => (evs C rest x.2).bnd fun z => .ok (x.1 :: z.1, z.2)).bnd fun z => (opD C (.meth k f) (z.1.map Ar.view)).bnd fun r => if z.1.any Ar.isB && !r.noL then .bad else .ok (r, z.2)) (FinQ p y σ S H Q) := q
            cases e1 : sq (ev C a ρ) with
            | bad => rw [e1] at q; exact q
            | exc c0 fs => rw [e1] at q; exact q
            | ok x =>
              rw [e1] at q
              have q : Res (((evs C rest x.2).bnd fun z => .ok (x.1 :: z.1, z.2)).bnd fun z => (opD C (.meth k f) (z.1.map Ar.view)).bnd fun r => if z.1.any Ar.isB && !r.noL then .bad else .ok (r, z.2)) (FinQ p y σ S H Q) := q
              show Res ((evs C rest x.2).bnd _) _
              cases e2 : evs C rest x.2 with
              | bad => rw [e2] at q; exact q
              | exc c0 fs => rw [e2] at q; exact q
              | ok z => rw [e2] at q; exact q
          refine one_rd (k := fun x => (evs C rest x.2).bnd fun z => (opD C (.meth k f) ((x.1 :: z.1).map Ar.view)).bnd fun r => if (x.1 :: z.1).any Ar.isB && !r.noL then .bad else .ok (r, z.2)) st q fun r1 ρ1 v H1 S1 q1 st1 hS hH s ra => ?_
          obtain ⟨⟨rs, ρ2⟩, e1, q2⟩ := Res.bnd q1
          obtain ⟨r, e2, q3⟩ := Res.bnd q2
          dsimp only at q3
          split at q3
          · exact q3.elim
          · rename_i hB
            rw [List.map_cons] at e2
            simp only [opD] at e2
            split at e2
            · rename_i k' fs ds hds
              simp only [List.cons.injEq] at hds
              split at e2
              · rename_i hk'
                subst hk'
                have rv := ra.viewV st1
                rw [hds.1] at rv
                obtain ⟨l, dx, vs0, e3, q4, rr⟩ := (show ∃ a dx vs, v = .ref a ∧ S1 a = some (.ins (p.cl k') dx ((p.fields k').zip vs)) ∧ Reps p S1 fs vs from rv)
                refine ⟨l, dx, _, e3, st1.sub _ _ q4, zip_no (by rw [G.fields]; exact h3), S1, ρ1, st1, ?_⟩
                rw [e1]
                intro vs H2 S2 st2 hS2 hH2 ras
                rw [List.append_nil]
                have ras2 : RepAs p y S2 σ H2 ρ2 (r1 :: rs) (v :: vs) := ⟨v, vs, rfl, s, RepA.mono hS2 hH2 s ra, ras⟩
                refine call_fin (E := E0) (rs := r1 :: rs) st2 (fun _ z => z) ras2 ?_ (r := r) ?_ (by simpa using hB) (FinQ.sub (q3 : FinQ p y σ S H Q _) (hS.trans hS2) (hH.trans hH2))
                · rw [List.length_map, List.length_cons, evs_len e1, h1, ← hr.len]
                · rw [List.map_cons, hds.1, hds.2]
                  exact e2
              · cases e2
            · cases e2
        cases as with
        | nil =>
          cases rest with
          | nil =>
            refine PE.mono (pe_meth0 (pl := _) ho G.cls hM F hR hbd .nil pass0 (meth_form hb hl rfl hfew)) fun σ H Q q => ?_
            have t := core σ H Q q
            exact rdO.imp t fun x H1 ⟨l, dx, fs, e1, e2, e3, q4⟩ => ⟨l, dx, fs, e1, e2, e3, rdA_nil q4⟩
          | cons _ _ => exact hr.elim
        | cons e as =>
          have hst := hr.star
          have hst2 := hst
          rw [List.all_cons, Bool.and_eq_true] at hst2
          exact PE.mono (pe_meth (pl := _) ho G.cls hM F hR hbd .nil pass0 hr.pa (star_cons hst2.1) (star_any hst2.2) (meth_form hb hl hst hfew)) core
      · cases h3
    · cases h1
end
end DS
namespace DS
open PySem PySem.Spec PyProof.Rows L2
/-! ### texts in order -/
theorem str_ext {a b : Str} (h : a.cps.toList = b.cps.toList) : a = b := by
  cases a; cases b
  congr
  exact Array.toList_inj.mp h
theorem ssort_perm (xs : List Str) : (ssort xs).Perm xs := List.mergeSort_perm _ _
theorem ssort_pw (xs : List Str) : (ssort xs).Pairwise fun a b => ¬ b.cps.toList < a.cps.toList := by
  have h := List.pairwise_mergeSort (le := fun (a b : Str) => !decide (b.cps.toList < a.cps.toList)) (fun a b c h1 h2 => by
    simp only [Bool.not_eq_true', decide_eq_false_iff_not] at h1 h2 ⊢
    exact (List.le_trans (show a.cps.toList ≤ b.cps.toList from h1) (show b.cps.toList ≤ c.cps.toList from h2) : a.cps.toList ≤ c.cps.toList)) (fun a b => by
    simp only [Bool.or_eq_true, Bool.not_eq_true', decide_eq_false_iff_not]
    exact (List.le_total a.cps.toList b.cps.toList : _ ∨ _)) xs
  exact h.imp fun h => by simpa using h
theorem rising_pw : ∀ (l : List Str) (p : Str), risingS p l = true → (p :: l).Pairwise fun a b => ¬ b.cps.toList < a.cps.toList
  | [], p, _ => List.pairwise_singleton _ _
  | x :: r, p, h => by
    unfold risingS at h
    simp only [Bool.and_eq_true, Bool.not_eq_true', ltCps_eq, decide_eq_false_iff_not] at h
    have ih := rising_pw r x h.2
    refine List.pairwise_cons.mpr ⟨fun z hz => ?_, ih⟩
    rcases List.mem_cons.mp hz with e | hz
    · rw [e]
      exact h.1
    · have q := (List.pairwise_cons.mp ih).1 z hz
      exact (List.le_trans (show p.cps.toList ≤ x.cps.toList from h.1) (show x.cps.toList ≤ z.cps.toList from q) : p.cps.toList ≤ z.cps.toList)
theorem sorted_pw : ∀ (l : List Str), sortedS l = true → l.Pairwise fun a b => ¬ b.cps.toList < a.cps.toList
  | [], _ => List.Pairwise.nil
  | x :: r, h => rising_pw r x h
theorem ssort_uniq {xs ys : List Str} (hp : ys.Perm xs) (hs : ys.Pairwise fun a b => ¬ b.cps.toList < a.cps.toList) : ys = ssort xs :=
  List.Perm.eq_of_pairwise (le := fun (a b : Str) => ¬ b.cps.toList < a.cps.toList) (fun a b _ _ h1 h2 => str_ext (List.le_antisymm (show a.cps.toList ≤ b.cps.toList from h1) (show b.cps.toList ≤ a.cps.toList from h2))) hs (ssort_pw xs) (hp.trans (ssort_perm xs).symm)
theorem strs?_eq : ∀ {ds : List D} {ss : List Str}, strs? ds = some ss → ds = ss.map D.str
  | [], ss, h => by
    simp [strs?] at h
    subst h
    rfl
  | d :: ds, ss, h => by
    cases d with
    | str x =>
      simp only [strs?, Option.map_eq_some_iff] at h
      obtain ⟨r, h1, h2⟩ := h
      subst h2
      rw [strs?_eq h1]
      rfl
    | _ => simp [strs?] at h
section
variable {p : Par} {C : Cxt} {T : Tab} {X : Cx} {c : CC} {y : Dy}
theorem Reps.strs {S : Hp} : ∀ {ss : List Str} {vs : List V}, Reps p S (ss.map D.str) vs → vs = ss.map V.str
  | [], vs, r => r
  | n :: ns, vs, r => by
    obtain ⟨v, q, e, r1, r2⟩ := (show ∃ v q, vs = v :: q ∧ Rep p S (.str n) v ∧ Reps p S (ns.map D.str) q from r)
    cases (show v = .str n from r1)
    rw [e, Reps.strs r2]
    rfl
theorem Reps.ofStrs {S : Hp} : ∀ {ss : List Str}, Reps p S (ss.map D.str) (ss.map V.str)
  | [] => rfl
  | n :: ns => ⟨.str n, ns.map V.str, rfl, rfl, Reps.ofStrs⟩
theorem n_sortS (hX : XOk p C T X c) {a : IR} {e : Expr} {pos pos' : Pos} (hg : glB c ("sorted" : Str) = true) (hs : notStar e = true) (ha : PE X e (rdQ p C y a)) : PE X (.Call (.Name "sorted" pos') [e] [] pos) (rdE p C y (.op .sortS (.cons a .nil))) := by
  obtain ⟨g1, g2, g3⟩ := hX.gl hg
  have hm : X.mg ("sorted" : Str) = none := blt_mg hX .sorted
  have hpa : PA X [e] (tCons (rdQ p C y a) tNil) := pa_cons ha pa_nil (star_cons hs)
  refine PE.mono (pe_callB (id := "sorted") cr_sortedS g1 hm (boot_blt .sorted) hpa g3 g2 (star_cons hs) rfl) fun σ H Q h => op1_rd h fun r1 ρ1 v H1 S1 r e1 st1 ra fin => ?_
  have rv := ra.viewV st1
  simp only [opD] at e1
  split at e1
  · rename_i ys hr
    simp only [List.cons.injEq, and_true] at hr
    rw [hr] at rv
    split at e1
    · rename_i ss hss
      split at e1
      · rename_i hl
        cases e1
        obtain ⟨l, vs, e2, q, rr⟩ := rv.lst'
        rw [strs?_eq hss] at rr
        cases Reps.strs rr
        refine ⟨l, ss, by rw [e2], by rw [hX.K]; exact .inl q, hl, fun zs a hp hs ha => ?_⟩
        rw [ssort_uniq hp (sorted_pw _ hs)]
        exact fin.lst st1 Reps.ofStrs a ha
      · cases e1
    · cases e1
  · cases e1
theorem n_bitlen {a : IR} {o : Expr} {apos pos : Pos} (hb : attB o = true) (hl : (apos.endLine == pos.line) = true) (ha : PE X o (rdQ p C y a)) : PE X (.Call (.Attribute o "bit_length" apos) [] [] pos) (rdE p C y (.op .bitlen (.cons a .nil))) :=
  PE.mono (pe_bits ha (att_base hb _ X.env _) hl) fun σ H Q h => op1_rd h fun r1 ρ1 v H1 S1 r e1 st1 ra fin => by
  have rv := ra.viewV st1
  simp only [opD] at e1
  split at e1
  · rename_i i hr
    simp only [List.cons.injEq, and_true] at hr
    rw [hr] at rv
    cases (show v = _ from rv)
    cases e1
    exact ⟨i, rfl, fin.val st1 rfl⟩
  · cases e1
theorem n_upper {a : IR} {o : Expr} {apos pos : Pos} (hb : attB o = true) (hl : (apos.endLine == pos.line) = true) (ha : PE X o (rdQ p C y a)) : PE X (.Call (.Attribute o "upper" apos) [] [] pos) (rdE p C y (.op .upper (.cons a .nil))) :=
  PE.mono (pe_upper ha (att_base hb _ X.env _) hl) fun σ H Q h => op1_rd h fun r1 ρ1 v H1 S1 r e1 st1 ra fin => by
  have rv := ra.viewV st1
  simp only [opD] at e1
  split at e1
  · rename_i i hr
    simp only [List.cons.injEq, and_true] at hr
    rw [hr] at rv
    cases (show v = _ from rv)
    split at e1
    · rename_i hz
      cases e1
      exact ⟨⟨i, rfl⟩, i, rfl, rfl, hz, fin.val st1 rfl⟩
    · cases e1
  · cases e1
theorem find_str {ss : List Str} {z : Str} {j : Nat} (h : (ss.findIdx? fun s => decide (s = z)) = some j) : ss[j]? = some z ∧ ∀ m, m < j → ss[m]? ≠ some z := by
  rw [List.findIdx?_eq_some_iff_getElem] at h
  obtain ⟨hj, h1, h2⟩ := h
  refine ⟨by rw [List.getElem?_eq_getElem hj, of_decide_eq_true h1], fun m hm e => ?_⟩
  have := h2 m hm
  rw [List.getElem?_eq_getElem (by omega)] at e
  exact this (by simpa using Option.some.inj e)
/-- a method of a tuple that is known to have no dict -/
def tTM (r : V → List V → Hp → VK → Prop) (to : TE) (t : TA) : TE := fun σ H Q => to σ H fun x H1 => (∃ a vs, x = .ref a ∧ TupS H1 a vs) ∧ t σ H1 fun xs H2 => r x xs H2 Q
theorem tup_is {pins : List (Addr × Obj)} {σ : L2.St} {H : Hp} {s : Shared} {x : V} {v : Value} (I : Inv X pins σ H s) (rel : RelV x v) (h : ∃ a vs, x = .ref a ∧ TupS H a vs) : s.TypeIs v "tuple" ∧ ∀ a, v = .ref a → ∃ ob, s.heap.get? a = some ob ∧ ob.dict = none := by
  obtain ⟨a, vs, rfl, ob, e, d⟩ := h
  cases rel
  obtain ⟨g, -, us, -, o2, g2, cl, -⟩ := (show ObjOk X.prog X.w H s.heap a (.frz ob (.tup vs)) from I.hok a _ e)
  exact ⟨⟨o2, g2, cl⟩, fun b eb => by cases eb; exact ⟨ob, g, d⟩⟩
theorem pe_tm {name : Str} {id : String} {r : V → List V → Hp → VK → Prop} {o e : Expr} {to : TE} {t : TA} {apos cpos : Pos} (slot : Slot "tuple" name id) (ty : typeOf (.builtin id) = pure (.type "method_descriptor")) (rule : MtR X id r) (ho : PE X o to) (ha : PA X [e] t)
    (hb : attB o = true) (hl : (apos.endLine == cpos.line) = true) (hs : notStar e = true) : PE X (.Call (.Attribute o name apos) [e] [] cpos) (tTM r to t) := by
  constructor
  intro pins s σ H Q I todo
  refine wpAny_Call_method_late (att_base hb name X.env _) (by rw [star_cons hs]; rfl) hl rfl (thn (ho.run pins s σ H _ I todo) ?_)
  rintro v s1 ⟨x, H1, I1, rel, isT, rest⟩
  obtain ⟨ty1, nod⟩ := tup_is I1 rel isT
  have run := ha.run cpos pins s1 σ H1 _ I1 rest
  rw [star_cons hs] at run ⊢
  refine ⟨"tuple", id, PySem.F.plainAttrs_tuple, slot, ty, ty1, nod, Calls.callWith_builtin rfl (Calls.evalArgs_plain (thn run ?_))⟩
  rintro us s2 ⟨vs, H2, I2, rel2, q2⟩
  exact rule pins s2 σ H2 x vs v us Q I2 rel rel2 q2
theorem index_list {d e : D} {k : Nat} (h : indexD false d e = some k) : ∃ xs z ss, (d = .lst xs ∨ d = .rol xs) ∧ e = .str z ∧ strs? xs = some ss ∧ (ss.findIdx? fun s => decide (s = z)) = some k := by
  unfold indexD at h
  split at h
  · rw [if_neg Bool.false_ne_true] at h; cases h
  · rename_i xs z
    rw [if_neg Bool.false_ne_true, Option.bind_eq_some_iff] at h
    obtain ⟨ss, h1, h2⟩ := h
    exact ⟨xs, z, ss, .inl rfl, rfl, h1, h2⟩
  · rename_i xs z
    rw [if_neg Bool.false_ne_true, Option.bind_eq_some_iff] at h
    obtain ⟨ss, h1, h2⟩ := h
    exact ⟨xs, z, ss, .inr rfl, rfl, h1, h2⟩
  · cases h
theorem flat_strs : ∀ ss : List Str, (ss.map V.str).all flatV = true
  | [] => rfl
  | _ :: ss => by rw [List.map_cons, List.all_cons, flat_strs ss]; rfl
theorem n_index (hX : XOk p C T X c) {t : Bool} {a b : IR} {o e : Expr} {apos pos : Pos} (hb : attB o = true) (hl : (apos.endLine == pos.line) = true) (hs : notStar e = true) (ha : PE X o (rdQ p C y a)) (he : PE X e (rdQ p C y b)) :
    PE X (.Call (.Attribute o "index" apos) [e] [] pos) (rdE p C y (.op (.index t) (.cons a (.cons b .nil)))) := by
  cases t with
  | true =>
    refine PE.mono (pe_tm PySem.F.slot_tuple_index PySem.F.type_tuple_index mt_tup_index ha (pa_cons he pa_nil (star_cons hs)) hb hl hs) fun σ H Q h => ?_
    obtain ⟨S, ρ, st, q⟩ := h
    have q := op2_res q
    refine one_rd (k := fun x => (sq (ev C b x.2)).bnd fun z => (opD C (.index true) [x.1.view, z.1.view]).bnd fun r => if [x.1, z.1].any Ar.isB && !r.noL then .bad else .ok (r, z.2)) st q fun r1 ρ1 v H1 S1 q1 st1 hS hH s ra => ?_
    have rv := ra.viewV st1
    have rv0 := rv
    obtain ⟨w0, e0, q0⟩ := Res.bnd q1
    obtain ⟨r, e1, _⟩ := Res.bnd q0
    simp only [opD] at e1
    split at e1
    · rename_i k hk
      unfold indexD at hk
      split at hk
      · rename_i xs z h1 h2
        rw [h1] at rv
        obtain ⟨l, vs, e2, q4, rr⟩ := (show ∃ a vs, v = .ref a ∧ TupS S1 a vs ∧ Reps p S1 xs vs from rv)
        obtain ⟨ob, q5, q6⟩ := q4
        refine ⟨⟨l, vs, e2, ob, st1.sub _ _ q5, q6⟩, ?_⟩
        have q1 : Res ((sq (ev C b ρ1)).bnd fun z => (opD C (.index true) [r1.view, z.1.view]).bnd fun r => if [r1, z.1].any Ar.isB && !r.noL then .bad else .ok (r, z.2)) (FinQ p y σ S H Q) := q1
        refine one_rd st1 q1 fun r2 ρ2 w H2 S2 q2 st2 hS2 hH2 _ rb => ?_
        have rw2 := rb.viewV st2
        obtain ⟨r', e1', q7⟩ := Res.bnd q2
        rw [h1] at e1'
        simp only [opD] at e1'
        split at e1'
        · rename_i k' hk'
          unfold indexD at hk'
          split at hk'
          · rename_i xs' z' h3 h4
            cases h3
            rw [h4] at rw2
            cases (show w = _ from rw2)
            rw [if_pos rfl, Option.bind_eq_some_iff] at hk'
            obtain ⟨ss, h5, h6⟩ := hk'
            cases e1'
            obtain ⟨a1, a2⟩ := find_str h6
            rw [strs?_eq h5] at rr
            cases Reps.strs rr
            refine ⟨l, ss, z', k', e2, rfl, by rw [hX.K]; exact .inl (.inr ⟨ob, st2.sub _ _ (hS2 _ _ q5)⟩), a1, a2, ?_⟩
            split at q7
            · exact q7.elim
            · exact FinQ.val (FinQ.sub (q7 : FinQ p y σ S H Q _) (hS.trans hS2) (hH.trans hH2)) st2 rfl
          · rename_i h3 _
            cases h3
          · rename_i h3 _
            cases h3
          · cases hk'
        · cases e1'
      · rw [if_pos rfl] at hk; cases hk
      · rw [if_pos rfl] at hk; cases hk
      · cases hk
    · cases e1
  | false =>
    refine PE.mono (pe_bm PySem.F.plainAttrs_list PySem.F.slot_list_index PySem.F.type_list_index mt_index ha (pa_cons he pa_nil (star_cons hs)) (att_base hb _ X.env _) (by rw [star_cons hs]; rfl) hl (star_cons hs) rfl) fun σ H Q h => ?_
    obtain ⟨S, ρ, st, q⟩ := h
    have q := op2_res q
    refine one_rd (k := fun x => (sq (ev C b x.2)).bnd fun z => (opD C (.index false) [x.1.view, z.1.view]).bnd fun r => if [x.1, z.1].any Ar.isB && !r.noL then .bad else .ok (r, z.2)) st q fun r1 ρ1 v H1 S1 q1 st1 hS hH s ra => ?_
    have rv := ra.viewV st1
    obtain ⟨w0, e0, q0⟩ := Res.bnd q1
    obtain ⟨r, e1, _⟩ := Res.bnd q0
    simp only [opD] at e1
    split at e1
    · rename_i k hk
      obtain ⟨xs, z, ss, h1, h2, h5, _⟩ := index_list hk
      obtain ⟨l, vs, e2, q4, rr⟩ : ∃ l vs, v = .ref l ∧ SqL p.K H1 l vs ∧ Reps p S1 xs vs := by
        rcases h1 with h1 | h1
        · rw [h1] at rv
          obtain ⟨l, vs, e2, q4, rr⟩ := rv.lst'
          exact ⟨l, vs, e2, .inl q4, rr⟩
        · rw [h1] at rv
          exact rv.rol' st1.sub
      rw [strs?_eq h5] at rr
      cases Reps.strs rr
      refine ⟨by rw [e2]; exact .inl ⟨rfl, _, by rw [hX.K]; exact q4⟩, ?_⟩
      have q1 : Res ((sq (ev C b ρ1)).bnd fun z => (opD C (.index false) [r1.view, z.1.view]).bnd fun r => if [r1, z.1].any Ar.isB && !r.noL then .bad else .ok (r, z.2)) (FinQ p y σ S H Q) := q1
      refine one_rd st1 q1 fun r2 ρ2 w H2 S2 q2 st2 hS2 hH2 _ rb => ?_
      have rw2 := rb.viewV st2
      obtain ⟨r', e1', q7⟩ := Res.bnd q2
      simp only [opD] at e1'
      split at e1'
      · rename_i k' hk'
        cases e1'
        obtain ⟨xs', z', ss', g1, g2, g5, g6⟩ := index_list hk'
        have ex : xs' = xs := by
          rcases h1 with h1 | h1 <;> rcases g1 with g1 | g1 <;> (rw [h1] at g1; cases g1; try rfl)
        subst ex
        rw [h5] at g5
        cases g5
        rw [g2] at rw2
        cases (show w = _ from rw2)
        obtain ⟨a1, a2⟩ := find_str g6
        refine ⟨l, ss.map V.str, .str z', k', .str z', e2, rfl, by rw [hX.K]; exact DS.SqL.sub hH2 q4, rfl, flat_strs ss, by rw [List.getElem?_map, a1]; rfl, by simp [eqV], fun m u hm hu => ?_, ?_⟩
        · rw [List.getElem?_map] at hu
          cases hs : ss[m]? with
          | none => rw [hs] at hu; cases hu
          | some s' =>
            rw [hs] at hu
            cases hu
            have := a2 m hm
            rw [hs] at this
            show (s' == z') = false
            simpa using fun q => this (by rw [q])
        · split at q7
          · exact q7.elim
          · exact FinQ.val (FinQ.sub (q7 : FinQ p y σ S H Q _) (hS.trans hS2) (hH.trans hH2)) st2 rfl
      · cases e1'
    · cases e1
theorem isC_fin {k : Nat} {ce : ClE} {d : D} {v : V} {b : Bool} {S H : Hp} (G : ClG X.K X.mg p k ce) (hK : X.K = p.K) (e : isCD d k = some b) (hSH : Sub S H) (r : RepV p S H d v) : ∃ t, TyX X.K H v t ∧ PySem.W.kitOne X.K t (.ref (p.cl k)) = some b := by
  have ty : ∀ {t : String}, tyD d = some t → TyX X.K H v (.type t) := fun h => by rw [hK]; exact ty_rep h hSH r
  cases d with
  | non => cases e; exact ⟨_, ty rfl, G.isi.non⟩
  | bl _ => cases e; exact ⟨_, ty rfl, G.isi.bl⟩
  | int _ => cases e; exact ⟨_, ty rfl, G.isi.int⟩
  | str _ => cases e; exact ⟨_, ty rfl, G.isi.str⟩
  | tup _ => cases e; exact ⟨_, ty rfl, G.isi.tup⟩
  | lst _ => cases e; exact ⟨_, ty rfl, G.isi.lst⟩
  | rol _ => cases e; exact ⟨_, ty rfl, G.isi.lst⟩
  | pr _ _ => cases e
  | ins k' fs =>
    simp only [isCD] at e
    split at e
    · rename_i hk
      subst hk
      cases e
      obtain ⟨a, dx, vs, e1, q, _⟩ := (show ∃ a dx vs, v = .ref a ∧ S a = some (.ins (p.cl k') dx ((p.fields k').zip vs)) ∧ Reps p S fs vs from r)
      subst e1
      exact ⟨_, .base (.ins (hSH _ _ q) G.cls G.isi.cl G.isi.get G.isi.tk G.isi.mro), G.isi.own⟩
    · cases e
theorem n_isC (hX : XOk p C T X c) {k : Nat} {x : Str} {a : IR} {e : Expr} {pos pos' pos2 : Pos} (hg : glB c ("isinstance" : Str) = true) (hc : clB T k x = true) (hgx : glB c x = true) (hs : notStar e = true) (ha : PE X e (rdQ p C y a)) :
    PE X (.Call (.Name "isinstance" pos') [e, .Name x pos2] [] pos) (rdE p C y (.op (.isC k) (.cons a .nil))) := by
  obtain ⟨g1, g2, g3⟩ := hX.gl hg
  obtain ⟨h1, h2, h3⟩ := hX.gl hgx
  obtain ⟨ce, _, en, S0⟩ := hX.cl hc
  have G := S0.g
  have hn : PE X (.Name x pos2) (tC (.ref (p.cl k))) := pe_glob h1 (en ▸ G.mg) rfl h2
  have hpa : PA X [e, .Name x pos2] (tCons (rdQ p C y a) (tCons (tC (.ref (p.cl k))) tNil)) := pa_cons ha (pa_cons hn pa_nil (star_cons rfl)) (star_cons hs)
  have hm : X.mg ("isinstance" : Str) = none := blt_mg hX (.isi (.ty ""))
  refine PE.mono (pe_callB (id := "isinstance") call_isi g1 hm (boot_blt (.isi (.ty ""))) hpa g3 g2 (star_cons hs) (star_any rfl)) fun σ H Q h => op1_rd h fun r1 ρ1 v H1 S1 r e1 st1 ra fin => ?_
  simp only [opD] at e1
  split at e1
  · rename_i b hb
    cases e1
    obtain ⟨t, ty, q⟩ := isC_fin G hX.K hb st1.sub (ra.viewV st1)
    exact ⟨v, .ref (p.cl k), t, .ref (p.cl k), b, rfl, .own _, ty, q, fin.val st1 rfl⟩
  · cases e1
end
end DS
/-! ## sorted(rows): rows of a number, a tuple of numbers, a number -/
namespace DS
open PySem PySem.Spec PyProof.Rows L2
/-! ### the order -/
theorem list_tri (xs ys : List Int) : xs < ys ∨ xs = ys ∨ ys < xs := by
  by_cases h : xs < ys
  · exact .inl h
  · by_cases h2 : ys < xs
    · exact .inr (.inr h2)
    · exact .inr (.inl (List.le_antisymm (show xs ≤ ys from h2) (show ys ≤ xs from h)))
theorem lex_lt : ∀ (xs ys : List Int), HT.lexLt xs ys = decide (xs < ys)
  | [], [] => by simp [HT.lexLt]
  | [], _ :: _ => by simp [HT.lexLt]
  | _ :: _, [] => by simp [HT.lexLt]
  | x :: xs, y :: ys => by
    rw [HT.lexLt_cons, lex_lt xs ys]
    by_cases h : x = y
    · subst h
      simp [List.cons_lt_cons_iff]
    · simp [List.cons_lt_cons_iff, h]
theorem ltT_no {s t : Trip} : ltT s t = false ↔ t.1 < s.1 ∨ (t.1 = s.1 ∧ (t.2.1 < s.2.1 ∨ (t.2.1 = s.2.1 ∧ t.2.2 ≤ s.2.2))) := by
  unfold ltT
  by_cases h1 : s.1 = t.1
  · rw [if_pos h1]
    by_cases h2 : s.2.1 = t.2.1
    · rw [if_pos h2, decide_eq_false_iff_not]
      constructor
      · intro h
        exact .inr ⟨h1.symm, .inr ⟨h2.symm, by omega⟩⟩
      · rintro (h | ⟨_, h | ⟨_, h⟩⟩)
        · omega
        · rw [h2] at h
          exact absurd h (List.lt_irrefl _)
        · omega
    · rw [if_neg h2, lex_lt, decide_eq_false_iff_not]
      constructor
      · intro h
        refine .inr ⟨h1.symm, .inl ?_⟩
        rcases list_tri t.2.1 s.2.1 with q | q | q
        · exact q
        · exact absurd q.symm h2
        · exact absurd q h
      · rintro (h | ⟨_, h | ⟨h, _⟩⟩)
        · omega
        · exact fun q => List.lt_asymm h q
        · exact absurd h.symm h2
  · rw [if_neg h1, decide_eq_false_iff_not]
    constructor
    · intro h
      exact .inl (by omega)
    · rintro (h | ⟨h, _⟩)
      · omega
      · exact absurd h.symm h1
theorem ltT_total (s t : Trip) : ltT s t = false ∨ ltT t s = false := by
  rw [ltT_no, ltT_no]
  rcases Int.lt_trichotomy s.1 t.1 with h | h | h
  · exact .inr (.inl h)
  · rcases list_tri s.2.1 t.2.1 with q | q | q
    · exact .inr (.inr ⟨h, .inl q⟩)
    · rcases Int.le_total s.2.2 t.2.2 with u | u
      · exact .inr (.inr ⟨h, .inr ⟨q, u⟩⟩)
      · exact .inl (.inr ⟨h.symm, .inr ⟨q.symm, u⟩⟩)
    · exact .inl (.inr ⟨h.symm, .inl q⟩)
  · exact .inl (.inl h)
theorem ltT_trans {x y z : Trip} (h1 : ltT y x = false) (h2 : ltT z y = false) : ltT z x = false := by
  rw [ltT_no] at h1 h2 ⊢
  rcases h1 with h1 | ⟨h1, h1'⟩ <;> rcases h2 with h2 | ⟨h2, h2'⟩
  · exact .inl (by omega)
  · exact .inl (by omega)
  · exact .inl (by omega)
  · refine .inr ⟨by omega, ?_⟩
    rcases h1' with a | ⟨a, a'⟩ <;> rcases h2' with b | ⟨b, b'⟩
    · exact .inl (List.lt_trans a b)
    · exact .inl (b ▸ a)
    · exact .inl (a ▸ b)
    · exact .inr ⟨a.trans b, by omega⟩
theorem ltT_anti {x y : Trip} (h1 : ltT y x = false) (h2 : ltT x y = false) : x = y := by
  rw [ltT_no] at h1 h2
  obtain ⟨a, b, c⟩ := x
  obtain ⟨a', b', c'⟩ := y
  dsimp only at h1 h2
  rcases h1 with h1 | ⟨h1, h1'⟩ <;> rcases h2 with h2 | ⟨h2, h2'⟩
  · omega
  · omega
  · omega
  · rcases h1' with u | ⟨u, u'⟩ <;> rcases h2' with v | ⟨v, v'⟩
    · exact absurd v (List.lt_asymm u)
    · rw [v] at u
      exact absurd u (List.lt_irrefl _)
    · rw [u] at v
      exact absurd v (List.lt_irrefl _)
    · rw [h1, u, show c = c' from by omega]
theorem ltT_swo (k : Value → Trip) : SrtO.Swo fun v u => ltT (k v) (k u) where
  asym := fun x y h => (ltT_total (k x) (k y)).resolve_left (by rw [h]; simp)
  tr := fun x y z h1 h2 => ltT_trans h1 h2
theorem tsort_perm (ts : List Trip) : (tsort ts).Perm ts := List.mergeSort_perm _ _
theorem tsort_pw (ts : List Trip) : (tsort ts).Pairwise fun a b => ltT b a = false := by
  have h := List.pairwise_mergeSort (le := fun (a b : Trip) => !ltT b a) (fun a b c h1 h2 => by
    simp only [Bool.not_eq_true'] at h1 h2 ⊢
    exact ltT_trans h1 h2) (fun a b => by
    simp only [Bool.or_eq_true, Bool.not_eq_true']
    exact (ltT_total b a)) ts
  exact h.imp fun h => by simpa using h
theorem tsort_uniq {ts us : List Trip} (hp : us.Perm ts) (hs : us.Pairwise fun a b => ltT b a = false) : us = tsort ts :=
  List.Perm.eq_of_pairwise (le := fun (a b : Trip) => ltT b a = false) (fun a b _ _ h1 h2 => ltT_anti h1 h2) hs (tsort_pw ts) (hp.trans (tsort_perm ts).symm)

/-! ### the rows in the heap -/
def IsTrip (h : Heap) (v : Value) (t : Trip) : Prop := ∃ (a : Addr) (o : Obj) (b : Addr) (us : List Value) (x y : Tok) (n : Nat), v = .ref a ∧ h.get? a = some o ∧ o.cls = .type "tuple" ∧ o.data = .seq #[.int t.1 x, .ref b, .int t.2.2 y] n ∧
  IsTup h b us.toArray ∧ Vals (t.2.1.map V.int) us
theorem IsTrip.keeps {h h' : Heap} {v : Value} {t : Trip} (p : IsTrip h v t) (k : ∀ b o, h.get? b = some o → o.cls = .type "tuple" → h'.get? b = some o) : IsTrip h' v t := by
  obtain ⟨a, o, b, us, x, y, n, e, ho, hc, hd, ⟨o2, h2, c2, d2⟩, r⟩ := p
  exact ⟨a, o, b, us, x, y, n, e, k _ _ ho hc, hc, hd, ⟨o2, k _ _ h2 c2, c2, d2⟩, r⟩
theorem vals_at : ∀ {ns : List Int} {us : List Value} {j : Nat} (h : j < us.length), Vals (ns.map V.int) us → ∃ t, us[j] = .int (ns.getD j 0) t
  | [], _, _, h, r => by
    cases r
    exact absurd h (Nat.not_lt_zero _)
  | n :: ns, _, j, h, .cons r q => by
    cases j with
    | zero =>
      obtain ⟨t, e⟩ := (show ∃ t, _ = Value.int n t from r)
      exact ⟨t, by simpa using e⟩
    | succ j =>
      obtain ⟨t, e⟩ := vals_at (j := j) (by simpa using h) q
      exact ⟨t, by simpa using e⟩
theorem ints_bool (ns ms : List Int) : ((List.range (min ns.length ms.length)).all (fun j => decide (ns.getD j 0 = ms.getD j 0)) && ns.length == ms.length) = decide (ns = ms) := by
  by_cases h : ns = ms
  · subst h
    simp
  · rw [decide_eq_false h]
    by_cases hl : ns.length = ms.length
    · rw [Bool.and_eq_false_iff]
      left
      rw [Bool.eq_false_iff]
      intro q
      apply h
      apply List.ext_getElem hl
      intro j h1 h2
      have := List.all_eq_true.mp q j (List.mem_range.mpr (by omega))
      have := of_decide_eq_true this
      rw [List.getD_eq_getElem?_getD, List.getD_eq_getElem?_getD, List.getElem?_eq_getElem h1, List.getElem?_eq_getElem h2] at this
      simpa using this
    · rw [Bool.and_eq_false_iff]
      right
      simpa using hl
section
variable {prog : Program} {w : World} {A : Around} {E : Value → Shared → Prop} {s : Shared}
theorem eq_ints {b c : Addr} {us ws : List Value} {ns ms : List Int} (hb : IsTup s.heap b us.toArray) (hc : IsTup s.heap c ws.toArray) (r : Vals (ns.map V.int) us) (q : Vals (ms.map V.int) ws) (hu : A.units < cLine) : SeqAt.EqAt A s (.ref b) (.ref c) (decide (ns = ms)) := by
  have l1 := r.length
  have l2 := q.length
  rw [List.length_map] at l1 l2
  by_cases e : b = c
  · subst e
    have same : us = ws := by
      obtain ⟨o, h1, _, n, h3⟩ := hb
      obtain ⟨o', h1', _, n', h3'⟩ := hc
      rw [h1] at h1'
      cases h1'
      rw [h3] at h3'
      have := (Data.seq.inj h3').1
      simpa using this
    subst same
    have : ns = ms := by
      apply List.ext_getElem (by omega)
      intro j h1 h2
      obtain ⟨t, e1⟩ := vals_at (j := j) (by omega) r
      obtain ⟨t', e2⟩ := vals_at (j := j) (by omega) q
      rw [e1] at e2
      have e3 := (Value.int.inj e2).1
      rw [List.getD_eq_getElem?_getD, List.getD_eq_getElem?_getD, List.getElem?_eq_getElem h1, List.getElem?_eq_getElem h2] at e3
      simpa using e3
    rw [decide_eq_true this]
    exact SeqAt.EqAt.same _
  · have key := SeqAt.RcAt.tuples (A := A) (s := s) (e := fun j => decide (ns.getD j 0 = ms.getD j 0)) (show s.heap.IsTuple b us.toArray from hb) (show s.heap.IsTuple c ws.toArray from hc) hu fun j h1 h2 => by
      obtain ⟨t, e1⟩ := vals_at (j := j) (by simpa using h1) r
      obtain ⟨t', e2⟩ := vals_at (j := j) (by simpa using h2) q
      rw [List.getElem_toArray, List.getElem_toArray, e1, e2]
      have := SeqAt.EqAt.int_int (A := A.in1) (s := s) (ns.getD j 0) t (ms.getD j 0) t'
      rwa [show (ns.getD j 0 == ms.getD j 0) = decide (ns.getD j 0 = ms.getD j 0) from by rw [Bool.eq_iff_iff]; simp] at this
    rw [List.size_toArray, List.size_toArray, ← l1, ← l2, ints_bool] at key
    exact SeqAt.EqAt.of_refs e key
theorem trip_cmp {vs : List Value} {k : Value → Trip} (hu : A.units < cLine) (hp : ∀ v ∈ vs, IsTrip s.heap v (k v)) : SrtO.Cmp prog w A s (tuples' true) (fun p => p.1 ∈ vs) (SrtO.lt2 fun v u => ltT (k v) (k u)) := by
  intro p q hm hm'
  have h1 := hp _ hm
  have h2 := hp _ hm'
  show wpAny (model prog w) A (keyLt' (tuples' true) p.1 q.1) (fun r s' => s' = s ∧ r = ltT (k p.1) (k q.1)) (fun _ _ => False) s
  generalize k p.1 = t at h1 ⊢
  generalize k q.1 = t' at h2 ⊢
  obtain ⟨x, ns, y⟩ := t
  obtain ⟨x', ms, y'⟩ := t'
  obtain ⟨a, o, b, us, tx, ty, n, e, ho, hc, hd, hb, r⟩ := h1
  obtain ⟨a', o', b', us', tx', ty', n', e', ho', hc', hd', hb', r'⟩ := h2
  dsimp only at hd r hd' r'
  rw [e, e']
  refine PySem.W.kat_lt ho hd ho' hd' ?_
  show PySem.W.KatLex prog w A true (decide (3 < 3)) _ [(.int x tx, .int x' tx'), (.ref b, .ref b'), (.int y ty, .int y' ty')] 0 s
  unfold ltT
  dsimp only
  refine PySem.W.kat_cons (SeqAt.EqAt.int_int x tx x' tx' prog w _ _ ?_)
  refine PySem.W.kat_go (fun e1 => ?_) (fun e1 => ?_)
  · have ex : x = x' := by simpa using e1
    rw [if_pos ex]
    refine PySem.W.kat_yes (PySem.W.kat_cons (eq_ints hb hb' r r' hu prog w _ _ ?_))
    refine PySem.W.kat_go (fun e2 => ?_) (fun e2 => ?_)
    · have en : ns = ms := of_decide_eq_true e2
      rw [if_pos en]
      refine PySem.W.kat_yes (PySem.W.kat_cons (SeqAt.EqAt.int_int y ty y' ty' prog w _ _ ?_))
      refine PySem.W.kat_go (fun e3 => ?_) (fun e3 => ?_)
      · have ey : y = y' := by simpa using e3
        refine PySem.W.kat_yes (PySem.W.kat_nil ⟨rfl, ?_⟩)
        rw [ey]
        exact (decide_eq_false (Int.lt_irrefl _)).symm
      · refine PySem.W.kat_no (PySem.W.kat_one _ _ (PyProof.Rows.lt_int ?_))
        exact (show s = s ∧ decide (y < y') = decide (y < y') from ⟨rfl, rfl⟩)
    · have en : ¬ ns = ms := of_decide_eq_false e2
      rw [if_neg en]
      refine PySem.W.kat_no (PySem.W.kat_one _ _ (HT.lt_tupInts hb hb' (intsAre_of r) (intsAre_of r') hu ?_))
      exact (show s = s ∧ HT.lexLt ns ms = HT.lexLt ns ms from ⟨rfl, rfl⟩)
  · have ex : ¬ x = x' := by simpa using e1
    rw [if_neg ex]
    exact PySem.W.kat_no (oneLt_int ⟨rfl, rfl⟩)
theorem trip_firsts {h : Heap} : ∀ {vs : List Value}, (∀ v ∈ vs, ∃ t, IsTrip h v t) → ∃ fs : List Value, PySem.W.KatTups h vs fs ∧ fs.length = vs.length ∧ ∀ f ∈ fs, ∃ x t, f = Value.int x t
  | [], _ => ⟨[], PySem.W.KatTups.nil, rfl, fun _ hm => nomatch hm⟩
  | v :: vs, hp => by
    obtain ⟨fs, h1, h2, h3⟩ := trip_firsts (vs := vs) fun v' hm => hp v' (List.mem_cons_of_mem _ hm)
    obtain ⟨⟨x, ns, y⟩, a, o, b, us, tx, ty, n, e, ho, hc, hd, _, _⟩ := hp v List.mem_cons_self
    subst e
    refine ⟨.int x tx :: fs, PySem.W.KatTups.cons ho hc hd rfl h1, by rw [List.length_cons, List.length_cons, h2], fun f hm => ?_⟩
    rcases List.mem_cons.mp hm with q | q
    · exact ⟨x, tx, q⟩
    · exact h3 f q
theorem trip_sortable {a : Addr} {vs : List Value} {k : Value → Trip} (h0 : 0 < vs.length) (hu : A.units < cLine) (hp : ∀ v ∈ vs, IsTrip s.heap v (k v)) (ha : ∀ o, s.heap.get? a = some o → o.cls ≠ .type "tuple") : SrtO.SortableO prog w A s a vs fun v u => ltT (k v) (k u) := by
  intro h' keep
  have hp' : ∀ v ∈ vs, IsTrip h' v (k v) := fun v hm => (hp v hm).keeps fun b o e c => keep b o (fun z => by subst z; exact ha o e c) e
  obtain ⟨fs, h1, h2, h3⟩ := trip_firsts fun v hm => ⟨_, hp' v hm⟩
  refine ⟨tuples' true, fun Q E hq => ?_, trip_cmp hu hp'⟩
  refine PySem.W.kat_kind (T := .type "int") h1 (by omega) (fun f hm => ?_) (by rfl) ?_
  · obtain ⟨x, t, rfl⟩ := h3 f hm
    exact PySem.W.Looks.now
  · have ne : (Value.type "int" != Value.type "tuple") = true := by decide +kernel
    rw [ne]
    exact hq
end
section
variable {p : Par} {C : Cxt} {T : Tab} {X : Cx} {c : CC} {y : Dy}
theorem trip?_eq {d : D} {t : Trip} (h : trip? d = some t) : d = trD t := by
  unfold trip? at h
  split at h
  · rename_i a ns b
    simp only [Option.map_eq_some_iff] at h
    obtain ⟨ms, h1, h2⟩ := h
    subst h2
    rw [ints?_eq h1]
    rfl
  · cases h
theorem trips?_eq : ∀ {ds : List D} {ts : List Trip}, trips? ds = some ts → ds = ts.map trD
  | [], ts, h => by
    simp [trips?] at h
    subst h
    rfl
  | d :: ds, ts, h => by
    simp only [trips?] at h
    split at h
    · rename_i x xs h1 h2
      cases h
      rw [trip?_eq h1, trips?_eq h2]
      rfl
    · cases h
/-- such a row, as the machine holds it -/
theorem trip_rep {pins : List (Addr × Obj)} {σ : L2.St} {H S : Hp} {s : Shared} (I : Inv X pins σ H s) (hK : X.K = p.K) (hSH : Sub S H) {t : Trip} {v : V} (r : Rep p S (trD t) v) {u : Value} (ru : RelV v u) : IsTrip s.heap u t := by
  obtain ⟨a, vs, e, ⟨o, q, _⟩, rr⟩ := (show ∃ a vs, v = .ref a ∧ TupS S a vs ∧ Reps p S [.int t.1, .tup (t.2.1.map .int), .int t.2.2] vs from r)
  subst e
  cases ru
  obtain ⟨v1, r1, e1, k1, rr⟩ := (show ∃ v r, vs = v :: r ∧ Rep p S (.int t.1) v ∧ Reps p S [.tup (t.2.1.map .int), .int t.2.2] r from rr)
  obtain ⟨v2, r2, e2, k2, rr⟩ := (show ∃ v r, r1 = v :: r ∧ Rep p S (.tup (t.2.1.map .int)) v ∧ Reps p S [.int t.2.2] r from rr)
  obtain ⟨v3, r3, e3, k3, rr⟩ := (show ∃ v r, r2 = v :: r ∧ Rep p S (.int t.2.2) v ∧ Reps p S [] r from rr)
  cases (show r3 = [] from rr)
  subst e3 e2 e1
  cases (show v1 = _ from k1)
  cases (show v3 = _ from k3)
  obtain ⟨b, ws, e4, q4, r4⟩ := (show ∃ a vs, v2 = .ref a ∧ TupS S a vs ∧ Reps p S (t.2.1.map .int) vs from k2)
  subst e4
  rw [Reps.ints] at r4
  subst r4
  obtain ⟨us, rv, pl, _⟩ := I.tuple (show SqT X.K H b _ from by rw [hK]; exact DS.SqT.sub hSH q4.sqT)
  obtain ⟨its, rv2, ⟨ob, g1, g2, n, g3⟩, _⟩ := I.tuple (show SqT X.K H a [.int t.1, .ref b, .int t.2.2] from by rw [hK]; exact DS.SqT.sub hSH (TupS.sqT ⟨o, q, by assumption⟩))
  obtain ⟨u1, its2, rfl, c1, rv2⟩ : ∃ u r, its = u :: r ∧ RelV (.int t.1) u ∧ Vals [.ref b, .int t.2.2] r := by cases rv2 with | cons a b => exact ⟨_, _, rfl, a, b⟩
  obtain ⟨u2, its3, rfl, c2, rv2⟩ : ∃ u r, its2 = u :: r ∧ RelV (.ref b) u ∧ Vals [.int t.2.2] r := by cases rv2 with | cons a b => exact ⟨_, _, rfl, a, b⟩
  obtain ⟨u3, its4, rfl, c3, rv2⟩ : ∃ u r, its3 = u :: r ∧ RelV (.int t.2.2) u ∧ Vals [] r := by cases rv2 with | cons a b => exact ⟨_, _, rfl, a, b⟩
  cases rv2
  obtain ⟨tx, rfl⟩ := (show ∃ t', u1 = Value.int t.1 t' from c1)
  cases (show u2 = Value.ref b from c2)
  obtain ⟨ty, rfl⟩ := (show ∃ t', u3 = Value.int t.2.2 t' from c3)
  exact ⟨a, ob, b, us, tx, ty, n, rfl, g1, g2, g3, pl, rv⟩
theorem IsTrip.uniq {h : Heap} {v : Value} {t t' : Trip} (p : IsTrip h v t) (q : IsTrip h v t') : t = t' := by
  obtain ⟨x, ns, y⟩ := t
  obtain ⟨x', ms, y'⟩ := t'
  obtain ⟨a, o, b, us, tx, ty, n, e, ho, hc, hd, hb, r⟩ := p
  obtain ⟨a', o', b', us', tx', ty', n', e', ho', hc', hd', hb', r'⟩ := q
  rw [e] at e'
  cases e'
  rw [ho] at ho'
  cases ho'
  rw [hd] at hd'
  have e1 := (Data.seq.inj hd').1
  simp only [Array.mk.injEq, List.cons.injEq, Value.int.injEq, Value.ref.injEq, and_true] at e1
  obtain ⟨⟨e1, _⟩, e2, e3, _⟩ := e1
  dsimp only at e1 e3 r r'
  subst e2
  obtain ⟨o2, h1, _, n2, h3⟩ := hb
  obtain ⟨o3, h1', _, n3, h3'⟩ := hb'
  rw [h1] at h1'
  cases h1'
  rw [h3] at h3'
  have e4 : us = us' := by simpa using (Data.seq.inj h3').1
  subst e4
  have l1 := r.length
  have l2 := r'.length
  rw [List.length_map] at l1 l2
  have e5 : ns = ms := by
    apply List.ext_getElem (by omega)
    intro j h1 h2
    obtain ⟨t, e1⟩ := vals_at (j := j) (by omega) r
    obtain ⟨t', e2⟩ := vals_at (j := j) (by omega) r'
    rw [e1] at e2
    have e3 := (Value.int.inj e2).1
    rw [List.getD_eq_getElem?_getD, List.getD_eq_getElem?_getD, List.getElem?_eq_getElem h1, List.getElem?_eq_getElem h2] at e3
    simpa using e3
  rw [e1, e3, e5]
open Classical in
noncomputable def tripOf (h : Heap) (v : Value) : Trip := if q : ∃ t, IsTrip h v t then q.choose else (0, [], 0)
theorem tripOf_is {h : Heap} {v : Value} {t : Trip} (p : IsTrip h v t) : tripOf h v = t := by
  have q : ∃ t, IsTrip h v t := ⟨t, p⟩
  unfold tripOf
  rw [dif_pos q]
  exact q.choose_spec.uniq p
theorem rows_rep {S : Hp} {k : Value → Trip} : ∀ {l : List Value}, (∀ v ∈ l, Rep p S (trD (k v)) (backV v)) → Reps p S ((l.map k).map trD) (l.map backV)
  | [], _ => rfl
  | v :: l, h => ⟨backV v, l.map backV, rfl, h v List.mem_cons_self, rows_rep fun u hu => h u (List.mem_cons_of_mem _ hu)⟩
theorem pair_back {R : V → Value → Prop} : ∀ {xs : List V} {us : List Value} {j : Nat} {u : Value}, Paired R xs us → us[j]? = some u → ∃ x, xs[j]? = some x ∧ R x u
  | _, _, _, _, .nil, h => by simp at h
  | x :: xs, u' :: us, j, u, .cons r q, h => by
    cases j with
    | zero =>
      have e : u' = u := by simpa using h
      subst e
      exact ⟨x, rfl, r⟩
    | succ j => exact pair_back (j := j) q (by simpa using h)
theorem n_sortT (hX : XOk p C T X c) {a : IR} {e : Expr} {pos pos' : Pos} (hg : glB c ("sorted" : Str) = true) (hs : notStar e = true) (ha : PE X e (rdQ p C y a)) : PE X (.Call (.Name "sorted" pos') [e] [] pos) (rdE p C y (.op .sortT (.cons a .nil))) := by
  obtain ⟨g1, g2, g3⟩ := hX.gl hg
  have hm : X.mg ("sorted" : Str) = none := blt_mg hX .sorted
  have hpa : PA X [e] (tCons (rdQ p C y a) tNil) := pa_cons ha pa_nil (star_cons hs)
  have hu : X.A.in1.in1.units < cLine := by
    have := hX.units
    show X.A.units + 1 + 1 < cLine
    omega
  have rule : CallR X (.builtin "sorted") fun xs H Q => ∃ (l : Addr) (vs : List V) (S : Hp) (ts : List Trip), xs = [.ref l] ∧ Rd H l (.lst vs) ∧ Sub S H ∧ Reps p S (ts.map trD) vs ∧
      ∀ (us : List V) (a : Addr), Reps p S ((tsort ts).map trD) us → H a = none → Q (.ref a) (upd H a (.lst us)) := by
    rintro pins s σ H xs us Q I rel ⟨l, vs, S, ts, rfl, rd, hSH, rr, give⟩
    obtain ⟨few, its, n, rv, hl, hget⟩ := DS.Inv.lstR I rd
    obtain ⟨u, rfl, ru⟩ := vals1 rel
    obtain rfl : u = Value.ref l := ru
    have isL : s.heap.IsList l its.toArray := ⟨_, hget, rfl, n, rfl⟩
    have lts : ts.length = its.length := by
      have := rr.length
      rw [List.length_map] at this
      omega
    have each : ∀ (j : Nat) (v : Value), its[j]? = some v → ∃ t, ts[j]? = some t ∧ IsTrip s.heap v t ∧ ∃ x, RelV x v ∧ Rep p S (trD t) x := fun j v hv => by
      obtain ⟨x, ex, rx⟩ := pair_back rv hv
      obtain ⟨d, ed, rd⟩ := rr.get' ex
      rw [List.getElem?_map] at ed
      cases et : ts[j]? with
      | none => rw [et] at ed; cases ed
      | some t =>
        rw [et] at ed
        cases ed
        exact ⟨t, rfl, trip_rep I hX.K hSH rd rx, x, rx, rd⟩
    have keys : its.map (tripOf s.heap) = ts := by
      apply List.ext_getElem?
      intro j
      rw [List.getElem?_map]
      cases e : its[j]? with
      | none =>
        have := List.getElem?_eq_none_iff.mp e
        rw [List.getElem?_eq_none (by omega)]
        rfl
      | some v =>
        obtain ⟨t, e1, e2, _⟩ := each j v e
        rw [e1, Option.map_some, tripOf_is e2]
    have isT : ∀ v ∈ its, IsTrip s.heap v (tripOf s.heap v) ∧ Rep p S (trD (tripOf s.heap v)) (backV v) := fun v hv => by
      obtain ⟨j, hj⟩ := List.mem_iff_getElem?.mp hv
      obtain ⟨t, _, e2, x, rx, rd⟩ := each j v hj
      rw [tripOf_is e2]
      refine ⟨e2, ?_⟩
      obtain ⟨a, _, _, _, _, _, _, e3, _⟩ := e2
      subst e3
      cases x with
      | ref b => cases (show Value.ref a = Value.ref b from rx); exact rd
      | non => exact absurd (show Value.ref a = Value.none from rx) (fun z => nomatch z)
      | bl b => exact absurd (show Value.ref a = Value.bool b from rx) (fun z => nomatch z)
      | int i => obtain ⟨_, z⟩ := (show ∃ t, Value.ref a = Value.int i t from rx); cases z
      | str i => obtain ⟨_, z⟩ := (show ∃ t, Value.ref a = Value.str i t from rx); cases z
      | byt i => obtain ⟨_, z⟩ := (show ∃ t, Value.ref a = Value.bytes i t from rx); cases z
      | flt i => obtain ⟨_, z⟩ := (show ∃ t, Value.ref a = Value.float i t from rx); cases z
      | ty n => exact absurd (show Value.ref a = Value.type n from rx) (fun z => nomatch z)
    refine SrtO.sorted_ord (ltT_swo (tripOf s.heap)) isL (by omega) (fun h2 h₁ a ha keep => ?_) fun out hs hb => ?_
    · refine trip_sortable (s := { s with heap := h₁ }) (by omega) hu (fun v hv => (isT v hv).1.keeps fun b o e _ => (keep b o e).2) fun o e => ?_
      have e' : some o = some (seqObj "list" its.toArray 0) := e.symm.trans ha
      cases e'
      intro z
      exact absurd (Value.type.inj z) (by decide)
    · have mem : ∀ v ∈ out, v ∈ its := fun v hv => hb.perm.mem_iff.mp hv
      have sorted : out.map (tripOf s.heap) = tsort ts := tsort_uniq (by rw [← keys]; exact hb.perm.map _) (List.pairwise_map.mpr hs)
      have refs : ∀ v ∈ out, ∃ a, v = Value.ref a := fun v hv => by
        obtain ⟨a, _, _, _, _, _, _, e3, _⟩ := (isT v (mem v hv)).1
        exact ⟨a, e3⟩
      have reps := rows_rep (p := p) (S := S) (k := tripOf s.heap) (l := out) fun v hv => (isT v (mem v hv)).2
      rw [sorted] at reps
      obtain ⟨m, hm⟩ := PyProof.Rows.sortedAll_at s.heap its out.toArray
      have outl := hb.len
      refine ⟨.ref (s.heap.objs.size + 1), upd H (s.heap.objs.size + 1) (.lst (out.map backV)), I.laid (t' := s.toks) (fun b o e => PyProof.Rows.sortedAll_old e) (Nat.le_succ _) ⟨?_, out, m, vals_back refs, hm⟩, rfl, give _ _ reps (I.hok.fresh (Nat.le_succ _))⟩
      rw [List.length_map]
      omega
  refine PE.mono (pe_callB (id := "sorted") rule g1 hm (boot_blt .sorted) hpa g3 g2 (star_cons hs) rfl) fun σ H Q h => op1_rd h fun r1 ρ1 v H1 S1 r e1 st1 ra fin => ?_
  have rv := ra.viewV st1
  simp only [opD] at e1
  split at e1
  · rename_i ys hr
    simp only [List.cons.injEq, and_true] at hr
    rw [hr] at rv
    split at e1
    · rename_i ts hts
      cases e1
      obtain ⟨l, vs, e2, q, rr⟩ := rv.lst'
      rw [trips?_eq hts] at rr
      exact ⟨l, vs, S1, ts, by rw [e2], q, st1.sub, rr, fun us a rus ha => fin.lst st1 rus a ha⟩
    · cases e1
  · cases e1
/-- every operation -/
theorem n_op (hX : XOk p C T X c) {o : Op} {es : IRs} {as : List Expr} {e : Expr} (hs : opShape T c es.len o e = some as) (h : PEs p C y X es as) : PE X e (rdE p C y (.op o es)) := by
  unfold opShape at hs
  split at hs
  · split at hs
    · rename_i k f a g pos hc
      cases hs
      obtain ⟨rfl, h1, h2⟩ := hc
      obtain ⟨a', rfl, h3, _⟩ := h.one
      exact n_fld hX h1 h2 h3
    · cases hs
  · split at hs
    · rename_i hc
      cases hs
      obtain ⟨h1, h2, h3, h4⟩ := hc
      exact n_make hX h1 h2 h3 h4 h
    · cases hs
  · split at hs
    · rename_i hc
      cases hs
      obtain ⟨h1, h2, h3, h4⟩ := hc
      exact n_meth hX h1 h2 h3 h4 h
    · cases hs
  · split at hs
    · rename_i hc
      cases hs
      obtain ⟨rfl, h1, h2, h3⟩ := hc
      obtain ⟨a', rfl, h4, h5⟩ := h.one
      exact n_isC hX h1 h2 h3 h5 h4
    · cases hs
  · split at hs
    · rename_i hc
      cases hs
      obtain ⟨rfl, h1, h2⟩ := hc
      obtain ⟨a', rfl, h4, _⟩ := h.one
      exact n_bitlen h1 h2 h4
    · cases hs
  · split at hs
    · rename_i hc
      cases hs
      obtain ⟨rfl, h1, h2⟩ := hc
      obtain ⟨a', rfl, h4, _⟩ := h.one
      exact n_upper h1 h2 h4
    · cases hs
  · split at hs
    · rename_i hc
      cases hs
      obtain ⟨rfl, h1, h2⟩ := hc
      obtain ⟨a', b', rfl, h4, h5, _, h6⟩ := h.two
      exact n_index hX h1 h2 h6 h4 h5
    · cases hs
  · split at hs
    · rename_i hc
      cases hs
      obtain ⟨rfl, h1⟩ := hc
      obtain ⟨a', rfl, h4, h5⟩ := h.one
      exact n_sortS hX h1 h5 h4
    · cases hs
  · split at hs
    · rename_i hc
      cases hs
      obtain ⟨rfl, h1⟩ := hc
      obtain ⟨a', rfl, h4, h5⟩ := h.one
      exact n_sortT hX h1 h5 h4
    · cases hs
  · cases hs
end
end DS
/-! ## Dicts of one's own; the fields of an instance that is being made -/
namespace DS
open PySem PySem.Spec PyProof.Rows L2
section
variable {p : Par} {S : Hp}
theorem RepKs.find {k : Key} : ∀ {ds : List (Key × D)} {vs : List (Key × V)}, RepKs p S ds vs → (match getD' ds k with | none => valV vs k = none | some d => ∃ v, valV vs k = some v ∧ Rep p S d v)
  | [], vs, r => by
    cases (show vs = [] from r)
    rfl
  | (q, d) :: ds, vs, r => by
    obtain ⟨v, rest, e, r1, r2⟩ := (show ∃ v r, vs = (q, v) :: r ∧ Rep p S d v ∧ RepKs p S ds r from r)
    subst e
    have ih := RepKs.find (k := k) r2
    unfold getD' valV at ih ⊢
    by_cases h : q = k
    · subst h
      simp only [List.find?_cons, decide_true, Option.map_some]
      exact ⟨v, rfl, r1⟩
    · simp only [List.find?_cons, h, decide_false]
      exact ih
theorem RepKs.anyK {k : Key} : ∀ {ds : List (Key × D)} {vs : List (Key × V)}, RepKs p S ds vs → (ds.any fun q => decide (q.1 = k)) = (vs.any fun q => decide (q.1 = k))
  | [], vs, r => by
    cases (show vs = [] from r)
    rfl
  | (q, d) :: ds, vs, r => by
    obtain ⟨v, rest, e, r1, r2⟩ := (show ∃ v r, vs = (q, v) :: r ∧ Rep p S d v ∧ RepKs p S ds r from r)
    subst e
    rw [List.any_cons, List.any_cons, RepKs.anyK r2]
theorem RepKs.mapK {k : Key} {d : D} {v : V} (rv : Rep p S d v) : ∀ {ds : List (Key × D)} {vs : List (Key × V)}, RepKs p S ds vs → RepKs p S (ds.map fun q => if q.1 = k then (q.1, d) else q) (vs.map fun q => if q.1 = k then (q.1, v) else q)
  | [], vs, r => by
    cases (show vs = [] from r)
    exact rfl
  | (q, d') :: ds, vs, r => by
    obtain ⟨v', rest, e, r1, r2⟩ := (show ∃ v r, vs = (q, v) :: r ∧ Rep p S d' v ∧ RepKs p S ds r from r)
    subst e
    have ih := RepKs.mapK (k := k) rv r2
    by_cases h : q = k
    · simp only [List.map_cons, h, if_true]
      exact ⟨v, _, rfl, rv, ih⟩
    · simp only [List.map_cons, h, if_false]
      exact ⟨v', _, rfl, r1, ih⟩
theorem RepKs.snoc {k : Key} {d : D} {v : V} (rv : Rep p S d v) : ∀ {ds : List (Key × D)} {vs : List (Key × V)}, RepKs p S ds vs → RepKs p S (ds ++ [(k, d)]) (vs ++ [(k, v)])
  | [], vs, r => by
    cases (show vs = [] from r)
    exact ⟨v, [], rfl, rv, rfl⟩
  | (q, d') :: ds, vs, r => by
    obtain ⟨v', rest, e, r1, r2⟩ := (show ∃ v r, vs = (q, v) :: r ∧ Rep p S d' v ∧ RepKs p S ds r from r)
    subst e
    exact ⟨v', _, rfl, r1, RepKs.snoc rv r2⟩
theorem RepKs.put {k : Key} {d : D} {v : V} {ds : List (Key × D)} {vs : List (Key × V)} (rv : Rep p S d v) (r : RepKs p S ds vs) : RepKs p S (putD ds k d) (putK vs k v) := by
  unfold putD putK
  rw [r.anyK]
  split
  · exact r.mapK rv
  · exact r.snoc rv
theorem RepKs.length : ∀ {ds : List (Key × D)} {vs : List (Key × V)}, RepKs p S ds vs → ds.length = vs.length
  | [], vs, r => by
    cases (show vs = [] from r)
    rfl
  | (q, d') :: ds, vs, r => by
    obtain ⟨v', rest, e, r1, r2⟩ := (show ∃ v r, vs = (q, v) :: r ∧ Rep p S d' v ∧ RepKs p S ds r from r)
    subst e
    exact congrArg (· + 1) r2.length
theorem RepKs.keys : ∀ {ds : List (Key × D)} {vs : List (Key × V)}, RepKs p S ds vs → Reps p S (ds.map fun q => keyV q.1) (vs.map fun q => kV q.1)
  | [], vs, r => by
    cases (show vs = [] from r)
    exact rfl
  | (q, d') :: ds, vs, r => by
    obtain ⟨v', rest, e, r1, r2⟩ := (show ∃ v r, vs = (q, v) :: r ∧ Rep p S d' v ∧ RepKs p S ds r from r)
    subst e
    refine ⟨kV q, _, rfl, ?_, r2.keys⟩
    cases q <;> exact rfl
theorem key_v {H : Hp} {d : D} {v : V} {k : Key} (e : keyD d = some k) (r : RepV p S H d v) : v = kV k := by
  cases d with
  | int i => cases e; exact r
  | str i => cases e; exact r
  | _ => cases e
end
section
variable {p : Par} {C : Cxt} {T : Tab} {X : Cx} {c : CC} {y : Dy}
theorem dic_at {i : Nat} {kvs : List (Key × D)} {S : Hp} {σ : L2.St} {H : Hp} {ρ : En} (st : Stt p y S σ H ρ) (h : ρ[i]? = some (.dic kvs)) : ∃ l kv, σ[i]? = some (some (.ref l)) ∧ H l = some (.dK kv) ∧ S l = none ∧ y.H0 l = none ∧ RepKs p S kvs kv := st.sl i _ h
def inK (neg : Bool) (C : Cxt) (a : IR) (i : Nat) (σ : En) : Out (Ar × En) := (sq (ev C a σ)).bnd fun x => match keyD x.1.view, x.2[i]? with
  | some k, some (.dic kvs) => .ok (.v (.bl (if neg then !(getD' kvs k).isSome else (getD' kvs k).isSome)), x.2)
  | _, _ => .bad
theorem in_rd {neg : Bool} {a : IR} {i : Nat} {σ : L2.St} {H : Hp} {S : Hp} {ρ : En} {F : Ar × En → Prop} {G : Bool → Hp → Prop} (st : Stt p y S σ H ρ) (q : Res (inK neg C a i ρ) F)
    (hG : ∀ b ρ1 H1 S1, F (.v (.bl b), ρ1) → Stt p y S1 σ H1 ρ1 → Sub S S1 → Sub H H1 → G b H1) :
    rdQ p C y a σ H fun v H1 => tVar i σ H1 fun x H2 => ∃ l o, x = .ref l ∧ DGet H2 l v o ∧ G (if neg then !o.isSome else o.isSome) H2 := by
  refine one_rd (k := fun x => match keyD x.1.view, x.2[i]? with
    | some k, some (.dic kvs) => Out.ok (Ar.v (.bl (if neg then !(getD' kvs k).isSome else (getD' kvs k).isSome)), x.2)
    | _, _ => .bad) st q fun r1 ρ1 v H1 S1 q1 st1 hS hH _ ra => ?_
  dsimp only at q1
  split at q1
  · rename_i k kvs hk hd
    obtain ⟨l, kv, e1, h1, _, _, rk⟩ := dic_at st1 hd
    rw [key_v hk (ra.viewV st1)]
    refine ⟨.ref l, e1, l, valV kv k, rfl, DGet.k h1, ?_⟩
    have f := rk.find (k := k)
    have e2 : (valV kv k).isSome = (getD' kvs k).isSome := by
      split at f
      · rename_i e; rw [f, e]; rfl
      · rename_i d e; obtain ⟨v', e3, _⟩ := f; rw [e3, e]; rfl
    rw [e2]
    exact hG _ ρ1 H1 S1 q1 st1 hS hH
  · exact q1.elim
theorem n_inDic (hX : XOk p C T X c) {neg : Bool} {a : IR} {i : Nat} {l : Expr} {x : Str} {px pos : Pos} {o : CmpOp} (ho : o = if neg then .NotIn else .In) (hx : nmB c i x = true) (ha : PE X l (rdQ p C y a)) : PE X (.Compare l [o] [.Name x px] pos) (rdE p C y (.inDic neg a i)) := by
  obtain ⟨h1, h2, h3, h4⟩ := hX.vis hx
  have hv : PE X (.Name x px) (tVar i) := pe_var h1 h2 h3 h4
  have hu : X.A.units + 1 < cLine := by have := hX.units; omega
  cases neg with
  | false =>
    subst ho
    exact PE.mono (pe_cmp (pc_din hu ha hv) rfl) fun σ H Q ⟨S, ρ, st, q⟩ => in_rd (neg := false) (G := fun b H1 => Q (.bl b) H1) st q fun b ρ1 H1 S1 f st1 hS hH => FinQ.val (FinQ.sub (f : FinQ p y σ S H Q _) hS hH) st1 rfl
  | true =>
    subst ho
    exact PE.mono (pe_cmp (pc_dnotin hu ha hv) rfl) fun σ H Q ⟨S, ρ, st, q⟩ => in_rd (neg := true) (G := fun b H1 => Q (.bl b) H1) st q fun b ρ1 H1 S1 f st1 hS hH => FinQ.val (FinQ.sub (f : FinQ p y σ S H Q _) hS hH) st1 rfl
theorem t_inDic (hX : XOk p C T X c) {neg : Bool} {a : IR} {i : Nat} {l : Expr} {x : Str} {px pos : Pos} {o : CmpOp} (ho : o = if neg then .NotIn else .In) (hx : nmB c i x = true) (ha : PE X l (rdQ p C y a)) : PT X (.Compare l [o] [.Name x px] pos) (rdT p C y (.inDicT neg a i)) := by
  obtain ⟨h1, h2, h3, h4⟩ := hX.vis hx
  have hv : PE X (.Name x px) (tVar i) := pe_var h1 h2 h3 h4
  have hu : X.A.units + 1 < cLine := by have := hX.units; omega
  have fin : ∀ {σ : L2.St} {H S : Hp} {Q : Bool → Hp → Prop} (b : Bool) (ρ1 : En) (H1 S1 : Hp), (∃ b', (Ar.v (.bl b), ρ1).1 = .v (.bl b') ∧ ∀ H' S', Stt p y S' σ H' ρ1 → Sub S S' → Sub H H' → Q b' H') → Stt p y S1 σ H1 ρ1 → Sub S S1 → Sub H H1 → ∃ d, V.bl b = .bl d ∧ Q d H1 := fun b ρ1 H1 S1 f st1 hS hH => by
    obtain ⟨b', e, k⟩ := f
    cases e
    exact ⟨b, rfl, k H1 S1 st1 hS hH⟩
  cases neg with
  | false =>
    subst ho
    exact PT.mono (pt_cmp (pc_din hu ha hv) rfl) fun σ H Q ⟨S, ρ, st, q⟩ => in_rd (neg := false) (G := fun b H1 => ∃ d, V.bl b = .bl d ∧ Q d H1) st q fun b ρ1 H1 S1 f st1 hS hH => fin b ρ1 H1 S1 f st1 hS hH
  | true =>
    subst ho
    exact PT.mono (pt_cmp (pc_dnotin hu ha hv) rfl) fun σ H Q ⟨S, ρ, st, q⟩ => in_rd (neg := true) (G := fun b H1 => ∃ d, V.bl b = .bl d ∧ Q d H1) st q fun b ρ1 H1 S1 f st1 hS hH => fin b ρ1 H1 S1 f st1 hS hH
theorem n_listDic (hX : XOk p C T X c) {i : Nat} {x : Str} {px pos pos' : Pos} (hg : glB c ("list" : Str) = true) (hx : nmB c i x = true) : PE X (.Call (.Name "list" pos') [.Name x px] [] pos) (rdE p C y (.listDic i)) := by
  obtain ⟨h1, h2, h3, h4⟩ := hX.vis hx
  obtain ⟨g1, g2, g3⟩ := hX.gl hg
  have hv : PE X (.Name x px) (tVar i) := pe_var h1 h2 h3 h4
  have hpa : PA X [.Name x px] (tCons (tVar i) tNil) := pa_cons hv pa_nil (star_cons rfl)
  have hm : X.mg ("list" : Str) = none := blt_mg hX .list
  refine PE.mono (pe_callTy (call_list_dK hX.calm) g1 hm (boot_blt .list) hpa g3 g2 (star_cons rfl) (star_any rfl)) fun σ H Q ⟨S, ρ, st, q⟩ => ?_
  have q : Res (match ρ[i]? with
    | some (.dic kvs) => Out.ok (Ar.fr (kvs.map fun q => keyV q.1), ρ)
    | _ => .bad) (FinQ p y σ S H Q) := q
  split at q
  · rename_i kvs hd
    obtain ⟨l, kv, e1, q1, _, _, rk⟩ := dic_at st hd
    exact ⟨.ref l, e1, l, kv, rfl, q1, FinQ.lst (q : FinQ p y σ S H Q _) st rk.keys⟩
  · exact q.elim
theorem n_selfF (hX : XOk p C T X c) {i k : Nat} {f : Str} {x : Str} {px pos : Pos} (hx : nmB c i x = true) (hf : fdB T k f = true) : PE X (.Attribute (.Name x px) f pos) (rdE p C y (.selfF i k f)) := by
  obtain ⟨ce, _, hm, G⟩ := fd_cl hX hf
  obtain ⟨h1, h2, h3, h4⟩ := hX.vis hx
  have hv : PE X (.Name x px) (tVar i) := pe_var h1 h2 h3 h4
  refine PE.mono (pe_fld hv (att_base rfl f X.env _)) fun σ H Q ⟨S, ρ, st, q⟩ => ?_
  simp only [ev] at q
  split at q
  · rename_i k' fs hd
    split at q
    · rename_i hk
      subst hk
      obtain ⟨d, e1, q1⟩ := Res.bnd q
      obtain ⟨l, u, e2, q2, _, _, _, rr⟩ := (show SlOk p y S H i σ[i]? (.obj k' fs) from st.sl i _ hd)
      have e1 := ob_ok e1
      rw [hX.flds] at e1
      obtain ⟨w, e4, rw'⟩ := zip_look rr e1
      exact ⟨.ref l, e2, l, p.cl k', u.1, _, w, rfl, q2, G.cls, G.no f hm, e4, FinQ.val (q1 : FinQ p y σ S H Q _) st rw'⟩
    · exact q.elim
  · exact q.elim
end
end DS
/-! ## Expressions: the check is sound -/
namespace DS
open PySem PySem.Spec PyProof.Rows L2
section
variable {p : Par} {C : Cxt} {T : Tab}
theorem blkC_eq {N : List Str} {sc sc' scope : Scope} {own : List (Str × Nat)} (h : sc.names = sc'.names) : blkC N sc scope own = blkC N sc' scope own := by
  unfold blkC
  rw [h]
theorem op_set {T : Tab} {c : CC} {n : Nat} {o : Op} {es : List Expr} {k : Nat} {pos : Pos} : opShape T c n o (.Set es k pos) = none := by cases o <;> rfl
theorem op_comp {T : Tab} {c : CC} {n : Nat} {o : Op} {elt : Expr} {gs : List Comprehension} {s : Scope} {pos : Pos} : opShape T c n o (.ListComp elt gs s pos) = none := by cases o <;> rfl
theorem fold_seq {iter : Expr} {env : Env} {T : Tab} {c : CC} {ir : IR} (h : okE T c ir iter = true) : ∀ x, foldedSetIterable iter env x = pure x := by
  intro x
  cases iter with
  | Set es k pos =>
    cases ir with
    | op o as =>
      simp only [okE] at h
      rw [op_set] at h
      cases h
    | _ => simp only [okE] at h; cases h
  | _ => rfl
theorem fold_call {f : Expr} {as : List Expr} {ks : List Keyword} {pos : Pos} {env : Env} : ∀ x, foldedSetIterable (.Call f as ks pos) env x = pure x := fun _ => rfl
/-- what is walked, with its arguments checked -/
theorem s_iter {X : Cx} {c : CC} (y : Dy) (hX : XOk p C T X c) {k : ItK} {es : IRs} {tg iter : Expr} {as : List Expr} (hi : itArgs c k tg iter = some as) (hes : okEs T c es as = true)
    (hpa : PA X as (rdA p C y es)) (hpe : ∀ (e : IR) (a : Expr), es = .cons e .nil → as = [a] → PE X a (rdQ p C y e)) : PI X tg iter (rdI p C y k es) ∧ ∀ x, foldedSetIterable iter X.env x = pure x := by
  have hst := okEs_star hes
  cases k with
  | seq =>
    cases hi
    cases es with
    | nil => simp [okEs] at hes
    | cons e es =>
      cases es with
      | nil =>
        refine ⟨pi_seq hX.K (hpe e iter rfl rfl), ?_⟩
        simp only [okEs, Bool.and_eq_true] at hes
        exact fold_seq hes.1.1
      | cons e' es => simp [okEs] at hes
  | range1 =>
    simp only [itArgs] at hi
    split at hi
    · split at hi
      · rename_i hc
        cases hi
        simp only [Bool.and_eq_true, decide_eq_true_eq] at hc
        obtain ⟨hc1, hc2⟩ := hc
        subst hc2
        rw [List.all_cons, Bool.and_eq_true] at hst
        exact ⟨pi_rng1 (hX.gl hc1).1 (hX.blt _ (by decide +kernel)) (star_cons hst.1) hpa, fold_call⟩
      · cases hi
    · cases hi
  | range2 =>
    simp only [itArgs] at hi
    split at hi
    · split at hi
      · rename_i hc
        cases hi
        simp only [Bool.and_eq_true, decide_eq_true_eq] at hc
        obtain ⟨hc1, hc2⟩ := hc
        subst hc2
        rw [List.all_cons, List.all_cons, Bool.and_eq_true, Bool.and_eq_true] at hst
        exact ⟨pi_rng2 (hX.gl hc1).1 (hX.blt _ (by decide +kernel)) (by rw [star_cons hst.1, star_cons hst.2.1]; rfl) (star_cons hst.2.1) hpa, fold_call⟩
      · cases hi
    · cases hi
  | enum =>
    simp only [itArgs] at hi
    split at hi
    · split at hi
      · split at hi
        · rename_i hc
          cases hi
          simp only [Bool.and_eq_true, decide_eq_true_eq] at hc
          obtain ⟨hc1, hc2⟩ := hc
          subst hc2
          rw [List.all_cons, Bool.and_eq_true] at hst
          exact ⟨pi_enumA hX.K (hX.gl hc1).1 (hX.blt _ (by decide +kernel)) (star_cons hst.1) hpa, fold_call⟩
        · cases hi
      · cases hi
    · cases hi
  | zip => cases hi
  | chars =>
    cases hi
    cases es with
    | nil => simp [okEs] at hes
    | cons e es =>
      cases es with
      | nil =>
        refine ⟨pi_chars (hpe e iter rfl rfl), ?_⟩
        simp only [okEs, Bool.and_eq_true] at hes
        exact fold_seq hes.1.1
      | cons e' es => simp [okEs] at hes

theorem names_each : ∀ {is : List Nat} {es : List Expr} {c : CC} {env : Env}, okNs c is es = true → (assignEach es env).length = is.length ∧ (assignEach es env).findIdx? (·.1) = none
  | [], [], _, _, _ => ⟨rfl, rfl⟩
  | [], _ :: _, _, _, h => by simp [okNs] at h
  | i :: is, [], _, _, h => by simp [okNs] at h
  | i :: is, e :: es, c, env, h => by
    cases e with
    | Name x pos =>
      simp only [okNs, Bool.and_eq_true] at h
      obtain ⟨h1, h2⟩ := names_each (env := env) h.2
      have e1 : assignEach (.Name x pos :: es) env = (false, assign (.Name x pos) env) :: assignEach es env := rfl
      refine ⟨by rw [e1, List.length_cons, List.length_cons, h1], ?_⟩
      rw [e1, List.findIdx?_cons, h2]
      rfl
    | _ => simp [okNs] at h
theorem pgs_names {X : Cx} {c : CC} (hX : XOk p C T X c) : ∀ {is : List Nat} {es : List Expr}, okNs c is es = true → PGs X es (gNames is)
  | [], [], _ => pgs_nil
  | [], _ :: _, h => by simp [okNs] at h
  | i :: is, [], h => by simp [okNs] at h
  | i :: is, e :: es, h => by
    cases e with
    | Name x pos =>
      simp only [okNs, Bool.and_eq_true] at h
      obtain ⟨h1, h2, h3⟩ := hX.st h.1
      exact pgs_cons (pg_name (by rw [hX.N]; exact hX.nd) h1 h2 h3) (pgs_names hX h.2)
    | _ => simp [okNs] at h
theorem pg_tg {X : Cx} {c : CC} (hX : XOk p C T X c) {t : Tg} {e : Expr} (h : okTg c t e = true) : PG X e (gOf p.K t) := by
  cases t with
  | nm i =>
    cases e with
    | Name x pos =>
      obtain ⟨h1, h2, h3⟩ := hX.st (show stB c i x = true from h)
      exact pg_name (by rw [hX.N]; exact hX.nd) h1 h2 h3
    | _ => cases h
  | tp is =>
    cases e with
    | Tuple es k pos =>
      have h : okNs c is es = true := h
      obtain ⟨h1, h2⟩ := names_each (env := X.env) h
      have t1 := pg_tup (k := k) (pos := pos) hX.calm (pgs_names hX h) h1 h2
      have t2 := pg_lst (k := k) (pos := pos) hX.calm (pgs_names hX h) h1 h2
      rw [hX.K] at t1 t2
      exact ⟨fun pins s σ H v u Q I r hw => hw.elim (t1.run pins s σ H v u Q I r) (t2.run pins s σ H v u Q I r)⟩
    | _ => cases h
theorem kw_len : ∀ {kws : List Keyword} {ks : List Str}, kwNames kws = some ks → (kwVals kws).length = ks.length
  | [], ks, h => by cases h; rfl
  | ⟨some n, v, kp⟩ :: r, ks, h => by
    simp only [kwNames, Option.map_eq_some_iff] at h
    obtain ⟨ks', h1, h2⟩ := h
    subst h2
    exact congrArg (· + 1) (kw_len h1)
  | ⟨none, v, kp⟩ :: r, ks, h => by simp [kwNames] at h
theorem okEs_len {c : CC} : ∀ {es : IRs} {as : List Expr}, okEs T c es as = true → es.len = as.length
  | .nil, [], _ => rfl
  | .nil, _ :: _, h => by simp [okEs] at h
  | .cons _ _, [], h => by simp [okEs] at h
  | .cons a es, e :: as, h => by
    simp only [okEs, Bool.and_eq_true] at h
    exact congrArg (· + 1) (okEs_len h.2)
mutual
theorem sE : ∀ (ir : IR) {X : Cx} {c : CC} (y : Dy) {e : Expr}, XOk p C T X c → okE T c ir e = true → PE X e (rdE p C y ir)
  | .slot i, X, c, y, e, hX, h => by
    simp only [okE] at h
    split at h
    · obtain ⟨h1, h2, h3, h4⟩ := hX.vis h
      exact n_slot (pe_var h1 h2 h3 h4)
    · cases h
  | .move i, X, c, y, e, hX, h => by
    simp only [okE] at h
    split at h
    · obtain ⟨h1, h2, h3, h4⟩ := hX.vis h
      exact n_move (pe_var h1 h2 h3 h4)
    · cases h
  | .bor i, X, c, y, e, hX, h => by
    simp only [okE] at h
    split at h
    · obtain ⟨h1, h2, h3, h4⟩ := hX.vis h
      exact n_bor (pe_var h1 h2 h3 h4)
    · cases h
  | .int n, X, c, y, e, hX, h => by
    simp only [okE] at h
    split at h
    · obtain rfl := of_decide_eq_true h
      exact n_const pe_int (fun _ => rfl) fun _ => rfl
    · simp only [Bool.and_eq_true, decide_eq_true_eq] at h
      obtain ⟨g1, g2, _⟩ := hX.gl h.1
      obtain ⟨t, ht⟩ := hX.nr _ _ h.2
      exact n_const (pe_glob (v := .int n) g1 ht (show ∃ u, Value.int n t = .int n u from ⟨t, rfl⟩) g2) (fun _ => rfl) fun _ => rfl
    · cases h
  | .bl b, X, c, y, e, hX, h => by
    simp only [okE] at h
    split at h
    · obtain rfl := eq_of_beq h
      exact n_const pe_bl (fun _ => rfl) fun _ => rfl
    · cases h
  | .non, X, c, y, e, hX, h => by
    simp only [okE] at h
    split at h
    · exact n_const pe_non (fun _ => rfl) fun _ => rfl
    · cases h
  | .str s, X, c, y, e, hX, h => by
    simp only [okE] at h
    split at h
    · obtain rfl := of_decide_eq_true h
      exact n_const pe_str (fun _ => rfl) fun _ => rfl
    · simp only [Bool.and_eq_true, decide_eq_true_eq] at h
      obtain ⟨g1, g2, _⟩ := hX.gl h.1
      obtain ⟨t, ht⟩ := hX.tx _ _ h.2
      exact n_const (pe_glob (v := .str s) g1 ht (show ∃ u, Value.str s t = .str s u from ⟨t, rfl⟩) g2) (fun _ => rfl) fun _ => rfl
    · cases h
  | .bin o a b, X, c, y, e, hX, h => by
    simp only [okE] at h
    split at h
    · simp only [Bool.and_eq_true, decide_eq_true_eq] at h
      obtain ⟨⟨rfl, h1⟩, h2⟩ := h
      exact n_bin hX.K (seal_of (sE a y hX h1)) (seal_of (sE b y hX h2))
    · cases h
  | .un o a, X, c, y, e, hX, h => by
    simp only [okE] at h
    split at h
    · simp only [Bool.and_eq_true, decide_eq_true_eq] at h
      obtain ⟨rfl, h1⟩ := h
      exact n_un (seal_of (sE a y hX h1))
    · cases h
  | .cmp o a b, X, c, y, e, hX, h => by
    simp only [okE] at h
    split at h
    · simp only [Bool.and_eq_true, decide_eq_true_eq, Bool.not_eq_true'] at h
      obtain ⟨⟨⟨rfl, h1⟩, h2⟩, h3⟩ := h
      exact n_cmp hX h3 (seal_of (sE a y hX h1)) (seal_of (sE b y hX h2))
    · cases h
  | .chain o o2 a b d, X, c, y, e, hX, h => by
    simp only [okE] at h
    split at h
    · simp only [Bool.and_eq_true, decide_eq_true_eq, Bool.not_eq_true'] at h
      obtain ⟨⟨⟨⟨⟨rfl, rfl⟩, h1⟩, h2⟩, h4⟩, h3⟩ := h
      exact n_chain hX h3 (seal_of (sE a y hX h1)) (seal_of (sE b y hX h2)) (seal_of (sE d y hX h4))
    · cases h
  | .andE es, X, c, y, e, hX, h => by
    simp only [okE] at h
    split at h
    · simp only [Bool.and_eq_true, Bool.not_eq_true'] at h
      exact sAnd es y hX h.1 h.2
    · cases h
  | .orE es, X, c, y, e, hX, h => by
    simp only [okE] at h
    split at h
    · simp only [Bool.and_eq_true, Bool.not_eq_true'] at h
      exact sOr es y hX h.1 h.2
    · cases h
  | .notE a, X, c, y, e, hX, h => by
    simp only [okE] at h
    split at h
    · exact n_notE (seal_of (sE a y hX h))
    · cases h
  | .ife t a b, X, c, y, e, hX, h => by
    simp only [okE] at h
    split at h
    · simp only [Bool.and_eq_true] at h
      obtain ⟨⟨h1, h2⟩, h3⟩ := h
      exact n_ife (sT t y hX h1) (seal_of (sE a y hX h2)) (seal_of (sE b y hX h3))
    · cases h
  | .tup es, X, c, y, e, hX, h => by
    simp only [okE] at h
    split at h
    · exact n_tup (sEs es y hX h)
    · cases h
  | .lst es, X, c, y, e, hX, h => by
    simp only [okE] at h
    split at h
    · exact n_lst (sEs es y hX h)
    · cases h
  | .ix a i, X, c, y, e, hX, h => by
    simp only [okE] at h
    split at h
    · simp only [Bool.and_eq_true] at h
      obtain ⟨⟨h1, h2⟩, h3⟩ := h
      exact n_ix hX.K h3 (seal_of (sE a y hX h1)) (seal_of (sE i y hX h2))
    · cases h
  | .slice a lo hi, X, c, y, e, hX, h => by
    simp only [okE] at h
    split at h
    · rename_i v l u _ _
      simp only [Bool.and_eq_true] at h
      obtain ⟨⟨h1, h2⟩, h3⟩ := h
      refine n_slice hX.K (seal_of (sE a y hX h1)) ?_ ?_
      · cases l with
        | none => exact h2
        | some x =>
          simp only [Bool.and_eq_true, Bool.not_eq_true'] at h2
          exact ⟨h2.2, seal_of (sE lo y hX h2.1)⟩
      · cases u with
        | none => exact h3
        | some x =>
          simp only [Bool.and_eq_true, Bool.not_eq_true'] at h3
          exact ⟨h3.2, seal_of (sE hi y hX h3.1)⟩
    · cases h
  | .call f es, X, c, y, e, hX, h => by
    simp only [okE] at h
    split at h
    · simp only [Bool.and_eq_true] at h
      obtain ⟨⟨⟨h1, h2⟩, h3⟩, h4⟩ := h
      refine n_call hX h1 h4 h2 (okEs_star h3) (fun hn => ?_) (sEs es y hX h3)
      subst hn
      cases es with
      | nil => rfl
      | cons _ _ => simp [okEs] at h3
    · cases h
  | .callK f perm es, X, c, y, e, hX, h => by
    simp only [okE] at h
    split at h
    · simp only [Bool.and_eq_true, Bool.not_eq_true'] at h
      obtain ⟨⟨⟨⟨h1, h2⟩, h3⟩, h4⟩, h5⟩ := h
      split at h5
      · rename_i ks hks
        refine n_callK hX h1 h2 hks (of_decide_eq_true h5) (fun z => by subst z; cases h4) (sKs es y hX h3) ?_
        rw [okEs_len h3, kw_len hks]
      · cases h5
    · cases h
  | .blt b es, X, c, y, e, hX, h => by
    simp only [okE] at h
    split at h
    · split at h
      · split at h
        · rename_i a t pos2
          simp only [Bool.and_eq_true, decide_eq_true_eq] at h
          obtain ⟨⟨⟨⟨rfl, h1⟩, h2⟩, h3⟩, h4⟩ := h
          cases es with
          | nil => simp [okEs] at h4
          | cons a' es =>
            cases es with
            | nil =>
              have h5 : okE T c a' a && notStar a && okEs T c .nil [] = true := h4
              simp only [Bool.and_eq_true] at h5
              exact n_isi hX h1 h2 h3 h5.1.2 (seal_of (sE a' y hX h5.1.1))
            | cons _ _ => simp [okEs] at h4
        · cases h
      · cases h
      · rename_i hn1 hn2
        simp only [Bool.and_eq_true, decide_eq_true_eq, Bool.not_eq_true'] at h
        obtain ⟨⟨⟨rfl, h1⟩, h2⟩, h3⟩ := h
        rename_i as _ _
        cases as with
        | nil => cases h3
        | cons e as =>
          refine n_blt hX (fun T => ?_) h1 (okEs_star h2) (sEs es y hX h2)
          cases T with
          | ty n => exact hn1 n
          | own n => exact hn2 n
    · cases h
  | .sortRev a, X, c, y, e, hX, h => by
    simp only [okE] at h
    split at h
    · simp only [Bool.and_eq_true, decide_eq_true_eq] at h
      obtain ⟨⟨⟨⟨rfl, h1⟩, rfl⟩, h2⟩, h3⟩ := h
      exact n_sortRev hX h1 h3 (seal_of (sE a y hX h2))
    · cases h
  | .comp t own k es ifs a, X, c, y, e, hX, h => by
    simp only [okE] at h
    split at h
    · rename_i elt tg iter cs scope pos
      simp only [Bool.and_eq_true] at h
      obtain ⟨⟨⟨⟨⟨h1, h2⟩, h3⟩, h4⟩, h5⟩, h6⟩ := h
      split at h1
      · rename_i as has
        have hpa := sEs es y hX h1
        obtain ⟨hpi, hfo⟩ := s_iter (tg := tg) y hX has h1 hpa fun e' a' q1 q2 => by
          subst q1 q2
          have h7 : okE T c e' a' && notStar a' && okEs T c .nil [] = true := h1
          simp only [Bool.and_eq_true] at h7
          exact seal_of (sE e' y hX h7.1.1)
        have hbo : BlkOk X.N X.env.scope scope (ownP c own) := blkOk_by (by
          rw [blkC_eq (sc' := { kind := .function, names := c.sc, isGenerator := false, isCoroutine := false }) hX.sc, hX.N]
          exact h4)
        have eown : (ownP c own).map (·.2) = own := by
          unfold ownP
          rw [List.map_map]
          exact List.map_id' own
        have key := pe_lc (pos := pos) hX.calm (by rw [hX.N]; exact hX.nd) hpi hbo (g := gOf p.K t) (tt := fun σ H Q => ∃ y, rdT p C y ifs σ H Q) (te := fun σ H Q => ∃ y, rdQ p C y a σ H Q) (ifs := cs) (elt := elt)
          (fun s H D cl fp => pg_tg (hX.blk hbo.kind s H D cl fp) h2)
          (fun s H D cl fp => by
            cases cs with
            | nil =>
              have hh : ifs.isTrue = true := h5
              have hp := pts_nil (X := X.blk s H scope (compEnvC scope cl D X.env) fp)
              refine ⟨fun pins s σ H Q I q => hp.run pins s σ H Q I ?_⟩
              obtain ⟨y, S, ρ, st, q⟩ := q
              cases ifs with
              | bl b =>
                cases b with
                | true =>
                  obtain ⟨b, e1, k⟩ := (show ∃ b, Ar.v (.bl true) = .v (.bl b) ∧ ∀ H' S', Stt p y S' σ H' ρ → Sub S S' → Sub H H' → Q b H' from q)
                  cases e1
                  exact k H S st (Sub.refl _) (Sub.refl _)
                | false => cases hh
              | _ => cases hh
            | cons q cs =>
              cases cs with
              | nil => exact pts_one (PT.ex fun y => sT ifs y (hX.blk hbo.kind s H D cl fp) h5)
              | cons _ _ => cases h5)
          (fun s H D cl fp => PE.ex fun y => seal_of (sE a y (hX.blk hbo.kind s H D cl fp) h6)) hfo
        rw [eown] at key
        exact PE.mono key fun σ H Q q => comp_rd (fun i hi => of_decide_eq_true (List.all_eq_true.mp h3 i hi)) q
      · cases h1
    · cases h
  | .cmpT _ _ _, X, c, y, e, hX, h => by simp [okE] at h
  | .chainT _ _ _ _ _, X, c, y, e, hX, h => by simp [okE] at h
  | .inDicT _ _ _, X, c, y, e, hX, h => by simp [okE] at h
  | .tru _, X, c, y, e, hX, h => by simp [okE] at h
  | .andT _, X, c, y, e, hX, h => by simp [okE] at h
  | .orT _, X, c, y, e, hX, h => by simp [okE] at h
  | .notT _, X, c, y, e, hX, h => by simp [okE] at h
  | .sortKey f a, X, c, y, e, hX, h => by
    simp only [okE] at h
    split at h
    · simp only [Bool.and_eq_true, decide_eq_true_eq] at h
      obtain ⟨⟨⟨⟨⟨⟨⟨⟨rfl, h1⟩, rfl⟩, h2⟩, h3⟩, h4⟩, h5⟩, h6⟩, h7⟩ := h
      exact n_sortKey hX h1 h3 h4 h5 h6 h7 (seal_of (sE a y hX h2))
    · cases h
  | .inDic neg a i, X, c, y, e, hX, h => by
    simp only [okE] at h
    split at h
    · simp only [Bool.and_eq_true, decide_eq_true_eq] at h
      exact n_inDic hX h.1.1 h.2 (seal_of (sE a y hX h.1.2))
    · cases h
  | .getDic _ _, X, c, y, e, hX, h => by simp [okE] at h
  | .selfF i k f, X, c, y, e, hX, h => by
    simp only [okE] at h
    split at h
    · simp only [Bool.and_eq_true, decide_eq_true_eq] at h
      obtain ⟨⟨rfl, h1⟩, h2⟩ := h
      exact n_selfF hX h1 h2
    · cases h
  | .listDic i, X, c, y, e, hX, h => by
    simp only [okE] at h
    split at h
    · simp only [Bool.and_eq_true, decide_eq_true_eq] at h
      obtain ⟨⟨rfl, h1⟩, h2⟩ := h
      exact n_listDic hX h1 h2
    · cases h
  | .op o es, X, c, y, e, hX, h => by
    simp only [okE] at h
    split at h
    · rename_i as has
      exact n_op hX has (sPs es y hX h)
    · cases h
theorem sPs : ∀ (es : IRs) {X : Cx} {c : CC} (y : Dy) {as : List Expr}, XOk p C T X c → okEs T c es as = true → PEs p C y X es as
  | .nil, X, c, y, as, hX, h => by
    cases as with
    | nil => trivial
    | cons _ _ => simp [okEs] at h
  | .cons a es, X, c, y, as, hX, h => by
    cases as with
    | nil => simp [okEs] at h
    | cons e as =>
      simp only [okEs, Bool.and_eq_true] at h
      exact ⟨seal_of (sE a y hX h.1.1), h.1.2, sPs es y hX h.2⟩
theorem sEs : ∀ (es : IRs) {X : Cx} {c : CC} (y : Dy) {as : List Expr}, XOk p C T X c → okEs T c es as = true → PA X as (rdA p C y es)
  | .nil, X, c, y, as, hX, h => by
    cases as with
    | nil => exact a_nil
    | cons _ _ => simp [okEs] at h
  | .cons a es, X, c, y, as, hX, h => by
    cases as with
    | nil => simp [okEs] at h
    | cons e as =>
      simp only [okEs, Bool.and_eq_true] at h
      exact a_cons h.1.2 (seal_of (sE a y hX h.1.1)) (sEs es y hX h.2)
theorem sKs : ∀ (es : IRs) {X : Cx} {c : CC} (y : Dy) {kws : List Keyword}, XOk p C T X c → okEs T c es (kwVals kws) = true → PK X kws (rdA p C y es)
  | .nil, X, c, y, kws, hX, h => by
    cases kws with
    | nil => exact k_nil
    | cons q r => obtain ⟨n, v, kp⟩ := q; simp [okEs, kwVals] at h
  | .cons a es, X, c, y, kws, hX, h => by
    cases kws with
    | nil => simp [okEs, kwVals] at h
    | cons q r =>
      obtain ⟨n, v, kp⟩ := q
      simp only [okEs, kwVals, Bool.and_eq_true] at h
      exact k_cons (seal_of (sE a y hX h.1.1)) (sKs es y hX h.2)
theorem sAnd : ∀ (es : IRs) {X : Cx} {c : CC} (y : Dy) {as : List Expr} {pos : Pos}, XOk p C T X c → okEs T c es as = true → as.isEmpty = false → PE X (.BoolOp .And as pos) (rdO p y (evAnd C es))
  | .nil, X, c, y, as, pos, hX, h, hn => by
    cases as with
    | nil => cases hn
    | cons _ _ => simp [okEs] at h
  | .cons a es, X, c, y, as, pos, hX, h, hn => by
    cases as with
    | nil => cases hn
    | cons e as =>
      simp only [okEs, Bool.and_eq_true] at h
      cases es with
      | nil =>
        cases as with
        | nil => exact n_and1 (seal_of (sE a y hX h.1.1))
        | cons _ _ => exact absurd h.2 (by simp [okEs])
      | cons b es =>
        cases as with
        | nil => exact absurd h.2 (by simp [okEs])
        | cons e' as => exact n_and (seal_of (sE a y hX h.1.1)) (sAnd (.cons b es) y hX h.2 rfl)
theorem sOr : ∀ (es : IRs) {X : Cx} {c : CC} (y : Dy) {as : List Expr} {pos : Pos}, XOk p C T X c → okEs T c es as = true → as.isEmpty = false → PE X (.BoolOp .Or as pos) (rdO p y (evOr C es))
  | .nil, X, c, y, as, pos, hX, h, hn => by
    cases as with
    | nil => cases hn
    | cons _ _ => simp [okEs] at h
  | .cons a es, X, c, y, as, pos, hX, h, hn => by
    cases as with
    | nil => cases hn
    | cons e as =>
      simp only [okEs, Bool.and_eq_true] at h
      cases es with
      | nil =>
        cases as with
        | nil => exact n_or1 (seal_of (sE a y hX h.1.1))
        | cons _ _ => exact absurd h.2 (by simp [okEs])
      | cons b es =>
        cases as with
        | nil => exact absurd h.2 (by simp [okEs])
        | cons e' as => exact n_or (seal_of (sE a y hX h.1.1)) (sOr (.cons b es) y hX h.2 rfl)
theorem sT : ∀ (ir : IR) {X : Cx} {c : CC} (y : Dy) {e : Expr}, XOk p C T X c → okT T c ir e = true → PT X e (rdT p C y ir)
  | .tru a, X, c, y, e, hX, h => by
    simp only [okT, Bool.and_eq_true] at h
    exact t_tru hX h.1 (seal_of (sE a y hX h.2))
  | .cmpT o a b, X, c, y, e, hX, h => by
    simp only [okT] at h
    split at h
    · simp only [Bool.and_eq_true, decide_eq_true_eq, Bool.not_eq_true'] at h
      obtain ⟨⟨⟨rfl, h1⟩, h2⟩, h3⟩ := h
      exact t_cmp hX h3 (seal_of (sE a y hX h1)) (seal_of (sE b y hX h2))
    · cases h
  | .chainT o o2 a b d, X, c, y, e, hX, h => by
    simp only [okT] at h
    split at h
    · simp only [Bool.and_eq_true, decide_eq_true_eq, Bool.not_eq_true'] at h
      obtain ⟨⟨⟨⟨⟨rfl, rfl⟩, h1⟩, h2⟩, h4⟩, h3⟩ := h
      exact t_chain hX h3 (seal_of (sE a y hX h1)) (seal_of (sE b y hX h2)) (seal_of (sE d y hX h4))
    · cases h
  | .andT es, X, c, y, e, hX, h => by
    simp only [okT] at h
    split at h
    · exact (sTa es y hX h).pt
    · cases h
  | .orT es, X, c, y, e, hX, h => by
    simp only [okT] at h
    split at h
    · exact (sTo es y hX h).pt
    · cases h
  | .notT a, X, c, y, e, hX, h => by
    simp only [okT] at h
    split at h
    · exact t_not (sT a y hX h)
    · cases h
  | .slot _, X, c, y, e, hX, h => by simp [okT] at h
  | .move _, X, c, y, e, hX, h => by simp [okT] at h
  | .bor _, X, c, y, e, hX, h => by simp [okT] at h
  | .int _, X, c, y, e, hX, h => by simp [okT] at h
  | .bl _, X, c, y, e, hX, h => by simp [okT] at h
  | .non, X, c, y, e, hX, h => by simp [okT] at h
  | .str _, X, c, y, e, hX, h => by simp [okT] at h
  | .bin _ _ _, X, c, y, e, hX, h => by simp [okT] at h
  | .un _ _, X, c, y, e, hX, h => by simp [okT] at h
  | .cmp _ _ _, X, c, y, e, hX, h => by simp [okT] at h
  | .chain _ _ _ _ _, X, c, y, e, hX, h => by simp [okT] at h
  | .andE _, X, c, y, e, hX, h => by simp [okT] at h
  | .orE _, X, c, y, e, hX, h => by simp [okT] at h
  | .notE _, X, c, y, e, hX, h => by simp [okT] at h
  | .ife _ _ _, X, c, y, e, hX, h => by simp [okT] at h
  | .tup _, X, c, y, e, hX, h => by simp [okT] at h
  | .lst _, X, c, y, e, hX, h => by simp [okT] at h
  | .ix _ _, X, c, y, e, hX, h => by simp [okT] at h
  | .slice _ _ _, X, c, y, e, hX, h => by simp [okT] at h
  | .call _ _, X, c, y, e, hX, h => by simp [okT] at h
  | .callK _ _ _, X, c, y, e, hX, h => by simp [okT] at h
  | .blt _ _, X, c, y, e, hX, h => by simp [okT] at h
  | .sortRev _, X, c, y, e, hX, h => by simp [okT] at h
  | .sortKey _ _, X, c, y, e, hX, h => by simp [okT] at h
  | .comp _ _ _ _ _ _, X, c, y, e, hX, h => by simp [okT] at h
  | .inDic _ _ _, X, c, y, e, hX, h => by simp [okT] at h
  | .inDicT neg a i, X, c, y, e, hX, h => by
    simp only [okT] at h
    split at h
    · simp only [Bool.and_eq_true, decide_eq_true_eq] at h
      exact t_inDic hX h.1.1 h.2 (seal_of (sE a y hX h.1.2))
    · cases h
  | .getDic _ _, X, c, y, e, hX, h => by simp [okT] at h
  | .selfF _ _ _, X, c, y, e, hX, h => by simp [okT] at h
  | .listDic _, X, c, y, e, hX, h => by simp [okT] at h
  | .op _ _, X, c, y, e, hX, h => by simp [okT] at h
theorem sTa : ∀ (es : IRs) {X : Cx} {c : CC} (y : Dy) {as : List Expr} {pos : Pos}, XOk p C T X c → okTs T c es as = true → PW X (.BoolOp .And as pos) (rdO' p y (evAndT C es))
  | .nil, X, c, y, as, pos, hX, h => by simp [okTs] at h
  | .cons a es, X, c, y, as, pos, hX, h => by
    cases as with
    | nil => simp [okTs] at h
    | cons e as =>
      simp only [okTs, Bool.and_eq_true] at h
      cases es with
      | nil =>
        cases as with
        | nil => exact t_and1 (sT a y hX h.1)
        | cons _ _ => cases h.2
      | cons b es =>
        cases as with
        | nil => exact absurd h.2 (by simp [okTs])
        | cons e' as => exact t_and (sT a y hX h.1) (sTa (.cons b es) y hX h.2)
theorem sTo : ∀ (es : IRs) {X : Cx} {c : CC} (y : Dy) {as : List Expr} {pos : Pos}, XOk p C T X c → okTs T c es as = true → PW X (.BoolOp .Or as pos) (rdO' p y (evOrT C es))
  | .nil, X, c, y, as, pos, hX, h => by simp [okTs] at h
  | .cons a es, X, c, y, as, pos, hX, h => by
    cases as with
    | nil => simp [okTs] at h
    | cons e as =>
      simp only [okTs, Bool.and_eq_true] at h
      cases es with
      | nil =>
        cases as with
        | nil => exact t_or1 (sT a y hX h.1)
        | cons _ _ => cases h.2
      | cons b es =>
        cases as with
        | nil => exact absurd h.2 (by simp [okTs])
        | cons e' as => exact t_or (sT a y hX h.1) (sTo (.cons b es) y hX h.2)
end
end
end DS
/-! ## Statements: readings -/
namespace DS
open PySem PySem.Spec PyProof.Rows L2
section
variable {p : Par} {C : Cxt} {T : Tab} {X : Cx} {c : CC} {y : Dy}
def EndQ (p : Par) (y : Dy) (S0 : Hp) (D : Ends) : Fl × En → Prop := fun z => ∀ σ' H' S', Stt p y S' σ' H' z.2 → Sub S0 S' → match z.1 with
  | .nx => D.nx σ' H'
  | .bk => D.bk σ' H'
  | .ct => D.ct σ' H'
  | .rt r => ∀ v, RepA p y S' σ' H' z.2 r v → D.rt v H'
theorem EndQ.sub {S0 S1 : Hp} {D : Ends} {z : Fl × En} (h : EndQ p y S0 D z) (hS : Sub S0 S1) : EndQ p y S1 D z := fun σ' H' S' st q => h σ' H' S' st (hS.trans q)
def rdS (p : Par) (y : Dy) (f : En → Out (Fl × En)) : TS := fun D σ H => ∃ S ρ, Stt p y S σ H ρ ∧ Res (f ρ) (EndQ p y S D)
theorem fl_map (f : Fl) (σ : En) (k : En → Out (Fl × En)) : (match f with | .nx => k σ | .bk => .ok (.bk, σ) | .ct => .ok (.ct, σ) | .rt r => .ok (.rt r, σ)) = (match f with | .nx => k σ | f => .ok (f, σ) : Out (Fl × En)) := by cases f <;> rfl
/-! ### blocks -/
theorem b_nil : PSs X [] (rdS p y (exs C .nil)) := PSs.mono pss_nil fun D σ H ⟨S, ρ, st, q⟩ => q σ H S st (Sub.refl _)
theorem b_cons {s : SR} {ss : SRs} {st : Stmt} {rest : List Stmt} (h1 : PS X st (rdS p y (ex C s))) (h2 : PSs X rest (rdS p y (exs C ss))) : PSs X (st :: rest) (rdS p y (exs C (.cons s ss))) :=
  PSs.mono (pss_cons h1 h2) fun D σ H ⟨S, ρ, st, q⟩ => by
  refine ⟨S, ρ, st, ?_⟩
  obtain ⟨⟨f, ρ1⟩, e1, q1⟩ := Res.bnd (x := ex C s ρ) q
  rw [e1]
  intro σ1 H1 S1 st1 hS
  cases f with
  | nx =>
    refine ⟨S1, ρ1, st1, ?_⟩
    obtain ⟨z, e2, q2⟩ := Res.ok (x := exs C ss ρ1) q1
    rw [e2]
    exact EndQ.sub q2 hS
  | bk => exact (show EndQ p y S D (.bk, ρ1) from q1) σ1 H1 S1 st1 hS
  | ct => exact (show EndQ p y S D (.ct, ρ1) from q1) σ1 H1 S1 st1 hS
  | rt r => exact (show EndQ p y S D (.rt r, ρ1) from q1) σ1 H1 S1 st1 hS
/-! ### small statements -/
theorem s_pass {st : Stmt} {t : TS} (h : PS X st t) (f : Fl) (s : SR) (hs : ∀ ρ, ex C s ρ = .ok (f, ρ)) (ht : ∀ D σ H, (match f with | .nx => D.nx σ H | .bk => D.bk σ H | .ct => D.ct σ H | .rt r => False) → t D σ H) (hf : ∀ r, f ≠ .rt r) : PS X st (rdS p y (ex C s)) :=
  PS.mono h fun D σ H ⟨S, ρ, st, q⟩ => by
  rw [hs] at q
  have := (show EndQ p y S D (f, ρ) from q) σ H S st (Sub.refl _)
  refine ht D σ H ?_
  cases f with
  | rt r => exact absurd rfl (hf r)
  | _ => exact this
theorem s_expr {e : IR} {st : Stmt} {a : Expr} (hs : ∀ {te}, PE X a te → PS X st (tDrop te)) (ha : PE X a (rdQ p C y e)) : PS X st (rdS p y (ex C (.expr e))) :=
  PS.mono (hs ha) fun D σ H ⟨S, ρ, st, q⟩ => by
  refine ⟨S, ρ, st, ?_⟩
  obtain ⟨z, e1, q1⟩ := Res.bnd (x := sq (ev C e ρ)) q
  show Res (sq (ev C e ρ)) _
  rw [e1]
  exact fun v H1 S1 st1 hS hH ra => (q1 : EndQ p y S D (.nx, z.2)) σ H1 S1 st1 hS
theorem s_ret {e : IR} {a : Expr} {pos : Pos} (ha : PE X a (rdE p C y e)) : PS X (.Return (some a) pos) (rdS p y (ex C (.ret e))) :=
  PS.mono (ps_ret ha) fun D σ H ⟨S, ρ, st, q⟩ => by
  refine ⟨S, ρ, st, ?_⟩
  obtain ⟨⟨r, ρ1⟩, e1, q1⟩ := Res.bnd (x := ev C e ρ) q
  rw [e1]
  intro v H1 S1 st1 hS hH ra
  dsimp only at q1
  split at q1
  · exact q1.elim
  · exact (q1 : EndQ p y S D (.rt r, ρ1)) σ H1 S1 st1 hS v ra
theorem s_retN {pos : Pos} : PS X (.Return none pos) (rdS p y (ex C .retN)) :=
  PS.mono ps_retN fun D σ H ⟨S, ρ, st, q⟩ => (q : EndQ p y S D (.rt (.v .non), ρ)) σ H S st (Sub.refl _) .non rfl
theorem s_set {i : Nat} {e : IR} {st : Stmt} {te : TE} (h : PS X st (tAsg te (gName i))) (hte : ∀ σ H Q, rdE p C y e σ H Q → te σ H Q) : PS X st (rdS p y (ex C (.set i e))) :=
  PS.mono h fun D σ H ⟨S, ρ, st, q⟩ => by
  refine hte σ H _ ⟨S, ρ, st, ?_⟩
  obtain ⟨⟨r, ρ1⟩, e1, q1⟩ := Res.bnd (x := ev C e ρ) q
  rw [e1]
  intro v H1 S1 st1 hS hH ra
  dsimp only at q1
  split at q1
  · exact (q1 : EndQ p y S D (.nx, _)) _ H1 S1 (st1.putVal i ra) hS
  · exact (q1 : EndQ p y S D (.nx, _)) _ H1 S1 (st1.putOwn i ra) hS
  · exact q1.elim
theorem sq_in {e : IR} {ρ : En} {σ : L2.St} {H S : Hp} {β : Type} {k : Ar × En → Out β} {F : β → Prop} {te : TE} {Q : VK} (st : Stt p y S σ H ρ) (hte : ∀ σ H Q, rdE p C y e σ H Q → te σ H Q)
    (q : Res ((sq (ev C e ρ)).bnd k) F) (hQ : ∀ r ρ1 v H1 S1, Res (k (r, ρ1)) F → Stt p y S1 σ H1 ρ1 → Sub S S1 → Sub H H1 → r.seal = r → RepA p y S1 σ H1 ρ1 r v → Q v H1) : te σ H Q := by
  refine hte σ H _ ?_
  have := one_rd (G := Q) st q hQ
  obtain ⟨S0, ρ0, st0, q0⟩ := this
  refine ⟨S0, ρ0, st0, ?_⟩
  obtain ⟨z, e1, q1⟩ := Res.bnd (x := ev C e ρ0) (f := fun p => Out.ok (p.1.seal, p.2)) q0
  rw [e1]
  exact fun v H' S' st' hS hH ra => by
    obtain ⟨S2, st2, hS2, ra2⟩ := st'.sealA ra
    exact (q1 : FinQ p y σ S0 H Q (z.1.seal, z.2)) v H' S2 st2 (hS.trans hS2) hH ra2
theorem s_setS {i : Nat} {e : IR} {st : Stmt} {te : TE} (h : PS X st (tAsg te (gName i))) (hte : ∀ σ H Q, rdE p C y e σ H Q → te σ H Q) : PS X st (rdS p y (ex C (.setS i e))) :=
  PS.mono h fun D σ H ⟨S, ρ, st, q⟩ => by
  refine sq_in (k := fun z => match z.1 with | .v d => Out.ok (Fl.nx, z.2.set i (.val d)) | _ => .bad) st hte q fun r ρ1 v H1 S1 q1 st1 hS hH _ ra => ?_
  dsimp only at q1
  split at q1
  · exact (q1 : EndQ p y S D (.nx, _)) _ H1 S1 (st1.putVal i ra) hS
  · exact q1.elim
theorem s_unp (hK : X.K = p.K) {is : List Nat} {e : IR} {st : Stmt} {te : TE} (h : PS X st (tAsg te (gOf p.K (.tp is)))) (hte : ∀ σ H Q, rdE p C y e σ H Q → te σ H Q) : PS X st (rdS p y (ex C (.unp is e))) :=
  PS.mono h fun D σ H ⟨S, ρ, st, q⟩ => by
  refine sq_in (k := fun z => match z.1 with | .v (.tup ds) => if ds.length = is.length then Out.ok (Fl.nx, setAll is ds z.2) else .bad | _ => .bad) st hte q fun r ρ1 v H1 S1 q1 st1 hS hH _ ra => ?_
  dsimp only at q1
  split at q1
  · rename_i ds _
    split at q1
    · rename_i hl
      refine asg_rd (ρ1 := setAll is ds ρ1) st1.sub st1 ra (by show (if ds.length = is.length then some (setAll is ds ρ1) else none) = _; rw [if_pos hl]) fun σ1 st2 _ _ => ?_
      exact (q1 : EndQ p y S D (.nx, _)) _ H1 S1 st2 hS
    · exact q1.elim
  · exact q1.elim
theorem s_par2 {i j : Nat} (hij : i ≠ j) {es : IRs} {st : Stmt} {as : List Expr} (h : PS X st (tPar i j (rdA p C y es))) : PS X st (rdS p y (ex C (.par [i, j] es))) :=
  PS.mono h fun D σ H ⟨S, ρ, st, q⟩ => by
  refine ⟨S, ρ, st, ?_⟩
  obtain ⟨⟨rs, ρ1⟩, e1, q1⟩ := Res.bnd (x := evs C es ρ) q
  rw [e1]
  intro vs H1 S1 st1 hS hH ras
  dsimp only at q1
  split at q1
  · exact q1.elim
  · rename_i hb
    split at q1
    · rename_i hl
      have rv := ras.vals (by simpa using hb)
      cases rs with
      | nil => cases hl
      | cons r rs =>
        cases rs with
        | nil => cases hl
        | cons r' rs =>
          cases rs with
          | cons _ _ => cases hl
          | nil =>
            obtain ⟨v, q2, e2, rv1, w, q3, e3, rv2, e4⟩ := rv
            cases (show q3 = [] from e4)
            subst e3 e2
            exact ⟨v, w, rfl, (q1 : EndQ p y S D (.nx, _)) _ H1 S1 ((st1.putVal i rv1).putVal j rv2) hS⟩
    · exact q1.elim
theorem s_par3 {i j l : Nat} {es : IRs} {st : Stmt} (h : PS X st (tPar3 i j l (rdA p C y es))) : PS X st (rdS p y (ex C (.par [i, j, l] es))) :=
  PS.mono h fun D σ H ⟨S, ρ, st, q⟩ => by
  refine ⟨S, ρ, st, ?_⟩
  obtain ⟨⟨rs, ρ1⟩, e1, q1⟩ := Res.bnd (x := evs C es ρ) q
  rw [e1]
  intro vs H1 S1 st1 hS hH ras
  dsimp only at q1
  split at q1
  · exact q1.elim
  · rename_i hb
    split at q1
    · rename_i hl
      have rv := ras.vals (by simpa using hb)
      cases rs with
      | nil => cases hl
      | cons r rs =>
        cases rs with
        | nil => cases hl
        | cons r' rs =>
          cases rs with
          | nil => cases hl
          | cons r'' rs =>
            cases rs with
            | cons _ _ => cases hl
            | nil =>
              obtain ⟨v, q2, e2, rv1, w, q3, e3, rv2, u, q4, e4, rv3, e5⟩ := rv
              cases (show q4 = [] from e5)
              subst e4 e3 e2
              exact ⟨v, w, u, rfl, (q1 : EndQ p y S D (.nx, _)) _ H1 S1 (((st1.putVal i rv1).putVal j rv2).putVal l rv3) hS⟩
    · exact q1.elim
/-! ### name op= e -/
def rAug : Operator → R2
  | .Add => fun x y H Q => rI0 (fun i j => .int (i + j)) x y H Q ∨ (∃ i j, x = .str i ∧ y = .str j ∧ i.length + j.length ≤ sizeLine ∧ Q (.str (i ++ j)) H)
  | .Sub => rI0 fun i j => .int (i - j)
  | .Mult => rI CMul fun i j => .int (i * j)
  | .BitAnd => rI0 fun i j => .int (Builtin.bitAnd i j)
  | .BitOr => rI0 fun i j => .int (Builtin.bitOr i j)
  | .BitXor => rI0 fun i j => .int (Builtin.bitXor i j)
  | _ => fun _ _ _ _ => False
theorem op_aug : ∀ o : Operator, PIp X o (rAug o)
  | .Add => iop_add.or iop_add_str
  | .Sub => iop_sub
  | .Mult => iop_mul
  | .BitAnd => iop_and
  | .BitOr => iop_or
  | .BitXor => iop_xor
  | .MatMult => OpR.never
  | .Div => OpR.never
  | .Mod => OpR.never
  | .Pow => OpR.never
  | .LShift => OpR.never
  | .RShift => OpR.never
  | .FloorDiv => OpR.never
theorem aug_fin {σ : L2.St} {H S : Hp} {ρ : En} {o : Operator} {a b : D} {v w : V} {d : D} {Q : VK} (e : augD o a b = .ok (.v d)) (ra : RepV p S H a v) (rb : RepV p S H b w) (fin : ∀ u, Rep p S d u → Q u H) : rAug o v w H Q := by
  unfold augD at e
  split at e
  · cases e; cases (show v = _ from ra); cases (show w = _ from rb); exact .inl ⟨_, _, rfl, rfl, fin _ rfl⟩
  · cases e; cases (show v = _ from ra); cases (show w = _ from rb); exact ⟨_, _, rfl, rfl, fin _ rfl⟩
  · split at e
    · rename_i hc; cases e; cases (show v = _ from ra); cases (show w = _ from rb); exact ⟨_, _, rfl, rfl, hc, fin _ rfl⟩
    · cases e
  · cases e; cases (show v = _ from ra); cases (show w = _ from rb); exact ⟨_, _, rfl, rfl, fin _ rfl⟩
  · cases e; cases (show v = _ from ra); cases (show w = _ from rb); exact ⟨_, _, rfl, rfl, fin _ rfl⟩
  · cases e; cases (show v = _ from ra); cases (show w = _ from rb); exact ⟨_, _, rfl, rfl, fin _ rfl⟩
  · split at e
    · rename_i hc; cases e; cases (show v = _ from ra); cases (show w = _ from rb); exact .inr ⟨_, _, rfl, rfl, hc, fin _ rfl⟩
    · cases e
  · cases e
theorem s_aug {i : Nat} {o : Operator} {e : IR} {st : Stmt} (h : PS X st (tAug i (rdQ p C y e) (rAug o))) : PS X st (rdS p y (ex C (.aug i o e))) :=
  PS.mono h fun D σ H ⟨S, ρ, st, q⟩ => by
  simp only [ex] at q
  split at q
  · rename_i x hx
    obtain ⟨v, e1, rx⟩ := (show SlOk p y S H i σ[i]? (.val x) from st.sl i _ hx)
    refine ⟨v, e1, one_rd (k := fun z => (augD o x z.1.view).bnd fun w => match w with | .v d => Out.ok (Fl.nx, z.2.set i (.val d)) | _ => .bad) st q fun r ρ1 w H1 S1 q1 st1 hS hH _ ra => ?_⟩
    obtain ⟨w', e2, q2⟩ := Res.bnd q1
    dsimp only at q2
    split at q2
    · rename_i d
      have rx1 : RepV p S1 H1 x v := by
        have := RepA.viewV (y := y) (σ := σ) (ρ := ρ1) st1 (r := .v x) (v := v) (Rep.sub hS x v rx)
        exact this
      exact aug_fin (σ := σ) (ρ := ρ1) e2 rx1 (ra.viewV st1) fun u ru => (q2 : EndQ p y S D (.nx, _)) _ H1 S1 (st1.putVal i ru) hS
    · exact q2.elim
  · exact q.elim
/-! ### xs[k] = e, xs.append(e) -/
theorem s_setIx {i : Nat} {k e : IR} {st : Stmt} {te : TE} (h : PS X st (tAsg te (gSub (tVar i) (rdQ p C y k) rSetL))) (hte : ∀ σ H Q, rdE p C y e σ H Q → te σ H Q) : PS X st (rdS p y (ex C (.setIx i k e))) :=
  PS.mono h fun D σ H ⟨S, ρ, st, q⟩ => by
  obtain ⟨F, hF⟩ : ∃ F : Ar × En → Out (Fl × En), F = fun z => (match z.1, z.2[i]? with
    | .v d, some (.own _) => (sq (ev C k z.2)).bnd fun q => (match q.2[i]?, q.1.view with
      | some (.own ds), .int n => (match ixN ds.length n with
        | some j => .ok (.nx, q.2.set i (.own (ds.set j d)))
        | none => .bad)
      | _, _ => .bad)
    | _, _ => .bad) := ⟨_, rfl⟩
  have q : Res ((sq (ev C e ρ)).bnd F) (EndQ p y S D) := by rw [hF]; exact q
  refine sq_in st hte q fun r ρ1 v H1 S1 q1 st1 hS hH _ ra => ?_
  rw [hF] at q1
  dsimp only at q1
  split at q1
  · rename_i d ds0 hd0 _
    obtain ⟨l, vs0, b1, b2, b3, b4, b5⟩ := (show SlOk p y S1 H1 i σ[i]? (.own ds0) from st1.sl i _ hd0)
    refine ⟨.ref l, b1, ?_⟩
    refine one_rd st1 q1 fun r2 ρ2 w H2 S2 q3 st2 hS2 hH2 s2 rb => ?_
    dsimp only at q3
    split at q3
    · rename_i ds n hd hn
      obtain ⟨l', vs, a1, a2, a3, a4, a5⟩ := (show SlOk p y S2 H2 i σ[i]? (.own ds) from st2.sl i _ hd)
      have rw' := rb.viewV st2
      rw [hn] at rw'
      cases (show w = _ from rw')
      split at q3
      · rename_i j hj
        rw [b1] at a1
        cases a1
        refine ⟨l, vs, n, j, rfl, rfl, a2, by rw [← a5.length]; exact hj, ?_⟩
        have rd : Rep p S2 d v := Rep.sub hS2 d v ra
        have stw := st2.write (s' := .own (ds.set j d)) (u := .lst (vs.set j v)) hd rfl b1 a3 a4 ⟨l, vs.set j v, b1, upd_same, a3, a4, a5.set j rd⟩ rfl
        exact (q3 : EndQ p y S D (.nx, _)) _ _ S2 stw (hS.trans hS2)
      · exact q3.elim
    · exact q3.elim
  · exact q1.elim
theorem s_app (hK : X.K = p.K) {i : Nat} {e : IR} {st : Stmt} (h : PS X st (tDrop (tBM X.K "list" rAppend (tVar i) (tCons (rdQ p C y e) tNil)))) : PS X st (rdS p y (ex C (.app i e))) :=
  PS.mono h fun D σ H ⟨S, ρ, st, q⟩ => by
  simp only [ex] at q
  split at q
  · rename_i ds0 hd0
    obtain ⟨l, vs0, b1, b2, b3, b4, b5⟩ := (show SlOk p y S H i σ[i]? (.own ds0) from st.sl i _ hd0)
    refine ⟨.ref l, b1, .inl ⟨rfl, _, SqL.of b2⟩, ?_⟩
    obtain ⟨F, hF⟩ : ∃ F : Ar × En → Out (Fl × En), F = fun z => (match z.1, z.2[i]? with
      | .v d, some (.own ds) => if ds.length < sizeLine then .ok (.nx, z.2.set i (.own (ds ++ [d]))) else .bad
      | _, _ => .bad) := ⟨_, rfl⟩
    have q : Res ((sq (ev C e ρ)).bnd F) (EndQ p y S D) := by rw [hF]; exact q
    refine one_rd st q fun r ρ1 v H1 S1 q1 st1 hS hH _ ra => ?_
    rw [hF] at q1
    dsimp only at q1
    split at q1
    · rename_i d ds hd _
      split at q1
      · rename_i hl
        obtain ⟨l', vs, a1, a2, a3, a4, a5⟩ := (show SlOk p y S1 H1 i σ[i]? (.own ds) from st1.sl i _ hd)
        rw [b1] at a1
        cases a1
        refine ⟨l, vs, v, rfl, rfl, a2, by rw [← a5.length]; exact hl, ?_⟩
        have stw := st1.write (s' := .own (ds ++ [d])) (u := .lst (vs ++ [v])) hd rfl b1 a3 a4 ⟨l, vs ++ [v], b1, upd_same, a3, a4, a5.append (Reps.one ra)⟩ rfl
        exact (q1 : EndQ p y S D (.nx, _)) _ _ S1 stw hS
      · exact q1.elim
    · exact q1.elim
  · exact q.elim
/-! ### if, while, for -/
theorem s_ife {t : IR} {a b : SRs} {te : Expr} {as bs : List Stmt} {pos : Pos} (ht : PT X te (rdT p C y t)) (ha : PSs X as (rdS p y (exs C a))) (hb : PSs X bs (rdS p y (exs C b))) : PS X (.If te as bs pos) (rdS p y (ex C (.ife t a b))) :=
  PS.mono (ps_if ht ha hb) fun D σ H ⟨S, ρ, st, q⟩ => by
  refine ⟨S, ρ, st, ?_⟩
  obtain ⟨⟨k, ρ1⟩, e1, q1⟩ := Res.bnd (x := ev C t ρ) q
  rw [e1]
  dsimp only at q1
  split at q1
  · rename_i kb
    refine ⟨kb, rfl, fun H1 S1 st1 hS hH => ?_⟩
    cases kb with
    | true =>
      simp only [if_true] at q1 ⊢
      refine ⟨S1, ρ1, st1, ?_⟩
      obtain ⟨z, e2, q2⟩ := Res.ok q1
      rw [e2]
      exact EndQ.sub q2 hS
    | false =>
      simp only [Bool.false_eq_true, if_false] at q1 ⊢
      refine ⟨S1, ρ1, st1, ?_⟩
      obtain ⟨z, e2, q2⟩ := Res.ok q1
      rw [e2]
      exact EndQ.sub q2 hS
  · exact q1.elim
theorem s_whl (hX : XOk p C T X c) {t : IR} {b : SRs} {te : Expr} {bs : List Stmt} {pos : Pos} (ht : PT X te (rdT p C y t)) (hb : PSs X bs (rdS p y (exs C b))) : PS X (.While te bs [] pos) (rdS p y (ex C (.whl t b))) :=
  PS.mono (ps_while hX.pass ht hb) fun D σ H ⟨S, ρ, st, q⟩ => by
  refine ⟨fun m σ H => ∃ S1 ρ1, Stt p y S1 σ H ρ1 ∧ Sub S S1 ∧ Res (whileLoop (ev C t) (exs C b) m ρ1) (EndQ p y S D), ⟨C.fuel, S, ρ, st, Sub.refl _, q⟩, ?_⟩
  rintro m σ1 H1 ⟨S1, ρ1, st1, hS1, q1⟩
  cases m with
  | zero => exact q1.elim
  | succ m =>
    obtain ⟨⟨k, ρ2⟩, e1, q2⟩ := Res.bnd (x := ev C t ρ1) q1
    refine ⟨S1, ρ1, st1, ?_⟩
    rw [e1]
    dsimp only at q2
    split at q2
    · rename_i kb
      refine ⟨kb, rfl, fun H2 S2 st2 hS hH => ?_⟩
      cases kb with
      | true =>
        simp only [if_true] at q2 ⊢
        refine ⟨fun σ' H' => ∃ S3 ρ3, Stt p y S3 σ' H' ρ3 ∧ Sub S S3 ∧ Res (whileLoop (ev C t) (exs C b) m ρ3) (EndQ p y S D), fun σ' H' z => ⟨m, Nat.lt_succ_self _, z⟩, S2, ρ2, st2, ?_⟩
        obtain ⟨⟨f, ρ3⟩, e3, q3⟩ := Res.bnd (x := exs C b ρ2) q2
        rw [e3]
        intro σ' H' S' st' hS'
        cases f with
        | nx => exact ⟨S', ρ3, st', hS1.trans (hS.trans hS'), q3⟩
        | ct => exact ⟨S', ρ3, st', hS1.trans (hS.trans hS'), q3⟩
        | bk => exact (show EndQ p y S D (.nx, ρ3) from q3) σ' H' S' st' (hS1.trans (hS.trans hS'))
        | rt r => exact (show EndQ p y S D (.rt r, ρ3) from q3) σ' H' S' st' (hS1.trans (hS.trans hS'))
      | false =>
        simp only [Bool.false_eq_true, if_false] at q2 ⊢
        exact (q2 : EndQ p y S D (.nx, ρ2)) σ1 H2 S2 st2 (hS1.trans hS)
    · exact q2.elim
theorem s_for (hX : XOk p C T X c) {t : Tg} {k : ItK} {es : IRs} {b : SRs} {tg iter : Expr} {bs : List Stmt} {pos : Pos} (hi : PI X tg iter (rdI p C y k es)) (hg : PG X tg (gOf p.K t)) (hb : ∀ y, PSs X bs (rdS p y (exs C b))) (hs : ∀ x, foldedSetIterable iter X.env x = pure x) :
    PS X (.For tg iter bs [] pos) (rdS p y (ex C (.for_ t k es b))) :=
  PS.mono (ps_for hX.pass hX.calm hi hg (PSs.ex hb) hs) fun D σ H ⟨S, ρ, st, q⟩ => by
  refine ⟨S, ρ, st, ?_⟩
  obtain ⟨⟨rs, ρ1⟩, e1, q1⟩ := Res.bnd (x := evs C es ρ) q
  rw [e1]
  dsimp only at q1
  split at q1
  · exact q1.elim
  · rename_i xs hxs
    split at q1
    · rename_i hbr
      refine ⟨xs, hxs, hbr, fun J H1 S1 y1 st1 hS hH hy hback w => ?_⟩
      obtain ⟨⟨fl, ρf⟩, ef, qf⟩ := Res.bnd (x := forLoop t (exs C b) xs ((lockers rs ρ1).foldl lockAt ρ1)) q1
      have q2 : Res (forLoop t (exs C b) xs ((lockers rs ρ1).foldl lockAt ρ1)) fun z => EndQ p y S D (z.1, (lockers rs ρ1).foldr (fun i τ => unlockAt τ i) z.2) := by
        rw [ef]
        exact qf
      -- the end: locks opened
      have fin : ∀ {f : Fl} {ρ' : En} {σ' : L2.St} {H' S' : Hp}, EndQ p y S D (f, (lockers rs ρ1).foldr (fun i τ => unlockAt τ i) ρ') → Stt p y1 S' σ' H' ρ' → Sub S S' → (match f with
          | .nx => D.nx σ' H' | .bk => D.bk σ' H' | .ct => D.ct σ' H' | .rt r => ∀ v, RepA p y1 S' σ' H' ρ' r v → D.rt v H') := fun {f ρ' σ' H' S'} hq hst hs => by
        obtain ⟨st', hf⟩ := hback _ _ _ _ hst
        have := hq σ' H' S' st' hs
        cases f with
        | rt r =>
          intro v ra
          refine this v ?_
          cases r with
          | v d => exact ra
          | br i ds => exact ra
          | fr ds =>
            obtain ⟨l, vs, a1, a2, a3, a4, a5, a6⟩ := ra
            refine ⟨l, vs, a1, a2, a3, ?_, a5, hf l a4 a6⟩
            cases z : y.H0 l with
            | none => rfl
            | some o => rw [hy _ _ z] at a4; cases a4
        | _ => exact this
      refine ⟨fun i m σ' H' => m = xs.length - i ∧ i ≤ xs.length ∧ ∃ S2 ρ2, Stt p y1 S2 σ' H' ρ2 ∧ Sub S S2 ∧ Sub S1 S2 ∧ Res (forLoop t (exs C b) (xs.drop i) ρ2) fun z => EndQ p y S D (z.1, (lockers rs ρ1).foldr (fun i τ => unlockAt τ i) z.2),
        ⟨xs.length, rfl, Nat.zero_le _, S1, _, st1, hS, Sub.refl _, q2⟩, ?_⟩
      rintro i m σ2 H2 ⟨rfl, hi2, S2, ρ2, st2, hS2, hS12, q3⟩
      have hB : Sub y1.H0 H2 := st2.same
      by_cases hlt : i < xs.length
      · refine .inr ⟨w.goes i H2 S2 hlt hS12 st2.sub hB, fun σ' H' => ∃ S2 ρ2, Stt p y1 S2 σ' H' ρ2 ∧ Sub S S2 ∧ Sub S1 S2 ∧ Res (forLoop t (exs C b) (xs.drop (i + 1)) ρ2) fun z => EndQ p y S D (z.1, (lockers rs ρ1).foldr (fun i τ => unlockAt τ i) z.2),
          fun σ' H' z => ⟨xs.length - (i + 1), by omega, rfl, hlt, z⟩, fun x H' yl => ?_⟩
        obtain ⟨S3, d, hd, rd, b1, b2, b3, b4⟩ := w.yields i H2 S2 x H' hlt hS12 st2.sub hB yl
        have st3 : Stt p y1 S3 σ2 H' ρ2 := st2.grow b1 b3 b2 b4
        have edrop : xs.drop i = d :: xs.drop (i + 1) := by
          obtain ⟨h1, h2⟩ := List.getElem?_eq_some_iff.mp hd
          rw [← h2]
          exact List.drop_eq_getElem_cons h1
        rw [edrop] at q3
        simp only [forLoop] at q3
        split at q3
        · exact q3.elim
        · rename_i ρ4 ha
          refine asg_rd b2 st3 rd ha fun σ4 st4 _ _ => ?_
          obtain ⟨⟨f, ρ5⟩, e5, q5⟩ := Res.bnd (x := exs C b ρ4) q3
          refine ⟨y1, S3, ρ4, st4, ?_⟩
          rw [e5]
          intro σ' H'' S' st' hS'
          cases f with
          | nx => exact ⟨S', ρ5, st', hS2.trans (b1.trans hS'), hS12.trans (b1.trans hS'), q5⟩
          | ct => exact ⟨S', ρ5, st', hS2.trans (b1.trans hS'), hS12.trans (b1.trans hS'), q5⟩
          | bk => exact fin (f := .nx) q5 st' (hS2.trans (b1.trans hS'))
          | rt r => exact fin (f := .rt r) q5 st' (hS2.trans (b1.trans hS'))
      · have e : i = xs.length := by omega
        subst e
        refine .inl ⟨w.stops H2 S2 hS12 st2.sub hB, ?_⟩
        rw [List.drop_length] at q3
        exact fin (f := .nx) (q3 : EndQ p y S D (.nx, _)) st2 hS2
    · exact q1.elim
end
end DS
/-! ## Statements: dicts of one's own, fields of what is being made, code that is not reached -/
namespace DS
open PySem PySem.Spec PyProof.Rows L2
theorem putF_zip {f : Str} {v : V} : ∀ {fs : List Str} {us : List V}, fs.Nodup → fs[us.length]? = some f → putF f v (fs.zip us) = fs.zip (us ++ [v])
  | [], _, _, h => by simp at h
  | g :: fs, [], _, h => by
    have e : g = f := by simpa using h
    subst e
    rw [List.zip_nil_right]
    simp [putF]
  | g :: fs, u :: us, hn, h => by
    have h' : fs[us.length]? = some f := by simpa using h
    obtain ⟨h1, h2⟩ := List.nodup_cons.mp hn
    have ne : g ≠ f := fun z => h1 (by rw [z]; exact List.mem_of_getElem? h')
    show putF f v ((g, u) :: fs.zip us) = (g, u) :: fs.zip (us ++ [v])
    rw [← putF_zip h2 h']
    unfold putF
    rw [if_neg ne]
    cases fs.zip us <;> rfl
section
variable {p : Par} {C : Cxt} {T : Tab} {X : Cx} {c : CC} {y : Dy}
theorem s_dead {st : Stmt} : PS X st (rdS p y (ex C .dead)) := ⟨fun _ _ _ _ _ _ ⟨_, _, _, q⟩ => (show False from q).elim⟩
theorem s_setF (hX : XOk p C T X c) {i k : Nat} {f : Str} {e : IR} {x : Str} {v : Expr} {px pos pos' : Pos} (hx : nmB c i x = true) (hf : fdB T k f = true) (hv : PE X v (rdQ p C y e)) (hs : swapsWith v (some (.Attribute (.Name x px) f pos')) pos.line X.env = pure false) :
    PS X (.Assign [.Attribute (.Name x px) f pos'] v pos) (rdS p y (ex C (.setF i k f e))) := by
  obtain ⟨ce, _, hm, G⟩ := fd_cl hX hf
  obtain ⟨h1, h2, h3, h4⟩ := hX.vis hx
  have hn : PE X (.Name x px) (tVar i) := pe_var h1 h2 h3 h4
  refine PS.mono (ps_fld hn hv hs) fun D σ H ⟨S, ρ, st, q⟩ => ?_
  obtain ⟨F, hF⟩ : ∃ F : Ar × En → Out (Fl × En), F = fun z => (match z.1, z.2[i]? with
    | .v d, some (.obj k' fs) => if k' = k ∧ (C.fields k)[fs.length]? = some f then .ok (.nx, z.2.set i (.obj k (fs ++ [d]))) else .bad
    | _, _ => .bad) := ⟨_, rfl⟩
  have q : Res ((sq (ev C e ρ)).bnd F) (EndQ p y S D) := by
    rw [hF]
    simp only [ex] at q
    exact q
  refine one_rd st q fun r ρ1 w H1 S1 q1 st1 hS hH _ ra => ?_
  rw [hF] at q1
  dsimp only at q1
  split at q1
  · rename_i d k' fs hd _
    split at q1
    · rename_i hk
      obtain ⟨rfl, hk⟩ := hk
      obtain ⟨l, u, b1, b2, b3, b4, b6, b5⟩ := (show SlOk p y S1 H1 i σ[i]? (.obj k' fs) from st1.sl i _ hd)
      rw [hX.flds, b5.length] at hk
      have few : ((p.fields k').zip u.2).length < 1000 := by
        have := G.few
        rw [← G.fields] at this
        rw [List.length_zip]
        omega
      refine ⟨.ref l, b1, l, p.cl k', u.1, _, rfl, b2, G.cls, G.no f hm, few, ?_⟩
      rw [putF_zip (by rw [G.fields]; exact G.nd) hk]
      have stw := st1.write (s' := .obj k' (fs ++ [d])) (u := .ins (p.cl k') u.1 ((p.fields k').zip (u.2 ++ [w]))) hd rfl b1 b3 b4 ⟨l, (u.1, u.2 ++ [w]), b1, upd_same, b3, b4, b6, b5.append (Reps.one ra)⟩ rfl
      exact (q1 : EndQ p y S D (.nx, _)) _ _ S1 stw hS
    · exact q1.elim
  · exact q1.elim
theorem s_setDic (hX : XOk p C T X c) {i : Nat} {k e : IR} {x : Str} {kx v : Expr} {px pos pos' : Pos} (hx : nmB c i x = true) (hk : PE X kx (rdQ p C y k)) (hv : PE X v (rdQ p C y e)) (hs : swapsWith v (some (.Subscript (.Name x px) kx pos')) pos.line X.env = pure false) :
    PS X (.Assign [.Subscript (.Name x px) kx pos'] v pos) (rdS p y (ex C (.setDic i k e))) := by
  obtain ⟨h1, h2, h3, h4⟩ := hX.vis hx
  have hn : PE X (.Name x px) (tVar i) := pe_var h1 h2 h3 h4
  have hu : X.A.units + 1 < cLine := by have := hX.units; omega
  refine PS.mono (ps_dput hu hn hk hv hs) fun D σ H ⟨S, ρ, st, q⟩ => ?_
  obtain ⟨F, hF⟩ : ∃ F : Ar × En → Out (Fl × En), F = fun z => (match z.1, z.2[i]? with
    | .v d, some (.dic _) => (sq (ev C k z.2)).bnd fun q => (match q.2[i]?, keyD q.1.view with
      | some (.dic kvs), some k => if kvs.length < sizeLine then .ok (.nx, q.2.set i (.dic (putD kvs k d))) else .bad
      | _, _ => .bad)
    | _, _ => .bad) := ⟨_, rfl⟩
  have q : Res ((sq (ev C e ρ)).bnd F) (EndQ p y S D) := by rw [hF]; exact q
  refine one_rd st q fun r ρ1 w H1 S1 q1 st1 hS hH _ ra => ?_
  rw [hF] at q1
  dsimp only at q1
  split at q1
  · rename_i d kv0 hd0 _
    obtain ⟨l, u, b1, b2, b3, b4, b5⟩ := dic_at st1 hd0
    refine ⟨.ref l, b1, ?_⟩
    refine one_rd st1 q1 fun r2 ρ2 w2 H2 S2 q3 st2 hS2 hH2 s2 rb => ?_
    dsimp only at q3
    split at q3
    · rename_i kvs ky hd hk'
      obtain ⟨l', vs, a1, a2, a3, a4, a5⟩ := dic_at st2 hd
      rw [b1] at a1
      cases a1
      split at q3
      · rename_i hl
        rw [key_v hk' (rb.viewV st2)]
        have rd : Rep p S2 d w := Rep.sub hS2 d w ra
        refine ⟨l, _, rfl, DPut.k a2 (by rw [← a5.length]; exact hl), ?_⟩
        have stw := st2.write (s' := .dic (putD kvs ky d)) (u := .dK (putK vs ky w)) hd rfl b1 a3 a4 ⟨l, putK vs ky w, b1, upd_same, a3, a4, RepKs.put rd a5⟩ rfl
        exact (q3 : EndQ p y S D (.nx, _)) _ _ S2 stw (hS.trans hS2)
      · exact q3.elim
    · exact q3.elim
  · exact q1.elim
theorem s_newDic {i : Nat} {st : Stmt} (h : PS X st (tAsg tDNewK (gName i))) : PS X st (rdS p y (ex C (.newDic i))) :=
  PS.mono h fun D σ H ⟨S, ρ, st, q⟩ => by
  intro a ha
  obtain ⟨st1, hH⟩ := st.newF (o := .dK []) ha
  obtain ⟨l, vs, e1, _, _, _, _, hf⟩ := (show RepA p y S σ (upd H a (.lst [])) ρ (.fr []) (.ref a) from st.freshA (vs := []) (ds := []) ha rfl)
  cases e1
  have stw := st1.put (i := i) (s := .dic []) (v := .ref a) ⟨a, [], rfl, upd_same, (st.none0 ha).1, (st.none0 ha).2, rfl⟩ fun _ => ⟨a, rfl, hf⟩
  exact (show EndQ p y S D (.nx, ρ.set i (.dic [])) from q) _ _ S stw (Sub.refl _)
end
end DS
/-! ## Statements: the check and its soundness -/
namespace DS
open PySem PySem.Spec PyProof.Rows L2
def noComp : Expr → Bool
  | .ListComp _ _ _ _ => false
  | .SetComp _ _ _ _ => false
  | .DictComp _ _ _ _ _ => false
  | _ => true
def swB (c : CC) (x : Str) (px : Pos) : Expr → Bool
  | .ListComp elt gs s pos => decide (c.sc.lookup x = some .local) && (px.line == pos.line) && !(s.names.any fun (n, k) => n == x && (k == .local || k == .cell))
  | _ => false
def swN (c : CC) (x : Str) (px : Pos) : Expr → Bool
  | .ListComp elt gs s pos => decide (c.sc.lookup x ≠ some .local) || !(px.line == pos.line)
  | _ => false
def noTup : Expr → Bool
  | .Tuple vs _ _ => vs.all (foldedForSure 8) || decide (3 < vs.length)
  | _ => true
def loB (c : CC) (i : Nat) (x : Str) : Bool := decide (c.N[i]? = some x) && decide (c.sc.lookup x = some .local)
def parB (c : CC) : List Nat → List Expr → Bool
  | [i, j], [.Name x px, .Name y py] => loB c i x && loB c j y && (px.line == py.line) && !(x == y) && decide (i ≠ j)
  | [i, j, l], [.Name x px, .Name y py, .Name z pz] => loB c i x && loB c j y && loB c l z && (px.line == py.line) && (px.line == pz.line) && !(x == y) && !(x == z) && !(y == z) && decide (i ≠ j) && decide (i ≠ l) && decide (j ≠ l)
  | _, _ => false
mutual
def okS (T : Tab) (c : CC) : SR → Stmt → Bool
  | .set i e, s => (match s with
    | .Assign [.Name x px] v _ => stB c i x && okE T c e v && (noComp v || swN c x px v || swB c x px v)
    | _ => false)
  | .setS i e, s => (match s with
    | .Assign [.Name x px] v _ => stB c i x && okE T c e v && (noComp v || swN c x px v || swB c x px v)
    | _ => false)
  | .unp is e, s => (match s with
    | .Assign [tg] v _ => okTg c (.tp is) tg && okE T c e v && noComp v && noTup v
    | _ => false)
  | .par is es, s => (match s with
    | .Assign [.Tuple ts _ _] (.Tuple vs _ _) _ => parB c is ts && okEs T c es vs && !(vs.all (foldedForSure 8)) && !(vs.all (constantsAlone 8)) && decide (vs.length = is.length)
    | _ => false)
  | .aug i o e, s => (match s with
    | .AugAssign (.Name x _) op v _ => stB c i x && decide (o = op) && okE T c e v
    | _ => false)
  | .setIx i k e, s => (match s with
    | .Assign [.Subscript (.Name x _) kx _] v _ => nmB c i x && okE T c k kx && notSlice kx && okE T c e v && noComp v
    | _ => false)
  | .setDic i k e, s => (match s with
    | .Assign [.Subscript (.Name x _) kx _] v _ => nmB c i x && okE T c k kx && okE T c e v && noComp v
    | _ => false)
  | .newDic i, s => (match s with
    | .Assign [.Name x _] (.Dict [] [] _) _ => stB c i x
    | _ => false)
  | .setF i k f e, s => (match s with
    | .Assign [.Attribute (.Name x _) g _] v _ => decide (f = g) && nmB c i x && fdB T k f && okE T c e v && noComp v
    | _ => false)
  | .dead, _ => true
  | .app i e, s => (match s with
    | .Expr (.Call (.Attribute (.Name x _) name apos) [a] [] cpos) _ => nmB c i x && decide (name = "append") && (apos.endLine == cpos.line) && okE T c e a && notStar a
    | _ => false)
  | .expr e, s => (match s with
    | .Expr a _ => okE T c e a && noComp a
    | _ => false)
  | .ret e, s => (match s with
    | .Return (some a) _ => okE T c e a
    | _ => false)
  | .retN, s => (match s with
    | .Return none _ => true
    | _ => false)
  | .ife t a b, s => (match s with
    | .If te as bs _ => okT T c t te && okSs T c a as && okSs T c b bs
    | _ => false)
  | .whl t b, s => (match s with
    | .While te bs [] _ => okT T c t te && okSs T c b bs
    | _ => false)
  | .for_ t k es b, s => (match s with
    | .For tg iter bs [] _ => (match itArgs c k tg iter with
      | some as => okEs T c es as
      | none => false) && okTg c t tg && okSs T c b bs
    | _ => false)
  | .brk, s => (match s with
    | .Break _ => true
    | _ => false)
  | .cont, s => (match s with
    | .Continue _ => true
    | _ => false)
  | .pass, s => (match s with
    | .Pass _ => true
    | .Expr (.Constant (.str _) _ _) _ => true
    | _ => false)
def okSs (T : Tab) (c : CC) : SRs → List Stmt → Bool
  | .nil, as => as.isEmpty
  | .cons a es, as => (match as with
    | e :: as => okS T c a e && okSs T c es as
    | [] => false)
end
theorem sw_no {e : Expr} {t : Option Expr} {l : Nat} {env : Env} (h : noComp e = true) : swapsWith e t l env = pure false := by
  cases e <;> first | rfl | cases h
theorem sws_no {e tg : Expr} {l : Nat} {env : Env} (h : noComp e = true) : swapsWithSole [tg] e l env = pure false := by
  have e1 : swapsWithSole [tg] e l env = swapsWith e (some tg) l env := rfl
  rw [e1]
  exact sw_no h
theorem len_two {α : Type} {l : List α} (h : l.length = 2) : ∃ a b, l = [a, b] := by
  match l, h with
  | [a, b], _ => exact ⟨a, b, rfl⟩
theorem len_three {α : Type} {l : List α} (h : l.length = 3) : ∃ a b c, l = [a, b, c] := by
  match l, h with
  | [a, b, c], _ => exact ⟨a, b, c, rfl⟩
theorem ss_no {e : Expr} {ts : List Expr} {k2 : Nat} {p2 : Pos} {env : Env} (h : noTup e = true) : swappedStores [.Tuple ts k2 p2] e env = pure none := by
  cases e with
  | Tuple vs k pos =>
    unfold noTup at h
    unfold swappedStores
    rcases (Bool.or_eq_true _ _).mp h with h | h
    · dsimp only
      split
      · rfl
      · split
        · rfl
        · split
          · rfl
          · first | rfl | rw [if_pos h]
    · have h := of_decide_eq_true h
      dsimp only
      split
      · rfl
      · rename_i h2
        exfalso
        apply h2
        by_cases hl : vs.length = ts.length
        · have : (ts.length == 2 || ts.length == 3) = false := by
            simp
            omega
          simp [this]
        · have : (vs.length != ts.length) = true := by simpa using hl
          simp [this]
  | _ => rfl
theorem bk_fn {env : Env} (h : env.scope.kind = .function) : env.blockKind = .function := by
  unfold Env.blockKind
  rw [h]
  rfl
theorem ns_any : ∀ {vs : List Expr}, vs.all notStar = true → (vs.any fun | .Starred _ _ => true | _ => false) = false
  | [], _ => rfl
  | v :: vs, h => by
    rw [List.all_cons, Bool.and_eq_true] at h
    rw [List.any_cons, ns_any h.2]
    cases v <;> first | rfl | cases h.1
theorem ss_two {x y : Str} {px py p2 p3 : Pos} {k2 k3 : Nat} {vs : List Expr} {env : Env} (hk : env.scope.kind = .function) (hl : vs.length = 2) (hs : vs.all notStar = true) (hx : env.scope.names.lookup x = some .local) (hy : env.scope.names.lookup y = some .local) (hp : (px.line == py.line) = true) (hxy : (x == y) = false)
    (h1 : vs.all (foldedForSure 8) = false) (h2 : vs.all (constantsAlone 8) = false) : swappedStores [.Tuple [.Name x px, .Name y py] k2 p2] (.Tuple vs k3 p3) env = pure (some [x, y]) := by
  have e1 : env.kindOf x = some .local := hx
  have e2 : env.kindOf y = some .local := hy
  have hp := eq_of_beq hp
  have hne : ¬ y = x := fun z => by subst z; simp at hxy
  have hp1 : (Expr.Name x px).pos = px := rfl
  unfold swappedStores
  simp [bk_fn hk, hl, ns_any hs, e1, e2, h1, h2, hp1, hp, List.eraseDups_cons, hne]
  intro q hq hm
  exfalso
  have := List.all_eq_true.mp hs q hq
  cases q <;> first | exact Bool.noConfusion (show false = true from hm) | exact Bool.noConfusion (show false = true from this)
theorem ss_three {x y z : Str} {px py pz p2 p3 : Pos} {k2 k3 : Nat} {vs : List Expr} {env : Env} (hk : env.scope.kind = .function) (hl : vs.length = 3) (hs : vs.all notStar = true) (hx : env.scope.names.lookup x = some .local) (hy : env.scope.names.lookup y = some .local) (hz : env.scope.names.lookup z = some .local) (hp : (px.line == py.line) = true) (hp' : (px.line == pz.line) = true) (hxy : (x == y) = false) (hxz : (x == z) = false) (hyz : (y == z) = false)
    (h1 : vs.all (foldedForSure 8) = false) (h2 : vs.all (constantsAlone 8) = false) : swappedStores [.Tuple [.Name x px, .Name y py, .Name z pz] k2 p2] (.Tuple vs k3 p3) env = pure (some [x, y, z]) := by
  have e1 : env.kindOf x = some .local := hx
  have e2 : env.kindOf y = some .local := hy
  have e3 : env.kindOf z = some .local := hz
  have hp := eq_of_beq hp
  have hp' := eq_of_beq hp'
  have hne : ¬ y = x := fun q => by subst q; simp at hxy
  have hne' : ¬ z = x := fun q => by subst q; simp at hxz
  have hne2 : ¬ z = y := fun q => by subst q; simp at hyz
  have hp1 : (Expr.Name x px).pos = px := rfl
  unfold swappedStores
  simp [bk_fn hk, hl, ns_any hs, e1, e2, e3, h1, h2, hp1, ← hp, ← hp', List.eraseDups_cons, hne, hne', hne2]
  intro q hq hm
  exfalso
  have := List.all_eq_true.mp hs q hq
  cases q <;> first | exact Bool.noConfusion (show false = true from hm) | exact Bool.noConfusion (show false = true from this)
theorem sw_n {v : Expr} {px : Pos} {x : Str} {l : Nat} {env : Env} {c : CC} (hk : env.scope.kind = .function) (hc : env.scope.names = c.sc) (h : swN c x px v = true) : swapsWith v (some (.Name x px)) l env = pure false := by
  cases v with
  | ListComp elt gs s pos =>
    have hp1 : (Expr.ListComp elt gs s pos).pos = pos := rfl
    have e0 : env.kindOf x = c.sc.lookup x := by
      show env.scope.names.lookup x = _
      rw [hc]
    unfold swN at h
    unfold swapsWith
    dsimp only
    rw [bk_fn hk, e0, hp1]
    rcases (Bool.or_eq_true _ _).mp h with h | h
    · have h := of_decide_eq_true h
      have : (c.sc.lookup x == some NameKind.local) = false := by simpa using h
      rw [this]
      rfl
    · have : (px.line == pos.line) = false := by simpa using h
      rw [this]
      simp
  | _ => cases h
theorem sw_lc {elt : Expr} {gs : List Comprehension} {s : Scope} {pos px : Pos} {x : Str} {l : Nat} {env : Env} {c : CC} (hk : env.scope.kind = .function) (hc : env.scope.names = c.sc) (h : swB c x px (.ListComp elt gs s pos) = true) : swapsWith (.ListComp elt gs s pos) (some (.Name x px)) l env = pure true := by
  unfold swB at h
  simp only [Bool.and_eq_true, decide_eq_true_eq] at h
  obtain ⟨⟨h1, h2⟩, h3⟩ := h
  have e1 : env.kindOf x = some .local := by
    show env.scope.names.lookup x = _
    rw [hc]
    exact h1
  have hp1 : (Expr.ListComp elt gs s pos).pos = pos := rfl
  unfold swapsWith
  dsimp only
  rw [bk_fn hk, e1, hp1, h2, h3]
  rfl

section
variable {p : Par} {C : Cxt} {T : Tab}
theorem loB_is {X : Cx} {c : CC} (hX : XOk p C T X c) {i : Nat} {x : Str} (h : loB c i x = true) : X.N[i]? = some x ∧ X.env.scope.names.lookup x = some .local := by
  unfold loB at h
  simp only [Bool.and_eq_true, decide_eq_true_eq] at h
  rw [hX.N, hX.sc]
  exact h
/-- x = [..] on one line, x a plain local name -/
theorem s_lc {X : Cx} {c : CC} (y : Dy) (hX : XOk p C T X c) {ir : IR} {v : Expr} {x : Str} {px pos : Pos} {i : Nat} (h : okE T c ir v = true) (hs : swB c x px v = true) (hi : X.N[i]? = some x) : ∃ te, PS X (.Assign [.Name x px] v pos) (tAsg te (gName i)) ∧ ∀ σ H Q, rdE p C y ir σ H Q → te σ H Q := by
  cases ir with
  | comp t own k es ifs a =>
    simp only [okE] at h
    split at h
    · rename_i elt tg iter cs scope lpos
      have hsw := sw_lc (l := pos.line) hX.kind hX.sc hs
      have hloc : X.env.scope.names.lookup x = some .local := by
        unfold swB at hs
        simp only [Bool.and_eq_true, decide_eq_true_eq] at hs
        rw [hX.sc]
        exact hs.1.1
      simp only [Bool.and_eq_true] at h
      obtain ⟨⟨⟨⟨⟨h1, h2⟩, h3⟩, h4⟩, h5⟩, h6⟩ := h
      split at h1
      · rename_i as has
        have hpa := sEs es y hX h1
        obtain ⟨hpi, hfo⟩ := s_iter (tg := tg) y hX has h1 hpa fun e' a' q1 q2 => by
          subst q1 q2
          have h7 : okE T c e' a' && notStar a' && okEs T c .nil [] = true := h1
          simp only [Bool.and_eq_true] at h7
          exact seal_of (sE e' y hX h7.1.1)
        have hbo : BlkOk X.N X.env.scope scope (ownP c own) := blkOk_by (by
          rw [blkC_eq (sc' := { kind := .function, names := c.sc, isGenerator := false, isCoroutine := false }) hX.sc, hX.N]
          exact h4)
        have eown : (ownP c own).map (·.2) = own := by
          unfold ownP
          rw [List.map_map]
          exact List.map_id' own
        have key := ps_setLc (i := i) (spos := pos) hX.calm (by rw [hX.N]; exact hX.nd) hi hloc hsw hpi hbo (g := gOf p.K t) (tt := fun σ H Q => ∃ y, rdT p C y ifs σ H Q) (te := fun σ H Q => ∃ y, rdQ p C y a σ H Q) (ifs := cs) (elt := elt)
          (fun s H D cl fp => pg_tg (hX.blk hbo.kind s H D cl fp) h2)
          (fun s H D cl fp => by
            cases cs with
            | nil =>
              have hh : ifs.isTrue = true := h5
              have hp := pts_nil (X := X.blk s H scope (compEnvC scope cl D X.env) fp)
              refine ⟨fun pins s σ H Q I q => hp.run pins s σ H Q I ?_⟩
              obtain ⟨y, S, ρ, st, q⟩ := q
              cases ifs with
              | bl b =>
                cases b with
                | true =>
                  obtain ⟨b, e1, k⟩ := (show ∃ b, Ar.v (.bl true) = .v (.bl b) ∧ ∀ H' S', Stt p y S' σ H' ρ → Sub S S' → Sub H H' → Q b H' from q)
                  cases e1
                  exact k H S st (Sub.refl _) (Sub.refl _)
                | false => cases hh
              | _ => cases hh
            | cons q cs =>
              cases cs with
              | nil => exact pts_one (PT.ex fun y => sT ifs y (hX.blk hbo.kind s H D cl fp) h5)
              | cons _ _ => cases h5)
          (fun s H D cl fp => PE.ex fun y => seal_of (sE a y (hX.blk hbo.kind s H D cl fp) h6)) hfo
        rw [eown] at key
        exact ⟨_, key, fun σ H Q q => comp_rd (fun i hi => of_decide_eq_true (List.all_eq_true.mp h3 i hi)) q⟩
      · cases h1
    · cases h
  | _ =>
    exfalso
    unfold swB at hs
    split at hs
    · first
      | (simp only [okE] at h; rw [op_comp] at h; cases h; done)
      | (simp only [okE] at h; done)
      | (simp only [okE] at h; cases h; done)
      | (simp [okE] at h; done)
    · cases hs
theorem par_two {c : CC} {is : List Nat} {ts : List Expr} (h : parB c is ts = true) : (∃ i j x y px py, is = [i, j] ∧ ts = [.Name x px, .Name y py] ∧ loB c i x = true ∧ loB c j y = true ∧ (px.line == py.line) = true ∧ (x == y) = false ∧ i ≠ j) ∨
    ∃ i j l x y z px py pz, is = [i, j, l] ∧ ts = [.Name x px, .Name y py, .Name z pz] ∧ loB c i x = true ∧ loB c j y = true ∧ loB c l z = true ∧ (px.line == py.line) = true ∧ (px.line == pz.line) = true ∧ (x == y) = false ∧ (x == z) = false ∧ (y == z) = false ∧ i ≠ j ∧ i ≠ l ∧ j ≠ l := by
  unfold parB at h
  split at h
  · simp only [Bool.and_eq_true, Bool.not_eq_true', decide_eq_true_eq] at h
    obtain ⟨⟨⟨⟨h1, h2⟩, h3⟩, h4⟩, h5⟩ := h
    exact .inl ⟨_, _, _, _, _, _, rfl, rfl, h1, h2, h3, h4, h5⟩
  · simp only [Bool.and_eq_true, Bool.not_eq_true', decide_eq_true_eq] at h
    obtain ⟨⟨⟨⟨⟨⟨⟨⟨⟨⟨h1, h2⟩, h3⟩, h4⟩, h5⟩, h6⟩, h7⟩, h8⟩, h9⟩, h10⟩, h11⟩ := h
    exact .inr ⟨_, _, _, _, _, _, _, _, _, rfl, rfl, h1, h2, h3, h4, h5, h6, h7, h8, h9, h10, h11⟩
  · cases h
theorem sub_asg {o i : Expr} {pos : Pos} {env : Env} (h : notSlice i = true) (v : Value) : assign (.Subscript o i pos) env v = (do
      let ov ← holding [v] (eval o env)
      let iv ← holding [v, ov] (eval i env)
      standAt pos
      holding [v, ov, iv] (setItem ov iv v)
      release [v, ov, iv] []) := by
  cases i <;> first | rfl | cases h
mutual
theorem sS : ∀ (ir : SR) {X : Cx} {c : CC} (y : Dy) {st : Stmt}, XOk p C T X c → okS T c ir st = true → PS X st (rdS p y (ex C ir))
  | .set i e, X, c, y, st, hX, h => by
    simp only [okS] at h
    split at h
    · simp only [Bool.and_eq_true, Bool.or_eq_true] at h
      obtain ⟨⟨h1, h2⟩, h3⟩ := h
      obtain ⟨k1, k2, k3⟩ := hX.st h1
      rcases h3 with (h3 | h3) | h3
      · exact s_set (ps_set (by rw [hX.N]; exact hX.nd) k1 k2 (sE e y hX h2) (sw_no h3) k3) fun _ _ _ q => q
      · exact s_set (ps_set (by rw [hX.N]; exact hX.nd) k1 k2 (sE e y hX h2) (sw_n hX.kind hX.sc h3) k3) fun _ _ _ q => q
      · obtain ⟨te, a, b⟩ := s_lc y hX h2 h3 k1
        exact s_set a b
    · cases h
  | .setS i e, X, c, y, st, hX, h => by
    simp only [okS] at h
    split at h
    · simp only [Bool.and_eq_true, Bool.or_eq_true] at h
      obtain ⟨⟨h1, h2⟩, h3⟩ := h
      obtain ⟨k1, k2, k3⟩ := hX.st h1
      rcases h3 with (h3 | h3) | h3
      · exact s_setS (ps_set (by rw [hX.N]; exact hX.nd) k1 k2 (sE e y hX h2) (sw_no h3) k3) fun _ _ _ q => q
      · exact s_setS (ps_set (by rw [hX.N]; exact hX.nd) k1 k2 (sE e y hX h2) (sw_n hX.kind hX.sc h3) k3) fun _ _ _ q => q
      · obtain ⟨te, a, b⟩ := s_lc y hX h2 h3 k1
        exact s_setS a b
    · cases h
  | .unp is e, X, c, y, st, hX, h => by
    simp only [okS] at h
    split at h
    · rename_i tg v pos
      simp only [Bool.and_eq_true] at h
      obtain ⟨⟨⟨h1, h2⟩, h3⟩, h4⟩ := h
      cases tg with
      | Tuple ts k2 p2 => exact s_unp hX.K (ps_asg (sE e y hX h2) (pg_tg hX h1) (sws_no h3) (ss_no h4) rfl) fun _ _ _ q => q
      | _ => cases h1
    · cases h
  | .par is es, X, c, y, st, hX, h => by
    simp only [okS] at h
    split at h
    · rename_i ts k1 p1 vs k2 p2 pos
      simp only [Bool.and_eq_true, Bool.not_eq_true', decide_eq_true_eq] at h
      obtain ⟨⟨⟨⟨h1, h2⟩, h3⟩, h4⟩, h5⟩ := h
      have hst := okEs_star h2
      have hpa := sEs es y hX h2
      rcases par_two h1 with ⟨i, j, x, x2, px, py, rfl, rfl, a1, a2, a3, a4, a5⟩ | ⟨i, j, l, x, x2, x3, px, py, pz, rfl, rfl, a1, a2, a6, a3, a7, a4, a8, a9, a5, a10, a11⟩
      · obtain ⟨b1, b2⟩ := loB_is hX a1
        obtain ⟨c1, c2⟩ := loB_is hX a2
        obtain ⟨a, b, rfl⟩ := len_two h5
        exact s_par2 (as := []) a5 (ps_par hX.calm (by rw [hX.N]; exact hX.nd) b1 c1 a5 b2 c2 hpa (ss_two hX.kind rfl hst b2 c2 a3 a4 h3 h4) rfl)
      · obtain ⟨b1, b2⟩ := loB_is hX a1
        obtain ⟨c1, c2⟩ := loB_is hX a2
        obtain ⟨d1, d2⟩ := loB_is hX a6
        obtain ⟨a, b, d, rfl⟩ := len_three h5
        exact s_par3 (ps_par3 hX.calm (by rw [hX.N]; exact hX.nd) b1 c1 d1 a5 a10 a11 b2 c2 d2 hpa (ss_three hX.kind rfl hst b2 c2 d2 a3 a7 a4 a8 a9 h3 h4) rfl)
    · cases h
  | .aug i o e, X, c, y, st, hX, h => by
    simp only [okS] at h
    split at h
    · simp only [Bool.and_eq_true, decide_eq_true_eq] at h
      obtain ⟨⟨h1, rfl⟩, h3⟩ := h
      obtain ⟨k1, k2, k3⟩ := hX.st h1
      exact s_aug (ps_aug (by rw [hX.N]; exact hX.nd) k1 k2 (seal_of (sE e y hX h3)) (op_aug o) k3)
    · cases h
  | .setIx i k e, X, c, y, st, hX, h => by
    simp only [okS] at h
    split at h
    · simp only [Bool.and_eq_true] at h
      obtain ⟨⟨⟨⟨h1, h2⟩, h3⟩, h4⟩, h5⟩ := h
      obtain ⟨k1, k2, k3, k4⟩ := hX.vis h1
      exact s_setIx (ps_asg (sE e y hX h4) (pg_sub (pe_var k1 k2 k3 k4) (seal_of (sE k y hX h2)) set_list (sub_asg h3)) (sws_no h5) rfl rfl) fun _ _ _ q => q
    · cases h
  | .setDic i k e, X, c, y, st, hX, h => by
    simp only [okS] at h
    split at h
    · simp only [Bool.and_eq_true] at h
      obtain ⟨⟨⟨h1, h2⟩, h3⟩, h4⟩ := h
      exact s_setDic hX h1 (seal_of (sE k y hX h2)) (seal_of (sE e y hX h3)) (sw_no h4)
    · cases h
  | .newDic i, X, c, y, st, hX, h => by
    simp only [okS] at h
    split at h
    · obtain ⟨k1, k2, k3⟩ := hX.st h
      exact s_newDic (ps_set (by rw [hX.N]; exact hX.nd) k1 k2 pe_dnewK (sw_no rfl) k3)
    · cases h
  | .setF i k f e, X, c, y, st, hX, h => by
    simp only [okS] at h
    split at h
    · simp only [Bool.and_eq_true, decide_eq_true_eq] at h
      obtain ⟨⟨⟨⟨rfl, h1⟩, h2⟩, h3⟩, h4⟩ := h
      exact s_setF hX h1 h2 (seal_of (sE e y hX h3)) (sw_no h4)
    · cases h
  | .dead, X, c, y, st, hX, h => s_dead
  | .app i e, X, c, y, st, hX, h => by
    simp only [okS] at h
    split at h
    · simp only [Bool.and_eq_true, decide_eq_true_eq] at h
      obtain ⟨⟨⟨⟨h1, rfl⟩, h3⟩, h4⟩, h5⟩ := h
      obtain ⟨k1, k2, k3, k4⟩ := hX.vis h1
      refine s_app hX.K (ps_expr (pe_bm PySem.F.plainAttrs_list PySem.F.slot_list_append PySem.F.type_list_append mt_append (pe_var k1 k2 k3 k4) (pa_cons (seal_of (sE e y hX h4)) pa_nil (star_cons h5)) rfl ?_ h3 (star_cons h5) rfl) rfl)
      rw [star_cons h5]
      rfl
    · cases h
  | .expr e, X, c, y, st, hX, h => by
    simp only [okS] at h
    split at h
    · simp only [Bool.and_eq_true] at h
      exact s_expr (fun q => ps_expr q (sw_no h.2)) (seal_of (sE e y hX h.1))
    · cases h
  | .ret e, X, c, y, st, hX, h => by
    simp only [okS] at h
    split at h
    · exact s_ret (sE e y hX h)
    · cases h
  | .retN, X, c, y, st, hX, h => by
    simp only [okS] at h
    split at h
    · exact s_retN
    · cases h
  | .ife t a b, X, c, y, st, hX, h => by
    simp only [okS] at h
    split at h
    · simp only [Bool.and_eq_true] at h
      exact s_ife (sT t y hX h.1.1) (sSs a y hX h.1.2) (sSs b y hX h.2)
    · cases h
  | .whl t b, X, c, y, st, hX, h => by
    simp only [okS] at h
    split at h
    · simp only [Bool.and_eq_true] at h
      exact s_whl hX (sT t y hX h.1) (sSs b y hX h.2)
    · cases h
  | .for_ t k es b, X, c, y, st, hX, h => by
    simp only [okS] at h
    split at h
    · rename_i tg iter bs pos
      simp only [Bool.and_eq_true] at h
      obtain ⟨⟨h1, h2⟩, h3⟩ := h
      split at h1
      · rename_i as has
        obtain ⟨hpi, hfo⟩ := s_iter (tg := tg) y hX has h1 (sEs es y hX h1) fun e' a' q1 q2 => by
          subst q1 q2
          have h7 : okE T c e' a' && notStar a' && okEs T c .nil [] = true := h1
          simp only [Bool.and_eq_true] at h7
          exact seal_of (sE e' y hX h7.1.1)
        exact s_for hX hpi (pg_tg hX h2) (fun y => sSs b y hX h3) hfo
      · cases h1
    · cases h
  | .brk, X, c, y, st, hX, h => by
    simp only [okS] at h
    split at h
    · exact s_pass ps_break .bk _ (fun _ => rfl) (fun _ _ _ q => q) fun r => by intro z; cases z
    · cases h
  | .cont, X, c, y, st, hX, h => by
    simp only [okS] at h
    split at h
    · exact s_pass ps_continue .ct _ (fun _ => rfl) (fun _ _ _ q => q) fun r => by intro z; cases z
    · cases h
  | .pass, X, c, y, st, hX, h => by
    simp only [okS] at h
    split at h
    · exact s_pass ps_pass .nx _ (fun _ => rfl) (fun _ _ _ q => q) fun r => by intro z; cases z
    · exact s_pass ps_doc .nx _ (fun _ => rfl) (fun _ _ _ q => q) fun r => by intro z; cases z
    · cases h
theorem sSs : ∀ (ss : SRs) {X : Cx} {c : CC} (y : Dy) {as : List Stmt}, XOk p C T X c → okSs T c ss as = true → PSs X as (rdS p y (exs C ss))
  | .nil, X, c, y, as, hX, h => by
    cases as with
    | nil => exact b_nil
    | cons _ _ => simp [okSs] at h
  | .cons a es, X, c, y, as, hX, h => by
    cases as with
    | nil => simp [okSs] at h
    | cons e as =>
      simp only [okSs, Bool.and_eq_true] at h
      exact b_cons (sS a y hX h.1) (sSs es y hX h.2)
end
end
end DS
/-! ## Defs -/
namespace DS
open PySem PySem.Spec PyProof.Rows L2
section
variable {P : Program} {w : World} {K : PySem.W.Frag} {mg : Str → Option Value} {base : Heap}
/-- a def whose meaning is known, as it is called -/
structure FnG (P : Program) (w : World) (K : PySem.W.Frag) (mg : Str → Option Value) (base : Heap) (p : Par) (T : Tab) (f k : Nat) (m : List D → Out Ar) (nm : Str) (ps : List Str) (fd : FuncData) : Prop where
  ex : ∃ a : Addr, FnOk P w K mg base CX0 k a fd ps (spD p ps.length m) ∧ (T.isM f = false → mg nm = some (.ref a)) ∧ PySem.W.keepIn K (.ref a) = true ∧ Binds K fd ps [] ∧ ∀ c m, (f, c, m) ∈ T.mts → Meth K (p.cl c) m a
theorem FnG.mono {p : Par} {T : Tab} {f j k : Nat} {m : List D → Out Ar} {nm : Str} {ps : List Str} {fd : FuncData} (h : FnG P w K mg base p T f j m nm ps fd) (l : j ≤ k) : FnG P w K mg base p T f k m nm ps fd :=
  let ⟨a, f, r⟩ := h.ex
  ⟨a, f.mono l, r⟩
theorem start_stt {p : Par} {N : List Str} {vs : List V} {S H : Hp} {ds : List D} (sub : Sub S H) (r : Reps p S ds vs) (hl : ds.length ≤ N.length) : Stt p ⟨H, S, fun _ => none, none⟩ S (L2.start N vs) H (ds.map Sl.val ++ List.replicate (N.length - ds.length) .un) where
  sub := sub
  same := Sub.refl _
  sub0 := Sub.refl _
  old := fun _ _ => rfl
  len := by
    have := r.length
    simp [L2.start]
    omega
  lk := fun j l h => by cases h
  sl := fun i s h => by
    have hlen := r.length
    by_cases hi : i < ds.length
    · rw [List.getElem?_append_left (by simpa using hi), List.getElem?_map] at h
      cases e : ds[i]? with
      | none => rw [e] at h; cases h
      | some d =>
        rw [e] at h
        cases h
        obtain ⟨v, e2, rv⟩ := r.get e
        refine ⟨v, ?_, rv⟩
        unfold L2.start
        rw [List.getElem?_append_left (by rw [List.length_map]; omega), List.getElem?_map, e2]
        rfl
    · rw [List.getElem?_append_right (by simpa using Nat.le_of_not_lt hi)] at h
      have := List.mem_of_getElem? h
      rw [List.eq_of_mem_replicate this]
      exact trivial
  sep := fun i j s t l h1 h2 o1 _ _ _ => by
    exfalso
    have : s ∈ ds.map Sl.val ++ List.replicate (N.length - ds.length) .un := List.mem_of_getElem? h1
    rcases List.mem_append.mp this with q | q
    · obtain ⟨d, _, rfl⟩ := List.mem_map.mp q
      cases o1
    · rw [List.eq_of_mem_replicate q] at o1
      cases o1
/-- what stands when a def's body is checked -/
structure TOk (P : Program) (w : World) (K : PySem.W.Frag) (mg : Str → Option Value) (base : Heap) (p : Par) (T : Tab) (C : Cxt) (k : Nat) : Prop where
  kk : K = p.K
  blt : ∀ x ∈ bltNames, mg x = none
  fns : ∀ (f : Nat) (nm : Str) (qs : List Str), T.fns[f]? = some (nm, qs) → ∃ fd, FnG P w K mg base p T f k (C.fn f) nm qs fd
  keys : ∀ (f : Nat) (nm : Str) (qs : List Str), f < T.keys → T.fns[f]? = some (nm, qs) → ∃ j fd, j + 2 ≤ k ∧ FnG P w K mg base p T f j (C.fn f) nm qs fd
  kws : ∀ (f : Nat) (ks : List Str) (perm : List Nat) (nm : Str) (qs : List Str), (f, ks, perm) ∈ T.kws → T.fns[f]? = some (nm, qs) → perm.length = qs.length ∧ ∃ fd, FnG P w K mg base p T f k (C.fn f) nm qs fd ∧ KBinds K fd qs ks (gPerm ks qs.length perm) (gPermV ks qs.length perm)
  flds : C.fields = p.fields
  room : T.room ≤ k
  cls : ∀ (j : Nat) (e : ClE), T.cls[j]? = some e → ClG K mg p j e ∧ (j < T.made → ∃ (lv : Nat) (a : Addr) (fd : FuncData) (ps : List Str), FnOk P w K mg base CX0 lv a fd ps (spI p j e.ar (C.make j)) ∧ Binds K fd ps [] ∧ Mk K (p.cl j) a ∧ lv = e.lv + 1)
  tx : ∀ (x s : Str), (x, s) ∈ T.tx → ∃ t, mg x = some (.str s t)
  nr : ∀ (x : Str) (i : Int), (x, i) ∈ T.nr → ∃ t, mg x = some (.int i t)
theorem TOk.xok {p : Par} {C : Cxt} {T : Tab} {qual : Str} {st : Stmt} {f : Addr} {N ps : List Str} {k : Nat} {cdv : Value} {A : Around} {outer : List Env} {s : Shared} {H : Hp} {E : XK} (t : TOk P w K mg base p T C k) (S : FnScope N ps (defScope st))
    (hr : Room k (cxOf CX0 P w K mg base N qual (defScope st) f cdv A outer s H E).nox.A) :
    XOk p C T (cxOf CX0 P w K mg base N qual (defScope st) f cdv A outer s H E).nox ⟨N, (defScope st).names, (defScope st).names⟩ where
  K := t.kk
  calm := rfl
  N := rfl
  nd := S.nd
  kind := S.kind
  sc := rfl
  sto := fun x h => ⟨h, .inl rfl⟩
  blt := t.blt
  units := by
    have := hr.un
    omega
  pass := PassesOwn.never
  fns := fun f nm qs e => by
    obtain ⟨fd, a, h1, h2, h3, h4, h5⟩ := t.fns f nm qs e
    exact ⟨⟨k, a, fd, h1, hr, h2, h3, h4, h5⟩⟩
  srt := fun f nm qs e0 e => by
    obtain ⟨j, fd, hj, a, h1, h2, h3, h4, _⟩ := t.keys f nm qs e0 e
    exact ⟨⟨j, a, fd, h1, hr.mono hj, h2, h3, h4⟩⟩
  kws := fun f ks perm nm qs e1 e2 => by
    obtain ⟨hl, fd, ⟨a, h1, h2, h3, h4, _⟩, hb⟩ := t.kws f ks perm nm qs e1 e2
    exact ⟨⟨k, a, fd, h1, hr, h2, h3, hb⟩, hl⟩
  flds := t.flds
  room := fun lv h => hr.mono (Nat.le_trans h t.room)
  cls := fun j e h => by
    obtain ⟨g, q⟩ := t.cls j e h
    exact ⟨g, q⟩
  tx := t.tx
  nr := t.nr
theorem def_ok {p : Par} {C : Cxt} {T : Tab} {df : Df} {x qual : Str} {st : Stmt} {f : Addr} {fd : FuncData} {N ps : List Str} {k : Nat} (t : TOk P w K mg base p T C k) (F : Fun K x qual st f fd) (S : FnScope N ps (defScope st)) (hs : df.slots = N.length) (ha : df.arity = ps.length)
    (hck : okSs T ⟨N, (defScope st).names, (defScope st).names⟩ df.body (defBody st) = true) :
    FnOk P w K mg base CX0 (k + 1) f fd ps (spD p ps.length (run C df)) := by
  refine F.ok S (fun vs H Q E h => h.len) fun cdv A outer s H vs Q E hr h => ?_
  obtain ⟨S0, ds, sub, rep, hlen, hres⟩ := h
  have hX := t.xok (f := f) (qual := qual) (cdv := cdv) (A := A) (outer := outer) (s := s) (H := H) (E := E) S hr
  refine ⟨_, sSs df.body ⟨H, S0, fun _ => none, none⟩ hX hck, ?_⟩
  have hN : ps.length ≤ N.length := by
    have := congrArg List.length S.pre
    rw [List.length_take] at this
    omega
  refine ⟨S0, _, start_stt sub rep (by omega), ?_⟩
  unfold run at hres
  rw [if_pos (by omega), hs] at hres
  obtain ⟨⟨fl, ρ'⟩, e, q⟩ := Res.bnd hres
  rw [e]
  intro σ' H' S' st' hS
  cases fl with
  | nx => exact (q : Res (Out.ok (Ar.v .non)) _) .non H' S' st'.sub0 st'.sub st'.same st'.old rfl
  | bk => exact q.elim
  | ct => exact q.elim
  | rt r =>
    intro v ra
    dsimp only at q
    cases r with
    | v d => exact (q : Res (Out.ok (Ar.v d)) _) v H' S' st'.sub0 st'.sub st'.same st'.old ra
    | fr es =>
      obtain ⟨l, vs, e1, a1, a2, a3, a4, _⟩ := ra
      exact (q : Res (Out.ok (Ar.fr es)) _) v H' S' st'.sub0 st'.sub st'.same st'.old ⟨l, vs, e1, a1, a2, a3, a4⟩
    | br i es => exact q.elim
theorem start_init {p : Par} {N : List Str} {ws : List V} {S H : Hp} {ds : List D} {l dx : Addr} {c : Nat} (sub : Sub S H) (r : Reps p S ds ws) (hl : ds.length + 1 ≤ N.length) (h1 : H l = some (.ins (p.cl c) dx [])) (h2 : S l = none) :
    Stt p ⟨fun a => if a = l then none else H a, S, fun _ => none, some (l, dx)⟩ S (L2.start N (.ref l :: ws)) H (.obj c [] :: (ds.map Sl.val ++ List.replicate (N.length - (ds.length + 1)) .un)) where
  sub := sub
  same := fun a o e => by
    have e : (if a = l then none else H a) = some o := e
    split at e
    · cases e
    · exact e
  sub0 := Sub.refl _
  old := fun _ _ => rfl
  len := by
    have := r.length
    simp [L2.start]
    omega
  lk := fun j l h => by cases h
  sl := fun i s h => by
    have hlen := r.length
    cases i with
    | zero =>
      have h : Sl.obj c [] = s := by simpa using h
      subst h
      refine ⟨l, (dx, []), ?_, ?_, h2, if_pos rfl, rfl, rfl⟩
      · unfold L2.start
        simp
      · rw [List.zip_nil_right]
        exact h1
    | succ i =>
      rw [List.getElem?_cons_succ] at h
      by_cases hi : i < ds.length
      · rw [List.getElem?_append_left (by simpa using hi), List.getElem?_map] at h
        cases e : ds[i]? with
        | none => rw [e] at h; cases h
        | some d =>
          rw [e] at h
          cases h
          obtain ⟨v, e2, rv⟩ := r.get e
          refine ⟨v, ?_, rv⟩
          unfold L2.start
          rw [List.getElem?_append_left (by rw [List.length_map, List.length_cons]; omega), List.getElem?_map, List.getElem?_cons_succ, e2]
          rfl
      · rw [List.getElem?_append_right (by simpa using Nat.le_of_not_lt hi)] at h
        have := List.mem_of_getElem? h
        rw [List.eq_of_mem_replicate this]
        exact trivial
  sep := fun i j s t l h1 h2 o1 o2 _ _ => by
    have only : ∀ {i : Nat} {s : Sl}, (Sl.obj c [] :: (ds.map Sl.val ++ List.replicate (N.length - (ds.length + 1)) .un))[i]? = some s → s.owns = true → i = 0 := fun {i s} h o => by
      cases i with
      | zero => rfl
      | succ i =>
        exfalso
        rw [List.getElem?_cons_succ] at h
        have : s ∈ ds.map Sl.val ++ List.replicate (N.length - (ds.length + 1)) .un := List.mem_of_getElem? h
        rcases List.mem_append.mp this with q | q
        · obtain ⟨d, _, rfl⟩ := List.mem_map.mp q
          cases o
        · rw [List.eq_of_mem_replicate q] at o
          cases o
    rw [only h1 o1, only h2 o2]
theorem init_ok {p : Par} {C : Cxt} {T : Tab} {df : Df} {x qual : Str} {st : Stmt} {f : Addr} {fd : FuncData} {N ps : List Str} {k c n : Nat} (t : TOk P w K mg base p T C k) (F : Fun K x qual st f fd) (S : FnScope N ps (defScope st)) (hs : df.slots = N.length) (ha : df.arity = ps.length) (hn : ps.length = n + 1)
    (hck : okSs T ⟨N, (defScope st).names, (defScope st).names⟩ df.body (defBody st) = true) :
    FnOk P w K mg base CX0 (k + 1) f fd ps (spI p c n (runI C c df)) := by
  refine F.ok S (fun vs H Q E h => ?_) fun cdv A outer s H vs Q E hr h => ?_
  · obtain ⟨S0, ds, l, dx, ws, e, _, _, _, r, hl, _⟩ := h
    rw [e, List.length_cons, ← r.length, hl, hn]
  obtain ⟨S0, ds, l, dx, ws, rfl, hl, hSl, sub, rep, hlen, hres⟩ := h
  have hX := t.xok (f := f) (qual := qual) (cdv := cdv) (A := A) (outer := outer) (s := s) (H := H) (E := E) S hr
  refine ⟨_, sSs df.body ⟨fun a => if a = l then none else H a, S0, fun _ => none, some (l, dx)⟩ hX hck, ?_⟩
  have hN : ps.length ≤ N.length := by
    have := congrArg List.length S.pre
    rw [List.length_take] at this
    omega
  refine ⟨S0, _, start_init (c := c) sub rep (by omega) hl hSl, ?_⟩
  unfold runI at hres
  rw [if_pos (by omega), hs] at hres
  obtain ⟨⟨fl, ρ'⟩, e, q⟩ := Res.bnd hres
  rw [e]
  intro σ' H' S' st' hS
  dsimp only at q
  split at q
  · rename_i k' fs rest
    split at q
    · rename_i hc
      obtain ⟨rfl, hf⟩ := hc
      obtain ⟨l', u, e1, e2, e3, e4, e5, rr⟩ := (show SlOk p _ S' H' 0 σ'[0]? (.obj k' fs) from st'.sl 0 _ rfl)
      have e5 : some (l, dx) = some (l', u.1) := e5
      obtain ⟨u1, us⟩ := u
      cases e5
      refine (q : ∀ fs0 us H' S', Ar.v (.ins k' fs) = .v (.ins k' fs0) → _) fs us H' S' rfl st'.sub0 st'.sub (fun a o ne ho => st'.same a o ?_) (fun a ha => ?_) e2 rr
      · show (if a = l then none else H a) = some o
        rw [if_neg ne]
        exact ho
      · by_cases z : a = l
        · subst z
          rw [e3, hSl]
        · exact st'.old a (by show (if a = l then none else H a) ≠ none; rw [if_neg z]; exact ha)
    · exact q.elim
  · exact q.elim
theorem gen_perm_rel {ks : List Str} {n : Nat} {perm : List Nat} {vs zs : List V} {us ws : List Value} (r : Vals vs us) (q : Vals zs ws) : Vals (gPermV ks n perm vs zs) (gPerm ks n perm us ws) := by
  unfold gPermV gPerm
  have e1 : (us = [] ↔ vs = []) := by cases r <;> simp
  have e2 := q.length
  by_cases h : vs = [] ∧ zs.length = ks.length
  · rw [if_pos h, if_pos ⟨e1.mpr h.1, by rw [← e2]; exact h.2⟩]
    have hg : ∀ j, RelV (zs.getD j .non) (ws.getD j .none) := by
      clear e1 e2 h
      induction q with
      | nil => intro j; simp; exact rfl
      | cons a b ih =>
        intro j
        cases j with
        | zero => simpa using a
        | succ j => simpa using ih j
    clear e1 e2 h
    induction perm with
    | nil => exact .nil
    | cons j js ih => exact .cons (hg j) ih
  · rw [if_neg h, if_neg (fun z => h ⟨e1.mp z.1, by rw [e2]; exact z.2⟩)]
    generalize n + 1 = m
    induction m with
    | zero => exact .nil
    | succ m ih => exact .cons rfl ih
theorem kw_binds {x qual : Str} {st : Stmt} {f : Addr} {fd : FuncData} {ps ks : List Str} {perm : List Nat} (F : Fun K x qual st f fd)
    (h : ∀ (kV doc pm : Value) (an : Option Addr) (cdv ct : Value) (ws : List Value), ws.length = ks.length → bindArgs (PySem.W.fnOf x qual (defArgs st) (defBody st) (defScope st) .none kV doc pm an cdv ct) ⟨[], ks.zip ws⟩ = pure (ps.zip (perm.map fun j => ws.getD j .none))) : KBinds K fd ps ks (gPerm ks ps.length perm) (gPermV ks ps.length perm) where
  to := fun s us ws _ hl => by
    obtain ⟨oc, od, kV, doc, pm, an, cdv, ct, osl, rfl, lk, hcd⟩ := F.ex
    unfold gPerm at hl ⊢
    by_cases h2 : us = [] ∧ ws.length = ks.length
    · obtain ⟨rfl, h2⟩ := h2
      rw [if_pos ⟨rfl, h2⟩]
      exact .of_eq (h kV doc pm an cdv ct ws h2)
    · rw [if_neg h2] at hl
      simp at hl
  rel := gen_perm_rel
end
end DS
/-! ## A text of defs, in the order of calls -/
namespace DS
open PySem PySem.Spec PyProof.Rows L2
def Cxt.ext (c : Cxt) (n : Nat) (m : List D → Out Ar) : Cxt := { c with fn := fun j => if j = n then m else c.fn j }
section
variable {P : Program} {w : World} {K : PySem.W.Frag} {mg : Str → Option Value} {base : Heap}
def FactE (K : PySem.W.Frag) (nm : Str) (st : Stmt) : Prop := ∃ (f : Addr) (fd : FuncData), PySem.W.nsIn K mainGlobals nm = some (some (.ref f)) ∧ Fun K nm nm st f fd
theorem factE {nm : Str} {st : Stmt} {f : Addr} {oc : Value} {od an : Option Addr} {osl : Array (Option Value)} {kV doc pm cdv ct : Value} (a : PySem.W.nsIn K mainGlobals nm = some (some (.ref f)))
    (l : K.lookup f = some ⟨oc, od, .func (PySem.W.fnOf nm nm (defArgs st) (defBody st) (defScope st) .none kV doc pm an cdv ct), osl⟩) (c : PySem.W.codeIn K cdv nm = true) (k : PySem.W.keepIn K (.ref f) = true) : FactE K nm st :=
  ⟨f, _, a, fun_mk l c k⟩
theorem take_lt {α : Type} {G : List α} {n f : Nat} {x : α} (h : (G.take n)[f]? = some x) : f < n := by
  rw [List.getElem?_take] at h
  split at h
  · assumption
  · cases h
def Cxt.extC (c : Cxt) (n : Nat) (m : List D → Out Ar) : Cxt := { c with make := fun j => if j = n then m else c.make j }
/-- the table as it stands behind n defs and m classes -/
def Tab.upTo (T : Tab) (n m : Nat) : Tab := { T with fns := T.fns.take n, keys := n - 2, room := n, made := m }
theorem Tab.upTo_isM {T : Tab} {n m f : Nat} : (T.upTo n m).isM f = T.isM f := rfl
/-- a method of a class -/
def FactM (K : PySem.W.Frag) (C : Addr) (m qual : Str) (st : Stmt) : Prop := ∃ (f : Addr) (fd : FuncData), Meth K C m f ∧ Fun K m qual st f fd
theorem factM {C : Addr} {m qual : Str} {st : Stmt} {f : Addr} {oc : Value} {od an : Option Addr} {osl : Array (Option Value)} {kV doc pm cdv ct : Value} (a : PySem.W.findIn K (.ref C) m = some (some (.ref f))) (b : PySem.W.isFn K (.ref f) = true)
    (l : K.lookup f = some ⟨oc, od, .func (PySem.W.fnOf m qual (defArgs st) (defBody st) (defScope st) .none kV doc pm an cdv ct), osl⟩) (c : PySem.W.codeIn K cdv qual = true) (k : PySem.W.keepIn K (.ref f) = true) : FactM K C m qual st :=
  ⟨f, _, ⟨a, b, k⟩, fun_mk l c k⟩
/-- a class with its __init__ -/
structure FactC (K : PySem.W.Frag) (nm qual : Str) (fields : List Str) (C : Addr) (st : Stmt) : Prop where
  ns : PySem.W.nsIn K mainGlobals nm = some (some (.ref C))
  cls : Cls K C
  no : ∀ f ∈ fields, NoAttr K C f
  isi : IsiC K C
  ini : ∃ (f : Addr) (fd : FuncData), Mk K C f ∧ Fun K "__init__" qual st f fd
theorem factC {nm qual : Str} {fields : List Str} {C : Addr} {st : Stmt} {f : Addr} {oc : Value} {od an : Option Addr} {osl : Array (Option Value)} {kV doc pm cdv ct : Value} (ns : PySem.W.nsIn K mainGlobals nm = some (some (.ref C))) (c : Cls K C) (no : ∀ g ∈ fields, NoAttr K C g) (i : IsiC K C) (m : Mk K C f)
    (l : K.lookup f = some ⟨oc, od, .func (PySem.W.fnOf "__init__" qual (defArgs st) (defBody st) (defScope st) .none kV doc pm an cdv ct), osl⟩) (cd : PySem.W.codeIn K cdv qual = true) (k : PySem.W.keepIn K (.ref f) = true) : FactC K nm qual fields C st :=
  ⟨ns, c, no, i, f, _, m, fun_mk l cd k⟩
section
variable {C : Addr} {a b c d e g : Str}
theorem noA0 : ∀ f ∈ ([] : List Str), NoAttr K C f := fun f h => nomatch h
theorem noAc {l : List Str} (h1 : PySem.W.findIn K (.ref C) a = some none) (h : ∀ f ∈ l, NoAttr K C f) : ∀ f ∈ a :: l, NoAttr K C f := fun f hf => by
  rcases List.mem_cons.mp hf with q | q
  · rw [q]; exact h1
  · exact h f q
theorem noA1 (h1 : PySem.W.findIn K (.ref C) a = some none) : ∀ f ∈ [a], NoAttr K C f := noAc h1 noA0
theorem noA2 (h1 : PySem.W.findIn K (.ref C) a = some none) (h2 : PySem.W.findIn K (.ref C) b = some none) : ∀ f ∈ [a, b], NoAttr K C f := noAc h1 (noA1 h2)
theorem noA3 (h1 : PySem.W.findIn K (.ref C) a = some none) (h2 : PySem.W.findIn K (.ref C) b = some none) (h3 : PySem.W.findIn K (.ref C) c = some none) : ∀ f ∈ [a, b, c], NoAttr K C f := noAc h1 (noA2 h2 h3)
theorem noA4 (h1 : PySem.W.findIn K (.ref C) a = some none) (h2 : PySem.W.findIn K (.ref C) b = some none) (h3 : PySem.W.findIn K (.ref C) c = some none) (h4 : PySem.W.findIn K (.ref C) d = some none) : ∀ f ∈ [a, b, c, d], NoAttr K C f := noAc h1 (noA3 h2 h3 h4)
end
structure Tb (P : Program) (w : World) (K : PySem.W.Frag) (mg : Str → Option Value) (base : Heap) (p : Par) (T : Tab) (n m : Nat) (c : Cxt) : Prop where
  fns : ∀ (f : Nat) (nm : Str) (qs : List Str), (T.fns.take n)[f]? = some (nm, qs) → ∃ fd, FnG P w K mg base p T f (f + 1) (c.fn f) nm qs fd ∧ ∀ q ∈ T.kws.filter (fun q => q.1 == f), q.2.2.length = qs.length ∧ KBinds K fd qs q.2.1 (gPerm q.2.1 qs.length q.2.2) (gPermV q.2.1 qs.length q.2.2)
  cls : ∀ (j : Nat) (e : ClE), T.cls[j]? = some e → ClG K mg p j e ∧ (j < m → ∃ (lv : Nat) (a : Addr) (fd : FuncData) (ps : List Str), FnOk P w K mg base CX0 lv a fd ps (spI p j e.ar (c.make j)) ∧ Binds K fd ps [] ∧ Mk K (p.cl j) a ∧ lv = e.lv + 1)
  flds : c.fields = p.fields
  tx : ∀ (x s : Str), (x, s) ∈ T.tx → ∃ t, mg x = some (.str s t)
  nr : ∀ (x : Str) (i : Int), (x, i) ∈ T.nr → ∃ t, mg x = some (.int i t)
theorem Tb.zero {p : Par} {T : Tab} {c : Cxt} (hf : c.fields = p.fields) (hcl : ∀ (j : Nat) (e : ClE), T.cls[j]? = some e → ClG K mg p j e) (tx : ∀ (x s : Str), (x, s) ∈ T.tx → ∃ t, mg x = some (.str s t)) (nr : ∀ (x : Str) (i : Int), (x, i) ∈ T.nr → ∃ t, mg x = some (.int i t)) : Tb P w K mg base p T 0 0 c :=
  ⟨fun f nm qs h => by simp at h, fun j e h => ⟨hcl j e h, fun z => absurd z (Nat.not_lt_zero _)⟩, hf, tx, nr⟩
theorem Tb.tok {p : Par} {T : Tab} {n m : Nat} {c : Cxt} (t : Tb P w K mg base p T n m c) (hK : K = p.K) (hblt : ∀ x ∈ bltNames, mg x = none) : TOk P w K mg base p (T.upTo n m) c n where
  kk := hK
  blt := hblt
  fns := fun f nm qs h => by
    obtain ⟨fd, h1, _⟩ := t.fns f nm qs h
    exact ⟨fd, ⟨(h1.mono (take_lt h)).ex⟩⟩
  keys := fun f nm qs h0 h => by
    obtain ⟨fd, h1, _⟩ := t.fns f nm qs h
    exact ⟨f + 1, fd, by have : f < n - 2 := h0; omega, ⟨h1.ex⟩⟩
  kws := fun f ks perm nm qs h1 h2 => by
    obtain ⟨fd, h3, h4⟩ := t.fns f nm qs h2
    obtain ⟨a, b⟩ := h4 (f, ks, perm) (List.mem_filter.mpr ⟨h1, by simp⟩)
    exact ⟨a, fd, ⟨(h3.mono (take_lt h2)).ex⟩, b⟩
  flds := t.flds
  room := Nat.le_refl _
  cls := t.cls
  tx := t.tx
  nr := t.nr
theorem Tb.one {p : Par} {T : Tab} {n m : Nat} {c : Cxt} {x qual : Str} {ps N : List Str} {st : Stmt} {df : Df} {f : Addr} {fd : FuncData} (t : Tb P w K mg base p T n m c) (hK : K = p.K) (hblt : ∀ x ∈ bltNames, mg x = none)
    (hF : Fun K x qual st f fd) (S : FnScope N ps (defScope st)) (hs : df.slots = N.length) (ha : df.arity = ps.length)
    (hck : okSs (T.upTo n m) ⟨N, (defScope st).names, (defScope st).names⟩ df.body (defBody st) = true) :
    FnOk P w K mg base CX0 (n + 1) f fd ps (spD p ps.length (run c df)) := def_ok (t.tok hK hblt) hF S hs ha hck
/-- one def more -/
theorem Tb.put {p : Par} {T : Tab} {n m : Nat} {c : Cxt} {x qual nm : Str} {ps N : List Str} {st : Stmt} {df : Df} {f : Addr} {fd : FuncData} (t : Tb P w K mg base p T n m c) (hK : K = p.K) (hblt : ∀ x ∈ bltNames, mg x = none)
    (hG : T.fns[n]? = some (nm, ps)) (hF : Fun K x qual st f fd) (hg : T.isM n = false → mg nm = some (.ref f)) (hM : ∀ c m, (n, c, m) ∈ T.mts → Meth K (p.cl c) m f) (S : FnScope N ps (defScope st)) (hs : df.slots = N.length) (ha : df.arity = ps.length)
    (hck : okSs (T.upTo n m) ⟨N, (defScope st).names, (defScope st).names⟩ df.body (defBody st) = true)
    (hb : ∀ (kV doc pm : Value) (an : Option Addr) (cdv ct : Value) (us : List Value), us.length = ps.length → bindArgs (PySem.W.fnOf x qual (defArgs st) (defBody st) (defScope st) .none kV doc pm an cdv ct) ⟨us, []⟩ = pure (ps.zip us))
    (hk : ∀ q ∈ T.kws.filter (fun q => q.1 == n), q.2.2.length = ps.length ∧ ∀ (kV doc pm : Value) (an : Option Addr) (cdv ct : Value) (ws : List Value), ws.length = q.2.1.length → bindArgs (PySem.W.fnOf x qual (defArgs st) (defBody st) (defScope st) .none kV doc pm an cdv ct) ⟨[], q.2.1.zip ws⟩ = pure (ps.zip (q.2.2.map fun j => ws.getD j .none))) :
    Tb P w K mg base p T (n + 1) m (c.ext n (run c df)) := by
  have hok : FnOk P w K mg base CX0 (n + 1) f fd ps (spD p ps.length (run c df)) := t.one hK hblt hF S hs ha hck
  refine ⟨fun j nm' qs h => ?_, t.cls, t.flds, t.tx, t.nr⟩
  by_cases hj : j = n
  · subst hj
    have h : (nm', qs) = (nm, ps) := by
      rw [List.getElem?_take] at h
      simp only [Nat.lt_succ_self, if_true] at h
      rw [hG] at h
      exact (Option.some.inj h).symm
    cases h
    refine ⟨fd, ⟨f, ?_, hg, hF.kp, hF.binds hb, hM⟩, fun q hq => ⟨(hk q hq).1, kw_binds hF (hk q hq).2⟩⟩
    show FnOk P w K mg base CX0 (j + 1) f fd ps (spD p ps.length ((c.ext j (run c df)).fn j))
    unfold Cxt.ext
    dsimp only
    rw [if_pos rfl]
    exact hok
  · have h' : (T.fns.take n)[j]? = some (nm', qs) := by
      rw [List.getElem?_take] at h ⊢
      split at h
      · rename_i hl
        rw [if_pos (by omega)]
        exact h
      · cases h
    obtain ⟨fd', h1, h2⟩ := t.fns j nm' qs h'
    refine ⟨fd', ?_, h2⟩
    have e : (c.ext n (run c df)).fn j = c.fn j := by
      unfold Cxt.ext
      dsimp only
      rw [if_neg hj]
    rw [e]
    exact h1
theorem Tb.add {p : Par} {T : Tab} {n m : Nat} {c : Cxt} {nm : Str} {ps N : List Str} {st : Stmt} {df : Df} (t : Tb P w K mg base p T n m c) (hK : K = p.K) (hmg : ∀ (x : Str) (v : Value), PySem.W.nsIn K mainGlobals x = some (some v) → mg x = some v) (hblt : ∀ x ∈ bltNames, mg x = none)
    (hG : T.fns[n]? = some (nm, ps)) (hno : T.isM n = false) (F : FactE K nm st) (S : FnScope N ps (defScope st)) (hs : df.slots = N.length) (ha : df.arity = ps.length)
    (hck : okSs (T.upTo n m) ⟨N, (defScope st).names, (defScope st).names⟩ df.body (defBody st) = true)
    (hb : ∀ (kV doc pm : Value) (an : Option Addr) (cdv ct : Value) (us : List Value), us.length = ps.length → bindArgs (PySem.W.fnOf nm nm (defArgs st) (defBody st) (defScope st) .none kV doc pm an cdv ct) ⟨us, []⟩ = pure (ps.zip us))
    (hk : ∀ q ∈ T.kws.filter (fun q => q.1 == n), q.2.2.length = ps.length ∧ ∀ (kV doc pm : Value) (an : Option Addr) (cdv ct : Value) (ws : List Value), ws.length = q.2.1.length → bindArgs (PySem.W.fnOf nm nm (defArgs st) (defBody st) (defScope st) .none kV doc pm an cdv ct) ⟨[], q.2.1.zip ws⟩ = pure (ps.zip (q.2.2.map fun j => ws.getD j .none))) :
    Tb P w K mg base p T (n + 1) m (c.ext n (run c df)) := by
  obtain ⟨f, fd, hf, hF⟩ := F
  refine t.put hK hblt hG hF (fun _ => hmg _ _ hf) (fun c m h => ?_) S hs ha hck hb hk
  exfalso
  have : T.isM n = true := List.any_eq_true.mpr ⟨_, h, by simp⟩
  rw [hno] at this
  cases this
theorem Tb.addM {p : Par} {T : Tab} {n m k : Nat} {c : Cxt} {mn qual nm : Str} {ps N : List Str} {st : Stmt} {df : Df} (t : Tb P w K mg base p T n m c) (hK : K = p.K) (hblt : ∀ x ∈ bltNames, mg x = none)
    (hG : T.fns[n]? = some (nm, ps)) (hin : T.mts.filter (fun q => q.1 == n) = [(n, k, mn)]) (F : FactM K (p.cl k) mn qual st) (S : FnScope N ps (defScope st)) (hs : df.slots = N.length) (ha : df.arity = ps.length)
    (hck : okSs (T.upTo n m) ⟨N, (defScope st).names, (defScope st).names⟩ df.body (defBody st) = true)
    (hb : ∀ (kV doc pm : Value) (an : Option Addr) (cdv ct : Value) (us : List Value), us.length = ps.length → bindArgs (PySem.W.fnOf mn qual (defArgs st) (defBody st) (defScope st) .none kV doc pm an cdv ct) ⟨us, []⟩ = pure (ps.zip us))
    (hk : T.kws.filter (fun q => q.1 == n) = []) :
    Tb P w K mg base p T (n + 1) m (c.ext n (run c df)) := by
  obtain ⟨f, fd, hm, hF⟩ := F
  have mem : ∀ {c m}, (n, c, m) ∈ T.mts → c = k ∧ m = mn := fun {c m} h => by
    have : (n, c, m) ∈ T.mts.filter (fun q => q.1 == n) := List.mem_filter.mpr ⟨h, by simp⟩
    rw [hin, List.mem_singleton] at this
    cases this
    exact ⟨rfl, rfl⟩
  refine t.put hK hblt hG hF (fun h => ?_) (fun c m h => ?_) S hs ha hck hb (fun q hq => by rw [hk] at hq; cases hq)
  · exfalso
    have h1 : (n, k, mn) ∈ T.mts := (List.mem_filter.mp (by rw [hin]; exact List.mem_singleton_self _ : (n, k, mn) ∈ T.mts.filter (fun q => q.1 == n))).1
    have : T.isM n = true := List.any_eq_true.mpr ⟨_, h1, by simp⟩
    rw [h] at this
    cases this
  · obtain ⟨rfl, rfl⟩ := mem h
    exact hm
theorem FactC.clG {p : Par} {nm qual : Str} {fields : List Str} {st : Stmt} {e : ClE} {j : Nat} (F : FactC K nm qual fields (p.cl j) st) (hmg : ∀ (x : Str) (v : Value), PySem.W.nsIn K mainGlobals x = some (some v) → mg x = some v) (h1 : e.nm = nm) (h2 : e.fields = fields) (hfs : p.fields j = fields) (hnd : fields.Nodup) (hfew : fields.length < 1000) : ClG K mg p j e := by
  subst h1 h2
  exact ⟨hfs, hnd, hfew, hmg _ _ F.ns, F.cls, F.no, F.isi⟩
/-- one class more -/
theorem Tb.addC {p : Par} {T : Tab} {n m : Nat} {c : Cxt} {e : ClE} {qual : Str} {ps N : List Str} {st : Stmt} {df : Df} (t : Tb P w K mg base p T n m c) (hK : K = p.K) (hblt : ∀ x ∈ bltNames, mg x = none)
    (hG : T.cls[m]? = some e) (hlv : e.lv = n) (F : FactC K e.nm qual e.fields (p.cl m) st) (S : FnScope N ps (defScope st)) (hs : df.slots = N.length) (ha : df.arity = ps.length) (hn : ps.length = e.ar + 1)
    (hck : okSs (T.upTo n m) ⟨N, (defScope st).names, (defScope st).names⟩ df.body (defBody st) = true)
    (hb : ∀ (kV doc pm : Value) (an : Option Addr) (cdv ct : Value) (us : List Value), us.length = ps.length → bindArgs (PySem.W.fnOf "__init__" qual (defArgs st) (defBody st) (defScope st) .none kV doc pm an cdv ct) ⟨us, []⟩ = pure (ps.zip us)) :
    Tb P w K mg base p T n (m + 1) (c.extC m (runI c m df)) := by
  obtain ⟨f, fd, hM, hF⟩ := F.ini
  have hok := init_ok (c := m) (n := e.ar) (t.tok hK hblt) hF S hs ha hn hck
  refine ⟨t.fns, fun j e' h => ?_, t.flds, t.tx, t.nr⟩
  refine ⟨(t.cls j e' h).1, fun hlt => ?_⟩
  by_cases hj : j = m
  · subst hj
    have h : e' = e := by
      rw [hG] at h
      exact (Option.some.inj h).symm
    subst h
    refine ⟨n + 1, f, fd, ps, ?_, hF.binds hb, hM, by rw [hlv]⟩
    show FnOk P w K mg base CX0 (n + 1) f fd ps (spI p j e'.ar ((c.extC j (runI c j df)).make j))
    unfold Cxt.extC
    dsimp only
    rw [if_pos rfl]
    exact hok
  · obtain ⟨lv, a, fd', ps', h1, h2⟩ := (t.cls j e' h).2 (by omega)
    refine ⟨lv, a, fd', ps', ?_, h2⟩
    have e2 : (c.extC m (runI c m df)).make j = c.make j := by
      unfold Cxt.extC
      dsimp only
      rw [if_neg hj]
    rw [e2]
    exact h1
end
/-- the sp of a law that is true -/
def spLaw (K : PySem.W.Frag) (B : List Int → Prop) : Sp := fun vs H Q _ => ∃ (a : Addr) (ns : List Int), vs = [.ref a] ∧ SqL K H a (ns.map V.int) ∧ ns.length ≤ 63 ∧ B ns ∧ ∀ H', Q (.bl true) H'
theorem spLaw_of {p : Par} {K : PySem.W.Frag} (hK : K = p.K) {m : List D → Out Ar} {B : List Int → Prop} (hm : ∀ ns : List Int, ns.length ≤ 63 → B ns → m [.rol (ns.map .int)] = .ok (.v (.bl true))) (vs : List V) (H : Hp) (Q : VK) (E : XK) (h : spLaw K B vs H Q E) : spD p 1 m vs H Q E := by
  obtain ⟨a, ns, rfl, hS, hl, hB, hQ⟩ := h
  subst hK
  refine ⟨H, [.rol (ns.map .int)], Sub.refl _, ⟨.ref a, [], rfl, ⟨a, ns.map V.int, rfl, hS, Reps.ints.mpr rfl⟩, rfl⟩, rfl, ?_⟩
  rw [hm ns hl hB]
  intro v H' S' _ _ _ _ r
  cases (show v = .bl true from r)
  exact hQ H'
theorem walk_D {l : PySem.W.OpenLaw} {q : Program} {loose : List Str} {XP : (Str → Option Value) → Heap → Prop} {YP : World → Heap → Prop} {d : DefRec} {K : Params → PySem.W.Frag} {k : Nat} {x : Str} (hn : l.most = some 63) (hdf : d.params.defaults = []) (hr : Room k callerA)
    (hY : ∀ (w : World) (h : Heap), YP w h → (K w.params).In h)
    (F : ∀ (w : World) (mg : Str → Option Value) (fa : Addr) (h : Heap), (K w.params).In h → h.Ns mainGlobals mg → mg d.name = some (.ref fa) →
      ∃ fd : FuncData, (∀ (s : Shared) (u : Value), BindsTo s fd ⟨[u], []⟩ [(x, u)]) ∧ ∀ base : Heap, (K w.params).In base → base.Ns mainGlobals mg → FnOk l.prog w (K w.params) mg base CX0 k fa fd [x] (spLaw (K w.params) fun ns => ∀ z ∈ ns, Builtin.Int.intBits z ≤ 1048576)) :
    PySem.W.WalkO q loose XP YP l.row.toRowW d [] (fun f vs => PySem.call f vs) :=
  L2.walk_ofB (n := 63) (k := k) (x := x) (CX := fun _ => CX0) (sp := fun w => spLaw (K w.params) fun ns => ∀ z ∈ ns, Builtin.Int.intBits z ≤ 1048576) hn (by decide) hdf hr hY F (fun _ _ a ns hl hb _ hS => ⟨a, ns, rfl, hS, hl, hb, fun _ => rfl⟩) fun _ _ _ _ _ z => z
/-- a module's name for a text, for a number -/
def strB (K : PySem.W.Frag) (x s : Str) : Bool := match PySem.W.nsIn K mainGlobals x with
  | some (some (.str y _)) => y == s
  | _ => false
theorem strK {K : PySem.W.Frag} {x s : Str} (h : strB K x s = true) : ∃ t, PySem.W.nsIn K mainGlobals x = some (some (.str s t)) := by
  unfold strB at h
  split at h
  · rename_i y t e
    exact ⟨t, by rw [e, eq_of_beq h]⟩
  · cases h
def intB (K : PySem.W.Frag) (x : Str) (s : Int) : Bool := match PySem.W.nsIn K mainGlobals x with
  | some (some (.int y _)) => y == s
  | _ => false
theorem intK {K : PySem.W.Frag} {x : Str} {s : Int} (h : intB K x s = true) : ∃ t, PySem.W.nsIn K mainGlobals x = some (some (.int s t)) := by
  unfold intB at h
  split at h
  · rename_i y t e
    exact ⟨t, by rw [e, eq_of_beq h]⟩
  · cases h
end DS
/-! ## Reckoning with the evaluator -/
namespace DS
open PySem PySem.Spec PyProof.Rows L2
def Sat {α : Type} (x : Out α) (Q : α → Prop) : Prop := ∃ a, x = .ok a ∧ Q a
theorem Sat.ok {α : Type} {a : α} {Q : α → Prop} (h : Q a) : Sat (.ok a) Q := ⟨a, rfl, h⟩
theorem Sat.mono {α : Type} {x : Out α} {Q R : α → Prop} (h : Sat x Q) (k : ∀ a, Q a → R a) : Sat x R := let ⟨a, e, q⟩ := h; ⟨a, e, k a q⟩
theorem Sat.bnd {α β : Type} {x : Out α} {f : α → Out β} {Q : β → Prop} (h : Sat x fun a => Sat (f a) Q) : Sat (x.bnd f) Q := by
  obtain ⟨a, e, q⟩ := h
  rw [e]
  exact q
theorem Sat.of_eq {α : Type} {x y : Out α} {Q : α → Prop} (e : x = y) (h : Sat y Q) : Sat x Q := e ▸ h
section
variable {C : Cxt}
/-- how a statement ends -/
def Nx (Q : Fl × En → Prop) (K : En → Prop) : Fl × En → Prop := fun z => match z.1 with
  | .nx => K z.2
  | f => Q (f, z.2)
theorem exs_nil {σ : En} {Q : Fl × En → Prop} (h : Q (.nx, σ)) : Sat (exs C .nil σ) Q := ⟨_, rfl, h⟩
theorem exs_cons {s : SR} {ss : SRs} {σ : En} {Q : Fl × En → Prop} (h : Sat (ex C s σ) (Nx Q fun σ1 => Sat (exs C ss σ1) Q)) : Sat (exs C (.cons s ss) σ) Q := by
  obtain ⟨⟨f, σ1⟩, e, q⟩ := h
  show Sat ((ex C s σ).bnd _) Q
  rw [e]
  cases f with
  | nx => exact q
  | bk => exact ⟨_, rfl, q⟩
  | ct => exact ⟨_, rfl, q⟩
  | rt r => exact ⟨_, rfl, q⟩
/-- a statement that is reckoned through -/
theorem exs_next {s : SR} {ss : SRs} {σ σ1 : En} {Q : Fl × En → Prop} (e : ex C s σ = .ok (.nx, σ1)) (h : Sat (exs C ss σ1) Q) : Sat (exs C (.cons s ss) σ) Q := exs_cons ⟨_, e, h⟩
theorem exs_rt {s : SR} {ss : SRs} {σ σ1 : En} {r : Ar} {Q : Fl × En → Prop} (e : ex C s σ = .ok (.rt r, σ1)) (h : Q (.rt r, σ1)) : Sat (exs C (.cons s ss) σ) Q := exs_cons ⟨_, e, h⟩
theorem run_sat {d : Df} {xs : List D} {Q : Ar → Prop} (hl : xs.length = d.arity) (h : Sat (exs C d.body (xs.map Sl.val ++ List.replicate (d.slots - xs.length) .un)) fun z => match z.1 with
    | .rt r => r.isB = false ∧ Q r
    | .nx => Q (.v .non)
    | _ => False) : Sat (run C d xs) Q := by
  obtain ⟨⟨f, σ1⟩, e, q⟩ := h
  unfold run
  rw [if_pos hl, e]
  cases f with
  | nx => exact ⟨_, rfl, q⟩
  | bk => exact q.elim
  | ct => exact q.elim
  | rt r =>
    dsimp only [Out.bnd] at q ⊢
    rw [if_neg (by rw [q.1]; simp)]
    exact ⟨_, rfl, q.2⟩
theorem lockers_nil : ∀ {rs : List Ar} {σ : En}, rs.any Ar.isB = false → lockers rs σ = []
  | [], _, _ => rfl
  | r :: rs, σ, h => by
    rw [List.any_cons, Bool.or_eq_false_iff] at h
    cases r with
    | br i ds => cases h.1
    | v d => exact lockers_nil (rs := rs) h.2
    | fr ds => exact lockers_nil (rs := rs) h.2
theorem okBr_nil : ∀ {rs : List Ar} {σ : En}, rs.any Ar.isB = false → okBr rs σ = true
  | [], _, _ => rfl
  | r :: rs, σ, h => by
    rw [List.any_cons, Bool.or_eq_false_iff] at h
    cases r with
    | br i ds => cases h.1
    | v d => exact okBr_nil (rs := rs) h.2
    | fr ds => exact okBr_nil (rs := rs) h.2
theorem forLoop_sat {t : Tg} {b : En → Out (Fl × En)} {xs : List D} {Q : Fl × En → Prop} (I : Nat → En → Prop)
    (step : ∀ (i : Nat) (x : D) (σ : En), xs[i]? = some x → I i σ → ∃ σ1, asg t x σ = some σ1 ∧ Sat (b σ1) fun z => match z.1 with
      | .nx => I (i + 1) z.2
      | .ct => I (i + 1) z.2
      | .bk => Q (.nx, z.2)
      | .rt r => Q (.rt r, z.2)) (fin : ∀ σ, I xs.length σ → Q (.nx, σ)) : ∀ (n i : Nat) (σ : En), n = xs.length - i → i ≤ xs.length → I i σ → Sat (forLoop t b (xs.drop i) σ) Q
  | 0, i, σ, hn, hi, h => by
    have e : i = xs.length := by omega
    subst e
    rw [List.drop_length]
    exact ⟨_, rfl, fin σ h⟩
  | n + 1, i, σ, hn, hi, h => by
    have hlt : i < xs.length := by omega
    rw [List.drop_eq_getElem_cons hlt]
    obtain ⟨σ1, e1, ⟨f, σ2⟩, e2, q⟩ := step i xs[i] σ (List.getElem?_eq_getElem hlt) h
    unfold forLoop
    rw [e1]
    dsimp only
    rw [e2]
    have ih := forLoop_sat I step fin n (i + 1)
    cases f with
    | nx => exact ih σ2 (by omega) hlt q
    | ct => exact ih σ2 (by omega) hlt q
    | bk => exact ⟨_, rfl, q⟩
    | rt r => exact ⟨_, rfl, q⟩
theorem for_sat {t : Tg} {k : ItK} {es : IRs} {b : SRs} {σ σ1 : En} {rs : List Ar} {xs : List D} {Q : Fl × En → Prop} (he : evs C es σ = .ok (rs, σ1)) (hx : itD k (rs.map Ar.view) = some xs) (hb : rs.any Ar.isB = false) (I : Nat → En → Prop) (h0 : I 0 σ1)
    (step : ∀ (i : Nat) (x : D) (σ : En), xs[i]? = some x → I i σ → ∃ σ1, asg t x σ = some σ1 ∧ Sat (exs C b σ1) fun z => match z.1 with
      | .nx => I (i + 1) z.2
      | .ct => I (i + 1) z.2
      | .bk => Q (.nx, z.2)
      | .rt r => Q (.rt r, z.2)) (fin : ∀ σ, I xs.length σ → Q (.nx, σ)) : Sat (ex C (.for_ t k es b) σ) Q := by
  show Sat ((evs C es σ).bnd _) Q
  rw [he]
  dsimp only [Out.bnd]
  rw [hx]
  dsimp only
  rw [if_pos (okBr_nil hb), lockers_nil hb]
  dsimp only [List.foldl, List.foldr]
  obtain ⟨⟨f, σ2⟩, e, q⟩ := forLoop_sat I step fin _ 0 σ1 rfl (Nat.zero_le _) h0
  rw [List.drop_zero] at e
  rw [e]
  exact ⟨_, rfl, q⟩
/-- a loop over an own list -/
theorem for_br {t : Tg} {es : IRs} {b : SRs} {σ σ1 : En} {j : Nat} {xs : List D} {Q : Fl × En → Prop} (he : evs C es σ = .ok ([.br j xs], σ1)) (ho : σ1[j]? = some (.own xs)) (I : Nat → En → Prop) (h0 : I 0 (σ1.set j (.lock xs)))
    (step : ∀ (i : Nat) (x : D) (σ : En), xs[i]? = some x → I i σ → ∃ σ1, asg t x σ = some σ1 ∧ Sat (exs C b σ1) fun z => match z.1 with
      | .nx => I (i + 1) z.2
      | .ct => I (i + 1) z.2
      | .bk => Q (.nx, unlockAt z.2 j)
      | .rt r => Q (.rt r, unlockAt z.2 j)) (fin : ∀ σ, I xs.length σ → Q (.nx, unlockAt σ j)) : Sat (ex C (.for_ t .seq es b) σ) Q := by
  show Sat ((evs C es σ).bnd _) Q
  rw [he]
  have hl : lockers [.br j xs] σ1 = [j] := by simp [lockers, ho]
  have hk : okBr [.br j xs] σ1 = true := by simp [okBr, ho]
  have hx : itD .seq ([Ar.br j xs].map Ar.view) = some xs := rfl
  dsimp only [Out.bnd]
  rw [hx]
  dsimp only
  rw [if_pos hk, hl]
  dsimp only [List.foldl, List.foldr]
  have e0 : lockAt σ1 j = σ1.set j (.lock xs) := by unfold lockAt; rw [ho]
  rw [e0]
  obtain ⟨⟨f, σ2⟩, e, q⟩ := forLoop_sat (Q := fun z => Q (z.1, unlockAt z.2 j)) I step fin _ 0 _ rfl (Nat.zero_le _) h0
  rw [List.drop_zero] at e
  rw [e]
  exact ⟨_, rfl, q⟩
/-- a comprehension: what each turn makes -/
theorem comp_loop {f : D → En → Out (Option D × En)} {g : D → Option D} {τ : En} : ∀ (xs : List D), (∀ x ∈ xs, f x τ = .ok (g x, τ)) → compLoop f xs τ = .ok (xs.filterMap g, τ)
  | [], _ => rfl
  | x :: xs, h => by
    show (f x τ).bnd _ = _
    rw [h x (List.mem_cons_self ..)]
    dsimp only [Out.bnd]
    rw [comp_loop xs fun y hy => h y (List.mem_cons_of_mem _ hy)]
    cases e : g x <;> simp [consO, e]
def turnOf (C : Cxt) (t : Tg) (own : List Nat) (ifs e : IR) (x : D) (τ : En) : Out (Option D × En) := match asg t x τ with
  | none => .bad
  | some τ1 => (ev C ifs τ1).bnd fun (kv, τ2) => match kv with
    | .v (.bl k) => if k = true then (sq (ev C e τ2)).bnd fun (r, τ3) => if r.isB then .bad else .ok (some r.view, wipeE τ3 own)
      else .ok (none, wipeE τ2 own)
    | _ => .bad
def compFin (C : Cxt) (t : Tg) (own : List Nat) (ifs e : IR) (rs : List Ar) (σ1 : En) (xs : List D) : Out (Ar × En) :=
  if (noOwn ((lockers rs σ1).foldl lockAt σ1) own && okBr rs σ1) = true then
    (compLoop (turnOf C t own ifs e) xs (wipeE ((lockers rs σ1).foldl lockAt σ1) own)).bnd fun w =>
      if w.1.length ≤ sizeLine then .ok (.fr w.1, (lockers rs σ1).foldr (fun i τ => unlockAt τ i) (backE ((lockers rs σ1).foldl lockAt σ1) w.2 own)) else .bad
  else .bad
theorem comp_unf {t : Tg} {own : List Nat} {k : ItK} {es : IRs} {ifs e : IR} {σ : En} : ev C (.comp t own k es ifs e) σ = (evs C es σ).bnd fun z => match itD k (z.1.map Ar.view) with
    | none => .bad
    | some xs => compFin C t own ifs e z.1 z.2 xs := by
  rw [ev]
  rfl
theorem comp_eq {t : Tg} {own : List Nat} {k : ItK} {es : IRs} {ifs e : IR} {σ σ1 : En} {rs : List Ar} {xs : List D} {g : D → Option D} (he : evs C es σ = .ok (rs, σ1)) (hx : itD k (rs.map Ar.view) = some xs) (hb : rs.any Ar.isB = false) (hn : noOwn σ1 own = true)
    (turn : ∀ x ∈ xs, turnOf C t own ifs e x (wipeE σ1 own) = .ok (g x, wipeE σ1 own)) (hl : (xs.filterMap g).length ≤ sizeLine) : ev C (.comp t own k es ifs e) σ = .ok (.fr (xs.filterMap g), backE σ1 (wipeE σ1 own) own) := by
  rw [comp_unf, he]
  show (match itD k (rs.map Ar.view) with | none => _ | some xs => compFin C t own ifs e rs σ1 xs) = _
  rw [hx]
  show compFin C t own ifs e rs σ1 xs = _
  unfold compFin
  rw [lockers_nil hb, okBr_nil hb]
  show (if (noOwn σ1 own && true) = true then (compLoop (turnOf C t own ifs e) xs (wipeE σ1 own)).bnd (fun w => if w.1.length ≤ sizeLine then Out.ok (Ar.fr w.1, backE σ1 w.2 own) else .bad) else .bad) = _
  rw [if_pos (by rw [hn]; rfl), comp_loop xs turn]
  show (if (xs.filterMap g).length ≤ sizeLine then Out.ok (Ar.fr (xs.filterMap g), backE σ1 (wipeE σ1 own) own) else .bad) = _
  rw [if_pos hl]
/-- a comprehension over an own list -/
theorem comp_br {t : Tg} {own : List Nat} {es : IRs} {ifs e : IR} {σ σ1 : En} {j : Nat} {xs : List D} {g : D → Option D} (he : evs C es σ = .ok ([.br j xs], σ1)) (ho : σ1[j]? = some (.own xs)) (hn : noOwn (σ1.set j (.lock xs)) own = true)
    (turn : ∀ x ∈ xs, turnOf C t own ifs e x (wipeE (σ1.set j (.lock xs)) own) = .ok (g x, wipeE (σ1.set j (.lock xs)) own)) (hl : (xs.filterMap g).length ≤ sizeLine) : ev C (.comp t own .seq es ifs e) σ = .ok (.fr (xs.filterMap g), unlockAt (backE (σ1.set j (.lock xs)) (wipeE (σ1.set j (.lock xs)) own) own) j) := by
  have hl' : lockers [.br j xs] σ1 = [j] := by simp [lockers, ho]
  have hk : okBr [.br j xs] σ1 = true := by simp [okBr, ho]
  have e0 : lockAt σ1 j = σ1.set j (.lock xs) := by unfold lockAt; rw [ho]
  rw [comp_unf, he]
  show compFin C t own ifs e [.br j xs] σ1 xs = _
  unfold compFin
  rw [hl', hk]
  show (if (noOwn (lockAt σ1 j) own && true) = true then (compLoop (turnOf C t own ifs e) xs (wipeE (lockAt σ1 j) own)).bnd (fun w => if w.1.length ≤ sizeLine then Out.ok (Ar.fr w.1, unlockAt (backE (lockAt σ1 j) w.2 own) j) else .bad) else .bad) = _
  rw [e0, if_pos (by rw [hn]; rfl), comp_loop xs turn]
  show (if (xs.filterMap g).length ≤ sizeLine then Out.ok (Ar.fr (xs.filterMap g), unlockAt (backE (σ1.set j (.lock xs)) (wipeE (σ1.set j (.lock xs)) own) own) j) else .bad) = _
  rw [if_pos hl]
end
theorem rangeD_eq : ∀ (n : Nat) (lo : Int), rangeD lo n = (List.range n).map fun k : Nat => D.int (lo + (k : Int))
  | 0, _ => rfl
  | n + 1, lo => by
    rw [rangeD, rangeD_eq n, List.range_succ_eq_map, List.map_cons, List.map_map]
    have e0 : lo + ((0 : Nat) : Int) = lo := by omega
    rw [e0]
    refine congrArg (D.int lo :: ·) (List.map_congr_left fun k _ => ?_)
    show D.int (lo + 1 + (k : Int)) = D.int (lo + ((k + 1 : Nat) : Int))
    congr 1
    omega
theorem enumD_eq : ∀ (xs : List D) (n : Nat), (enumD n xs).length = xs.length ∧ ∀ i, (enumD n xs)[i]? = xs[i]?.map fun d => D.pr (.int ((n + i : Nat) : Int)) d
  | [], n => ⟨rfl, fun i => by simp [enumD]⟩
  | x :: xs, n => by
    obtain ⟨h1, h2⟩ := enumD_eq xs (n + 1)
    refine ⟨congrArg (· + 1) h1, fun i => ?_⟩
    cases i with
    | zero => simp [enumD]
    | succ i =>
      have := h2 i
      simp only [enumD, List.getElem?_cons_succ]
      rw [this]
      have e : n + 1 + i = n + (i + 1) := by omega
      rw [e]
end DS
/-! ## Equality of plain data -/
namespace DS
open PySem PySem.Spec PyProof.Rows L2
/-- ints, nested in tuples and lists at most n deep -/
def Nst : Nat → D → Prop
  | 0, d => ∃ i, d = .int i
  | n + 1, d => Nst n d ∨ ∃ xs : List D, (d = .tup xs ∨ d = .lst xs) ∧ ∀ x ∈ xs, Nst n x
theorem nst_lay : ∀ (n : Nat) (d : D), Nst n d → ∃ a, toPD d = some a ∧ a.canLay0 = true ∧ a.depth ≤ n
  | 0, d, ⟨i, e⟩ => by subst e; exact ⟨.int i, rfl, rfl, Nat.le_refl _⟩
  | n + 1, d, h => by
    rcases h with h | ⟨xs, h, k⟩
    · obtain ⟨a, h1, h2, h3⟩ := nst_lay n d h
      exact ⟨a, h1, h2, Nat.le_succ_of_le h3⟩
    · have all : ∀ ys : List D, (∀ x ∈ ys, Nst n x) → ∃ as, toPDs ys = some as ∧ PyData.canLayAll0 as = true ∧ PyData.depthAll as ≤ n := by
        intro ys
        induction ys with
        | nil => exact fun _ => ⟨[], rfl, rfl, Nat.zero_le _⟩
        | cons y ys ih =>
          intro hy
          obtain ⟨a, h1, h2, h3⟩ := nst_lay n y (hy y (List.mem_cons_self ..))
          obtain ⟨as, g1, g2, g3⟩ := ih fun x hx => hy x (List.mem_cons_of_mem _ hx)
          refine ⟨a :: as, by simp only [toPDs, h1, g1], by simp [PyData.canLayAll0, h2, g2], ?_⟩
          simp only [PyData.depthAll]
          omega
      obtain ⟨as, g1, g2, g3⟩ := all xs k
      rcases h with h | h
      · subst h
        exact ⟨.tuple as, by simp only [toPD, g1, Option.map], by simpa [PyData.canLay0] using g2, by simp only [PyData.depth]; omega⟩
      · subst h
        exact ⟨.list as, by simp only [toPD, g1, Option.map], by simpa [PyData.canLay0] using g2, by simp only [PyData.depth]; omega⟩
theorem shaped_of {a : PyData} {n : Nat} (h : a.canLay0 = true) (k : a.depth ≤ n) (hn : n ≤ 64) : SeqAt.shaped a = true := by
  unfold SeqAt.shaped
  rw [h, decide_eq_true (by omega)]
  rfl
theorem eqD_nst {n : Nat} {d e : D} (hd : Nst n d) (he : Nst n e) (hn : n ≤ 64) : ∃ a b, toPD d = some a ∧ toPD e = some b ∧ eqD d e = some (PyData.eqv a b) := by
  obtain ⟨a, a1, a2, a3⟩ := nst_lay n d hd
  obtain ⟨b, b1, b2, b3⟩ := nst_lay n e he
  refine ⟨a, b, a1, b1, ?_⟩
  unfold eqD
  rw [a1, b1]
  dsimp only
  rw [shaped_of a2 a3 hn, shaped_of b2 b3 hn]
  rfl
theorem eqD_self {n : Nat} {d : D} (hd : Nst n d) (hn : n ≤ 64) : eqD d d = some true := by
  obtain ⟨a, a1, a2, a3⟩ := nst_lay n d hd
  unfold eqD
  rw [a1]
  dsimp only
  rw [shaped_of a2 a3 hn, PySem.SeqAt.eqv_refl a a2]
  rfl
theorem eqD_int (i j : Int) : eqD (.int i) (.int j) = some (decide (i = j)) := by
  obtain ⟨a, b, h1, h2, h3⟩ := eqD_nst (n := 0) ⟨i, rfl⟩ ⟨j, rfl⟩ (by decide)
  cases h1
  cases h2
  rw [h3]
  simp [PyData.eqv]
  exact Int.decEq i j |>.casesOn (fun h => by simp [h]) fun h => by simp [h]
theorem toPDs_ints : ∀ ns : List Int, toPDs (ns.map D.int) = some (ns.map PyData.int)
  | [] => rfl
  | n :: ns => by simp only [List.map_cons, toPDs, toPD, toPDs_ints ns]
theorem eqvAll_ints : ∀ ns ms : List Int, PyData.eqvAll (ns.map PyData.int) (ms.map PyData.int) = decide (ns = ms)
  | [], [] => rfl
  | [], _ :: _ => rfl
  | _ :: _, [] => rfl
  | n :: ns, m :: ms => by
    simp only [List.map_cons, PyData.eqvAll, PyData.eqv, eqvAll_ints ns ms]
    by_cases h : n = m <;> by_cases k : ns = ms <;> simp [h, k]
theorem eqD_ints (ns ms : List Int) : eqD (.lst (ns.map .int)) (.lst (ms.map .int)) = some (decide (ns = ms)) := by
  have hi : ∀ ks : List Int, Nst 1 (.lst (ks.map .int)) := fun ks => .inr ⟨_, .inr rfl, fun x hx => by
    obtain ⟨k, _, rfl⟩ := List.mem_map.mp hx
    exact ⟨k, rfl⟩⟩
  obtain ⟨a, b, h1, h2, h3⟩ := eqD_nst (hi ns) (hi ms) (by decide)
  simp only [toPD, toPDs_ints, Option.map, Option.some.injEq] at h1 h2
  subst h1 h2
  rw [h3]
  simp only [PyData.eqv, eqvAll_ints]
theorem eqD_none : eqD .non .non = some true := rfl
theorem run_ret {C : Cxt} {d : Df} {xs : List D} {e : IR} {r : Ar} {σ : En} (hd : d.body = .cons (.ret e) .nil) (hl : xs.length = d.arity) (h : ev C e (xs.map Sl.val ++ List.replicate (d.slots - xs.length) .un) = .ok (r, σ)) (hb : r.isB = false) : DS.run C d xs = .ok r := by
  unfold DS.run
  rw [if_pos hl, hd]
  simp [Out.bnd, exs, ex, h, hb]
theorem map_int {α : Type} {l : List α} {f : α → D} {g : D → Option D} {h : α → D} (e : ∀ a ∈ l, g (f a) = some (h a)) : (l.map f).filterMap g = l.map h := by
  induction l with
  | nil => rfl
  | cons a l ih =>
    rw [List.map_cons, List.filterMap_cons, e a (List.mem_cons_self ..), List.map_cons, ih fun b hb => e b (List.mem_cons_of_mem _ hb)]
end DS
/-! ## Rules for pieces that leave the slots alone -/
namespace DS
open PySem PySem.Spec PyProof.Rows L2
section
variable {C : Cxt} {σ : En} {a b c e : IR} {x y z d : D} {r : Ar} {i f : Nat} {es : IRs} {ds : List D}
def Vw (C : Cxt) (e : IR) (σ : En) (d : D) : Prop := ∃ r, sq (ev C e σ) = .ok (r, σ) ∧ r.view = d
def Vv (C : Cxt) (e : IR) (σ : En) (d : D) : Prop := sq (ev C e σ) = .ok (.v d, σ)
def VwL (C : Cxt) (es : IRs) (σ : En) (ds : List D) : Prop := ∃ rs, evs C es σ = .ok (rs, σ) ∧ rs.map Ar.view = ds
def VvL (C : Cxt) (es : IRs) (σ : En) (ds : List D) : Prop := evs C es σ = .ok (ds.map Ar.v, σ)
def Tt (C : Cxt) (e : IR) (σ : En) (k : Bool) : Prop := ev C e σ = .ok (.v (.bl k), σ)
theorem Vv.w (h : Vv C e σ d) : Vw C e σ d := ⟨_, h, rfl⟩
theorem view_v : ∀ ds : List D, (ds.map Ar.v).map Ar.view = ds
  | [] => rfl
  | d :: ds => congrArg (d :: ·) (view_v ds)
theorem noB_v : ∀ ds : List D, (ds.map Ar.v).any Ar.isB = false
  | [] => rfl
  | d :: ds => noB_v ds
theorem VvL.w (h : VvL C es σ ds) : VwL C es σ ds := ⟨_, h, view_v ds⟩
theorem sq_of (h : ev C e σ = .ok (r, σ)) (hb : r.isB = false) : Vv C e σ r.view := by
  unfold Vv sq
  rw [h]
  cases r with
  | v d => rfl
  | fr ds => rfl
  | br i ds => cases hb
theorem vv_slot (h : σ[i]? = some (.val d)) : Vv C (.slot i) σ d := by
  unfold Vv sq
  simp only [ev, h]
  rfl
theorem vv_move (h : σ[i]? = some (.val d)) : Vv C (.move i) σ d := by
  unfold Vv sq
  simp only [ev, h]
  rfl
theorem vv_bor (h : σ[i]? = some (.val d)) : Vv C (.bor i) σ d := by
  unfold Vv sq
  simp only [ev, h]
  rfl
theorem vw_own (h : σ[i]? = some (.own ds)) : Vw C (.bor i) σ (.lst ds) := by
  refine ⟨.br i ds, ?_, rfl⟩
  unfold sq
  simp only [ev, h]
  rfl
theorem vw_lock (h : σ[i]? = some (.lock ds)) : Vw C (.bor i) σ (.lst ds) := by
  refine ⟨.br i ds, ?_, rfl⟩
  unfold sq
  simp only [ev, h]
  rfl
theorem vv_int {n : Int} : Vv C (.int n) σ (.int n) := rfl
theorem vv_bl {k : Bool} : Vv C (.bl k) σ (.bl k) := rfl
theorem vv_non : Vv C .non σ .non := rfl
theorem bin_ev {o : Operator} (ha : Vw C a σ x) (hb : Vw C b σ y) (ho : binD o x y = .ok r) : ev C (.bin o a b) σ = .ok (r, σ) := by
  obtain ⟨p, hp, rfl⟩ := ha
  obtain ⟨q, hq, rfl⟩ := hb
  simp only [ev, hp, Out.bnd, hq, ho]
theorem vv_bin {o : Operator} (ha : Vw C a σ x) (hb : Vw C b σ y) (ho : binD o x y = .ok r) (hr : r.isB = false := by rfl) : Vv C (.bin o a b) σ r.view := sq_of (bin_ev ha hb ho) hr
theorem vv_un {o : UnaryOp} (ha : Vw C a σ x) (ho : unD o x = .ok r) (hr : r.isB = false := by rfl) : Vv C (.un o a) σ r.view := by
  obtain ⟨p, hp, rfl⟩ := ha
  exact sq_of (by simp only [ev, hp, Out.bnd, ho]) hr
theorem cmp_ev {o : CmpOp} {k : Bool} (ha : Vw C a σ x) (hb : Vw C b σ y) (ho : cmpD o x y = some k) : ev C (.cmp o a b) σ = .ok (.v (.bl k), σ) := by
  obtain ⟨p, hp, rfl⟩ := ha
  obtain ⟨q, hq, rfl⟩ := hb
  simp only [ev, hp, Out.bnd, hq, ho, ob]
theorem vv_cmp {o : CmpOp} {k : Bool} (ha : Vw C a σ x) (hb : Vw C b σ y) (ho : cmpD o x y = some k) : Vv C (.cmp o a b) σ (.bl k) := sq_of (cmp_ev ha hb ho) rfl
theorem tt_cmp {o : CmpOp} {k : Bool} (ha : Vw C a σ x) (hb : Vw C b σ y) (ho : cmpD o x y = some k) : Tt C (.cmpT o a b) σ k := by
  obtain ⟨p, hp, rfl⟩ := ha
  obtain ⟨q, hq, rfl⟩ := hb
  unfold Tt
  simp only [ev, hp, Out.bnd, hq, ho, ob]
theorem tt_tru {k : Bool} (ha : Vw C a σ x) (h : truthD x = some k) : Tt C (.tru a) σ k := by
  obtain ⟨p, hp, rfl⟩ := ha
  unfold Tt
  simp only [ev, hp, Out.bnd, h, ob]
theorem tt_not {k : Bool} (h : Tt C a σ k) : Tt C (.notT a) σ (!k) := by
  unfold Tt at h ⊢
  simp only [ev, h, Out.bnd]
theorem tt_and1 {k : Bool} (h : Tt C a σ k) : Tt C (.andT (.cons a .nil)) σ k := by
  unfold Tt at h ⊢
  simp only [ev, evAndT, h, Out.bnd]
  cases k <;> rfl
theorem tt_or1 {k : Bool} (h : Tt C a σ k) : Tt C (.orT (.cons a .nil)) σ k := by
  unfold Tt at h ⊢
  simp only [ev, evOrT, h, Out.bnd]
  cases k <;> rfl
theorem tt_and {k l : Bool} (h : Tt C a σ k) (h2 : k = true → Tt C (.andT (.cons b es)) σ l) : Tt C (.andT (.cons a (.cons b es))) σ (k && l) := by
  unfold Tt at h h2 ⊢
  cases k with
  | true =>
    have h2 := h2 rfl
    simp only [ev] at h2 ⊢
    rw [evAndT]
    simp only [h, Out.bnd, if_true]
    exact h2
  | false =>
    simp only [ev]
    rw [evAndT]
    simp only [h, Out.bnd]
    rfl
theorem tt_or {k l : Bool} (h : Tt C a σ k) (h2 : k = false → Tt C (.orT (.cons b es)) σ l) : Tt C (.orT (.cons a (.cons b es))) σ (k || l) := by
  unfold Tt at h h2 ⊢
  cases k with
  | false =>
    have h2 := h2 rfl
    simp only [ev] at h2 ⊢
    rw [evOrT]
    simp only [h, Out.bnd]
    exact h2
  | true =>
    simp only [ev]
    rw [evOrT]
    simp only [h, Out.bnd]
    rfl
theorem vv_not {k : Bool} (ha : Vw C a σ (.bl k)) : Vv C (.notE a) σ (.bl (!k)) := by
  obtain ⟨p, hp, e⟩ := ha
  exact sq_of (r := .v (.bl (!k))) (by simp only [ev, hp, Out.bnd, e]) rfl
theorem sq_sq (q : Out (Ar × En)) : sq (sq q) = sq q := by
  cases q with
  | ok p => obtain ⟨r, τ⟩ := p; cases r <;> rfl
  | bad => rfl
  | exc c fs => rfl
theorem vv_and1 (h : Vv C a σ d) : Vv C (.andE (.cons a .nil)) σ d := by
  have e : ev C (.andE (.cons a .nil)) σ = sq (ev C a σ) := by simp only [ev, evAnd]
  unfold Vv at h ⊢
  rw [e, sq_sq, h]
theorem vv_and {k : Bool} (h : Vv C a σ (.bl k)) (h2 : k = true → Vv C (.andE (.cons b es)) σ d) (h3 : k = false → d = .bl false) : Vv C (.andE (.cons a (.cons b es))) σ d := by
  have e : ev C (.andE (.cons a (.cons b es))) σ = if k = true then evAnd C (.cons b es) σ else .ok (.v (.bl false), σ) := by
    unfold Vv at h
    simp only [ev]
    rw [evAnd]
    simp only [h, Out.bnd]
    cases k <;> rfl
  unfold Vv
  rw [e]
  cases k with
  | true =>
    have := h2 rfl
    unfold Vv at this
    simp only [ev] at this
    exact this
  | false => rw [h3 rfl]; rfl
theorem vv_or {k : Bool} (h : Vv C a σ (.bl k)) (h2 : k = false → Vv C (.orE (.cons b es)) σ d) (h3 : k = true → d = .bl true) : Vv C (.orE (.cons a (.cons b es))) σ d := by
  have e : ev C (.orE (.cons a (.cons b es))) σ = if k = true then .ok (.v (.bl true), σ) else evOr C (.cons b es) σ := by
    unfold Vv at h
    simp only [ev]
    rw [evOr]
    simp only [h, Out.bnd]
    cases k <;> rfl
  unfold Vv
  rw [e]
  cases k with
  | false =>
    have := h2 rfl
    unfold Vv at this
    simp only [ev] at this
    exact this
  | true => rw [h3 rfl]; rfl
theorem vv_or1 (h : Vv C a σ d) : Vv C (.orE (.cons a .nil)) σ d := by
  have e : ev C (.orE (.cons a .nil)) σ = sq (ev C a σ) := by simp only [ev, evOr]
  unfold Vv at h ⊢
  rw [e, sq_sq, h]
theorem vv_ix (ha : Vw C a σ x) (hb : Vw C b σ y) (ho : ixD x y = some d) : Vv C (.ix a b) σ d := by
  obtain ⟨p, hp, rfl⟩ := ha
  obtain ⟨q, hq, rfl⟩ := hb
  exact sq_of (r := .v d) (by simp only [ev, hp, Out.bnd, hq, ho, ob]) rfl
theorem vl_nil : VvL C .nil σ [] := rfl
theorem vl_cons (ha : Vv C a σ d) (hs : VvL C es σ ds) : VvL C (.cons a es) σ (d :: ds) := by
  unfold VvL Vv at *
  simp only [evs, ha, Out.bnd, hs]
  rfl
theorem wl_nil : VwL C .nil σ [] := ⟨[], rfl, rfl⟩
theorem wl_cons (ha : Vw C a σ d) (hs : VwL C es σ ds) : VwL C (.cons a es) σ (d :: ds) := by
  obtain ⟨p, hp, rfl⟩ := ha
  obtain ⟨q, hq, rfl⟩ := hs
  exact ⟨p :: q, by simp only [evs, hp, Out.bnd, hq], rfl⟩
theorem call_ev (hs : VvL C es σ ds) (h : C.fn f ds = .ok r) : ev C (.call f es) σ = .ok (r, σ) := by
  unfold VvL at hs
  simp only [ev, hs, Out.bnd, view_v, h, noB_v]
  simp
theorem vv_call (hs : VvL C es σ ds) (h : C.fn f ds = .ok r) (hr : r.isB = false := by rfl) : Vv C (.call f es) σ r.view := sq_of (call_ev hs h) hr
/-- with borrowed lists: an answer without lists -/
theorem vv_callW (hs : VwL C es σ ds) (h : C.fn f ds = .ok r) (hn : r.noL = true) (hr : r.isB = false := by rfl) : Vv C (.call f es) σ r.view := by
  obtain ⟨q, hq, rfl⟩ := hs
  refine sq_of ?_ hr
  simp only [ev, hq, Out.bnd, h, hn]
  simp
theorem vv_blt {k : Blt} (hs : VwL C es σ ds) (h : bltD k ds = .ok r) (hr : r.isB = false := by rfl) : Vv C (.blt k es) σ r.view := by
  obtain ⟨q, hq, rfl⟩ := hs
  refine sq_of ?_ hr
  simp only [ev, hq, Out.bnd, h]
theorem blt_ev {k : Blt} (hs : VwL C es σ ds) (h : bltD k ds = .ok r) : ev C (.blt k es) σ = .ok (r, σ) := by
  obtain ⟨q, hq, rfl⟩ := hs
  simp only [ev, hq, Out.bnd, h]
theorem tup_ev (hs : VvL C es σ ds) (hl : ds.length ≤ sizeLine) : ev C (.tup es) σ = .ok (.v (.tup ds), σ) := by
  unfold VvL at hs
  simp only [ev, hs, Out.bnd, view_v, noB_v, List.length_map]
  simp [hl]
theorem vv_tup (hs : VvL C es σ ds) (hl : ds.length ≤ sizeLine) : Vv C (.tup es) σ (.tup ds) := sq_of (tup_ev hs hl) rfl
theorem lst_ev (hs : VvL C es σ ds) (hl : ds.length ≤ sizeLine) : ev C (.lst es) σ = .ok (.fr ds, σ) := by
  unfold VvL at hs
  simp only [ev, hs, Out.bnd, view_v, noB_v, List.length_map]
  simp [hl]
theorem vv_lst (hs : VvL C es σ ds) (hl : ds.length ≤ sizeLine) : Vv C (.lst es) σ (.lst ds) := sq_of (lst_ev hs hl) rfl
/-! statements -/
theorem x_setS (h : Vv C e σ d) : ex C (.setS i e) σ = .ok (.nx, σ.set i (.val d)) := by
  unfold Vv at h
  simp only [ex, h, Out.bnd]
theorem x_ret (h : Vv C e σ d) (hv : ∃ r, ev C e σ = .ok (.v r, σ)) : ex C (.ret e) σ = .ok (.rt (.v d), σ) := by
  obtain ⟨r, hr⟩ := hv
  unfold Vv sq at h
  rw [hr] at h
  cases h
  simp only [ex, hr, Out.bnd]
  rfl
theorem x_retE (h : ev C e σ = .ok (r, σ)) (hb : r.isB = false) : ex C (.ret e) σ = .ok (.rt r, σ) := by
  simp only [ex, h, Out.bnd, hb]
  rfl
theorem x_app (ho : σ[i]? = some (.own ds)) (h : Vv C e σ d) (hl : ds.length < sizeLine) : ex C (.app i e) σ = .ok (.nx, σ.set i (.own (ds ++ [d]))) := by
  unfold Vv at h
  simp only [ex, ho, h, Out.bnd, if_pos hl]
theorem x_ife {t : IR} {p q : SRs} {k : Bool} {Q : Fl × En → Prop} (h : Tt C t σ k) (h1 : k = true → Sat (exs C p σ) Q) (h2 : k = false → Sat (exs C q σ) Q) : Sat (ex C (.ife t p q) σ) Q := by
  unfold Tt at h
  show Sat ((ev C t σ).bnd _) Q
  rw [h]
  cases k with
  | true => exact h1 rfl
  | false => exact h2 rfl
/-- if without a return in it, nothing else -/
theorem x_par2 {j : Nat} {d' : D} (h : VvL C es σ [d, d']) : ex C (.par [i, j] es) σ = .ok (.nx, (σ.set i (.val d)).set j (.val d')) := by
  unfold VvL at h
  simp only [ex, h, Out.bnd]
  rfl
theorem x_unp {is : List Nat} (h : Vv C e σ (.tup ds)) (hl : ds.length = is.length) : ex C (.unp is e) σ = .ok (.nx, setAll is ds σ) := by
  unfold Vv at h
  simp only [ex, h, Out.bnd, if_pos hl]
theorem turn_some {t : Tg} {own : List Nat} {ifs : IR} {τ τ1 : En} (ha : asg t x τ = some τ1) (hi : Tt C ifs τ1 true) (he : Vv C e τ1 d) : turnOf C t own ifs e x τ = .ok (some d, wipeE τ1 own) := by
  unfold Tt at hi
  unfold Vv at he
  unfold turnOf
  rw [ha]
  simp only [hi, Out.bnd, if_true, he]
  rfl
theorem turn_none {t : Tg} {own : List Nat} {ifs : IR} {τ τ1 : En} (ha : asg t x τ = some τ1) (hi : Tt C ifs τ1 false) : turnOf C t own ifs e x τ = .ok (none, wipeE τ1 own) := by
  unfold Tt at hi
  unfold turnOf
  rw [ha]
  simp only [hi, Out.bnd]
  rfl
theorem tt_true : Tt C (.bl true) σ true := rfl
end
end DS
/-! ## Bits: sums, echelon families -/
namespace Gf
theorem xc (a b g : Nat) : (a ^^^ g) ^^^ (b ^^^ g) = a ^^^ b := Nat.eq_of_testBit_eq fun i => by
  simp only [Nat.testBit_xor]; cases a.testBit i <;> cases b.testBit i <;> cases g.testBit i <;> rfl
theorem xl (a g : Nat) : (a ^^^ g) ^^^ g = a := Nat.eq_of_testBit_eq fun i => by
  simp only [Nat.testBit_xor]; cases a.testBit i <;> cases g.testBit i <;> rfl
theorem x1 (a b g : Nat) : (a ^^^ b) ^^^ g = a ^^^ (b ^^^ g) := Nat.xor_assoc ..
theorem x2 (a b g : Nat) : (a ^^^ b) ^^^ g = (a ^^^ g) ^^^ b := Nat.eq_of_testBit_eq fun i => by
  simp only [Nat.testBit_xor]; cases a.testBit i <;> cases b.testBit i <;> cases g.testBit i <;> rfl
/-- v is a sum of some of gs -/
def Sp : List Nat → Nat → Prop
  | [], v => v = 0
  | g :: gs, v => Sp gs v ∨ Sp gs (v ^^^ g)
theorem Sp.zero : ∀ gs, Sp gs 0
  | [] => rfl
  | g :: gs => .inl (Sp.zero gs)
theorem Sp.xor : ∀ {gs : List Nat} {a b : Nat}, Sp gs a → Sp gs b → Sp gs (a ^^^ b)
  | [], a, b, h, k => by
    cases (show a = 0 from h); cases (show b = 0 from k); rfl
  | g :: gs, a, b, h, k => by
    rcases h with h | h <;> rcases k with k | k
    · exact .inl (h.xor k)
    · refine .inr ?_
      rw [x1]
      exact h.xor k
    · refine .inr ?_
      rw [x2]
      exact h.xor k
    · refine .inl ?_
      have := h.xor k
      rw [xc] at this
      exact this
theorem Sp.mem : ∀ {gs : List Nat} {g : Nat}, g ∈ gs → Sp gs g
  | g :: gs, x, h => by
    rcases List.mem_cons.mp h with e | h
    · subst e
      refine .inr ?_
      rw [Nat.xor_self]
      exact Sp.zero gs
    · exact .inl (Sp.mem h)
theorem Sp.sub {B : List Nat} : ∀ {A : List Nat} {v : Nat}, (∀ g ∈ A, Sp B g) → Sp A v → Sp B v
  | [], v, _, h => by
    cases (show v = 0 from h)
    exact Sp.zero B
  | g :: gs, v, k, h => by
    rcases h with h | h
    · exact Sp.sub (fun x hx => k x (List.mem_cons_of_mem _ hx)) h
    · have h1 := Sp.sub (fun x hx => k x (List.mem_cons_of_mem _ hx)) h
      have := h1.xor (k g (List.mem_cons_self ..))
      rw [xl] at this
      exact this
theorem Sp.cons {g : Nat} {gs : List Nat} {v : Nat} (h : Sp gs v) : Sp (g :: gs) v := .inl h
theorem Sp.bit {gs : List Nat} {i : Nat} (h : ∀ g ∈ gs, g.testBit i = false) : ∀ {v : Nat}, Sp gs v → v.testBit i = false := by
  induction gs with
  | nil =>
    intro v k
    cases (show v = 0 from k)
    exact Nat.zero_testBit i
  | cons g gs ih =>
    intro v k
    have h' : ∀ g ∈ gs, g.testBit i = false := fun x hx => h x (List.mem_cons_of_mem _ hx)
    rcases k with k | k
    · exact ih h' k
    · have := ih h' k
      rw [Nat.testBit_xor, h g (List.mem_cons_self ..)] at this
      simpa using this
/-- same sums -/
def Eqv (A B : List Nat) : Prop := ∀ v, Sp A v ↔ Sp B v
theorem Eqv.refl (A : List Nat) : Eqv A A := fun _ => Iff.rfl
theorem Eqv.symm {A B : List Nat} (h : Eqv A B) : Eqv B A := fun v => (h v).symm
theorem Eqv.trans {A B C : List Nat} (h : Eqv A B) (k : Eqv B C) : Eqv A C := fun v => (h v).trans (k v)
theorem Eqv.of {A B : List Nat} (h : ∀ g ∈ A, Sp B g) (k : ∀ g ∈ B, Sp A g) : Eqv A B := fun _ => ⟨Sp.sub h, Sp.sub k⟩
theorem Sp.append_left {A B : List Nat} {v : Nat} (h : Sp A v) : Sp (A ++ B) v := Sp.sub (fun g hg => Sp.mem (List.mem_append_left _ hg)) h
theorem Sp.append_right {A B : List Nat} {v : Nat} (h : Sp B v) : Sp (A ++ B) v := Sp.sub (fun g hg => Sp.mem (List.mem_append_right _ hg)) h
theorem Eqv.perm {A B : List Nat} (h : A.Perm B) : Eqv A B := Eqv.of (fun g hg => Sp.mem (h.mem_iff.mp hg)) fun g hg => Sp.mem (h.mem_iff.mpr hg)
/-! ### counting -/
def sums : List Nat → List Nat
  | [] => [0]
  | g :: gs => sums gs ++ (sums gs).map (· ^^^ g)
theorem sums_len : ∀ gs, (sums gs).length = 2 ^ gs.length
  | [] => rfl
  | g :: gs => by
    rw [sums, List.length_append, List.length_map, sums_len gs, List.length_cons, Nat.pow_succ]
    omega
theorem mem_sums : ∀ {gs : List Nat} {v : Nat}, v ∈ sums gs ↔ Sp gs v
  | [], v => by simp [sums, Sp]
  | g :: gs, v => by
    rw [sums, List.mem_append, List.mem_map]
    constructor
    · rintro (h | ⟨u, h, rfl⟩)
      · exact .inl (mem_sums.mp h)
      · refine .inr ?_
        rw [xl]
        exact mem_sums.mp h
    · rintro (h | h)
      · exact .inl (mem_sums.mpr h)
      · exact .inr ⟨_, mem_sums.mpr h, xl v g⟩
/-- an echelon family: a place and a row; the place is set in the row and not in those behind it -/
def Ech : List (Nat × Nat) → Prop
  | [] => True
  | q :: r => q.2.testBit q.1 = true ∧ (∀ z ∈ r, z.2.testBit q.1 = false) ∧ Ech r
theorem nodup_sub : ∀ {l m : List Nat}, l.Nodup → (∀ x ∈ l, x ∈ m) → l.length ≤ m.length
  | [], m, _, _ => Nat.zero_le _
  | x :: l, m, h, k => by
    obtain ⟨h1, h2⟩ := List.nodup_cons.mp h
    have hx : x ∈ m := k x (List.mem_cons_self ..)
    have := nodup_sub (m := m.erase x) h2 fun y hy => (List.mem_erase_of_ne (fun e => h1 (by rw [← e]; exact hy))).mpr (k y (List.mem_cons_of_mem _ hy))
    rw [List.length_erase_of_mem hx] at this
    have := List.length_pos_of_mem hx
    rw [List.length_cons]
    omega
theorem Ech.nodup : ∀ {l : List (Nat × Nat)}, Ech l → (sums (l.map (·.2))).Nodup
  | [], _ => by simp [sums]
  | q :: r, ⟨h1, h2, h3⟩ => by
    have ih := Ech.nodup h3
    show (sums (r.map (·.2)) ++ (sums (r.map (·.2))).map (· ^^^ q.2)).Nodup
    have hb : ∀ v, v ∈ sums (r.map (·.2)) → v.testBit q.1 = false := fun v hv => Sp.bit (fun g hg => by
      obtain ⟨z, hz, rfl⟩ := List.mem_map.mp hg
      exact h2 z hz) (mem_sums.mp hv)
    rw [List.nodup_append]
    refine ⟨ih, ?_, ?_⟩
    · refine List.Pairwise.map _ (fun a b hab e => hab ?_) ih
      have := congrArg (· ^^^ q.2) e
      simpa only [xl] using this
    · intro a ha b hb' e
      obtain ⟨u, hu, rfl⟩ := List.mem_map.mp hb'
      have e1 := hb a ha
      rw [e, Nat.testBit_xor, hb u hu, h1] at e1
      cases e1
theorem pow_le {a b : Nat} (h : 2 ^ a ≤ 2 ^ b) : a ≤ b := (Nat.pow_le_pow_iff_right (by decide)).mp h
theorem Ech.le {l : List (Nat × Nat)} {A : List Nat} (h : Ech l) (k : ∀ q ∈ l, Sp A q.2) : l.length ≤ A.length := by
  refine pow_le ?_
  have := nodup_sub h.nodup (m := sums A) fun v hv => mem_sums.mpr (Sp.sub (fun g hg => by
    obtain ⟨z, hz, rfl⟩ := List.mem_map.mp hg
    exact k z hz) (mem_sums.mp hv))
  rwa [sums_len, sums_len, List.length_map] at this
theorem Ech.eq {l m : List (Nat × Nat)} (h : Ech l) (k : Ech m) (e : Eqv (l.map (·.2)) (m.map (·.2))) : l.length = m.length := by
  have h1 := h.le (A := m.map (·.2)) fun q hq => (e _).mp (Sp.mem (List.mem_map_of_mem hq))
  have h2 := k.le (A := l.map (·.2)) fun q hq => (e _).mpr (Sp.mem (List.mem_map_of_mem hq))
  rw [List.length_map] at h1 h2
  omega
/-! ### rows and columns -/
def ofBits (f : Nat → Bool) : Nat → Nat
  | 0 => 0
  | n + 1 => ofBits f n ^^^ (if f n then 2 ^ n else 0)
theorem ofBits_bit (f : Nat → Bool) : ∀ n i, (ofBits f n).testBit i = (decide (i < n) && f i)
  | 0, i => by simp [ofBits]
  | n + 1, i => by
    rw [ofBits, Nat.testBit_xor, ofBits_bit f n i]
    by_cases h : f n = true
    · rw [if_pos h, Nat.testBit_two_pow]
      by_cases e : n = i
      · subst e
        simp [h]
      · have : (i < n + 1) = (i < n) := propext ⟨fun _ => by omega, fun _ => by omega⟩
        simp [e, this]
    · rw [if_neg h, Nat.zero_testBit, Bool.xor_false]
      by_cases e : i = n
      · subst e
        simp at h
        simp [h]
      · have : (i < n + 1) = (i < n) := propext ⟨fun _ => by omega, fun _ => by omega⟩
        simp [this]
theorem cols_le {s n : Nat} : ∀ (A : List Nat) (R : Nat → Nat), (∀ i, i < n → Sp A (R i)) → ∃ D : List Nat, D.length = A.length ∧ ∀ k, Sp D (ofBits (fun i => (R i).testBit k) n)
  | [], R, h => ⟨[], rfl, fun k => by
    have : ofBits (fun i => (R i).testBit k) n = 0 := Nat.eq_of_testBit_eq fun i => by
      rw [ofBits_bit, Nat.zero_testBit]
      by_cases hi : i < n
      · rw [show R i = 0 from h i hi]
        simp
      · simp [hi]
    exact this⟩
  | a :: A, R, h => by
    have hc : ∀ i, ∃ c : Bool, i < n → Sp A (R i ^^^ (if c then a else 0)) := fun i => by
      by_cases hi : i < n
      · rcases h i hi with k | k
        · exact ⟨false, fun _ => by simpa using k⟩
        · exact ⟨true, fun _ => by simpa using k⟩
      · exact ⟨false, fun z => absurd z hi⟩
    let c : Nat → Bool := fun i => Classical.choose (hc i)
    have hcs : ∀ i, i < n → Sp A (R i ^^^ (if c i then a else 0)) := fun i => Classical.choose_spec (hc i)
    obtain ⟨D, hD, hk⟩ := cols_le (s := s) A (fun i => R i ^^^ (if c i then a else 0)) hcs
    refine ⟨ofBits c n :: D, by rw [List.length_cons, hD, List.length_cons], fun k => ?_⟩
    have e : ofBits (fun i => (R i ^^^ (if c i then a else 0)).testBit k) n = if a.testBit k then ofBits (fun i => (R i).testBit k) n ^^^ ofBits c n else ofBits (fun i => (R i).testBit k) n := Nat.eq_of_testBit_eq fun i => by
      rw [ofBits_bit]
      by_cases ha : a.testBit k = true
      · rw [if_pos ha, Nat.testBit_xor, Nat.testBit_xor, ofBits_bit, ofBits_bit]
        cases hci : c i <;> simp [ha, hci]
        cases decide (i < n) <;> simp
      · rw [if_neg ha, Nat.testBit_xor, ofBits_bit]
        simp at ha
        cases hci : c i <;> simp [ha, hci]
    have := hk k
    rw [e] at this
    by_cases ha : a.testBit k = true
    · rw [if_pos ha] at this
      exact .inr this
    · rw [if_neg ha] at this
      exact .inl this
end Gf
/-! ## The reduced family -/
namespace Gf
def lowF : Nat → Nat → Nat
  | 0, _ => 0
  | f + 1, n => if n % 2 = 1 then 0 else lowF f (n / 2) + 1
/-- the place of the lowest 1 -/
def lo (n : Nat) : Nat := lowF n n
theorem lowF_spec : ∀ (f n : Nat), n ≤ f → n ≠ 0 → n.testBit (lowF f n) = true ∧ ∀ i, i < lowF f n → n.testBit i = false
  | 0, n, h, h0 => absurd (Nat.le_zero.mp h) h0
  | f + 1, n, h, h0 => by
    unfold lowF
    by_cases h2 : n % 2 = 1
    · rw [if_pos h2]
      exact ⟨by rw [Nat.testBit_zero]; simpa using h2, fun i hi => absurd hi (Nat.not_lt_zero i)⟩
    · rw [if_neg h2]
      obtain ⟨k1, k2⟩ := lowF_spec f (n / 2) (by omega) (by omega)
      refine ⟨by rw [Nat.testBit_succ]; exact k1, fun i hi => ?_⟩
      cases i with
      | zero => rw [Nat.testBit_zero]; simpa using h2
      | succ i => rw [Nat.testBit_succ]; exact k2 i (by omega)
theorem lo_set {n : Nat} (h : n ≠ 0) : n.testBit (lo n) = true := (lowF_spec n n (Nat.le_refl _) h).1
theorem lo_below {n : Nat} (h : n ≠ 0) {i : Nat} (hi : i < lo n) : n.testBit i = false := (lowF_spec n n (Nat.le_refl _) h).2 i hi
theorem ne_zero_of {n i : Nat} (h : n.testBit i = true) : n ≠ 0 := fun e => by rw [e, Nat.zero_testBit] at h; cases h
theorem lo_le {n i : Nat} (h : n.testBit i = true) : lo n ≤ i := Nat.le_of_not_lt fun hi => by
  rw [lo_below (ne_zero_of h) hi] at h
  cases h
theorem lo_eq {n i : Nat} (h : n.testBit i = true) (k : ∀ j, j < i → n.testBit j = false) : lo n = i := Nat.le_antisymm (lo_le h) (Nat.le_of_not_lt fun hi => by
  have := lo_set (ne_zero_of h)
  rw [k _ hi] at this
  cases this)
/-- reduced: no zeros; the lowest 1 of each row stands in no other row -/
def Rd (l : List Nat) : Prop := (∀ x ∈ l, x ≠ 0) ∧ l.Pairwise fun x y => y.testBit (lo x) = false ∧ x.testBit (lo y) = false
theorem Rd.ech : ∀ {l : List Nat}, Rd l → Ech (l.map fun x => (lo x, x))
  | [], _ => trivial
  | x :: l, ⟨h1, h2⟩ => by
    obtain ⟨h3, h4⟩ := List.pairwise_cons.mp h2
    refine ⟨lo_set (h1 x (List.mem_cons_self ..)), fun z hz => ?_, Rd.ech ⟨fun y hy => h1 y (List.mem_cons_of_mem _ hy), h4⟩⟩
    obtain ⟨y, hy, rfl⟩ := List.mem_map.mp hz
    exact (h3 y hy).1
theorem map_snd {f : Nat → Nat} : ∀ l : List Nat, (l.map fun x => (f x, x)).map (·.2) = l
  | [] => rfl
  | x :: l => congrArg (x :: ·) (map_snd l)
/-- one row less by the family -/
def rest1 (r o : Nat) : Nat := if r.testBit (lo o) then r ^^^ o else r
def restL (l : List Nat) (r : Nat) : Nat := l.foldl rest1 r
theorem restL_sp : ∀ (l : List Nat) (r : Nat), Sp l (r ^^^ restL l r)
  | [], r => by
    show r ^^^ r = 0
    exact Nat.xor_self r
  | o :: l, r => by
    have ih := restL_sp l (rest1 r o)
    show Sp l (r ^^^ restL l (rest1 r o)) ∨ Sp l ((r ^^^ restL l (rest1 r o)) ^^^ o)
    unfold rest1 at ih ⊢
    split at ih
    · rename_i h
      rw [if_pos h]
      rw [x2] at ih
      exact .inr ih
    · rename_i h
      rw [if_neg h]
      exact .inl ih
/-- places that are clear in the row and in the family stay so -/
theorem restL_keep {i : Nat} : ∀ (l : List Nat) (r : Nat), (∀ x ∈ l, x.testBit i = false) → (restL l r).testBit i = r.testBit i
  | [], r, _ => rfl
  | o :: l, r, h => by
    show (restL l (rest1 r o)).testBit i = _
    rw [restL_keep l _ fun x hx => h x (List.mem_cons_of_mem _ hx)]
    unfold rest1
    split
    · rw [Nat.testBit_xor, h o (List.mem_cons_self ..), Bool.xor_false]
    · rfl
/-- triangular: the lowest 1 of a row stands in no row behind it -/
def Tr (l : List Nat) : Prop := (∀ x ∈ l, x ≠ 0) ∧ l.Pairwise fun x y => y.testBit (lo x) = false
theorem Rd.tr {l : List Nat} (h : Rd l) : Tr l := ⟨h.1, h.2.imp fun q => q.1⟩
theorem rest1_clear {r o : Nat} (h : o ≠ 0) : (rest1 r o).testBit (lo o) = false := by
  unfold rest1
  split
  · rename_i k
    rw [Nat.testBit_xor, k, lo_set h]
    rfl
  · rename_i k
    simpa using k
theorem restL_clear : ∀ {l : List Nat} (r : Nat), Tr l → ∀ x ∈ l, (restL l r).testBit (lo x) = false
  | [], r, _, x, hx => by cases hx
  | o :: l, r, ⟨h1, h2⟩, x, hx => by
    obtain ⟨h3, h4⟩ := List.pairwise_cons.mp h2
    show (restL l (rest1 r o)).testBit (lo x) = false
    rcases List.mem_cons.mp hx with e | hx
    · subst e
      rw [restL_keep l _ h3]
      exact rest1_clear (h1 x (List.mem_cons_self ..))
    · exact restL_clear _ ⟨fun y hy => h1 y (List.mem_cons_of_mem _ hy), h4⟩ x hx
theorem Tr.ech : ∀ {l : List Nat}, Tr l → Ech (l.map fun x => (lo x, x))
  | [], _ => trivial
  | x :: l, ⟨h1, h2⟩ => by
    obtain ⟨h3, h4⟩ := List.pairwise_cons.mp h2
    refine ⟨lo_set (h1 x (List.mem_cons_self ..)), fun z hz => ?_, Tr.ech ⟨fun y hy => h1 y (List.mem_cons_of_mem _ hy), h4⟩⟩
    obtain ⟨y, hy, rfl⟩ := List.mem_map.mp hz
    exact h3 y hy
/-- a sum that is clear at all places of a triangular family is zero -/
theorem Tr.clear_zero : ∀ {l : List Nat} {v : Nat}, Tr l → Sp l v → (∀ x ∈ l, v.testBit (lo x) = false) → v = 0
  | [], v, _, h, _ => h
  | o :: l, v, ⟨h1, h2⟩, h, k => by
    obtain ⟨h3, h4⟩ := List.pairwise_cons.mp h2
    rcases h with h | h
    · exact Tr.clear_zero ⟨fun y hy => h1 y (List.mem_cons_of_mem _ hy), h4⟩ h fun x hx => k x (List.mem_cons_of_mem _ hx)
    · exfalso
      have e1 := Sp.bit h3 h
      rw [Nat.testBit_xor, k o (List.mem_cons_self ..), lo_set (h1 o (List.mem_cons_self ..))] at e1
      cases e1
theorem restL_zero {l : List Nat} {r : Nat} (h : Tr l) : restL l r = 0 ↔ Sp l r := by
  have h1 := restL_sp l r
  constructor
  · intro e
    rw [e, Nat.xor_zero] at h1
    exact h1
  · intro k
    have h2 := h1.xor k
    rw [Nat.xor_comm, ← x1, Nat.xor_self, Nat.zero_xor] at h2
    exact h.clear_zero h2 (restL_clear r h)
/-- one more row -/
def addRow (l : List Nat) (m : Nat) : List Nat := if restL l m ≠ 0 then (l.map fun o => if o.testBit (lo (restL l m)) then o ^^^ restL l m else o) ++ [restL l m] else l
theorem lo_mod {o r : Nat} (ho : o ≠ 0) (hr : r ≠ 0) (h : r.testBit (lo o) = false) : lo (if o.testBit (lo r) then o ^^^ r else o) = lo o ∧ (if o.testBit (lo r) then o ^^^ r else o) ≠ 0 ∧ (if o.testBit (lo r) then o ^^^ r else o).testBit (lo r) = false := by
  by_cases k : o.testBit (lo r) = true
  · rw [if_pos k]
    have l1 : lo o < lo r := Nat.lt_of_le_of_ne (lo_le k) fun e => by
      rw [e, lo_set hr] at h
      cases h
    have b1 : (o ^^^ r).testBit (lo o) = true := by rw [Nat.testBit_xor, lo_set ho, h]; rfl
    refine ⟨lo_eq b1 fun j hj => ?_, ne_zero_of b1, by rw [Nat.testBit_xor, k, lo_set hr]; rfl⟩
    rw [Nat.testBit_xor, lo_below ho hj, lo_below hr (Nat.lt_trans hj l1)]
    rfl
  · rw [if_neg k]
    exact ⟨rfl, ho, by simpa using k⟩
theorem addRow_rd {l : List Nat} {m : Nat} (h : Rd l) : Rd (addRow l m) := by
  unfold addRow
  split
  · rename_i hr
    generalize hR : restL l m = r at hr ⊢
    have hc : ∀ x ∈ l, r.testBit (lo x) = false := fun x hx => by rw [← hR]; exact restL_clear m h.tr x hx
    refine ⟨fun x hx => ?_, ?_⟩
    · rcases List.mem_append.mp hx with hx | hx
      · obtain ⟨o, ho, rfl⟩ := List.mem_map.mp hx
        exact (lo_mod (h.1 o ho) hr (hc o ho)).2.1
      · rw [List.mem_singleton.mp hx]
        exact hr
    · rw [List.pairwise_append]
      refine ⟨?_, List.pairwise_singleton _ _, fun a ha b hb => ?_⟩
      · rw [List.pairwise_map]
        refine List.Pairwise.imp_of_mem (fun {a b} ha hb hab => ?_) h.2
        rw [(lo_mod (h.1 a ha) hr (hc a ha)).1, (lo_mod (h.1 b hb) hr (hc b hb)).1]
        have bit : ∀ (x : Nat) (i : Nat), r.testBit i = false → (if x.testBit (lo r) then x ^^^ r else x).testBit i = x.testBit i := fun x i hi => by
          split
          · rw [Nat.testBit_xor, hi, Bool.xor_false]
          · rfl
        rw [bit b _ (hc a ha), bit a _ (hc b hb)]
        exact hab
      · obtain ⟨o, ho, rfl⟩ := List.mem_map.mp ha
        rw [List.mem_singleton.mp hb]
        obtain ⟨q1, q2, q3⟩ := lo_mod (h.1 o ho) hr (hc o ho)
        rw [q1]
        exact ⟨hc o ho, q3⟩
  · exact h
theorem addRow_eqv {l : List Nat} {m : Nat} : Eqv (addRow l m) (l ++ [m]) := by
  have h1 := restL_sp l m
  unfold addRow
  split
  · rename_i hr
    generalize hR : restL l m = r at hr h1 ⊢
    have mr : Sp (l ++ [m]) r := by
      have := (Sp.append_left (B := [m]) h1).xor (Sp.mem (gs := l ++ [m]) (g := m) (by simp))
      rw [x2, Nat.xor_self, Nat.zero_xor] at this
      exact this
    have hlast : ∀ (f : Nat → Nat), r ∈ l.map f ++ [r] := fun f => by simp
    refine Eqv.of (fun g hg => ?_) fun g hg => ?_
    · rcases List.mem_append.mp hg with hg | hg
      · obtain ⟨o, ho, rfl⟩ := List.mem_map.mp hg
        have ho' : Sp (l ++ [m]) o := Sp.append_left (Sp.mem ho)
        split
        · exact ho'.xor mr
        · exact ho'
      · rw [List.mem_singleton.mp hg]
        exact mr
    · have ol : ∀ o ∈ l, Sp ((l.map fun o => if o.testBit (lo r) then o ^^^ r else o) ++ [r]) o := fun o ho => by
        have k1 : Sp ((l.map fun o => if o.testBit (lo r) then o ^^^ r else o) ++ [r]) (if o.testBit (lo r) then o ^^^ r else o) := Sp.mem (List.mem_append_left _ (List.mem_map_of_mem (f := fun o => if o.testBit (lo r) then o ^^^ r else o) ho))
        split at k1
        · have := k1.xor (Sp.mem (hlast _))
          rw [xl] at this
          exact this
        · exact k1
      rcases List.mem_append.mp hg with hg | hg
      · exact ol g hg
      · rw [List.mem_singleton.mp hg]
        have := (Sp.sub ol h1).xor (Sp.mem (hlast _))
        rw [xl] at this
        exact this
  · rename_i hr
    have hr : restL l m = 0 := by
      by_cases e : restL l m = 0
      · exact e
      · exact absurd e hr
    rw [hr, Nat.xor_zero] at h1
    refine Eqv.of (fun g hg => Sp.append_left (Sp.mem hg)) fun g hg => ?_
    rcases List.mem_append.mp hg with hg | hg
    · exact Sp.mem hg
    · rw [List.mem_singleton.mp hg]
      exact h1
theorem Eqv.append {A B : List Nat} (h : Eqv A B) (C : List Nat) : Eqv (A ++ C) (B ++ C) := Eqv.of (fun g hg => by
    rcases List.mem_append.mp hg with hg | hg
    · exact Sp.append_left ((h g).mp (Sp.mem hg))
    · exact Sp.append_right (Sp.mem hg)) fun g hg => by
    rcases List.mem_append.mp hg with hg | hg
    · exact Sp.append_left ((h g).mpr (Sp.mem hg))
    · exact Sp.append_right (Sp.mem hg)
theorem fold_rd (f : List Nat → Nat → List Nat) (P : List Nat → Prop) (hP : ∀ l m, P l → P (f l m)) (hE : ∀ l m, P l → Eqv (f l m) (l ++ [m])) : ∀ (ms l : List Nat), P l → P (ms.foldl f l) ∧ Eqv (ms.foldl f l) (l ++ ms)
  | [], l, h => ⟨h, by rw [List.append_nil]; exact Eqv.refl l⟩
  | m :: ms, l, h => by
    obtain ⟨h1, h2⟩ := fold_rd f P hP hE ms (f l m) (hP l m h)
    refine ⟨h1, h2.trans ?_⟩
    have := (hE l m h).append ms
    rw [List.append_assoc] at this
    exact this
/-- the kept rows -/
def kept (ms : List Nat) : List Nat := ms.foldl addRow []
theorem kept_spec (ms : List Nat) : Rd (kept ms) ∧ Eqv (kept ms) ms := by
  have := fold_rd addRow Rd (fun _ _ h => addRow_rd h) (fun _ _ _ => addRow_eqv) ms [] ⟨fun x hx => (by cases hx), .nil⟩
  exact this
/-! ### the reduced family is one -/
theorem Rd.perm {l m : List Nat} (p : l.Perm m) (h : Rd l) : Rd m := ⟨fun x hx => h.1 x (p.mem_iff.mpr hx), (p.pairwise_iff (fun {a b} hab => ⟨hab.2, hab.1⟩)).mp h.2⟩
/-- ascending -/
def As (l : List Nat) : Prop := l.Pairwise fun x y => lo x < lo y
theorem Rd.low_in : ∀ {l : List Nat} {v : Nat}, Rd l → As l → Sp l v → v ≠ 0 → ∃ x ∈ l, lo x = lo v
  | [], v, _, _, h, h0 => absurd h h0
  | o :: l, v, ⟨h1, h2⟩, a, h, h0 => by
    obtain ⟨h3, h4⟩ := List.pairwise_cons.mp h2
    obtain ⟨a1, a2⟩ := List.pairwise_cons.mp a
    have ho := h1 o (List.mem_cons_self ..)
    rcases h with h | h
    · obtain ⟨x, hx, e⟩ := Rd.low_in ⟨fun y hy => h1 y (List.mem_cons_of_mem _ hy), h4⟩ a2 h h0
      exact ⟨x, List.mem_cons_of_mem _ hx, e⟩
    · refine ⟨o, List.mem_cons_self .., (lo_eq ?_ fun j hj => ?_).symm⟩
      · have := Sp.bit (fun g hg => (h3 g hg).1) h
        rw [Nat.testBit_xor, lo_set ho] at this
        simpa using this
      · have := Sp.bit (i := j) (fun g hg => lo_below (h1 g (List.mem_cons_of_mem _ hg)) (Nat.lt_trans hj (a1 g hg))) h
        rw [Nat.testBit_xor, lo_below ho hj] at this
        simpa using this
theorem Rd.tail {x : Nat} {l : List Nat} (h : Rd (x :: l)) : Rd l := ⟨fun y hy => h.1 y (List.mem_cons_of_mem _ hy), (List.pairwise_cons.mp h.2).2⟩
theorem Rd.tail_sp {x : Nat} {l : List Nat} (h : Rd (x :: l)) (v : Nat) : Sp l v ↔ Sp (x :: l) v ∧ v.testBit (lo x) = false := by
  have h3 := (List.pairwise_cons.mp h.2).1
  constructor
  · exact fun k => ⟨.inl k, Sp.bit (fun g hg => (h3 g hg).1) k⟩
  · rintro ⟨k | k, hb⟩
    · exact k
    · have := Sp.bit (fun g hg => (h3 g hg).1) k
      rw [Nat.testBit_xor, hb, lo_set (h.1 x (List.mem_cons_self ..))] at this
      cases this
theorem rd_unique : ∀ {l m : List Nat}, Rd l → As l → Rd m → As m → Eqv l m → l = m
  | [], [], _, _, _, _, _ => rfl
  | [], y :: m, _, _, hm, _, e => absurd ((e y).mpr (Sp.mem (List.mem_cons_self ..))) (hm.1 y (List.mem_cons_self ..))
  | x :: l, [], hl, _, _, _, e => absurd ((e x).mp (Sp.mem (List.mem_cons_self ..))) (hl.1 x (List.mem_cons_self ..))
  | x :: l, y :: m, hl, al, hm, am, e => by
    have hx := hl.1 x (List.mem_cons_self ..)
    have hy := hm.1 y (List.mem_cons_self ..)
    have sx : Sp (y :: m) x := (e x).mp (Sp.mem (List.mem_cons_self ..))
    have sy : Sp (x :: l) y := (e y).mpr (Sp.mem (List.mem_cons_self ..))
    have le : ∀ {z : Nat} {k : List Nat} {v : Nat}, As (z :: k) → (∃ q ∈ z :: k, lo q = lo v) → lo z ≤ lo v := fun {z k v} ha ⟨q, hq, e⟩ => by
      rw [← e]
      rcases List.mem_cons.mp hq with h | h
      · rw [h]
        exact Nat.le_refl _
      · exact Nat.le_of_lt ((List.pairwise_cons.mp ha).1 q h)
    have elo : lo x = lo y := Nat.le_antisymm (le al (hl.low_in al sy hy)) (le am (hm.low_in am sx hx))
    have exy : x = y := by
      have su : Sp (x :: l) (x ^^^ y) := (Sp.mem (List.mem_cons_self ..)).xor sy
      have sm : Sp (y :: m) (x ^^^ y) := (e _).mp su
      by_cases h0 : x ^^^ y = 0
      · have := congrArg (· ^^^ y) h0
        simp only [xl, Nat.zero_xor] at this
        exact this
      · exfalso
        obtain ⟨q, hq, eq⟩ := hl.low_in al su h0
        obtain ⟨r, hr, er⟩ := hm.low_in am sm h0
        have hb := lo_set h0
        rw [Nat.testBit_xor] at hb
        have bx : x.testBit (lo (x ^^^ y)) = true → q = x := fun h => by
          rcases List.mem_cons.mp hq with z | z
          · exact z
          · have := ((List.pairwise_cons.mp hl.2).1 q z).2
            rw [eq, h] at this
            cases this
        have by' : y.testBit (lo (x ^^^ y)) = true → r = y := fun h => by
          rcases List.mem_cons.mp hr with z | z
          · exact z
          · have := ((List.pairwise_cons.mp hm.2).1 r z).2
            rw [er, h] at this
            cases this
        have same : lo (x ^^^ y) = lo x → False := fun h => by
          rw [h, lo_set hx, elo, lo_set hy] at hb
          cases hb
        cases cx : x.testBit (lo (x ^^^ y)) with
        | true =>
          have := bx cx
          subst this
          exact same eq.symm
        | false =>
          cases cy : y.testBit (lo (x ^^^ y)) with
          | true =>
            have := by' cy
            subst this
            exact same (er.symm.trans elo.symm)
          | false =>
            rw [cx, cy] at hb
            cases hb
    subst exy
    refine congrArg (x :: ·) (rd_unique hl.tail (List.pairwise_cons.mp al).2 hm.tail (List.pairwise_cons.mp am).2 fun v => ?_)
    rw [hl.tail_sp, hm.tail_sp, e v]
end Gf
/-! ## Rank by the highest 1; sums with their indexes -/
namespace Gf
theorem log2_set {n : Nat} (h : n ≠ 0) : n.testBit n.log2 = true := by
  have h1 := Nat.log2_self_le h
  have h2 : n < 2 ^ (n.log2 + 1) := Nat.lt_log2_self
  rw [Nat.testBit_eq_decide_div_mod_eq]
  have : n / 2 ^ n.log2 = 1 := by
    rw [Nat.pow_succ] at h2
    have a : 1 ≤ n / 2 ^ n.log2 := (Nat.one_le_div_iff (Nat.two_pow_pos _)).mpr h1
    have b : n / 2 ^ n.log2 < 2 := Nat.div_lt_of_lt_mul (by omega)
    omega
  rw [this]
  rfl
theorem log2_above {n i : Nat} (h : n.log2 < i) : n.testBit i = false := Nat.testBit_lt_two_pow (Nat.lt_of_lt_of_le Nat.lt_log2_self (Nat.pow_le_pow_right (by decide) h))
theorem div_bit (n i : Nat) : n / 2 ^ i = 2 * (n / 2 ^ (i + 1)) + (n.testBit i).toNat := by
  rw [Nat.pow_succ, ← Nat.div_div_eq_div_mul, Nat.testBit_eq_decide_div_mod_eq]
  generalize n / 2 ^ i = a
  by_cases h : a % 2 = 1
  · simp [h]
    omega
  · simp [h]
    omega
theorem lt_bit {x y : Nat} (i : Nat) (hx : x.testBit i = false) (hy : y.testBit i = true) (h : ∀ j, i < j → x.testBit j = y.testBit j) : x < y := by
  have e : x / 2 ^ (i + 1) = y / 2 ^ (i + 1) := Nat.eq_of_testBit_eq fun j => by
    rw [Nat.testBit_div_two_pow, Nat.testBit_div_two_pow]
    exact h _ (by omega)
  have e1 := div_bit x i
  have e2 := div_bit y i
  rw [hx, e] at e1
  rw [hy] at e2
  have : x / 2 ^ i < y / 2 ^ i := by
    rw [e1, e2]
    simp
  exact Nat.lt_of_not_le fun q => absurd (Nat.div_le_div_right (c := 2 ^ i) q) (Nat.not_le.mpr this)
theorem getD_at {α : Type} {l : List α} {i : Nat} (d : α) (h : i < l.length) : l.getD i d = l[i] := by
  simp [List.getD, h]
theorem xor_lt {r o : Nat} (ho : o ≠ 0) : r ^^^ o < r ↔ r.testBit o.log2 = true := by
  cases h : r.testBit o.log2 with
  | true =>
    refine ⟨fun _ => rfl, fun _ => lt_bit o.log2 ?_ h fun j hj => ?_⟩
    · rw [Nat.testBit_xor, h, log2_set ho]
      rfl
    · rw [Nat.testBit_xor, log2_above hj, Bool.xor_false]
  | false =>
    refine ⟨fun k => ?_, fun k => by cases k⟩
    have : r < r ^^^ o := lt_bit o.log2 h (by rw [Nat.testBit_xor, h, log2_set ho]; rfl) fun j hj => by rw [Nat.testBit_xor, log2_above hj, Bool.xor_false]
    omega
/-- tops strictly descending -/
def Tp (l : List Nat) : Prop := (∀ x ∈ l, x ≠ 0) ∧ l.Pairwise fun x y => y.log2 < x.log2
def lr1 (r o : Nat) : Nat := if r ^^^ o < r then r ^^^ o else r
def lrRest (l : List Nat) (r : Nat) : Nat := l.foldl lr1 r
theorem lrRest_sp : ∀ (l : List Nat) (r : Nat), Sp l (r ^^^ lrRest l r)
  | [], r => Nat.xor_self r
  | o :: l, r => by
    have ih := lrRest_sp l (lr1 r o)
    show Sp l (r ^^^ lrRest l (lr1 r o)) ∨ Sp l ((r ^^^ lrRest l (lr1 r o)) ^^^ o)
    unfold lr1 at ih ⊢
    split at ih
    · rename_i h
      rw [if_pos h]
      rw [x2] at ih
      exact .inr ih
    · rename_i h
      rw [if_neg h]
      exact .inl ih
theorem lrRest_keep {i : Nat} : ∀ (l : List Nat) (r : Nat), (∀ x ∈ l, x.testBit i = false) → (lrRest l r).testBit i = r.testBit i
  | [], r, _ => rfl
  | o :: l, r, h => by
    show (lrRest l (lr1 r o)).testBit i = _
    rw [lrRest_keep l _ fun x hx => h x (List.mem_cons_of_mem _ hx)]
    unfold lr1
    split
    · rw [Nat.testBit_xor, h o (List.mem_cons_self ..), Bool.xor_false]
    · rfl
theorem lrRest_clear : ∀ {l : List Nat} (r : Nat), Tp l → ∀ x ∈ l, (lrRest l r).testBit x.log2 = false
  | [], r, _, x, hx => by cases hx
  | o :: l, r, ⟨h1, h2⟩, x, hx => by
    obtain ⟨h3, h4⟩ := List.pairwise_cons.mp h2
    have ho := h1 o (List.mem_cons_self ..)
    show (lrRest l (lr1 r o)).testBit x.log2 = false
    rcases List.mem_cons.mp hx with e | hx
    · subst e
      rw [lrRest_keep l _ fun y hy => log2_above (h3 y hy)]
      unfold lr1
      split
      · rename_i h
        rw [Nat.testBit_xor, (xor_lt ho).mp h, log2_set ho]
        rfl
      · rename_i h
        cases e : r.testBit x.log2 with
        | true => exact absurd ((xor_lt ho).mpr e) h
        | false => rfl
    · exact lrRest_clear _ ⟨fun y hy => h1 y (List.mem_cons_of_mem _ hy), h4⟩ x hx
theorem Tp.ech : ∀ {l : List Nat}, Tp l → Ech (l.map fun x => (x.log2, x))
  | [], _ => trivial
  | x :: l, ⟨h1, h2⟩ => by
    obtain ⟨h3, h4⟩ := List.pairwise_cons.mp h2
    refine ⟨log2_set (h1 x (List.mem_cons_self ..)), fun z hz => ?_, Tp.ech ⟨fun y hy => h1 y (List.mem_cons_of_mem _ hy), h4⟩⟩
    obtain ⟨y, hy, rfl⟩ := List.mem_map.mp hz
    exact log2_above (h3 y hy)
theorem log2_mono {a b : Nat} (h : a ≤ b) : a.log2 ≤ b.log2 := by
  by_cases ha : a = 0
  · subst ha
    exact Nat.zero_le _
  · exact (Nat.le_log2 (by omega)).mpr (Nat.le_trans (Nat.log2_self_le ha) h)
theorem lr_ok {l l' : List Nat} {m : Nat} (h : Tp l) (hr : lrRest l m ≠ 0) (p : l'.Perm (l ++ [lrRest l m])) (s : l'.Pairwise fun x y => y ≤ x) : Tp l' ∧ Eqv l' (l ++ [m]) := by
  have hc := lrRest_clear m h
  generalize hR : lrRest l m = r at hr p hc
  have hsp : Sp l (m ^^^ r) := by rw [← hR]; exact lrRest_sp l m
  constructor
  · refine ⟨fun x hx => ?_, ?_⟩
    · rcases List.mem_append.mp (p.mem_iff.mp hx) with k | k
      · exact h.1 x k
      · rw [List.mem_singleton.mp k]
        exact hr
    · have d : l'.Pairwise fun x y => x.log2 ≠ y.log2 := by
        refine (p.pairwise_iff (fun {a b} hab => Ne.symm hab)).mpr ?_
        rw [List.pairwise_append]
        refine ⟨h.2.imp fun q => Nat.ne_of_gt q, List.pairwise_singleton _ _, fun a ha b hb e => ?_⟩
        rw [List.mem_singleton.mp hb] at e
        have := hc a ha
        rw [e, log2_set hr] at this
        cases this
      exact (s.and d).imp fun ⟨q1, q2⟩ => Nat.lt_of_le_of_ne (log2_mono q1) (Ne.symm q2)
  · refine (Eqv.perm p).trans (Eqv.of (fun g hg => ?_) fun g hg => ?_)
    · rcases List.mem_append.mp hg with k | k
      · exact Sp.append_left (Sp.mem k)
      · rw [List.mem_singleton.mp k]
        have := (Sp.append_left (B := [m]) hsp).xor (Sp.mem (gs := l ++ [m]) (g := m) (by simp))
        rw [x2, Nat.xor_self, Nat.zero_xor] at this
        exact this
    · rcases List.mem_append.mp hg with k | k
      · exact Sp.append_left (Sp.mem k)
      · rw [List.mem_singleton.mp k]
        have := (Sp.append_left (B := [r]) hsp).xor (Sp.mem (gs := l ++ [r]) (g := r) (by simp))
        rw [xl] at this
        exact this
theorem lr_no {l : List Nat} {m : Nat} (hr : lrRest l m = 0) : Eqv l (l ++ [m]) := by
  have h := lrRest_sp l m
  rw [hr, Nat.xor_zero] at h
  refine Eqv.of (fun g hg => Sp.append_left (Sp.mem hg)) fun g hg => ?_
  rcases List.mem_append.mp hg with k | k
  · exact Sp.mem k
  · rw [List.mem_singleton.mp k]
    exact h
/-- the rank -/
def rk (ms : List Nat) : Nat := (kept ms).length
theorem rk_tp {l ms : List Nat} (h : Tp l) (e : Eqv l ms) : l.length = rk ms := by
  obtain ⟨k1, k2⟩ := kept_spec ms
  have := h.ech.eq k1.ech (by rw [map_snd, map_snd]; exact e.trans k2.symm)
  simpa [rk] using this
theorem rk_tr {l ms : List Nat} (h : Tr l) (e : Eqv l ms) : l.length = rk ms := by
  obtain ⟨k1, k2⟩ := kept_spec ms
  have := h.ech.eq k1.ech (by rw [map_snd, map_snd]; exact e.trans k2.symm)
  simpa [rk] using this
theorem rk_eqv {l m : List Nat} (e : Eqv l m) : rk l = rk m := by
  obtain ⟨k1, k2⟩ := kept_spec l
  exact rk_tr k1.tr (k2.trans e)
theorem rk_le {l A : List Nat} (h : ∀ x ∈ l, Sp A x) : rk l ≤ A.length := by
  obtain ⟨k1, k2⟩ := kept_spec l
  have := k1.ech.le (A := A) fun q hq => by
    obtain ⟨x, hx, rfl⟩ := List.mem_map.mp hq
    exact Sp.sub h ((k2 x).mp (Sp.mem hx))
  simpa [rk] using this
theorem rk_more {ms : List Nat} {m : Nat} (h : ¬ Sp ms m) : rk ms < rk (ms ++ [m]) := by
  obtain ⟨k1, k2⟩ := kept_spec ms
  have hr : restL (kept ms) m ≠ 0 := fun e => h ((k2 m).mp ((restL_zero k1.tr).mp e))
  have : kept (ms ++ [m]) = addRow (kept ms) m := by unfold kept; rw [List.foldl_append]; rfl
  unfold rk
  rw [this]
  unfold addRow
  rw [if_pos hr]
  simp
/-- rows and columns have one rank -/
theorem rk_cols {R C : List Nat} (hR : ∀ x ∈ R, x < 2 ^ C.length) (hC : ∀ k, k < C.length → C.getD k 0 = ofBits (fun i => (R.getD i 0).testBit k) R.length) : rk C = rk R := by
  have le1 : ∀ {R C : List Nat}, (∀ k, k < C.length → C.getD k 0 = ofBits (fun i => (R.getD i 0).testBit k) R.length) → rk C ≤ rk R := fun {R C} h => by
    obtain ⟨k1, k2⟩ := kept_spec R
    obtain ⟨D, hD, hk⟩ := cols_le (s := 0) (n := R.length) (kept R) (fun i => R.getD i 0) fun i hi => (k2 _).mpr (Sp.mem (by
      rw [getD_at _ hi]
      exact List.getElem_mem hi))
    have := rk_le (l := C) (A := D) fun x hx => by
      obtain ⟨k, hk', rfl⟩ := List.mem_iff_getElem.mp hx
      have e := h k hk'
      rw [getD_at _ hk'] at e
      rw [e]
      exact hk k
    rw [hD] at this
    exact this
  refine Nat.le_antisymm (le1 hC) (le1 fun i hi => Nat.eq_of_testBit_eq fun k => ?_)
  rw [ofBits_bit]
  by_cases hk : k < C.length
  · rw [hC k hk, ofBits_bit]
    simp [hi, hk]
  · have : R.getD i 0 < 2 ^ C.length := hR _ (by rw [getD_at _ hi]; exact List.getElem_mem hi)
    rw [Nat.testBit_lt_two_pow (Nat.lt_of_lt_of_le this (Nat.pow_le_pow_right (by decide) (by omega)))]
    simp [hk]
/-! ### sums with indexes -/
def selX (R : Nat → Nat) (w : Nat) : List Nat → Nat
  | [] => 0
  | k :: ks => (if w.testBit k then R k else 0) ^^^ selX R w ks
theorem selX_xor (R : Nat → Nat) (w v : Nat) : ∀ ks, selX R (w ^^^ v) ks = selX R w ks ^^^ selX R v ks
  | [] => (Nat.xor_self 0).symm
  | k :: ks => by
    rw [selX, selX, selX, selX_xor R w v ks, Nat.testBit_xor]
    have r : ∀ a b c d : Nat, (a ^^^ b) ^^^ (c ^^^ d) = (a ^^^ c) ^^^ (b ^^^ d) := fun a b c d => Nat.eq_of_testBit_eq fun i => by
      simp only [Nat.testBit_xor]; cases a.testBit i <;> cases b.testBit i <;> cases c.testBit i <;> cases d.testBit i <;> rfl
    rw [r]
    cases w.testBit k <;> cases v.testBit k <;> simp
theorem selX_zero (R : Nat → Nat) : ∀ ks, selX R 0 ks = 0
  | [] => rfl
  | k :: ks => by rw [selX, selX_zero R ks, Nat.zero_testBit]; simp
theorem selX_two (R : Nat → Nat) (k : Nat) : ∀ ks : List Nat, ks.Nodup → selX R (2 ^ k) ks = if k ∈ ks then R k else 0
  | [], _ => rfl
  | j :: ks, h => by
    obtain ⟨h1, h2⟩ := List.nodup_cons.mp h
    rw [selX, selX_two R k ks h2, Nat.testBit_two_pow]
    by_cases e : k = j
    · subst e
      simp [h1]
    · simp [e]
def sw1 (z : Nat × Nat) (q : Nat × Nat) : Nat × Nat := if z.1.testBit (lo q.1) then (z.1 ^^^ q.1, z.2 ^^^ q.2) else z
def sumWith (l : List (Nat × Nat)) (z : Nat × Nat) : Nat × Nat := l.foldl sw1 z
theorem sumWith_fst : ∀ (l : List (Nat × Nat)) (z : Nat × Nat), (sumWith l z).1 = restL (l.map (·.1)) z.1
  | [], _ => rfl
  | q :: l, z => by
    show (sumWith l (sw1 z q)).1 = restL (l.map (·.1)) (rest1 z.1 q.1)
    rw [sumWith_fst l]
    unfold sw1 rest1
    split <;> rfl
/-- each row is the sum that its indexes tell -/
def Tells (R : Nat → Nat) (ks : List Nat) (x : Nat) (z : Nat × Nat) : Prop := z.1 = x ^^^ selX R z.2 ks
theorem sumWith_tells {R : Nat → Nat} {ks : List Nat} {x : Nat} : ∀ (l : List (Nat × Nat)) (z : Nat × Nat), (∀ q ∈ l, q.1 = selX R q.2 ks) → Tells R ks x z → Tells R ks x (sumWith l z)
  | [], _, _, h => h
  | q :: l, z, hq, h => by
    refine sumWith_tells l (sw1 z q) (fun y hy => hq y (List.mem_cons_of_mem _ hy)) ?_
    unfold sw1
    split
    · show z.1 ^^^ q.1 = x ^^^ selX R (z.2 ^^^ q.2) ks
      rw [selX_xor, ← x1, ← (show z.1 = x ^^^ selX R z.2 ks from h), ← hq q (List.mem_cons_self ..)]
    · exact h
end Gf
/-! ## Bits of ints -/
namespace Gf
open PySem PyProof.Rows
theorem xor_half (a b : Nat) : (a ^^^ b) / 2 = (a / 2) ^^^ (b / 2) := Nat.eq_of_testBit_eq fun i => by
  simp only [Nat.testBit_xor, ← Nat.testBit_succ]
theorem and_half (a b : Nat) : (a &&& b) / 2 = (a / 2) &&& (b / 2) := Nat.eq_of_testBit_eq fun i => by
  simp only [Nat.testBit_and, ← Nat.testBit_succ]
theorem mod_two_bit (a : Nat) : a % 2 = (a.testBit 0).toNat := by
  rw [Nat.testBit_zero]
  by_cases h : a % 2 = 1
  · simp [h]
  · simp [h]
    omega
theorem xor_and : ∀ (n a b : Nat), a ≤ n → (a ^^^ b) + 2 * (a &&& b) = a + b
  | 0, a, b, h => by
    have : a = 0 := by omega
    subst this
    simp
  | n + 1, a, b, h => by
    by_cases h0 : a = 0
    · subst h0
      simp
    · have ih := xor_and n (a / 2) (b / 2) (by omega)
      rw [← xor_half, ← and_half] at ih
      have m1 := mod_two_bit (a ^^^ b)
      have m2 := mod_two_bit (a &&& b)
      have m3 := mod_two_bit a
      have m4 := mod_two_bit b
      rw [Nat.testBit_xor] at m1
      rw [Nat.testBit_and] at m2
      cases h1 : a.testBit 0 <;> cases h2 : b.testBit 0 <;> rw [h1] at m1 m2 m3 <;> rw [h2] at m1 m2 m4 <;> simp only [Bool.xor_self, Bool.xor_false, Bool.false_xor, Bool.true_xor, Bool.and_self, Bool.and_false, Bool.and_true, Bool.false_and, Bool.not_true, Bool.not_false, Bool.toNat_true, Bool.toNat_false] at m1 m2 m3 m4 <;> omega
theorem bxor (a b : Nat) : Builtin.bitXor (a : Int) (b : Int) = ((a ^^^ b : Nat) : Int) := by
  rw [bitXor_and, bitAnd_pp (by omega) (by omega), Int.toNat_natCast, Int.toNat_natCast]
  have := xor_and a a b (Nat.le_refl _)
  omega
theorem bor (a b : Nat) : Builtin.bitOr (a : Int) (b : Int) = ((a ||| b : Nat) : Int) := by
  have := L2.bitOr_nn (x := (a : Int)) (y := (b : Int)) (by omega) (by omega)
  simpa using this
theorem shr_nat (m k : Nat) : ((m : Int) / 2 ^ k) = ((m / 2 ^ k : Nat) : Int) := by push_cast; rfl
theorem shr_bit (m k : Nat) : Builtin.bitAnd ((m : Int) / 2 ^ k) 1 = (((m.testBit k).toNat : Nat) : Int) := by
  rw [bitAnd_m1, Nat.testBit_eq_decide_div_mod_eq, shr_nat]
  by_cases h : m / 2 ^ k % 2 = 1
  · have q : ((m / 2 ^ k : Nat) : Int) % 2 = 1 := by omega
    rw [q, decide_eq_true h]
    rfl
  · have q : ((m / 2 ^ k : Nat) : Int) % 2 = 0 := by omega
    rw [q, decide_eq_false h]
    rfl
theorem lo_form {n : Nat} (h : n ≠ 0) : n = 2 ^ lo n * (2 * (n / 2 ^ (lo n + 1)) + 1) := by
  have e1 := div_bit n (lo n)
  rw [lo_set h] at e1
  have e2 : n % 2 ^ lo n = 0 := Nat.eq_of_testBit_eq fun i => by
    rw [Nat.testBit_mod_two_pow, Nat.zero_testBit]
    by_cases hi : i < lo n
    · rw [lo_below h hi]
      simp
    · simp [hi]
  have e3 := Nat.div_add_mod n (2 ^ lo n)
  rw [e2, Nat.add_zero, e1] at e3
  simpa using e3.symm
theorem low_pow {n : Nat} (h : n ≠ 0) : Builtin.bitAnd (n : Int) (-(n : Int)) = ((2 ^ lo n : Nat) : Int) := by
  have e := PySem.W.kbt_low (lo n) ((n / 2 ^ (lo n + 1) : Nat) : Int)
  have e2 : ((n : Nat) : Int) = 2 ^ lo n * (2 * ((n / 2 ^ (lo n + 1) : Nat) : Int) + 1) := by
    have := congrArg (fun z : Nat => (z : Int)) (lo_form h)
    simpa using this
  rw [← e2] at e
  rw [e]
  push_cast
  rfl
theorem and_pow (r k : Nat) : (Builtin.bitAnd (r : Int) ((2 ^ k : Nat) : Int) = 0) ↔ r.testBit k = false := by
  have e : (((2 : Nat) ^ k : Nat) : Int) = (2 : Int) ^ k := by push_cast; rfl
  rw [e, PySem.W.kbt_bit, shr_nat, Nat.testBit_eq_decide_div_mod_eq]
  have hp : (0 : Int) < 2 ^ k := by
    rw [← e]
    exact Int.ofNat_lt.mpr (Nat.two_pow_pos k)
  by_cases h : r / 2 ^ k % 2 = 1
  · have : (((r / 2 ^ k : Nat) : Int) % 2) = 1 := by omega
    rw [this]
    simp [h]
    omega
  · have : (((r / 2 ^ k : Nat) : Int) % 2) = 0 := by omega
    rw [this]
    simp [h]
theorem or_step (m i : Nat) : (m % 2 ^ i) ||| ((m.testBit i).toNat * 2 ^ i) = m % 2 ^ (i + 1) := Nat.eq_of_testBit_eq fun j => by
  rw [Nat.testBit_or, Nat.testBit_mod_two_pow, Nat.testBit_mod_two_pow]
  by_cases e : j = i
  · subst e
    cases h : m.testBit j <;> simp [Nat.testBit_two_pow_self]
  · have e2 : ((m.testBit i).toNat * 2 ^ i).testBit j = false := by
      cases m.testBit i
      · simp
      · simp [Nat.testBit_two_pow]
        omega
    rw [e2]
    by_cases h : j < i
    · have : j < i + 1 := by omega
      simp [h, this]
    · have : ¬ j < i + 1 := by omega
      simp [h, this]
end Gf
/-! ## The program's bits: what its defs tell -/
namespace Bt
open PySem PySem.Spec PyProof.Rows L2 DS Gf
theorem _root_.DS.Sat.eq {α : Type} {x : Out α} {b : α} (h : Sat x fun a => a = b) : x = .ok b := by
  obtain ⟨a, e, rfl⟩ := h
  exact e
theorem _root_.DS.getI {α : Type} {n i : Nat} {f : Nat → α} {x : α} (h : ((List.range n).map f)[i]? = some x) : i < n ∧ x = f i := by
  rw [List.getElem?_map] at h
  by_cases hi : i < n
  · rw [List.getElem?_range hi] at h
    exact ⟨hi, (Option.some.inj h).symm⟩
  · rw [List.getElem?_eq_none (by simpa using hi)] at h
    cases h
/-- bits of a row -/
def bitsD (m s : Nat) : List D := (List.range s).map fun k => D.int (((m.testBit k).toNat : Nat) : Int)
theorem low_ok {C : Cxt} (n : Int) : DS.run C ⟨1, 1, (.cons (.ret (.bin .BitAnd (.slot 0) (.un .USub (.slot 0)))) .nil)⟩ [.int n] = .ok (.v (.int (Builtin.bitAnd n (-n)))) := rfl
theorem shl_ok {i j : Nat} (hj : j ≤ 1000000) (hi : i < 2 ^ 64) : binD .LShift (.int (i : Int)) (.int (j : Int)) = .ok (.v (.int ((i * 2 ^ j : Nat) : Int))) := by
  have hc : CPow (i : Int) (j : Int) := ⟨by omega, by omega, by simpa using hi⟩
  have e : (i : Int) * 2 ^ (j : Int).toNat = ((i * 2 ^ j : Nat) : Int) := by
    rw [Int.toNat_natCast]
    push_cast
    rfl
  show (if CPow (i : Int) (j : Int) then Out.ok (Ar.v (.int ((i : Int) * 2 ^ (j : Int).toNat))) else Out.bad) = _
  rw [if_pos hc, e]
theorem shr_ok {i j : Nat} : binD .RShift (.int (i : Int)) (.int (j : Int)) = .ok (.v (.int ((i / 2 ^ j : Nat) : Int))) := by
  have e : (i : Int) / 2 ^ (j : Int).toNat = ((i / 2 ^ j : Nat) : Int) := by
    rw [Int.toNat_natCast]
    exact shr_nat i j
  show (if 0 ≤ (j : Int) then Out.ok (Ar.v (.int ((i : Int) / 2 ^ (j : Int).toNat))) else Out.bad) = _
  rw [if_pos (by omega), e]
theorem xor_ok {i j : Nat} : binD .BitXor (.int (i : Int)) (.int (j : Int)) = .ok (.v (.int ((i ^^^ j : Nat) : Int))) := by
  rw [← bxor]
  rfl
theorem or_ok {i j : Nat} : binD .BitOr (.int (i : Int)) (.int (j : Int)) = .ok (.v (.int ((i ||| j : Nat) : Int))) := by
  rw [← bor]
  rfl
theorem bit_ok {m k : Nat} : binD .BitAnd (.int ((m / 2 ^ k : Nat) : Int)) (.int 1) = .ok (.v (.int (((m.testBit k).toNat : Nat) : Int))) := by
  rw [← shr_bit, shr_nat]
  rfl
theorem add_ok {i j : Nat} : binD .Add (.int (i : Int)) (.int (j : Int)) = .ok (.v (.int ((i + j : Nat) : Int))) := by
  push_cast
  rfl
def bMask : SRs := (.cons (.setS 1 (.int 0)) (.cons (.for_ (.tp [2, 3]) .enum (.cons (.slot 0) .nil) (.cons (.setS 1 (.bin .BitOr (.slot 1) (.bin .LShift (.slot 3) (.slot 2)))) .nil)) (.cons (.ret (.slot 1)) .nil)))
theorem mask_ok {C : Cxt} {t : D} {m s : Nat} (ht : seqOf t = some (bitsD m s)) (hm : m < 2 ^ s) (hs : s ≤ 1000000) : DS.run C ⟨4, 1, bMask⟩ [t] = .ok (.v (.int (m : Int))) := Sat.eq <| by
  refine run_sat rfl ?_
  refine exs_next (σ1 := [.val t, .val (.int 0), .un, .un]) rfl ?_
  refine exs_cons (for_sat (σ1 := [.val t, .val (.int 0), .un, .un]) (rs := [.v t]) (xs := enumD 0 (bitsD m s)) rfl (by simp [itD, seq1D, Ar.view, ht]) rfl (fun i σ => ∃ a b, σ = [.val t, .val (.int ((m % 2 ^ i : Nat) : Int)), a, b]) ⟨.un, .un, by simp [Nat.mod_one]⟩ ?_ ?_)
  · rintro i x σ hx ⟨a, b, rfl⟩
    obtain ⟨e1, e2⟩ := enumD_eq (bitsD m s) 0
    rw [e2 i] at hx
    cases hb : (bitsD m s)[i]? with
    | none => rw [hb] at hx; cases hx
    | some d =>
      rw [hb] at hx
      obtain ⟨hi, rfl⟩ := getI hb
      have hx : D.pr (.int ((0 + i : Nat) : Int)) (.int (((m.testBit i).toNat : Nat) : Int)) = x := Option.some.inj hx
      subst hx
      rw [Nat.zero_add]
      refine ⟨_, rfl, exs_next (x_setS (vv_bin (vv_slot (i := 1) rfl).w (vv_bin (vv_slot (i := 3) rfl).w (vv_slot (i := 2) rfl).w (shl_ok (i := (m.testBit i).toNat) (j := i) (by omega) (by cases m.testBit i <;> decide))).w or_ok)) (exs_nil ⟨.val (.int (i : Int)), .val (.int (((m.testBit i).toNat : Nat) : Int)), ?_⟩)⟩
      rw [or_step]
      rfl
  · rintro σ ⟨a, b, rfl⟩
    refine exs_rt rfl ⟨rfl, ?_⟩
    have e1 := (enumD_eq (bitsD m s) 0).1
    rw [e1]
    simp [bitsD, Nat.mod_eq_of_lt hm]
/-- a table: rows as sequences of bits -/
def RowD (s : Nat) (m : Nat) (t : D) : Prop := (t = .tup (bitsD m s) ∨ t = .lst (bitsD m s)) ∧ m < 2 ^ s
theorem RowD.seq {m s : Nat} {t : D} (h : RowD s m t) : seqOf t = some (bitsD m s) := by
  rcases h.1 with rfl | rfl <;> rfl
theorem range1_ok {n : Nat} (h : n ≤ 1000000) : itD .range1 [.int (n : Int)] = some ((List.range n).map fun k : Nat => D.int (k : Int)) := by
  simp only [itD, range1D]
  rw [if_pos (by omega), rangeD_eq]
  refine congrArg some (List.map_congr_left fun k _ => ?_)
  congr 1
  omega
def eBits : IR := .comp (.nm 2) [2] .range1 (.cons (.slot 1) .nil) (.bl true) (.bin .BitAnd (.bin .RShift (.slot 0) (.slot 2)) (.int 1))
theorem size_ok {n : Nat} (h : n ≤ 1000000) : n ≤ sizeLine := Nat.le_trans h (by decide)
theorem bits_comp {C : Cxt} {m s : Nat} (hs : s ≤ 1000000) : ev C eBits [.val (.int (m : Int)), .val (.int (s : Int)), .un] = .ok (.fr (bitsD m s), [.val (.int (m : Int)), .val (.int (s : Int)), .un]) := by
  have he := comp_eq (C := C) (t := .nm 2) (own := [2]) (k := .range1) (es := .cons (.slot 1) .nil) (ifs := .bl true) (e := .bin .BitAnd (.bin .RShift (.slot 0) (.slot 2)) (.int 1)) (σ := [.val (.int (m : Int)), .val (.int (s : Int)), .un]) (rs := [.v (.int (s : Int))]) (xs := (List.range s).map fun k : Nat => D.int (k : Int))
    (g := fun x => match x with | .int k => some (.int (((m.testBit k.toNat).toNat : Nat) : Int)) | _ => none) rfl (range1_ok hs) rfl rfl (fun x hx => by
      obtain ⟨k, _, rfl⟩ := List.mem_map.mp hx
      have hv : Vv C (.bin .BitAnd (.bin .RShift (.slot 0) (.slot 2)) (.int 1)) [.val (.int (m : Int)), .val (.int (s : Int)), .val (.int (k : Int))] (.int (((m.testBit k).toNat : Nat) : Int)) := vv_bin (vv_bin (vv_slot (i := 0) rfl).w (vv_slot (i := 2) rfl).w shr_ok).w vv_int.w bit_ok
      exact turn_some (τ1 := [.val (.int (m : Int)), .val (.int (s : Int)), .val (.int (k : Int))]) rfl tt_true hv) (by
      rw [map_int (h := fun k => D.int (((m.testBit k).toNat : Nat) : Int)) (fun k _ => by simp)]
      simp
      exact size_ok hs)
  rw [map_int (h := fun k => D.int (((m.testBit k).toNat : Nat) : Int)) (fun k _ => by simp)] at he
  exact he
end Bt
namespace Bt
open PySem PySem.Spec PyProof.Rows L2 DS Gf
def iD (l : List Nat) : List D := l.map fun k : Nat => D.int (k : Int)
theorem iD_get {l : List Nat} {i : Nat} {x : D} (h : (iD l)[i]? = some x) : ∃ m, l[i]? = some m ∧ x = .int (m : Int) := by
  unfold iD at h
  rw [List.getElem?_map] at h
  cases e : l[i]? with
  | none => rw [e] at h; cases h
  | some m => rw [e] at h; exact ⟨m, rfl, (Option.some.inj h).symm⟩
theorem take_snoc {α : Type} {l : List α} {i : Nat} {m : α} (h : l[i]? = some m) : l.take (i + 1) = l.take i ++ [m] := by
  rw [List.take_add_one, h]
  rfl
def Pl (s : Sl) : Prop := s = .un ∨ ∃ d, s = .val d
theorem bitsOf_ok {C : Cxt} {m s : Nat} (hs : s ≤ 1000000) : DS.run C ⟨3, 2, (.cons (.ret (.blt .tuple (.cons eBits .nil))) .nil)⟩ [.int (m : Int), .int (s : Int)] = .ok (.v (.tup (bitsD m s))) :=
  run_ret rfl rfl (blt_ev (wl_cons (sq_of (bits_comp hs) rfl).w wl_nil) rfl) rfl
theorem lawBits_ok {C : Cxt} {m s : Nat} (hs : s ≤ 1000000) : DS.run C ⟨3, 2, (.cons (.ret eBits) .nil)⟩ [.int (m : Int), .int (s : Int)] = .ok (.fr (bitsD m s)) :=
  run_ret rfl rfl (bits_comp hs) rfl
theorem cmp_ne {x y : D} : cmpD .NotEq x y = (eqD x y).map (fun k => !k) := rfl
theorem and_ok {i j : Int} : binD .BitAnd (.int i) (.int j) = .ok (.v (.int (Builtin.bitAnd i j))) := rfl
theorem sortKey_ev {C : Cxt} {f : Nat} {e : IR} {σ σ1 : En} {ys : List D} {ks : List Int} (h : sq (ev C e σ) = .ok (.v (.lst ys), σ1)) (hk : keysD (C.fn f) ys = .ok ks) : ev C (.sortKey f e) σ = .ok (.fr ((ksort (ks.zip ys)).map (·.2)), σ1) := by
  simp only [ev, h, Out.bnd, Ar.view, hk]
/-- the test by the lowest 1 -/
theorem low_test {r o : Nat} (ho : o ≠ 0) : cmpD .NotEq (.int (Builtin.bitAnd (r : Int) (Builtin.bitAnd (o : Int) (-(o : Int))))) (.int 0) = some (r.testBit (lo o)) := by
  rw [cmp_ne, eqD_int, low_pow ho]
  have := and_pow r (lo o)
  cases h : r.testBit (lo o) with
  | true =>
    have : ¬ Builtin.bitAnd (r : Int) ((2 ^ Gf.lo o : Nat) : Int) = 0 := fun e => by
      rw [this.mp e] at h
      cases h
    rw [decide_eq_false this]
    rfl
  | false =>
    rw [decide_eq_true (this.mpr h)]
    rfl
theorem ne_test {r : Nat} : cmpD .NotEq (.int (r : Int)) (.int 0) = some (decide (r ≠ 0)) := by
  rw [cmp_ne, eqD_int]
  by_cases h : r = 0
  · subst h
    rfl
  · have : ¬ (r : Int) = 0 := by omega
    simp [h]
/-- reduced_masks -/
def bRed (j : Nat) : SRs := (.cons (.set 1 (.lst .nil)) (.cons (.for_ (.nm 2) .seq (.cons (.slot 0) .nil) (.cons (.setS 3 (.slot 2)) (.cons (.for_ (.nm 4) .seq (.cons (.bor 1) .nil) (.cons (.ife (.cmpT .NotEq (.bin .BitAnd (.slot 3) (.call j (.cons (.slot 4) .nil))) (.int 0)) (.cons (.setS 3 (.bin .BitXor (.slot 3) (.slot 4))) .nil) .nil) .nil)) (.cons (.ife (.cmpT .NotEq (.slot 3) (.int 0)) (.cons (.setS 5 (.call j (.cons (.slot 3) .nil))) (.cons (.set 1 (.comp (.nm 4) [4] .seq (.cons (.bor 1) .nil) (.bl true) (.ife (.cmpT .NotEq (.bin .BitAnd (.slot 4) (.slot 5)) (.int 0)) (.bin .BitXor (.slot 4) (.slot 3)) (.slot 4)))) (.cons (.app 1 (.slot 3)) .nil))) .nil) .nil)))) (.cons (.ret (.blt .tuple (.cons (.sortKey j (.slot 1)) .nil))) .nil)))
def sortLow (l : List Nat) : List Nat := (ksort ((l.map fun x => ((2 ^ Gf.lo x : Nat) : Int)).zip l)).map (·.2)
theorem x_setF {C : Cxt} {i : Nat} {e : IR} {σ σ1 : En} {ds : List D} (h : ev C e σ = .ok (.fr ds, σ1)) : ex C (.set i e) σ = .ok (.nx, σ1.set i (.own ds)) := by
  simp only [ex, h, Out.bnd]
theorem vv_ife {C : Cxt} {t a b : IR} {σ : En} {k : Bool} {d : D} (h : Tt C t σ k) (h1 : k = true → Vv C a σ d) (h2 : k = false → Vv C b σ d) : Vv C (.ife t a b) σ d := by
  have e : ev C (.ife t a b) σ = if k = true then sq (ev C a σ) else sq (ev C b σ) := by
    unfold Tt at h
    simp only [ev, h, Out.bnd]
  unfold Vv at *
  rw [e]
  cases k with
  | true => rw [if_pos rfl, sq_sq, h1 rfl]
  | false => rw [if_neg (by simp), sq_sq, h2 rfl]
theorem addRow_len {l : List Nat} {m : Nat} : (addRow l m).length ≤ l.length + 1 := by
  unfold addRow
  split
  · simp
  · omega
theorem kept_len : ∀ (ms l : List Nat), (ms.foldl addRow l).length ≤ l.length + ms.length
  | [], l => Nat.le_refl _
  | m :: ms, l => by
    have h1 := kept_len ms (addRow l m)
    have h2 := addRow_len (l := l) (m := m)
    show (ms.foldl addRow (addRow l m)).length ≤ _
    rw [List.length_cons]
    omega
theorem keys_ok {m : List D → Out Ar} (hj : ∀ n : Int, m [.int n] = .ok (.v (.int (Builtin.bitAnd n (-n))))) : ∀ l : List Nat, (∀ x ∈ l, x ≠ 0) → keysD m (iD l) = .ok (l.map fun x => ((2 ^ Gf.lo x : Nat) : Int))
  | [], _ => rfl
  | x :: l, h => by
    have ih := keys_ok hj l fun y hy => h y (List.mem_cons_of_mem _ hy)
    show (m [.int (x : Int)]).bnd _ = _
    rw [hj, low_pow (h x (List.mem_cons_self ..))]
    simp only [Out.bnd]
    rw [show keysD m (List.map (fun k : Nat => D.int (k : Int)) l) = keysD m (iD l) from rfl, ih]
    rfl
theorem zip_iD : ∀ (ks : List Int) (l : List Nat), ks.zip (iD l) = (ks.zip l).map fun p => (p.1, D.int (p.2 : Int))
  | [], _ => rfl
  | _ :: _, [] => rfl
  | k :: ks, x :: l => congrArg (_ :: ·) (zip_iD ks l)
theorem kins_map {α β : Type} (f : α → β) (k : Int) (a : α) : ∀ l : List (Int × α), (kins k a l).map (fun p => (p.1, f p.2)) = kins k (f a) (l.map fun p => (p.1, f p.2))
  | [] => rfl
  | q :: r => by
    unfold kins
    rw [List.map_cons]
    dsimp only
    split
    · rfl
    · rw [List.map_cons, kins_map f k a r]
theorem ksort_map {α β : Type} (f : α → β) : ∀ l : List (Int × α), (ksort l).map (fun p => (p.1, f p.2)) = ksort (l.map fun p => (p.1, f p.2))
  | [] => rfl
  | q :: r => by
    show (kins q.1 q.2 (ksort r)).map _ = kins q.1 (f q.2) (ksort (r.map _))
    rw [kins_map, ksort_map f r]
theorem sort_iD {ks : List Int} {l : List Nat} : (ksort (ks.zip (iD l))).map (·.2) = iD ((ksort (ks.zip l)).map (·.2)) := by
  rw [zip_iD, ← ksort_map (fun x : Nat => D.int (x : Int)), List.map_map, iD, List.map_map]
  rfl
theorem x_retE' {C : Cxt} {e : IR} {σ σ1 : En} {r : Ar} (h : ev C e σ = .ok (r, σ1)) (hb : r.isB = false) : ex C (.ret e) σ = .ok (.rt r, σ1) := by
  simp only [ex, h, Out.bnd, hb]
  rfl
theorem red_ok {C : Cxt} {j : Nat} (hj : ∀ n : Int, C.fn j [.int n] = .ok (.v (.int (Builtin.bitAnd n (-n))))) {t : D} {ms : List Nat} (ht : seqOf t = some (iD ms)) (hl : ms.length ≤ 1000000) : DS.run C ⟨6, 1, bRed j⟩ [t] = .ok (.v (.tup (iD (sortLow (kept ms))))) := Sat.eq <| by
  have rdk : ∀ i, Rd (kept (ms.take i)) := fun i => (kept_spec _).1
  have szk : ∀ i, (kept (ms.take i)).length ≤ 1000000 := fun i => by
    have := kept_len (ms.take i) []
    unfold kept
    simp at this
    omega
  refine run_sat rfl ?_
  refine exs_next (σ1 := [.val t, .own [], .un, .un, .un, .un]) rfl ?_
  refine exs_cons (for_sat (σ1 := [.val t, .own [], .un, .un, .un, .un]) (rs := [.v t]) (xs := iD ms) rfl (by simp [itD, seq1D, Ar.view, ht]) rfl
    (fun i σ => ∃ a b c d, Pl c ∧ σ = [.val t, .own (iD (kept (ms.take i))), a, b, c, d]) ⟨.un, .un, .un, .un, .inl rfl, rfl⟩ ?_ ?_)
  · rintro i x σ hx ⟨a, b, c, d, pc, rfl⟩
    obtain ⟨m, hm, rfl⟩ := iD_get hx
    obtain ⟨K, hK⟩ : ∃ K, K = kept (ms.take i) := ⟨_, rfl⟩
    have rd := rdk i
    have sz := szk i
    have hK1 : kept (ms.take (i + 1)) = addRow K m := by
      rw [take_snoc hm, hK]
      unfold kept
      rw [List.foldl_append]
      rfl
    rw [hK1]
    rw [← hK] at rd sz ⊢
    refine ⟨[.val t, .own (iD K), .val (.int (m : Int)), b, c, d], rfl, ?_⟩
    refine exs_next (σ1 := [.val t, .own (iD K), .val (.int (m : Int)), .val (.int (m : Int)), c, d]) (x_setS (vv_slot (i := 2) rfl)) ?_
    refine exs_cons (for_br (j := 1) (xs := iD K) (σ1 := [.val t, .own (iD K), .val (.int (m : Int)), .val (.int (m : Int)), c, d]) rfl rfl
      (fun n σ => ∃ c', Pl c' ∧ σ = [.val t, .lock (iD K), .val (.int (m : Int)), .val (.int ((restL (K.take n) m : Nat) : Int)), c', d]) ⟨c, pc, rfl⟩ ?_ ?_)
    · rintro n y σ hy ⟨c', _, rfl⟩
      obtain ⟨o, ho, rfl⟩ := iD_get hy
      have o0 : o ≠ 0 := rd.1 o (List.mem_of_getElem? ho)
      have er : restL (K.take (n + 1)) m = rest1 (restL (K.take n) m) o := by
        rw [take_snoc ho]
        unfold restL
        rw [List.foldl_append]
        rfl
      rw [er]
      obtain ⟨r, hr⟩ : ∃ r, r = restL (K.take n) m := ⟨_, rfl⟩
      rw [← hr]
      refine ⟨[.val t, .lock (iD K), .val (.int (m : Int)), .val (.int (r : Int)), .val (.int (o : Int)), d], rfl, exs_cons (x_ife (k := r.testBit (lo o)) (tt_cmp (vv_bin (vv_slot (i := 3) rfl).w (vv_call (vl_cons (vv_slot (i := 4) rfl) vl_nil) (hj _)).w and_ok).w vv_int.w (low_test (r := r) o0)) (fun h => ?_) fun h => ?_)⟩
      · refine exs_next (x_setS (vv_bin (vv_slot (i := 3) rfl).w (vv_slot (i := 4) rfl).w xor_ok)) (exs_nil (exs_nil ⟨.val (.int (o : Int)), .inr ⟨_, rfl⟩, ?_⟩))
        unfold rest1
        rw [if_pos h]
        rfl
      · refine exs_nil (exs_nil ⟨.val (.int (o : Int)), .inr ⟨_, rfl⟩, ?_⟩)
        unfold rest1
        rw [if_neg (by rw [h]; simp)]
    · rintro σ ⟨c', pc', rfl⟩
      have e0 : (iD K).length = K.length := by simp [iD]
      rw [e0, List.take_length]
      obtain ⟨r, hr⟩ : ∃ r, r = restL K m := ⟨_, rfl⟩
      rw [← hr]
      show Sat (exs C _ [.val t, .own (iD K), .val (.int (m : Int)), .val (.int (r : Int)), c', d]) _
      refine exs_cons (x_ife (k := decide (r ≠ 0)) (tt_cmp (vv_slot (i := 3) rfl).w vv_int.w ne_test) (fun h => ?_) fun h => ?_)
      · have r0 : r ≠ 0 := of_decide_eq_true h
        refine exs_next (x_setS (vv_call (vl_cons (vv_slot (i := 3) rfl) vl_nil) (hj _))) ?_
        show Sat (exs C _ [.val t, .own (iD K), .val (.int (m : Int)), .val (.int (r : Int)), c', .val (.int (Builtin.bitAnd (r : Int) (-(r : Int))))]) _
        have hcomp := comp_br (C := C) (t := .nm 4) (own := [4]) (es := .cons (.bor 1) .nil) (ifs := .bl true) (e := .ife (.cmpT .NotEq (.bin .BitAnd (.slot 4) (.slot 5)) (.int 0)) (.bin .BitXor (.slot 4) (.slot 3)) (.slot 4)) (j := 1) (xs := iD K)
          (σ := [.val t, .own (iD K), .val (.int (m : Int)), .val (.int (r : Int)), c', .val (.int (Builtin.bitAnd (r : Int) (-(r : Int))))]) (σ1 := [.val t, .own (iD K), .val (.int (m : Int)), .val (.int (r : Int)), c', .val (.int (Builtin.bitAnd (r : Int) (-(r : Int))))])
          (g := fun x => match x with | .int o => some (.int ((if o.toNat.testBit (lo r) then o.toNat ^^^ r else o.toNat : Nat) : Int)) | _ => none) rfl rfl (by rcases pc' with rfl | ⟨w, rfl⟩ <;> rfl) (fun x hx => by
            obtain ⟨o, _, rfl⟩ := List.mem_map.mp hx
            refine turn_some (τ1 := [.val t, .lock (iD K), .val (.int (m : Int)), .val (.int (r : Int)), .val (.int (o : Int)), .val (.int (Builtin.bitAnd (r : Int) (-(r : Int))))]) rfl tt_true (vv_ife (k := o.testBit (lo r)) (tt_cmp (vv_bin (vv_slot (i := 4) rfl).w (vv_slot (i := 5) rfl).w and_ok).w vv_int.w (low_test (r := o) r0)) (fun h => ?_) fun h => ?_)
            · rw [Int.toNat_natCast, if_pos h]
              exact vv_bin (vv_slot (i := 4) rfl).w (vv_slot (i := 3) rfl).w xor_ok
            · rw [Int.toNat_natCast, if_neg (by rw [h]; simp)]
              exact vv_slot (i := 4) rfl) (by
            refine Nat.le_trans (List.length_filterMap_le ..) ?_
            rw [e0]
            exact size_ok sz)
        have eg : (iD K).filterMap (fun x => match x with | .int o => some (D.int ((if o.toNat.testBit (lo r) then o.toNat ^^^ r else o.toNat : Nat) : Int)) | _ => none) = iD (K.map fun o => if o.testBit (lo r) then o ^^^ r else o) := by
          unfold iD
          rw [map_int (h := fun o : Nat => D.int ((if o.testBit (lo r) then o ^^^ r else o : Nat) : Int)) (fun o _ => by simp), List.map_map]
          rfl
        rw [eg] at hcomp
        refine exs_next (x_setF hcomp) ?_
        have e2 : (unlockAt (backE (([.val t, .own (iD K), .val (.int (m : Int)), .val (.int (r : Int)), c', .val (.int (Builtin.bitAnd (r : Int) (-(r : Int))))] : En).set 1 (.lock (iD K))) (wipeE (([.val t, .own (iD K), .val (.int (m : Int)), .val (.int (r : Int)), c', .val (.int (Builtin.bitAnd (r : Int) (-(r : Int))))] : En).set 1 (.lock (iD K))) [4]) [4]) 1).set 1 (.own (iD (K.map fun o => if o.testBit (lo r) then o ^^^ r else o))) = [.val t, .own (iD (K.map fun o => if o.testBit (lo r) then o ^^^ r else o)), .val (.int (m : Int)), .val (.int (r : Int)), c', .val (.int (Builtin.bitAnd (r : Int) (-(r : Int))))] := rfl
        rw [e2]
        refine exs_next (x_app (ds := iD (K.map fun o => if o.testBit (lo r) then o ^^^ r else o)) rfl (vv_slot (i := 3) rfl) (by
          unfold iD
          rw [List.length_map, List.length_map]
          exact Nat.lt_of_le_of_lt sz (by decide))) (exs_nil (exs_nil ⟨.val (.int (m : Int)), .val (.int (r : Int)), c', .val (.int (Builtin.bitAnd (r : Int) (-(r : Int)))), pc', ?_⟩))
        have ea : addRow K m = (K.map fun o => if o.testBit (lo r) then o ^^^ r else o) ++ [r] := by
          unfold addRow
          rw [← hr, if_pos r0]
        rw [ea]
        unfold iD
        rw [List.map_append]
        rfl
      · have r0 : r = 0 := by
          have := of_decide_eq_false h
          omega
        refine exs_nil (exs_nil ⟨.val (.int (m : Int)), .val (.int (r : Int)), c', d, pc', ?_⟩)
        have ea : addRow K m = K := by
          unfold addRow
          rw [← hr, if_neg (by omega)]
        rw [ea]
  · rintro σ ⟨a, b, c, d, pc, rfl⟩
    have e0 : (iD ms).length = ms.length := by simp [iD]
    rw [e0, List.take_length]
    have hs : ev C (.sortKey j (.slot 1)) [.val t, .own (iD (kept ms)), a, b, c, d] = .ok (.fr (iD (sortLow (kept ms))), [.val t, .val (.lst (iD (kept ms))), a, b, c, d]) := by
      have e1 : sq (ev C (.slot 1) [.val t, .own (iD (kept ms)), a, b, c, d]) = .ok (.v (.lst (iD (kept ms))), [.val t, .val (.lst (iD (kept ms))), a, b, c, d]) := rfl
      have := sortKey_ev (f := j) e1 (keys_ok hj (kept ms) (kept_spec ms).1.1)
      rw [sort_iD] at this
      exact this
    have hb : ev C (.blt .tuple (.cons (.sortKey j (.slot 1)) .nil)) [.val t, .own (iD (kept ms)), a, b, c, d] = .ok (.v (.tup (iD (sortLow (kept ms)))), [.val t, .val (.lst (iD (kept ms))), a, b, c, d]) := by
      have h1 : evs C (.cons (.sortKey j (.slot 1)) .nil) [.val t, .own (iD (kept ms)), a, b, c, d] = .ok ([.v (.lst (iD (sortLow (kept ms))))], [.val t, .val (.lst (iD (kept ms))), a, b, c, d]) := by
        rw [evs, hs]
        rfl
      rw [ev, h1]
      rfl
    exact exs_rt (x_retE' hb rfl) ⟨rfl, rfl⟩
end Bt
namespace Bt
open PySem PySem.Spec PyProof.Rows L2 DS Gf
theorem kins_perm {α : Type} (k : Int) (a : α) : ∀ l : List (Int × α), (kins k a l).Perm ((k, a) :: l)
  | [] => .refl _
  | q :: r => by
    unfold kins
    split
    · exact .refl _
    · exact ((kins_perm k a r).cons q).trans (.swap _ _ _)
theorem ksort_perm {α : Type} : ∀ l : List (Int × α), (ksort l).Perm l
  | [] => .refl _
  | q :: r => (kins_perm q.1 q.2 (ksort r)).trans ((ksort_perm r).cons q)
theorem zip_self_map {f : Nat → Int} : ∀ l : List Nat, (l.map f).zip l = l.map fun x => (f x, x)
  | [] => rfl
  | x :: l => congrArg (_ :: ·) (zip_self_map l)
theorem sortLow_perm (l : List Nat) : (sortLow l).Perm l := by
  unfold sortLow
  rw [zip_self_map]
  have := (ksort_perm (l.map fun x => (((2 ^ Gf.lo x : Nat) : Int), x))).map (·.2)
  rw [List.map_map] at this
  have e : l.map ((fun p : Int × Nat => p.2) ∘ fun x => (((2 ^ Gf.lo x : Nat) : Int), x)) = l := List.map_id' l
  rw [e] at this
  exact this
theorem sortLow_as {l : List Nat} (h : Gf.Rd l) : Gf.As (sortLow l) := by
  have hp := sortLow_perm l
  have hrd := h.perm hp.symm
  have hs : (sortLow l).Pairwise fun x y => Gf.lo x ≤ Gf.lo y := by
    unfold sortLow
    rw [zip_self_map, List.pairwise_map]
    refine List.Pairwise.imp_of_mem (fun {a b} ha hb hab => ?_) (ksort_sorted _)
    obtain ⟨x, _, rfl⟩ := List.mem_map.mp ((ksort_perm _).mem_iff.mp ha)
    obtain ⟨y, _, rfl⟩ := List.mem_map.mp ((ksort_perm _).mem_iff.mp hb)
    exact (Nat.pow_le_pow_iff_right (by decide)).mp (Int.ofNat_le.mp hab)
  refine (hs.and (List.Pairwise.imp_of_mem (fun {a b} ha hb hab => ?_) hrd.2 : (sortLow l).Pairwise fun x y => Gf.lo x ≠ Gf.lo y)).imp fun ⟨a, b⟩ => Nat.lt_of_le_of_ne a b
  intro e
  have := hab.1
  rw [e, lo_set (hrd.1 b hb)] at this
  cases this
/-- the reduced rows of a table's rows -/
def redS (ms : List Nat) : List Nat := sortLow (kept ms)
theorem redS_rd (ms : List Nat) : Gf.Rd (redS ms) := (kept_spec ms).1.perm (sortLow_perm _).symm
theorem redS_as (ms : List Nat) : Gf.As (redS ms) := sortLow_as (kept_spec ms).1
theorem redS_eqv (ms : List Nat) : Eqv (redS ms) ms := (Eqv.perm (sortLow_perm _)).trans (kept_spec ms).2
theorem redS_len (ms : List Nat) : (redS ms).length = rk ms := (sortLow_perm _).length_eq
theorem redS_same {ms ns : List Nat} (h : Eqv ms ns) : redS ms = redS ns := rd_unique (redS_rd ms) (redS_as ms) (redS_rd ns) (redS_as ns) (((redS_eqv ms).trans h).trans (redS_eqv ns).symm)
theorem lt_of_bits {n s : Nat} (h : ∀ i, s ≤ i → n.testBit i = false) : n < 2 ^ s := Nat.lt_of_not_le fun k => by
  have h0 : n ≠ 0 := fun e => by
    subst e
    have := Nat.two_pow_pos s
    omega
  have : s ≤ n.log2 := (Nat.le_log2 h0).mpr k
  have e := h _ this
  rw [log2_set h0] at e
  cases e
theorem Sp_lt {gs : List Nat} {s v : Nat} (h : ∀ g ∈ gs, g < 2 ^ s) (k : Sp gs v) : v < 2 ^ s := lt_of_bits fun i hi => Sp.bit (fun g hg => Nat.testBit_lt_two_pow (Nat.lt_of_lt_of_le (h g hg) (Nat.pow_le_pow_right (by decide) hi))) k
theorem redS_lt {ms : List Nat} {s : Nat} (h : ∀ m ∈ ms, m < 2 ^ s) : ∀ m ∈ redS ms, m < 2 ^ s := fun m hm => Sp_lt h ((redS_eqv ms m).mp (Sp.mem hm))
/-! ### tables -/
inductive All2 {α β : Type} (R : α → β → Prop) : List α → List β → Prop
  | nil : All2 R [] []
  | cons {a : α} {b : β} {l : List α} {m : List β} (h : R a b) (r : All2 R l m) : All2 R (a :: l) (b :: m)
theorem All2.length {α β : Type} {R : α → β → Prop} {l : List α} {m : List β} (h : All2 R l m) : l.length = m.length := by
  induction h with
  | nil => rfl
  | cons _ _ ih => simp [ih]
theorem All2.get {α β : Type} {R : α → β → Prop} {l : List α} {m : List β} (h : All2 R l m) : ∀ {i : Nat} {b : β}, m[i]? = some b → ∃ a, l[i]? = some a ∧ R a b := by
  induction h with
  | nil => intro i b hb; simp at hb
  | cons h r ih =>
    intro i b hb
    cases i with
    | zero => simp at hb; subst hb; exact ⟨_, rfl, h⟩
    | succ i => exact ih (by simpa using hb)
theorem All2.fm {α : Type} {R : α → D → Prop} {l : List α} {m : List D} {g : D → Option D} {h : α → D} (k : All2 R l m) (hg : ∀ a b, R a b → g b = some (h a)) : m.filterMap g = l.map h := by
  induction k with
  | nil => rfl
  | cons q r ih => rw [List.filterMap_cons, hg _ _ q, List.map_cons, ih]
def TabD (s : Nat) (ms : List Nat) (t : D) : Prop := ∃ ts, (t = .tup ts ∨ t = .lst ts) ∧ All2 (RowD s) ms ts
theorem TabD.seq {s : Nat} {ms : List Nat} {t : D} (h : TabD s ms t) : ∃ ts, seqOf t = some ts ∧ All2 (RowD s) ms ts := by
  obtain ⟨ts, rfl | rfl, h⟩ := h
  · exact ⟨ts, rfl, h⟩
  · exact ⟨ts, rfl, h⟩
theorem set_self {σ : En} {v : Nat} {x : Sl} (h : σ[v]? = some x) : σ.set v x = σ := by
  refine List.ext_getElem? fun i => ?_
  by_cases e : v = i
  · subst e
    rw [List.getElem?_set_self (by exact (List.getElem?_eq_some_iff.mp h).1), h]
  · rw [List.getElem?_set_ne e]
/-- [f(x) for x in xs] -/
theorem comp_call {C : Cxt} {v i : Nat} {σ : En} {t : D} {e : IR} {α : Type} {ts : List D} {l : List α} {R : α → D → Prop} {h : α → D} (ht : seqOf t = some ts) (hi : σ[i]? = some (.val t)) (hv : σ[v]? = some .un) (ha : All2 R l ts) (hl : l.length ≤ 1000000)
    (hf : ∀ a x, R a x → Vv C e (σ.set v (.val x)) (h a)) : ev C (.comp (.nm v) [v] .seq (.cons (.slot i) .nil) (.bl true) e) σ = .ok (.fr (l.map h), σ) := by
  have hvl := (List.getElem?_eq_some_iff.mp hv).1
  obtain ⟨g, hg⟩ : ∃ g : D → Option D, g = fun x => match sq (ev C e (σ.set v (.val x))) with | .ok (.v d, _) => some d | _ => none := ⟨_, rfl⟩
  have hgR : ∀ a x, R a x → g x = some (h a) := fun a x r => by
    have := hf a x r
    unfold Vv at this
    rw [hg]
    dsimp only
    rw [this]
  have e1 : wipeE σ [v] = σ := set_self hv
  have hfm : ts.filterMap g = l.map h := ha.fm hgR
  have key := comp_eq (C := C) (t := .nm v) (own := [v]) (k := .seq) (es := .cons (.slot i) .nil) (ifs := .bl true) (e := e) (σ := σ) (σ1 := σ) (rs := [.v t]) (xs := ts) (g := g) (vl_cons (vv_slot hi) vl_nil) (by simp [itD, seq1D, Ar.view, ht]) rfl (by simp [noOwn, hv]) (fun x hx => by
    obtain ⟨j, hj, ej⟩ := List.mem_iff_getElem.mp hx
    obtain ⟨a, _, r⟩ := ha.get (i := j) (b := x) (by rw [List.getElem?_eq_getElem hj, ej])
    rw [hgR a x r, e1]
    have := turn_some (t := .nm v) (own := [v]) (x := x) (τ := σ) (τ1 := σ.set v (.val x)) rfl tt_true (hf a x r)
    rw [this]
    have e2 : wipeE (σ.set v (.val x)) [v] = σ := by
      show (σ.set v (.val x)).set v .un = σ
      rw [List.set_set]
      exact set_self hv
    rw [e2]) (by
      rw [hfm, List.length_map]
      exact size_ok hl)
  rw [hfm, e1] at key
  have e3 : backE σ σ [v] = σ := by
    show σ.set v (σ.getD v .un) = σ
    refine set_self ?_
    rw [hv]
    simp [List.getD, hv]
  rw [e3] at key
  exact key
section
variable {C : Cxt} {jm jb jl jr jk : Nat} {s : Nat} {ms : List Nat} {t : D}
/-- rank -/
theorem rank_ok (hm : ∀ m t, RowD s m t → C.fn jm [t] = .ok (.v (.int (m : Int)))) (hk : ∀ ms : List Nat, ms.length ≤ 1000000 → C.fn jk [.lst (iD ms)] = .ok (.v (.int ((rk ms : Nat) : Int)))) (ht : TabD s ms t) (hl : ms.length ≤ 1000000) :
    DS.run C ⟨2, 1, (.cons (.ret (.call jk (.cons (.comp (.nm 1) [1] .seq (.cons (.slot 0) .nil) (.bl true) (.call jm (.cons (.slot 1) .nil))) .nil))) .nil)⟩ [t] = .ok (.v (.int ((rk ms : Nat) : Int))) := by
  obtain ⟨ts, h1, h2⟩ := ht.seq
  have hc := comp_call (C := C) (v := 1) (i := 0) (σ := [.val t, .un]) (e := .call jm (.cons (.slot 1) .nil)) (h := fun m : Nat => D.int (m : Int)) h1 rfl rfl h2 hl fun m x r => vv_call (vl_cons (vv_slot (i := 1) rfl) vl_nil) (hm m x r)
  exact run_ret rfl rfl (call_ev (vl_cons (sq_of hc rfl) vl_nil) (hk ms hl)) rfl
theorem maskRank_ok (hr : ∀ ms : List Nat, ms.length ≤ 1000000 → C.fn jr [.lst (iD ms)] = .ok (.v (.tup (iD (redS ms))))) (hl : ms.length ≤ 1000000) :
    DS.run C ⟨1, 1, (.cons (.ret (.blt .len (.cons (.call jr (.cons (.slot 0) .nil)) .nil))) .nil)⟩ [.lst (iD ms)] = .ok (.v (.int ((rk ms : Nat) : Int))) := by
  have e : ((iD (redS ms)).length : Int) = ((rk ms : Nat) : Int) := by
    rw [← redS_len]
    simp [iD]
  refine run_ret rfl rfl (blt_ev (wl_cons (vv_call (vl_cons (vv_slot (i := 0) rfl) vl_nil) (hr ms hl)).w wl_nil) ?_) rfl
  rw [← e]
  rfl
/-- added -/
def xsum (ms : List Nat) : Nat := ms.foldl (· ^^^ ·) 0
theorem added_ok (hm : ∀ m t, RowD s m t → C.fn jm [t] = .ok (.v (.int (m : Int)))) (hb : ∀ m s : Nat, s ≤ 1000000 → C.fn jb [.int (m : Int), .int (s : Int)] = .ok (.v (.tup (bitsD m s)))) (ht : TabD s ms t) {z : Nat} (hz : z ≤ 1000000) :
    DS.run C ⟨4, 2, (.cons (.setS 2 (.int 0)) (.cons (.for_ (.nm 3) .seq (.cons (.slot 0) .nil) (.cons (.setS 2 (.bin .BitXor (.slot 2) (.call jm (.cons (.slot 3) .nil)))) .nil)) (.cons (.ret (.call jb (.cons (.slot 2) (.cons (.slot 1) .nil)))) .nil)))⟩ [t, .int (z : Int)] = .ok (.v (.tup (bitsD (xsum ms) z))) := Sat.eq <| by
  obtain ⟨ts, h1, h2⟩ := ht.seq
  refine run_sat rfl ?_
  refine exs_next (σ1 := [.val t, .val (.int (z : Int)), .val (.int 0), .un]) rfl ?_
  refine exs_cons (for_sat (σ1 := [.val t, .val (.int (z : Int)), .val (.int 0), .un]) (rs := [.v t]) (xs := ts) rfl (by simp [itD, seq1D, Ar.view, h1]) rfl (fun i σ => ∃ w, σ = [.val t, .val (.int (z : Int)), .val (.int ((xsum (ms.take i) : Nat) : Int)), w]) ⟨.un, rfl⟩ ?_ ?_)
  · rintro i x σ hx ⟨w, rfl⟩
    obtain ⟨m, e1, r⟩ := h2.get hx
    refine ⟨_, rfl, exs_next (x_setS (vv_bin (vv_slot (i := 2) rfl).w (vv_call (vl_cons (vv_slot (i := 3) rfl) vl_nil) (hm m x r)).w xor_ok)) (exs_nil ⟨.val x, ?_⟩)⟩
    have : xsum (ms.take (i + 1)) = xsum (ms.take i) ^^^ m := by
      rw [take_snoc e1]
      unfold xsum
      rw [List.foldl_append]
      rfl
    rw [this]
    rfl
  · rintro σ ⟨w, rfl⟩
    rw [← h2.length, List.take_length]
    exact exs_rt (x_retE (call_ev (vl_cons (vv_slot (i := 2) rfl) (vl_cons (vv_slot (i := 1) rfl) vl_nil)) (hb _ z hz)) rfl) ⟨rfl, rfl⟩
/-- reduced -/
theorem reduced_ok (hm : ∀ m t, RowD s m t → C.fn jm [t] = .ok (.v (.int (m : Int)))) (hb : ∀ m s : Nat, s ≤ 1000000 → C.fn jb [.int (m : Int), .int (s : Int)] = .ok (.v (.tup (bitsD m s)))) (hr : ∀ ms : List Nat, ms.length ≤ 1000000 → C.fn jr [.lst (iD ms)] = .ok (.v (.tup (iD (redS ms))))) (ht : TabD s ms t) (hs : s ≤ 1000000) (hl : ms.length ≤ 1000000) :
    DS.run C ⟨5, 1, (.cons (.ife (.cmpT .Eq (.blt .len (.cons (.slot 0) .nil)) (.int 0)) (.cons (.ret (.tup .nil)) .nil) .nil) (.cons (.setS 1 (.blt .len (.cons (.ix (.slot 0) (.int 0)) .nil))) (.cons (.setS 2 (.call jr (.cons (.comp (.nm 3) [3] .seq (.cons (.slot 0) .nil) (.bl true) (.call jm (.cons (.slot 3) .nil))) .nil))) (.cons (.ret (.blt .tuple (.cons (.comp (.nm 4) [4] .seq (.cons (.slot 2) .nil) (.bl true) (.call jb (.cons (.slot 4) (.cons (.slot 1) .nil)))) .nil))) .nil))))⟩ [t] = .ok (.v (.tup ((redS ms).map fun m => D.tup (bitsD m s)))) := Sat.eq <| by
  obtain ⟨ts, h1, h2⟩ := ht.seq
  have hlen := h2.length
  refine run_sat rfl ?_
  have htest : Tt C (.cmpT .Eq (.blt .len (.cons (.slot 0) .nil)) (.int 0)) [.val t, .un, .un, .un, .un] (decide (ms.length = 0)) := by
    refine tt_cmp (vv_blt (r := .v (.int (ts.length : Int))) (wl_cons (vv_slot (i := 0) rfl).w wl_nil) (by simp [bltD, h1])).w vv_int.w ?_
    show eqD (.int (ts.length : Int)) (.int 0) = _
    rw [eqD_int, ← hlen]
    congr 1
    by_cases h : ms.length = 0
    · simp [h]
    · have : ¬ (ms.length : Int) = 0 := by omega
      simp [h]
  refine exs_cons (x_ife htest (fun h => ?_) fun h => ?_)
  · have h0 : ms = [] := List.eq_nil_of_length_eq_zero (of_decide_eq_true h)
    subst h0
    exact exs_rt (x_retE (tup_ev vl_nil (Nat.zero_le _)) rfl) ⟨rfl, rfl⟩
  · cases h2 with
    | nil => cases h
    | cons hr0 hrest =>
      rename_i m0 t0 ms' ts'
      refine exs_nil ?_
      have hix : Vv C (.ix (.slot 0) (.int 0)) [.val t, .un, .un, .un, .un] t0 := vv_ix (vv_slot (i := 0) rfl).w vv_int.w (by
        obtain ⟨us, rfl | rfl, hu⟩ := ht
        · cases h1
          exact atI_nat (j := 0) rfl
        · cases h1
          exact atI_nat (j := 0) rfl)
      have hsz : Vv C (.blt .len (.cons (.ix (.slot 0) (.int 0)) .nil)) [.val t, .un, .un, .un, .un] (.int (s : Int)) := vv_blt (r := .v (.int (s : Int))) (wl_cons hix.w wl_nil) (by
        have e : (bitsD m0 s).length = s := by simp [bitsD]
        simp [bltD, hr0.seq, e])
      refine exs_next (x_setS hsz) ?_
      show Sat (exs C _ [.val t, .val (.int (s : Int)), .un, .un, .un]) _
      have hc := comp_call (C := C) (v := 3) (i := 0) (σ := [.val t, .val (.int (s : Int)), .un, .un, .un]) (e := .call jm (.cons (.slot 3) .nil)) (h := fun m : Nat => D.int (m : Int)) h1 rfl rfl (All2.cons hr0 hrest) hl fun m x r => vv_call (vl_cons (vv_slot (i := 3) rfl) vl_nil) (hm m x r)
      refine exs_next (x_setS (vv_call (vl_cons (sq_of hc rfl) vl_nil) (hr _ hl))) ?_
      show Sat (exs C _ [.val t, .val (.int (s : Int)), .val (.tup (iD (redS (m0 :: ms')))), .un, .un]) _
      have hid : All2 (fun (m : Nat) (x : D) => x = .int (m : Int)) (redS (m0 :: ms')) (iD (redS (m0 :: ms'))) := by
        generalize redS (m0 :: ms') = l
        induction l with
        | nil => exact .nil
        | cons a l ih => exact .cons rfl ih
      have hrl : (redS (m0 :: ms')).length ≤ 1000000 := by
        have := kept_len (m0 :: ms') []
        rw [redS_len]
        unfold rk kept
        simp at this hl ⊢
        omega
      have hc2 := comp_call (C := C) (v := 4) (i := 2) (σ := [.val t, .val (.int (s : Int)), .val (.tup (iD (redS (m0 :: ms')))), .un, .un]) (e := .call jb (.cons (.slot 4) (.cons (.slot 1) .nil))) (h := fun m : Nat => D.tup (bitsD m s)) rfl rfl rfl hid hrl fun m x r => by
        subst r
        exact vv_call (vl_cons (vv_slot (i := 4) rfl) (vl_cons (vv_slot (i := 1) rfl) vl_nil)) (hb m s hs)
      exact exs_rt (x_retE (blt_ev (wl_cons (sq_of hc2 rfl).w wl_nil) rfl) rfl) ⟨rfl, rfl⟩
end
end Bt
namespace Bt
open PySem PySem.Spec PyProof.Rows L2 DS Gf
def prD (q : Nat × Nat) : D := .tup [.int (q.1 : Int), .int (q.2 : Int)]
def pD (l : List (Nat × Nat)) : List D := l.map prD
theorem pD_get {l : List (Nat × Nat)} {i : Nat} {x : D} (h : (pD l)[i]? = some x) : ∃ q, l[i]? = some q ∧ x = prD q := by
  unfold pD at h
  rw [List.getElem?_map] at h
  cases e : l[i]? with
  | none => rw [e] at h; cases h
  | some m => rw [e] at h; exact ⟨m, rfl, (Option.some.inj h).symm⟩
def bSum (j : Nat) : SRs := (.cons (.par [3, 4] (.cons (.slot 1) (.cons (.slot 2) .nil))) (.cons (.for_ (.tp [5, 6]) .seq (.cons (.slot 0) .nil) (.cons (.ife (.cmpT .NotEq (.bin .BitAnd (.slot 3) (.call j (.cons (.slot 5) .nil))) (.int 0)) (.cons (.par [3, 4] (.cons (.bin .BitXor (.slot 3) (.slot 5)) (.cons (.bin .BitXor (.slot 4) (.slot 6)) .nil))) .nil) .nil) .nil)) (.cons (.ret (.tup (.cons (.slot 3) (.cons (.slot 4) .nil)))) .nil)))
theorem sum_ok {C : Cxt} {j : Nat} (hj : ∀ n : Int, C.fn j [.int n] = .ok (.v (.int (Builtin.bitAnd n (-n))))) {l : List (Nat × Nat)} {x u : Nat} (h0 : ∀ q ∈ l, q.1 ≠ 0) :
    DS.run C ⟨7, 3, bSum j⟩ [.lst (pD l), .int (x : Int), .int (u : Int)] = .ok (.v (prD (sumWith l (x, u)))) := Sat.eq <| by
  refine run_sat rfl ?_
  refine exs_next (σ1 := [.val (.lst (pD l)), .val (.int (x : Int)), .val (.int (u : Int)), .val (.int (x : Int)), .val (.int (u : Int)), .un, .un]) (x_par2 (vl_cons (vv_slot (i := 1) rfl) (vl_cons (vv_slot (i := 2) rfl) vl_nil))) ?_
  refine exs_cons (for_sat (σ1 := [.val (.lst (pD l)), .val (.int (x : Int)), .val (.int (u : Int)), .val (.int (x : Int)), .val (.int (u : Int)), .un, .un]) (rs := [.v (.lst (pD l))]) (xs := pD l) rfl rfl rfl
    (fun i σ => ∃ a b z, z = sumWith (l.take i) (x, u) ∧ σ = [.val (.lst (pD l)), .val (.int (x : Int)), .val (.int (u : Int)), .val (.int (z.1 : Int)), .val (.int (z.2 : Int)), a, b]) ⟨.un, .un, (x, u), rfl, rfl⟩ ?_ ?_)
  · rintro i y σ hy ⟨a, b, z, hz, rfl⟩
    obtain ⟨q, hq, rfl⟩ := pD_get hy
    have q0 := h0 q (List.mem_of_getElem? hq)
    have e1 : sumWith (l.take (i + 1)) (x, u) = sw1 z q := by
      rw [take_snoc hq, hz]
      unfold sumWith
      rw [List.foldl_append]
      rfl
    refine ⟨[.val (.lst (pD l)), .val (.int (x : Int)), .val (.int (u : Int)), .val (.int (z.1 : Int)), .val (.int (z.2 : Int)), .val (.int (q.1 : Int)), .val (.int (q.2 : Int))], rfl, exs_cons (x_ife (k := z.1.testBit (Gf.lo q.1)) (tt_cmp (vv_bin (vv_slot (i := 3) rfl).w (vv_call (vl_cons (vv_slot (i := 5) rfl) vl_nil) (hj _)).w and_ok).w vv_int.w (low_test (r := z.1) q0)) (fun h => ?_) fun h => ?_)⟩
    · refine exs_next (x_par2 (vl_cons (vv_bin (vv_slot (i := 3) rfl).w (vv_slot (i := 5) rfl).w xor_ok) (vl_cons (vv_bin (vv_slot (i := 4) rfl).w (vv_slot (i := 6) rfl).w xor_ok) vl_nil))) (exs_nil (exs_nil ⟨.val (.int (q.1 : Int)), .val (.int (q.2 : Int)), sw1 z q, e1.symm, ?_⟩))
      unfold sw1
      rw [if_pos h]
      rfl
    · refine exs_nil (exs_nil ⟨.val (.int (q.1 : Int)), .val (.int (q.2 : Int)), sw1 z q, e1.symm, ?_⟩)
      unfold sw1
      rw [if_neg (by rw [h]; simp)]
  · rintro σ ⟨a, b, z, hz, rfl⟩
    have e0 : (pD l).length = l.length := by simp [pD]
    rw [e0, List.take_length] at hz
    refine exs_rt (x_retE (tup_ev (vl_cons (vv_slot (i := 3) rfl) (vl_cons (vv_slot (i := 4) rfl) vl_nil)) (show 2 ≤ sizeLine by decide)) rfl) ⟨rfl, ?_⟩
    rw [hz]
    rfl
theorem cmp_eq' {x y : D} : cmpD .Eq x y = eqD x y := rfl
/-- combination's kept rows -/
def cstep (K : List (Nat × Nat)) (m i : Nat) : List (Nat × Nat) := if (sumWith K (m, 2 ^ i)).1 ≠ 0 then K ++ [sumWith K (m, 2 ^ i)] else K
structure KInv (ms : List Nat) (i : Nat) (K : List (Nat × Nat)) : Prop where
  tr : Tr (K.map (·.1))
  tells : ∀ q ∈ K, q.1 = selX (fun i => ms.getD i 0) q.2 (List.range ms.length)
  eqv : Eqv (K.map (·.1)) (ms.take i)
  len : K.length ≤ i
theorem KInv.nz {ms : List Nat} {i : Nat} {K : List (Nat × Nat)} (h : KInv ms i K) : ∀ q ∈ K, q.1 ≠ 0 := fun q hq => h.tr.1 _ (List.mem_map_of_mem hq)
theorem restL_eqv {l : List Nat} {m : Nat} : (restL l m ≠ 0 → Eqv (l ++ [restL l m]) (l ++ [m])) ∧ (restL l m = 0 → Eqv l (l ++ [m])) := by
  have h1 := restL_sp l m
  refine ⟨fun _ => Eqv.of (fun g hg => ?_) fun g hg => ?_, fun h => Eqv.of (fun g hg => Sp.append_left (Sp.mem hg)) fun g hg => ?_⟩
  · rcases List.mem_append.mp hg with k | k
    · exact Sp.append_left (Sp.mem k)
    · rw [List.mem_singleton.mp k]
      have := (Sp.append_left (B := [m]) h1).xor (Sp.mem (gs := l ++ [m]) (g := m) (by simp))
      rw [x2, Nat.xor_self, Nat.zero_xor] at this
      exact this
  · rcases List.mem_append.mp hg with k | k
    · exact Sp.append_left (Sp.mem k)
    · rw [List.mem_singleton.mp k]
      have := (Sp.append_left (B := [restL l m]) h1).xor (Sp.mem (gs := l ++ [restL l m]) (g := restL l m) (by simp))
      rw [xl] at this
      exact this
  · rcases List.mem_append.mp hg with k | k
    · exact Sp.mem k
    · rw [List.mem_singleton.mp k]
      rw [h, Nat.xor_zero] at h1
      exact h1
theorem KInv.step {ms : List Nat} {i : Nat} {K : List (Nat × Nat)} {m : Nat} (h : KInv ms i K) (hm : ms[i]? = some m) : KInv ms (i + 1) (cstep K m i) := by
  have hi : i < ms.length := (List.getElem?_eq_some_iff.mp hm).1
  have e1 : (sumWith K (m, 2 ^ i)).1 = restL (K.map (·.1)) m := sumWith_fst K (m, 2 ^ i)
  have ht : Tells (fun i => ms.getD i 0) (List.range ms.length) 0 (sumWith K (m, 2 ^ i)) := sumWith_tells K _ h.tells (by
    show m = 0 ^^^ selX (fun i => ms.getD i 0) (2 ^ i) (List.range ms.length)
    rw [selX_two _ _ _ List.nodup_range, if_pos (List.mem_range.mpr hi), Nat.zero_xor]
    simp [List.getD, hm])
  obtain ⟨q1, q2⟩ := restL_eqv (l := K.map (·.1)) (m := m)
  rw [← e1] at q1 q2
  have e2 : Eqv (K.map (·.1) ++ [m]) (ms.take (i + 1)) := by
    rw [take_snoc hm]
    exact h.eqv.append [m]
  unfold cstep
  by_cases hz : (sumWith K (m, 2 ^ i)).1 ≠ 0
  · rw [if_pos hz]
    have hmap : (K ++ [sumWith K (m, 2 ^ i)]).map (·.1) = K.map (·.1) ++ [(sumWith K (m, 2 ^ i)).1] := by simp
    refine ⟨?_, fun q hq => ?_, by rw [hmap]; exact (q1 hz).trans e2, by rw [List.length_append]; exact Nat.succ_le_succ h.len⟩
    · rw [hmap]
      refine ⟨fun x hx => ?_, ?_⟩
      · rcases List.mem_append.mp hx with k | k
        · exact h.tr.1 x k
        · rw [List.mem_singleton.mp k]
          exact hz
      · rw [List.pairwise_append]
        refine ⟨h.tr.2, List.pairwise_singleton _ _, fun a ha b hb => ?_⟩
        rw [List.mem_singleton.mp hb, e1]
        exact restL_clear m h.tr a ha
    · rcases List.mem_append.mp hq with k | k
      · exact h.tells q k
      · rw [List.mem_singleton.mp k]
        have := (show (sumWith K (m, 2 ^ i)).1 = 0 ^^^ _ from ht)
        rwa [Nat.zero_xor] at this
  · rw [if_neg hz]
    have hz : (sumWith K (m, 2 ^ i)).1 = 0 := by omega
    exact ⟨h.tr, h.tells, (q2 hz).trans e2, Nat.le_succ_of_le h.len⟩
def bComb (js jm : Nat) : SRs := (.cons (.set 2 (.lst .nil)) (.cons (.for_ (.tp [3, 4]) .enum (.cons (.slot 0) .nil) (.cons (.unp [5, 6] (.call js (.cons (.bor 2) (.cons (.call jm (.cons (.slot 4) .nil)) (.cons (.bin .LShift (.int 1) (.slot 3)) .nil))))) (.cons (.ife (.cmpT .NotEq (.slot 5) (.int 0)) (.cons (.app 2 (.tup (.cons (.slot 5) (.cons (.slot 6) .nil)))) .nil) .nil) .nil))) (.cons (.unp [5, 6] (.call js (.cons (.slot 2) (.cons (.call jm (.cons (.slot 1) .nil)) (.cons (.int 0) .nil))))) (.cons (.ife (.cmpT .NotEq (.slot 5) (.int 0)) (.cons (.ret .non) .nil) .nil) (.cons (.ret (.blt .tuple (.cons (.comp (.nm 3) [3] .range1 (.cons (.blt .len (.cons (.slot 0) .nil)) .nil) (.cmpT .Eq (.bin .BitAnd (.bin .RShift (.slot 6) (.slot 3)) (.int 1)) (.int 1)) (.slot 3)) .nil))) .nil)))))
/-- combination -/
def Told (ms : List Nat) (x : Nat) (d : D) : Prop := (d = .non ∧ ¬ Sp ms x) ∨ ∃ w, d = .tup (iD ((List.range ms.length).filter fun k => w.testBit k)) ∧ x = selX (fun i => ms.getD i 0) w (List.range ms.length)
theorem fm_filter {l : List Nat} {p : Nat → Bool} {g : D → Option D} (h : ∀ k ∈ l, g (.int (k : Int)) = if p k then some (.int (k : Int)) else none) : (l.map fun k : Nat => D.int (k : Int)).filterMap g = iD (l.filter p) := by
  induction l with
  | nil => rfl
  | cons a l ih =>
    rw [List.map_cons, List.filterMap_cons, h a (List.mem_cons_self ..), List.filter_cons]
    have := ih fun k hk => h k (List.mem_cons_of_mem _ hk)
    by_cases q : p a = true
    · simp only [q, if_true, this]
      rfl
    · simp at q
      simp only [q, this]
      rfl
theorem comb_ok {C : Cxt} {js jm s : Nat} {ms : List Nat} {t row : D} {x : Nat} (hs : ∀ (l : List (Nat × Nat)) (x u : Nat), (∀ q ∈ l, q.1 ≠ 0) → C.fn js [.lst (pD l), .int (x : Int), .int (u : Int)] = .ok (.v (prD (sumWith l (x, u))))) (hm : ∀ m t, RowD s m t → C.fn jm [t] = .ok (.v (.int (m : Int))))
    (ht : TabD s ms t) (hr : RowD s x row) (hl : ms.length ≤ 1000000) : Sat (DS.run C ⟨7, 2, bComb js jm⟩ [t, row]) fun r => ∃ d, r = .v d ∧ Told ms x d := by
  obtain ⟨ts, h1, h2⟩ := ht.seq
  have hlen := h2.length
  refine run_sat rfl ?_
  refine exs_next (σ1 := [.val t, .val row, .own [], .un, .un, .un, .un]) rfl ?_
  refine exs_cons (for_sat (σ1 := [.val t, .val row, .own [], .un, .un, .un, .un]) (rs := [.v t]) (xs := enumD 0 ts) rfl (by simp [itD, seq1D, Ar.view, h1]) rfl
    (fun i σ => ∃ K a b c d, Pl a ∧ KInv ms i K ∧ σ = [.val t, .val row, .own (pD K), a, b, c, d]) ⟨[], .un, .un, .un, .un, .inl rfl, ⟨⟨fun x hx => (by cases hx), .nil⟩, fun q hq => (by cases hq), Eqv.refl _, Nat.le_refl _⟩, rfl⟩ ?_ ?_)
  · rintro i y σ hy ⟨K, a, b, c, d, pa, hK, rfl⟩
    rw [(enumD_eq ts 0).2 i, Nat.zero_add] at hy
    cases hb : ts[i]? with
    | none => rw [hb] at hy; cases hy
    | some ti =>
      rw [hb] at hy
      have hy : D.pr (.int (i : Int)) ti = y := Option.some.inj hy
      subst hy
      obtain ⟨m, hmi, r⟩ := h2.get hb
      have hi : i < ms.length := (List.getElem?_eq_some_iff.mp hmi).1
      refine ⟨[.val t, .val row, .own (pD K), .val (.int (i : Int)), .val ti, c, d], rfl, ?_⟩
      obtain ⟨z, hz⟩ : ∃ z, z = sumWith K (m, 2 ^ i) := ⟨_, rfl⟩
      have h2i : binD .LShift (.int 1) (.int (i : Int)) = .ok (.v (.int ((2 ^ i : Nat) : Int))) := by
        have := shl_ok (i := 1) (j := i) (by omega) (by decide)
        rw [Nat.one_mul] at this
        exact this
      have hcall : Vv C (.call js (.cons (.bor 2) (.cons (.call jm (.cons (.slot 4) .nil)) (.cons (.bin .LShift (.int 1) (.slot 3)) .nil)))) [.val t, .val row, .own (pD K), .val (.int (i : Int)), .val ti, c, d] (prD z) := by
        rw [hz]
        exact vv_callW (wl_cons (vw_own rfl) (wl_cons (vv_call (vl_cons (vv_slot (i := 4) rfl) vl_nil) (hm m ti r)).w (wl_cons (vv_bin vv_int.w (vv_slot (i := 3) rfl).w h2i).w wl_nil))) (hs K m (2 ^ i) hK.nz) rfl
      refine exs_next (x_unp hcall rfl) ?_
      show Sat (exs C _ [.val t, .val row, .own (pD K), .val (.int (i : Int)), .val ti, .val (.int (z.1 : Int)), .val (.int (z.2 : Int))]) _
      have hst := hK.step hmi
      refine exs_cons (x_ife (k := decide (z.1 ≠ 0)) (tt_cmp (vv_slot (i := 5) rfl).w vv_int.w ne_test) (fun h => ?_) fun h => ?_)
      · have z0 := of_decide_eq_true h
        refine exs_next (x_app (ds := pD K) rfl (vv_tup (vl_cons (vv_slot (i := 5) rfl) (vl_cons (vv_slot (i := 6) rfl) vl_nil)) (show 2 ≤ sizeLine by decide)) (by
          unfold pD
          rw [List.length_map]
          exact Nat.lt_of_le_of_lt hK.len (Nat.lt_of_lt_of_le hi (size_ok hl)))) (exs_nil (exs_nil ⟨cstep K m i, .val (.int (i : Int)), .val ti, .val (.int (z.1 : Int)), .val (.int (z.2 : Int)), .inr ⟨_, rfl⟩, hst, ?_⟩))
        unfold cstep
        rw [← hz, if_pos z0]
        unfold pD
        rw [List.map_append]
        rfl
      · have z0 : ¬ z.1 ≠ 0 := of_decide_eq_false h
        refine exs_nil (exs_nil ⟨cstep K m i, .val (.int (i : Int)), .val ti, .val (.int (z.1 : Int)), .val (.int (z.2 : Int)), .inr ⟨_, rfl⟩, hst, ?_⟩)
        unfold cstep
        rw [← hz, if_neg z0]
  · rintro σ ⟨K, a, b, c, d, pa, hK, rfl⟩
    rw [(enumD_eq ts 0).1, ← hlen] at hK
    have he : Eqv (K.map (·.1)) ms := by
      have := hK.eqv
      rwa [List.take_length] at this
    obtain ⟨z, hz⟩ : ∃ z, z = sumWith K (x, 0) := ⟨_, rfl⟩
    have hcall : sq (ev C (.call js (.cons (.slot 2) (.cons (.call jm (.cons (.slot 1) .nil)) (.cons (.int 0) .nil)))) [.val t, .val row, .own (pD K), a, b, c, d]) = .ok (.v (prD z), [.val t, .val row, .val (.lst (pD K)), a, b, c, d]) := by
      have e1 : sq (ev C (.slot 2) [.val t, .val row, .own (pD K), a, b, c, d]) = .ok (.v (.lst (pD K)), [.val t, .val row, .val (.lst (pD K)), a, b, c, d]) := rfl
      have e2 : VvL C (.cons (.call jm (.cons (.slot 1) .nil)) (.cons (.int 0) .nil)) [.val t, .val row, .val (.lst (pD K)), a, b, c, d] [.int (x : Int), .int ((0 : Nat) : Int)] := vl_cons (vv_call (vl_cons (vv_slot (i := 1) rfl) vl_nil) (hm x row hr)) (vl_cons vv_int vl_nil)
      unfold VvL at e2
      have e3 : evs C (.cons (.slot 2) (.cons (.call jm (.cons (.slot 1) .nil)) (.cons (.int 0) .nil))) [.val t, .val row, .own (pD K), a, b, c, d] = .ok ([.v (.lst (pD K)), .v (.int (x : Int)), .v (.int ((0 : Nat) : Int))], [.val t, .val row, .val (.lst (pD K)), a, b, c, d]) := by
        rw [evs, e1]
        simp only [Out.bnd]
        rw [e2]
        rfl
      rw [ev, e3]
      simp only [Out.bnd]
      have e4 := hs K x 0 hK.nz
      rw [show C.fn js (List.map Ar.view [.v (.lst (pD K)), .v (.int (x : Int)), .v (.int ((0 : Nat) : Int))]) = .ok (.v (prD (sumWith K (x, 0)))) from e4, hz]
      rfl
    have hun : ex C (.unp [5, 6] (.call js (.cons (.slot 2) (.cons (.call jm (.cons (.slot 1) .nil)) (.cons (.int 0) .nil))))) [.val t, .val row, .own (pD K), a, b, c, d] = .ok (.nx, [.val t, .val row, .val (.lst (pD K)), a, b, .val (.int (z.1 : Int)), .val (.int (z.2 : Int))]) := by
      rw [ex, hcall]
      rfl
    refine exs_next hun ?_
    have e1 : z.1 = restL (K.map (·.1)) x := by
      rw [hz]
      exact sumWith_fst K (x, 0)
    refine exs_cons (x_ife (k := decide (z.1 ≠ 0)) (tt_cmp (vv_slot (i := 5) rfl).w vv_int.w ne_test) (fun h => ?_) fun h => ?_)
    · have z0 := of_decide_eq_true h
      exact exs_rt rfl ⟨rfl, .non, rfl, .inl ⟨rfl, fun k => z0 (by rw [e1]; exact (restL_zero hK.tr).mpr ((he x).mpr k))⟩⟩
    · have z0 : z.1 = 0 := by
        have := of_decide_eq_false h
        omega
      refine exs_nil ?_
      have ht : Tells (fun i => ms.getD i 0) (List.range ms.length) x z := by
        rw [hz]
        exact sumWith_tells K _ hK.tells (by
          show x = x ^^^ selX _ 0 _
          rw [selX_zero, Nat.xor_zero])
      have hsum : x = selX (fun i => ms.getD i 0) z.2 (List.range ms.length) := by
        have e2 : z.1 = x ^^^ selX (fun i => ms.getD i 0) z.2 (List.range ms.length) := ht
        rw [z0] at e2
        have := congrArg (· ^^^ selX (fun i => ms.getD i 0) z.2 (List.range ms.length)) e2
        simp only [xl, Nat.zero_xor] at this
        exact this.symm
      obtain ⟨g, hg⟩ : ∃ g : D → Option D, g = fun x => match x with | .int k => if z.2.testBit k.toNat then some (.int k) else none | _ => none := ⟨_, rfl⟩
      have hfm : ((List.range ms.length).map fun k : Nat => D.int (k : Int)).filterMap g = iD ((List.range ms.length).filter fun k => z.2.testBit k) := fm_filter fun k _ => by
        rw [hg]
        simp
      have hc := comp_eq (C := C) (t := .nm 3) (own := [3]) (k := .range1) (es := .cons (.blt .len (.cons (.slot 0) .nil)) .nil) (ifs := .cmpT .Eq (.bin .BitAnd (.bin .RShift (.slot 6) (.slot 3)) (.int 1)) (.int 1)) (e := .slot 3)
        (σ := [.val t, .val row, .val (.lst (pD K)), a, b, .val (.int (z.1 : Int)), .val (.int (z.2 : Int))]) (σ1 := [.val t, .val row, .val (.lst (pD K)), a, b, .val (.int (z.1 : Int)), .val (.int (z.2 : Int))]) (rs := [.v (.int (ms.length : Int))]) (xs := (List.range ms.length).map fun k : Nat => D.int (k : Int)) (g := g)
        (vl_cons (vv_blt (r := .v (.int (ms.length : Int))) (wl_cons (vv_slot (i := 0) rfl).w wl_nil) (by simp [bltD, h1, hlen])) vl_nil) (range1_ok hl) rfl (by rcases pa with rfl | ⟨w, rfl⟩ <;> rfl) (fun x hx => by
          obtain ⟨k, _, rfl⟩ := List.mem_map.mp hx
          have htt : Tt C (.cmpT .Eq (.bin .BitAnd (.bin .RShift (.slot 6) (.slot 3)) (.int 1)) (.int 1)) [.val t, .val row, .val (.lst (pD K)), .val (.int (k : Int)), b, .val (.int (z.1 : Int)), .val (.int (z.2 : Int))] (z.2.testBit k) := tt_cmp (vv_bin (vv_bin (vv_slot (i := 6) rfl).w (vv_slot (i := 3) rfl).w shr_ok).w vv_int.w bit_ok).w vv_int.w (by
            rw [cmp_eq']
            simp only [Ar.view]
            rw [eqD_int]
            cases z.2.testBit k <;> rfl)
          rw [hg]
          simp only [Int.toNat_natCast]
          by_cases hbk : z.2.testBit k = true
          · rw [hbk] at htt
            rw [if_pos hbk]
            exact turn_some (τ1 := [.val t, .val row, .val (.lst (pD K)), .val (.int (k : Int)), b, .val (.int (z.1 : Int)), .val (.int (z.2 : Int))]) rfl htt (vv_slot (i := 3) rfl)
          · rw [if_neg hbk]
            simp at hbk
            rw [hbk] at htt
            exact turn_none (τ1 := [.val t, .val row, .val (.lst (pD K)), .val (.int (k : Int)), b, .val (.int (z.1 : Int)), .val (.int (z.2 : Int))]) rfl htt) (by
          rw [hfm]
          unfold iD
          rw [List.length_map]
          refine Nat.le_trans (List.length_filter_le ..) ?_
          rw [List.length_range]
          exact size_ok hl)
      rw [hfm] at hc
      have hc2 : ev C (.blt .tuple (.cons (.comp (.nm 3) [3] .range1 (.cons (.blt .len (.cons (.slot 0) .nil)) .nil) (.cmpT .Eq (.bin .BitAnd (.bin .RShift (.slot 6) (.slot 3)) (.int 1)) (.int 1)) (.slot 3)) .nil)) [.val t, .val row, .val (.lst (pD K)), a, b, .val (.int (z.1 : Int)), .val (.int (z.2 : Int))] = .ok (.v (.tup (iD ((List.range ms.length).filter fun k => z.2.testBit k))), [.val t, .val row, .val (.lst (pD K)), a, b, .val (.int (z.1 : Int)), .val (.int (z.2 : Int))]) := blt_ev (wl_cons (sq_of hc rfl).w wl_nil) rfl
      exact exs_rt (x_retE hc2 rfl) ⟨rfl, _, rfl, .inr ⟨z.2, rfl, hsum⟩⟩
end Bt
/-! ## Facts that every law's own helpers need -/
namespace Nt
open PySem PySem.Spec PyProof.Rows L2 DS Gf Bt
def bDigits : SRs := (.cons (.set 2 (.lst .nil)) (.cons (.setS 3 (.blt .int (.cons (.slot 0) .nil))) (.cons (.ife (.cmpT .GtE (.slot 3) (.bin .Pow (.int 10) (.int 18))) (.cons (.setS 3 (.bin .Sub (.slot 3) (.bin .Pow (.int 10) (.int 18)))) (.cons (.for_ (.nm 6) .seq (.cons (.slot 1) .nil) (.cons (.app 2 (.bin .Mod (.blt .int (.cons (.slot 3) .nil)) (.slot 6))) (.cons (.setS 3 (.bin .FloorDiv (.blt .int (.cons (.slot 3) .nil)) (.slot 6))) .nil))) (.cons (.ret (.move 2)) .nil))) .nil) (.cons (.setS 4 (.bin .Mod (.blt .int (.cons (.slot 3) .nil)) (.int 2147483629))) (.cons (.for_ (.nm 5) .range1 (.cons (.blt .len (.cons (.slot 1) .nil)) .nil) (.cons (.setS 4 (.bin .Mod (.blt .int (.cons (.bin .Add (.bin .Add (.bin .Mult (.slot 4) (.int 48271)) (.bin .Mult (.int 974711) (.slot 5))) (.int 12345)) .nil)) (.int 2147483647))) (.cons (.setS 7 (.bin .Mod (.blt .int (.cons (.bin .Mult (.slot 4) (.bin .Add (.bin .FloorDiv (.slot 4) (.int 65537)) (.int 3))) .nil)) (.int 2147483629))) (.cons (.app 2 (.bin .Mod (.bin .FloorDiv (.slot 7) (.int 19)) (.ix (.slot 1) (.slot 5)))) .nil)))) (.cons (.ret (.move 2)) .nil))))))
def bCell : SRs := (.cons (.ife (.cmpT .Lt (.slot 1) (.blt .len (.cons (.slot 0) .nil))) (.cons (.ret (.ix (.slot 0) (.slot 1))) .nil) .nil) (.cons (.setS 2 (.int 17)) (.cons (.for_ (.nm 3) .seq (.cons (.slot 0) .nil) (.cons (.setS 2 (.bin .Mod (.blt .int (.cons (.bin .Add (.bin .Mult (.slot 2) (.int 31)) (.bin .Mod (.blt .int (.cons (.slot 3) .nil)) (.int 1000003))) .nil)) (.int 1000003))) .nil)) (.cons (.ret (.bin .Mod (.blt .int (.cons (.bin .Mult (.bin .Mult (.bin .Add (.slot 2) (.int 7)) (.bin .Add (.slot 1) (.int 3))) (.int 69621)) .nil)) (.int 2147483647))) .nil))))
def bHas : SRs := (.cons (.ret (.cmp .Eq (.bin .BitAnd (.bin .RShift (.slot 0) (.slot 1)) (.int 1)) (.int 1))) .nil)
theorem mul_okL {i j : Int} (h : -(2 ^ 64) < i ∧ i < 2 ^ 64) : binD .Mult (.int i) (.int j) = .ok (.v (.int (i * j))) := by
  show (if CMul i j then Out.ok (Ar.v (.int (i * j))) else .bad) = _
  rw [if_pos (show CMul i j from Or.inl h)]
theorem mul_okR {i j : Int} (h : -(2 ^ 64) < j ∧ j < 2 ^ 64) : binD .Mult (.int i) (.int j) = .ok (.v (.int (i * j))) := by
  show (if CMul i j then Out.ok (Ar.v (.int (i * j))) else .bad) = _
  rw [if_pos (show CMul i j from Or.inr h)]
theorem mod_okI {i j : Int} (h : 0 < j) : binD .Mod (.int i) (.int j) = .ok (.v (.int (i % j))) := by
  show (if 0 < j then Out.ok (Ar.v (.int (i % j))) else .bad) = _
  rw [if_pos h]
theorem div_okI {i j : Int} (h : 0 < j) (k : j < 18446744073709551616) : binD .FloorDiv (.int i) (.int j) = .ok (.v (.int (i / j))) := by
  show (if CDivW i j then Out.ok (Ar.v (.int (i / j))) else .bad) = _
  rw [if_pos (wide_div (b := 64) h (by omega) (by decide) (by decide))]
theorem add_okI {i j : Int} : binD .Add (.int i) (.int j) = .ok (.v (.int (i + j))) := rfl
theorem sub_okI {i j : Int} : binD .Sub (.int i) (.int j) = .ok (.v (.int (i - j))) := rfl
theorem pow18 : binD .Pow (.int 10) (.int 18) = .ok (.v (.int (10 ^ 18))) := by
  show (if CPow 10 18 then Out.ok (Ar.v (.int (10 ^ (18 : Int).toNat))) else .bad) = _
  rw [if_pos (by decide)]
  rfl
def jD (l : List Int) : List D := l.map D.int
theorem jD_get {l : List Int} {i : Nat} {x : D} (h : (jD l)[i]? = some x) : ∃ m, l[i]? = some m ∧ x = .int m := by
  unfold jD at h
  rw [List.getElem?_map] at h
  cases e : l[i]? with
  | none => rw [e] at h; cases h
  | some m => rw [e] at h; exact ⟨m, rfl, (Option.some.inj h).symm⟩
theorem jD_at {l : List Int} {i : Nat} {m : Int} (h : l[i]? = some m) : ixD (.lst (jD l)) (.int (i : Int)) = some (.int m) := by
  refine atI_nat ?_
  unfold jD
  rw [List.getElem?_map, h]
  rfl
theorem int_blt {C : Cxt} {e : IR} {σ : En} {i : Int} (h : Vw C e σ (.int i)) : Vv C (.blt .int (.cons e .nil)) σ (.int i) := vv_blt (r := .v (.int i)) (wl_cons h wl_nil) rfl
theorem len_blt {C : Cxt} {e : IR} {σ : En} {d : D} {xs : List D} {n : Nat} (h : Vw C e σ d) (hs : seqOf d = some xs) (hn : xs.length = n) : Vv C (.blt .len (.cons e .nil)) σ (.int (n : Int)) := vv_blt (r := .v (.int (n : Int))) (wl_cons h wl_nil) (by
  show (match seqOf d with | some ys => Out.ok (Ar.v (.int (ys.length : Int))) | none => _) = _
  rw [hs, ← hn])
theorem ix_ev {C : Cxt} {σ : En} {a b : IR} {x y d : D} (ha : Vw C a σ x) (hb : Vw C b σ y) (ho : ixD x y = some d) : ev C (.ix a b) σ = .ok (.v d, σ) := by
  obtain ⟨p, hp, rfl⟩ := ha
  obtain ⟨q, hq, rfl⟩ := hb
  simp only [ev, hp, Out.bnd, hq, ho, ob]
theorem exs_via {C : Cxt} {s : SR} {ss : SRs} {σ : En} {Q : Fl × En → Prop} (P : En → Prop) (h1 : Sat (ex C s σ) fun z => z.1 = .nx ∧ P z.2) (h2 : ∀ σ1, P σ1 → Sat (exs C ss σ1) Q) : Sat (exs C (.cons s ss) σ) Q := by
  obtain ⟨⟨f, σ1⟩, e, e1, p⟩ := h1
  cases (show f = .nx from e1)
  exact exs_next e (h2 σ1 p)
/-- digits of sizes -/
def Dg (ds sz : List Int) : Prop := ds.length = sz.length ∧ ∀ (k : Nat) (d s : Int), ds[k]? = some d → sz[k]? = some s → 0 ≤ d ∧ d < s
theorem snoc_dg {ds sz : List Int} {i : Nat} {d s : Int} (hl : ds.length = i) (h : ∀ (k : Nat) (d s : Int), ds[k]? = some d → sz[k]? = some s → 0 ≤ d ∧ d < s) (hs : sz[i]? = some s) (hd : 0 ≤ d ∧ d < s) :
    ∀ (k : Nat) (d' s : Int), (ds ++ [d])[k]? = some d' → sz[k]? = some s → 0 ≤ d' ∧ d' < s := by
  intro k d' s' h1 h2
  by_cases hk : k < ds.length
  · rw [List.getElem?_append_left hk] at h1
    exact h k d' s' h1 h2
  · rw [List.getElem?_append_right (by omega)] at h1
    have hk2 : k - ds.length = 0 := by
      have := (List.getElem?_eq_some_iff.mp h1).1
      simp at this
      omega
    rw [hk2] at h1
    have e1 : d = d' := by simpa using h1
    have e2 : k = i := by omega
    subst e1 e2
    rw [hs] at h2
    cases h2
    exact hd
theorem digits_ok {C : Cxt} {n : Int} {sz : List Int} (hsz : ∀ s ∈ sz, 0 < s ∧ s < 18446744073709551616) (hl : sz.length ≤ 1000000) : Sat (DS.run C ⟨8, 2, bDigits⟩ [.int n, .lst (jD sz)]) fun r => ∃ ds, r = .fr (jD ds) ∧ Dg ds sz := by
  refine run_sat rfl ?_
  refine exs_next (σ1 := [.val (.int n), .val (.lst (jD sz)), .own [], .un, .un, .un, .un, .un]) rfl ?_
  refine exs_next (σ1 := [.val (.int n), .val (.lst (jD sz)), .own [], .val (.int n), .un, .un, .un, .un]) (x_setS (int_blt (vv_slot (i := 0) rfl).w)) ?_
  have szl : (jD sz).length = sz.length := by simp [jD]
  have hpow : Vw C (.bin .Pow (.int 10) (.int 18)) [.val (.int n), .val (.lst (jD sz)), .own [], .val (.int n), .un, .un, .un, .un] (.int (10 ^ 18)) := (vv_bin vv_int.w vv_int.w pow18).w
  refine exs_cons (x_ife (k := decide ((10 : Int) ^ 18 ≤ n)) (tt_cmp (vv_slot (i := 3) rfl).w hpow rfl) (fun h => ?_) fun h => ?_)
  · refine exs_next (σ1 := [.val (.int n), .val (.lst (jD sz)), .own [], .val (.int (n - 10 ^ 18)), .un, .un, .un, .un]) (x_setS (vv_bin (vv_slot (i := 3) rfl).w hpow sub_okI)) ?_
    refine exs_cons (for_sat (σ1 := [.val (.int n), .val (.lst (jD sz)), .own [], .val (.int (n - 10 ^ 18)), .un, .un, .un, .un]) (rs := [.v (.lst (jD sz))]) (xs := jD sz) rfl rfl rfl
      (fun i σ => ∃ ds rest w, ds.length = i ∧ (∀ (k : Nat) (d s : Int), ds[k]? = some d → sz[k]? = some s → 0 ≤ d ∧ d < s) ∧ σ = [.val (.int n), .val (.lst (jD sz)), .own (jD ds), .val (.int rest), .un, .un, w, .un]) ⟨[], _, .un, rfl, fun k d s h => by simp at h, rfl⟩ ?_ ?_)
    · rintro i x σ hx ⟨ds, rest, w, hi, hd, rfl⟩
      obtain ⟨s, es, rfl⟩ := jD_get hx
      obtain ⟨s0, s1⟩ := hsz s (List.mem_of_getElem? es)
      have hil : i < sz.length := (List.getElem?_eq_some_iff.mp es).1
      refine ⟨[.val (.int n), .val (.lst (jD sz)), .own (jD ds), .val (.int rest), .un, .un, .val (.int s), .un], rfl, ?_⟩
      refine exs_next (x_app (ds := jD ds) rfl (vv_bin (int_blt (vv_slot (i := 3) rfl).w).w (vv_slot (i := 6) rfl).w (mod_okI s0)) (by
        simp only [jD, List.length_map]
        exact Nat.lt_of_lt_of_le (by omega) (size_ok hl))) ?_
      show Sat (exs C _ [.val (.int n), .val (.lst (jD sz)), .own (jD ds ++ [.int (rest % s)]), .val (.int rest), .un, .un, .val (.int s), .un]) _
      refine exs_next (x_setS (vv_bin (int_blt (vv_slot (i := 3) rfl).w).w (vv_slot (i := 6) rfl).w (div_okI s0 s1))) (exs_nil ⟨ds ++ [rest % s], rest / s, .val (.int s), by simp [hi], snoc_dg hi hd es ⟨Int.emod_nonneg _ (by omega), Int.emod_lt_of_pos _ s0⟩, ?_⟩)
      unfold jD
      rw [List.map_append]
      rfl
    · rintro σ ⟨ds, rest, w, hi, hd, rfl⟩
      rw [szl] at hi
      exact exs_rt rfl ⟨rfl, ds, rfl, hi, hd⟩
  · refine exs_nil ?_
    refine exs_next (σ1 := [.val (.int n), .val (.lst (jD sz)), .own [], .val (.int n), .val (.int (n % 2147483629)), .un, .un, .un]) (x_setS (vv_bin (int_blt (vv_slot (i := 3) rfl).w).w vv_int.w (mod_okI (by decide)))) ?_
    refine exs_cons (for_sat (σ1 := [.val (.int n), .val (.lst (jD sz)), .own [], .val (.int n), .val (.int (n % 2147483629)), .un, .un, .un]) (rs := [.v (.int (sz.length : Int))]) (xs := (List.range sz.length).map fun k : Nat => D.int (k : Int)) (vl_cons (len_blt (vv_slot (i := 1) rfl).w rfl szl) vl_nil) (range1_ok hl) rfl
      (fun i σ => ∃ ds seed w w7, ds.length = i ∧ 0 ≤ seed ∧ seed < 2147483647 ∧ (∀ (k : Nat) (d s : Int), ds[k]? = some d → sz[k]? = some s → 0 ≤ d ∧ d < s) ∧ σ = [.val (.int n), .val (.lst (jD sz)), .own (jD ds), .val (.int n), .val (.int seed), w, .un, w7]) ⟨[], _, .un, .un, rfl, Int.emod_nonneg _ (by decide), Int.lt_trans (Int.emod_lt_of_pos _ (by decide)) (by decide), fun k d s h => by simp at h, rfl⟩ ?_ ?_)
    · rintro i x σ hx ⟨ds, seed, w, w7, hi, sd0, sd1, hd, rfl⟩
      obtain ⟨hil, rfl⟩ := getI hx
      obtain ⟨s, es⟩ : ∃ s, sz[i]? = some s := ⟨_, List.getElem?_eq_getElem hil⟩
      obtain ⟨s0, s1⟩ := hsz s (List.mem_of_getElem? es)
      refine ⟨[.val (.int n), .val (.lst (jD sz)), .own (jD ds), .val (.int n), .val (.int seed), .val (.int (i : Int)), .un, w7], rfl, ?_⟩
      obtain ⟨sd, hsd⟩ : ∃ sd, sd = (seed * 48271 + 974711 * (i : Int) + 12345) % 2147483647 := ⟨_, rfl⟩
      have b0 : 0 ≤ sd := by rw [hsd]; exact Int.emod_nonneg _ (by decide)
      have b1 : sd < 2147483647 := by rw [hsd]; exact Int.emod_lt_of_pos _ (by decide)
      refine exs_next (σ1 := [.val (.int n), .val (.lst (jD sz)), .own (jD ds), .val (.int n), .val (.int sd), .val (.int (i : Int)), .un, w7]) (by
        rw [hsd]
        exact x_setS (vv_bin (int_blt (vv_bin (vv_bin (vv_bin (vv_slot (i := 4) rfl).w vv_int.w (mul_okR (by decide))).w (vv_bin vv_int.w (vv_slot (i := 5) rfl).w (mul_okL (by decide))).w add_okI).w vv_int.w add_okI).w).w vv_int.w (mod_okI (by decide)))) ?_
      refine exs_next (x_setS (vv_bin (int_blt (vv_bin (vv_slot (i := 4) rfl).w (vv_bin (vv_bin (vv_slot (i := 4) rfl).w vv_int.w (div_okI (by decide) (by decide))).w vv_int.w add_okI).w (mul_okL ⟨by omega, by omega⟩)).w).w vv_int.w (mod_okI (by decide)))) ?_
      obtain ⟨tw, htw⟩ : ∃ tw, tw = sd * (sd / 65537 + 3) % 2147483629 := ⟨_, rfl⟩
      show Sat (exs C _ [.val (.int n), .val (.lst (jD sz)), .own (jD ds), .val (.int n), .val (.int sd), .val (.int (i : Int)), .un, .val (.int (sd * (sd / 65537 + 3) % 2147483629))]) _
      rw [← htw]
      refine exs_next (x_app (ds := jD ds) rfl (vv_bin (vv_bin (vv_slot (i := 7) rfl).w vv_int.w (div_okI (by decide) (by decide))).w (vv_ix (vv_slot (i := 1) rfl).w (vv_slot (i := 5) rfl).w (jD_at es)).w (mod_okI s0)) (by
        simp only [jD, List.length_map]
        exact Nat.lt_of_lt_of_le (by omega) (size_ok hl))) (exs_nil ⟨ds ++ [tw / 19 % s], sd, .val (.int (i : Int)), .val (.int tw), by simp [hi], b0, b1, snoc_dg hi hd es ⟨Int.emod_nonneg _ (by omega), Int.emod_lt_of_pos _ s0⟩, ?_⟩)
      unfold jD
      rw [List.map_append]
      rfl
    · rintro σ ⟨ds, seed, w, w7, hi, _, _, hd, rfl⟩
      rw [List.length_map, List.length_range] at hi
      exact exs_rt rfl ⟨rfl, ds, rfl, hi, hd⟩
theorem Dg.at {ds sz : List Int} (h : Dg ds sz) {k : Nat} {s : Int} (hs : sz[k]? = some s) : ∃ d, ds[k]? = some d ∧ 0 ≤ d ∧ d < s := by
  have hk : k < ds.length := by
    rw [h.1]
    exact (List.getElem?_eq_some_iff.mp hs).1
  exact ⟨ds[k], List.getElem?_eq_getElem hk, h.2 k _ s (List.getElem?_eq_getElem hk) hs⟩
theorem eq_test {i j : Int} : cmpD .Eq (.int i) (.int j) = some (decide (i = j)) := by
  rw [cmp_eq', eqD_int]
theorem iD_at {l : List Nat} {i m : Nat} (h : l[i]? = some m) : ixD (.lst (iD l)) (.int (i : Int)) = some (.int (m : Int)) := by
  refine atI_nat ?_
  unfold iD
  rw [List.getElem?_map, h]
  rfl
theorem cell_ok {C : Cxt} {ns : List Int} {k : Nat} : Sat (DS.run C ⟨4, 2, bCell⟩ [.rol (jD ns), .int (k : Int)]) fun r => ∃ n, r = .v (.int n) := by
  refine run_sat rfl ?_
  have nl : (jD ns).length = ns.length := by simp [jD]
  refine exs_cons (x_ife (k := decide ((k : Int) < (ns.length : Int))) (tt_cmp (vv_slot (i := 1) rfl).w (len_blt (vv_slot (i := 0) rfl).w rfl nl).w rfl) (fun h => ?_) fun h => ?_)
  · have h := of_decide_eq_true h
    obtain ⟨m, em⟩ : ∃ m, ns[k]? = some m := ⟨_, List.getElem?_eq_getElem (by omega)⟩
    have hix : ixD (.rol (jD ns)) (.int (k : Int)) = some (.int m) := atI_nat (by
      unfold jD
      rw [List.getElem?_map, em]
      rfl)
    exact exs_rt (x_retE (ix_ev (vv_slot (i := 0) rfl).w (vv_slot (i := 1) rfl).w hix) rfl) ⟨rfl, _, rfl⟩
  · refine exs_nil ?_
    refine exs_next (σ1 := [.val (.rol (jD ns)), .val (.int (k : Int)), .val (.int 17), .un]) rfl ?_
    refine exs_cons (for_sat (σ1 := [.val (.rol (jD ns)), .val (.int (k : Int)), .val (.int 17), .un]) (rs := [.v (.rol (jD ns))]) (xs := jD ns) rfl rfl rfl
      (fun i σ => ∃ seed w, 0 ≤ seed ∧ seed < 1000003 ∧ σ = [.val (.rol (jD ns)), .val (.int (k : Int)), .val (.int seed), w]) ⟨17, .un, by decide, by decide, rfl⟩ ?_ ?_)
    · rintro i x σ hx ⟨seed, w, s0, s1, rfl⟩
      obtain ⟨m, em, rfl⟩ := jD_get hx
      refine ⟨_, rfl, exs_next (x_setS (vv_bin (int_blt (vv_bin (vv_bin (vv_slot (i := 2) rfl).w vv_int.w (mul_okR (by decide))).w (vv_bin (int_blt (vv_slot (i := 3) rfl).w).w vv_int.w (mod_okI (by decide))).w add_okI).w).w vv_int.w (mod_okI (by decide)))) (exs_nil ⟨_, _, Int.emod_nonneg _ (by decide), Int.emod_lt_of_pos _ (by decide), rfl⟩)⟩
    · rintro σ ⟨seed, w, s0, s1, rfl⟩
      exact exs_rt (x_retE (bin_ev (int_blt (vv_bin (vv_bin (vv_bin (vv_slot (i := 2) rfl).w vv_int.w add_okI).w (vv_bin (vv_slot (i := 1) rfl).w vv_int.w add_okI).w (mul_okL ⟨by omega, by omega⟩)).w vv_int.w (mul_okR (by decide))).w).w vv_int.w (mod_okI (by decide))) rfl) ⟨rfl, _, rfl⟩
theorem ints_iD : ∀ l : List Nat, ints? (iD l) = some (l.map fun k : Nat => (k : Int))
  | [] => rfl
  | k :: l => by
    show (ints? (iD l)).map ((k : Int) :: ·) = _
    rw [ints_iD l]
    rfl
theorem sort_desc (l : List Nat) : ∃ l' : List Nat, ((isort (l.map fun k : Nat => (k : Int))).reverse.map D.int) = iD l' ∧ l'.Perm l ∧ l'.Pairwise fun x y => y ≤ x := by
  obtain ⟨r, hr⟩ : ∃ r, r = (isort (l.map fun k : Nat => (k : Int))).reverse := ⟨_, rfl⟩
  have hp : r.Perm (l.map fun k : Nat => (k : Int)) := by
    rw [hr]
    exact (List.reverse_perm _).trans (List.mergeSort_perm _ _)
  have hs : r.Pairwise fun x y => y ≤ x := by
    rw [hr, List.pairwise_reverse]
    have := List.pairwise_mergeSort (le := fun a b : Int => decide (a ≤ b)) (fun a b c h1 h2 => by simp at *; omega) (fun a b => by simp; omega) (l.map fun k : Nat => (k : Int))
    exact this.imp fun h => of_decide_eq_true h
  have hn : ∀ x ∈ r, 0 ≤ x := fun x hx => by
    obtain ⟨k, _, rfl⟩ := List.mem_map.mp (hp.mem_iff.mp hx)
    omega
  have hc : (r.map Int.toNat).map (fun k : Nat => (k : Int)) = r := by
    rw [List.map_map]
    refine (List.map_congr_left fun x hx => ?_).trans (List.map_id r)
    exact Int.toNat_of_nonneg (hn x hx)
  refine ⟨r.map Int.toNat, ?_, ?_, ?_⟩
  · rw [← hr]
    unfold iD
    rw [← hc]
    simp only [List.map_map]
    refine List.map_congr_left fun x hx => ?_
    simp
  · have := hp.map Int.toNat
    rw [List.map_map] at this
    refine this.trans (List.Perm.of_eq ?_)
    exact (List.map_congr_left fun x _ => by simp).trans (List.map_id l)
  · rw [List.pairwise_map]
    exact List.Pairwise.imp_of_mem (fun {a b} ha hb hab => by omega) hs
theorem ofBits_lt (f : Nat → Bool) (n : Nat) : ofBits f n < 2 ^ n := lt_of_bits fun i hi => by
  rw [ofBits_bit]
  have : ¬ i < n := by omega
  simp [this]
theorem xor_add {a i : Nat} (h : a < 2 ^ i) : a ^^^ 2 ^ i = a + 2 ^ i := by
  have h1 := xor_and a a (2 ^ i) (Nat.le_refl _)
  have h2 : a &&& 2 ^ i = 0 := Nat.eq_of_testBit_eq fun j => by
    rw [Nat.testBit_and, Nat.zero_testBit, Nat.testBit_two_pow]
    by_cases e : i = j
    · subst e
      rw [Nat.testBit_lt_two_pow h]
      rfl
    · simp [e]
  omega
theorem ofBits_succ (f : Nat → Bool) (n : Nat) : ofBits f (n + 1) = if f n then ofBits f n + 2 ^ n else ofBits f n := by
  rw [ofBits]
  split
  · rw [xor_add (ofBits_lt f n)]
  · rw [Nat.xor_zero]

theorem has_ok {C : Cxt} {m k : Nat} : DS.run C ⟨2, 2, bHas⟩ [.int (m : Int), .int (k : Int)] = .ok (.v (.bl (m.testBit k))) :=
  run_ret (σ := [.val (.int (m : Int)), .val (.int (k : Int))]) rfl rfl (cmp_ev (vv_bin (vv_bin (vv_slot (i := 0) rfl).w (vv_slot (i := 1) rfl).w shr_ok).w vv_int.w bit_ok).w vv_int.w (by
    rw [cmp_eq']
    simp only [Ar.view]
    rw [eqD_int]
    cases m.testBit k <;> rfl)) rfl
end Nt
/-! ## Shorter rules -/
namespace Nt
open PySem PySem.Spec PyProof.Rows L2 DS Gf Bt
section
variable {C : Cxt} {σ : En} {a b c e : IR} {x y d : D} {m n i j k : Nat}
theorem ix_seq {xs : List D} (hx : seqOf x = some xs) (h : xs[i]? = some d) : ixD x (.int (i : Int)) = some d := by
  cases x <;> simp [seqOf] at hx <;> subst hx <;> exact atI_nat h
theorem v_ix {xs : List D} (ha : Vw C a σ x) (hx : seqOf x = some xs) (hb : Vw C b σ (.int (i : Int))) (h : xs[i]? = some d) : Vv C (.ix a b) σ d := vv_ix ha hb (ix_seq hx h)
theorem iD_at? {l : List Nat} (h : l[i]? = some m) : (iD l)[i]? = some (.int (m : Int)) := by
  unfold iD
  rw [List.getElem?_map, h]
  rfl
theorem iD_len (l : List Nat) : (iD l).length = l.length := by simp [iD]
theorem v_ixI {l : List Nat} (ha : Vw C a σ x) (hx : seqOf x = some (iD l)) (hb : Vw C b σ (.int (i : Int))) (h : l[i]? = some m) : Vv C (.ix a b) σ (.int (m : Int)) := v_ix ha hx hb (iD_at? h)
theorem v_shl (ha : Vw C a σ (.int (i : Int))) (hb : Vw C b σ (.int (j : Int))) (hj : j ≤ 1000000) (hi : i < 2 ^ 64) : Vv C (.bin .LShift a b) σ (.int ((i * 2 ^ j : Nat) : Int)) := vv_bin ha hb (shl_ok hj hi)
theorem v_pow (hb : Vw C b σ (.int (j : Int))) (hj : j ≤ 1000000) : Vv C (.bin .LShift (.int 1) b) σ (.int ((2 ^ j : Nat) : Int)) := by
  have h := v_shl (i := 1) (a := .int 1) (vv_int (C := C) (σ := σ) (n := 1)).w hb hj (by decide)
  rwa [Nat.one_mul] at h
theorem v_xor (ha : Vw C a σ (.int (i : Int))) (hb : Vw C b σ (.int (j : Int))) : Vv C (.bin .BitXor a b) σ (.int ((i ^^^ j : Nat) : Int)) := vv_bin ha hb xor_ok
theorem v_or (ha : Vw C a σ (.int (i : Int))) (hb : Vw C b σ (.int (j : Int))) : Vv C (.bin .BitOr a b) σ (.int ((i ||| j : Nat) : Int)) := vv_bin ha hb or_ok
theorem band_ok : binD .BitAnd (.int (i : Int)) (.int (j : Int)) = .ok (.v (.int ((i &&& j : Nat) : Int))) := rfl
theorem v_and (ha : Vw C a σ (.int (i : Int))) (hb : Vw C b σ (.int (j : Int))) : Vv C (.bin .BitAnd a b) σ (.int ((i &&& j : Nat) : Int)) := vv_bin ha hb band_ok
theorem v_add (ha : Vw C a σ (.int (i : Int))) (hb : Vw C b σ (.int (j : Int))) : Vv C (.bin .Add a b) σ (.int ((i + j : Nat) : Int)) := vv_bin ha hb add_ok
theorem v_sub (ha : Vw C a σ (.int (i : Int))) (hb : Vw C b σ (.int (j : Int))) (h : j ≤ i) : Vv C (.bin .Sub a b) σ (.int ((i - j : Nat) : Int)) := by
  rw [Int.ofNat_sub h]
  exact vv_bin ha hb sub_okI
theorem v_shr (ha : Vw C a σ (.int (i : Int))) (hb : Vw C b σ (.int (j : Int))) : Vv C (.bin .RShift a b) σ (.int ((i / 2 ^ j : Nat) : Int)) := vv_bin ha hb shr_ok
theorem v_modI {p : Int} (ha : Vw C a σ (.int p)) (hb : Vw C b σ (.int (j : Int))) (h : 0 < j) : ∃ r : Nat, r < j ∧ Vv C (.bin .Mod a b) σ (.int (r : Int)) := by
  have h1 : 0 ≤ p % (j : Int) := Int.emod_nonneg _ (by omega)
  have h2 : p % (j : Int) < j := Int.emod_lt_of_pos _ (by omega)
  refine ⟨(p % (j : Int)).toNat, by omega, ?_⟩
  rw [Int.toNat_of_nonneg h1]
  exact vv_bin ha hb (mod_okI (by omega))
theorem v_bit (ha : Vw C a σ (.int (m : Int))) (hb : Vw C b σ (.int (k : Int))) : Vv C (.bin .BitAnd (.bin .RShift a b) (.int 1)) σ (.int (((m.testBit k).toNat : Nat) : Int)) := vv_bin (vv_bin ha hb shr_ok).w vv_int.w bit_ok
theorem bit_one (q : Bool) : cmpD .Eq (.int (((q.toNat : Nat) : Int))) (.int 1) = some q := by
  rw [eq_test]
  cases q <;> rfl
theorem t_bit (ha : Vw C a σ (.int (m : Int))) (hb : Vw C b σ (.int (k : Int))) : Tt C (.cmpT .Eq (.bin .BitAnd (.bin .RShift a b) (.int 1)) (.int 1)) σ (m.testBit k) := tt_cmp (v_bit ha hb).w vv_int.w (bit_one _)
theorem t_eq {p q : Int} (ha : Vw C a σ (.int p)) (hb : Vw C b σ (.int q)) : Tt C (.cmpT .Eq a b) σ (decide (p = q)) := tt_cmp ha hb eq_test
theorem t_ne {p q : Int} (ha : Vw C a σ (.int p)) (hb : Vw C b σ (.int q)) : Tt C (.cmpT .NotEq a b) σ (!decide (p = q)) := tt_cmp ha hb (by
  rw [cmp_ne, eqD_int]
  rfl)
theorem t_lt {p q : Int} (ha : Vw C a σ (.int p)) (hb : Vw C b σ (.int q)) : Tt C (.cmpT .Lt a b) σ (decide (p < q)) := tt_cmp ha hb rfl
theorem t_gt {p q : Int} (ha : Vw C a σ (.int p)) (hb : Vw C b σ (.int q)) : Tt C (.cmpT .Gt a b) σ (decide (q < p)) := tt_cmp ha hb rfl
abbrev HasQ (φ : List D → Out Ar) : Prop := ∀ m k : Nat, φ [.int (m : Int), .int (k : Int)] = .ok (.v (.bl (m.testBit k)))
abbrev HasF (C : Cxt) (f : Nat) : Prop := HasQ (C.fn f)
theorem t_has {f : Nat} (hf : HasF C f) (ha : Vv C a σ (.int (m : Int))) (hb : Vv C b σ (.int (k : Int))) : Tt C (.tru (.call f (.cons a (.cons b .nil)))) σ (m.testBit k) := tt_tru (vv_call (vl_cons ha (vl_cons hb vl_nil)) (hf m k)).w rfl
theorem v_len {xs : List D} (ha : Vw C a σ x) (hx : seqOf x = some xs) (hn : xs.length = n) : Vv C (.blt .len (.cons a .nil)) σ (.int (n : Int)) := len_blt ha hx hn
theorem ixN_nat (h : j < n) : ixN n (j : Int) = some j := by
  unfold ixN
  rw [if_pos (by omega), if_pos (by omega), Int.toNat_natCast]
theorem x_setIx {p : Nat} {ds : List D} (ho : σ[p]? = some (.own ds)) (he : Vv C e σ d) (hk : Vw C a σ (.int (j : Int))) (hj : j < ds.length) : ex C (.setIx p a e) σ = .ok (.nx, σ.set p (.own (ds.set j d))) := by
  obtain ⟨q, hq, hv⟩ := hk
  unfold Vv at he
  simp only [ex, he, Out.bnd, ho, hq, hv, ixN_nat hj]
/-- a loop over the numbers below n -/
theorem for_r1 {v : Nat} {bd : SRs} {Q : Fl × En → Prop} (he : Vw C e σ (.int (n : Int))) (hn : n ≤ 1000000) (I : Nat → En → Prop) (h0 : I 0 σ)
    (step : ∀ (i : Nat) (σ : En), i < n → I i σ → Sat (exs C bd (σ.set v (.val (.int (i : Int))))) fun z => match z.1 with
      | .nx => I (i + 1) z.2
      | .ct => I (i + 1) z.2
      | .bk => Q (.nx, z.2)
      | .rt r => Q (.rt r, z.2)) (fin : ∀ σ, I n σ → Q (.nx, σ)) : Sat (ex C (.for_ (.nm v) .range1 (.cons e .nil) bd) σ) Q := by
  obtain ⟨q, hq, hv⟩ := he
  have hb : q = .v (.int (n : Int)) := by
    cases q with
    | v d => exact congrArg Ar.v hv
    | fr ds => cases hv
    | br i ds => cases hv
  subst hb
  refine for_sat (σ1 := σ) (rs := [.v (.int (n : Int))]) (xs := (List.range n).map fun k : Nat => D.int (k : Int)) (by simp only [evs, hq, Out.bnd]) (range1_ok hn) rfl I h0 (fun i x σ hx hI => ?_) fun σ h => fin σ (by simpa using h)
  obtain ⟨hi, rfl⟩ := getI hx
  exact ⟨_, rfl, step i σ hi hI⟩
theorem range2_ok {lo hi : Nat} (h : hi ≤ 1000000) (hl : lo ≤ 1000000) : itD .range2 [.int (lo : Int), .int (hi : Int)] = some ((List.range (hi - lo)).map fun k : Nat => D.int ((lo + k : Nat) : Int)) := by
  simp only [itD, range2D]
  rw [if_pos (by omega), rangeD_eq]
  have e : ((hi : Int) - (lo : Int)).toNat = hi - lo := by omega
  rw [e]
  rfl
/-- a loop over the numbers from lo on, below hi -/
theorem for_r2 {v lo hi : Nat} {bd : SRs} {Q : Fl × En → Prop} (ha : Vw C a σ (.int (lo : Int))) (hb : Vw C b σ (.int (hi : Int))) (hn : hi ≤ 1000000) (hl : lo ≤ 1000000) (I : Nat → En → Prop) (h0 : I 0 σ)
    (step : ∀ (i : Nat) (σ : En), i < hi - lo → I i σ → Sat (exs C bd (σ.set v (.val (.int ((lo + i : Nat) : Int))))) fun z => match z.1 with
      | .nx => I (i + 1) z.2
      | .ct => I (i + 1) z.2
      | .bk => Q (.nx, z.2)
      | .rt r => Q (.rt r, z.2)) (fin : ∀ σ, I (hi - lo) σ → Q (.nx, σ)) : Sat (ex C (.for_ (.nm v) .range2 (.cons a (.cons b .nil)) bd) σ) Q := by
  have gv : ∀ {e : IR} {w : Nat}, Vw C e σ (.int (w : Int)) → sq (ev C e σ) = .ok (.v (.int (w : Int)), σ) := fun {e w} h => by
    obtain ⟨q, hq, hv⟩ := h
    cases q with
    | v d => rw [hq]; exact congrArg (fun z => Out.ok (Ar.v z, σ)) hv
    | fr ds => cases hv
    | br i ds => cases hv
  refine for_sat (σ1 := σ) (rs := [.v (.int (lo : Int)), .v (.int (hi : Int))]) (xs := (List.range (hi - lo)).map fun k : Nat => D.int ((lo + k : Nat) : Int)) (by simp only [evs, gv ha, gv hb, Out.bnd]) (range2_ok hn hl) rfl I h0 (fun i x σ hx hI => ?_) fun σ h => fin σ (by simpa using h)
  obtain ⟨hi, rfl⟩ := getI hx
  exact ⟨_, rfl, step i σ hi hI⟩
/-- a loop over a sequence -/
theorem for_sq {v : Nat} {bd : SRs} {Q : Fl × En → Prop} {xs : List D} (he : Vv C e σ x) (hx : seqOf x = some xs) (I : Nat → En → Prop) (h0 : I 0 σ)
    (step : ∀ (i : Nat) (y : D) (σ : En), xs[i]? = some y → I i σ → Sat (exs C bd (σ.set v (.val y))) fun z => match z.1 with
      | .nx => I (i + 1) z.2
      | .ct => I (i + 1) z.2
      | .bk => Q (.nx, z.2)
      | .rt r => Q (.rt r, z.2)) (fin : ∀ σ, I xs.length σ → Q (.nx, σ)) : Sat (ex C (.for_ (.nm v) .seq (.cons e .nil) bd) σ) Q := by
  unfold Vv at he
  exact for_sat (σ1 := σ) (rs := [.v x]) (xs := xs) (by simp only [evs, he, Out.bnd]) hx rfl I h0 (fun i y σ hy hI => ⟨_, rfl, step i y σ hy hI⟩) fin
/-- a loop over pairs -/
theorem for_sq2 {v w : Nat} {bd : SRs} {Q : Fl × En → Prop} {xs : List D} (he : Vv C e σ x) (hx : seqOf x = some xs) (I : Nat → En → Prop) (h0 : I 0 σ)
    (step : ∀ (i : Nat) (q : D) (σ : En), xs[i]? = some q → I i σ → ∃ y z, (q = .tup [y, z] ∨ q = .lst [y, z]) ∧ Sat (exs C bd ((σ.set v (.val y)).set w (.val z))) fun z => match z.1 with
      | .nx => I (i + 1) z.2
      | .ct => I (i + 1) z.2
      | .bk => Q (.nx, z.2)
      | .rt r => Q (.rt r, z.2)) (fin : ∀ σ, I xs.length σ → Q (.nx, σ)) : Sat (ex C (.for_ (.tp [v, w]) .seq (.cons e .nil) bd) σ) Q := by
  unfold Vv at he
  refine for_sat (σ1 := σ) (rs := [.v x]) (xs := xs) (by simp only [evs, he, Out.bnd]) hx rfl I h0 (fun i q σ hq hI => ?_) fin
  obtain ⟨y, z, hh, h⟩ := step i q σ hq hI
  rcases hh with rfl | rfl <;> exact ⟨_, rfl, h⟩
/-- a loop over a sequence, counted -/
theorem for_en {v w : Nat} {bd : SRs} {Q : Fl × En → Prop} {xs : List D} (he : Vv C e σ x) (hx : seqOf x = some xs) (I : Nat → En → Prop) (h0 : I 0 σ)
    (step : ∀ (i : Nat) (y : D) (σ : En), xs[i]? = some y → I i σ → Sat (exs C bd ((σ.set v (.val (.int (i : Int)))).set w (.val y))) fun z => match z.1 with
      | .nx => I (i + 1) z.2
      | .ct => I (i + 1) z.2
      | .bk => Q (.nx, z.2)
      | .rt r => Q (.rt r, z.2)) (fin : ∀ σ, I xs.length σ → Q (.nx, σ)) : Sat (ex C (.for_ (.tp [v, w]) .enum (.cons e .nil) bd) σ) Q := by
  unfold Vv at he
  obtain ⟨e1, e2⟩ := enumD_eq xs 0
  refine for_sat (σ1 := σ) (rs := [.v x]) (xs := enumD 0 xs) (by simp only [evs, he, Out.bnd]) (by simp [itD, seq1D, Ar.view, hx]) rfl I h0 (fun i q σ hq hI => ?_) fun σ h => fin σ (by rwa [e1] at h)
  rw [e2 i] at hq
  cases hy : xs[i]? with
  | none => rw [hy] at hq; cases hq
  | some y =>
    rw [hy] at hq
    have hq : D.pr (.int ((0 + i : Nat) : Int)) y = q := Option.some.inj hq
    subst hq
    rw [Nat.zero_add]
    exact ⟨_, rfl, step i y σ hy hI⟩
/-- a comprehension -/
theorem comp_g0 {α : Type} {t : Tg} {own : List Nat} {kd : ItK} {es : IRs} {ifs : IR} {rs : List Ar} {l : List α} {f : α → D} {p : α → Bool} {h : α → D} {σ0 : En} (τ : α → En) (he : evs C es σ0 = .ok (rs, σ)) (hx : itD kd (rs.map Ar.view) = some (l.map f)) (hb : rs.any Ar.isB = false)
    (hn : noOwn σ own = true) (hw : wipeE σ own = σ) (hk : backE σ σ own = σ) (ha : ∀ a ∈ l, asg t (f a) σ = some (τ a)) (ht : ∀ a ∈ l, wipeE (τ a) own = σ) (hi : ∀ a ∈ l, Tt C ifs (τ a) (p a)) (hv : ∀ a ∈ l, p a = true → Vv C e (τ a) (h a)) (hl : l.length ≤ 1000000) :
    ev C (.comp t own kd es ifs e) σ0 = .ok (.fr ((l.filter p).map h), σ) := by
  have hbig : ∀ (l : List α) (q : D → Option D), (∀ a ∈ l, q (f a) = if p a = true then some (h a) else none) → (l.map f).filterMap q = (l.filter p).map h := by
    intro l q hq
    induction l with
    | nil => rfl
    | cons a l ih =>
      rw [List.map_cons, List.filterMap_cons, hq a (List.mem_cons_self ..), List.filter_cons, ih fun b hb => hq b (List.mem_cons_of_mem _ hb)]
      cases p a <;> rfl
  have hlen : (l.filter p).length ≤ l.length := List.length_filter_le _ _
  obtain ⟨q, hq⟩ : ∃ q : D → Option D, ∀ x ∈ l.map f, turnOf C t own ifs e x (wipeE σ own) = .ok (q x, wipeE σ own) := by
    refine ⟨fun x => match turnOf C t own ifs e x (wipeE σ own) with
      | .ok z => z.1
      | _ => none, fun x hx => ?_⟩
    obtain ⟨a, ha', rfl⟩ := List.mem_map.mp hx
    rw [hw]
    have h1 := hi a ha'
    cases hp : p a with
    | true =>
      rw [hp] at h1
      have e1 : turnOf C t own ifs e (f a) σ = .ok (some (h a), σ) := by rw [turn_some (ha a ha') h1 (hv a ha' hp), ht a ha']
      simp only [e1]
    | false =>
      rw [hp] at h1
      have e1 : turnOf C t own ifs e (f a) σ = .ok (none, σ) := by rw [turn_none (ha a ha') h1, ht a ha']
      simp only [e1]
  have hq2 : ∀ a ∈ l, q (f a) = if p a = true then some (h a) else none := fun a ha' => by
    have h0 := hq (f a) (List.mem_map_of_mem ha')
    have h1 := hi a ha'
    rw [hw] at h0
    cases hp : p a with
    | true =>
      rw [hp] at h1
      rw [turn_some (ha a ha') h1 (hv a ha' hp)] at h0
      have := congrArg (fun z : Out (Option D × En) => match z with | .ok z => z.1 | _ => none) h0
      simpa using this.symm
    | false =>
      rw [hp] at h1
      rw [turn_none (ha a ha') h1] at h0
      have := congrArg (fun z : Out (Option D × En) => match z with | .ok z => z.1 | _ => none) h0
      simpa using this.symm
  have hf := hbig l q hq2
  have := comp_eq (C := C) he hx hb hn hq (by
    rw [hf, List.length_map]
    exact size_ok (by omega))
  rw [this, hf, hw, hk]
theorem comp_m0 {α : Type} {t : Tg} {own : List Nat} {kd : ItK} {es : IRs} {rs : List Ar} {l : List α} {f : α → D} {h : α → D} {σ0 : En} (τ : α → En) (he : evs C es σ0 = .ok (rs, σ)) (hx : itD kd (rs.map Ar.view) = some (l.map f)) (hb : rs.any Ar.isB = false)
    (hn : noOwn σ own = true) (hw : wipeE σ own = σ) (hk : backE σ σ own = σ) (ha : ∀ a ∈ l, asg t (f a) σ = some (τ a)) (ht : ∀ a ∈ l, wipeE (τ a) own = σ) (hv : ∀ a ∈ l, Vv C e (τ a) (h a)) (hl : l.length ≤ 1000000) :
    ev C (.comp t own kd es (.bl true) e) σ0 = .ok (.fr (l.map h), σ) := by
  have := comp_g0 (C := C) (p := fun _ => true) τ he hx hb hn hw hk ha ht (fun a _ => tt_true) (fun a h _ => hv a h) hl
  rwa [List.filter_eq_self.mpr fun _ _ => rfl] at this
theorem comp_g {α : Type} {t : Tg} {own : List Nat} {kd : ItK} {es : IRs} {ifs : IR} {rs : List Ar} {l : List α} {f : α → D} {p : α → Bool} {h : α → D} (τ : α → En) (he : evs C es σ = .ok (rs, σ)) (hx : itD kd (rs.map Ar.view) = some (l.map f)) (hb : rs.any Ar.isB = false)
    (hn : noOwn σ own = true) (hw : wipeE σ own = σ) (hk : backE σ σ own = σ) (ha : ∀ a ∈ l, asg t (f a) σ = some (τ a)) (ht : ∀ a ∈ l, wipeE (τ a) own = σ) (hi : ∀ a ∈ l, Tt C ifs (τ a) (p a)) (hv : ∀ a ∈ l, p a = true → Vv C e (τ a) (h a)) (hl : l.length ≤ 1000000) :
    ev C (.comp t own kd es ifs e) σ = .ok (.fr ((l.filter p).map h), σ) := comp_g0 τ he hx hb hn hw hk ha ht hi hv hl
theorem comp_m {α : Type} {t : Tg} {own : List Nat} {kd : ItK} {es : IRs} {rs : List Ar} {l : List α} {f : α → D} {h : α → D} (τ : α → En) (he : evs C es σ = .ok (rs, σ)) (hx : itD kd (rs.map Ar.view) = some (l.map f)) (hb : rs.any Ar.isB = false)
    (hn : noOwn σ own = true) (hw : wipeE σ own = σ) (hk : backE σ σ own = σ) (ha : ∀ a ∈ l, asg t (f a) σ = some (τ a)) (ht : ∀ a ∈ l, wipeE (τ a) own = σ) (hv : ∀ a ∈ l, Vv C e (τ a) (h a)) (hl : l.length ≤ 1000000) :
    ev C (.comp t own kd es (.bl true) e) σ = .ok (.fr (l.map h), σ) := comp_m0 τ he hx hb hn hw hk ha ht hv hl
theorem tuple_ev {ds : List D} {σ1 : En} (h : ev C e σ = .ok (.fr ds, σ1)) : ev C (.blt .tuple (.cons e .nil)) σ = .ok (.v (.tup ds), σ1) := by
  simp only [ev, evs, h, sq, Out.bnd, Ar.seal]
  rfl
theorem set_ev {p : Nat} {ds : List D} (h : ev C e σ = .ok (.fr ds, σ)) : ex C (.set p e) σ = .ok (.nx, σ.set p (.own ds)) := by
  simp only [ex, h, Out.bnd]
theorem sq_fr {ds : List D} (h : ev C e σ = .ok (.fr ds, σ)) : Vv C e σ (.lst ds) := sq_of h rfl
theorem list_ev {xs : List D} (ha : Vw C a σ x) (hx : seqOf x = some xs) : ev C (.blt .list (.cons a .nil)) σ = .ok (.fr xs, σ) := blt_ev (wl_cons ha wl_nil) (by
  show (match seqOf x with | some ys => Out.ok (Ar.fr ys) | none => _) = _
  rw [hx])
end
end Nt
/-! ## Nets as lists of masks -/
namespace Nt
open Gf Bt
def bt (M : List Nat) (i k : Nat) : Bool := (M.getD i 0).testBit k
/-- masks of a net with n points -/
structure Gd (n : Nat) (M : List Nat) : Prop where
  len : M.length = n
  inn : ∀ i k, bt M i k = true → i < n ∧ k < n ∧ i ≠ k
  sym : ∀ i k, bt M i k = bt M k i
theorem Gd.irr {n : Nat} {M : List Nat} (h : Gd n M) (i : Nat) : bt M i i = false := by
  cases e : bt M i i with
  | false => rfl
  | true => exact ((h.inn i i e).2.2 rfl).elim
theorem Gd.at {n : Nat} {M : List Nat} (h : Gd n M) {i : Nat} (hi : i < n) : ∃ m, M[i]? = some m ∧ (∀ k, m.testBit k = bt M i k) ∧ m < 2 ^ n := by
  have hl : i < M.length := by rw [h.len]; exact hi
  have e : M.getD i 0 = M[i] := getD_at 0 hl
  refine ⟨M[i], List.getElem?_eq_getElem hl, fun k => by unfold bt; rw [e], lt_of_bits fun k hk => ?_⟩
  cases q : M[i].testBit k with
  | false => rfl
  | true =>
    have : bt M i k = true := by unfold bt; rw [e]; exact q
    have := (h.inn i k this).2.1
    omega
theorem masks_ext {n : Nat} {M N : List Nat} (h : M.length = n) (k : N.length = n) (e : ∀ i j, i < n → bt M i j = bt N i j) : M = N := by
  refine List.ext_getElem (h.trans k.symm) fun i h1 h2 => Nat.eq_of_testBit_eq fun j => ?_
  have := e i j (by omega)
  unfold bt at this
  rwa [getD_at 0 h1, getD_at 0 h2] at this
theorem Gd.ext {n : Nat} {M N : List Nat} (h : Gd n M) (k : Gd n N) (e : ∀ i j, i < n → j < n → bt M i j = bt N i j) : M = N := masks_ext h.len k.len fun i j hi => by
  by_cases hj : j < n
  · exact e i j hi hj
  · have h1 : bt M i j = false := by
      cases q : bt M i j with
      | false => rfl
      | true => have := (h.inn i j q).2.1; omega
    have h2 : bt N i j = false := by
      cases q : bt N i j with
      | false => rfl
      | true => have := (k.inn i j q).2.1; omega
    rw [h1, h2]
/-- the masks that a relation gives -/
def mk (n : Nat) (f : Nat → Nat → Bool) : List Nat := (List.range n).map fun i => ofBits (f i) n
theorem mk_len (n : Nat) (f : Nat → Nat → Bool) : (mk n f).length = n := by simp [mk]
theorem mk_at {n : Nat} {f : Nat → Nat → Bool} {i : Nat} (h : i < n) : (mk n f)[i]? = some (ofBits (f i) n) := by
  unfold mk
  rw [List.getElem?_map, List.getElem?_range h]
  rfl
theorem bt_mk (n : Nat) (f : Nat → Nat → Bool) (i k : Nat) : bt (mk n f) i k = (decide (i < n) && (decide (k < n) && f i k)) := by
  unfold bt
  by_cases h : i < n
  · have : (mk n f).getD i 0 = ofBits (f i) n := by simp [List.getD, mk_at h]
    rw [this, ofBits_bit, decide_eq_true h, Bool.true_and]
  · have : (mk n f).getD i 0 = 0 := by
      have : (mk n f)[i]? = none := List.getElem?_eq_none (by rw [mk_len]; omega)
      simp [List.getD, this]
    rw [this, Nat.zero_testBit, decide_eq_false h, Bool.false_and]
theorem mk_gd {n : Nat} {f : Nat → Nat → Bool} (hs : ∀ i k, i < n → k < n → f i k = f k i) (hi : ∀ i, i < n → f i i = false) : Gd n (mk n f) where
  len := mk_len n f
  inn := fun i k h => by
    rw [bt_mk] at h
    simp only [Bool.and_eq_true, decide_eq_true_eq] at h
    obtain ⟨h1, h2, h3⟩ := h
    refine ⟨h1, h2, fun e => ?_⟩
    subst e
    rw [hi i h1] at h3
    cases h3
  sym := fun i k => by
    rw [bt_mk, bt_mk]
    by_cases h1 : i < n <;> by_cases h2 : k < n
    · simp [h1, h2, hs i k h1 h2]
    · simp [h1, h2]
    · simp [h1, h2]
    · simp [h1, h2]
theorem bt_set (M : List Nat) (a m i k : Nat) : bt (M.set a m) i k = if i = a ∧ a < M.length then m.testBit k else bt M i k := by
  unfold bt
  by_cases h : i = a ∧ a < M.length
  · obtain ⟨rfl, h2⟩ := h
    rw [if_pos ⟨rfl, h2⟩]
    simp [List.getD, List.getElem?_set, h2]
  · rw [if_neg h]
    by_cases h1 : i = a
    · subst h1
      have h2 : ¬ i < M.length := fun q => h ⟨rfl, q⟩
      simp [List.getD, List.getElem?_set, h2]
    · have : a ≠ i := fun q => h1 q.symm
      simp [List.getD, List.getElem?_set, this]
theorem tb_pow (k j : Nat) : (2 ^ k).testBit j = decide (k = j) := Nat.testBit_two_pow ..
/-- both bits of a pair are changed by op -/
theorem pair_gd {n : Nat} {M : List Nat} (h : Gd n M) {a b : Nat} (ha : a < n) (hb : b < n) (hab : a ≠ b) {x y : Nat} (g : Bool → Bool)
    (hx : ∀ k, x.testBit k = if k = b then g (bt M a b) else bt M a k) (hy : ∀ k, y.testBit k = if k = a then g (bt M b a) else bt M b k) :
    Gd n ((M.set a x).set b y) ∧ ∀ i k, bt ((M.set a x).set b y) i k = if (i = a ∧ k = b) ∨ (i = b ∧ k = a) then g (bt M i k) else bt M i k := by
  have hl := h.len
  have key : ∀ i k, bt ((M.set a x).set b y) i k = if (i = a ∧ k = b) ∨ (i = b ∧ k = a) then g (bt M i k) else bt M i k := by
    intro i k
    rw [bt_set, List.length_set, bt_set]
    by_cases h1 : i = b
    · subst h1
      have h2 : i ≠ a := fun q => hab q.symm
      rw [if_pos ⟨rfl, by omega⟩, hy]
      by_cases h3 : k = a
      · subst h3
        rw [if_pos rfl, if_pos (Or.inr ⟨rfl, rfl⟩)]
      · rw [if_neg h3, if_neg (fun q => q.elim (fun q => h2 q.1) fun q => h3 q.2)]
    · rw [if_neg (fun q => h1 q.1)]
      by_cases h2 : i = a
      · subst h2
        rw [if_pos ⟨rfl, by omega⟩, hx]
        by_cases h3 : k = b
        · subst h3
          rw [if_pos rfl, if_pos (Or.inl ⟨rfl, rfl⟩)]
        · rw [if_neg h3, if_neg (fun q => q.elim (fun q => h3 q.2) fun q => h1 q.1)]
      · rw [if_neg (fun q => h2 q.1), if_neg (fun q => q.elim (fun q => h2 q.1) fun q => h1 q.1)]
  refine ⟨⟨by rw [List.length_set, List.length_set]; exact hl, fun i k q => ?_, fun i k => ?_⟩, key⟩
  · rw [key] at q
    by_cases c : (i = a ∧ k = b) ∨ (i = b ∧ k = a)
    · rcases c with ⟨rfl, rfl⟩ | ⟨rfl, rfl⟩
      · exact ⟨ha, hb, hab⟩
      · exact ⟨hb, ha, fun e => hab e.symm⟩
    · rw [if_neg c] at q
      exact h.inn i k q
  · rw [key, key]
    by_cases c : (i = a ∧ k = b) ∨ (i = b ∧ k = a)
    · rw [if_pos c, if_pos (c.elim (fun q => .inr ⟨q.2, q.1⟩) fun q => .inl ⟨q.2, q.1⟩), h.sym]
    · rw [if_neg c, if_neg (fun q => c (q.elim (fun q => .inr ⟨q.2, q.1⟩) fun q => .inl ⟨q.2, q.1⟩)), h.sym]
theorem or_pow (m b k : Nat) : (m ||| 2 ^ b).testBit k = if k = b then true else m.testBit k := by
  rw [Nat.testBit_or, tb_pow]
  by_cases h : k = b
  · subst h; simp
  · rw [if_neg h, decide_eq_false (fun q => h q.symm), Bool.or_false]
theorem xor_pow (m b k : Nat) : (m ^^^ 2 ^ b).testBit k = if k = b then !m.testBit b else m.testBit k := by
  rw [Nat.testBit_xor, tb_pow]
  by_cases h : k = b
  · subst h; simp
  · rw [if_neg h, decide_eq_false (fun q => h q.symm), Bool.xor_false]
theorem add_pow {m b : Nat} (h : m.testBit b = false) : m + 2 ^ b = m ^^^ 2 ^ b := by
  have h1 := xor_and m m (2 ^ b) (Nat.le_refl _)
  have h2 : m &&& 2 ^ b = 0 := Nat.eq_of_testBit_eq fun k => by
    rw [Nat.testBit_and, tb_pow, Nat.zero_testBit]
    by_cases q : b = k
    · subst q; rw [h, Bool.false_and]
    · rw [decide_eq_false q, Bool.and_false]
  rw [h2] at h1
  omega
theorem bt_zeros (n i k : Nat) : bt (List.replicate n 0) i k = false := by
  unfold bt
  rw [List.getD_eq_getElem?_getD, List.getElem?_replicate]
  split <;> simp
theorem zeros_gd (n : Nat) : Gd n (List.replicate n 0) where
  len := List.length_replicate ..
  inn := fun i k h => by
    rw [bt_zeros] at h
    cases h
  sym := fun i k => by rw [bt_zeros, bt_zeros]
/-- the pairs of numbers below n, in order -/
def prs (n : Nat) : List (Nat × Nat) := (List.range n).flatMap fun i => (List.range (n - (i + 1))).map fun k => (i, i + 1 + k)
theorem mem_prs {n : Nat} {q : Nat × Nat} : q ∈ prs n ↔ q.1 < q.2 ∧ q.2 < n := by
  unfold prs
  simp only [List.mem_flatMap, List.mem_range, List.mem_map]
  constructor
  · rintro ⟨i, hi, k, hk, rfl⟩
    exact ⟨by show i < i + 1 + k; omega, by show i + 1 + k < n; omega⟩
  · rintro ⟨h1, h2⟩
    exact ⟨q.1, by omega, q.2 - (q.1 + 1), by omega, by
      refine Prod.ext rfl ?_
      show q.1 + 1 + (q.2 - (q.1 + 1)) = q.2
      omega⟩
theorem nodup_prs (n : Nat) : (prs n).Nodup := by
  unfold prs
  rw [List.Nodup, List.pairwise_flatMap]
  refine ⟨fun i _ => ?_, ?_⟩
  · rw [List.pairwise_map]
    exact List.nodup_range.imp fun {a b} h e => h (by have := congrArg Prod.snd e; simp at this; exact this)
  · refine List.nodup_range.imp fun {a b} h => ?_
    intro x hx y hy e
    obtain ⟨k, _, rfl⟩ := List.mem_map.mp hx
    obtain ⟨k', _, rfl⟩ := List.mem_map.mp hy
    exact h (congrArg Prod.fst e)
theorem prs_len (n : Nat) (h : n ≤ 1000) : (prs n).length ≤ 1000000 := by
  unfold prs
  rw [List.length_flatMap]
  have : ∀ l : List Nat, (l.map fun i => ((List.range (n - (i + 1))).map fun k => (i, i + 1 + k)).length).sum ≤ l.length * n := by
    intro l
    induction l with
    | nil => simp
    | cons a l ih =>
      simp only [List.map_cons, List.sum_cons, List.length_cons, List.length_map, List.length_range] at ih ⊢
      rw [Nat.add_mul]
      omega
  have h2 := this (List.range n)
  rw [List.length_range] at h2
  have : n * n ≤ 1000 * 1000 := Nat.mul_le_mul h h
  omega
end Nt
/-! ## The program's cores, cuts and splits -/
namespace Nt
open PySem PySem.Spec PyProof.Rows L2 DS Gf Bt
def bitsL (n m : Nat) : List Nat := (List.range n).filter m.testBit
theorem rfilter {p : Nat → Bool} {b : Nat} : ∀ n, b ≤ n → (∀ k, b ≤ k → p k = false) → (List.range n).filter p = (List.range b).filter p
  | 0, h, _ => by rw [Nat.le_zero.mp h]
  | n + 1, h, hp => by
    by_cases e : b = n + 1
    · rw [e]
    · rw [List.range_succ, List.filter_append, rfilter n (by omega) hp]
      simp [hp n (by omega)]
theorem intBits_nat (m : Nat) : Builtin.Int.intBits (m : Int) = if m = 0 then 0 else m.log2 + 1 := by
  unfold Builtin.Int.intBits
  by_cases h : m = 0
  · subst h
    rfl
  · have : ((m : Int) == 0) = false := by simp; exact h
    rw [this, if_neg h]
    simp
theorem above_bits {m k : Nat} (h : Builtin.Int.intBits (m : Int) ≤ k) : m.testBit k = false := by
  rw [intBits_nat] at h
  by_cases e : m = 0
  · subst e
    exact Nat.zero_testBit k
  · rw [if_neg e] at h
    exact log2_above h
theorem bits_le {n m : Nat} (h : m < 2 ^ n) : Builtin.Int.intBits (m : Int) ≤ n := by
  rw [intBits_nat]
  by_cases e : m = 0
  · rw [if_pos e]
    exact Nat.zero_le _
  · rw [if_neg e]
    exact (Nat.log2_lt e).mpr h
theorem bitsL_bits {n m : Nat} (h : m < 2 ^ n) : (List.range (Builtin.Int.intBits (m : Int))).filter m.testBit = bitsL n m := (rfilter n (bits_le h) fun k => above_bits).symm
theorem mem_bitsL {n m k : Nat} : k ∈ bitsL n m ↔ k < n ∧ m.testBit k = true := by
  unfold bitsL
  rw [List.mem_filter, List.mem_range]
theorem bitsL_len (n m : Nat) : (bitsL n m).length ≤ n := by
  have := List.length_filter_le m.testBit (List.range n)
  rwa [List.length_range] at this
def bIdx : SRs := (.cons (.ret (.blt .tuple (.cons (.comp (.nm 1) [1] .range1 (.cons (.op .bitlen (.cons (.slot 0) .nil)) .nil) (.cmpT .Eq (.bin .BitAnd (.bin .RShift (.slot 0) (.slot 1)) (.int 1)) (.int 1)) (.slot 1)) .nil))) .nil)
theorem index_ok {C : Cxt} {n m : Nat} (h : m < 2 ^ n) (hn : n ≤ 1000000) : DS.run C ⟨2, 1, bIdx⟩ [.int (m : Int)] = .ok (.v (.tup (iD (bitsL n m)))) := by
  have hb := bits_le h
  refine run_ret (σ := [.val (.int (m : Int)), .un]) rfl rfl (tuple_ev ?_) rfl
  have := comp_g (C := C) (σ := [.val (.int (m : Int)), .un]) (t := .nm 1) (own := [1]) (kd := .range1) (es := .cons (.op .bitlen (.cons (.slot 0) .nil)) .nil) (ifs := .cmpT .Eq (.bin .BitAnd (.bin .RShift (.slot 0) (.slot 1)) (.int 1)) (.int 1)) (e := .slot 1) (rs := [.v (.int ((Builtin.Int.intBits (m : Int) : Nat) : Int))]) (l := List.range (Builtin.Int.intBits (m : Int))) (f := fun k => .int (k : Int)) (p := m.testBit) (h := fun k => .int (k : Int))
    (fun k => [.val (.int (m : Int)), .val (.int (k : Int))]) rfl (range1_ok (by omega)) rfl rfl rfl rfl (fun _ _ => rfl) (fun _ _ => rfl) (fun k _ => t_bit (vv_slot (i := 0) rfl).w (vv_slot (i := 1) rfl).w) (fun k _ _ => vv_slot rfl) (by rw [List.length_range]; omega)
  rw [bitsL_bits h] at this
  exact this
/-! ### counting bits -/
theorem and_pred {m : Nat} (h : m ≠ 0) (k : Nat) : (m &&& (m - 1)).testBit k = (m.testBit k && !decide (k = lo m)) := by
  obtain ⟨L, hL⟩ : ∃ L, L = lo m := ⟨_, rfl⟩
  obtain ⟨q, hq⟩ : ∃ q, q = m / 2 ^ (lo m + 1) := ⟨_, rfl⟩
  have e := lo_form h
  rw [← hq, ← hL] at e
  have hp : 0 < 2 ^ L := Nat.two_pow_pos L
  have hs : 2 ^ (L + 1) = 2 ^ L * 2 := Nat.pow_succ ..
  have e1 : m = 2 ^ (L + 1) * q + 2 ^ L := by
    rw [e, hs, Nat.mul_add, Nat.mul_one, Nat.mul_assoc]
  have e2 : m - 1 = 2 ^ (L + 1) * q + (2 ^ L - 1) := by
    rw [e1]
    omega
  have b1 : 2 ^ L < 2 ^ (L + 1) := by omega
  have b2 : 2 ^ L - 1 < 2 ^ (L + 1) := by omega
  rw [Nat.testBit_and, ← hL, e2]
  have t1 : m.testBit k = if k < L + 1 then (2 ^ L).testBit k else q.testBit (k - (L + 1)) := by
    rw [e1]
    exact Nat.testBit_two_pow_mul_add q b1 k
  rw [t1, Nat.testBit_two_pow_mul_add q b2 k]
  by_cases c : k < L + 1
  · rw [if_pos c, if_pos c, tb_pow, Nat.testBit_two_pow_sub_one]
    by_cases d : L = k
    · subst d
      simp
    · rw [decide_eq_false d]
      simp
  · rw [if_neg c, if_neg c, decide_eq_false (show ¬ k = L by omega), Bool.and_self, Bool.not_false, Bool.and_true]
theorem filter_less {l : List Nat} (hn : l.Nodup) {p : Nat → Bool} {a : Nat} (ha : a ∈ l) (hp : p a = true) : (l.filter fun k => p k && !decide (k = a)).length + 1 = (l.filter p).length := by
  induction l with
  | nil => cases ha
  | cons b l ih =>
    obtain ⟨h1, h2⟩ := List.nodup_cons.mp hn
    by_cases e : b = a
    · subst e
      have : (l.filter fun k => p k && !decide (k = b)) = l.filter p := List.filter_congr fun k hk => by
        have : k ≠ b := fun q => h1 (q ▸ hk)
        simp [this]
      rw [List.filter_cons, List.filter_cons, if_neg (by simp), if_pos hp, this]
      rfl
    · have hal : a ∈ l := by
        rcases List.mem_cons.mp ha with q | q
        · exact (e q.symm).elim
        · exact q
      rw [List.filter_cons, List.filter_cons]
      have : (p b && !decide (b = a)) = p b := by simp [e]
      rw [this]
      cases hb : p b with
      | true =>
        rw [if_pos rfl, if_pos rfl, List.length_cons, List.length_cons, ih h2 hal]
      | false =>
        rw [if_neg (by simp), if_neg (by simp)]
        exact ih h2 hal
theorem lo_lt {n m : Nat} (h : m < 2 ^ n) (h0 : m ≠ 0) : lo m < n := Nat.lt_of_not_le fun q => by
  have := lo_set h0
  rw [Nat.testBit_lt_two_pow (Nat.lt_of_lt_of_le h (Nat.pow_le_pow_right (by decide) q))] at this
  cases this
theorem pc_less {n m : Nat} (h : m < 2 ^ n) (h0 : m ≠ 0) : (bitsL n (m &&& (m - 1))).length + 1 = (bitsL n m).length := by
  have e : bitsL n (m &&& (m - 1)) = (List.range n).filter fun k => m.testBit k && !decide (k = lo m) := List.filter_congr fun k _ => and_pred h0 k
  rw [e]
  exact filter_less List.nodup_range (List.mem_range.mpr (lo_lt h h0)) (lo_set h0)
theorem pc_zero (n : Nat) : bitsL n 0 = [] := by
  unfold bitsL
  rw [List.filter_eq_nil_iff]
  intro k _
  rw [Nat.zero_testBit]
  simp
section
variable {C : Cxt} {σ : En}
theorem while_sat {c b : En → Out (Ar × En)} {bd : En → Out (Fl × En)} {Q : Fl × En → Prop} (I : Nat → En → Prop)
    (step : ∀ (n : Nat) (σ : En), I n σ → (c σ = .ok (.v (.bl false), σ) ∧ Q (.nx, σ)) ∨ (c σ = .ok (.v (.bl true), σ) ∧ Sat (bd σ) fun z => match z.1 with
      | .nx => ∃ n', n' < n ∧ I n' z.2
      | .ct => ∃ n', n' < n ∧ I n' z.2
      | .bk => Q (.nx, z.2)
      | .rt r => Q (.rt r, z.2))) : ∀ (f n : Nat) (σ : En), n < f → I n σ → Sat (whileLoop c bd f σ) Q
  | 0, n, σ, h, _ => absurd h (Nat.not_lt_zero n)
  | f + 1, n, σ, h, hI => by
    unfold whileLoop
    rcases step n σ hI with ⟨e, q⟩ | ⟨e, ⟨fl, σ2⟩, e2, q⟩
    · rw [e]
      exact ⟨_, rfl, q⟩
    · rw [e]
      dsimp only [Out.bnd]
      rw [if_pos rfl, e2]
      cases fl with
      | nx => obtain ⟨n', h1, h2⟩ := q; exact while_sat (b := b) I step f n' σ2 (by omega) h2
      | ct => obtain ⟨n', h1, h2⟩ := q; exact while_sat (b := b) I step f n' σ2 (by omega) h2
      | bk => exact ⟨_, rfl, q⟩
      | rt r => exact ⟨_, rfl, q⟩
theorem whl_sat {c : IR} {b : SRs} {Q : Fl × En → Prop} {N : Nat} (I : Nat → En → Prop) (hN : N < C.fuel) (h0 : I N σ)
    (step : ∀ (n : Nat) (σ : En), I n σ → (Tt C c σ false ∧ Q (.nx, σ)) ∨ (Tt C c σ true ∧ Sat (exs C b σ) fun z => match z.1 with
      | .nx => ∃ n', n' < n ∧ I n' z.2
      | .ct => ∃ n', n' < n ∧ I n' z.2
      | .bk => Q (.nx, z.2)
      | .rt r => Q (.rt r, z.2))) : Sat (ex C (.whl c b) σ) Q := by
  rw [ex]
  exact while_sat (b := ev C c) I step C.fuel N σ hN h0
theorem x_augI {i : Nat} {e : IR} {x y : Int} (h0 : σ[i]? = some (.val (.int x))) (h : Vv C e σ (.int y)) : ex C (.aug i .Add e) σ = .ok (.nx, σ.set i (.val (.int (x + y)))) := by
  unfold Vv at h
  simp only [ex, h0, h, Out.bnd]
  rfl
end
def bCnt : SRs := (.cons (.setS 1 (.int 0)) (.cons (.setS 2 (.slot 0)) (.cons (.whl (.cmpT .NotEq (.slot 2) (.int 0)) (.cons (.setS 2 (.bin .BitAnd (.slot 2) (.bin .Sub (.slot 2) (.int 1)))) (.cons (.aug 1 .Add (.int 1)) .nil))) (.cons (.ret (.slot 1)) .nil))))
theorem count_ok {C : Cxt} {n m : Nat} (hf : n < C.fuel) (h : m < 2 ^ n) : DS.run C ⟨3, 1, bCnt⟩ [.int (m : Int)] = .ok (.v (.int ((bitsL n m).length : Nat))) := Sat.eq <| by
  refine run_sat rfl ?_
  refine exs_next (σ1 := [.val (.int (m : Int)), .val (.int 0), .un]) rfl ?_
  refine exs_next (σ1 := [.val (.int (m : Int)), .val (.int 0), .val (.int (m : Int))]) rfl ?_
  refine exs_cons (whl_sat (N := (bitsL n m).length) (fun t σ => ∃ r c : Nat, r < 2 ^ n ∧ c + (bitsL n r).length = (bitsL n m).length ∧ t = (bitsL n r).length ∧ σ = [.val (.int (m : Int)), .val (.int (c : Int)), .val (.int (r : Int))]) (Nat.lt_of_le_of_lt (bitsL_len n m) hf) ⟨m, 0, h, Nat.zero_add _, rfl, rfl⟩ ?_)
  rintro t σ ⟨r, c, hr, hc, rfl, rfl⟩
  by_cases h0 : r = 0
  · subst h0
    left
    refine ⟨t_ne (p := 0) (q := 0) (vv_slot (i := 2) rfl).w vv_int.w, ?_⟩
    rw [pc_zero, List.length_nil, Nat.add_zero] at hc
    subst hc
    exact exs_rt rfl ⟨rfl, rfl⟩
  · right
    have e : (!decide ((r : Int) = 0)) = true := by
      rw [decide_eq_false (by omega)]
      rfl
    refine ⟨e ▸ t_ne (vv_slot (i := 2) rfl).w vv_int.w, ?_⟩
    refine exs_next (x_setS (v_and (vv_slot (i := 2) rfl).w (v_sub (j := 1) (vv_slot (i := 2) rfl).w vv_int.w (by omega)).w)) ?_
    refine exs_next (x_augI rfl vv_int) (exs_nil ⟨(bitsL n (r &&& (r - 1))).length, by have := pc_less hr h0; omega, r &&& (r - 1), c + 1, Nat.lt_of_le_of_lt Nat.and_le_left hr, by have := pc_less hr h0; omega, rfl, rfl⟩)
/-! ### sets in the order of choices -/
def rowT (n m : Nat) : Trip := (((bitsL n m).length : Nat), (bitsL n m).map fun k : Nat => (k : Int), (m : Int))
def subs (n : Nat) : List Nat := (tsort ((List.range (2 ^ n)).map (rowT n))).map fun t => t.2.2.toNat
theorem ints_map : ∀ ns : List Int, ints? (ns.map D.int) = some ns
  | [] => rfl
  | n :: ns => by
    show (ints? (ns.map D.int)).map (n :: ·) = _
    rw [ints_map ns]
    rfl
theorem trip_trD (t : Trip) : trip? (trD t) = some t := by
  show (ints? (t.2.1.map D.int)).map (fun ms => (t.1, ms, t.2.2)) = _
  rw [ints_map]
  rfl
theorem trips_map : ∀ ts : List Trip, trips? (ts.map trD) = some ts
  | [] => rfl
  | t :: ts => by
    rw [List.map_cons, trips?, trip_trD, trips_map ts]
theorem mem_rows {n : Nat} {t : Trip} (h : t ∈ tsort ((List.range (2 ^ n)).map (rowT n))) : ∃ m, m < 2 ^ n ∧ t = rowT n m := by
  obtain ⟨m, hm, rfl⟩ := List.mem_map.mp ((tsort_perm _).mem_iff.mp h)
  exact ⟨m, List.mem_range.mp hm, rfl⟩
theorem subs_lt {n m : Nat} (h : m ∈ subs n) : m < 2 ^ n := by
  obtain ⟨t, ht, rfl⟩ := List.mem_map.mp h
  obtain ⟨m, hm, rfl⟩ := mem_rows ht
  exact hm
theorem subs_len (n : Nat) : (subs n).length = 2 ^ n := by
  unfold subs
  rw [List.length_map, (tsort_perm _).length_eq, List.length_map, List.length_range]
theorem pow_ok {n : Nat} (h : n ≤ 16) : 2 ^ n ≤ 1000000 := Nat.le_trans (Nat.pow_le_pow_right (by decide) h) (by decide)
abbrev CntQ (φ : List D → Out Ar) : Prop := ∀ n m : Nat, n ≤ 1000 → m < 2 ^ n → φ [.int (m : Int)] = .ok (.v (.int ((bitsL n m).length : Nat)))
abbrev CntF (C : Cxt) (f : Nat) : Prop := CntQ (C.fn f)
abbrev IdxQ (φ : List D → Out Ar) : Prop := ∀ n m : Nat, n ≤ 1000 → m < 2 ^ n → φ [.int (m : Int)] = .ok (.v (.tup (iD (bitsL n m))))
abbrev IdxF (C : Cxt) (f : Nat) : Prop := IdxQ (C.fn f)
/-- sorted rows and their last entries -/
theorem subs_comp {C : Cxt} {σ σ0 : En} {e : IR} {n v : Nat} {τ : D → En} (hv : evs C (.cons e .nil) σ0 = .ok ([.v (.lst (((List.range (2 ^ n)).map (rowT n)).map trD))], σ)) (hn : n ≤ 16)
    (h1 : noOwn σ [v] = true) (h2 : wipeE σ [v] = σ) (h3 : backE σ σ [v] = σ) (h4 : ∀ d, asg (.nm v) d σ = some (τ d)) (h5 : ∀ d, wipeE (τ d) [v] = σ) (h6 : ∀ d, (τ d)[v]? = some (.val d)) :
    ev C (.comp (.nm v) [v] .seq (.cons (.op .sortT (.cons e .nil)) .nil) (.bl true) (.ix (.slot v) (.int 2))) σ0 = .ok (.fr (iD (subs n)), σ) := by
  have hs : evs C (.cons (.op .sortT (.cons e .nil)) .nil) σ0 = .ok ([.v (.lst ((tsort ((List.range (2 ^ n)).map (rowT n))).map trD))], σ) := by
    have : ev C (.op .sortT (.cons e .nil)) σ0 = .ok (.fr ((tsort ((List.range (2 ^ n)).map (rowT n))).map trD), σ) := by
      rw [ev, hv]
      simp only [Out.bnd, List.map, Ar.view, opD, trips_map]
      rfl
    simp only [evs, this, sq, Out.bnd, Ar.seal]
  have := comp_m0 (C := C) (σ := σ) (σ0 := σ0) (t := .nm v) (own := [v]) (kd := .seq) (e := .ix (.slot v) (.int 2)) (l := tsort ((List.range (2 ^ n)).map (rowT n))) (f := trD) (h := fun t => .int t.2.2) (fun t => τ (trD t)) hs rfl rfl h1 h2 h3 (fun t _ => h4 _) (fun t _ => h5 _) (fun t _ => v_ix (i := 2) (xs := [.int t.1, .tup (t.2.1.map .int), .int t.2.2]) (vv_slot (h6 _)).w rfl vv_int.w rfl) (by
    rw [(tsort_perm _).length_eq, List.length_map, List.length_range]
    exact pow_ok hn)
  rw [this]
  have e2 : (tsort ((List.range (2 ^ n)).map (rowT n))).map (fun t => D.int t.2.2) = iD (subs n) := by
    unfold iD subs
    rw [List.map_map]
    refine List.map_congr_left fun t ht => ?_
    obtain ⟨m, hm, rfl⟩ := mem_rows ht
    rfl
  rw [e2]
def bSubs (jc ji : Nat) : SRs := (.cons (.setS 1 (.comp (.nm 2) [2] .range1 (.cons (.bin .LShift (.int 1) (.slot 0)) .nil) (.bl true) (.tup (.cons (.call jc (.cons (.slot 2) .nil)) (.cons (.call ji (.cons (.slot 2) .nil)) (.cons (.slot 2) .nil)))))) (.cons (.ret (.blt .tuple (.cons (.comp (.nm 3) [3] .seq (.cons (.op .sortT (.cons (.slot 1) .nil)) .nil) (.bl true) (.ix (.slot 3) (.int 2))) .nil))) .nil))
theorem trD_row (n m : Nat) : trD (rowT n m) = .tup [.int ((bitsL n m).length : Nat), .tup (iD (bitsL n m)), .int (m : Int)] := by
  unfold trD rowT iD
  rw [List.map_map]
  rfl
theorem subs_ok {C : Cxt} {jc ji n : Nat} (hc : CntF C jc) (hi : IdxF C ji) (hn : n ≤ 16) : DS.run C ⟨4, 1, bSubs jc ji⟩ [.int (n : Int)] = .ok (.v (.tup (iD (subs n)))) := Sat.eq <| by
  refine run_sat rfl ?_
  have h1 := comp_m (C := C) (σ := [.val (.int (n : Int)), .un, .un, .un]) (t := .nm 2) (own := [2]) (kd := .range1) (es := .cons (.bin .LShift (.int 1) (.slot 0)) .nil) (e := .tup (.cons (.call jc (.cons (.slot 2) .nil)) (.cons (.call ji (.cons (.slot 2) .nil)) (.cons (.slot 2) .nil)))) (rs := [.v (.int ((2 ^ n : Nat) : Int))]) (l := List.range (2 ^ n)) (f := fun k => .int (k : Int)) (h := fun m => trD (rowT n m))
    (fun k => [.val (.int (n : Int)), .un, .val (.int (k : Int)), .un]) (by
      have := v_pow (C := C) (σ := [.val (.int (n : Int)), .un, .un, .un]) (b := .slot 0) (j := n) (vv_slot rfl).w (by omega)
      unfold Vv at this
      simp only [evs, this, Out.bnd]) (range1_ok (pow_ok hn)) rfl rfl rfl rfl (fun _ _ => rfl) (fun _ _ => rfl) (fun m hm => by
      have hm := List.mem_range.mp hm
      rw [trD_row]
      exact vv_tup (vl_cons (vv_call (vl_cons (vv_slot (i := 2) rfl) vl_nil) (hc n m (by omega) hm)) (vl_cons (vv_call (vl_cons (vv_slot (i := 2) rfl) vl_nil) (hi n m (by omega) hm)) (vl_cons (vv_slot (i := 2) rfl) vl_nil))) (show 3 ≤ sizeLine by decide)) (by rw [List.length_range]; exact pow_ok hn)
  refine exs_next (x_setS (sq_fr h1)) ?_
  show Sat (exs C _ [.val (.int (n : Int)), .val (.lst ((List.range (2 ^ n)).map fun m => trD (rowT n m))), .un, .un]) _
  have e : ((List.range (2 ^ n)).map fun m => trD (rowT n m)) = ((List.range (2 ^ n)).map (rowT n)).map trD := by rw [List.map_map]; rfl
  rw [e]
  exact exs_rt (x_retE (tuple_ev (subs_comp (v := 3) (τ := fun d => [.val (.int (n : Int)), .val (.lst (((List.range (2 ^ n)).map (rowT n)).map trD)), .un, .val d]) rfl hn rfl rfl rfl (fun _ => rfl) (fun _ => rfl) fun _ => rfl)) rfl) ⟨rfl, rfl⟩
/-! ### cuts -/
def farM (n m : Nat) : Nat := (2 ^ n - 1) ^^^ m
theorem far_bit {n m : Nat} (k : Nat) : (farM n m).testBit k = (decide (k < n) ^^ m.testBit k) := by
  unfold farM
  rw [Nat.testBit_xor, Nat.testBit_two_pow_sub_one]
theorem far_sub {n m : Nat} (h : m < 2 ^ n) : 2 ^ n - 1 - m = farM n m := by
  have h1 := xor_and (2 ^ n - 1) (2 ^ n - 1) m (Nat.le_refl _)
  have h2 : (2 ^ n - 1) &&& m = m := Nat.eq_of_testBit_eq fun k => by
    rw [Nat.testBit_and, Nat.testBit_two_pow_sub_one]
    by_cases c : k < n
    · simp [c]
    · rw [decide_eq_false c, Bool.false_and, Nat.testBit_lt_two_pow (Nat.lt_of_lt_of_le h (Nat.pow_le_pow_right (by decide) (by omega)))]
  rw [h2] at h1
  unfold farM
  omega
def cutR (n : Nat) (M : List Nat) (m : Nat) : List Nat := (bitsL n m).map fun k => M.getD k 0 &&& farM n m
theorem cutR_len (n : Nat) (M : List Nat) (m : Nat) : (cutR n M m).length ≤ n := by
  unfold cutR
  rw [List.length_map]
  exact bitsL_len n m
def bFar : SRs := (.cons (.ret (.bin .BitXor (.bin .Sub (.bin .LShift (.int 1) (.blt .len (.cons (.slot 0) .nil))) (.int 1)) (.slot 1))) .nil)
theorem far_ok {C : Cxt} {M : List Nat} {n m : Nat} {x : D} (hx : seqOf x = some (iD M)) (hl : M.length = n) (hn : n ≤ 1000) : DS.run C ⟨2, 2, bFar⟩ [x, .int (m : Int)] = .ok (.v (.int (farM n m : Nat))) :=
  run_ret (σ := [.val x, .val (.int (m : Int))]) rfl rfl (bin_ev (v_sub (j := 1) (v_pow (v_len (vv_slot (i := 0) rfl).w hx ((iD_len M).trans hl)).w (by omega)).w vv_int.w (Nat.one_le_two_pow)).w (vv_slot (i := 1) rfl).w xor_ok) rfl
def bCut (jf ji : Nat) : SRs := (.cons (.setS 2 (.call jf (.cons (.slot 0) (.cons (.slot 1) .nil)))) (.cons (.ret (.comp (.nm 3) [3] .seq (.cons (.call ji (.cons (.slot 1) .nil)) .nil) (.bl true) (.bin .BitAnd (.ix (.slot 0) (.slot 3)) (.slot 2)))) .nil))
abbrev MkQ (g : Nat → List Nat → Nat → Out Ar) (φ : List D → Out Ar) : Prop := ∀ (n m : Nat) (M : List Nat), n ≤ 1000 → m < 2 ^ n → M.length = n → φ [.tup (iD M), .int (m : Int)] = g n M m
abbrev MkF (C : Cxt) (f : Nat) (g : Nat → List Nat → Nat → Out Ar) : Prop := MkQ g (C.fn f)
theorem getD_at? {M : List Nat} {k : Nat} (h : k < M.length) : M[k]? = some (M.getD k 0) := by
  rw [List.getElem?_eq_getElem h, getD_at 0 h]
theorem cut_ok {C : Cxt} {jf ji n m : Nat} {M : List Nat} (hf : MkF C jf fun n M m => .ok (.v (.int (farM n m : Nat)))) (hi : IdxF C ji) (hn : n ≤ 1000) (hm : m < 2 ^ n) (hl : M.length = n) :
    DS.run C ⟨4, 2, bCut jf ji⟩ [.tup (iD M), .int (m : Int)] = .ok (.fr (iD (cutR n M m))) := Sat.eq <| by
  refine run_sat rfl ?_
  refine exs_next (x_setS (vv_call (vl_cons (vv_slot (i := 0) rfl) (vl_cons (vv_slot (i := 1) rfl) vl_nil)) (hf n m M hn hm hl))) ?_
  show Sat (exs C _ [.val (.tup (iD M)), .val (.int (m : Int)), .val (.int (farM n m : Nat)), .un]) _
  have h1 := comp_m (C := C) (σ := [.val (.tup (iD M)), .val (.int (m : Int)), .val (.int (farM n m : Nat)), .un]) (t := .nm 3) (own := [3]) (kd := .seq) (es := .cons (.call ji (.cons (.slot 1) .nil)) .nil) (e := .bin .BitAnd (.ix (.slot 0) (.slot 3)) (.slot 2)) (rs := [.v (.tup (iD (bitsL n m)))]) (l := bitsL n m) (f := fun k => .int (k : Int)) (h := fun k => .int ((M.getD k 0 &&& farM n m : Nat) : Int))
    (fun k => [.val (.tup (iD M)), .val (.int (m : Int)), .val (.int (farM n m : Nat)), .val (.int (k : Int))]) (by
      have := vv_call (C := C) (σ := [.val (.tup (iD M)), .val (.int (m : Int)), .val (.int (farM n m : Nat)), .un]) (vl_cons (vv_slot (i := 1) rfl) vl_nil) (hi n m hn hm)
      unfold Vv at this
      simp only [evs, this, Out.bnd]
      rfl) rfl rfl rfl rfl rfl (fun _ _ => rfl) (fun _ _ => rfl) (fun k hk => by
      have hk := (mem_bitsL.mp hk).1
      exact v_and (v_ixI (vv_slot (i := 0) rfl).w rfl (vv_slot (i := 3) rfl).w (getD_at? (by omega))).w (vv_slot (i := 2) rfl).w) (by
      have := bitsL_len n m
      omega)
  refine exs_rt (x_retE h1 rfl) ⟨rfl, ?_⟩
  unfold cutR iD
  rw [List.map_map]
  rfl
def bCutR (jm jr : Nat) : SRs := (.cons (.ret (.call jm (.cons (.call jr (.cons (.slot 0) (.cons (.slot 1) .nil))) .nil))) .nil)
theorem cutRank_ok {C : Cxt} {jm jr n m : Nat} {M : List Nat} (hk : ∀ ms : List Nat, ms.length ≤ 1000000 → C.fn jm [.lst (iD ms)] = .ok (.v (.int ((rk ms : Nat) : Int)))) (hr : MkF C jr fun n M m => .ok (.fr (iD (cutR n M m)))) (hn : n ≤ 1000) (hm : m < 2 ^ n) (hl : M.length = n) :
    DS.run C ⟨2, 2, bCutR jm jr⟩ [.tup (iD M), .int (m : Int)] = .ok (.v (.int ((rk (cutR n M m) : Nat) : Int))) :=
  run_ret (σ := [.val (.tup (iD M)), .val (.int (m : Int))]) rfl rfl (call_ev (vl_cons (vv_call (r := .fr (iD (cutR n M m))) (vl_cons (vv_slot (i := 0) rfl) (vl_cons (vv_slot (i := 1) rfl) vl_nil)) (hr n m M hn hm hl)) vl_nil) (hk _ (by have := cutR_len n M m; omega))) rfl
end Nt
/-! ## Splits, as the program tells them -/
namespace Nt
open PySem PySem.Spec PyProof.Rows L2 DS Gf Bt
section
variable {C : Cxt} {σ : En} {a b c e : IR} {x y z d : D}
theorem vv_ev (h : Vv C e σ d) (hd : ∀ ds, d ≠ .lst ds) : ev C e σ = .ok (.v d, σ) := by
  unfold Vv sq at h
  cases q : ev C e σ with
  | bad => rw [q] at h; cases h
  | exc c fs => rw [q] at h; cases h
  | ok p =>
    rw [q] at h
    obtain ⟨r, τ⟩ := p
    cases r with
    | v d' => exact h
    | fr ds =>
      have h : (Out.ok (Ar.v (.lst ds), τ) : Out (Ar × En)) = .ok (.v d, σ) := h
      injection h with h
      injection h with h1 h2
      injection h1 with h1
      exact (hd ds h1.symm).elim
    | br i ds =>
      have h : (Out.ok (Ar.br i ds, τ) : Out (Ar × En)) = .ok (.v d, σ) := h
      simp at h
theorem x_ret' (h : Vv C e σ d) (hd : ∀ ds, d ≠ .lst ds) : ex C (.ret e) σ = .ok (.rt (.v d), σ) := x_retE (vv_ev h hd) rfl
theorem bl_nl {k : Bool} : ∀ ds, D.bl k ≠ .lst ds := fun _ h => nomatch h
theorem int_nl {k : Int} : ∀ ds, D.int k ≠ .lst ds := fun _ h => nomatch h
theorem vv_chain {o o' : CmpOp} {k l : Bool} (ha : Vw C a σ x) (hb : Vw C b σ y) (hc : Vw C c σ z) (h1 : cmpD o x y = some k) (h2 : cmpD o' y z = some l) : Vv C (.chain o o' a b c) σ (.bl (k && l)) := by
  obtain ⟨p, hp, rfl⟩ := ha
  obtain ⟨q, hq, rfl⟩ := hb
  obtain ⟨r, hr, rfl⟩ := hc
  unfold Vv sq
  simp only [ev, hp, hq, hr, Out.bnd, h1, h2, ob]
  cases k <;> rfl
theorem vv_fld {cn : Nat} {fs : List D} {f : Str} (ha : Vw C a σ (.ins cn fs)) (h : ((C.fields cn).zip fs).lookup f = some d) : Vv C (.op (.fld cn f) (.cons a .nil)) σ d := by
  obtain ⟨p, hp, hv⟩ := ha
  have hp' : p = .v (.ins cn fs) := by
    cases p with
    | v d => exact congrArg Ar.v hv
    | fr ds => cases hv
    | br i ds => cases hv
  subst hp'
  have : opD C (.fld cn f) [.ins cn fs] = .ok (.v d) := by
    simp only [opD, if_true, h, ob, Out.bnd]
  unfold Vv
  rw [ev]
  simp only [evs, hp, Out.bnd, List.map, Ar.view, this]
  rfl
theorem vv_meth {cn f : Nat} {fs : List D} {es : IRs} {ds : List D} {r : Ar} (hs : VvL C (.cons a es) σ (.ins cn fs :: ds)) (h : C.fn f (.ins cn fs :: ds) = .ok r) (hr : r.isB = false := by rfl) : Vv C (.op (.meth cn f) (.cons a es)) σ r.view := by
  refine sq_of ?_ hr
  unfold VvL at hs
  rw [ev, hs]
  simp only [Out.bnd, view_v, noB_v, opD, if_true, h]
  rfl
theorem bit0_ok {m : Nat} : binD .BitAnd (.int (m : Int)) (.int 1) = .ok (.v (.int (((m.testBit 0).toNat : Nat) : Int))) := by
  have := bit_ok (m := m) (k := 0)
  rwa [Nat.pow_zero, Nat.div_one] at this
theorem t_bit0 {m : Nat} (ha : Vw C a σ (.int (m : Int))) : Tt C (.cmpT .Eq (.bin .BitAnd a (.int 1)) (.int 1)) σ (m.testBit 0) := tt_cmp (vv_bin ha vv_int.w bit0_ok).w vv_int.w (bit_one _)
end
def isS (n : Nat) (M : List Nat) (m : Nat) : Bool := (decide (2 ≤ (bitsL n m).length) && decide (((bitsL n m).length : Int) ≤ (n : Int) - 2)) && decide (rk (cutR n M m) = 1)
def spl (n : Nat) (M : List Nat) : List Nat := (subs n).filter fun m => m.testBit 0 && isS n M m
theorem spl_lt {n m : Nat} {M : List Nat} (h : m ∈ spl n M) : m < 2 ^ n := subs_lt (List.mem_filter.mp h).1
theorem spl_len (n : Nat) (M : List Nat) : (spl n M).length ≤ 2 ^ n := by
  have := List.length_filter_le (fun m => m.testBit 0 && isS n M m) (subs n)
  rwa [subs_len] at this
def bIsS (jc jr : Nat) : SRs := (.cons (.setS 2 (.call jc (.cons (.slot 1) .nil))) (.cons (.ret (.andE (.cons (.chain .LtE .LtE (.int 2) (.slot 2) (.bin .Sub (.blt .len (.cons (.slot 0) .nil)) (.int 2))) (.cons (.cmp .Eq (.call jr (.cons (.slot 0) (.cons (.slot 1) .nil))) (.int 1)) .nil)))) .nil))
theorem isS_ok {C : Cxt} {jc jr n m : Nat} {M : List Nat} (hc : CntF C jc) (hr : MkF C jr fun n M m => .ok (.v (.int ((rk (cutR n M m) : Nat) : Int)))) (hn : n ≤ 1000) (hm : m < 2 ^ n) (hl : M.length = n) :
    DS.run C ⟨3, 2, bIsS jc jr⟩ [.tup (iD M), .int (m : Int)] = .ok (.v (.bl (isS n M m))) := Sat.eq <| by
  refine run_sat rfl ?_
  refine exs_next (x_setS (vv_call (vl_cons (vv_slot (i := 1) rfl) vl_nil) (hc n m hn hm))) ?_
  have h1 : Vv C (.chain .LtE .LtE (.int 2) (.slot 2) (.bin .Sub (.blt .len (.cons (.slot 0) .nil)) (.int 2))) [.val (.tup (iD M)), .val (.int (m : Int)), .val (.int ((bitsL n m).length : Nat))] (.bl (decide (2 ≤ (bitsL n m).length) && decide (((bitsL n m).length : Int) ≤ (n : Int) - 2))) := vv_chain vv_int.w (vv_slot (i := 2) rfl).w (vv_bin (v_len (vv_slot (i := 0) rfl).w rfl ((iD_len M).trans hl)).w vv_int.w sub_okI).w (by
    show some (decide ((2 : Int) ≤ ((bitsL n m).length : Nat))) = _
    congr 1
    exact decide_eq_decide.mpr (by omega)) rfl
  refine exs_rt (x_ret' (d := .bl (isS n M m)) (vv_and h1 (fun h => vv_and1 ?_) fun h => ?_) bl_nl) ⟨rfl, rfl⟩
  · have := vv_cmp (C := C) (o := .Eq) (σ := [.val (.tup (iD M)), .val (.int (m : Int)), .val (.int ((bitsL n m).length : Nat))]) (vv_call (vl_cons (vv_slot (i := 0) rfl) (vl_cons (vv_slot (i := 1) rfl) vl_nil)) (hr n m M hn hm hl)).w (vv_int (n := 1)).w eq_test
    unfold isS
    rw [h, Bool.true_and]
    have e : decide (((rk (cutR n M m) : Nat) : Int) = 1) = decide (rk (cutR n M m) = 1) := decide_eq_decide.mpr (by omega)
    rw [← e]
    exact this
  · unfold isS
    rw [h, Bool.false_and]
abbrev SubQ (φ : List D → Out Ar) : Prop := ∀ n : Nat, n ≤ 16 → φ [.int (n : Int)] = .ok (.v (.tup (iD (subs n))))
abbrev SubF (C : Cxt) (f : Nat) : Prop := SubQ (C.fn f)
def bSpl (js ji : Nat) : SRs := (.cons (.ret (.blt .tuple (.cons (.comp (.nm 1) [1] .seq (.cons (.call js (.cons (.blt .len (.cons (.slot 0) .nil)) .nil)) .nil) (.andT (.cons (.cmpT .Eq (.bin .BitAnd (.slot 1) (.int 1)) (.int 1)) (.cons (.tru (.call ji (.cons (.slot 0) (.cons (.slot 1) .nil)))) .nil))) (.slot 1)) .nil))) .nil)
theorem spl_ok {C : Cxt} {js ji n : Nat} {M : List Nat} (hs : SubF C js) (hi : MkF C ji fun n M m => .ok (.v (.bl (isS n M m)))) (hn : n ≤ 16) (hl : M.length = n) : DS.run C ⟨2, 1, bSpl js ji⟩ [.tup (iD M)] = .ok (.v (.tup (iD (spl n M)))) := by
  refine run_ret (σ := [.val (.tup (iD M)), .un]) rfl rfl (tuple_ev ?_) rfl
  have hv := vv_call (C := C) (σ := [.val (.tup (iD M)), .un]) (vl_cons (v_len (vv_slot (i := 0) rfl).w rfl ((iD_len M).trans hl)) vl_nil) (hs n hn)
  unfold Vv at hv
  have := comp_g (C := C) (σ := [.val (.tup (iD M)), .un]) (t := .nm 1) (own := [1]) (kd := .seq) (es := .cons (.call js (.cons (.blt .len (.cons (.slot 0) .nil)) .nil)) .nil) (ifs := .andT (.cons (.cmpT .Eq (.bin .BitAnd (.slot 1) (.int 1)) (.int 1)) (.cons (.tru (.call ji (.cons (.slot 0) (.cons (.slot 1) .nil)))) .nil))) (e := .slot 1) (rs := [.v (.tup (iD (subs n)))]) (l := subs n) (f := fun k => .int (k : Int)) (p := fun m => m.testBit 0 && isS n M m) (h := fun k => .int (k : Int))
    (fun k => [.val (.tup (iD M)), .val (.int (k : Int))]) (by simp only [evs, hv, Out.bnd]; rfl) rfl rfl rfl rfl rfl (fun _ _ => rfl) (fun _ _ => rfl) (fun m hm => tt_and (t_bit0 (vv_slot (i := 1) rfl).w) fun _ => tt_and1 (tt_tru (vv_call (vl_cons (vv_slot (i := 0) rfl) (vl_cons (vv_slot (i := 1) rfl) vl_nil)) (hi n m M (by omega) (subs_lt hm) hl)).w rfl)) (fun m _ _ => vv_slot rfl) (by rw [subs_len]; exact pow_ok hn)
  exact this
/-! ### nets -/
def sAt (P : List Str) (k : Nat) : Str := P.getD k ⟨#[]⟩
def sD (P : List Str) : List D := P.map D.str
def nameL (P : List Str) (l : List Nat) : List D := l.map fun k => D.str (sAt P k)
def tiesL (P : List Str) (M : List Nat) : List D := ((prs P.length).filter fun q => bt M q.1 q.2).map fun q => D.tup [.str (sAt P q.1), .str (sAt P q.2)]
def netD (cn : Nat) (P : List Str) (M : List Nat) : D := .ins cn [.tup (sD P), .tup (iD M), .tup (tiesL P M)]
def NetC (C : Cxt) (cn : Nat) : Prop := C.fields cn = [("points" : Str), ("core" : Str), ("ties" : Str)]
section
variable {C : Cxt} {σ : En} {a : IR} {cn : Nat} {P : List Str} {M : List Nat}
theorem f_points (h : NetC C cn) (ha : Vw C a σ (netD cn P M)) : Vv C (.op (.fld cn "points") (.cons a .nil)) σ (.tup (sD P)) := vv_fld ha (by unfold NetC at h; rw [h]; rfl)
theorem f_core (h : NetC C cn) (ha : Vw C a σ (netD cn P M)) : Vv C (.op (.fld cn "core") (.cons a .nil)) σ (.tup (iD M)) := vv_fld ha (by unfold NetC at h; rw [h]; rfl)
theorem f_ties (h : NetC C cn) (ha : Vw C a σ (netD cn P M)) : Vv C (.op (.fld cn "ties") (.cons a .nil)) σ (.tup (tiesL P M)) := vv_fld ha (by unfold NetC at h; rw [h]; rfl)
theorem sD_at {k : Nat} (h : k < P.length) : (sD P)[k]? = some (.str (sAt P k)) := by
  unfold sD sAt
  rw [List.getElem?_map, List.getElem?_eq_getElem h, getD_at _ h]
  rfl
end
def bNam (cn ji : Nat) : SRs := (.cons (.ret (.blt .tuple (.cons (.comp (.nm 2) [2] .seq (.cons (.call ji (.cons (.slot 1) .nil)) .nil) (.bl true) (.ix (.op (.fld cn "points") (.cons (.slot 0) .nil)) (.slot 2))) .nil))) .nil)
theorem nam_ok {C : Cxt} {cn ji n m : Nat} {P : List Str} {M : List Nat} (hc : NetC C cn) (hi : IdxF C ji) (hn : n ≤ 1000) (hm : m < 2 ^ n) (hp : P.length = n) : DS.run C ⟨3, 2, bNam cn ji⟩ [netD cn P M, .int (m : Int)] = .ok (.v (.tup (nameL P (bitsL n m)))) := by
  refine run_ret (σ := [.val (netD cn P M), .val (.int (m : Int)), .un]) rfl rfl (tuple_ev ?_) rfl
  have hv := vv_call (C := C) (σ := [.val (netD cn P M), .val (.int (m : Int)), .un]) (vl_cons (vv_slot (i := 1) rfl) vl_nil) (hi n m hn hm)
  unfold Vv at hv
  exact comp_m (C := C) (σ := [.val (netD cn P M), .val (.int (m : Int)), .un]) (t := .nm 2) (own := [2]) (kd := .seq) (es := .cons (.call ji (.cons (.slot 1) .nil)) .nil) (rs := [.v (.tup (iD (bitsL n m)))]) (l := bitsL n m) (f := fun k => .int (k : Int)) (h := fun k => D.str (sAt P k))
    (fun k => [.val (netD cn P M), .val (.int (m : Int)), .val (.int (k : Int))]) (by simp only [evs, hv, Out.bnd]; rfl) rfl rfl rfl rfl rfl (fun _ _ => rfl) (fun _ _ => rfl) (fun k hk => v_ix (f_points hc (vv_slot (i := 0) rfl).w).w rfl (vv_slot (i := 2) rfl).w (sD_at (by have := (mem_bitsL.mp hk).1; omega))) (by have := bitsL_len n m; omega)
def bSpN (cn jp jn : Nat) : SRs := (.cons (.ret (.blt .tuple (.cons (.comp (.nm 1) [1] .seq (.cons (.call jp (.cons (.op (.fld cn "core") (.cons (.slot 0) .nil)) .nil)) .nil) (.bl true) (.op (.meth cn jn) (.cons (.slot 0) (.cons (.slot 1) .nil)))) .nil))) .nil)
abbrev SplQ (φ : List D → Out Ar) : Prop := ∀ (n : Nat) (M : List Nat), n ≤ 16 → M.length = n → φ [.tup (iD M)] = .ok (.v (.tup (iD (spl n M))))
abbrev SplF (C : Cxt) (f : Nat) : Prop := SplQ (C.fn f)
abbrev NamQ (cn : Nat) (φ : List D → Out Ar) : Prop := ∀ (n m : Nat) (P : List Str) (M : List Nat), n ≤ 1000 → m < 2 ^ n → P.length = n → φ [netD cn P M, .int (m : Int)] = .ok (.v (.tup (nameL P (bitsL n m))))
abbrev NamF (C : Cxt) (cn : Nat) (f : Nat) : Prop := NamQ cn (C.fn f)
def splD (n : Nat) (P : List Str) (M : List Nat) : List D := (spl n M).map fun m => D.tup (nameL P (bitsL n m))
theorem spN_ok {C : Cxt} {cn jp jn n : Nat} {P : List Str} {M : List Nat} (hc : NetC C cn) (hs : SplF C jp) (hn' : NamF C cn jn) (hn : n ≤ 16) (hp : P.length = n) (hl : M.length = n) : DS.run C ⟨2, 1, bSpN cn jp jn⟩ [netD cn P M] = .ok (.v (.tup (splD n P M))) := by
  refine run_ret (σ := [.val (netD cn P M), .un]) rfl rfl (tuple_ev ?_) rfl
  have hv := vv_call (C := C) (σ := [.val (netD cn P M), .un]) (vl_cons (f_core hc (vv_slot (i := 0) rfl).w) vl_nil) (hs n M hn hl)
  unfold Vv at hv
  exact comp_m (C := C) (σ := [.val (netD cn P M), .un]) (t := .nm 1) (own := [1]) (kd := .seq) (es := .cons (.call jp (.cons (.op (.fld cn "core") (.cons (.slot 0) .nil)) .nil)) .nil) (rs := [.v (.tup (iD (spl n M)))]) (l := spl n M) (f := fun k => .int (k : Int)) (h := fun m => D.tup (nameL P (bitsL n m)))
    (fun k => [.val (netD cn P M), .val (.int (k : Int))]) (by simp only [evs, hv, Out.bnd]; rfl) rfl rfl rfl rfl rfl (fun _ _ => rfl) (fun _ _ => rfl) (fun m hm => vv_meth (vl_cons (vv_slot (i := 0) rfl) (vl_cons (vv_slot (i := 1) rfl) vl_nil)) (hn' n m P M (by omega) (spl_lt hm) hp)) (Nat.le_trans (spl_len n M) (pow_ok hn))
def bPrm (cn jp : Nat) : SRs := (.cons (.ret (.cmp .Eq (.blt .len (.cons (.call jp (.cons (.op (.fld cn "core") (.cons (.slot 0) .nil)) .nil)) .nil)) (.int 0))) .nil)
theorem prm_ok {C : Cxt} {cn jp n : Nat} {P : List Str} {M : List Nat} (hc : NetC C cn) (hs : SplF C jp) (hn : n ≤ 16) (hl : M.length = n) : DS.run C ⟨1, 1, bPrm cn jp⟩ [netD cn P M] = .ok (.v (.bl (decide ((spl n M).length = 0)))) := by
  have h1 := cmp_ev (C := C) (σ := [.val (netD cn P M)]) (o := .Eq) (v_len (n := (spl n M).length) (vv_call (vl_cons (f_core hc (vv_slot (i := 0) rfl).w) vl_nil) (hs n M hn hl)).w rfl (iD_len _)).w (vv_int (n := 0)).w eq_test
  have e : decide (((spl n M).length : Int) = 0) = decide ((spl n M).length = 0) := decide_eq_decide.mpr (by omega)
  rw [e] at h1
  exact run_ret rfl rfl h1 rfl
end Nt
/-! ## Sets, ranks and splits, as the laws count them -/
namespace Nt
open PySem PySem.Spec PyProof.Rows L2 DS Gf Bt
def bLCnt : SRs := (.cons (.setS 1 (.int 0)) (.cons (.setS 2 (.slot 0)) (.cons (.for_ (.nm 3) .range1 (.cons (.int 200) .nil) (.cons (.ife (.cmpT .Eq (.slot 2) (.int 0)) (.cons .brk .nil) .nil) (.cons (.setS 1 (.bin .Add (.slot 1) (.bin .BitAnd (.slot 2) (.int 1)))) (.cons (.setS 2 (.bin .RShift (.slot 2) (.int 1))) .nil)))) (.cons (.ret (.slot 1)) .nil))))
theorem bitsL_small {n i m : Nat} (h : m < 2 ^ n) (k : m < 2 ^ i) : bitsL i m = bitsL n m := by rw [← bitsL_bits h, ← bitsL_bits k]
theorem bitsL_succ (i m : Nat) : (bitsL (i + 1) m).length = (bitsL i m).length + (m.testBit i).toNat := by
  unfold bitsL
  rw [List.range_succ, List.filter_append, List.length_append]
  cases h : m.testBit i <;> simp [h]
theorem lcount_ok {C : Cxt} {n m : Nat} (h : m < 2 ^ n) (hn : n ≤ 200) : DS.run C ⟨4, 1, bLCnt⟩ [.int (m : Int)] = .ok (.v (.int ((bitsL n m).length : Nat))) := Sat.eq <| by
  refine run_sat rfl ?_
  refine exs_next (σ1 := [.val (.int (m : Int)), .val (.int 0), .un, .un]) rfl ?_
  refine exs_next (σ1 := [.val (.int (m : Int)), .val (.int 0), .val (.int (m : Int)), .un]) rfl ?_
  have fin : ∀ (i : Nat) (w : Sl), m < 2 ^ i → Sat (exs C (.cons (.ret (.slot 1)) .nil) [.val (.int (m : Int)), .val (.int ((bitsL i m).length : Nat)), .val (.int ((m / 2 ^ i : Nat) : Int)), w]) fun z => match z.1 with
      | .rt r => r.isB = false ∧ r = .v (.int ((bitsL n m).length : Nat))
      | .nx => Ar.v .non = .v (.int ((bitsL n m).length : Nat))
      | _ => False := fun i w hi => exs_rt (x_ret' (vv_slot (i := 1) rfl) int_nl) ⟨rfl, by rw [bitsL_small h hi]⟩
  refine exs_cons (for_r1 (n := 200) (e := .int 200) (vv_int (n := 200)).w (by decide) (fun i σ => ∃ w, σ = [.val (.int (m : Int)), .val (.int ((bitsL i m).length : Nat)), .val (.int ((m / 2 ^ i : Nat) : Int)), w]) ⟨.un, by rw [Nat.pow_zero, Nat.div_one]; rfl⟩ ?_ ?_)
  · rintro i σ hi ⟨w, rfl⟩
    refine exs_cons (x_ife (t_eq (vv_slot (i := 2) rfl).w (vv_int (n := 0)).w) (fun hz => ?_) fun _ => ?_)
    · have hz : m / 2 ^ i = 0 := by have := of_decide_eq_true hz; omega
      refine exs_cons ⟨_, rfl, fin i _ ?_⟩
      rcases Nat.div_eq_zero_iff.mp hz with q | q
      · have := Nat.two_pow_pos i
        omega
      · exact q
    · refine exs_nil ?_
      refine exs_next (x_setS (v_add (vv_slot (i := 1) rfl).w (vv_bin (vv_slot (i := 2) rfl).w vv_int.w bit_ok).w)) ?_
      refine exs_next (x_setS (v_shr (j := 1) (vv_slot (i := 2) rfl).w vv_int.w)) (exs_nil ⟨.val (.int (i : Int)), ?_⟩)
      rw [bitsL_succ, Nat.div_div_eq_div_mul, Nat.pow_succ]
      rfl
  · rintro σ ⟨w, rfl⟩
    exact fin 200 w (Nat.lt_of_lt_of_le h (Nat.pow_le_pow_right (by decide) hn))
def bLSub (jh : Nat) : SRs := (.cons (.set 1 (.lst .nil)) (.cons (.for_ (.nm 2) .range1 (.cons (.bin .LShift (.int 1) (.slot 0)) .nil) (.cons (.setS 3 (.blt .tuple (.cons (.comp (.nm 5) [5] .range1 (.cons (.slot 0) .nil) (.tru (.call jh (.cons (.slot 2) (.cons (.slot 5) .nil)))) (.slot 5)) .nil))) (.cons (.app 1 (.tup (.cons (.blt .len (.cons (.slot 3) .nil)) (.cons (.slot 3) (.cons (.slot 2) .nil))))) .nil))) (.cons (.ret (.comp (.nm 4) [4] .seq (.cons (.op .sortT (.cons (.slot 1) .nil)) .nil) (.bl true) (.ix (.slot 4) (.int 2)))) .nil)))
theorem map_range_succ {α : Type} (f : Nat → α) (i : Nat) : (List.range (i + 1)).map f = (List.range i).map f ++ [f i] := by
  rw [List.range_succ, List.map_append]
  rfl
theorem lsubs_ok {C : Cxt} {jh n : Nat} (hh : HasF C jh) (hn : n ≤ 16) : DS.run C ⟨6, 1, bLSub jh⟩ [.int (n : Int)] = .ok (.fr (iD (subs n))) := Sat.eq <| by
  refine run_sat rfl ?_
  refine exs_next (σ1 := [.val (.int (n : Int)), .own [], .un, .un, .un, .un]) rfl ?_
  refine exs_cons (for_r1 (n := 2 ^ n) (v_pow (j := n) (vv_slot (i := 0) rfl).w (by omega)).w (pow_ok hn) (fun i σ => ∃ a b, σ = [.val (.int (n : Int)), .own ((List.range i).map fun m => trD (rowT n m)), a, b, .un, .un]) ⟨.un, .un, rfl⟩ ?_ ?_)
  · rintro i σ hi ⟨a, b, rfl⟩
    have h1 := comp_g (C := C) (σ := [.val (.int (n : Int)), .own ((List.range i).map fun m => trD (rowT n m)), .val (.int (i : Int)), b, .un, .un]) (t := .nm 5) (own := [5]) (kd := .range1) (es := .cons (.slot 0) .nil) (ifs := .tru (.call jh (.cons (.slot 2) (.cons (.slot 5) .nil)))) (e := .slot 5) (rs := [.v (.int (n : Int))]) (l := List.range n) (f := fun k => .int (k : Int)) (p := i.testBit) (h := fun k => .int (k : Int))
      (fun k => [.val (.int (n : Int)), .own ((List.range i).map fun m => trD (rowT n m)), .val (.int (i : Int)), b, .un, .val (.int (k : Int))]) rfl (range1_ok (by omega)) rfl rfl rfl rfl (fun _ _ => rfl) (fun _ _ => rfl) (fun k _ => t_has hh (vv_slot (i := 2) rfl) (vv_slot (i := 5) rfl)) (fun k _ _ => vv_slot rfl) (by rw [List.length_range]; omega)
    refine exs_next (x_setS (d := .tup (iD (bitsL n i))) (sq_of (tuple_ev h1) rfl)) ?_
    refine exs_next (x_app (i := 1) (ds := (List.range i).map fun m => trD (rowT n m)) (d := trD (rowT n i)) rfl (by
      rw [trD_row]
      exact vv_tup (vl_cons (v_len (vv_slot (i := 3) rfl).w rfl (iD_len _)) (vl_cons (vv_slot (i := 3) rfl) (vl_cons (vv_slot (i := 2) rfl) vl_nil))) (show 3 ≤ sizeLine by decide)) (by
      rw [List.length_map, List.length_range]
      have := pow_ok hn
      exact Nat.lt_of_lt_of_le (show i < 1000000 by omega) (by decide))) (exs_nil ⟨.val (.int (i : Int)), .val (.tup (iD (bitsL n i))), ?_⟩)
    rw [map_range_succ]
    rfl
  · rintro σ ⟨a, b, rfl⟩
    have e : ((List.range (2 ^ n)).map fun m => trD (rowT n m)) = ((List.range (2 ^ n)).map (rowT n)).map trD := by rw [List.map_map]; rfl
    rw [e]
    have := subs_comp (C := C) (σ0 := [.val (.int (n : Int)), .own (((List.range (2 ^ n)).map (rowT n)).map trD), a, b, .un, .un]) (σ := [.val (.int (n : Int)), .val (.lst (((List.range (2 ^ n)).map (rowT n)).map trD)), a, b, .un, .un]) (e := .slot 1) (v := 4) (τ := fun d => [.val (.int (n : Int)), .val (.lst (((List.range (2 ^ n)).map (rowT n)).map trD)), a, b, .val d, .un]) rfl hn rfl rfl rfl (fun _ => rfl) (fun _ => rfl) fun _ => rfl
    exact exs_rt (x_retE' this rfl) ⟨rfl, rfl⟩
/-! ### the laws' rank -/
def bLRk : SRs := (.cons (.set 1 (.lst .nil)) (.cons (.for_ (.nm 2) .seq (.cons (.slot 0) .nil) (.cons (.setS 3 (.slot 2)) (.cons (.for_ (.nm 4) .seq (.cons (.bor 1) .nil) (.cons (.ife (.cmpT .Lt (.bin .BitXor (.slot 3) (.slot 4)) (.slot 3)) (.cons (.setS 3 (.bin .BitXor (.slot 3) (.slot 4))) .nil) .nil) .nil)) (.cons (.ife (.cmpT .Gt (.slot 3) (.int 0)) (.cons (.app 1 (.slot 3)) (.cons (.set 1 (.sortRev (.bor 1))) .nil)) .nil) .nil)))) (.cons (.ret (.blt .len (.cons (.bor 1) .nil))) .nil)))
theorem lrank_ok {C : Cxt} {rows : List Nat} (hl : rows.length ≤ 1000000) : DS.run C ⟨5, 1, bLRk⟩ [.lst (iD rows)] = .ok (.v (.int ((rk rows : Nat) : Int))) := Sat.eq <| by
  have rl : (iD rows).length = rows.length := iD_len rows
  refine run_sat rfl ?_
  refine exs_next (σ1 := [.val (.lst (iD rows)), .own [], .un, .un, .un]) rfl ?_
  refine exs_cons (for_sq (xs := iD rows) (vv_slot (i := 0) rfl) rfl
    (fun i σ => ∃ K a b c, Tp K ∧ Eqv K (rows.take i) ∧ K.length ≤ i ∧ σ = [.val (.lst (iD rows)), .own (iD K), a, b, c]) ⟨[], .un, .un, .un, ⟨fun x h => (by cases h), .nil⟩, Eqv.refl _, Nat.le_refl _, rfl⟩ ?_ ?_)
  · rintro i x σ hx ⟨K, a, b, c, tp, eqv, kl, rfl⟩
    obtain ⟨m, em, rfl⟩ := iD_get hx
    have hil : i < rows.length := (List.getElem?_eq_some_iff.mp em).1
    refine exs_next (x_setS (vv_slot (i := 2) rfl)) ?_
    refine exs_cons (for_br (j := 1) (xs := iD K) (σ1 := [.val (.lst (iD rows)), .own (iD K), .val (.int (m : Int)), .val (.int (m : Int)), c]) rfl rfl
      (fun n σ => ∃ w, σ = [.val (.lst (iD rows)), .lock (iD K), .val (.int (m : Int)), .val (.int ((lrRest (K.take n) m : Nat) : Int)), w]) ⟨c, rfl⟩ ?_ ?_)
    · rintro n y σ hy ⟨w, rfl⟩
      obtain ⟨o, eo, rfl⟩ := iD_get hy
      obtain ⟨r, hr⟩ : ∃ r, r = lrRest (K.take n) m := ⟨_, rfl⟩
      have e1 : lrRest (K.take (n + 1)) m = lr1 r o := by
        rw [take_snoc eo, hr]
        unfold lrRest
        rw [List.foldl_append]
        rfl
      rw [e1, ← hr]
      refine ⟨[.val (.lst (iD rows)), .lock (iD K), .val (.int (m : Int)), .val (.int (r : Int)), .val (.int (o : Int))], rfl, exs_cons (x_ife (t_lt (v_xor (vv_slot (i := 3) rfl).w (vv_slot (i := 4) rfl).w).w (vv_slot (i := 3) rfl).w) (fun h => ?_) fun h => ?_)⟩
      · have h := of_decide_eq_true h
        refine exs_next (x_setS (v_xor (vv_slot (i := 3) rfl).w (vv_slot (i := 4) rfl).w)) (exs_nil (exs_nil ⟨.val (.int (o : Int)), ?_⟩))
        unfold lr1
        rw [if_pos (by omega)]
        rfl
      · have h := of_decide_eq_false h
        refine exs_nil (exs_nil ⟨.val (.int (o : Int)), ?_⟩)
        unfold lr1
        rw [if_neg (by omega)]
    · rintro σ ⟨w, rfl⟩
      have e0 : (iD K).length = K.length := iD_len K
      rw [e0, List.take_length]
      obtain ⟨r, hr⟩ : ∃ r, r = lrRest K m := ⟨_, rfl⟩
      rw [← hr]
      have e2 : Eqv (K ++ [m]) (rows.take (i + 1)) := by
        rw [take_snoc em]
        exact eqv.append [m]
      show Sat (exs C _ [.val (.lst (iD rows)), .own (iD K), .val (.int (m : Int)), .val (.int (r : Int)), w]) _
      refine exs_cons (x_ife (t_gt (vv_slot (i := 3) rfl).w (vv_int (n := 0)).w) (fun h => ?_) fun h => ?_)
      · have h := of_decide_eq_true h
        obtain ⟨K', k1, k2, k3⟩ := sort_desc (K ++ [r])
        obtain ⟨t1, t2⟩ := lr_ok (m := m) tp (by rw [← hr]; omega) (by rw [← hr]; exact k2) k3
        refine exs_next (x_app (i := 1) (ds := iD K) rfl (vv_slot (i := 3) rfl) (by
          rw [e0]
          exact Nat.lt_of_lt_of_le (show K.length < 1000001 by omega) (by decide))) ?_
        have e3 : iD K ++ [.int (r : Int)] = iD (K ++ [r]) := by
          unfold iD
          rw [List.map_append]
          rfl
        show Sat (exs C _ [.val (.lst (iD rows)), .own (iD K ++ [.int (r : Int)]), .val (.int (m : Int)), .val (.int (r : Int)), w]) _
        rw [e3]
        have hs : ev C (.sortRev (.bor 1)) [.val (.lst (iD rows)), .own (iD (K ++ [r])), .val (.int (m : Int)), .val (.int (r : Int)), w] = .ok (.fr (iD K'), [.val (.lst (iD rows)), .own (iD (K ++ [r])), .val (.int (m : Int)), .val (.int (r : Int)), w]) := by
          rw [ev]
          show (match ints? (iD (K ++ [r])) with | some ns => Out.ok (Ar.fr ((isort ns).reverse.map .int), _) | none => _) = _
          rw [ints_iD]
          simp only [k1]
        refine exs_next (x_setF hs) (exs_nil (exs_nil ⟨K', .val (.int (m : Int)), .val (.int (r : Int)), w, t1, t2.trans e2, ?_, rfl⟩))
        rw [k2.length_eq, List.length_append]
        exact Nat.succ_le_succ kl
      · have h := of_decide_eq_false h
        have r0 : lrRest K m = 0 := by omega
        exact exs_nil (exs_nil ⟨K, .val (.int (m : Int)), .val (.int (r : Int)), w, tp, (lr_no r0).trans e2, by omega, rfl⟩)
  · rintro σ ⟨K, a, b, c, tp, eqv, kl, rfl⟩
    rw [rl, List.take_length] at eqv
    have e1 := rk_tp tp eqv
    have hv : Vv C (.blt .len (.cons (.bor 1) .nil)) [.val (.lst (iD rows)), .own (iD K), a, b, c] (.int ((rk rows : Nat) : Int)) := v_len (vw_own rfl) rfl ((iD_len K).trans e1)
    exact exs_rt (x_ret' hv int_nl) ⟨rfl, rfl⟩
abbrev RkQ (φ : List D → Out Ar) : Prop := ∀ rows : List Nat, rows.length ≤ 1000000 → φ [.lst (iD rows)] = .ok (.v (.int ((rk rows : Nat) : Int)))
abbrev RkF (C : Cxt) (f : Nat) : Prop := RkQ (C.fn f)
def bLCut (jh jr : Nat) : SRs := (.cons (.set 2 (.lst .nil)) (.cons (.for_ (.nm 3) .range1 (.cons (.blt .len (.cons (.slot 0) .nil)) .nil) (.cons (.ife (.tru (.call jh (.cons (.slot 1) (.cons (.slot 3) .nil)))) (.cons (.app 2 (.bin .BitAnd (.ix (.slot 0) (.slot 3)) (.bin .Sub (.bin .Sub (.bin .LShift (.int 1) (.blt .len (.cons (.slot 0) .nil))) (.int 1)) (.slot 1)))) .nil) .nil) .nil)) (.cons (.ret (.call jr (.cons (.slot 2) .nil))) .nil)))
theorem iD_snoc (l : List Nat) (r : Nat) : iD l ++ [.int (r : Int)] = iD (l ++ [r]) := by
  unfold iD
  rw [List.map_append]
  rfl
theorem lcut_ok {C : Cxt} {jh jr n m : Nat} {M : List Nat} (hh : HasF C jh) (hr : RkF C jr) (hn : n ≤ 1000) (hm : m < 2 ^ n) (hl : M.length = n) : DS.run C ⟨4, 2, bLCut jh jr⟩ [.lst (iD M), .int (m : Int)] = .ok (.v (.int ((rk (cutR n M m) : Nat) : Int))) := Sat.eq <| by
  have ml : (iD M).length = n := (iD_len M).trans hl
  refine run_sat rfl ?_
  refine exs_next (σ1 := [.val (.lst (iD M)), .val (.int (m : Int)), .own [], .un]) rfl ?_
  refine exs_cons (for_r1 (n := n) (v_len (vv_slot (i := 0) rfl).w rfl ml).w (by omega) (fun i σ => ∃ a, σ = [.val (.lst (iD M)), .val (.int (m : Int)), .own (iD ((bitsL i m).map fun k => M.getD k 0 &&& farM n m)), a]) ⟨.un, rfl⟩ ?_ ?_)
  · rintro i σ hi ⟨a, rfl⟩
    have e : bitsL (i + 1) m = bitsL i m ++ if m.testBit i then [i] else [] := by
      unfold bitsL
      rw [List.range_succ, List.filter_append]
      cases h : m.testBit i <;> simp [h]
    refine exs_cons (x_ife (t_has hh (vv_slot (i := 1) rfl) (vv_slot (i := 3) rfl)) (fun h => ?_) fun h => ?_)
    · have hv := v_and (C := C) (σ := [.val (.lst (iD M)), .val (.int (m : Int)), .own (iD ((bitsL i m).map fun k => M.getD k 0 &&& farM n m)), .val (.int (i : Int))]) (v_ixI (l := M) (vv_slot (i := 0) rfl).w rfl (vv_slot (i := 3) rfl).w (getD_at? (k := i) (by omega))).w (v_sub (i := 2 ^ n - 1) (j := m) (v_sub (i := 2 ^ n) (j := 1) (v_pow (v_len (vv_slot (i := 0) rfl).w rfl ml).w (by omega)).w vv_int.w Nat.one_le_two_pow).w (vv_slot (i := 1) rfl).w (by omega)).w
      rw [far_sub hm] at hv
      refine exs_next (x_app (i := 2) rfl hv (by
        rw [iD_len, List.length_map]
        have := bitsL_len i m
        exact Nat.lt_of_lt_of_le (show (bitsL i m).length < 1000000 by omega) (by decide))) (exs_nil (exs_nil ⟨.val (.int (i : Int)), ?_⟩))
      rw [e, if_pos h, List.map_append, List.map_cons, List.map_nil, ← iD_snoc]
      rfl
    · refine exs_nil (exs_nil ⟨.val (.int (i : Int)), ?_⟩)
      rw [e, h]
      simp
  · rintro σ ⟨a, rfl⟩
    have hc : C.fn jr [.lst (iD (cutR n M m))] = _ := hr (cutR n M m) (by have := cutR_len n M m; omega)
    have : ev C (.call jr (.cons (.slot 2) .nil)) [.val (.lst (iD M)), .val (.int (m : Int)), .own (iD (cutR n M m)), a] = .ok (.v (.int ((rk (cutR n M m) : Nat) : Int)), [.val (.lst (iD M)), .val (.int (m : Int)), .val (.lst (iD (cutR n M m))), a]) := by
      rw [ev]
      show (C.fn jr [.lst (iD (cutR n M m))]).bnd _ = _
      rw [hc]
      rfl
    exact exs_rt (x_retE' this rfl) ⟨rfl, rfl⟩
abbrev LSubQ (φ : List D → Out Ar) : Prop := ∀ n : Nat, n ≤ 16 → φ [.int (n : Int)] = .ok (.fr (iD (subs n)))
abbrev LSubF (C : Cxt) (f : Nat) : Prop := LSubQ (C.fn f)
abbrev LMkQ (g : Nat → List Nat → Nat → Out Ar) (φ : List D → Out Ar) : Prop := ∀ (n m : Nat) (M : List Nat), n ≤ 1000 → m < 2 ^ n → M.length = n → φ [.lst (iD M), .int (m : Int)] = g n M m
abbrev LMkF (C : Cxt) (f : Nat) (g : Nat → List Nat → Nat → Out Ar) : Prop := LMkQ g (C.fn f)
abbrev LCntQ (φ : List D → Out Ar) : Prop := ∀ n m : Nat, n ≤ 200 → m < 2 ^ n → φ [.int (m : Int)] = .ok (.v (.int ((bitsL n m).length : Nat)))
abbrev LCntF (C : Cxt) (f : Nat) : Prop := LCntQ (C.fn f)
def bLSpl (js jc jr : Nat) : SRs := (.cons (.set 1 (.lst .nil)) (.cons (.for_ (.nm 2) .seq (.cons (.call js (.cons (.blt .len (.cons (.slot 0) .nil)) .nil)) .nil) (.cons (.setS 3 (.call jc (.cons (.slot 2) .nil))) (.cons (.ife (.andT (.cons (.cmpT .Eq (.bin .BitAnd (.slot 2) (.int 1)) (.int 1)) (.cons (.cmpT .Gt (.slot 3) (.int 1)) (.cons (.cmpT .Lt (.slot 3) (.bin .Sub (.blt .len (.cons (.slot 0) .nil)) (.int 1))) (.cons (.cmpT .Eq (.call jr (.cons (.slot 0) (.cons (.slot 2) .nil))) (.int 1)) .nil))))) (.cons (.app 1 (.slot 2)) .nil) .nil) .nil))) (.cons (.ret (.move 1)) .nil)))
theorem lspl_ok {C : Cxt} {js jc jr n : Nat} {M : List Nat} (hs : LSubF C js) (hc : LCntF C jc) (hr : LMkF C jr fun n M m => .ok (.v (.int ((rk (cutR n M m) : Nat) : Int)))) (hn : n ≤ 16) (hl : M.length = n) : DS.run C ⟨4, 1, bLSpl js jc jr⟩ [.lst (iD M)] = .ok (.fr (iD (spl n M))) := Sat.eq <| by
  have ml : (iD M).length = n := (iD_len M).trans hl
  refine run_sat rfl ?_
  refine exs_next (σ1 := [.val (.lst (iD M)), .own [], .un, .un]) rfl ?_
  have h0 := call_ev (C := C) (σ := [.val (.lst (iD M)), .own [], .un, .un]) (vl_cons (v_len (vv_slot (i := 0) rfl).w rfl ml) vl_nil) (hs n hn)
  refine exs_cons (for_sq (x := .lst (iD (subs n))) (xs := iD (subs n)) (sq_fr h0) rfl (fun i σ => ∃ a b, σ = [.val (.lst (iD M)), .own (iD (((subs n).take i).filter fun m => m.testBit 0 && isS n M m)), a, b]) ⟨.un, .un, rfl⟩ ?_ ?_)
  · rintro i y σ hy ⟨a, b, rfl⟩
    obtain ⟨m, em, rfl⟩ := iD_get hy
    have hm : m < 2 ^ n := subs_lt (List.mem_of_getElem? em)
    rw [take_snoc em, List.filter_append]
    refine exs_next (x_setS (vv_call (vl_cons (vv_slot (i := 2) rfl) vl_nil) (hc n m (by omega) hm))) ?_
    obtain ⟨K, hK⟩ : ∃ K, K = ((subs n).take i).filter fun m => m.testBit 0 && isS n M m := ⟨_, rfl⟩
    rw [← hK]
    have hKl : K.length ≤ 2 ^ n := by
      rw [hK]
      have h1 := List.length_filter_le (fun m => m.testBit 0 && isS n M m) ((subs n).take i)
      have h2 := List.length_take_le i (subs n)
      have h3 := subs_len n
      have h4 : ((subs n).take i).length ≤ (subs n).length := by rw [List.length_take]; omega
      omega
    show Sat (exs C _ [.val (.lst (iD M)), .own (iD K), .val (.int (m : Int)), .val (.int ((bitsL n m).length : Nat))]) _
    have ht : Tt C (.andT (.cons (.cmpT .Eq (.bin .BitAnd (.slot 2) (.int 1)) (.int 1)) (.cons (.cmpT .Gt (.slot 3) (.int 1)) (.cons (.cmpT .Lt (.slot 3) (.bin .Sub (.blt .len (.cons (.slot 0) .nil)) (.int 1))) (.cons (.cmpT .Eq (.call jr (.cons (.slot 0) (.cons (.slot 2) .nil))) (.int 1)) .nil))))) [.val (.lst (iD M)), .own (iD K), .val (.int (m : Int)), .val (.int ((bitsL n m).length : Nat))] (m.testBit 0 && isS n M m) := by
      have t := tt_and (C := C) (t_bit0 (m := m) (vv_slot (i := 2) (σ := [.val (.lst (iD M)), .own (iD K), .val (.int (m : Int)), .val (.int ((bitsL n m).length : Nat))]) rfl).w) fun _ => tt_and (t_gt (vv_slot (i := 3) rfl).w (vv_int (n := 1)).w) fun _ => tt_and (t_lt (vv_slot (i := 3) rfl).w (vv_bin (v_len (vv_slot (i := 0) rfl).w rfl ml).w (vv_int (n := 1)).w sub_okI).w) fun _ => tt_and1 (t_eq (vv_call (vl_cons (vv_slot (i := 0) rfl) (vl_cons (vv_slot (i := 2) rfl) vl_nil)) (hr n m M (by omega) hm hl)).w (vv_int (n := 1)).w)
      have e : (m.testBit 0 && isS n M m) = (m.testBit 0 && (decide ((1 : Int) < ((bitsL n m).length : Nat)) && (decide (((bitsL n m).length : Int) < (n : Int) - 1) && decide (((rk (cutR n M m) : Nat) : Int) = 1)))) := by
        unfold isS
        rw [Bool.and_assoc]
        congr 1
        congr 1
        · exact decide_eq_decide.mpr (by omega)
        · congr 1
          · exact decide_eq_decide.mpr (by omega)
          · exact decide_eq_decide.mpr (by omega)
      rw [e]
      exact t
    refine exs_cons (x_ife ht (fun h => ?_) fun h => ?_)
    · refine exs_next (x_app (i := 1) (ds := iD K) rfl (vv_slot (i := 2) rfl) (by
        rw [iD_len]
        have := pow_ok hn
        exact Nat.lt_of_lt_of_le (show K.length < 1000001 by omega) (by decide))) (exs_nil (exs_nil ⟨.val (.int (m : Int)), .val (.int ((bitsL n m).length : Nat)), ?_⟩))
      rw [List.filter_cons, if_pos h, List.filter_nil, ← iD_snoc]
      rfl
    · refine exs_nil (exs_nil ⟨.val (.int (m : Int)), .val (.int ((bitsL n m).length : Nat)), ?_⟩)
      rw [List.filter_cons, h]
      simp
  · rintro σ ⟨a, b, rfl⟩
    rw [iD_len, List.take_length]
    exact exs_rt (r := .fr (iD (spl n M))) (σ1 := [.val (.lst (iD M)), .un, a, b]) rfl ⟨rfl, rfl⟩
end Nt
/-! ## Presses keep cut ranks -/
namespace Nt
open PySem PySem.Spec PyProof.Rows L2 DS Gf Bt
def pressM (n : Nat) (M : List Nat) (v : Nat) : List Nat := mk n fun i k => bt M i k ^^ (decide (i ≠ k) && (bt M v i && bt M v k))
theorem bt_press {n : Nat} {M : List Nat} (h : Gd n M) (v i k : Nat) : bt (pressM n M v) i k = (bt M i k ^^ (decide (i ≠ k) && (bt M v i && bt M v k))) := by
  unfold pressM
  rw [bt_mk]
  by_cases h1 : i < n
  · by_cases h2 : k < n
    · simp [h1, h2]
    · have e1 : bt M i k = false := by
        cases q : bt M i k with
        | false => rfl
        | true => have := (h.inn i k q).2.1; omega
      have e2 : bt M v k = false := by
        cases q : bt M v k with
        | false => rfl
        | true => have := (h.inn v k q).2.1; omega
      simp [h2, e1, e2]
  · have e1 : bt M i k = false := by
      cases q : bt M i k with
      | false => rfl
      | true => have := (h.inn i k q).1; omega
    have e2 : bt M v i = false := by
      cases q : bt M v i with
      | false => rfl
      | true => have := (h.inn v i q).2.1; omega
    simp [h1, e1, e2]
theorem press_gd {n : Nat} {M : List Nat} (h : Gd n M) (v : Nat) : Gd n (pressM n M v) := mk_gd (fun i k _ _ => by
  rw [h.sym i k, Bool.and_comm (bt M v i)]
  congr 2
  exact decide_eq_decide.mpr ⟨fun a b => a b.symm, fun a b => a b.symm⟩) fun i _ => by
  rw [h.irr i]
  simp
def rowC (n : Nat) (M : List Nat) (m k : Nat) : Nat := M.getD k 0 &&& farM n m
theorem row_bit {n : Nat} {M : List Nat} {m : Nat} (hm : m < 2 ^ n) (k j : Nat) : (rowC n M m k).testBit j = (bt M k j && (decide (j < n) && !m.testBit j)) := by
  unfold rowC
  rw [Nat.testBit_and, far_bit]
  unfold bt
  by_cases c : j < n
  · simp [c]
  · rw [decide_eq_false c, Nat.testBit_lt_two_pow (Nat.lt_of_lt_of_le hm (Nat.pow_le_pow_right (by decide) (by omega)))]
    simp
theorem mem_cutR {n : Nat} {M : List Nat} {m g : Nat} : g ∈ cutR n M m ↔ ∃ k, k < n ∧ m.testBit k = true ∧ g = rowC n M m k := by
  unfold cutR
  rw [List.mem_map]
  constructor
  · rintro ⟨k, hk, rfl⟩
    obtain ⟨h1, h2⟩ := mem_bitsL.mp hk
    exact ⟨k, h1, h2, rfl⟩
  · rintro ⟨k, h1, h2, rfl⟩
    exact ⟨k, mem_bitsL.mpr ⟨h1, h2⟩, rfl⟩
theorem press_in {n : Nat} {M : List Nat} {v m : Nat} (h : Gd n M) (hv : v < n) (hm : m < 2 ^ n) (hvm : m.testBit v = true) : rk (cutR n (pressM n M v) m) = rk (cutR n M m) := by
  have key : ∀ k, m.testBit k = true → rowC n (pressM n M v) m k = if bt M v k then rowC n M m k ^^^ rowC n M m v else rowC n M m k := by
    intro k hk
    refine Nat.eq_of_testBit_eq fun j => ?_
    rw [row_bit hm, bt_press h]
    by_cases c : bt M v k = true
    · rw [if_pos c, Nat.testBit_xor, row_bit hm, row_bit hm, c]
      by_cases hj : m.testBit j = true
      · simp [hj]
      · simp at hj
        have : k ≠ j := fun e => by rw [e] at hk; rw [hk] at hj; cases hj
        simp [hj, this]
        cases bt M k j <;> cases bt M v j <;> cases decide (j < n) <;> rfl
    · simp at c
      simp [c, row_bit hm]
  have hvv : rowC n (pressM n M v) m v = rowC n M m v := by
    rw [key v hvm, h.irr v]
    rfl
  refine rk_eqv (Eqv.of (fun g hg => ?_) fun g hg => ?_)
  · obtain ⟨k, h1, h2, rfl⟩ := mem_cutR.mp hg
    rw [key k h2]
    split
    · exact Sp.xor (Sp.mem (mem_cutR.mpr ⟨k, h1, h2, rfl⟩)) (Sp.mem (mem_cutR.mpr ⟨v, hv, hvm, rfl⟩))
    · exact Sp.mem (mem_cutR.mpr ⟨k, h1, h2, rfl⟩)
  · obtain ⟨k, h1, h2, rfl⟩ := mem_cutR.mp hg
    have e := key k h2
    by_cases c : bt M v k = true
    · rw [if_pos c] at e
      have e2 : rowC n M m k = rowC n (pressM n M v) m k ^^^ rowC n (pressM n M v) m v := by
        rw [e, hvv, xl]
      rw [e2]
      exact Sp.xor (Sp.mem (mem_cutR.mpr ⟨k, h1, h2, rfl⟩)) (Sp.mem (mem_cutR.mpr ⟨v, hv, hvm, rfl⟩))
    · rw [if_neg c] at e
      rw [← e]
      exact Sp.mem (mem_cutR.mpr ⟨k, h1, h2, rfl⟩)
def fullR (n : Nat) (M : List Nat) (m : Nat) : List Nat := (List.range n).map fun i => if m.testBit i then rowC n M m i else 0
theorem full_rk (n : Nat) (M : List Nat) (m : Nat) : rk (cutR n M m) = rk (fullR n M m) := by
  refine rk_eqv (Eqv.of (fun g hg => ?_) fun g hg => ?_)
  · obtain ⟨k, h1, h2, rfl⟩ := mem_cutR.mp hg
    refine Sp.mem (List.mem_map.mpr ⟨k, List.mem_range.mpr h1, ?_⟩)
    rw [if_pos h2]
  · obtain ⟨k, h1, rfl⟩ := List.mem_map.mp hg
    split
    · rename_i h2
      exact Sp.mem (mem_cutR.mpr ⟨k, List.mem_range.mp h1, h2, rfl⟩)
    · exact Sp.zero _
theorem far_lt {n m : Nat} (h : m < 2 ^ n) : farM n m < 2 ^ n := by
  rw [← far_sub h]
  omega
theorem full_at {n : Nat} {M : List Nat} {m i : Nat} (h : i < n) : (fullR n M m).getD i 0 = if m.testBit i then rowC n M m i else 0 := by
  unfold fullR
  rw [List.getD_eq_getElem?_getD, List.getElem?_map, List.getElem?_range h]
  rfl
theorem far_rk {n : Nat} {M : List Nat} {m : Nat} (h : Gd n M) (hm : m < 2 ^ n) : rk (cutR n M (farM n m)) = rk (cutR n M m) := by
  have hf := far_lt hm
  rw [full_rk, full_rk]
  have l1 : ∀ m, (fullR n M m).length = n := fun m => by simp [fullR]
  refine rk_cols (fun x hx => ?_) fun k hk => ?_
  · rw [l1]
    obtain ⟨i, hi, rfl⟩ := List.mem_map.mp hx
    split
    · exact Nat.lt_of_le_of_lt Nat.and_le_right (far_lt hm)
    · exact Nat.two_pow_pos n
  · rw [l1] at hk
    rw [l1, full_at hk]
    refine Nat.eq_of_testBit_eq fun j => ?_
    rw [ofBits_bit]
    by_cases hj : j < n
    · rw [full_at hj, decide_eq_true hj, Bool.true_and]
      have hfk : (farM n m).testBit k = !m.testBit k := by rw [far_bit, decide_eq_true hk]; simp
      have hfj : (farM n m).testBit j = !m.testBit j := by rw [far_bit, decide_eq_true hj]; simp
      rw [hfk]
      cases hmk : m.testBit k <;> cases hmj : m.testBit j
      · simp [row_bit hf, hfj, hmj, hj]
      · simp [row_bit hf, row_bit hm, hfj, hmj, hj, hmk, hk, h.sym j k]
      · simp
      · simp [row_bit hm, hmk]
    · rw [decide_eq_false hj, Bool.false_and]
      split
      · rw [row_bit hf, decide_eq_false hj]
        simp
      · exact Nat.zero_testBit j
theorem press_rk {n : Nat} {M : List Nat} {v m : Nat} (h : Gd n M) (hv : v < n) (hm : m < 2 ^ n) : rk (cutR n (pressM n M v) m) = rk (cutR n M m) := by
  by_cases c : m.testBit v = true
  · exact press_in h hv hm c
  · rw [← far_rk (press_gd h v) hm, ← far_rk h hm]
    refine press_in h hv (far_lt hm) ?_
    rw [far_bit, decide_eq_true hv]
    simp at c
    rw [c]
    rfl
theorem spl_congr {n : Nat} {M N : List Nat} (h : ∀ m, m < 2 ^ n → rk (cutR n M m) = rk (cutR n N m)) : spl n M = spl n N := List.filter_congr fun m hm => by
  unfold isS
  rw [h m (subs_lt hm)]
theorem press_spl {n : Nat} {M : List Nat} {v : Nat} (h : Gd n M) (hv : v < n) : spl n (pressM n M v) = spl n M := spl_congr fun _ hm => press_rk h hv hm
/-! ### the laws' press -/
def bLPress (jh : Nat) : SRs := (.cons (.set 2 (.blt .list (.cons (.slot 0) .nil))) (.cons (.for_ (.nm 3) .range1 (.cons (.blt .len (.cons (.slot 0) .nil)) .nil) (.cons (.for_ (.nm 4) .range1 (.cons (.blt .len (.cons (.slot 0) .nil)) .nil) (.cons (.ife (.andT (.cons (.cmpT .NotEq (.slot 3) (.slot 4)) (.cons (.tru (.call jh (.cons (.ix (.slot 0) (.slot 1)) (.cons (.slot 3) .nil)))) (.cons (.tru (.call jh (.cons (.ix (.slot 0) (.slot 1)) (.cons (.slot 4) .nil)))) .nil)))) (.cons (.setIx 2 (.slot 3) (.bin .BitXor (.ix (.bor 2) (.slot 3)) (.bin .LShift (.int 1) (.slot 4)))) .nil) .nil) .nil)) .nil)) (.cons (.ret (.move 2)) .nil)))
theorem iD_set (N : List Nat) (i x : Nat) : (iD N).set i (.int (x : Int)) = iD (N.set i x) := by
  unfold iD
  rw [List.map_set]
def cP (M : List Nat) (v i k : Nat) : Bool := decide (i ≠ k) && (bt M v i && bt M v k)
theorem lpress_ok {C : Cxt} {jh n v : Nat} {M : List Nat} (hh : HasF C jh) (h : Gd n M) (hn : n ≤ 1000) (hv : v < n) : DS.run C ⟨5, 2, bLPress jh⟩ [.lst (iD M), .int (v : Int)] = .ok (.fr (iD (pressM n M v))) := Sat.eq <| by
  have ml : (iD M).length = n := (iD_len M).trans h.len
  refine run_sat rfl ?_
  refine exs_next (σ1 := [.val (.lst (iD M)), .val (.int (v : Int)), .own (iD M), .un, .un]) rfl ?_
  refine exs_cons (for_r1 (n := n) (v_len (vv_slot (i := 0) rfl).w rfl ml).w (by omega) (fun i σ => ∃ N a b, N.length = n ∧ (∀ x y, bt N x y = (bt M x y ^^ (decide (x < i) && cP M v x y))) ∧ σ = [.val (.lst (iD M)), .val (.int (v : Int)), .own (iD N), a, b]) ⟨M, .un, .un, h.len, fun x y => by simp, rfl⟩ ?_ ?_)
  · rintro i σ hi ⟨N, a, b, nl, hN, rfl⟩
    have vi : ∀ {e : IR} {N' : List Nat} {c : Sl} {k : Nat}, Vv C (.slot 3) [.val (.lst (iD M)), .val (.int (v : Int)), .own (iD N'), .val (.int (i : Int)), c] (.int (i : Int)) := vv_slot rfl
    refine exs_cons (for_r1 (n := n) (v_len (vv_slot (i := 0) rfl).w rfl ml).w (by omega) (fun k σ => ∃ N b, N.length = n ∧ (∀ x y, bt N x y = (bt M x y ^^ ((decide (x < i) || (decide (x = i) && decide (y < k))) && cP M v x y))) ∧ σ = [.val (.lst (iD M)), .val (.int (v : Int)), .own (iD N), .val (.int (i : Int)), b]) ⟨N, b, nl, fun x y => by rw [hN]; simp, rfl⟩ ?_ ?_)
    · rintro k σ hk ⟨N, b, nl, hN, rfl⟩
      have hmv : M[v]? = some (M.getD v 0) := getD_at? (by rw [h.len]; exact hv)
      have hni : N[i]? = some (N.getD i 0) := getD_at? (by omega)
      refine exs_cons (x_ife (k := cP M v i k) (by
        have t := tt_and (C := C) (σ := [.val (.lst (iD M)), .val (.int (v : Int)), .own (iD N), .val (.int (i : Int)), .val (.int (k : Int))]) (t_ne (vv_slot (i := 3) rfl).w (vv_slot (i := 4) rfl).w) fun _ => tt_and (t_has hh (v_ixI (l := M) (vv_slot (i := 0) rfl).w rfl (vv_slot (i := 1) rfl).w hmv) (vv_slot (i := 3) rfl)) fun _ => tt_and1 (t_has hh (v_ixI (l := M) (vv_slot (i := 0) rfl).w rfl (vv_slot (i := 1) rfl).w hmv) (vv_slot (i := 4) rfl))
        have e : (!decide ((i : Int) = (k : Int))) = decide (i ≠ k) := by
          by_cases q : i = k
          · subst q; simp
          · have : ¬ (i : Int) = (k : Int) := by omega
            rw [decide_eq_false this, decide_eq_true q]
            rfl
        rw [e] at t
        exact t) (fun hc => ?_) fun hc => ?_)
      · refine exs_next (x_setIx (p := 2) (j := i) rfl (v_xor (v_ixI (l := N) (vw_own rfl) rfl (vv_slot (i := 3) rfl).w hni).w (v_pow (vv_slot (i := 4) rfl).w (by omega)).w) (vv_slot (i := 3) rfl).w (by rw [iD_len]; omega)) (exs_nil (exs_nil ⟨N.set i (N.getD i 0 ^^^ 2 ^ k), .val (.int (k : Int)), by rw [List.length_set]; exact nl, fun x y => ?_, ?_⟩))
        · rw [bt_set]
          by_cases hx : x = i
          · subst hx
            rw [if_pos ⟨rfl, by omega⟩, xor_pow]
            by_cases hy : y = k
            · subst hy
              rw [if_pos rfl]
              show (!bt N x y) = _
              rw [hN, hc]
              simp
            · rw [if_neg hy]
              show bt N x y = _
              rw [hN]
              have : decide (y < k) = decide (y < k + 1) := decide_eq_decide.mpr (by omega)
              rw [this]
          · rw [if_neg (fun q => hx q.1), hN]
            simp [hx]
        · rw [← iD_set]
          rfl
      · refine exs_nil (exs_nil ⟨N, .val (.int (k : Int)), nl, fun x y => ?_, rfl⟩)
        rw [hN]
        by_cases hx : x = i
        · subst hx
          by_cases hy : y = k
          · subst hy
            rw [hc]
            simp
          · have : decide (y < k) = decide (y < k + 1) := decide_eq_decide.mpr (by omega)
            rw [this]
        · simp [hx]
    · rintro σ ⟨N, b, nl, hN, rfl⟩
      refine exs_nil ⟨N, .val (.int (i : Int)), b, nl, fun x y => ?_, rfl⟩
      rw [hN]
      by_cases hy : y < n
      · have : (decide (x < i) || (decide (x = i) && decide (y < n))) = decide (x < i + 1) := by
          rw [decide_eq_true hy, Bool.and_true, ← Bool.decide_or]
          exact decide_eq_decide.mpr (by omega)
        rw [this]
      · have : cP M v x y = false := by
          have e2 : bt M v y = false := by
            cases q : bt M v y with
            | false => rfl
            | true => have := (h.inn v y q).2.1; omega
          unfold cP
          rw [e2]
          simp
        rw [this]
        simp
  · rintro σ ⟨N, a, b, nl, hN, rfl⟩
    have e : N = pressM n M v := masks_ext nl (mk_len _ _) fun x y hx => by
      rw [hN, bt_press h, decide_eq_true hx, Bool.true_and]
      rfl
    subst e
    exact exs_rt (r := .fr (iD (pressM n M v))) (σ1 := [.val (.lst (iD M)), .val (.int (v : Int)), .un, a, b]) rfl ⟨rfl, rfl⟩
abbrev PressQ (φ : List D → Out Ar) : Prop := ∀ (n v : Nat) (M : List Nat), Gd n M → n ≤ 1000 → v < n → φ [.lst (iD M), .int (v : Int)] = .ok (.fr (iD (pressM n M v)))
abbrev PressF (C : Cxt) (f : Nat) : Prop := PressQ (C.fn f)
def bLPrR (jp : Nat) : SRs := (.cons (.setS 2 (.slot 0)) (.cons (.for_ (.nm 3) .seq (.cons (.slot 1) .nil) (.cons (.ife (.cmpT .Gt (.blt .len (.cons (.slot 0) .nil)) (.int 0)) (.cons (.setS 2 (.call jp (.cons (.slot 2) (.cons (.bin .Mod (.blt .int (.cons (.slot 3) .nil)) (.blt .len (.cons (.slot 0) .nil))) .nil)))) .nil) .nil) .nil)) (.cons (.ret (.slot 2)) .nil)))
theorem lprR_ok {C : Cxt} {jp n : Nat} {M : List Nat} {row : List Int} (hp : PressF C jp) (h : Gd n M) (hn : n ≤ 1000) : Sat (DS.run C ⟨4, 2, bLPrR jp⟩ [.lst (iD M), .lst (jD row)]) fun r => ∃ N, r = .v (.lst (iD N)) ∧ Gd n N ∧ spl n N = spl n M := by
  have ml : (iD M).length = n := (iD_len M).trans h.len
  refine run_sat rfl ?_
  refine exs_next (σ1 := [.val (.lst (iD M)), .val (.lst (jD row)), .val (.lst (iD M)), .un]) rfl ?_
  refine exs_cons (for_sq (x := .lst (jD row)) (xs := jD row) (vv_slot (i := 1) rfl) rfl (fun i σ => ∃ N a, Gd n N ∧ spl n N = spl n M ∧ σ = [.val (.lst (iD M)), .val (.lst (jD row)), .val (.lst (iD N)), a]) ⟨M, .un, h, rfl, rfl⟩ ?_ ?_)
  · rintro i y σ hy ⟨N, a, g, hs, rfl⟩
    obtain ⟨d, ed, rfl⟩ := jD_get hy
    refine exs_cons (x_ife (t_gt (v_len (vv_slot (i := 0) rfl).w rfl ml).w (vv_int (n := 0)).w) (fun hc => ?_) fun hc => ?_)
    · have hc := of_decide_eq_true hc
      obtain ⟨v, hv, hmod⟩ := v_modI (C := C) (σ := [.val (.lst (iD M)), .val (.lst (jD row)), .val (.lst (iD N)), .val (.int d)]) (int_blt (vv_slot (i := 3) rfl).w).w (v_len (vv_slot (i := 0) rfl).w rfl ml).w (by omega)
      refine exs_next (x_setS (vv_call (vl_cons (vv_slot (i := 2) rfl) (vl_cons hmod vl_nil)) (hp n v N g hn hv))) (exs_nil (exs_nil ⟨pressM n N v, .val (.int d), press_gd g v, (press_spl g hv).trans hs, rfl⟩))
    · exact exs_nil (exs_nil ⟨N, .val (.int d), g, hs, rfl⟩)
  · rintro σ ⟨N, a, g, hs, rfl⟩
    exact exs_rt (r := .v (.lst (iD N))) rfl ⟨rfl, N, rfl, g, hs⟩
end Nt
/-! ## Nets drawn by the laws -/
namespace Nt
open PySem PySem.Spec PyProof.Rows L2 DS Gf Bt
section
variable {C : Cxt} {σ : En} {a lo hi : IR} {xs : List D} {j : Nat}
theorem v_take (ha : Vw C a σ (.lst xs)) (hh : Vw C hi σ (.int (j : Int))) (hn : hi.isNon = false) : Vv C (.slice a .non hi) σ (.lst (xs.take j)) := by
  obtain ⟨p, hp, hpv⟩ := ha
  obtain ⟨q, hq, hqv⟩ := hh
  refine sq_of (r := .fr (xs.take j)) ?_ rfl
  have e : DS.cutD xs none (some (j : Int)) = xs.take j := by
    unfold DS.cutD
    rw [HT.sIx_none, HT.sIx_nat, List.drop_zero, Nat.sub_zero]
    by_cases c : j ≤ xs.length
    · rw [Nat.min_eq_left c]
    · rw [Nat.min_eq_right (by omega), List.take_length, List.take_of_length_le (by omega)]
  have h1 : sliceD (.lst xs) (partD IR.non.isNon (Ar.v D.non).view) (partD hi.isNon (.int (j : Int))) = .ok (.fr (xs.take j)) := by
    rw [hn, ← e]
    rfl
  have h0 : sq (ev C .non σ) = .ok (.v .non, σ) := rfl
  simp only [ev, hp, Out.bnd, hpv] at h0 ⊢
  simp only [h0, hq, Out.bnd, hqv]
  rw [h1]
theorem v_drop (ha : Vw C a σ (.lst xs)) (hh : Vw C lo σ (.int (j : Int))) (hn : lo.isNon = false) : Vv C (.slice a lo .non) σ (.lst (xs.drop j)) := by
  obtain ⟨p, hp, hpv⟩ := ha
  obtain ⟨q, hq, hqv⟩ := hh
  refine sq_of (r := .fr (xs.drop j)) ?_ rfl
  have e : DS.cutD xs (some (j : Int)) none = xs.drop j := by
    unfold DS.cutD
    rw [HT.sIx_none, HT.sIx_nat]
    by_cases c : j ≤ xs.length
    · rw [Nat.min_eq_left c, List.take_of_length_le (by simp)]
    · rw [Nat.min_eq_right (by omega), List.drop_length, List.drop_of_length_le (by omega)]
      simp
  have h1 : sliceD (.lst xs) (partD lo.isNon (.int (j : Int))) (partD IR.non.isNon (Ar.v D.non).view) = .ok (.fr (xs.drop j)) := by
    rw [hn, ← e]
    rfl
  have h0 : sq (ev C .non σ) = .ok (.v .non, σ) := rfl
  simp only [ev, hp, hq, Out.bnd, hpv, hqv] at h0 ⊢
  simp only [h0, Out.bnd]
  rw [h1]
theorem v_cat {a b : IR} {ys : List D} (ha : Vw C a σ (.lst xs)) (hb : Vw C b σ (.lst ys)) (h : xs.length + ys.length ≤ 1000000) : Vv C (.bin .Add a b) σ (.lst (xs ++ ys)) :=
  vv_bin (r := .fr (xs ++ ys)) ha hb (by
    show (if xs.length + ys.length ≤ sizeLine then Out.ok (Ar.fr (xs ++ ys)) else .bad) = _
    rw [if_pos (size_ok h)])
end
theorem prD_get {l : List (Nat × Nat)} {i : Nat} {x : D} (h : (pD l)[i]? = some x) : ∃ q, l[i]? = some q ∧ x = .tup [.int (q.1 : Int), .int (q.2 : Int)] := pD_get h
theorem pD_snoc (l : List (Nat × Nat)) (q : Nat × Nat) : pD l ++ [.tup [.int (q.1 : Int), .int (q.2 : Int)]] = pD (l ++ [q]) := by
  unfold pD
  rw [List.map_append]
  rfl
def prsTo (n i : Nat) : List (Nat × Nat) := (List.range i).flatMap fun i => (List.range (n - (i + 1))).map fun k => (i, i + 1 + k)
theorem prsTo_sub {n i : Nat} (h : i ≤ n) {q : Nat × Nat} (hq : q ∈ prsTo n i) : q ∈ prs n := by
  unfold prsTo at hq
  unfold prs
  rw [List.mem_flatMap] at hq ⊢
  obtain ⟨a, ha, hb⟩ := hq
  exact ⟨a, List.mem_range.mpr (by have := List.mem_range.mp ha; omega), hb⟩
theorem prsTo_len (n : Nat) : ∀ i, (prsTo n i).length ≤ i * n
  | 0 => Nat.zero_le _
  | i + 1 => by
    have := prsTo_len n i
    unfold prsTo at this ⊢
    rw [List.range_succ, List.flatMap_append, List.length_append]
    simp only [List.flatMap_cons, List.flatMap_nil, List.append_nil, List.length_map, List.length_range]
    rw [Nat.add_mul]
    omega
def bPrs : SRs := (.cons (.set 1 (.lst .nil)) (.cons (.for_ (.nm 2) .range1 (.cons (.slot 0) .nil) (.cons (.for_ (.nm 3) .range2 (.cons (.bin .Add (.slot 2) (.int 1)) (.cons (.slot 0) .nil)) (.cons (.app 1 (.tup (.cons (.slot 2) (.cons (.slot 3) .nil)))) .nil)) .nil)) (.cons (.ret (.move 1)) .nil)))
theorem prs_ok {C : Cxt} {n : Nat} (hn : n ≤ 100) : DS.run C ⟨4, 1, bPrs⟩ [.int (n : Int)] = .ok (.fr (pD (prs n))) := Sat.eq <| by
  refine run_sat rfl ?_
  refine exs_next (σ1 := [.val (.int (n : Int)), .own [], .un, .un]) rfl ?_
  refine exs_cons (for_r1 (n := n) (vv_slot (i := 0) rfl).w (by omega) (fun i σ => ∃ a b, σ = [.val (.int (n : Int)), .own (pD (prsTo n i)), a, b]) ⟨.un, .un, rfl⟩ ?_ ?_)
  · rintro i σ hi ⟨a, b, rfl⟩
    refine exs_cons (for_r2 (lo := i + 1) (hi := n) (v_add (j := 1) (vv_slot (i := 2) rfl).w vv_int.w).w (vv_slot (i := 0) rfl).w (by omega) (by omega) (fun k σ => ∃ b, σ = [.val (.int (n : Int)), .own (pD (prsTo n i ++ (List.range k).map fun k => (i, i + 1 + k))), .val (.int (i : Int)), b]) ⟨b, by
      show _ = [_, Sl.own (pD (prsTo n i ++ [])), _, _]
      rw [List.append_nil]
      rfl⟩ ?_ ?_)
    · rintro k σ hk ⟨b, rfl⟩
      refine exs_next (x_app (i := 1) rfl (vv_tup (vl_cons (vv_slot (i := 2) rfl) (vl_cons (vv_slot (i := 3) rfl) vl_nil)) (show 2 ≤ sizeLine by decide)) (by
        have h1 := prsTo_len n i
        have h2 : i * n ≤ 100 * 100 := Nat.mul_le_mul (by omega) hn
        simp only [pD, List.length_map, List.length_append, List.length_range]
        exact Nat.lt_of_lt_of_le (show (prsTo n i).length + k < 1000000 by omega) (by decide))) (exs_nil ⟨.val (.int ((i + 1 + k : Nat) : Int)), ?_⟩)
      rw [map_range_succ, ← List.append_assoc, ← pD_snoc]
      rfl
    · rintro σ ⟨b, rfl⟩
      refine exs_nil ⟨.val (.int (i : Int)), b, ?_⟩
      have e : prsTo n (i + 1) = prsTo n i ++ (List.range (n - (i + 1))).map fun k => (i, i + 1 + k) := by
        unfold prsTo
        rw [List.range_succ, List.flatMap_append]
        simp
      rw [e]
  · rintro σ ⟨a, b, rfl⟩
    exact exs_rt (r := .fr (pD (prs n))) (σ1 := [.val (.int (n : Int)), .un, a, b]) rfl ⟨rfl, rfl⟩
abbrev PrsQ (φ : List D → Out Ar) : Prop := ∀ n : Nat, n ≤ 100 → φ [.int (n : Int)] = .ok (.fr (pD (prs n)))
abbrev PrsF (C : Cxt) (f : Nat) : Prop := PrsQ (C.fn f)
theorem prs8 {n : Nat} (h : n ≤ 8) : (prs n).length ≤ 28 := by
  have : ∀ k : Fin 9, (prs k.1).length ≤ 28 := by decide +kernel
  exact this ⟨n, by omega⟩
/-! ### masks by digits -/
def bMasks (jp : Nat) : SRs := (.cons (.set 2 (.comp (.nm 6) [6] .range1 (.cons (.slot 1) .nil) (.bl true) (.int 0))) (.cons (.setS 3 (.int 1)) (.cons (.setS 4 (.ix (.lst (.cons (.int 2) (.cons (.int 2) (.cons (.int 1) (.cons (.int 2) (.cons (.int 3) (.cons (.int 2) (.cons (.int 1) (.cons (.int 2) (.cons (.int 3) (.cons (.int 2) (.cons (.int 4) (.cons (.int 2) .nil))))))))))))) (.blt .int (.cons (.ix (.slot 0) (.int 0)) .nil)))) (.cons (.for_ (.nm 5) .seq (.cons (.call jp (.cons (.slot 1) .nil)) .nil) (.cons (.ife (.cmpT .Lt (.blt .int (.cons (.ix (.slot 0) (.slot 3)) .nil)) (.slot 4)) (.cons (.setIx 2 (.ix (.slot 5) (.int 0)) (.bin .Add (.ix (.bor 2) (.ix (.slot 5) (.int 0))) (.bin .LShift (.int 1) (.ix (.slot 5) (.int 1))))) (.cons (.setIx 2 (.ix (.slot 5) (.int 1)) (.bin .Add (.ix (.bor 2) (.ix (.slot 5) (.int 1))) (.bin .LShift (.int 1) (.ix (.slot 5) (.int 0))))) .nil)) .nil) (.cons (.setS 3 (.bin .Add (.slot 3) (.int 1))) .nil))) (.cons (.ret (.move 2)) .nil)))))
theorem iD_zeros {n : Nat} : (List.range n).map (fun _ => D.int 0) = iD (List.replicate n 0) := by
  unfold iD
  rw [List.map_replicate, List.map_const', List.length_range]
  rfl
def lvl : List Int := [2, 2, 1, 2, 3, 2, 1, 2, 3, 2, 4, 2]
/-- a pair's bits are turned on -/
theorem add_pair {n : Nat} {N : List Nat} {a b : Nat} (g : Gd n N) (hab : a < b) (hb : b < n) (h0 : bt N a b = false) :
    ∃ N', N' = (N.set a (N.getD a 0 + 2 ^ b)).set b ((N.set a (N.getD a 0 + 2 ^ b)).getD b 0 + 2 ^ a) ∧ Gd n N' ∧ ∀ i k, bt N' i k = if (i = a ∧ k = b) ∨ (i = b ∧ k = a) then !bt N i k else bt N i k := by
  have e1 : (N.set a (N.getD a 0 + 2 ^ b)).getD b 0 = N.getD b 0 := by
    rw [List.getD_eq_getElem?_getD, List.getElem?_set, if_neg (by omega), ← List.getD_eq_getElem?_getD]
  have e2 : N.getD a 0 + 2 ^ b = N.getD a 0 ^^^ 2 ^ b := add_pow h0
  have e3 : N.getD b 0 + 2 ^ a = N.getD b 0 ^^^ 2 ^ a := add_pow (by
    have := g.sym b a
    unfold bt at this h0
    rw [this]
    exact h0)
  rw [e1, e2, e3]
  obtain ⟨h1, h2⟩ := pair_gd g (a := a) (b := b) (by omega) hb (by omega) (x := N.getD a 0 ^^^ 2 ^ b) (y := N.getD b 0 ^^^ 2 ^ a) (fun q => !q) (fun k => xor_pow _ _ _) (fun k => xor_pow _ _ _)
  exact ⟨_, rfl, h1, h2⟩
theorem nodup_take {l : List (Nat × Nat)} {i : Nat} {q : Nat × Nat} (hn : l.Nodup) (h : l[i]? = some q) : q ∉ l.take i := fun hm => by
  obtain ⟨j, hj, e⟩ := List.getElem_of_mem hm
  rw [List.getElem_take] at e
  obtain ⟨hi, e2⟩ := List.getElem?_eq_some_iff.mp h
  rw [List.length_take] at hj
  have := (List.getElem_inj hn).mp (e.trans e2.symm)
  omega
theorem masks_ok {C : Cxt} {jp n : Nat} {row : List Int} (hp : PrsF C jp) (hr : ∃ d, row[0]? = some d ∧ 0 ≤ d ∧ d < 12) (hl : 1 + (prs n).length ≤ row.length) (hn : n ≤ 100) : Sat (DS.run C ⟨7, 2, bMasks jp⟩ [.lst (jD row), .int (n : Int)]) fun r => ∃ M, r = .fr (iD M) ∧ Gd n M := by
  obtain ⟨d0, hd0, hd1, hd2⟩ := hr
  refine run_sat rfl ?_
  have h1 := comp_m (C := C) (σ := [.val (.lst (jD row)), .val (.int (n : Int)), .un, .un, .un, .un, .un]) (t := .nm 6) (own := [6]) (kd := .range1) (es := .cons (.slot 1) .nil) (e := .int 0) (rs := [.v (.int (n : Int))]) (l := List.range n) (f := fun k => .int (k : Int)) (h := fun _ => .int 0)
    (fun k => [.val (.lst (jD row)), .val (.int (n : Int)), .un, .un, .un, .un, .val (.int (k : Int))]) rfl (range1_ok (by omega)) rfl rfl rfl rfl (fun _ _ => rfl) (fun _ _ => rfl) (fun _ _ => vv_int) (by rw [List.length_range]; omega)
  rw [iD_zeros] at h1
  refine exs_next (set_ev h1) ?_
  refine exs_next (σ1 := [.val (.lst (jD row)), .val (.int (n : Int)), .own (iD (List.replicate n 0)), .val (.int ((1 + 0 : Nat) : Int)), .un, .un, .un]) rfl ?_
  obtain ⟨lv, hlv⟩ : ∃ lv, lvl[d0.toNat]? = some lv := ⟨_, List.getElem?_eq_getElem (show d0.toNat < lvl.length by simp [lvl]; omega)⟩
  have hix : ixD (.lst (jD lvl)) (.int d0) = some (.int lv) := by
    have := jD_at hlv
    rwa [Int.toNat_of_nonneg hd1] at this
  refine exs_next (x_setS (d := .int lv) (vv_ix (x := .lst (jD lvl)) (y := .int d0) (Vv.w (by exact rfl)) (int_blt (vv_ix (vv_slot (i := 0) rfl).w (vv_int (n := 0)).w (jD_at (i := 0) hd0)).w).w hix)) ?_
  have h0 := call_ev (C := C) (σ := [.val (.lst (jD row)), .val (.int (n : Int)), .own (iD (List.replicate n 0)), .val (.int ((1 + 0 : Nat) : Int)), .val (.int lv), .un, .un]) (vl_cons (vv_slot (i := 1) rfl) vl_nil) (hp n hn)
  refine exs_cons (for_sq (x := .lst (pD (prs n))) (xs := pD (prs n)) (sq_fr h0) rfl (fun i σ => ∃ N a, Gd n N ∧ (∀ x y, bt N x y = true → (x, y) ∈ (prs n).take i ∨ (y, x) ∈ (prs n).take i) ∧ σ = [.val (.lst (jD row)), .val (.int (n : Int)), .own (iD N), .val (.int ((1 + i : Nat) : Int)), .val (.int lv), a, .un]) ⟨_, .un, zeros_gd n, fun x y h => (by rw [bt_zeros] at h; cases h), rfl⟩ ?_ ?_)
  · rintro i y σ hy ⟨N, a, g, hN, rfl⟩
    obtain ⟨q, eq, rfl⟩ := prD_get hy
    have hil : i < (prs n).length := (List.getElem?_eq_some_iff.mp eq).1
    obtain ⟨q1, q2⟩ := mem_prs.mp (List.mem_of_getElem? eq)
    obtain ⟨d, hd⟩ : ∃ d, row[1 + i]? = some d := ⟨_, List.getElem?_eq_getElem (by omega)⟩
    have stp : ∀ (σ : En) (N' : List Nat) (a : Sl), Gd n N' → (∀ x y, bt N' x y = true → (x, y) ∈ (prs n).take (i + 1) ∨ (y, x) ∈ (prs n).take (i + 1)) → Sat (exs C (.cons (.setS 3 (.bin .Add (.slot 3) (.int 1))) .nil) [.val (.lst (jD row)), .val (.int (n : Int)), .own (iD N'), .val (.int ((1 + i : Nat) : Int)), .val (.int lv), a, .un]) fun z => match z.1 with
        | .nx => ∃ N a, Gd n N ∧ (∀ x y, bt N x y = true → (x, y) ∈ (prs n).take (i + 1) ∨ (y, x) ∈ (prs n).take (i + 1)) ∧ z.2 = [.val (.lst (jD row)), .val (.int (n : Int)), .own (iD N), .val (.int ((1 + (i + 1) : Nat) : Int)), .val (.int lv), a, .un]
        | .ct => ∃ N a, Gd n N ∧ (∀ x y, bt N x y = true → (x, y) ∈ (prs n).take (i + 1) ∨ (y, x) ∈ (prs n).take (i + 1)) ∧ z.2 = [.val (.lst (jD row)), .val (.int (n : Int)), .own (iD N), .val (.int ((1 + (i + 1) : Nat) : Int)), .val (.int lv), a, .un]
        | .bk => False
        | .rt r => False := fun σ N' a g' h' => exs_next (x_setS (v_add (j := 1) (vv_slot (i := 3) rfl).w vv_int.w)) (exs_nil ⟨N', a, g', h', rfl⟩)
    have more : ∀ x y, ((x, y) ∈ (prs n).take i ∨ (y, x) ∈ (prs n).take i) → (x, y) ∈ (prs n).take (i + 1) ∨ (y, x) ∈ (prs n).take (i + 1) := fun x y h => by
      rw [take_snoc eq]
      exact h.imp (List.mem_append_left _) (List.mem_append_left _)
    refine exs_cons (x_ife (t_lt (int_blt (vv_ix (vv_slot (i := 0) rfl).w (vv_slot (i := 3) rfl).w (jD_at hd)).w).w (vv_slot (i := 4) rfl).w) (fun _ => ?_) fun _ => ?_)
    · have hz : bt N q.1 q.2 = false := by
        cases e : bt N q.1 q.2 with
        | false => rfl
        | true =>
          rcases hN _ _ e with k | k
          · exact (nodup_take (nodup_prs n) eq k).elim
          · have := (mem_prs.mp (List.mem_of_mem_take k)).1
            simp at this
            omega
      obtain ⟨N', eN, g', hN'⟩ := add_pair g q1 q2 hz
      have nl := g.len
      have p0 : ∀ {σ : En}, σ[5]? = some (.val (.tup [.int (q.1 : Int), .int (q.2 : Int)])) → Vv C (.ix (.slot 5) (.int 0)) σ (.int (q.1 : Int)) := fun h => v_ix (i := 0) (vv_slot h).w rfl vv_int.w rfl
      have p1 : ∀ {σ : En}, σ[5]? = some (.val (.tup [.int (q.1 : Int), .int (q.2 : Int)])) → Vv C (.ix (.slot 5) (.int 1)) σ (.int (q.2 : Int)) := fun h => v_ix (i := 1) (vv_slot h).w rfl vv_int.w rfl
      refine exs_next (x_setIx (p := 2) (j := q.1) rfl (v_add (v_ixI (l := N) (vw_own rfl) rfl (p0 rfl).w (getD_at? (by omega))).w (v_pow (p1 rfl).w (by omega)).w) (p0 rfl).w (by rw [iD_len]; omega)) ?_
      rw [iD_set]
      show Sat (exs C _ [.val (.lst (jD row)), .val (.int (n : Int)), .own (iD (N.set q.1 (N.getD q.1 0 + 2 ^ q.2))), .val (.int ((1 + i : Nat) : Int)), .val (.int lv), .val (.tup [.int (q.1 : Int), .int (q.2 : Int)]), .un]) _
      refine exs_next (x_setIx (p := 2) (j := q.2) rfl (v_add (v_ixI (l := N.set q.1 (N.getD q.1 0 + 2 ^ q.2)) (vw_own rfl) rfl (p1 rfl).w (getD_at? (by rw [List.length_set]; omega))).w (v_pow (p0 rfl).w (by omega)).w) (p1 rfl).w (by rw [iD_len, List.length_set]; omega)) ?_
      rw [iD_set, ← eN]
      refine exs_nil ?_
      refine (stp [] N' _ g' fun x y h => ?_).mono fun z hz => ?_
      · rw [hN'] at h
        by_cases c : (x = q.1 ∧ y = q.2) ∨ (x = q.2 ∧ y = q.1)
        · rw [take_snoc eq]
          rcases c with ⟨rfl, rfl⟩ | ⟨rfl, rfl⟩
          · exact .inl (List.mem_append_right _ (List.mem_singleton.mpr rfl))
          · exact .inr (List.mem_append_right _ (List.mem_singleton.mpr rfl))
        · rw [if_neg c] at h
          exact more x y (hN x y h)
      · obtain ⟨f, s⟩ := z
        cases f with
        | nx => exact hz
        | ct => exact hz
        | bk => exact hz.elim
        | rt r => exact hz.elim
    · refine exs_nil ?_
      refine (stp [] N _ g fun x y h => more x y (hN x y h)).mono fun z hz => ?_
      obtain ⟨f, s⟩ := z
      cases f with
      | nx => exact hz
      | ct => exact hz
      | bk => exact hz.elim
      | rt r => exact hz.elim
  · rintro σ ⟨N, a, g, _, rfl⟩
    exact exs_rt (r := .fr (iD N)) (σ1 := [.val (.lst (jD row)), .val (.int (n : Int)), .un, .val (.int ((1 + (pD (prs n)).length : Nat) : Int)), .val (.int lv), a, .un]) rfl ⟨rfl, N, rfl, g⟩
/-! ### crossed, permuted -/
theorem acc_or {x k : Nat} {b : Bool} (h : x < 2 ^ k) : (x ||| if b then 2 ^ k else 0) = x ^^^ if b then 2 ^ k else 0 := by
  cases b with
  | false => simp
  | true =>
    refine Nat.eq_of_testBit_eq fun j => ?_
    rw [if_pos rfl, or_pow, xor_pow, Nat.testBit_lt_two_pow h]
    rfl
theorem and_pow2 (m k : Nat) : m &&& 2 ^ k = if m.testBit k then 2 ^ k else 0 := by
  refine Nat.eq_of_testBit_eq fun j => ?_
  rw [Nat.testBit_and, tb_pow]
  by_cases c : k = j
  · subst c
    cases h : m.testBit k <;> simp
  · rw [decide_eq_false c, Bool.and_false]
    split
    · rw [tb_pow, decide_eq_false c]
    · exact (Nat.zero_testBit j).symm
def bCrs : SRs := (.cons (.set 3 (.lst .nil)) (.cons (.for_ (.nm 4) .range1 (.cons (.blt .len (.cons (.slot 0) .nil)) .nil) (.cons (.setS 5 (.int 0)) (.cons (.for_ (.nm 6) .range1 (.cons (.blt .len (.cons (.slot 0) .nil)) .nil) (.cons (.ife (.cmpT .Eq (.ix (.slot 1) (.slot 4)) (.ix (.slot 1) (.slot 6))) (.cons (.setS 5 (.bin .BitOr (.slot 5) (.bin .BitAnd (.ix (.slot 0) (.slot 4)) (.bin .LShift (.int 1) (.slot 6))))) .nil) (.cons (.ife (.andT (.cons (.cmpT .Gt (.ix (.slot 2) (.slot 4)) (.int 0)) (.cons (.cmpT .Gt (.ix (.slot 2) (.slot 6)) (.int 0)) .nil))) (.cons (.setS 5 (.bin .BitOr (.slot 5) (.bin .LShift (.int 1) (.slot 6)))) .nil) .nil) .nil)) .nil)) (.cons (.app 3 (.slot 5)) .nil)))) (.cons (.ret (.move 3)) .nil)))
theorem jD_atD {l : List Int} {i : Nat} (h : i < l.length) : ixD (.lst (jD l)) (.int (i : Int)) = some (.int (l.getD i 0)) := jD_at (by rw [List.getElem?_eq_getElem h, getD_at 0 h])
theorem mk_snoc (n i : Nat) (f : Nat → Nat → Bool) : iD ((List.range i).map fun i => ofBits (f i) n) ++ [.int ((ofBits (f i) n : Nat) : Int)] = iD ((List.range (i + 1)).map fun i => ofBits (f i) n) := by
  rw [map_range_succ, iD_snoc]
theorem crs_ok {C : Cxt} {n : Nat} {M : List Nat} {sd en : List Int} (g : Gd n M) (h1 : n ≤ sd.length) (h2 : n ≤ en.length) (hn : n ≤ 1000) : Sat (DS.run C ⟨7, 3, bCrs⟩ [.lst (iD M), .lst (jD sd), .lst (jD en)]) fun r => ∃ N, r = .fr (iD N) ∧ Gd n N := by
  have ml : (iD M).length = n := (iD_len M).trans g.len
  obtain ⟨f, hf⟩ : ∃ f : Nat → Nat → Bool, f = fun i k => if sd.getD i 0 = sd.getD k 0 then bt M i k else decide (0 < en.getD i 0) && decide (0 < en.getD k 0) := ⟨_, rfl⟩
  refine run_sat rfl ?_
  refine exs_next (σ1 := [.val (.lst (iD M)), .val (.lst (jD sd)), .val (.lst (jD en)), .own [], .un, .un, .un]) rfl ?_
  refine exs_cons (for_r1 (n := n) (v_len (vv_slot (i := 0) rfl).w rfl ml).w (by omega) (fun i σ => ∃ a b c, σ = [.val (.lst (iD M)), .val (.lst (jD sd)), .val (.lst (jD en)), .own (iD ((List.range i).map fun i => ofBits (f i) n)), a, b, c]) ⟨.un, .un, .un, rfl⟩ ?_ ?_)
  · rintro i σ hi ⟨a, b, c, rfl⟩
    refine exs_next (x_setS (vv_int (n := 0))) ?_
    obtain ⟨L, hL⟩ : ∃ L, L = iD ((List.range i).map fun i => ofBits (f i) n) := ⟨_, rfl⟩
    rw [← hL]
    refine exs_cons (for_r1 (n := n) (v_len (vv_slot (i := 0) rfl).w rfl ml).w (by omega) (fun k σ => ∃ c, σ = [.val (.lst (iD M)), .val (.lst (jD sd)), .val (.lst (jD en)), .own L, .val (.int (i : Int)), .val (.int ((ofBits (f i) k : Nat) : Int)), c]) ⟨c, rfl⟩ ?_ ?_)
    · rintro k σ hk ⟨c, rfl⟩
      have hx := ofBits_lt (f i) k
      have sets : ∀ (b : Bool) (e : IR) (σ : En), σ = [.val (.lst (iD M)), .val (.lst (jD sd)), .val (.lst (jD en)), .own L, .val (.int (i : Int)), .val (.int ((ofBits (f i) k : Nat) : Int)), .val (.int (k : Int))] → f i k = b → Vv C e σ (.int ((if b then 2 ^ k else 0 : Nat) : Int)) → ex C (.setS 5 (.bin .BitOr (.slot 5) e)) σ = .ok (.nx, [.val (.lst (iD M)), .val (.lst (jD sd)), .val (.lst (jD en)), .own L, .val (.int (i : Int)), .val (.int ((ofBits (f i) (k + 1) : Nat) : Int)), .val (.int (k : Int))]) := by
        intro b e σ hσ hb hv
        subst hσ
        have := x_setS (i := 5) (v_or (vv_slot (i := 5) rfl).w hv.w)
        rw [this, acc_or hx]
        show Out.ok (Fl.nx, [_, _, _, _, _, Sl.val (.int ((ofBits (f i) k ^^^ (if b then 2 ^ k else 0) : Nat) : Int)), _]) = _
        rw [ofBits, hb]
      have skip : f i k = false → ofBits (f i) (k + 1) = ofBits (f i) k := fun h => by
        rw [ofBits, h]
        exact Nat.xor_zero _
      refine exs_cons (x_ife (t_eq (vv_ix (vv_slot (i := 1) rfl).w (vv_slot (i := 4) rfl).w (jD_atD (by omega))).w (vv_ix (vv_slot (i := 1) rfl).w (vv_slot (i := 6) rfl).w (jD_atD (by omega))).w) (fun hc => ?_) fun hc => ?_)
      · have hc := of_decide_eq_true hc
        have hv := v_and (C := C) (σ := [.val (.lst (iD M)), .val (.lst (jD sd)), .val (.lst (jD en)), .own L, .val (.int (i : Int)), .val (.int ((ofBits (f i) k : Nat) : Int)), .val (.int (k : Int))]) (v_ixI (l := M) (vv_slot (i := 0) rfl).w rfl (vv_slot (i := 4) rfl).w (getD_at? (k := i) (by rw [g.len]; exact hi))).w (v_pow (j := k) (vv_slot (i := 6) rfl).w (by omega)).w
        rw [and_pow2] at hv
        exact exs_next (sets (bt M i k) _ _ rfl (by rw [hf]; simp only [if_pos hc]) hv) (exs_nil (exs_nil ⟨_, rfl⟩))
      · have hc := of_decide_eq_false hc
        have hfe : f i k = (decide (0 < en.getD i 0) && decide (0 < en.getD k 0)) := by rw [hf]; simp only [if_neg hc]
        refine exs_cons (x_ife (tt_and (t_gt (vv_ix (vv_slot (i := 2) rfl).w (vv_slot (i := 4) rfl).w (jD_atD (by omega))).w (vv_int (n := 0)).w) fun _ => tt_and1 (t_gt (vv_ix (vv_slot (i := 2) rfl).w (vv_slot (i := 6) rfl).w (jD_atD (by omega))).w (vv_int (n := 0)).w)) (fun h => ?_) fun h => ?_)
        · exact exs_next (sets true _ _ rfl (hfe.trans h) (v_pow (j := k) (vv_slot (i := 6) rfl).w (by omega))) (exs_nil (exs_nil (exs_nil ⟨_, rfl⟩)))
        · refine exs_nil (exs_nil (exs_nil ⟨.val (.int (k : Int)), ?_⟩))
          rw [skip (hfe.trans h)]
          rfl
    · rintro σ ⟨c, rfl⟩
      refine exs_next (x_app (i := 3) (ds := L) rfl (vv_slot (i := 5) rfl) (by
        rw [hL, iD_len, List.length_map, List.length_range]
        exact Nat.lt_of_lt_of_le (show i < 1000000 by omega) (by decide))) (exs_nil ⟨.val (.int (i : Int)), .val (.int ((ofBits (f i) n : Nat) : Int)), c, ?_⟩)
      rw [← mk_snoc, ← hL]
      rfl
  · rintro σ ⟨a, b, c, rfl⟩
    refine exs_rt (r := .fr (iD (mk n f))) (σ1 := [.val (.lst (iD M)), .val (.lst (jD sd)), .val (.lst (jD en)), .un, a, b, c]) rfl ⟨rfl, _, rfl, mk_gd (fun i k _ _ => ?_) fun i _ => ?_⟩
    · rw [hf]
      show (if _ then _ else _) = if _ then _ else _
      by_cases e : sd.getD i 0 = sd.getD k 0
      · rw [if_pos e, if_pos e.symm, g.sym]
      · rw [if_neg e, if_neg (fun q => e q.symm), Bool.and_comm]
    · rw [hf]
      show (if _ then _ else _) = _
      rw [if_pos rfl]
      exact g.irr i
end Nt
/-! ## Nets drawn by the laws, on -/
namespace Nt
open PySem PySem.Spec PyProof.Rows L2 DS Gf Bt
def togL (M : List Nat) (a b : Nat) : List Nat := (M.set a (M.getD a 0 ^^^ 2 ^ b)).set b ((M.set a (M.getD a 0 ^^^ 2 ^ b)).getD b 0 ^^^ 2 ^ a)
theorem tog_gd {n : Nat} {M : List Nat} {a b : Nat} (g : Gd n M) (ha : a < n) (hb : b < n) (hab : a ≠ b) : Gd n (togL M a b) := by
  have e1 : (M.set a (M.getD a 0 ^^^ 2 ^ b)).getD b 0 = M.getD b 0 := by
    rw [List.getD_eq_getElem?_getD, List.getElem?_set, if_neg hab, ← List.getD_eq_getElem?_getD]
  unfold togL
  rw [e1]
  exact (pair_gd g ha hb hab (x := M.getD a 0 ^^^ 2 ^ b) (y := M.getD b 0 ^^^ 2 ^ a) (fun q => !q) (fun k => xor_pow _ _ _) (fun k => xor_pow _ _ _)).1
def bTurn : SRs := (.cons (.set 3 (.blt .list (.cons (.slot 0) .nil))) (.cons (.ife (.cmpT .NotEq (.slot 1) (.slot 2)) (.cons (.setIx 3 (.slot 1) (.bin .BitXor (.ix (.bor 3) (.slot 1)) (.bin .LShift (.int 1) (.slot 2)))) (.cons (.setIx 3 (.slot 2) (.bin .BitXor (.ix (.bor 3) (.slot 2)) (.bin .LShift (.int 1) (.slot 1)))) .nil)) .nil) (.cons (.ret (.move 3)) .nil)))
theorem turn_ok {C : Cxt} {n a b : Nat} {M : List Nat} (g : Gd n M) (hn : n ≤ 1000) (ha : a < n) (hb : b < n) : DS.run C ⟨4, 3, bTurn⟩ [.lst (iD M), .int (a : Int), .int (b : Int)] = .ok (.fr (iD (if a = b then M else togL M a b))) := Sat.eq <| by
  have nl := g.len
  refine run_sat rfl ?_
  refine exs_next (σ1 := [.val (.lst (iD M)), .val (.int (a : Int)), .val (.int (b : Int)), .own (iD M)]) rfl ?_
  refine exs_via (fun σ => σ = [.val (.lst (iD M)), .val (.int (a : Int)), .val (.int (b : Int)), .own (iD (if a = b then M else togL M a b))]) (x_ife (t_ne (vv_slot (i := 1) rfl).w (vv_slot (i := 2) rfl).w) (fun h => ?_) fun h => ?_) ?_
  · have h : ¬ a = b := fun e => by subst e; simp at h
    rw [if_neg h]
    refine exs_next (x_setIx (p := 3) (j := a) rfl (v_xor (v_ixI (l := M) (vw_own rfl) rfl (vv_slot (i := 1) rfl).w (getD_at? (by omega))).w (v_pow (vv_slot (i := 2) rfl).w (by omega)).w) (vv_slot (i := 1) rfl).w (by rw [iD_len]; omega)) ?_
    rw [iD_set]
    refine exs_next (x_setIx (p := 3) (j := b) rfl (v_xor (v_ixI (l := M.set a (M.getD a 0 ^^^ 2 ^ b)) (vw_own rfl) rfl (vv_slot (i := 2) rfl).w (getD_at? (by rw [List.length_set]; omega))).w (v_pow (vv_slot (i := 1) rfl).w (by omega)).w) (vv_slot (i := 2) rfl).w (by rw [iD_len, List.length_set]; omega)) ?_
    rw [iD_set]
    exact exs_nil ⟨rfl, rfl⟩
  · have h : a = b := by
      by_cases e : a = b
      · exact e
      · have : ¬ (a : Int) = (b : Int) := by omega
        rw [decide_eq_false this] at h
        cases h
    rw [if_pos h]
    exact exs_nil ⟨rfl, rfl⟩
  · rintro σ rfl
    exact exs_rt (r := .fr (iD (if a = b then M else togL M a b))) (σ1 := [.val (.lst (iD M)), .val (.int (a : Int)), .val (.int (b : Int)), .un]) rfl ⟨rfl, rfl⟩
def bRing : SRs := (.cons (.set 1 (.comp (.nm 2) [2] .range1 (.cons (.slot 0) .nil) (.bl true) (.int 0))) (.cons (.for_ (.nm 2) .range1 (.cons (.slot 0) .nil) (.cons (.setS 3 (.bin .Mod (.blt .int (.cons (.bin .Add (.slot 2) (.int 1)) .nil)) (.slot 0))) (.cons (.ife (.cmpT .NotEq (.slot 3) (.slot 2)) (.cons (.setIx 1 (.slot 2) (.bin .BitOr (.ix (.bor 1) (.slot 2)) (.bin .LShift (.int 1) (.slot 3)))) (.cons (.setIx 1 (.slot 3) (.bin .BitOr (.ix (.bor 1) (.slot 3)) (.bin .LShift (.int 1) (.slot 2)))) .nil)) .nil) .nil))) (.cons (.ret (.move 1)) .nil)))
theorem ring_ok {C : Cxt} {n : Nat} (hn : n ≤ 1000) : Sat (DS.run C ⟨4, 1, bRing⟩ [.int (n : Int)]) fun r => ∃ M, r = .fr (iD M) ∧ Gd n M := by
  refine run_sat rfl ?_
  have h1 := comp_m (C := C) (σ := [.val (.int (n : Int)), .un, .un, .un]) (t := .nm 2) (own := [2]) (kd := .range1) (es := .cons (.slot 0) .nil) (e := .int 0) (rs := [.v (.int (n : Int))]) (l := List.range n) (f := fun k => .int (k : Int)) (h := fun _ => .int 0)
    (fun k => [.val (.int (n : Int)), .un, .val (.int (k : Int)), .un]) rfl (range1_ok (by omega)) rfl rfl rfl rfl (fun _ _ => rfl) (fun _ _ => rfl) (fun _ _ => vv_int) (by rw [List.length_range]; omega)
  rw [iD_zeros] at h1
  refine exs_next (set_ev h1) ?_
  refine exs_cons (for_r1 (n := n) (vv_slot (i := 0) rfl).w (by omega) (fun i σ => ∃ N a b, Gd n N ∧ σ = [.val (.int (n : Int)), .own (iD N), a, b]) ⟨_, .un, .un, zeros_gd n, rfl⟩ ?_ ?_)
  · rintro i σ hi ⟨N, a, b, g, rfl⟩
    have nl := g.len
    obtain ⟨o, ho, hmod⟩ := v_modI (C := C) (σ := [.val (.int (n : Int)), .own (iD N), .val (.int (i : Int)), b]) (int_blt (v_add (j := 1) (vv_slot (i := 2) rfl).w vv_int.w).w).w (vv_slot (i := 0) rfl).w (by omega)
    refine exs_next (x_setS hmod) ?_
    show Sat (exs C _ [.val (.int (n : Int)), .own (iD N), .val (.int (i : Int)), .val (.int (o : Int))]) _
    refine exs_cons (x_ife (t_ne (vv_slot (i := 3) rfl).w (vv_slot (i := 2) rfl).w) (fun h => ?_) fun h => ?_)
    · have h : i ≠ o := fun e => by subst e; simp at h
      have e1 : (N.set i (N.getD i 0 ||| 2 ^ o)).getD o 0 = N.getD o 0 := by
        rw [List.getD_eq_getElem?_getD, List.getElem?_set, if_neg h, ← List.getD_eq_getElem?_getD]
      refine exs_next (x_setIx (p := 1) (j := i) rfl (v_or (v_ixI (l := N) (vw_own rfl) rfl (vv_slot (i := 2) rfl).w (getD_at? (by omega))).w (v_pow (vv_slot (i := 3) rfl).w (by omega)).w) (vv_slot (i := 2) rfl).w (by rw [iD_len]; omega)) ?_
      rw [iD_set]
      refine exs_next (x_setIx (p := 1) (j := o) rfl (v_or (v_ixI (l := N.set i (N.getD i 0 ||| 2 ^ o)) (vw_own rfl) rfl (vv_slot (i := 3) rfl).w (getD_at? (by rw [List.length_set]; omega))).w (v_pow (vv_slot (i := 2) rfl).w (by omega)).w) (vv_slot (i := 3) rfl).w (by rw [iD_len, List.length_set]; omega)) ?_
      rw [iD_set, e1]
      exact exs_nil (exs_nil ⟨_, .val (.int (i : Int)), .val (.int (o : Int)), (pair_gd g hi ho h (x := N.getD i 0 ||| 2 ^ o) (y := N.getD o 0 ||| 2 ^ i) (fun _ => true) (fun k => or_pow _ _ _) (fun k => or_pow _ _ _)).1, rfl⟩)
    · exact exs_nil (exs_nil ⟨N, .val (.int (i : Int)), .val (.int (o : Int)), g, rfl⟩)
  · rintro σ ⟨N, a, b, g, rfl⟩
    exact exs_rt (r := .fr (iD N)) (σ1 := [.val (.int (n : Int)), .un, a, b]) rfl ⟨rfl, N, rfl, g⟩
def bPerm (jh : Nat) : SRs := (.cons (.set 2 (.lst .nil)) (.cons (.for_ (.nm 3) .seq (.cons (.slot 1) .nil) (.cons (.setS 4 (.int 0)) (.cons (.for_ (.nm 5) .range1 (.cons (.blt .len (.cons (.slot 1) .nil)) .nil) (.cons (.ife (.tru (.call jh (.cons (.ix (.slot 0) (.slot 3)) (.cons (.ix (.slot 1) (.slot 5)) .nil)))) (.cons (.setS 4 (.bin .BitOr (.slot 4) (.bin .LShift (.int 1) (.slot 5)))) .nil) .nil) .nil)) (.cons (.app 2 (.slot 4)) .nil)))) (.cons (.ret (.move 2)) .nil)))
theorem perm_ok {C : Cxt} {jh n : Nat} {M od : List Nat} (hh : HasF C jh) (g : Gd n M) (hl : od.length = n) (ho : ∀ o ∈ od, o < n) (hn : n ≤ 1000) : Sat (DS.run C ⟨6, 2, bPerm jh⟩ [.lst (iD M), .lst (iD od)]) fun r => ∃ N, r = .fr (iD N) ∧ Gd n N := by
  have ol : (iD od).length = n := (iD_len od).trans hl
  obtain ⟨f, hf⟩ : ∃ f : Nat → Nat → Bool, f = fun i k => bt M (od.getD i 0) (od.getD k 0) := ⟨_, rfl⟩
  refine run_sat rfl ?_
  refine exs_next (σ1 := [.val (.lst (iD M)), .val (.lst (iD od)), .own [], .un, .un, .un]) rfl ?_
  refine exs_cons (for_sq (x := .lst (iD od)) (xs := iD od) (vv_slot (i := 1) rfl) rfl (fun i σ => ∃ a b c, σ = [.val (.lst (iD M)), .val (.lst (iD od)), .own (iD ((List.range i).map fun i => ofBits (f i) n)), a, b, c]) ⟨.un, .un, .un, rfl⟩ ?_ ?_)
  · rintro i y σ hy ⟨a, b, c, rfl⟩
    obtain ⟨o, eo, rfl⟩ := iD_get hy
    have hi : i < n := by rw [← hl]; exact (List.getElem?_eq_some_iff.mp eo).1
    have hon : o < n := ho o (List.mem_of_getElem? eo)
    have hod : od.getD i 0 = o := by rw [List.getD_eq_getElem?_getD, eo]; rfl
    refine exs_next (x_setS (vv_int (n := 0))) ?_
    obtain ⟨L, hL⟩ : ∃ L, L = iD ((List.range i).map fun i => ofBits (f i) n) := ⟨_, rfl⟩
    rw [← hL]
    refine exs_cons (for_r1 (n := n) (v_len (vv_slot (i := 1) rfl).w rfl ol).w (by omega) (fun k σ => ∃ c, σ = [.val (.lst (iD M)), .val (.lst (iD od)), .own L, .val (.int (o : Int)), .val (.int ((ofBits (f i) k : Nat) : Int)), c]) ⟨c, rfl⟩ ?_ ?_)
    · rintro k σ hk ⟨c, rfl⟩
      have hx := ofBits_lt (f i) k
      have hok : od[k]? = some (od.getD k 0) := getD_at? (by omega)
      have hmo : M[o]? = some (M.getD o 0) := getD_at? (by rw [g.len]; exact hon)
      have hfe : f i k = (M.getD o 0).testBit (od.getD k 0) := by rw [hf]; show bt M (od.getD i 0) _ = _; rw [hod]; rfl
      refine exs_cons (x_ife (t_has hh (v_ixI (l := M) (vv_slot (i := 0) rfl).w rfl (vv_slot (i := 3) rfl).w hmo) (v_ixI (l := od) (vv_slot (i := 1) rfl).w rfl (vv_slot (i := 5) rfl).w hok)) (fun h => ?_) fun h => ?_)
      · refine exs_next (x_setS (v_or (vv_slot (i := 4) rfl).w (v_pow (vv_slot (i := 5) rfl).w (by omega)).w)) (exs_nil (exs_nil ⟨.val (.int (k : Int)), ?_⟩))
        have := acc_or (b := true) hx
        rw [if_pos rfl] at this
        rw [this, ofBits, hfe, h]
        rfl
      · refine exs_nil (exs_nil ⟨.val (.int (k : Int)), ?_⟩)
        have : ofBits (f i) (k + 1) = ofBits (f i) k := by
          rw [ofBits, hfe, h]
          exact Nat.xor_zero _
        rw [this]
        rfl
    · rintro σ ⟨c, rfl⟩
      refine exs_next (x_app (i := 2) (ds := L) rfl (vv_slot (i := 4) rfl) (by
        rw [hL, iD_len, List.length_map, List.length_range]
        exact Nat.lt_of_lt_of_le (show i < 1000000 by omega) (by decide))) (exs_nil ⟨.val (.int (o : Int)), .val (.int ((ofBits (f i) n : Nat) : Int)), c, ?_⟩)
      rw [← mk_snoc, ← hL]
      rfl
  · rintro σ ⟨a, b, c, rfl⟩
    rw [ol]
    refine exs_rt (r := .fr (iD (mk n f))) (σ1 := [.val (.lst (iD M)), .val (.lst (iD od)), .un, a, b, c]) rfl ⟨rfl, _, rfl, mk_gd (fun i k _ _ => ?_) fun i _ => ?_⟩
    · rw [hf]
      exact g.sym _ _
    · rw [hf]
      exact g.irr _
def bShuf : SRs := (.cons (.setS 2 (.blt .list (.cons (.slot 0) .nil))) (.cons (.set 3 (.lst .nil)) (.cons (.for_ (.nm 4) .range1 (.cons (.blt .len (.cons (.slot 0) .nil)) .nil) (.cons (.setS 5 (.bin .Mod (.blt .int (.cons (.ix (.slot 1) (.slot 4)) .nil)) (.blt .len (.cons (.slot 2) .nil)))) (.cons (.app 3 (.ix (.slot 2) (.slot 5))) (.cons (.setS 2 (.bin .Add (.slice (.slot 2) .non (.slot 5)) (.slice (.slot 2) (.bin .Add (.slot 5) (.int 1)) .non))) .nil)))) (.cons (.ret (.move 3)) .nil))))
theorem iD_take (l : List Nat) (j : Nat) : (iD l).take j = iD (l.take j) := by
  unfold iD
  rw [List.map_take]
theorem iD_drop (l : List Nat) (j : Nat) : (iD l).drop j = iD (l.drop j) := by
  unfold iD
  rw [List.map_drop]
theorem iD_app (l m : List Nat) : iD l ++ iD m = iD (l ++ m) := by
  unfold iD
  rw [List.map_append]
theorem shuf_ok {C : Cxt} {n b : Nat} {T : List Nat} {row : List Int} (hl : T.length = n) (ht : ∀ o ∈ T, o < b) (hr : n ≤ row.length) (hn : n ≤ 1000) : Sat (DS.run C ⟨6, 2, bShuf⟩ [.lst (iD T), .lst (jD row)]) fun r => ∃ od, r = .fr (iD od) ∧ od.length = n ∧ ∀ o ∈ od, o < b := by
  have tl : (iD T).length = n := (iD_len T).trans hl
  refine run_sat rfl ?_
  refine exs_next (σ1 := [.val (.lst (iD T)), .val (.lst (jD row)), .val (.lst (iD T)), .un, .un, .un]) rfl ?_
  refine exs_next (σ1 := [.val (.lst (iD T)), .val (.lst (jD row)), .val (.lst (iD T)), .own [], .un, .un]) rfl ?_
  refine exs_cons (for_r1 (n := n) (v_len (vv_slot (i := 0) rfl).w rfl tl).w (by omega) (fun i σ => ∃ R A a c, R.length = n - i ∧ A.length = i ∧ (∀ o ∈ R, o < b) ∧ (∀ o ∈ A, o < b) ∧ σ = [.val (.lst (iD T)), .val (.lst (jD row)), .val (.lst (iD R)), .own (iD A), a, c]) ⟨T, [], .un, .un, hl, rfl, ht, fun o h => (by cases h), rfl⟩ ?_ ?_)
  · rintro i σ hi ⟨R, A, a, c, rl, al, hR, hA, rfl⟩
    obtain ⟨at', hat, hmod⟩ := v_modI (C := C) (σ := [.val (.lst (iD T)), .val (.lst (jD row)), .val (.lst (iD R)), .own (iD A), .val (.int (i : Int)), c]) (int_blt (vv_ix (vv_slot (i := 1) rfl).w (vv_slot (i := 4) rfl).w (jD_atD (by omega))).w).w (v_len (n := n - i) (vv_slot (i := 2) rfl).w rfl ((iD_len R).trans rl)).w (by omega)
    refine exs_next (x_setS hmod) ?_
    have hra : R[at']? = some (R.getD at' 0) := getD_at? (by omega)
    refine exs_next (x_app (i := 3) (ds := iD A) rfl (v_ixI (l := R) (vv_slot (i := 2) rfl).w rfl (vv_slot (i := 5) rfl).w hra) (by
      rw [iD_len]
      exact Nat.lt_of_lt_of_le (show A.length < 1000000 by omega) (by decide))) ?_
    have hcat := v_cat (C := C) (σ := [.val (.lst (iD T)), .val (.lst (jD row)), .val (.lst (iD R)), .own (iD A ++ [.int (R.getD at' 0 : Nat)]), .val (.int (i : Int)), .val (.int (at' : Int))]) (v_take (j := at') (vv_slot (i := 2) rfl).w (vv_slot (i := 5) rfl).w rfl).w (v_drop (j := at' + 1) (vv_slot (i := 2) rfl).w (v_add (j := 1) (vv_slot (i := 5) rfl).w vv_int.w).w rfl).w (by
      rw [List.length_take, List.length_drop, iD_len]
      omega)
    rw [iD_take, iD_drop, iD_app, iD_snoc] at hcat
    rw [iD_snoc]
    refine exs_next (x_setS hcat) (exs_nil ⟨R.take at' ++ R.drop (at' + 1), A ++ [R.getD at' 0], .val (.int (i : Int)), .val (.int (at' : Int)), ?_, ?_, ?_, ?_, rfl⟩)
    · rw [List.length_append, List.length_take, List.length_drop]
      omega
    · rw [List.length_append, al]
      rfl
    · intro o h
      rcases List.mem_append.mp h with h | h
      · exact hR o (List.mem_of_mem_take h)
      · exact hR o (List.mem_of_mem_drop h)
    · intro o h
      rcases List.mem_append.mp h with h | h
      · exact hA o h
      · rw [List.mem_singleton.mp h]
        exact hR _ (List.mem_of_getElem? hra)
  · rintro σ ⟨R, A, a, c, rl, al, hR, hA, rfl⟩
    exact exs_rt (r := .fr (iD A)) (σ1 := [.val (.lst (iD T)), .val (.lst (jD row)), .val (.lst (iD R)), .un, a, c]) rfl ⟨rfl, A, rfl, al, hA⟩
/-! ### grown -/
def bGrow (jh : Nat) : SRs := (.cons (.set 4 (.blt .list (.cons (.slot 0) .nil))) (.cons (.for_ (.nm 5) .range2 (.cons (.blt .len (.cons (.slot 0) .nil)) (.cons (.slot 1) .nil)) (.cons (.setS 6 (.int 0)) (.cons (.ife (.andT (.cons (.cmpT .Gt (.slot 5) (.int 0)) (.cons (.cmpT .Gt (.ix (.slot 2) (.slot 5)) (.int 0)) .nil))) (.cons (.setS 8 (.bin .Mod (.blt .int (.cons (.ix (.slot 3) (.slot 5)) .nil)) (.slot 5))) (.cons (.setS 6 (.bin .LShift (.int 1) (.slot 8))) (.cons (.ife (.cmpT .Gt (.ix (.slot 2) (.slot 5)) (.int 3)) (.cons (.setS 6 (.bin .BitOr (.ix (.bor 4) (.slot 8)) (.bin .LShift (.bin .Mod (.blt .int (.cons (.ix (.slot 2) (.slot 5)) .nil)) (.int 2)) (.slot 8)))) .nil) .nil) .nil))) .nil) (.cons (.for_ (.nm 7) .range1 (.cons (.slot 5) .nil) (.cons (.ife (.tru (.call jh (.cons (.slot 6) (.cons (.slot 7) .nil)))) (.cons (.setIx 4 (.slot 7) (.bin .BitOr (.ix (.bor 4) (.slot 7)) (.bin .LShift (.int 1) (.slot 5)))) .nil) .nil) .nil)) (.cons (.app 4 (.slot 6)) .nil))))) (.cons (.ret (.move 4)) .nil)))
theorem bt_snoc (N : List Nat) (m x y : Nat) : bt (N ++ [m]) x y = if x = N.length then m.testBit y else bt N x y := by
  unfold bt
  rw [List.getD_eq_getElem?_getD, List.getD_eq_getElem?_getD]
  by_cases h : x < N.length
  · rw [List.getElem?_append_left h, if_neg (by omega)]
  · rw [List.getElem?_append_right (by omega)]
    by_cases e : x = N.length
    · subst e
      rw [if_pos rfl, Nat.sub_self]
      rfl
    · rw [if_neg e, List.getElem?_eq_none (by simp; omega), List.getElem?_eq_none (by omega)]
theorem grow_gd {i fr : Nat} {N N' : List Nat} (g : Gd i N) (hf : fr < 2 ^ i) (hl : N'.length = i) (h : ∀ x y, bt N' x y = (bt N x y || (decide (x < i) && (fr.testBit x && decide (y = i))))) : Gd (i + 1) (N' ++ [fr]) := by
  have hfx : ∀ x, fr.testBit x = true → x < i := fun x h => Nat.lt_of_not_le fun q => by
    rw [Nat.testBit_lt_two_pow (Nat.lt_of_lt_of_le hf (Nat.pow_le_pow_right (by decide) q))] at h
    cases h
  have hNi : ∀ x, bt N x i = false := fun x => by
    cases q : bt N x i with
    | false => rfl
    | true => have := (g.inn x i q).2.1; omega
  have key : ∀ x y, bt (N' ++ [fr]) x y = if x = i then fr.testBit y else (bt N x y || (fr.testBit x && decide (y = i))) := fun x y => by
    rw [bt_snoc, hl]
    by_cases c : x = i
    · rw [if_pos c, if_pos c]
    · rw [if_neg c, if_neg c, h]
      congr 1
      cases q : fr.testBit x with
      | false => simp
      | true => rw [decide_eq_true (hfx x q), Bool.true_and]
  refine ⟨by rw [List.length_append, hl]; rfl, fun x y q => ?_, fun x y => ?_⟩
  · rw [key] at q
    by_cases c : x = i
    · rw [if_pos c] at q
      have := hfx y q
      omega
    · rw [if_neg c, Bool.or_eq_true] at q
      rcases q with q | q
      · have := g.inn x y q
        omega
      · rw [Bool.and_eq_true] at q
        have h1 := hfx x q.1
        have h2 := of_decide_eq_true q.2
        omega
  · rw [key, key]
    by_cases c : x = i
    · by_cases d : y = i
      · rw [c, d]
      · rw [if_pos c, if_neg d, c, hNi]
        simp
    · by_cases d : y = i
      · rw [if_neg c, if_pos d, d, hNi]
        simp
      · rw [if_neg c, if_neg d, g.sym, decide_eq_false c, decide_eq_false d]
        simp
theorem grow_ok {C : Cxt} {jh n : Nat} {ks os : List Int} (hh : HasF C jh) (hk : n ≤ ks.length) (ho : n ≤ os.length) (hn : n ≤ 1000) : Sat (DS.run C ⟨9, 4, bGrow jh⟩ [.lst [], .int (n : Int), .lst (jD ks), .lst (jD os)]) fun r => ∃ M, r = .fr (iD M) ∧ Gd n M := by
  refine run_sat rfl ?_
  refine exs_next (σ1 := [.val (.lst []), .val (.int (n : Int)), .val (.lst (jD ks)), .val (.lst (jD os)), .own [], .un, .un, .un, .un]) rfl ?_
  refine exs_cons (for_r2 (lo := 0) (hi := n) (v_len (n := 0) (vv_slot (i := 0) rfl).w rfl rfl).w (vv_slot (i := 1) rfl).w (by omega) (by omega) (fun i σ => ∃ N a b c d, Gd i N ∧ σ = [.val (.lst []), .val (.int (n : Int)), .val (.lst (jD ks)), .val (.lst (jD os)), .own (iD N), a, b, c, d]) ⟨[], .un, .un, .un, .un, zeros_gd 0, rfl⟩ ?_ ?_)
  · rintro i σ hi ⟨N, a, b, c, d, g, rfl⟩
    rw [Nat.zero_add]
    have nl := g.len
    refine exs_next (x_setS (vv_int (n := 0))) ?_
    show Sat (exs C _ [.val (.lst []), .val (.int (n : Int)), .val (.lst (jD ks)), .val (.lst (jD os)), .own (iD N), .val (.int (i : Int)), .val (.int ((0 : Nat) : Int)), c, d]) _
    refine exs_via (fun σ => ∃ fr : Nat, ∃ d : Sl, fr < 2 ^ i ∧ σ = [.val (.lst []), .val (.int (n : Int)), .val (.lst (jD ks)), .val (.lst (jD os)), .own (iD N), .val (.int (i : Int)), .val (.int (fr : Int)), c, d]) (x_ife (tt_and (t_gt (vv_slot (i := 5) rfl).w (vv_int (n := 0)).w) fun _ => tt_and1 (t_gt (vv_ix (vv_slot (i := 2) rfl).w (vv_slot (i := 5) rfl).w (jD_atD (by omega))).w (vv_int (n := 0)).w)) (fun h => ?_) fun h => ?_) ?_
    · have hi0 : 0 < i := by
        rw [Bool.and_eq_true] at h
        have := of_decide_eq_true h.1
        omega
      obtain ⟨o, ho', hmod⟩ := v_modI (C := C) (σ := [.val (.lst []), .val (.int (n : Int)), .val (.lst (jD ks)), .val (.lst (jD os)), .own (iD N), .val (.int (i : Int)), .val (.int ((0 : Nat) : Int)), c, d]) (int_blt (vv_ix (vv_slot (i := 3) rfl).w (vv_slot (i := 5) rfl).w (jD_atD (by omega))).w).w (vv_slot (i := 5) rfl).w hi0
      have hp : 2 ^ o < 2 ^ i := Nat.pow_lt_pow_right (by decide) ho'
      refine exs_next (x_setS hmod) ?_
      refine exs_next (x_setS (v_pow (j := o) (vv_slot (i := 8) rfl).w (by omega))) ?_
      show Sat (exs C _ [.val (.lst []), .val (.int (n : Int)), .val (.lst (jD ks)), .val (.lst (jD os)), .own (iD N), .val (.int (i : Int)), .val (.int ((2 ^ o : Nat) : Int)), c, .val (.int (o : Int))]) _
      refine exs_cons (x_ife (t_gt (vv_ix (vv_slot (i := 2) rfl).w (vv_slot (i := 5) rfl).w (jD_atD (by omega))).w (vv_int (n := 3)).w) (fun h => ?_) fun h => ?_)
      · obtain ⟨m, em, mb, ml⟩ := g.at ho'
        obtain ⟨r2, hr2, hm2⟩ := v_modI (C := C) (j := 2) (σ := [.val (.lst []), .val (.int (n : Int)), .val (.lst (jD ks)), .val (.lst (jD os)), .own (iD N), .val (.int (i : Int)), .val (.int ((2 ^ o : Nat) : Int)), c, .val (.int (o : Int))]) (int_blt (vv_ix (vv_slot (i := 2) rfl).w (vv_slot (i := 5) rfl).w (jD_atD (by omega))).w).w (vv_int (n := 2)).w (by omega)
        refine exs_next (x_setS (v_or (v_ixI (l := N) (vw_own rfl) rfl (vv_slot (i := 8) rfl).w em).w (v_shl hm2.w (vv_slot (i := 8) rfl).w (by omega) (by omega)).w)) (exs_nil (exs_nil ⟨rfl, m ||| r2 * 2 ^ o, .val (.int (o : Int)), Nat.or_lt_two_pow ml ?_, rfl⟩))
        have : r2 = 0 ∨ r2 = 1 := by omega
        rcases this with rfl | rfl
        · rw [Nat.zero_mul]
          exact Nat.two_pow_pos i
        · rw [Nat.one_mul]
          exact hp
      · exact exs_nil (exs_nil ⟨rfl, 2 ^ o, .val (.int (o : Int)), hp, rfl⟩)
    · exact exs_nil ⟨rfl, 0, d, Nat.two_pow_pos i, rfl⟩
    · rintro σ ⟨fr, d, hfr, rfl⟩
      refine exs_cons (for_r1 (n := i) (vv_slot (i := 5) rfl).w (by omega) (fun k σ => ∃ N' c, N'.length = i ∧ (∀ x y, bt N' x y = (bt N x y || (decide (x < k) && (fr.testBit x && decide (y = i))))) ∧ σ = [.val (.lst []), .val (.int (n : Int)), .val (.lst (jD ks)), .val (.lst (jD os)), .own (iD N'), .val (.int (i : Int)), .val (.int (fr : Int)), c, d]) ⟨N, c, nl, fun x y => by simp, rfl⟩ ?_ ?_)
      · rintro k σ hk' ⟨N', c, nl', hN', rfl⟩
        refine exs_cons (x_ife (t_has hh (vv_slot (i := 6) rfl) (vv_slot (i := 7) rfl)) (fun h => ?_) fun h => ?_)
        · refine exs_next (x_setIx (p := 4) (j := k) rfl (v_or (v_ixI (l := N') (vw_own rfl) rfl (vv_slot (i := 7) rfl).w (getD_at? (by omega))).w (v_pow (j := i) (vv_slot (i := 5) rfl).w (by omega)).w) (vv_slot (i := 7) rfl).w (by rw [iD_len]; omega)) ?_
          rw [iD_set]
          refine exs_nil (exs_nil ⟨N'.set k (N'.getD k 0 ||| 2 ^ i), .val (.int (k : Int)), by rw [List.length_set]; exact nl', fun x y => ?_, rfl⟩)
          rw [bt_set]
          by_cases hx : x = k
          · subst hx
            rw [if_pos ⟨rfl, by omega⟩, or_pow]
            by_cases hy : y = i
            · subst hy
              simp [h]
            · rw [if_neg hy]
              show bt N' x y = _
              rw [hN', decide_eq_false hy]
              simp
          · rw [if_neg (fun q => hx q.1), hN']
            have : decide (x < k) = decide (x < k + 1) := decide_eq_decide.mpr (by omega)
            rw [this]
        · refine exs_nil (exs_nil ⟨N', .val (.int (k : Int)), nl', fun x y => ?_, rfl⟩)
          rw [hN']
          by_cases hx : x = k
          · subst hx
            rw [h]
            simp
          · have : decide (x < k) = decide (x < k + 1) := decide_eq_decide.mpr (by omega)
            rw [this]
      · rintro σ ⟨N', c, nl', hN', rfl⟩
        refine exs_next (x_app (i := 4) (ds := iD N') rfl (vv_slot (i := 6) rfl) (by
          rw [iD_len]
          exact Nat.lt_of_lt_of_le (show N'.length < 1000000 by omega) (by decide))) ?_
        rw [iD_snoc]
        exact exs_nil ⟨N' ++ [fr], .val (.int (i : Int)), .val (.int (fr : Int)), c, d, grow_gd g hfr nl' hN', rfl⟩
  · rintro σ ⟨N, a, b, c, d, g, rfl⟩
    rw [Nat.sub_zero] at g
    exact exs_rt (r := .fr (iD N)) (σ1 := [.val (.lst []), .val (.int (n : Int)), .val (.lst (jD ks)), .val (.lst (jD os)), .un, a, b, c, d]) rfl ⟨rfl, N, rfl, g⟩
def bWout : SRs := (.cons (.set 2 (.lst .nil)) (.cons (.for_ (.nm 3) .range1 (.cons (.blt .len (.cons (.slot 0) .nil)) .nil) (.cons (.ife (.cmpT .NotEq (.slot 3) (.slot 1)) (.cons (.setS 4 (.bin .BitAnd (.ix (.slot 0) (.slot 3)) (.bin .Sub (.bin .LShift (.int 1) (.slot 1)) (.int 1)))) (.cons (.app 2 (.bin .BitOr (.slot 4) (.bin .LShift (.bin .RShift (.ix (.slot 0) (.slot 3)) (.bin .Add (.slot 1) (.int 1))) (.slot 1)))) .nil)) .nil) .nil)) (.cons (.ret (.move 2)) .nil)))
end Nt
/-! ## Names and nets -/
namespace Nt
open PySem PySem.Spec PyProof.Rows L2 DS Gf Bt
def bNm : SRs := (.cons (.ife (.orT (.cons (.cmpT .Lt (.blt .len (.cons (.slot 0) .nil)) (.int 1)) (.cons (.cmpT .Gt (.blt .len (.cons (.slot 0) .nil)) (.int 8)) (.cons (.cmpT .NotIn (.ix (.slot 0) (.int 0)) (.str "abcdefghijklmnopqrstuvwxyz")) .nil)))) (.cons (.ret (.bl false)) .nil) .nil) (.cons (.for_ (.nm 1) .chars (.cons (.slot 0) .nil) (.cons (.ife (.andT (.cons (.cmpT .NotIn (.slot 1) (.str "abcdefghijklmnopqrstuvwxyz")) (.cons (.cmpT .NotIn (.slot 1) (.str "0123456789")) .nil))) (.cons (.ret (.bl false)) .nil) .nil) .nil)) (.cons (.ret (.bl true)) .nil)))
def lets : Str := "abcdefghijklmnopqrstuvwxyz"
def digs : Str := "0123456789"
def chD (c : Nat) : D := .str ⟨#[c]⟩
/-- a name -/
def Nm (s : Str) : Prop := ∃ c cs, s.cps.toList = c :: cs ∧ c ∈ lets.cps.toList ∧ cs.length ≤ 7 ∧ ∀ x ∈ cs, x ∈ lets.cps.toList ∨ x ∈ digs.cps.toList
theorem ch_lets : ∀ c ∈ lets.cps.toList, inD (chD c) (.str lets) = some true := by decide +kernel
theorem ch_digs : ∀ c ∈ digs.cps.toList, inD (chD c) (.str lets) = some false ∧ inD (chD c) (.str digs) = some true := by decide +kernel
theorem len_toList (s : Str) : s.length = s.cps.toList.length := by
  show s.cps.size = _
  simp
theorem t_notin {C : Cxt} {σ : En} {a b : IR} {x y : D} {k : Bool} (ha : Vw C a σ x) (hb : Vw C b σ y) (h : inD x y = some k) : Tt C (.cmpT .NotIn a b) σ (!k) := tt_cmp ha hb (by
  show (inD x y).map _ = _
  rw [h]
  rfl)
theorem nm_ok {C : Cxt} {s : Str} (h : Nm s) : DS.run C ⟨2, 1, bNm⟩ [.str s] = .ok (.v (.bl true)) := Sat.eq <| by
  obtain ⟨c, cs, e, h1, h2, h3⟩ := h
  have hl : s.length = cs.length + 1 := by
    rw [len_toList, e]
    rfl
  have hsz : s.length ≤ sizeLine := Nat.le_trans (show s.length ≤ 8 by omega) (by decide)
  have hlen : Vv C (.blt .len (.cons (.slot 0) .nil)) [.val (.str s), .un] (.int (s.length : Nat)) := vv_blt (r := .v (.int (s.length : Nat))) (wl_cons (vv_slot (i := 0) rfl).w wl_nil) (by
    show (if s.length ≤ sizeLine then Out.ok (Ar.v (.int (s.length : Nat))) else .bad) = _
    rw [if_pos hsz])
  have hix : ixD (.str s) (.int 0) = some (chD c) := by
    show (if s.length ≤ sizeLine then (atI s.cps.toList 0).map fun c => D.str ⟨#[c]⟩ else none) = _
    have h0 : atI (c :: cs) 0 = some c := atI_nat (j := 0) rfl
    rw [if_pos hsz, e, h0]
    rfl
  refine run_sat rfl ?_
  refine exs_cons (x_ife (k := false) (by
    have t := tt_or (C := C) (t_lt hlen.w (vv_int (n := 1)).w) fun _ => tt_or (t_gt hlen.w (vv_int (n := 8)).w) fun _ => tt_or1 (t_notin (vv_ix (vv_slot (i := 0) rfl).w (vv_int (n := 0)).w hix).w (show Vw C (.str lets) _ (.str lets) from ⟨_, rfl, rfl⟩) (ch_lets c h1))
    have e1 : decide (((s.length : Nat) : Int) < 1) = false := decide_eq_false (by omega)
    have e2 : decide ((8 : Int) < ((s.length : Nat) : Int)) = false := decide_eq_false (by omega)
    rw [e1, e2] at t
    exact t) (fun h => nomatch h) fun _ => exs_nil ?_)
  refine exs_cons (for_sat (σ1 := [.val (.str s), .un]) (rs := [.v (.str s)]) (xs := charsOf s) rfl rfl rfl (fun i σ => ∃ w, σ = [.val (.str s), w]) ⟨.un, rfl⟩ ?_ ?_)
  · rintro i x σ hx ⟨w, rfl⟩
    unfold charsOf at hx
    rw [List.getElem?_map] at hx
    cases hq : s.cps.toList[i]? with
    | none => rw [hq] at hx; cases hx
    | some q =>
      rw [hq] at hx
      cases hx
      have hm : q ∈ lets.cps.toList ∨ q ∈ digs.cps.toList := by
        have := List.mem_of_getElem? hq
        rw [e] at this
        rcases List.mem_cons.mp this with k | k
        · exact .inl (k ▸ h1)
        · exact h3 q k
      refine ⟨[.val (.str s), .val (chD q)], rfl, exs_cons (x_ife (k := false) ?_ (fun h => nomatch h) fun _ => exs_nil (exs_nil ⟨_, rfl⟩))⟩
      rcases hm with k | k
      · exact tt_and (k := false) (l := false) (t_notin (vv_slot (i := 1) rfl).w (show Vw C (.str lets) _ (.str lets) from ⟨_, rfl, rfl⟩) (ch_lets q k)) (fun h => nomatch h)
      · exact tt_and (k := true) (l := false) (t_notin (vv_slot (i := 1) rfl).w (show Vw C (.str lets) _ (.str lets) from ⟨_, rfl, rfl⟩) (ch_digs q k).1) fun _ => tt_and1 (t_notin (vv_slot (i := 1) rfl).w (show Vw C (.str digs) _ (.str digs) from ⟨_, rfl, rfl⟩) (ch_digs q k).2)
  · rintro σ ⟨w, rfl⟩
    exact exs_rt rfl ⟨rfl, rfl⟩
abbrev NmQ (φ : List D → Out Ar) : Prop := ∀ s : Str, Nm s → φ [.str s] = .ok (.v (.bl true))
abbrev NmF (C : Cxt) (f : Nat) : Prop := NmQ (C.fn f)
def bOrd (jn : Nat) : SRs := (.cons (.newDic 1) (.cons (.for_ (.nm 2) .seq (.cons (.slot 0) .nil) (.cons (.ife (.notT (.tru (.call jn (.cons (.slot 2) .nil)))) (.cons .dead .nil) .nil) (.cons (.ife (.inDicT false (.slot 2) 1) (.cons .dead .nil) .nil) (.cons (.setDic 1 (.slot 2) (.bl true)) .nil)))) (.cons (.ret (.blt .tuple (.cons (.op .sortS (.cons (.listDic 1) .nil)) .nil))) .nil)))
theorem sD_get {l : List Str} {i : Nat} {x : D} (h : (sD l)[i]? = some x) : ∃ s, l[i]? = some s ∧ x = .str s := by
  unfold sD at h
  rw [List.getElem?_map] at h
  cases e : l[i]? with
  | none => rw [e] at h; cases h
  | some m => rw [e] at h; exact ⟨m, rfl, (Option.some.inj h).symm⟩
theorem sD_len (l : List Str) : (sD l).length = l.length := by simp [sD]
theorem strs_sD : ∀ l : List Str, strs? (sD l) = some l
  | [] => rfl
  | s :: l => by
    show (strs? (sD l)).map (s :: ·) = _
    rw [strs_sD l]
    rfl
def kvs (l : List Str) : List (Key × D) := l.map fun s => (.inr s, .bl true)
theorem getD_new {l : List Str} {s : Str} (h : s ∉ l) : getD' (kvs l) (.inr s) = none := by
  unfold getD' kvs
  rw [List.find?_eq_none.mpr]
  · rfl
  · intro q hq
    obtain ⟨t, ht, rfl⟩ := List.mem_map.mp hq
    simp
    intro e
    subst e
    exact h ht
theorem putD_new {l : List Str} {s : Str} (h : s ∉ l) : putD (kvs l) (.inr s) (.bl true) = kvs (l ++ [s]) := by
  unfold putD
  rw [if_neg]
  · unfold kvs
    rw [List.map_append]
    rfl
  · intro e
    rw [List.any_eq_true] at e
    obtain ⟨q, hq, e⟩ := e
    obtain ⟨t, ht, rfl⟩ := List.mem_map.mp hq
    simp at e
    subst e
    exact h ht
theorem str_nodup_take {l : List Str} {i : Nat} {q : Str} (hn : l.Nodup) (h : l[i]? = some q) : q ∉ l.take i := fun hm => by
  obtain ⟨j, hj, e⟩ := List.getElem_of_mem hm
  rw [List.getElem_take] at e
  obtain ⟨hi, e2⟩ := List.getElem?_eq_some_iff.mp h
  rw [List.length_take] at hj
  have := (List.getElem_inj hn).mp (e.trans e2.symm)
  omega
theorem ord_ok {C : Cxt} {jn : Nat} {l : List Str} {x : D} (hn : NmF C jn) (hx : seqOf x = some (sD l)) (hd : l.Nodup) (hm : ∀ s ∈ l, Nm s) (hl : l.length < 64) : DS.run C ⟨3, 1, bOrd jn⟩ [x] = .ok (.v (.tup (sD (ssort l)))) := Sat.eq <| by
  refine run_sat rfl ?_
  refine exs_next (σ1 := [.val x, .dic [], .un]) rfl ?_
  refine exs_cons (for_sq (x := x) (xs := sD l) (vv_slot (i := 0) rfl) hx (fun i σ => ∃ w, σ = [.val x, .dic (kvs (l.take i)), w]) ⟨.un, rfl⟩ ?_ ?_)
  · rintro i y σ hy ⟨w, rfl⟩
    obtain ⟨s, es, rfl⟩ := sD_get hy
    have hs := str_nodup_take hd es
    have hil := (List.getElem?_eq_some_iff.mp es).1
    show Sat (exs C _ [.val x, .dic (kvs (l.take i)), .val (.str s)]) _
    refine exs_cons (x_ife (k := false) (tt_not (k := true) (tt_tru (vv_call (vl_cons (vv_slot (i := 2) rfl) vl_nil) (hn s (hm s (List.mem_of_getElem? es)))).w rfl)) (fun h => nomatch h) fun _ => exs_nil ?_)
    refine exs_cons (x_ife (k := false) (by
      unfold Tt
      show (match some (Sum.inr s : Key), some (Sl.dic (kvs (l.take i))) with | some k, some (.dic kvs) => Out.ok (Ar.v (.bl (getD' kvs k).isSome), _) | _, _ => .bad) = _
      dsimp only
      rw [getD_new hs]
      rfl) (fun h => nomatch h) fun _ => exs_nil ?_)
    refine exs_next (σ1 := [.val x, .dic (kvs (l.take (i + 1))), .val (.str s)]) (by
      show (if (kvs (l.take i)).length < sizeLine then Out.ok (Fl.nx, [Sl.val x, Sl.dic (putD (kvs (l.take i)) (.inr s) (.bl true)), Sl.val (.str s)]) else .bad) = _
      rw [if_pos (by
        unfold kvs
        rw [List.length_map, List.length_take]
        exact Nat.lt_of_lt_of_le (show min i l.length < 1000000 by omega) (by decide)), putD_new hs, take_snoc es]) (exs_nil ⟨_, rfl⟩)
  · rintro σ ⟨w, rfl⟩
    rw [sD_len, List.take_length]
    refine exs_rt (r := .v (.tup (sD (ssort l)))) (σ1 := [.val x, .dic (kvs l), w]) (x_retE (tuple_ev ?_) rfl) ⟨rfl, rfl⟩
    have e : (kvs l).map (fun q => keyV q.1) = sD l := by
      unfold kvs sD
      rw [List.map_map]
      rfl
    have h1 : opD C .sortS [.lst (sD l)] = .ok (.fr (sD (ssort l))) := by
      show (match strs? (sD l) with | some ss => if ss.length < 64 then Out.ok (Ar.fr ((ssort ss).map .str)) else .bad | none => .bad) = _
      rw [strs_sD]
      dsimp only
      rw [if_pos hl]
      rfl
    rw [ev]
    show ((opD C .sortS [.lst ((kvs l).map fun q => keyV q.1)]).bnd _) = _
    rw [e, h1]
    rfl
/-! ### ties -/
theorem Nm.ok {s : Str} (h : Nm s) : PyData.strOk s = true := by
  obtain ⟨c, cs, e, h1, h2, h3⟩ := h
  have a : ∀ x ∈ lets.cps.toList, x < 0x110000 := by decide +kernel
  have b : ∀ x ∈ digs.cps.toList, x < 0x110000 := by decide +kernel
  unfold PyData.strOk
  rw [← Array.all_toList, e, List.all_eq_true]
  intro x hx
  rcases List.mem_cons.mp hx with k | k
  · exact decide_eq_true (k ▸ a c h1)
  · exact decide_eq_true ((h3 x k).elim (a x) (b x))
theorem eqD_str {s t : Str} (hs : PyData.strOk s = true) (ht : PyData.strOk t = true) : eqD (.str s) (.str t) = some (decide (s = t)) := by
  have h : PyData.eqv (.str s) (.str t) = decide (s = t) := by
    simp only [PyData.eqv]
    by_cases e : s = t
    · subst e; simp
    · simp [e]
  show (if SeqAt.shaped (.str s) && SeqAt.shaped (.str t) then some (PyData.eqv (.str s) (.str t)) else none) = _
  have k : ∀ u : Str, PyData.strOk u = true → SeqAt.shaped (.str u) = true := fun u hu => shaped_of (n := 1) (by simpa [PyData.canLay0] using hu) (by simp [PyData.depth]) (by decide)
  rw [h, k s hs, k t ht]
  rfl
theorem flats_sD : ∀ l : List Str, flats? (sD l) = some (l.map V.str)
  | [] => rfl
  | s :: l => by
    have := flats_sD l
    unfold sD at this ⊢
    simp only [List.map_cons, flats?, flat?, this]
theorem inV_str (s : Str) : ∀ l : List Str, inV (.str s) (l.map V.str) = decide (s ∈ l)
  | [] => rfl
  | t :: l => by
    have := inV_str s l
    unfold inV at this ⊢
    rw [List.map_cons, List.any_cons, this]
    show ((t == s) || _) = _
    by_cases e : t = s
    · subst e; simp
    · have : s ≠ t := fun q => e q.symm
      simp [e, this]
theorem inD_names {x : D} {l : List Str} (hx : seqOf x = some (sD l)) (s : Str) : inD (.str s) x = some (decide (s ∈ l)) := by
  have key : (match flat? (.str s), flats? (sD l) with | some v, some vs => some (inV v vs) | _, _ => none) = some (decide (s ∈ l)) := by
    rw [flats_sD]
    exact congrArg some (inV_str s l)
  cases x <;> simp [seqOf] at hx <;> subst hx <;> exact key
theorem findIdx_at {l : List Str} (hn : l.Nodup) {i : Nat} {s : Str} (h : l[i]? = some s) : l.findIdx? (fun t => decide (t = s)) = some i := by
  obtain ⟨hi, e⟩ := List.getElem?_eq_some_iff.mp h
  rw [List.findIdx?_eq_some_iff_getElem]
  refine ⟨hi, by rw [e]; simp, fun j hj => ?_⟩
  simp
  intro q
  have := (List.getElem_inj hn).mp (q.trans e.symm)
  omega
theorem sAt_mem {P : List Str} {i : Nat} (h : i < P.length) : sAt P i ∈ P := by
  unfold sAt
  rw [getD_at _ h]
  exact List.getElem_mem h
theorem sAt_at {P : List Str} {i : Nat} (h : i < P.length) : P[i]? = some (sAt P i) := by
  unfold sAt
  rw [getD_at _ h]
  exact List.getElem?_eq_getElem h
theorem sAt_inj {P : List Str} (hn : P.Nodup) {i k : Nat} (hi : i < P.length) (hk : k < P.length) (h : sAt P i = sAt P k) : i = k := by
  unfold sAt at h
  rw [getD_at _ hi, getD_at _ hk] at h
  exact (List.getElem_inj hn).mp h
section
variable {C : Cxt} {σ : En} {a b : IR} {P : List Str} {i : Nat}
theorem t_known {x : D} (ha : Vw C a σ (.str (sAt P i))) (hb : Vw C b σ x) (hx : seqOf x = some (sD P)) (hi : i < P.length) : Tt C (.cmpT .NotIn a b) σ false := by
  have := t_notin ha hb (inD_names hx (sAt P i))
  rwa [decide_eq_true (sAt_mem hi)] at this
theorem v_index (ha : Vv C a σ (.tup (sD P))) (hb : Vv C b σ (.str (sAt P i))) (hn : P.Nodup) (hi : i < P.length) : Vv C (.op (.index true) (.cons a (.cons b .nil))) σ (.int (i : Int)) := by
  have h1 : indexD true (.tup (sD P)) (.str (sAt P i)) = some i := by
    show (strs? (sD P)).bind _ = _
    rw [strs_sD]
    exact findIdx_at hn (sAt_at hi)
  have h2 : opD C (.index true) [.tup (sD P), .str (sAt P i)] = .ok (.v (.int (i : Int))) := by
    show (match indexD true (.tup (sD P)) (.str (sAt P i)) with | some k => Out.ok (Ar.v (.int (k : Nat))) | none => .bad) = _
    rw [h1]
  have hs : evs C (.cons a (.cons b .nil)) σ = .ok (([.tup (sD P), .str (sAt P i)] : List D).map Ar.v, σ) := vl_cons ha (vl_cons hb vl_nil)
  refine sq_of (r := .v (.int (i : Int))) ?_ rfl
  rw [ev, hs]
  show ((opD C (.index true) [.tup (sD P), .str (sAt P i)]).bnd _) = _
  rw [h2]
  rfl
end
/-- a tie as it is passed -/
def TieR (P : List Str) (q : Nat × Nat) (t : D) : Prop := t = .tup [.str (sAt P q.1), .str (sAt P q.2)] ∨ t = .lst [.str (sAt P q.1), .str (sAt P q.2)]
def or2 (M : List Nat) (q : Nat × Nat) : List Nat := (M.set q.1 (M.getD q.1 0 ||| 2 ^ q.2)).set q.2 ((M.set q.1 (M.getD q.1 0 ||| 2 ^ q.2)).getD q.2 0 ||| 2 ^ q.1)
theorem or2_gd {n : Nat} {M : List Nat} {q : Nat × Nat} (g : Gd n M) (ha : q.1 < n) (hb : q.2 < n) (hab : q.1 ≠ q.2) : Gd n (or2 M q) ∧ ∀ i k, bt (or2 M q) i k = if (i = q.1 ∧ k = q.2) ∨ (i = q.2 ∧ k = q.1) then true else bt M i k := by
  have e1 : (M.set q.1 (M.getD q.1 0 ||| 2 ^ q.2)).getD q.2 0 = M.getD q.2 0 := by
    rw [List.getD_eq_getElem?_getD, List.getElem?_set, if_neg hab, ← List.getD_eq_getElem?_getD]
  unfold or2
  rw [e1]
  exact pair_gd g ha hb hab (x := M.getD q.1 0 ||| 2 ^ q.2) (y := M.getD q.2 0 ||| 2 ^ q.1) (fun _ => true) (fun k => or_pow _ _ _) (fun k => or_pow _ _ _)
/-- ties that make a net -/
structure TieOk (n : Nat) (P : List Str) (M : List Nat) (y : D) : Prop where
  ex : ∃ ts ps, seqOf y = some ts ∧ All2 (TieR P) ps ts ∧ (∀ q ∈ ps, q.1 < n ∧ q.2 < n ∧ q.1 ≠ q.2) ∧ ∀ i k, bt M i k = true ↔ (i, k) ∈ ps ∨ (k, i) ∈ ps
def bCore : SRs := (.cons (.set 2 (.comp (.nm 7) [7] .seq (.cons (.slot 0) .nil) (.bl true) (.int 0))) (.cons (.for_ (.tp [3, 4]) .seq (.cons (.slot 1) .nil) (.cons (.ife (.cmpT .NotIn (.slot 3) (.slot 0)) (.cons .dead .nil) .nil) (.cons (.ife (.cmpT .NotIn (.slot 4) (.slot 0)) (.cons .dead .nil) .nil) (.cons (.ife (.cmpT .Eq (.slot 3) (.slot 4)) (.cons .dead .nil) .nil) (.cons (.setS 5 (.op (.index true) (.cons (.slot 0) (.cons (.slot 3) .nil)))) (.cons (.setS 6 (.op (.index true) (.cons (.slot 0) (.cons (.slot 4) .nil)))) (.cons (.setIx 2 (.slot 5) (.bin .BitOr (.ix (.bor 2) (.slot 5)) (.bin .LShift (.int 1) (.slot 6)))) (.cons (.setIx 2 (.slot 6) (.bin .BitOr (.ix (.bor 2) (.slot 6)) (.bin .LShift (.int 1) (.slot 5)))) .nil)))))))) (.cons (.ret (.blt .tuple (.cons (.slot 2) .nil))) .nil)))
theorem core_ok {C : Cxt} {n : Nat} {P : List Str} {M : List Nat} {y : D} (hp : P.length = n) (hn : P.Nodup) (hm : ∀ s ∈ P, Nm s) (g : Gd n M) (h : TieOk n P M y) (hs : n ≤ 1000) : DS.run C ⟨8, 2, bCore⟩ [.tup (sD P), y] = .ok (.v (.tup (iD M))) := Sat.eq <| by
  obtain ⟨ts, ps, hy, ha, hr, hb⟩ := h.ex
  refine run_sat rfl ?_
  have h1 := comp_m (C := C) (σ := [.val (.tup (sD P)), .val y, .un, .un, .un, .un, .un, .un]) (t := .nm 7) (own := [7]) (kd := .seq) (es := .cons (.slot 0) .nil) (e := .int 0) (rs := [.v (.tup (sD P))]) (l := P) (f := D.str) (h := fun _ => .int 0)
    (fun s => [.val (.tup (sD P)), .val y, .un, .un, .un, .un, .un, .val (.str s)]) rfl rfl rfl rfl rfl rfl (fun _ _ => rfl) (fun _ _ => rfl) (fun _ _ => vv_int) (by omega)
  have e0 : P.map (fun _ => D.int 0) = iD (List.replicate n 0) := by
    unfold iD
    rw [List.map_replicate, List.map_const', hp]
    rfl
  rw [e0] at h1
  refine exs_next (set_ev h1) ?_
  refine exs_cons (for_sq2 (x := y) (xs := ts) (vv_slot (i := 1) rfl) hy (fun i σ => ∃ N a b c d, Gd n N ∧ (∀ x z, bt N x z = true ↔ (x, z) ∈ ps.take i ∨ (z, x) ∈ ps.take i) ∧ σ = [.val (.tup (sD P)), .val y, .own (iD N), a, b, c, d, .un]) ⟨_, .un, .un, .un, .un, zeros_gd n, fun x z => (by rw [bt_zeros]; simp), rfl⟩ ?_ ?_)
  · rintro i t σ ht ⟨N, a, b, c, d, gN, hN, rfl⟩
    obtain ⟨q, eq, tq⟩ := ha.get ht
    obtain ⟨q1, q2, q3⟩ := hr q (List.mem_of_getElem? eq)
    have nl := gN.len
    refine ⟨.str (sAt P q.1), .str (sAt P q.2), tq, ?_⟩
    show Sat (exs C _ [.val (.tup (sD P)), .val y, .own (iD N), .val (.str (sAt P q.1)), .val (.str (sAt P q.2)), c, d, .un]) _
    refine exs_cons (x_ife (k := false) (t_known (vv_slot (i := 3) rfl).w (vv_slot (i := 0) rfl).w rfl (by omega)) (fun h => nomatch h) fun _ => exs_nil ?_)
    refine exs_cons (x_ife (k := false) (t_known (vv_slot (i := 4) rfl).w (vv_slot (i := 0) rfl).w rfl (by omega)) (fun h => nomatch h) fun _ => exs_nil ?_)
    refine exs_cons (x_ife (k := false) (tt_cmp (vv_slot (i := 3) rfl).w (vv_slot (i := 4) rfl).w (by
      rw [cmp_eq', eqD_str (hm _ (sAt_mem (by omega))).ok (hm _ (sAt_mem (by omega))).ok, decide_eq_false (fun e => q3 (sAt_inj hn (by omega) (by omega) e))])) (fun h => nomatch h) fun _ => exs_nil ?_)
    refine exs_next (x_setS (v_index (vv_slot (i := 0) rfl) (vv_slot (i := 3) rfl) hn (by omega))) ?_
    refine exs_next (x_setS (v_index (vv_slot (i := 0) rfl) (vv_slot (i := 4) rfl) hn (by omega))) ?_
    show Sat (exs C _ [.val (.tup (sD P)), .val y, .own (iD N), .val (.str (sAt P q.1)), .val (.str (sAt P q.2)), .val (.int (q.1 : Int)), .val (.int (q.2 : Int)), .un]) _
    refine exs_next (x_setIx (p := 2) (j := q.1) rfl (v_or (v_ixI (l := N) (vw_own rfl) rfl (vv_slot (i := 5) rfl).w (getD_at? (by omega))).w (v_pow (vv_slot (i := 6) rfl).w (by omega)).w) (vv_slot (i := 5) rfl).w (by rw [iD_len]; omega)) ?_
    rw [iD_set]
    refine exs_next (x_setIx (p := 2) (j := q.2) rfl (v_or (v_ixI (l := N.set q.1 (N.getD q.1 0 ||| 2 ^ q.2)) (vw_own rfl) rfl (vv_slot (i := 6) rfl).w (getD_at? (by rw [List.length_set]; omega))).w (v_pow (vv_slot (i := 5) rfl).w (by omega)).w) (vv_slot (i := 6) rfl).w (by rw [iD_len, List.length_set]; omega)) ?_
    rw [iD_set]
    obtain ⟨g', hg'⟩ := or2_gd gN q1 q2 q3
    refine exs_nil ⟨or2 N q, .val (.str (sAt P q.1)), .val (.str (sAt P q.2)), .val (.int (q.1 : Int)), .val (.int (q.2 : Int)), g', fun x z => ?_, rfl⟩
    rw [hg', take_snoc eq]
    by_cases c : (x = q.1 ∧ z = q.2) ∨ (x = q.2 ∧ z = q.1)
    · rw [if_pos c]
      refine ⟨fun _ => ?_, fun _ => rfl⟩
      rcases c with ⟨rfl, rfl⟩ | ⟨rfl, rfl⟩
      · exact .inl (List.mem_append_right _ (List.mem_singleton.mpr rfl))
      · exact .inr (List.mem_append_right _ (List.mem_singleton.mpr rfl))
    · rw [if_neg c, hN]
      simp only [List.mem_append, List.mem_singleton]
      constructor
      · rintro (k | k)
        · exact .inl (.inl k)
        · exact .inr (.inl k)
      · rintro ((k | k) | (k | k))
        · exact .inl k
        · exact (c (.inl ⟨congrArg Prod.fst k, congrArg Prod.snd k⟩)).elim
        · exact .inr k
        · exact (c (.inr ⟨congrArg Prod.snd k, congrArg Prod.fst k⟩)).elim
  · rintro σ ⟨N, a, b, c, d, gN, hN, rfl⟩
    have e : N = M := gN.ext g fun i k _ _ => by
      have h1 := hN i k
      have h2 := hb i k
      rw [← ha.length, List.take_length] at h1
      cases e1 : bt N i k <;> cases e2 : bt M i k <;> simp_all
    subst e
    exact exs_rt (r := .v (.tup (iD N))) (σ1 := [.val (.tup (sD P)), .val y, .val (.lst (iD N)), a, b, c, d, .un]) rfl ⟨rfl, rfl⟩
def bCt : SRs := (.cons (.set 1 (.lst .nil)) (.cons (.for_ (.tp [2, 3]) .enum (.cons (.slot 0) .nil) (.cons (.for_ (.nm 4) .range2 (.cons (.bin .Add (.slot 2) (.int 1)) (.cons (.blt .len (.cons (.slot 0) .nil)) .nil)) (.cons (.ife (.cmpT .Eq (.bin .BitAnd (.bin .RShift (.slot 3) (.slot 4)) (.int 1)) (.int 1)) (.cons (.app 1 (.tup (.cons (.slot 2) (.cons (.slot 4) .nil)))) .nil) .nil) .nil)) .nil)) (.cons (.ret (.blt .tuple (.cons (.slot 1) .nil))) .nil)))
def tiesQ (n : Nat) (M : List Nat) : List (Nat × Nat) := (prs n).filter fun q => bt M q.1 q.2
theorem ct_ok {C : Cxt} {n : Nat} {M : List Nat} (hl : M.length = n) (hn : n ≤ 100) : DS.run C ⟨5, 1, bCt⟩ [.tup (iD M)] = .ok (.v (.tup (pD (tiesQ n M)))) := Sat.eq <| by
  have ml : (iD M).length = n := (iD_len M).trans hl
  refine run_sat rfl ?_
  refine exs_next (σ1 := [.val (.tup (iD M)), .own [], .un, .un, .un]) rfl ?_
  refine exs_cons (for_en (x := .tup (iD M)) (xs := iD M) (vv_slot (i := 0) rfl) rfl (fun i σ => ∃ a b c, σ = [.val (.tup (iD M)), .own (pD ((prsTo n i).filter fun q => bt M q.1 q.2)), a, b, c]) ⟨.un, .un, .un, rfl⟩ ?_ ?_)
  · rintro i y σ hy ⟨a, b, c, rfl⟩
    obtain ⟨m, em, rfl⟩ := iD_get hy
    have hi : i < n := by rw [← hl]; exact (List.getElem?_eq_some_iff.mp em).1
    have hm : M.getD i 0 = m := by rw [List.getD_eq_getElem?_getD, em]; rfl
    refine exs_cons (for_r2 (lo := i + 1) (hi := n) (v_add (j := 1) (vv_slot (i := 2) rfl).w vv_int.w).w (v_len (vv_slot (i := 0) rfl).w rfl ml).w (by omega) (by omega) (fun k σ => ∃ c, σ = [.val (.tup (iD M)), .own (pD ((prsTo n i ++ (List.range k).map fun k => (i, i + 1 + k)).filter fun q => bt M q.1 q.2)), .val (.int (i : Int)), .val (.int (m : Int)), c]) ⟨c, by
      show _ = [_, Sl.own (pD ((prsTo n i ++ []).filter fun q => bt M q.1 q.2)), _, _, _]
      rw [List.append_nil]
      rfl⟩ ?_ ?_)
    · rintro k σ hk ⟨c, rfl⟩
      have hlen : (pD ((prsTo n i ++ (List.range k).map fun k => (i, i + 1 + k)).filter fun q => bt M q.1 q.2)).length < sizeLine := by
        have h1 := prsTo_len n i
        have h2 : i * n ≤ 100 * 100 := Nat.mul_le_mul (by omega) hn
        have h3 := List.length_filter_le (fun q : Nat × Nat => bt M q.1 q.2) (prsTo n i ++ (List.range k).map fun k => (i, i + 1 + k))
        simp only [pD, List.length_map, List.length_append, List.length_range] at h3 ⊢
        exact Nat.lt_of_lt_of_le (show _ < 1000000 by omega) (by decide)
      have e : (prsTo n i ++ (List.range (k + 1)).map fun k => (i, i + 1 + k)).filter (fun q => bt M q.1 q.2) = (prsTo n i ++ (List.range k).map fun k => (i, i + 1 + k)).filter (fun q => bt M q.1 q.2) ++ if m.testBit (i + 1 + k) then [(i, i + 1 + k)] else [] := by
        rw [map_range_succ, ← List.append_assoc, List.filter_append (prsTo n i ++ _)]
        have hb : bt M i (i + 1 + k) = m.testBit (i + 1 + k) := by unfold bt; rw [hm]
        cases h : m.testBit (i + 1 + k) <;> simp [hb, h]
      refine exs_cons (x_ife (t_bit (vv_slot (i := 3) rfl).w (vv_slot (i := 4) rfl).w) (fun h => ?_) fun h => ?_)
      · refine exs_next (x_app (i := 1) rfl (vv_tup (vl_cons (vv_slot (i := 2) rfl) (vl_cons (vv_slot (i := 4) rfl) vl_nil)) (show 2 ≤ sizeLine by decide)) hlen) (exs_nil (exs_nil ⟨.val (.int ((i + 1 + k : Nat) : Int)), ?_⟩))
        rw [e, if_pos h, ← pD_snoc]
        rfl
      · refine exs_nil (exs_nil ⟨.val (.int ((i + 1 + k : Nat) : Int)), ?_⟩)
        rw [e, h]
        simp
    · rintro σ ⟨c, rfl⟩
      refine exs_nil ⟨.val (.int (i : Int)), .val (.int (m : Int)), c, ?_⟩
      have e : prsTo n (i + 1) = prsTo n i ++ (List.range (n - (i + 1))).map fun k => (i, i + 1 + k) := by
        unfold prsTo
        rw [List.range_succ, List.flatMap_append]
        simp
      rw [e]
  · rintro σ ⟨a, b, c, rfl⟩
    rw [ml]
    exact exs_rt (r := .v (.tup (pD (tiesQ n M)))) (σ1 := [.val (.tup (iD M)), .val (.lst (pD (tiesQ n M))), a, b, c]) rfl ⟨rfl, rfl⟩
end Nt
/-! ## Nets made -/
namespace Nt
open PySem PySem.Spec PyProof.Rows L2 DS Gf Bt
section
variable {C : Cxt} {σ : En} {a e : IR} {d : D} {cn i : Nat} {fs : List D} {f : Str}
theorem x_fld (he : Vv C e σ d) (h0 : σ[i]? = some (.obj cn fs)) (hf : (C.fields cn)[fs.length]? = some f) : ex C (.setF i cn f e) σ = .ok (.nx, σ.set i (.obj cn (fs ++ [d]))) := by
  unfold Vv at he
  simp only [ex, he, Out.bnd, h0]
  rw [if_pos ⟨trivial, hf⟩]
theorem v_self (h0 : σ[i]? = some (.obj cn fs)) (h : ((C.fields cn).zip fs).lookup f = some d) : Vv C (.selfF i cn f) σ d := by
  refine sq_of (r := .v d) ?_ rfl
  rw [ev, h0]
  dsimp only
  rw [if_pos rfl, h]
  rfl
theorem op_ev {o : Op} {es : IRs} {ds : List D} {r : Ar} (hs : VvL C es σ ds) (h : opD C o ds = .ok r) : ev C (.op o es) σ = .ok (r, σ) := by
  unfold VvL at hs
  rw [ev, hs]
  simp only [Out.bnd, view_v, noB_v, h]
  rfl
theorem vv_op {o : Op} {es : IRs} {ds : List D} {r : Ar} (hs : VvL C es σ ds) (h : opD C o ds = .ok r) (hr : r.isB = false := by rfl) : Vv C (.op o es) σ r.view := sq_of (op_ev hs h) hr
end
structure NetOk (n : Nat) (P : List Str) : Prop where
  len : P.length = n
  nd : P.Nodup
  nm : ∀ s ∈ P, Nm s
  srt : ssort P = P
  few : n ≤ 60
abbrev OrdQ (φ : List D → Out Ar) : Prop := ∀ (l : List Str) (x : D), seqOf x = some (sD l) → l.Nodup → (∀ s ∈ l, Nm s) → l.length < 64 → φ [x] = .ok (.v (.tup (sD (ssort l))))
abbrev OrdF (C : Cxt) (f : Nat) : Prop := OrdQ (C.fn f)
abbrev CoreQ (φ : List D → Out Ar) : Prop := ∀ (n : Nat) (P : List Str) (M : List Nat) (y : D), NetOk n P → Gd n M → TieOk n P M y → φ [.tup (sD P), y] = .ok (.v (.tup (iD M)))
abbrev CoreF (C : Cxt) (f : Nat) : Prop := CoreQ (C.fn f)
abbrev CtQ (φ : List D → Out Ar) : Prop := ∀ (n : Nat) (M : List Nat), M.length = n → n ≤ 100 → φ [.tup (iD M)] = .ok (.v (.tup (pD (tiesQ n M))))
abbrev CtF (C : Cxt) (f : Nat) : Prop := CtQ (C.fn f)
abbrev MakeQ (cn : Nat) (φ : List D → Out Ar) : Prop := ∀ (n : Nat) (P P' : List Str) (M : List Nat) (x y : D), NetOk n P → P'.Perm P → seqOf x = some (sD P') → Gd n M → TieOk n P M y → φ [x, y] = .ok (.v (netD cn P M))
abbrev MakeF (C : Cxt) (cn : Nat) : Prop := MakeQ cn (C.make cn)
theorem sort_same {n : Nat} {P P' : List Str} (h : NetOk n P) (p : P'.Perm P) : ssort P' = P := by
  refine (ssort_uniq p.symm ?_).symm
  have := ssort_pw P
  rwa [h.srt] at this
theorem tiesL_eq {n : Nat} {P : List Str} {M : List Nat} (hp : P.length = n) : (tiesQ n M).map (fun q => D.tup [.str (sAt P q.1), .str (sAt P q.2)]) = tiesL P M := by
  subst hp
  rfl
theorem tiesQ_len (n : Nat) (M : List Nat) (h : n ≤ 100) : (tiesQ n M).length ≤ 10000 := by
  have h1 := List.length_filter_le (fun q : Nat × Nat => bt M q.1 q.2) (prs n)
  have h2 := prsTo_len n n
  have h3 : n * n ≤ 100 * 100 := Nat.mul_le_mul h h
  have h4 : prs n = prsTo n n := rfl
  rw [← h4] at h2
  unfold tiesQ
  omega
def bInit (cn jo jc jt : Nat) : SRs := (.cons (.setF 0 cn "points" (.call jo (.cons (.slot 1) .nil))) (.cons (.setF 0 cn "core" (.call jc (.cons (.selfF 0 cn "points") (.cons (.slot 2) .nil)))) (.cons (.setF 0 cn "ties" (.blt .tuple (.cons (.comp (.tp [3, 4]) [3, 4] .seq (.cons (.call jt (.cons (.selfF 0 cn "core") .nil)) .nil) (.bl true) (.tup (.cons (.ix (.selfF 0 cn "points") (.slot 3)) (.cons (.ix (.selfF 0 cn "points") (.slot 4)) .nil)))) .nil))) .nil)))
theorem init_ok {C : Cxt} {cn jo jc jt n : Nat} {P P' : List Str} {M : List Nat} {x y : D} (hc : NetC C cn) (ho : OrdF C jo) (hk : CoreF C jc) (ht : CtF C jt) (h : NetOk n P) (p : P'.Perm P) (hx : seqOf x = some (sD P')) (g : Gd n M) (tk : TieOk n P M y) :
    runI C cn ⟨5, 3, bInit cn jo jc jt⟩ [x, y] = .ok (.v (netD cn P M)) := by
  have hcf : C.fields cn = [("points" : Str), ("core" : Str), ("ties" : Str)] := hc
  have h1 := ho P' x hx (p.nodup_iff.mpr h.nd) (fun s hs => h.nm s (p.mem_iff.mp hs)) (by rw [p.length_eq, h.len]; have := h.few; omega)
  rw [sort_same h p] at h1
  have key : Sat (exs C (bInit cn jo jc jt) [.obj cn [], .val x, .val y, .un, .un]) fun z => z = (.nx, [.obj cn [.tup (sD P), .tup (iD M), .tup (tiesL P M)], .val x, .val y, .un, .un]) := by
    refine exs_next (x_fld (fs := []) (vv_call (vl_cons (vv_slot (i := 1) rfl) vl_nil) h1) rfl (by rw [hcf]; rfl)) ?_
    show Sat (exs C _ [.obj cn [.tup (sD P)], .val x, .val y, .un, .un]) _
    refine exs_next (x_fld (fs := [.tup (sD P)]) (vv_call (vl_cons (v_self (d := .tup (sD P)) (fs := [.tup (sD P)]) rfl (by rw [hcf]; rfl)) (vl_cons (vv_slot (i := 2) rfl) vl_nil)) (hk n P M y h g tk)) rfl (by rw [hcf]; rfl)) ?_
    show Sat (exs C _ [.obj cn [.tup (sD P), .tup (iD M)], .val x, .val y, .un, .un]) _
    have pt : ∀ {a b : Sl}, Vv C (.selfF 0 cn "points") [.obj cn [.tup (sD P), .tup (iD M)], .val x, .val y, a, b] (.tup (sD P)) := v_self (fs := [.tup (sD P), .tup (iD M)]) rfl (by rw [hcf]; rfl)
    have ct := vv_call (C := C) (σ := [.obj cn [.tup (sD P), .tup (iD M)], .val x, .val y, .un, .un]) (vl_cons (v_self (i := 0) (f := "core") (d := .tup (iD M)) (fs := [.tup (sD P), .tup (iD M)]) rfl (by rw [hcf]; rfl)) vl_nil) (ht n M g.len (by have := h.few; omega))
    unfold Vv at ct
    have h2 := comp_m (C := C) (σ := [.obj cn [.tup (sD P), .tup (iD M)], .val x, .val y, .un, .un]) (t := .tp [3, 4]) (own := [3, 4]) (kd := .seq) (es := .cons (.call jt (.cons (.selfF 0 cn "core") .nil)) .nil) (e := .tup (.cons (.ix (.selfF 0 cn "points") (.slot 3)) (.cons (.ix (.selfF 0 cn "points") (.slot 4)) .nil))) (rs := [.v (.tup (pD (tiesQ n M)))]) (l := tiesQ n M) (f := prD) (h := fun q => D.tup [.str (sAt P q.1), .str (sAt P q.2)])
      (fun q => [.obj cn [.tup (sD P), .tup (iD M)], .val x, .val y, .val (.int (q.1 : Int)), .val (.int (q.2 : Int))]) (by simp only [evs, ct, Out.bnd]; rfl) rfl rfl rfl rfl rfl (fun _ _ => rfl) (fun _ _ => rfl) (fun q hq => by
        obtain ⟨q1, q2⟩ := mem_prs.mp (List.mem_filter.mp hq).1
        have hl := h.len
        exact vv_tup (vl_cons (v_ix pt.w rfl (vv_slot (i := 3) rfl).w (sD_at (by omega))) (vl_cons (v_ix pt.w rfl (vv_slot (i := 4) rfl).w (sD_at (by omega))) vl_nil)) (show 2 ≤ sizeLine by decide)) (by
        have := tiesQ_len n M (by have := h.few; omega)
        omega)
    rw [tiesL_eq h.len] at h2
    exact exs_next (x_fld (fs := [.tup (sD P), .tup (iD M)]) (sq_of (tuple_ev h2) rfl) rfl (by rw [hcf]; rfl)) (exs_nil rfl)
  obtain ⟨z, e, rfl⟩ := key
  have hl : ([x, y] : List D).length + 1 = (⟨5, 3, bInit cn jo jc jt⟩ : Df).arity := rfl
  unfold runI
  rw [if_pos hl]
  show ((exs C (bInit cn jo jc jt) [.obj cn [], .val x, .val y, .un, .un]).bnd _) = _
  rw [e]
  show (if cn = cn ∧ 3 = (C.fields cn).length then Out.ok (Ar.v (.ins cn _)) else .bad) = _
  rw [hcf, if_pos ⟨rfl, rfl⟩]
  rfl
theorem all2_map {α : Type} {R : α → D → Prop} {f : α → D} : ∀ (l : List α), (∀ a ∈ l, R a (f a)) → All2 R l (l.map f)
  | [], _ => .nil
  | a :: l, h => .cons (h a (List.mem_cons_self ..)) (all2_map l fun b hb => h b (List.mem_cons_of_mem _ hb))
theorem all2_snoc {α β : Type} {R : α → β → Prop} {l : List α} {m : List β} {a : α} {b : β} (h : All2 R l m) (k : R a b) : All2 R (l ++ [a]) (m ++ [b]) := by
  induction h with
  | nil => exact .cons k .nil
  | cons h _ ih => exact .cons h ih
theorem own_ties {n : Nat} {P : List Str} {M : List Nat} (hp : P.length = n) (g : Gd n M) : TieOk n P M (.lst (tiesL P M)) := ⟨⟨tiesL P M, tiesQ n M, rfl, by
    rw [← tiesL_eq hp]
    exact all2_map _ fun q _ => .inl rfl, fun q hq => by
    obtain ⟨q1, q2⟩ := mem_prs.mp (List.mem_filter.mp hq).1
    omega, fun i k => by
    unfold tiesQ
    simp only [List.mem_filter, mem_prs]
    constructor
    · intro h
      obtain ⟨h1, h2, h3⟩ := g.inn i k h
      by_cases c : i < k
      · exact .inl ⟨⟨c, h2⟩, h⟩
      · exact .inr ⟨⟨by show k < i; omega, h1⟩, by rw [g.sym]; exact h⟩
    · rintro (h | h)
      · exact h.2
      · rw [g.sym]
        exact h.2⟩⟩
def bMade (cn jt : Nat) : SRs := (.cons (.ret (.op (.make cn) (.cons (.slot 0) (.cons (.comp (.tp [2, 3]) [2, 3] .seq (.cons (.call jt (.cons (.slot 1) .nil)) .nil) (.bl true) (.tup (.cons (.ix (.slot 0) (.slot 2)) (.cons (.ix (.slot 0) (.slot 3)) .nil)))) .nil)))) .nil)
theorem made_ok {C : Cxt} {cn jt n : Nat} {P : List Str} {M : List Nat} (hm : MakeF C cn) (ht : CtF C jt) (h : NetOk n P) (g : Gd n M) : DS.run C ⟨4, 2, bMade cn jt⟩ [.tup (sD P), .tup (iD M)] = .ok (.v (netD cn P M)) := by
  have ct := vv_call (C := C) (σ := [.val (.tup (sD P)), .val (.tup (iD M)), .un, .un]) (vl_cons (vv_slot (i := 1) rfl) vl_nil) (ht n M g.len (by have := h.few; omega))
  unfold Vv at ct
  have h2 := comp_m (C := C) (σ := [.val (.tup (sD P)), .val (.tup (iD M)), .un, .un]) (t := .tp [2, 3]) (own := [2, 3]) (kd := .seq) (es := .cons (.call jt (.cons (.slot 1) .nil)) .nil) (e := .tup (.cons (.ix (.slot 0) (.slot 2)) (.cons (.ix (.slot 0) (.slot 3)) .nil))) (rs := [.v (.tup (pD (tiesQ n M)))]) (l := tiesQ n M) (f := prD) (h := fun q => D.tup [.str (sAt P q.1), .str (sAt P q.2)])
    (fun q => [.val (.tup (sD P)), .val (.tup (iD M)), .val (.int (q.1 : Int)), .val (.int (q.2 : Int))]) (by simp only [evs, ct, Out.bnd]; rfl) rfl rfl rfl rfl rfl (fun _ _ => rfl) (fun _ _ => rfl) (fun q hq => by
      obtain ⟨q1, q2⟩ := mem_prs.mp (List.mem_filter.mp hq).1
      have hl := h.len
      exact vv_tup (vl_cons (v_ix (vv_slot (i := 0) rfl).w rfl (vv_slot (i := 2) rfl).w (sD_at (by omega))) (vl_cons (v_ix (vv_slot (i := 0) rfl).w rfl (vv_slot (i := 3) rfl).w (sD_at (by omega))) vl_nil)) (show 2 ≤ sizeLine by decide)) (by
      have := tiesQ_len n M (by have := h.few; omega)
      omega)
  rw [tiesL_eq h.len] at h2
  exact run_ret rfl rfl (op_ev (o := .make cn) (vl_cons (vv_slot (i := 0) rfl) (vl_cons (sq_fr h2) vl_nil)) (hm n P P M _ _ h (List.Perm.refl _) rfl g (own_ties h.len g))) rfl
abbrev MadeQ (cn : Nat) (φ : List D → Out Ar) : Prop := ∀ (n : Nat) (P : List Str) (M : List Nat), NetOk n P → Gd n M → φ [.tup (sD P), .tup (iD M)] = .ok (.v (netD cn P M))
abbrev MadeF (C : Cxt) (cn : Nat) (f : Nat) : Prop := MadeQ cn (C.fn f)
def bPlace (cn : Nat) : SRs := (.cons (.ife (.cmpT .NotIn (.slot 1) (.op (.fld cn "points") (.cons (.slot 0) .nil))) (.cons .dead .nil) .nil) (.cons (.ret (.op (.index true) (.cons (.op (.fld cn "points") (.cons (.slot 0) .nil)) (.cons (.slot 1) .nil)))) .nil))
theorem place_ok {C : Cxt} {cn i : Nat} {P : List Str} {M : List Nat} (hc : NetC C cn) (hn : P.Nodup) (hi : i < P.length) : DS.run C ⟨2, 2, bPlace cn⟩ [netD cn P M, .str (sAt P i)] = .ok (.v (.int (i : Int))) := Sat.eq <| by
  refine run_sat rfl ?_
  have hp := f_points (C := C) (σ := [.val (netD cn P M), .val (.str (sAt P i))]) (a := .slot 0) hc (vv_slot rfl).w
  refine exs_cons (x_ife (k := false) (t_known (vv_slot (i := 1) rfl).w hp.w rfl hi) (fun h => nomatch h) fun _ => exs_nil ?_)
  exact exs_rt (x_ret' (v_index hp (vv_slot (i := 1) rfl) hn hi) int_nl) ⟨rfl, rfl⟩
abbrev PlaceQ (cn : Nat) (φ : List D → Out Ar) : Prop := ∀ (i : Nat) (P : List Str) (M : List Nat), P.Nodup → i < P.length → φ [netD cn P M, .str (sAt P i)] = .ok (.v (.int (i : Int)))
abbrev PlaceF (C : Cxt) (cn : Nat) (f : Nat) : Prop := PlaceQ cn (C.fn f)
def bTurnN (cn jp jm : Nat) : SRs := (.cons (.setS 3 (.op (.meth cn jp) (.cons (.slot 0) (.cons (.slot 1) .nil)))) (.cons (.setS 4 (.op (.meth cn jp) (.cons (.slot 0) (.cons (.slot 2) .nil)))) (.cons (.ife (.cmpT .Eq (.slot 3) (.slot 4)) (.cons .dead .nil) .nil) (.cons (.set 5 (.blt .list (.cons (.op (.fld cn "core") (.cons (.slot 0) .nil)) .nil))) (.cons (.setIx 5 (.slot 3) (.bin .BitXor (.ix (.bor 5) (.slot 3)) (.bin .LShift (.int 1) (.slot 4)))) (.cons (.setIx 5 (.slot 4) (.bin .BitXor (.ix (.bor 5) (.slot 4)) (.bin .LShift (.int 1) (.slot 3)))) (.cons (.ret (.call jm (.cons (.op (.fld cn "points") (.cons (.slot 0) .nil)) (.cons (.blt .tuple (.cons (.slot 5) .nil)) .nil)))) .nil)))))))
theorem turnN_ok {C : Cxt} {cn jp jm n a b : Nat} {P : List Str} {M : List Nat} (hc : NetC C cn) (hp : PlaceF C cn jp) (hm : MadeF C cn jm) (h : NetOk n P) (g : Gd n M) (ha : a < n) (hb : b < n) (hab : a ≠ b) :
    DS.run C ⟨6, 3, bTurnN cn jp jm⟩ [netD cn P M, .str (sAt P a), .str (sAt P b)] = .ok (.v (netD cn P (togL M a b))) := Sat.eq <| by
  have hl := h.len
  have nl := g.len
  have fw := h.few
  refine run_sat rfl ?_
  refine exs_next (x_setS (vv_meth (vl_cons (vv_slot (i := 0) rfl) (vl_cons (vv_slot (i := 1) rfl) vl_nil)) (hp a P M h.nd (by omega)))) ?_
  refine exs_next (x_setS (vv_meth (vl_cons (vv_slot (i := 0) rfl) (vl_cons (vv_slot (i := 2) rfl) vl_nil)) (hp b P M h.nd (by omega)))) ?_
  show Sat (exs C _ [.val (netD cn P M), .val (.str (sAt P a)), .val (.str (sAt P b)), .val (.int (a : Int)), .val (.int (b : Int)), .un]) _
  refine exs_cons (x_ife (k := false) (by
    have := t_eq (C := C) (σ := [.val (netD cn P M), .val (.str (sAt P a)), .val (.str (sAt P b)), .val (.int (a : Int)), .val (.int (b : Int)), .un]) (vv_slot (i := 3) rfl).w (vv_slot (i := 4) rfl).w
    rwa [decide_eq_false (show ¬ (a : Int) = (b : Int) by omega)] at this) (fun h => nomatch h) fun _ => exs_nil ?_)
  refine exs_next (set_ev (list_ev (xs := iD M) (f_core hc (vv_slot (i := 0) rfl).w).w rfl)) ?_
  refine exs_next (x_setIx (p := 5) (j := a) rfl (v_xor (v_ixI (l := M) (vw_own rfl) rfl (vv_slot (i := 3) rfl).w (getD_at? (by omega))).w (v_pow (vv_slot (i := 4) rfl).w (by omega)).w) (vv_slot (i := 3) rfl).w (by rw [iD_len]; omega)) ?_
  rw [iD_set]
  refine exs_next (x_setIx (p := 5) (j := b) rfl (v_xor (v_ixI (l := M.set a (M.getD a 0 ^^^ 2 ^ b)) (vw_own rfl) rfl (vv_slot (i := 4) rfl).w (getD_at? (by rw [List.length_set]; omega))).w (v_pow (vv_slot (i := 3) rfl).w (by omega)).w) (vv_slot (i := 4) rfl).w (by rw [iD_len, List.length_set]; omega)) ?_
  rw [iD_set]
  show Sat (exs C _ [.val (netD cn P M), .val (.str (sAt P a)), .val (.str (sAt P b)), .val (.int (a : Int)), .val (.int (b : Int)), .own (iD (togL M a b))]) _
  have hpt := f_points (C := C) (σ := [.val (netD cn P M), .val (.str (sAt P a)), .val (.str (sAt P b)), .val (.int (a : Int)), .val (.int (b : Int)), .own (iD (togL M a b))]) (a := .slot 0) hc (vv_slot rfl).w
  unfold Vv at hpt
  have hcall : ev C (.call jm (.cons (.op (.fld cn "points") (.cons (.slot 0) .nil)) (.cons (.blt .tuple (.cons (.slot 5) .nil)) .nil))) [.val (netD cn P M), .val (.str (sAt P a)), .val (.str (sAt P b)), .val (.int (a : Int)), .val (.int (b : Int)), .own (iD (togL M a b))] = .ok (.v (netD cn P (togL M a b)), [.val (netD cn P M), .val (.str (sAt P a)), .val (.str (sAt P b)), .val (.int (a : Int)), .val (.int (b : Int)), .val (.lst (iD (togL M a b)))]) := by
    rw [ev]
    have e1 : evs C (.cons (.op (.fld cn "points") (.cons (.slot 0) .nil)) (.cons (.blt .tuple (.cons (.slot 5) .nil)) .nil)) [.val (netD cn P M), .val (.str (sAt P a)), .val (.str (sAt P b)), .val (.int (a : Int)), .val (.int (b : Int)), .own (iD (togL M a b))] = .ok ([.v (.tup (sD P)), .v (.tup (iD (togL M a b)))], [.val (netD cn P M), .val (.str (sAt P a)), .val (.str (sAt P b)), .val (.int (a : Int)), .val (.int (b : Int)), .val (.lst (iD (togL M a b)))]) := by
      rw [evs, hpt]
      rfl
    rw [e1]
    show ((C.fn jm [.tup (sD P), .tup (iD (togL M a b))]).bnd _) = _
    rw [hm n P _ h (tog_gd g ha hb hab)]
    rfl
  exact exs_rt (x_retE' hcall rfl) ⟨rfl, rfl⟩
/-! ### nets as the laws pass them -/
def HasP (C : Cxt) (jp jh : Nat) : Prop := PrsF C jp ∧ HasF C jh
def bLTies (jp jh : Nat) : SRs := (.cons (.set 3 (.lst .nil)) (.cons (.setS 4 (.int 0)) (.cons (.for_ (.nm 5) .seq (.cons (.call jp (.cons (.blt .len (.cons (.slot 0) .nil)) .nil)) .nil) (.cons (.ife (.tru (.call jh (.cons (.ix (.slot 1) (.ix (.slot 5) (.int 0))) (.cons (.ix (.slot 5) (.int 1)) .nil)))) (.cons (.ife (.cmpT .Eq (.bin .Mod (.ix (.slot 2) (.slot 4)) (.int 2)) (.int 0)) (.cons (.app 3 (.tup (.cons (.ix (.slot 0) (.ix (.slot 5) (.int 0))) (.cons (.ix (.slot 0) (.ix (.slot 5) (.int 1))) .nil)))) .nil) (.cons (.app 3 (.lst (.cons (.ix (.slot 0) (.ix (.slot 5) (.int 1))) (.cons (.ix (.slot 0) (.ix (.slot 5) (.int 0))) .nil)))) .nil)) (.cons (.ife (.cmpT .Eq (.ix (.slot 2) (.slot 4)) (.int 5)) (.cons (.app 3 (.tup (.cons (.ix (.slot 0) (.ix (.slot 5) (.int 0))) (.cons (.ix (.slot 0) (.ix (.slot 5) (.int 1))) .nil)))) .nil) .nil) .nil)) .nil) (.cons (.setS 4 (.bin .Add (.slot 4) (.int 1))) .nil))) (.cons (.ret (.move 3)) .nil))))
structure TInv (n i : Nat) (P : List Str) (M : List Nat) (ts : List D) (ps : List (Nat × Nat)) : Prop where
  all : All2 (TieR P) ps ts
  inn : ∀ q ∈ ps, (q ∈ (prs n).take i ∨ (q.2, q.1) ∈ (prs n).take i) ∧ bt M q.1 q.2 = true
  out : ∀ q ∈ (prs n).take i, bt M q.1 q.2 = true → q ∈ ps ∨ (q.2, q.1) ∈ ps
  few : ts.length ≤ 2 * i
theorem lties_ok {C : Cxt} {jp jh n : Nat} {P : List Str} {M : List Nat} {row : List Int} (hp : PrsF C jp) (hh : HasF C jh) (h : NetOk n P) (g : Gd n M) (hr : (prs n).length ≤ row.length) : Sat (DS.run C ⟨6, 3, bLTies jp jh⟩ [.lst (sD P), .lst (iD M), .lst (jD row)]) fun r => ∃ ts, r = .fr ts ∧ TieOk n P M (.lst ts) := by
  have hl := h.len
  have fw := h.few
  have nl := g.len
  have pl : (sD P).length = n := (sD_len P).trans hl
  have plen : (prs n).length ≤ 10000 := by
    have h2 := prsTo_len n n
    have h3 : n * n ≤ 100 * 100 := Nat.mul_le_mul (by omega) (by omega)
    have h4 : prs n = prsTo n n := rfl
    rw [← h4] at h2
    omega
  refine run_sat rfl ?_
  refine exs_next (σ1 := [.val (.lst (sD P)), .val (.lst (iD M)), .val (.lst (jD row)), .own [], .un, .un]) rfl ?_
  refine exs_next (σ1 := [.val (.lst (sD P)), .val (.lst (iD M)), .val (.lst (jD row)), .own [], .val (.int ((0 : Nat) : Int)), .un]) rfl ?_
  have h0 := call_ev (C := C) (σ := [.val (.lst (sD P)), .val (.lst (iD M)), .val (.lst (jD row)), .own [], .val (.int ((0 : Nat) : Int)), .un]) (vl_cons (v_len (vv_slot (i := 0) rfl).w rfl pl) vl_nil) (hp n (by omega))
  refine exs_cons (for_sq (x := .lst (pD (prs n))) (xs := pD (prs n)) (sq_fr h0) rfl (fun i σ => ∃ ts ps a, TInv n i P M ts ps ∧ σ = [.val (.lst (sD P)), .val (.lst (iD M)), .val (.lst (jD row)), .own ts, .val (.int (i : Int)), a]) ⟨[], [], .un, ⟨.nil, fun q hq => (by cases hq), fun q hq => (by simp at hq), Nat.zero_le _⟩, rfl⟩ ?_ ?_)
  · rintro i y σ hy ⟨ts, ps, a, I, rfl⟩
    obtain ⟨q, eq, rfl⟩ := prD_get hy
    have hil : i < (prs n).length := (List.getElem?_eq_some_iff.mp eq).1
    obtain ⟨q1, q2⟩ := mem_prs.mp (List.mem_of_getElem? eq)
    have p0 : ∀ {σ : En}, σ[5]? = some (.val (.tup [.int (q.1 : Int), .int (q.2 : Int)])) → Vv C (.ix (.slot 5) (.int 0)) σ (.int (q.1 : Int)) := fun h => v_ix (i := 0) (vv_slot h).w rfl vv_int.w rfl
    have p1 : ∀ {σ : En}, σ[5]? = some (.val (.tup [.int (q.1 : Int), .int (q.2 : Int)])) → Vv C (.ix (.slot 5) (.int 1)) σ (.int (q.2 : Int)) := fun h => v_ix (i := 1) (vv_slot h).w rfl vv_int.w rfl
    have htk : (prs n).take (i + 1) = (prs n).take i ++ [q] := take_snoc eq
    have mo : ∀ {q' : Nat × Nat}, q' ∈ (prs n).take i → q' ∈ (prs n).take (i + 1) := fun h => by rw [htk]; exact List.mem_append_left _ h
    have mq : q ∈ (prs n).take (i + 1) := by rw [htk]; exact List.mem_append_right _ (List.mem_singleton.mpr rfl)
    refine exs_via (fun σ => ∃ ts ps, TInv n (i + 1) P M ts ps ∧ σ = [.val (.lst (sD P)), .val (.lst (iD M)), .val (.lst (jD row)), .own ts, .val (.int (i : Int)), .val (.tup [.int (q.1 : Int), .int (q.2 : Int)])]) (x_ife (k := bt M q.1 q.2) (t_has hh (v_ixI (l := M) (vv_slot (i := 1) rfl).w rfl (p0 rfl).w (getD_at? (by omega))) (p1 rfl)) (fun hb => ?_) fun hb => ?_) ?_
    · have s0 : ∀ {ts : List D}, Vv C (.ix (.slot 0) (.ix (.slot 5) (.int 0))) [.val (.lst (sD P)), .val (.lst (iD M)), .val (.lst (jD row)), .own ts, .val (.int (i : Int)), .val (.tup [.int (q.1 : Int), .int (q.2 : Int)])] (.str (sAt P q.1)) := v_ix (vv_slot (i := 0) rfl).w rfl (p0 rfl).w (sD_at (by omega))
      have s1 : ∀ {ts : List D}, Vv C (.ix (.slot 0) (.ix (.slot 5) (.int 1))) [.val (.lst (sD P)), .val (.lst (iD M)), .val (.lst (jD row)), .own ts, .val (.int (i : Int)), .val (.tup [.int (q.1 : Int), .int (q.2 : Int)])] (.str (sAt P q.2)) := v_ix (vv_slot (i := 0) rfl).w rfl (p1 rfl).w (sD_at (by omega))
      obtain ⟨d, hd⟩ : ∃ d, row[i]? = some d := ⟨_, List.getElem?_eq_getElem (by omega)⟩
      have hdv : ∀ {ts : List D}, Vv C (.ix (.slot 2) (.slot 4)) [.val (.lst (sD P)), .val (.lst (iD M)), .val (.lst (jD row)), .own ts, .val (.int (i : Int)), .val (.tup [.int (q.1 : Int), .int (q.2 : Int)])] (.int d) := vv_ix (vv_slot (i := 2) rfl).w (vv_slot (i := 4) rfl).w (jD_at hd)
      have big : ∀ {k : Nat}, k ≤ 2 * i + 1 → k < sizeLine := fun h => Nat.lt_of_lt_of_le (show _ < 1000000 by omega) (by decide)
      refine exs_via (fun σ => ∃ ts ps, TInv n (i + 1) P M ts ps ∧ ts.length ≤ 2 * i + 1 ∧ σ = [.val (.lst (sD P)), .val (.lst (iD M)), .val (.lst (jD row)), .own ts, .val (.int (i : Int)), .val (.tup [.int (q.1 : Int), .int (q.2 : Int)])]) (x_ife (t_eq (vv_bin hdv.w (vv_int (n := 2)).w (mod_okI (by decide))).w (vv_int (n := 0)).w) (fun _ => ?_) fun _ => ?_) ?_
      · refine exs_next (x_app (i := 3) rfl (vv_tup (vl_cons s0 (vl_cons s1 vl_nil)) (show 2 ≤ sizeLine by decide)) (big (by have := I.few; omega))) (exs_nil ⟨rfl, _, ps ++ [q], ⟨all2_snoc I.all (.inl rfl), fun q' hq' => ?_, fun q' hq' hb' => ?_, ?_⟩, ?_, rfl⟩)
        · rcases List.mem_append.mp hq' with k | k
          · exact ⟨(I.inn q' k).1.imp mo mo, (I.inn q' k).2⟩
          · rw [List.mem_singleton.mp k]
            exact ⟨.inl mq, hb⟩
        · rw [htk] at hq'
          rcases List.mem_append.mp hq' with k | k
          · exact (I.out q' k hb').imp (List.mem_append_left _) (List.mem_append_left _)
          · rw [List.mem_singleton.mp k]
            exact .inl (List.mem_append_right _ (List.mem_singleton.mpr rfl))
        · have := I.few
          rw [List.length_append]
          simp
          omega
        · have := I.few
          rw [List.length_append]
          simp
          omega
      · refine exs_next (x_app (i := 3) rfl (vv_lst (vl_cons s1 (vl_cons s0 vl_nil)) (show 2 ≤ sizeLine by decide)) (big (by have := I.few; omega))) (exs_nil ⟨rfl, _, ps ++ [(q.2, q.1)], ⟨all2_snoc I.all (.inr rfl), fun q' hq' => ?_, fun q' hq' hb' => ?_, ?_⟩, ?_, rfl⟩)
        · rcases List.mem_append.mp hq' with k | k
          · exact ⟨(I.inn q' k).1.imp mo mo, (I.inn q' k).2⟩
          · rw [List.mem_singleton.mp k]
            exact ⟨.inr mq, by rw [g.sym]; exact hb⟩
        · rw [htk] at hq'
          rcases List.mem_append.mp hq' with k | k
          · exact (I.out q' k hb').imp (List.mem_append_left _) (List.mem_append_left _)
          · rw [List.mem_singleton.mp k]
            exact .inr (List.mem_append_right _ (List.mem_singleton.mpr rfl))
        · have := I.few
          rw [List.length_append]
          simp
          omega
        · have := I.few
          rw [List.length_append]
          simp
          omega
      · rintro σ ⟨ts, ps, I, tl, rfl⟩
        refine exs_cons (x_ife (t_eq hdv.w (vv_int (n := 5)).w) (fun _ => ?_) fun _ => ?_)
        · refine exs_next (x_app (i := 3) rfl (vv_tup (vl_cons s0 (vl_cons s1 vl_nil)) (show 2 ≤ sizeLine by decide)) (big tl)) (exs_nil (exs_nil ⟨rfl, _, ps ++ [q], ⟨all2_snoc I.all (.inl rfl), fun q' hq' => ?_, fun q' hq' hb' => ?_, ?_⟩, rfl⟩))
          · rcases List.mem_append.mp hq' with k | k
            · exact I.inn q' k
            · rw [List.mem_singleton.mp k]
              exact ⟨.inl mq, hb⟩
          · exact (I.out q' hq' hb').imp (List.mem_append_left _) (List.mem_append_left _)
          · rw [List.length_append]
            simp
            omega
        · exact exs_nil (exs_nil ⟨rfl, ts, ps, I, rfl⟩)
    · refine exs_nil ⟨rfl, ts, ps, ⟨I.all, fun q' k => ⟨(I.inn q' k).1.imp mo mo, (I.inn q' k).2⟩, fun q' hq' hb' => ?_, by have := I.few; omega⟩, rfl⟩
      rw [htk] at hq'
      rcases List.mem_append.mp hq' with k | k
      · exact I.out q' k hb'
      · rw [List.mem_singleton.mp k, hb] at hb'
        cases hb'
    · rintro σ ⟨ts, ps, I, rfl⟩
      exact exs_next (x_setS (v_add (j := 1) (vv_slot (i := 4) rfl).w vv_int.w)) (exs_nil ⟨ts, ps, _, I, rfl⟩)
  · rintro σ ⟨ts, ps, a, I, rfl⟩
    have I1 := I.inn
    have I2 := I.out
    have e0 : (pD (prs n)).length = (prs n).length := by simp [pD]
    rw [e0, List.take_length] at I1 I2
    refine exs_rt (r := .fr ts) (σ1 := [.val (.lst (sD P)), .val (.lst (iD M)), .val (.lst (jD row)), .un, .val (.int ((pD (prs n)).length : Nat)), a]) rfl ⟨rfl, ts, rfl, ⟨ts, ps, rfl, I.all, fun q hq => ?_, fun x y => ⟨fun hb => ?_, fun hb => ?_⟩⟩⟩
    · have := g.inn _ _ (I1 q hq).2
      omega
    · obtain ⟨h1, h2, h3⟩ := g.inn x y hb
      by_cases c : x < y
      · exact I2 (x, y) (mem_prs.mpr ⟨c, h2⟩) hb
      · exact (I2 (y, x) (mem_prs.mpr ⟨by show y < x; omega, h1⟩) (by rw [g.sym]; exact hb)).symm
    · rcases hb with k | k
      · exact (I1 _ k).2
      · rw [g.sym]
        exact (I1 _ k).2
end Nt
/-! ## Nets as the laws pass and judge them -/
namespace Nt
open PySem PySem.Spec PyProof.Rows L2 DS Gf Bt
abbrev LTiesQ (φ : List D → Out Ar) : Prop := ∀ (n : Nat) (P : List Str) (M : List Nat) (row : List Int), NetOk n P → Gd n M → (prs n).length ≤ row.length → ∃ ts, φ [.lst (sD P), .lst (iD M), .lst (jD row)] = .ok (.fr ts) ∧ TieOk n P M (.lst ts)
abbrev LTiesF (C : Cxt) (f : Nat) : Prop := LTiesQ (C.fn f)
def bLNet (cn jt : Nat) : SRs := (.cons (.setS 3 (.bin .Mod (.blt .int (.cons (.ix (.slot 2) (.int 0)) .nil)) (.bin .Add (.blt .len (.cons (.slot 0) .nil)) (.int 1)))) (.cons (.setS 4 (.bin .Add (.slice (.slot 0) (.slot 3) .non) (.slice (.slot 0) .non (.slot 3)))) (.cons (.ife (.cmpT .Eq (.ix (.slot 2) (.int 1)) (.int 1)) (.cons (.setS 4 (.blt .tuple (.cons (.comp (.nm 5) [5] .range1 (.cons (.blt .len (.cons (.slot 4) .nil)) .nil) (.bl true) (.ix (.slot 4) (.bin .Sub (.bin .Sub (.blt .len (.cons (.slot 4) .nil)) (.int 1)) (.slot 5)))) .nil))) .nil) .nil) (.cons (.ret (.op (.make cn) (.cons (.slot 4) (.cons (.call jt (.cons (.slot 0) (.cons (.slot 1) (.cons (.slice (.slot 2) (.int 2) .non) .nil)))) .nil)))) .nil))))
theorem sD_take (l : List Str) (j : Nat) : (sD l).take j = sD (l.take j) := by
  unfold sD
  rw [List.map_take]
theorem sD_drop (l : List Str) (j : Nat) : (sD l).drop j = sD (l.drop j) := by
  unfold sD
  rw [List.map_drop]
theorem sD_app (l m : List Str) : sD l ++ sD m = sD (l ++ m) := by
  unfold sD
  rw [List.map_append]
theorem jD_drop (l : List Int) (j : Nat) : (jD l).drop j = jD (l.drop j) := by
  unfold jD
  rw [List.map_drop]
theorem rev_map (Q : List Str) (n : Nat) (h : Q.length = n) : (List.range n).map (fun k => sAt Q (n - 1 - k)) = Q.reverse := by
  refine List.ext_getElem (by simp [h]) fun k h1 h2 => ?_
  have hk : k < n := by simpa using h1
  rw [List.getElem_map, List.getElem_range, List.getElem_reverse]
  unfold sAt
  rw [getD_at _ (by omega)]
  congr 1
  omega
theorem lnet_ok {C : Cxt} {cn jt n : Nat} {P : List Str} {M : List Nat} {dg : List Int} (hm : MakeF C cn) (ht : LTiesF C jt) (h : NetOk n P) (g : Gd n M) (hd : 2 + (prs n).length ≤ dg.length) : DS.run C ⟨6, 3, bLNet cn jt⟩ [.lst (sD P), .lst (iD M), .lst (jD dg)] = .ok (.v (netD cn P M)) := Sat.eq <| by
  have hl := h.len
  have fw := h.few
  have pl : (sD P).length = n := (sD_len P).trans hl
  obtain ⟨d0, e0⟩ : ∃ d, dg[0]? = some d := ⟨_, List.getElem?_eq_getElem (by omega)⟩
  obtain ⟨d1, e1⟩ : ∃ d, dg[1]? = some d := ⟨_, List.getElem?_eq_getElem (by omega)⟩
  refine run_sat rfl ?_
  obtain ⟨t, ht', hmod⟩ := v_modI (C := C) (j := n + 1) (σ := [.val (.lst (sD P)), .val (.lst (iD M)), .val (.lst (jD dg)), .un, .un, .un]) (int_blt (vv_ix (vv_slot (i := 2) rfl).w (vv_int (n := 0)).w (jD_at (i := 0) e0)).w).w (v_add (j := 1) (v_len (vv_slot (i := 0) rfl).w rfl pl).w vv_int.w).w (by omega)
  refine exs_next (x_setS hmod) ?_
  show Sat (exs C _ [.val (.lst (sD P)), .val (.lst (iD M)), .val (.lst (jD dg)), .val (.int (t : Int)), .un, .un]) _
  obtain ⟨Q, hQ⟩ : ∃ Q, Q = P.drop t ++ P.take t := ⟨_, rfl⟩
  have pQ : Q.Perm P := by
    rw [hQ]
    exact List.perm_append_comm.trans (List.Perm.of_eq (List.take_append_drop t P))
  have ql : Q.length = n := by rw [pQ.length_eq, hl]
  have hcat := v_cat (C := C) (σ := [.val (.lst (sD P)), .val (.lst (iD M)), .val (.lst (jD dg)), .val (.int (t : Int)), .un, .un]) (v_drop (j := t) (vv_slot (i := 0) rfl).w (vv_slot (i := 3) rfl).w rfl).w (v_take (j := t) (vv_slot (i := 0) rfl).w (vv_slot (i := 3) rfl).w rfl).w (by
    rw [List.length_take, List.length_drop, sD_len]
    omega)
  rw [sD_take, sD_drop, sD_app, ← hQ] at hcat
  refine exs_next (x_setS hcat) ?_
  show Sat (exs C _ [.val (.lst (sD P)), .val (.lst (iD M)), .val (.lst (jD dg)), .val (.int (t : Int)), .val (.lst (sD Q)), .un]) _
  refine exs_via (fun σ => ∃ x P', P'.Perm P ∧ seqOf x = some (sD P') ∧ σ = [.val (.lst (sD P)), .val (.lst (iD M)), .val (.lst (jD dg)), .val (.int (t : Int)), .val x, .un]) (x_ife (t_eq (vv_ix (vv_slot (i := 2) rfl).w (vv_int (n := 1)).w (jD_at (i := 1) e1)).w (vv_int (n := 1)).w) (fun _ => ?_) fun _ => ?_) ?_
  · have h1 := comp_m (C := C) (σ := [.val (.lst (sD P)), .val (.lst (iD M)), .val (.lst (jD dg)), .val (.int (t : Int)), .val (.lst (sD Q)), .un]) (t := .nm 5) (own := [5]) (kd := .range1) (es := .cons (.blt .len (.cons (.slot 4) .nil)) .nil) (e := .ix (.slot 4) (.bin .Sub (.bin .Sub (.blt .len (.cons (.slot 4) .nil)) (.int 1)) (.slot 5))) (rs := [.v (.int (n : Int))]) (l := List.range n) (f := fun k => .int (k : Int)) (h := fun k => D.str (sAt Q (n - 1 - k)))
      (fun k => [.val (.lst (sD P)), .val (.lst (iD M)), .val (.lst (jD dg)), .val (.int (t : Int)), .val (.lst (sD Q)), .val (.int (k : Int))]) (by
        have := v_len (C := C) (σ := [.val (.lst (sD P)), .val (.lst (iD M)), .val (.lst (jD dg)), .val (.int (t : Int)), .val (.lst (sD Q)), .un]) (a := .slot 4) (vv_slot rfl).w rfl ((sD_len Q).trans ql)
        unfold Vv at this
        simp only [evs, this, Out.bnd]) (range1_ok (by omega)) rfl rfl rfl rfl (fun _ _ => rfl) (fun _ _ => rfl) (fun k hk => by
        have hk := List.mem_range.mp hk
        exact v_ix (vv_slot (i := 4) rfl).w rfl (v_sub (i := n - 1) (j := k) (v_sub (i := n) (j := 1) (v_len (vv_slot (i := 4) rfl).w rfl ((sD_len Q).trans ql)).w vv_int.w (by omega)).w (vv_slot (i := 5) rfl).w (by omega)).w (sD_at (by omega))) (by rw [List.length_range]; omega)
    have e : (List.range n).map (fun k => D.str (sAt Q (n - 1 - k))) = sD Q.reverse := by
      rw [← rev_map Q n ql]
      unfold sD
      rw [List.map_map]
      rfl
    rw [e] at h1
    exact exs_next (x_setS (sq_of (tuple_ev h1) rfl)) (exs_nil ⟨rfl, .tup (sD Q.reverse), Q.reverse, (List.reverse_perm Q).trans pQ, rfl, rfl⟩)
  · exact exs_nil ⟨rfl, .lst (sD Q), Q, pQ, rfl, rfl⟩
  · rintro σ ⟨x, P', pp, hx, rfl⟩
    have hdr := v_drop (C := C) (j := 2) (lo := .int 2) (σ := [.val (.lst (sD P)), .val (.lst (iD M)), .val (.lst (jD dg)), .val (.int (t : Int)), .val x, .un]) (a := .slot 2) (vv_slot rfl).w vv_int.w rfl
    rw [jD_drop] at hdr
    obtain ⟨ts, h1, h2⟩ := ht n P M (dg.drop 2) h g (by rw [List.length_drop]; omega)
    exact exs_rt (x_retE (op_ev (o := .make cn) (vl_cons (vv_slot (i := 4) rfl) (vl_cons (vv_call (vl_cons (vv_slot (i := 0) rfl) (vl_cons (vv_slot (i := 1) rfl) (vl_cons hdr vl_nil))) h1) vl_nil)) (hm n P P' M x (.lst ts) h pp hx g h2)) rfl) ⟨rfl, rfl⟩
def bLNam (jh : Nat) : SRs := (.cons (.ret (.blt .tuple (.cons (.comp (.nm 2) [2] .range1 (.cons (.blt .len (.cons (.slot 0) .nil)) .nil) (.tru (.call jh (.cons (.slot 1) (.cons (.slot 2) .nil)))) (.ix (.slot 0) (.slot 2))) .nil))) .nil)
theorem lnam_ok {C : Cxt} {jh n m : Nat} {P : List Str} (hh : HasF C jh) (hp : P.length = n) (hn : n ≤ 1000) : DS.run C ⟨3, 2, bLNam jh⟩ [.lst (sD P), .int (m : Int)] = .ok (.v (.tup (nameL P (bitsL n m)))) := by
  have pl : (sD P).length = n := (sD_len P).trans hp
  refine run_ret (σ := [.val (.lst (sD P)), .val (.int (m : Int)), .un]) rfl rfl (tuple_ev ?_) rfl
  exact comp_g (C := C) (σ := [.val (.lst (sD P)), .val (.int (m : Int)), .un]) (t := .nm 2) (own := [2]) (kd := .range1) (es := .cons (.blt .len (.cons (.slot 0) .nil)) .nil) (ifs := .tru (.call jh (.cons (.slot 1) (.cons (.slot 2) .nil)))) (e := .ix (.slot 0) (.slot 2)) (rs := [.v (.int (n : Int))]) (l := List.range n) (f := fun k => .int (k : Int)) (p := m.testBit) (h := fun k => D.str (sAt P k))
    (fun k => [.val (.lst (sD P)), .val (.int (m : Int)), .val (.int (k : Int))]) (by
      have := v_len (C := C) (σ := [.val (.lst (sD P)), .val (.int (m : Int)), .un]) (a := .slot 0) (vv_slot rfl).w rfl pl
      unfold Vv at this
      simp only [evs, this, Out.bnd]) (range1_ok (by omega)) rfl rfl rfl rfl (fun _ _ => rfl) (fun _ _ => rfl) (fun k _ => t_has hh (vv_slot (i := 1) rfl) (vv_slot (i := 2) rfl)) (fun k hk _ => v_ix (vv_slot (i := 0) rfl).w rfl (vv_slot (i := 2) rfl).w (sD_at (by have := List.mem_range.mp hk; omega))) (by rw [List.length_range]; omega)
/-! ### equal data -/
/-- data that is laid out, at most n deep -/
def Lay (n : Nat) (d : D) : Prop := ∃ a, toPD d = some a ∧ a.canLay0 = true ∧ a.depth ≤ n
theorem Lay.str {s : Str} (h : Nm s) : Lay 0 (.str s) := ⟨.str s, rfl, by simpa [PyData.canLay0] using h.ok, by simp [PyData.depth]⟩
theorem Lay.bl (b : Bool) : Lay 0 (.bl b) := ⟨.bool b, rfl, by simp [PyData.canLay0], by simp [PyData.depth]⟩
theorem Lay.tup {n : Nat} {xs : List D} (h : ∀ x ∈ xs, Lay n x) : Lay (n + 1) (.tup xs) := by
  have all : ∀ ys : List D, (∀ x ∈ ys, Lay n x) → ∃ as, toPDs ys = some as ∧ PyData.canLayAll0 as = true ∧ PyData.depthAll as ≤ n := by
    intro ys
    induction ys with
    | nil => exact fun _ => ⟨[], rfl, rfl, Nat.zero_le _⟩
    | cons y ys ih =>
      intro hy
      obtain ⟨a, h1, h2, h3⟩ := hy y (List.mem_cons_self ..)
      obtain ⟨as, g1, g2, g3⟩ := ih fun x hx => hy x (List.mem_cons_of_mem _ hx)
      refine ⟨a :: as, by simp only [toPDs, h1, g1], by simp [PyData.canLayAll0, h2, g2], ?_⟩
      simp only [PyData.depthAll]
      omega
  obtain ⟨as, g1, g2, g3⟩ := all xs h
  exact ⟨.tuple as, by simp only [toPD, g1, Option.map], by simpa [PyData.canLay0] using g2, by simp only [PyData.depth]; omega⟩
theorem Lay.self {n : Nat} {d : D} (h : Lay n d) (hn : n ≤ 64) : eqD d d = some true := by
  obtain ⟨a, a1, a2, a3⟩ := h
  unfold eqD
  rw [a1]
  dsimp only
  rw [shaped_of a2 a3 hn, PySem.SeqAt.eqv_refl a a2]
  rfl
theorem lay_names {n : Nat} {P : List Str} (h : NetOk n P) : Lay 1 (.tup (sD P)) := Lay.tup fun x hx => by
  obtain ⟨s, hs, rfl⟩ := List.mem_map.mp hx
  exact .str (h.nm s hs)
theorem lay_some {n : Nat} {P : List Str} (h : NetOk n P) {l : List Nat} (hl : ∀ k ∈ l, k < n) : Lay 1 (.tup (nameL P l)) := Lay.tup fun x hx => by
  obtain ⟨k, hk, rfl⟩ := List.mem_map.mp hx
  exact .str (h.nm _ (sAt_mem (by rw [h.len]; exact hl k hk)))
theorem lay_ties {n : Nat} {P : List Str} {M : List Nat} (h : NetOk n P) : Lay 2 (.tup (tiesL P M)) := by
  rw [← tiesL_eq h.len]
  refine Lay.tup fun x hx => ?_
  obtain ⟨q, hq, rfl⟩ := List.mem_map.mp hx
  obtain ⟨q1, q2⟩ := mem_prs.mp (List.mem_filter.mp hq).1
  have hl := h.len
  refine Lay.tup fun y hy => ?_
  simp at hy
  rcases hy with rfl | rfl
  · exact .str (h.nm _ (sAt_mem (by omega)))
  · exact .str (h.nm _ (sAt_mem (by omega)))
section
variable {C : Cxt} {σ : En} {a b : IR} {x : D}
theorem t_tup {xs : List D} (h : Vw C a σ (.tup xs)) : Tt C (.notT (.tru (.blt (.isi (.ty "tuple")) (.cons a .nil)))) σ false := tt_not (k := true) (tt_tru (vv_blt (r := .v (.bl true)) (wl_cons h wl_nil) rfl).w rfl)
theorem v_same {n : Nat} (ha : Vw C a σ x) (hb : Vw C b σ x) (h : Lay n x) (hn : n ≤ 64) : Vv C (.cmp .Eq a b) σ (.bl true) := vv_cmp ha hb (h.self hn)
theorem t_same {n : Nat} (ha : Vw C a σ x) (hb : Vw C b σ x) (h : Lay n x) (hn : n ≤ 64) : Tt C (.cmpT .NotEq a b) σ false := tt_cmp ha hb (by
  rw [cmp_ne, h.self hn]
  rfl)
end
def bIsN (cn jp jh : Nat) : SRs := (.cons (.ife (.orT (.cons (.notT (.tru (.op (.isC cn) (.cons (.slot 0) .nil)))) (.cons (.notT (.tru (.blt (.isi (.ty "tuple")) (.cons (.op (.fld cn "points") (.cons (.slot 0) .nil)) .nil)))) (.cons (.notT (.tru (.blt (.isi (.ty "tuple")) (.cons (.op (.fld cn "ties") (.cons (.slot 0) .nil)) .nil)))) .nil)))) (.cons (.ret (.bl false)) .nil) .nil) (.cons (.setS 3 (.comp (.nm 4) [4] .seq (.cons (.call jp (.cons (.blt .len (.cons (.slot 1) .nil)) .nil)) .nil) (.tru (.call jh (.cons (.ix (.slot 2) (.ix (.slot 4) (.int 0))) (.cons (.ix (.slot 4) (.int 1)) .nil)))) (.tup (.cons (.ix (.slot 1) (.ix (.slot 4) (.int 0))) (.cons (.ix (.slot 1) (.ix (.slot 4) (.int 1))) .nil))))) (.cons (.ret (.andE (.cons (.cmp .Eq (.op (.fld cn "points") (.cons (.slot 0) .nil)) (.blt .tuple (.cons (.slot 1) .nil))) (.cons (.cmp .Eq (.op (.fld cn "ties") (.cons (.slot 0) .nil)) (.blt .tuple (.cons (.slot 3) .nil))) .nil)))) .nil)))
theorem isN_ok {C : Cxt} {cn jp jh n : Nat} {P : List Str} {M : List Nat} (hc : NetC C cn) (hp : PrsF C jp) (hh : HasF C jh) (h : NetOk n P) (g : Gd n M) : DS.run C ⟨5, 3, bIsN cn jp jh⟩ [netD cn P M, .lst (sD P), .lst (iD M)] = .ok (.v (.bl true)) := Sat.eq <| by
  have hl := h.len
  have fw := h.few
  have nl := g.len
  have pl : (sD P).length = n := (sD_len P).trans hl
  refine run_sat rfl ?_
  have hisc : Vv C (.op (.isC cn) (.cons (.slot 0) .nil)) [.val (netD cn P M), .val (.lst (sD P)), .val (.lst (iD M)), .un, .un] (.bl true) := vv_op (r := .v (.bl true)) (vl_cons (vv_slot (i := 0) rfl) vl_nil) (by
    show (match isCD (netD cn P M) cn with | some b => Out.ok (Ar.v (.bl b)) | none => .bad) = _
    have : isCD (netD cn P M) cn = some true := by
      show (if cn = cn then some true else none) = _
      rw [if_pos rfl]
    rw [this])
  refine exs_cons (x_ife (k := false) (tt_or (k := false) (l := false) (tt_not (k := true) (tt_tru hisc.w rfl)) fun _ => tt_or (k := false) (l := false) (t_tup (f_points hc (vv_slot (i := 0) rfl).w).w) fun _ => tt_or1 (t_tup (f_ties hc (vv_slot (i := 0) rfl).w).w)) (fun h => nomatch h) fun _ => exs_nil ?_)
  have h0 := call_ev (C := C) (σ := [.val (netD cn P M), .val (.lst (sD P)), .val (.lst (iD M)), .un, .un]) (vl_cons (v_len (vv_slot (i := 1) rfl).w rfl pl) vl_nil) (hp n (by omega))
  have hplen : (prs n).length ≤ 1000000 := prs_len n (by omega)
  have h1 := comp_g (C := C) (σ := [.val (netD cn P M), .val (.lst (sD P)), .val (.lst (iD M)), .un, .un]) (t := .nm 4) (own := [4]) (kd := .seq) (es := .cons (.call jp (.cons (.blt .len (.cons (.slot 1) .nil)) .nil)) .nil) (ifs := .tru (.call jh (.cons (.ix (.slot 2) (.ix (.slot 4) (.int 0))) (.cons (.ix (.slot 4) (.int 1)) .nil)))) (e := .tup (.cons (.ix (.slot 1) (.ix (.slot 4) (.int 0))) (.cons (.ix (.slot 1) (.ix (.slot 4) (.int 1))) .nil))) (rs := [.v (.lst (pD (prs n)))]) (l := prs n) (f := prD) (p := fun q => bt M q.1 q.2) (h := fun q => D.tup [.str (sAt P q.1), .str (sAt P q.2)])
    (fun q => [.val (netD cn P M), .val (.lst (sD P)), .val (.lst (iD M)), .un, .val (prD q)]) (by
      have := sq_fr h0
      unfold Vv at this
      simp only [evs, this, Out.bnd]) rfl rfl rfl rfl rfl (fun _ _ => rfl) (fun _ _ => rfl) (fun q hq => by
      obtain ⟨q1, q2⟩ := mem_prs.mp hq
      exact t_has hh (v_ixI (l := M) (vv_slot (i := 2) rfl).w rfl (v_ix (i := 0) (vv_slot (i := 4) rfl).w rfl vv_int.w rfl).w (getD_at? (by omega))) (v_ix (i := 1) (vv_slot (i := 4) rfl).w rfl vv_int.w rfl)) (fun q hq _ => by
      obtain ⟨q1, q2⟩ := mem_prs.mp hq
      exact vv_tup (vl_cons (v_ix (i := q.1) (vv_slot (i := 1) rfl).w rfl (v_ix (i := 0) (d := .int (q.1 : Int)) (vv_slot (i := 4) rfl).w rfl vv_int.w rfl).w (sD_at (by omega))) (vl_cons (v_ix (i := q.2) (vv_slot (i := 1) rfl).w rfl (v_ix (i := 1) (d := .int (q.2 : Int)) (vv_slot (i := 4) rfl).w rfl vv_int.w rfl).w (sD_at (by omega))) vl_nil)) (show 2 ≤ sizeLine by decide)) hplen
  have e : ((prs n).filter fun q => bt M q.1 q.2).map (fun q => D.tup [.str (sAt P q.1), .str (sAt P q.2)]) = tiesL P M := tiesL_eq hl
  rw [e] at h1
  refine exs_next (x_setS (sq_fr h1)) ?_
  show Sat (exs C _ [.val (netD cn P M), .val (.lst (sD P)), .val (.lst (iD M)), .val (.lst (tiesL P M)), .un]) _
  have v1 := v_same (C := C) (σ := [.val (netD cn P M), .val (.lst (sD P)), .val (.lst (iD M)), .val (.lst (tiesL P M)), .un]) (f_points hc (vv_slot (i := 0) rfl).w).w (vv_blt (k := .tuple) (r := .v (.tup (sD P))) (wl_cons (vv_slot (i := 1) rfl).w wl_nil) rfl).w (lay_names h) (by decide)
  have v2 := v_same (C := C) (σ := [.val (netD cn P M), .val (.lst (sD P)), .val (.lst (iD M)), .val (.lst (tiesL P M)), .un]) (f_ties hc (vv_slot (i := 0) rfl).w).w (vv_blt (k := .tuple) (r := .v (.tup (tiesL P M))) (wl_cons (vv_slot (i := 3) rfl).w wl_nil) rfl).w (lay_ties h) (by decide)
  exact exs_rt (x_ret' (vv_and v1 (fun _ => vv_and1 v2) fun h => nomatch h) bl_nl) ⟨rfl, rfl⟩
def bSame : SRs := (.cons (.ife (.orT (.cons (.notT (.tru (.blt (.isi (.ty "tuple")) (.cons (.slot 0) .nil)))) (.cons (.cmpT .NotEq (.blt .len (.cons (.slot 0) .nil)) (.blt .len (.cons (.slot 1) .nil))) .nil))) (.cons (.ret (.bl false)) .nil) .nil) (.cons (.for_ (.nm 2) .range1 (.cons (.blt .len (.cons (.slot 1) .nil)) .nil) (.cons (.ife (.orT (.cons (.notT (.tru (.blt (.isi (.ty "tuple")) (.cons (.ix (.slot 0) (.slot 2)) .nil)))) (.cons (.cmpT .NotEq (.ix (.slot 0) (.slot 2)) (.ix (.slot 1) (.slot 2))) .nil))) (.cons (.ret (.bl false)) .nil) .nil) .nil)) (.cons (.ret (.bl true)) .nil)))
theorem same_ok {C : Cxt} {T : List D} (hT : ∀ t ∈ T, (∃ xs, t = .tup xs) ∧ Lay 1 t) (hl : T.length ≤ 1000000) : DS.run C ⟨3, 2, bSame⟩ [.tup T, .lst T] = .ok (.v (.bl true)) := Sat.eq <| by
  refine run_sat rfl ?_
  have l0 : Vv C (.blt .len (.cons (.slot 0) .nil)) [.val (.tup T), .val (.lst T), .un] (.int (T.length : Nat)) := v_len (vv_slot (i := 0) rfl).w rfl rfl
  have l1 : Vv C (.blt .len (.cons (.slot 1) .nil)) [.val (.tup T), .val (.lst T), .un] (.int (T.length : Nat)) := v_len (vv_slot (i := 1) rfl).w rfl rfl
  refine exs_cons (x_ife (k := false) (tt_or (k := false) (l := false) (t_tup (vv_slot (i := 0) rfl).w) fun _ => tt_or1 (by
    have := t_ne l0.w l1.w
    simpa using this)) (fun h => nomatch h) fun _ => exs_nil ?_)
  refine exs_cons (for_r1 (n := T.length) l1.w hl (fun i σ => ∃ a, σ = [.val (.tup T), .val (.lst T), a]) ⟨.un, rfl⟩ ?_ ?_)
  · rintro i σ hi ⟨a, rfl⟩
    obtain ⟨t, et⟩ : ∃ t, T[i]? = some t := ⟨_, List.getElem?_eq_getElem hi⟩
    obtain ⟨⟨xs, rfl⟩, hlay⟩ := hT t (List.mem_of_getElem? et)
    have a0 : Vv C (.ix (.slot 0) (.slot 2)) [.val (.tup T), .val (.lst T), .val (.int (i : Int))] (.tup xs) := v_ix (vv_slot (i := 0) rfl).w rfl (vv_slot (i := 2) rfl).w et
    have a1 : Vv C (.ix (.slot 1) (.slot 2)) [.val (.tup T), .val (.lst T), .val (.int (i : Int))] (.tup xs) := v_ix (vv_slot (i := 1) rfl).w rfl (vv_slot (i := 2) rfl).w et
    exact exs_cons (x_ife (k := false) (tt_or (k := false) (l := false) (t_tup a0.w) fun _ => tt_or1 (t_same a0.w a1.w hlay (by decide))) (fun h => nomatch h) fun _ => exs_nil (exs_nil ⟨_, rfl⟩))
  · rintro σ ⟨a, rfl⟩
    exact exs_rt rfl ⟨rfl, rfl⟩
def bSays : SRs := (.cons (.ret (.andE (.cons (.blt (.isi (.ty "bool")) (.cons (.slot 0) .nil)) (.cons (.cmp .Eq (.slot 0) (.slot 1)) .nil)))) .nil)
theorem says_ok {C : Cxt} {b : Bool} : DS.run C ⟨2, 2, bSays⟩ [.bl b, .bl b] = .ok (.v (.bl true)) := Sat.eq <| by
  refine run_sat rfl ?_
  have v1 : Vv C (.blt (.isi (.ty "bool")) (.cons (.slot 0) .nil)) [.val (.bl b), .val (.bl b)] (.bl true) := vv_blt (r := .v (.bl true)) (wl_cons (vv_slot (i := 0) rfl).w wl_nil) rfl
  exact exs_rt (x_ret' (vv_and v1 (fun _ => vv_and1 (v_same (vv_slot (i := 0) rfl).w (vv_slot (i := 1) rfl).w (Lay.bl b) (by decide))) fun h => nomatch h) bl_nl) ⟨rfl, rfl⟩
end Nt
/-! ## Rules that close themselves: values, tests, statements -/
namespace Nt
open PySem PySem.Spec PyProof.Rows L2 DS Gf Bt
section
variable {C : Cxt} {σ : En} {a b c e : IR} {x y d : D} {i j k m n : Nat} {p q : Int} {P Q : Prop} {es : IRs} {f : Nat}
theorem vv_lit {n : Nat} : Vv C (.int (OfNat.ofNat n)) σ (.int ((OfNat.ofNat n : Nat) : Int)) := rfl
theorem vw_lit {n : Nat} : Vw C (.int (OfNat.ofNat n)) σ (.int ((OfNat.ofNat n : Nat) : Int)) := Vv.w rfl
theorem vv_str {s : Str} : Vv C (.str s) σ (.str s) := rfl
theorem sq_lst {xs : List D} : seqOf (.lst xs) = some xs := rfl
theorem sq_tup {xs : List D} : seqOf (.tup xs) = some xs := rfl
theorem sq_rol {xs : List D} : seqOf (.rol xs) = some xs := rfl
theorem v_addI (ha : Vw C a σ (.int p)) (hb : Vw C b σ (.int q)) : Vv C (.bin .Add a b) σ (.int (p + q)) := vv_bin ha hb add_okI
theorem v_subI (ha : Vw C a σ (.int p)) (hb : Vw C b σ (.int q)) : Vv C (.bin .Sub a b) σ (.int (p - q)) := vv_bin ha hb sub_okI
theorem v_mulI (ha : Vw C a σ (.int p)) (hb : Vw C b σ (.int q)) (h : -(2 ^ 64) < q ∧ q < 2 ^ 64) : Vv C (.bin .Mult a b) σ (.int (p * q)) := vv_bin ha hb (mul_okR h)
theorem v_mulN (ha : Vw C a σ (.int (i : Int))) (hb : Vw C b σ (.int (j : Int))) (h : i < 2 ^ 63) : Vv C (.bin .Mult a b) σ (.int ((i * j : Nat) : Int)) := by
  rw [Int.natCast_mul]
  exact vv_bin ha hb (mul_okL (by omega))
theorem v_modN (ha : Vw C a σ (.int (i : Int))) (hb : Vw C b σ (.int (j : Int))) (h : 0 < j) : Vv C (.bin .Mod a b) σ (.int ((i % j : Nat) : Int)) := by
  rw [Int.natCast_emod]
  exact vv_bin ha hb (mod_okI (by omega))
theorem v_divN (ha : Vw C a σ (.int (i : Int))) (hb : Vw C b σ (.int (j : Int))) (h : 0 < j) (h2 : j < 18446744073709551616) : Vv C (.bin .FloorDiv a b) σ (.int ((i / j : Nat) : Int)) := by
  rw [Int.natCast_ediv]
  exact vv_bin ha hb (div_okI (by omega) (by omega))
/-- a number modulo a positive one, as a natural number -/
def im (p : Int) (j : Nat) : Nat := (p % (j : Int)).toNat
theorem im_lt (h : 0 < j) : im p j < j := by
  have h2 : p % (j : Int) < j := Int.emod_lt_of_pos _ (by omega)
  have h1 : 0 ≤ p % (j : Int) := Int.emod_nonneg _ (by omega)
  unfold im
  omega
theorem v_modM (ha : Vw C a σ (.int p)) (hb : Vw C b σ (.int (j : Int))) (h : 0 < j) : Vv C (.bin .Mod a b) σ (.int ((im p j : Nat) : Int)) := by
  have h1 : 0 ≤ p % (j : Int) := Int.emod_nonneg _ (by omega)
  unfold im
  rw [Int.toNat_of_nonneg h1]
  exact vv_bin ha hb (mod_okI (by omega))
theorem v_divI (ha : Vw C a σ (.int p)) (hb : Vw C b σ (.int (j : Int))) (h : 0 < j) (h2 : j < 18446744073709551616) : Vv C (.bin .FloorDiv a b) σ (.int (p / (j : Int))) := vv_bin ha hb (div_okI (by omega) (by omega))
theorem v_neg (ha : Vw C a σ (.int p)) : Vv C (.un .USub a) σ (.int (-p)) := vv_un (r := .v (.int (-p))) ha rfl
theorem v_catT {xs ys : List D} (ha : Vw C a σ (.tup xs)) (hb : Vw C b σ (.tup ys)) (h : xs.length + ys.length ≤ 1000000) : Vv C (.bin .Add a b) σ (.tup (xs ++ ys)) :=
  vv_bin (r := .v (.tup (xs ++ ys))) ha hb (by
    show (if xs.length + ys.length ≤ sizeLine then Out.ok (Ar.v (.tup (xs ++ ys))) else .bad) = _
    rw [if_pos (size_ok h)])
theorem v_catS {s t : Str} (ha : Vw C a σ (.str s)) (hb : Vw C b σ (.str t)) (h : s.length + t.length ≤ 1000000) : Vv C (.bin .Add a b) σ (.str (s ++ t)) :=
  vv_bin (r := .v (.str (s ++ t))) ha hb (by
    show (if s.length + t.length ≤ sizeLine then Out.ok (Ar.v (.str (s ++ t))) else .bad) = _
    rw [if_pos (size_ok h)])
theorem v_repl {xs : List D} (ha : Vw C a σ (.lst xs)) (hb : Vw C b σ (.int (j : Int))) (h : xs.length * j ≤ 1000000) (h2 : j ≤ 1000000) : Vv C (.bin .Mult a b) σ (.lst (List.replicate j xs).flatten) :=
  vv_bin (r := .fr (List.replicate j xs).flatten) ha hb (by
    have e : binD .Mult (.lst xs) (.int (j : Int)) = if -(2 ^ 63) ≤ (j : Int) ∧ (j : Int) < 2 ^ 63 ∧ xs.length * (j : Int).toNat ≤ sizeLine then Out.ok (Ar.fr (List.replicate (j : Int).toNat xs).flatten) else .bad := rfl
    rw [e, if_pos ⟨by omega, by omega, by rw [Int.toNat_natCast]; exact size_ok h⟩, Int.toNat_natCast])
theorem fn_id {ds : List D} {r : Ar} (h : C.fn f ds = .ok r) : C.fn f ds = .ok r := h
theorem nlt_id {i j : Nat} (h : i < j) : i < j := h
theorem nle_id {i j : Nat} (h : i ≤ j) : i ≤ j := h
theorem ilt_id {i j : Int} (h : i < j) : i < j := h
theorem ile_id {i j : Int} (h : i ≤ j) : i ≤ j := h
theorem neq_id {i j : Nat} (h : i = j) : i = j := h
theorem and_id (h : P ∧ Q) : P ∧ Q := h
/-! looking at a place -/
theorem v_lenG {xs : List D} (ha : Vw C a σ x) (hx : seqOf x = some xs) (hn : xs.length = n) : Vv C (.blt .len (.cons a .nil)) σ (.int (n : Int)) := len_blt ha hx hn
theorem v_lenI {l : List Nat} (ha : Vw C a σ x) (hx : seqOf x = some (iD l)) : Vv C (.blt .len (.cons a .nil)) σ (.int (l.length : Int)) := len_blt ha hx (iD_len l)
theorem jD_len (l : List Int) : (jD l).length = l.length := by simp [jD]
theorem pD_len (l : List (Nat × Nat)) : (pD l).length = l.length := by simp [pD]
theorem v_lenJ {l : List Int} (ha : Vw C a σ x) (hx : seqOf x = some (jD l)) : Vv C (.blt .len (.cons a .nil)) σ (.int (l.length : Int)) := len_blt ha hx (jD_len l)
theorem v_lenS {l : List Str} (ha : Vw C a σ x) (hx : seqOf x = some (sD l)) : Vv C (.blt .len (.cons a .nil)) σ (.int (l.length : Int)) := len_blt ha hx (sD_len l)
theorem v_lenP {l : List (Nat × Nat)} (ha : Vw C a σ x) (hx : seqOf x = some (pD l)) : Vv C (.blt .len (.cons a .nil)) σ (.int (l.length : Int)) := len_blt ha hx (pD_len l)
theorem v_lenD {xs : List D} (ha : Vw C a σ x) (hx : seqOf x = some xs) : Vv C (.blt .len (.cons a .nil)) σ (.int (xs.length : Int)) := len_blt ha hx rfl
theorem v_ixN {l : List Nat} (ha : Vw C a σ x) (hx : seqOf x = some (iD l)) (hb : Vw C b σ (.int (i : Int))) (h : i < l.length) : Vv C (.ix a b) σ (.int ((l.getD i 0 : Nat) : Int)) := v_ixI ha hx hb (getD_at? h)
theorem v_ixJ {l : List Int} (ha : Vw C a σ x) (hx : seqOf x = some (jD l)) (hb : Vw C b σ (.int (i : Int))) (h : i < l.length) : Vv C (.ix a b) σ (.int (l.getD i 0)) := v_ix ha hx hb (by
  unfold jD
  rw [List.getElem?_map, List.getElem?_eq_getElem h, getD_at 0 h]
  rfl)
theorem v_ixS {l : List Str} (ha : Vw C a σ x) (hx : seqOf x = some (sD l)) (hb : Vw C b σ (.int (i : Int))) (h : i < l.length) : Vv C (.ix a b) σ (.str (sAt l i)) := v_ix ha hx hb (sD_at h)
theorem v_ixP {l : List (Nat × Nat)} (ha : Vw C a σ x) (hx : seqOf x = some (pD l)) (hb : Vw C b σ (.int (i : Int))) (h : i < l.length) : Vv C (.ix a b) σ (.tup [.int ((l.getD i (0, 0)).1 : Int), .int ((l.getD i (0, 0)).2 : Int)]) := v_ix ha hx hb (by
  unfold pD
  rw [List.getElem?_map, List.getElem?_eq_getElem h, List.getD_eq_getElem?_getD, List.getElem?_eq_getElem h]
  rfl)
theorem v_ix0 {x0 : D} {xs : List D} (ha : Vw C a σ x) (hx : seqOf x = some (x0 :: xs)) : Vv C (.ix a (.int 0)) σ x0 := v_ix (i := 0) ha hx vw_lit rfl
theorem v_ix1 {x0 x1 : D} {xs : List D} (ha : Vw C a σ x) (hx : seqOf x = some (x0 :: x1 :: xs)) : Vv C (.ix a (.int 1)) σ x1 := v_ix (i := 1) ha hx vw_lit rfl
theorem v_ix2 {x0 x1 x2 : D} {xs : List D} (ha : Vw C a σ x) (hx : seqOf x = some (x0 :: x1 :: x2 :: xs)) : Vv C (.ix a (.int 2)) σ x2 := v_ix (i := 2) ha hx vw_lit rfl
theorem v_listD {xs : List D} (ha : Vw C a σ x) (hx : seqOf x = some xs) : Vv C (.blt .list (.cons a .nil)) σ (.lst xs) := sq_fr (list_ev ha hx)
theorem v_tupD {xs : List D} (ha : Vw C a σ (.lst xs)) : Vv C (.blt .tuple (.cons a .nil)) σ (.tup xs) := vv_blt (r := .v (.tup xs)) (wl_cons ha wl_nil) rfl
theorem v_tupT {xs : List D} (ha : Vw C a σ (.tup xs)) : Vv C (.blt .tuple (.cons a .nil)) σ (.tup xs) := vv_blt (r := .v (.tup xs)) (wl_cons ha wl_nil) rfl
theorem v_callV {ds : List D} (hs : VvL C es σ ds) (h : C.fn f ds = .ok (.v d)) : Vv C (.call f es) σ d := vv_call (r := .v d) hs h
theorem v_callF {ds xs : List D} (hs : VvL C es σ ds) (h : C.fn f ds = .ok (.fr xs)) : Vv C (.call f es) σ (.lst xs) := vv_call (r := .fr xs) hs h
theorem v_callW {ds : List D} (hs : VwL C es σ ds) (h : C.fn f ds = .ok (.v d)) (hn : noL d = true) : Vv C (.call f es) σ d := vv_callW (r := .v d) hs h hn
theorem v_sortRev {l : List Nat} (ha : Vw C a σ (.lst (iD l))) : True := trivial
theorem s_tup {ds : List D} (hs : VvL C es σ ds) (hl : ds.length ≤ 1000000) : Vv C (.tup es) σ (.tup ds) := vv_tup hs (size_ok hl)
theorem s_lst {ds : List D} (hs : VvL C es σ ds) (hl : ds.length ≤ 1000000) : Vv C (.lst es) σ (.lst ds) := vv_lst hs (size_ok hl)
/-! tests -/
def Tp (C : Cxt) (t : IR) (σ : En) (P : Prop) : Prop := ∃ k : Bool, Tt C t σ k ∧ (k = true ↔ P)
theorem Tp.tt [Decidable P] (h : Tp C e σ P) : Tt C e σ (decide P) := by
  obtain ⟨k, h1, h2⟩ := h
  have : k = decide P := by
    cases k
    · exact (decide_eq_false fun hp => nomatch (h2.mpr hp)).symm
    · exact (decide_eq_true (h2.mp rfl)).symm
  rw [← this]
  exact h1
theorem Tp.tb {k : Bool} (h : Tp C e σ (k = true)) : Tt C e σ k := by
  obtain ⟨l, h1, h2⟩ := h
  have : l = k := by
    cases l <;> cases k <;> simp at h2 ⊢
  rw [← this]
  exact h1
theorem tp_of [Decidable P] (h : Tt C e σ (decide P)) : Tp C e σ P := ⟨_, h, by simp⟩
theorem tp_bit (ha : Vw C a σ (.int (m : Int))) (hb : Vw C b σ (.int (k : Int))) : Tp C (.cmpT .Eq (.bin .BitAnd (.bin .RShift a b) (.int 1)) (.int 1)) σ (m.testBit k = true) := ⟨_, t_bit ha hb, Iff.rfl⟩
theorem tp_bit0 (ha : Vw C a σ (.int (m : Int))) : Tp C (.cmpT .Eq (.bin .BitAnd a (.int 1)) (.int 1)) σ (m.testBit 0 = true) := ⟨_, t_bit0 ha, Iff.rfl⟩
theorem tp_eqN (ha : Vw C a σ (.int (i : Int))) (hb : Vw C b σ (.int (j : Int))) : Tp C (.cmpT .Eq a b) σ (i = j) := ⟨_, t_eq ha hb, by simp; omega⟩
theorem tp_eq (ha : Vw C a σ (.int p)) (hb : Vw C b σ (.int q)) : Tp C (.cmpT .Eq a b) σ (p = q) := ⟨_, t_eq ha hb, by simp⟩
theorem tp_neN (ha : Vw C a σ (.int (i : Int))) (hb : Vw C b σ (.int (j : Int))) : Tp C (.cmpT .NotEq a b) σ (i ≠ j) := ⟨_, t_ne ha hb, by simp; omega⟩
theorem tp_ne (ha : Vw C a σ (.int p)) (hb : Vw C b σ (.int q)) : Tp C (.cmpT .NotEq a b) σ (p ≠ q) := ⟨_, t_ne ha hb, by simp⟩
theorem tp_ltN (ha : Vw C a σ (.int (i : Int))) (hb : Vw C b σ (.int (j : Int))) : Tp C (.cmpT .Lt a b) σ (i < j) := ⟨_, t_lt ha hb, by simp⟩
theorem tp_lt (ha : Vw C a σ (.int p)) (hb : Vw C b σ (.int q)) : Tp C (.cmpT .Lt a b) σ (p < q) := ⟨_, t_lt ha hb, by simp⟩
theorem tp_gtN (ha : Vw C a σ (.int (i : Int))) (hb : Vw C b σ (.int (j : Int))) : Tp C (.cmpT .Gt a b) σ (j < i) := ⟨_, t_gt ha hb, by simp⟩
theorem tp_gt (ha : Vw C a σ (.int p)) (hb : Vw C b σ (.int q)) : Tp C (.cmpT .Gt a b) σ (q < p) := ⟨_, t_gt ha hb, by simp⟩
theorem t_le {p q : Int} (ha : Vw C a σ (.int p)) (hb : Vw C b σ (.int q)) : Tt C (.cmpT .LtE a b) σ (decide (p ≤ q)) := tt_cmp ha hb rfl
theorem t_ge {p q : Int} (ha : Vw C a σ (.int p)) (hb : Vw C b σ (.int q)) : Tt C (.cmpT .GtE a b) σ (decide (q ≤ p)) := tt_cmp ha hb rfl
theorem tp_leN (ha : Vw C a σ (.int (i : Int))) (hb : Vw C b σ (.int (j : Int))) : Tp C (.cmpT .LtE a b) σ (i ≤ j) := ⟨_, t_le ha hb, by simp⟩
theorem tp_le (ha : Vw C a σ (.int p)) (hb : Vw C b σ (.int q)) : Tp C (.cmpT .LtE a b) σ (p ≤ q) := ⟨_, t_le ha hb, by simp⟩
theorem tp_geN (ha : Vw C a σ (.int (i : Int))) (hb : Vw C b σ (.int (j : Int))) : Tp C (.cmpT .GtE a b) σ (j ≤ i) := ⟨_, t_ge ha hb, by simp⟩
theorem tp_ge (ha : Vw C a σ (.int p)) (hb : Vw C b σ (.int q)) : Tp C (.cmpT .GtE a b) σ (q ≤ p) := ⟨_, t_ge ha hb, by simp⟩
theorem tp_not (h : Tp C a σ P) : Tp C (.notT a) σ (¬ P) := by
  obtain ⟨k, h1, h2⟩ := h
  refine ⟨!k, tt_not h1, ?_⟩
  rw [← h2]
  cases k <;> simp
theorem tp_and1 (h : Tp C a σ P) : Tp C (.andT (.cons a .nil)) σ P := h.imp fun k h => ⟨tt_and1 h.1, h.2⟩
theorem tp_or1 (h : Tp C a σ P) : Tp C (.orT (.cons a .nil)) σ P := h.imp fun k h => ⟨tt_or1 h.1, h.2⟩
theorem tp_and (h : Tp C a σ P) (h2 : P → Tp C (.andT (.cons b es)) σ Q) : Tp C (.andT (.cons a (.cons b es))) σ (P ∧ Q) := by
  obtain ⟨k, g1, g2⟩ := h
  cases k with
  | false =>
    refine ⟨false, tt_and (l := true) g1 (fun h => nomatch h), ?_⟩
    have : ¬ P := fun hp => nomatch (g2.mpr hp)
    simp [this]
  | true =>
    obtain ⟨l, k1, k2⟩ := h2 (g2.mp rfl)
    refine ⟨l, tt_and g1 fun _ => k1, ?_⟩
    rw [k2]
    exact ⟨fun h => ⟨g2.mp rfl, h⟩, fun h => h.2⟩
theorem tp_or (h : Tp C a σ P) (h2 : ¬ P → Tp C (.orT (.cons b es)) σ Q) : Tp C (.orT (.cons a (.cons b es))) σ (P ∨ Q) := by
  obtain ⟨k, g1, g2⟩ := h
  cases k with
  | true =>
    refine ⟨true, tt_or (l := true) g1 (fun h => nomatch h), ?_⟩
    simp [g2.mp rfl]
  | false =>
    have np : ¬ P := fun hp => nomatch (g2.mpr hp)
    obtain ⟨l, k1, k2⟩ := h2 np
    refine ⟨l, tt_or g1 fun _ => k1, ?_⟩
    rw [k2]
    exact ⟨fun h => .inr h, fun h => h.resolve_left np⟩
theorem tp_call {ds : List D} {r : Bool} (hs : VvL C es σ ds) (h : C.fn f ds = .ok (.v (.bl r))) : Tp C (.tru (.call f es)) σ (r = true) := ⟨r, tt_tru (vv_call (r := .v (.bl r)) hs h).w rfl, Iff.rfl⟩
theorem tp_tru {r : Bool} (h : Vw C a σ (.bl r)) : Tp C (.tru a) σ (r = true) := ⟨r, tt_tru h rfl, Iff.rfl⟩
theorem tp_true : Tp C (.bl true) σ True := ⟨true, rfl, by simp⟩
theorem tp_isnon : Vw C a σ .non → Tp C (.cmpT .Is a .non) σ True := fun h => ⟨true, tt_cmp h vv_non.w rfl, by simp⟩
theorem tp_isT {xs : List D} (h : Vw C a σ (.tup xs)) : Tp C (.tru (.blt (.isi (.ty "tuple")) (.cons a .nil))) σ True := ⟨true, tt_tru (vv_blt (r := .v (.bl true)) (wl_cons h wl_nil) rfl).w rfl, by simp⟩
theorem v_cmpN {o : CmpOp} (h : Tp C (.cmpT o a b) σ P) [Decidable P] : Vv C (.cmp o a b) σ (.bl (decide P)) := by
  have := h.tt
  unfold Tt at this
  unfold Vv
  have e : ev C (.cmp o a b) σ = ev C (.cmpT o a b) σ := by rw [ev, ev]
  rw [e, this]
  rfl
/-! statements -/
theorem x_ifp {t : IR} {A B : SRs} {R : Fl × En → Prop} (h : Tp C t σ P) (h1 : P → Sat (exs C A σ) R) (h2 : ¬ P → Sat (exs C B σ) R) : Sat (ex C (.ife t A B) σ) R := by
  obtain ⟨k, g1, g2⟩ := h
  exact x_ife g1 (fun e => h1 (g2.mp e)) fun e => h2 fun hp => nomatch (g2.mpr hp).symm.trans e
theorem x_setIxN {l : List Nat} {v : Nat} (ho : σ[f]? = some (.own (iD l))) (he : Vv C e σ (.int (v : Int))) (hk : Vw C a σ (.int (j : Int))) (hj : j < l.length) : ex C (.setIx f a e) σ = .ok (.nx, σ.set f (.own (iD (l.set j v)))) := by
  rw [x_setIx ho he hk (by rw [iD_len]; exact hj), iD_set]
theorem x_appN {l : List Nat} {v : Nat} (ho : σ[f]? = some (.own (iD l))) (he : Vv C e σ (.int (v : Int))) (hl : l.length < 1000000) : ex C (.app f e) σ = .ok (.nx, σ.set f (.own (iD (l ++ [v])))) := by
  rw [x_app ho he (by rw [iD_len]; exact Nat.lt_of_lt_of_le hl (by decide)), iD_snoc]
theorem sD_snoc (l : List Str) (s : Str) : sD l ++ [.str s] = sD (l ++ [s]) := by simp [sD]
theorem x_appS {l : List Str} {v : Str} (ho : σ[f]? = some (.own (sD l))) (he : Vv C e σ (.str v)) (hl : l.length < 1000000) : ex C (.app f e) σ = .ok (.nx, σ.set f (.own (sD (l ++ [v])))) := by
  rw [x_app ho he (by rw [sD_len]; exact Nat.lt_of_lt_of_le hl (by decide)), sD_snoc]
theorem jD_snoc (l : List Int) (s : Int) : jD l ++ [.int s] = jD (l ++ [s]) := by simp [jD]
theorem x_appJ {l : List Int} {v : Int} (ho : σ[f]? = some (.own (jD l))) (he : Vv C e σ (.int v)) (hl : l.length < 1000000) : ex C (.app f e) σ = .ok (.nx, σ.set f (.own (jD (l ++ [v])))) := by
  rw [x_app ho he (by rw [jD_len]; exact Nat.lt_of_lt_of_le hl (by decide)), jD_snoc]
theorem x_appP {l : List (Nat × Nat)} {u v : Nat} (ho : σ[f]? = some (.own (pD l))) (he : Vv C e σ (.tup [.int (u : Int), .int (v : Int)])) (hl : l.length < 1000000) : ex C (.app f e) σ = .ok (.nx, σ.set f (.own (pD (l ++ [(u, v)])))) := by
  rw [x_app ho he (by rw [pD_len]; exact Nat.lt_of_lt_of_le hl (by decide)), ← pD_snoc]
theorem x_appD {ds : List D} (ho : σ[f]? = some (.own ds)) (h : Vv C e σ d) (hl : ds.length < 1000000) : ex C (.app f e) σ = .ok (.nx, σ.set f (.own (ds ++ [d]))) := x_app ho h (Nat.lt_of_lt_of_le hl (by decide))
theorem x_nil : ex C (.set f (.lst .nil)) σ = .ok (.nx, σ.set f (.own [])) := rfl
theorem x_setL {xs : List D} (ha : Vw C a σ x) (hx : seqOf x = some xs) : ex C (.set f (.blt .list (.cons a .nil))) σ = .ok (.nx, σ.set f (.own xs)) := set_ev (list_ev ha hx)
theorem x_augN {i' j' : Nat} (h0 : σ[f]? = some (.val (.int (i' : Int)))) (h : Vv C e σ (.int (j' : Int))) : ex C (.aug f .Add e) σ = .ok (.nx, σ.set f (.val (.int ((i' + j' : Nat) : Int)))) := by
  rw [x_augI h0 h, Int.natCast_add]
theorem x_augI' {x y : Int} (h0 : σ[f]? = some (.val (.int x))) (h : Vv C e σ (.int y)) : ex C (.aug f .Add e) σ = .ok (.nx, σ.set f (.val (.int (x + y)))) := x_augI h0 h
theorem x_pass : ex C .pass σ = .ok (.nx, σ) := rfl
def isLst : D → Bool
  | .lst _ => true
  | _ => false
theorem ret_v {ss : SRs} {R : Fl × En → Prop} (h : Vv C e σ d) (hd : isLst d = false) (hR : R (.rt (.v d), σ)) : Sat (exs C (.cons (.ret e) ss) σ) R :=
  exs_rt (x_ret' h fun ds h => by subst h; cases hd) hR
theorem ret_mv {ss : SRs} {R : Fl × En → Prop} {ds : List D} (h : σ[i]? = some (.own ds)) (hR : R (.rt (.fr ds), σ.set i .un)) : Sat (exs C (.cons (.ret (.move i)) ss) σ) R :=
  exs_rt (x_retE' (r := .fr ds) (by simp only [ev, h]) rfl) hR
theorem ret_fr {ss : SRs} {R : Fl × En → Prop} {ds : List D} (h : ev C e σ = .ok (.fr ds, σ)) (hR : R (.rt (.fr ds), σ)) : Sat (exs C (.cons (.ret e) ss) σ) R := exs_rt (x_retE h rfl) hR
/-! comprehensions with one name -/
theorem set_un {v : Nat} (h : σ[v]? = some .un) : σ.set v .un = σ := by
  apply List.ext_getElem?
  intro k
  rw [List.getElem?_set]
  split
  · rename_i e
    subst e
    split
    · exact h.symm
    · rename_i q
      rw [List.getElem?_eq_none (by omega)] at h
      cases h
  · rfl
theorem set_un2 {v : Nat} {s : Sl} (h : σ[v]? = some .un) : (σ.set v s).set v .un = σ := by
  rw [List.set_set, set_un h]
theorem set_back {v : Nat} {s s0 : Sl} (h : σ[v]? = some s0) : (σ.set v s).set v s0 = σ := by
  rw [List.set_set]
  apply List.ext_getElem?
  intro k
  rw [List.getElem?_set]
  split
  · rename_i e
    subst e
    split
    · exact h.symm
    · rename_i q
      rw [List.getElem?_eq_none (by omega)] at h
      cases h
  · rfl
theorem comp_u {α : Type} {v : Nat} {s0 : Sl} {kd : ItK} {rs : List Ar} {ifs : IR} {l : List α} {f : α → D} {p : α → Bool} {h : α → D} (hs : σ[v]? = some s0) (hp : Pl s0) (he : evs C es σ = .ok (rs, σ)) (hx : itD kd (rs.map Ar.view) = some (l.map f)) (hb : rs.any Ar.isB = false)
    (hi : ∀ a ∈ l, Tt C ifs (σ.set v (.val (f a))) (p a)) (hv : ∀ a ∈ l, p a = true → Vv C e (σ.set v (.val (f a))) (h a)) (hl : l.length ≤ 1000000) :
    ev C (.comp (.nm v) [v] kd es ifs e) σ = .ok (.fr ((l.filter p).map h), σ) := by
  have hbig : ∀ (l : List α) (q : D → Option D), (∀ a ∈ l, q (f a) = if p a = true then some (h a) else none) → (l.map f).filterMap q = (l.filter p).map h := by
    intro l q hq
    induction l with
    | nil => rfl
    | cons a l ih =>
      rw [List.map_cons, List.filterMap_cons, hq a (List.mem_cons_self ..), List.filter_cons, ih fun b hb => hq b (List.mem_cons_of_mem _ hb)]
      cases p a <;> rfl
  have hw : wipeE σ [v] = σ.set v .un := rfl
  have ha : ∀ x, asg (.nm v) x (σ.set v .un) = some (σ.set v (.val x)) := fun x => by
    show some ((σ.set v .un).set v (.val x)) = _
    rw [List.set_set]
  have ht : ∀ x, wipeE (σ.set v (.val x)) [v] = σ.set v .un := fun x => by
    show (σ.set v (.val x)).set v .un = _
    rw [List.set_set]
  have key : ∀ a ∈ l, turnOf C (.nm v) [v] ifs e (f a) (wipeE σ [v]) = .ok (if p a = true then some (h a) else none, wipeE σ [v]) := by
    intro a hal
    have h1 := hi a hal
    rw [hw]
    cases hpa : p a with
    | true =>
      rw [hpa] at h1
      rw [turn_some (ha _) h1 (hv a hal hpa), ht, if_pos rfl]
    | false =>
      rw [hpa] at h1
      rw [turn_none (ha _) h1, ht, if_neg (by decide)]
  obtain ⟨q, hq⟩ : ∃ q : D → Option D, q = fun x => match turnOf C (.nm v) [v] ifs e x (wipeE σ [v]) with
    | .ok z => z.1
    | _ => none := ⟨_, rfl⟩
  have hq2 : ∀ a ∈ l, q (f a) = if p a = true then some (h a) else none := fun a hal => by
    rw [hq]
    simp only [key a hal]
  have hq1 : ∀ x ∈ l.map f, turnOf C (.nm v) [v] ifs e x (wipeE σ [v]) = .ok (q x, wipeE σ [v]) := fun x hx => by
    obtain ⟨a, hal, rfl⟩ := List.mem_map.mp hx
    rw [key a hal, hq2 a hal]
  have hf := hbig l q hq2
  have hlen : (l.filter p).length ≤ l.length := List.length_filter_le _ _
  have := comp_eq (C := C) he hx hb (by
    rcases hp with rfl | ⟨d, rfl⟩ <;> simp [noOwn, hs]) hq1 (by
    rw [hf, List.length_map]
    exact size_ok (by omega))
  rw [this, hf]
  have hk : backE σ (wipeE σ [v]) [v] = σ := by
    show (σ.set v .un).set v (σ.getD v .un) = σ
    rw [List.getD_eq_getElem?_getD, hs]
    exact set_back hs
  rw [hk]
theorem comp_1 {α : Type} {v : Nat} {kd : ItK} {rs : List Ar} {ifs : IR} {l : List α} {f : α → D} {p : α → Bool} {h : α → D} (hs : σ[v]? = some .un) (he : evs C es σ = .ok (rs, σ)) (hx : itD kd (rs.map Ar.view) = some (l.map f)) (hb : rs.any Ar.isB = false)
    (hi : ∀ a ∈ l, Tt C ifs (σ.set v (.val (f a))) (p a)) (hv : ∀ a ∈ l, p a = true → Vv C e (σ.set v (.val (f a))) (h a)) (hl : l.length ≤ 1000000) :
    ev C (.comp (.nm v) [v] kd es ifs e) σ = .ok (.fr ((l.filter p).map h), σ) := comp_u hs (.inl rfl) he hx hb hi hv hl
theorem vw_int_ev {z : Int} (h : Vw C e σ (.int z)) : sq (ev C e σ) = .ok (.v (.int z), σ) := by
  obtain ⟨q, hq, hv⟩ := h
  cases q with
  | v d => rw [hq]; exact congrArg (fun z => Out.ok (Ar.v z, σ)) hv
  | fr ds => cases hv
  | br i ds => cases hv
/-- over the numbers below n -/
theorem comp_ru {v : Nat} {s0 : Sl} {ifs : IR} {p : Nat → Bool} {h : Nat → D} (hs : σ[v]? = some s0) (hp : Pl s0) (he : Vw C a σ (.int (n : Int))) (hn : n ≤ 1000000)
    (hi : ∀ k, k < n → Tt C ifs (σ.set v (.val (.int (k : Int)))) (p k)) (hv : ∀ k, k < n → p k = true → Vv C e (σ.set v (.val (.int (k : Int)))) (h k)) :
    ev C (.comp (.nm v) [v] .range1 (.cons a .nil) ifs e) σ = .ok (.fr (((List.range n).filter p).map h), σ) :=
  comp_u (rs := [.v (.int (n : Int))]) (l := List.range n) (f := fun k : Nat => .int (k : Int)) hs hp (by simp only [evs, vw_int_ev he, Out.bnd]) (range1_ok hn) rfl (fun k hk => hi k (List.mem_range.mp hk)) (fun k hk => hv k (List.mem_range.mp hk)) (by rw [List.length_range]; exact hn)
theorem comp_rmu {v : Nat} {s0 : Sl} {h : Nat → D} (hs : σ[v]? = some s0) (hp : Pl s0) (he : Vw C a σ (.int (n : Int))) (hn : n ≤ 1000000)
    (hv : ∀ k, k < n → Vv C e (σ.set v (.val (.int (k : Int)))) (h k)) :
    ev C (.comp (.nm v) [v] .range1 (.cons a .nil) (.bl true) e) σ = .ok (.fr ((List.range n).map h), σ) := by
  have := comp_ru (C := C) (p := fun _ => true) hs hp he hn (fun k _ => tt_true) fun k hk _ => hv k hk
  rwa [List.filter_eq_self.mpr fun _ _ => rfl] at this
theorem comp_su {α : Type} {v : Nat} {s0 : Sl} {ifs : IR} {l : List α} {f : α → D} {p : α → Bool} {h : α → D} (hs : σ[v]? = some s0) (hp : Pl s0) (he : Vv C a σ x) (hx : seqOf x = some (l.map f))
    (hi : ∀ t ∈ l, Tt C ifs (σ.set v (.val (f t))) (p t)) (hv : ∀ t ∈ l, p t = true → Vv C e (σ.set v (.val (f t))) (h t)) (hl : l.length ≤ 1000000) :
    ev C (.comp (.nm v) [v] .seq (.cons a .nil) ifs e) σ = .ok (.fr ((l.filter p).map h), σ) := by
  unfold Vv at he
  exact comp_u (rs := [.v x]) (f := f) hs hp (by simp only [evs, he, Out.bnd]) hx rfl hi hv hl
theorem comp_r {v : Nat} {ifs : IR} {p : Nat → Bool} {h : Nat → D} (hs : σ[v]? = some .un) (he : Vw C a σ (.int (n : Int))) (hn : n ≤ 1000000)
    (hi : ∀ k, k < n → Tt C ifs (σ.set v (.val (.int (k : Int)))) (p k)) (hv : ∀ k, k < n → p k = true → Vv C e (σ.set v (.val (.int (k : Int)))) (h k)) :
    ev C (.comp (.nm v) [v] .range1 (.cons a .nil) ifs e) σ = .ok (.fr (((List.range n).filter p).map h), σ) :=
  comp_1 (rs := [.v (.int (n : Int))]) (l := List.range n) (f := fun k : Nat => .int (k : Int)) hs (by simp only [evs, vw_int_ev he, Out.bnd]) (range1_ok hn) rfl (fun k hk => hi k (List.mem_range.mp hk)) (fun k hk => hv k (List.mem_range.mp hk)) (by rw [List.length_range]; exact hn)
theorem comp_rm {v : Nat} {h : Nat → D} (hs : σ[v]? = some .un) (he : Vw C a σ (.int (n : Int))) (hn : n ≤ 1000000)
    (hv : ∀ k, k < n → Vv C e (σ.set v (.val (.int (k : Int)))) (h k)) :
    ev C (.comp (.nm v) [v] .range1 (.cons a .nil) (.bl true) e) σ = .ok (.fr ((List.range n).map h), σ) := by
  have := comp_r (C := C) (p := fun _ => true) hs he hn (fun k _ => tt_true) fun k hk _ => hv k hk
  rwa [List.filter_eq_self.mpr fun _ _ => rfl] at this
/-- over a sequence -/
theorem comp_s {α : Type} {v : Nat} {ifs : IR} {l : List α} {f : α → D} {p : α → Bool} {h : α → D} (hs : σ[v]? = some .un) (he : Vv C a σ x) (hx : seqOf x = some (l.map f))
    (hi : ∀ t ∈ l, Tt C ifs (σ.set v (.val (f t))) (p t)) (hv : ∀ t ∈ l, p t = true → Vv C e (σ.set v (.val (f t))) (h t)) (hl : l.length ≤ 1000000) :
    ev C (.comp (.nm v) [v] .seq (.cons a .nil) ifs e) σ = .ok (.fr ((l.filter p).map h), σ) := by
  unfold Vv at he
  exact comp_1 (rs := [.v x]) (f := f) hs (by simp only [evs, he, Out.bnd]) hx rfl hi hv hl
theorem comp_sm {α : Type} {v : Nat} {l : List α} {f : α → D} {h : α → D} (hs : σ[v]? = some .un) (he : Vv C a σ x) (hx : seqOf x = some (l.map f))
    (hv : ∀ t ∈ l, Vv C e (σ.set v (.val (f t))) (h t)) (hl : l.length ≤ 1000000) :
    ev C (.comp (.nm v) [v] .seq (.cons a .nil) (.bl true) e) σ = .ok (.fr (l.map h), σ) := by
  have := comp_s (C := C) (p := fun _ => true) hs he hx (fun k _ => tt_true) (fun k hk _ => hv k hk) hl
  rwa [List.filter_eq_self.mpr fun _ _ => rfl] at this
end
end Nt
/-! ## Names drawn -/
namespace Nt
open PySem PySem.Spec PyProof.Rows L2 DS Gf Bt
local macro_rules | `(tactic| infer_instance) => `(tactic| first
  | ((with_reducible apply vw_own); exact rfl) | ((with_reducible apply vw_lock); exact rfl) | (with_reducible exact vw_lit) | ((with_reducible apply Vv.w); infer_instance)
  | ((with_reducible apply vv_slot); exact rfl) | (with_reducible exact vv_lit) | ((with_reducible apply vv_move); exact rfl) | ((with_reducible apply vv_bor); exact rfl) | (with_reducible exact vv_int) | (with_reducible exact vv_bl) | (with_reducible exact vv_non) | (with_reducible exact vv_str)
  | (with_reducible exact vl_nil) | ((with_reducible apply vl_cons) <;> infer_instance) | (with_reducible exact wl_nil) | ((with_reducible apply wl_cons) <;> infer_instance)
  | (with_reducible exact sq_lst) | (with_reducible exact sq_tup) | (with_reducible exact sq_rol)
  | ((with_reducible apply v_bit) <;> infer_instance) | ((with_reducible apply v_pow) <;> infer_instance) | ((with_reducible apply v_add) <;> infer_instance) | ((with_reducible apply v_sub) <;> infer_instance)
  | ((with_reducible apply v_xor) <;> infer_instance) | ((with_reducible apply v_or) <;> infer_instance) | ((with_reducible apply v_and) <;> infer_instance) | ((with_reducible apply v_shr) <;> infer_instance) | ((with_reducible apply v_shl) <;> infer_instance)
  | ((with_reducible apply v_modN) <;> infer_instance) | ((with_reducible apply v_divN) <;> infer_instance) | ((with_reducible apply v_mulN) <;> infer_instance)
  | ((with_reducible apply v_addI) <;> infer_instance) | ((with_reducible apply v_subI) <;> infer_instance) | ((with_reducible apply v_modM) <;> infer_instance) | ((with_reducible apply v_divI) <;> infer_instance) | ((with_reducible apply v_mulI) <;> infer_instance)
  | ((with_reducible apply v_cat) <;> infer_instance) | ((with_reducible apply v_catT) <;> infer_instance) | ((with_reducible apply v_repl) <;> infer_instance) | ((with_reducible apply v_neg) <;> infer_instance)
  | ((with_reducible apply int_blt); infer_instance) | ((with_reducible apply v_lenG) <;> first | (with_reducible assumption) | infer_instance) | ((with_reducible apply v_lenI) <;> infer_instance) | ((with_reducible apply v_lenJ) <;> infer_instance) | ((with_reducible apply v_lenS) <;> infer_instance) | ((with_reducible apply v_lenP) <;> infer_instance) | ((with_reducible apply v_lenD) <;> infer_instance)
  | ((with_reducible apply v_ixN) <;> infer_instance) | ((with_reducible apply v_ixJ) <;> infer_instance) | ((with_reducible apply v_ixS) <;> infer_instance) | ((with_reducible apply v_ixP) <;> infer_instance) | ((with_reducible apply v_ix0) <;> infer_instance) | ((with_reducible apply v_ix1) <;> infer_instance) | ((with_reducible apply v_ix2) <;> infer_instance)
  | ((with_reducible apply v_callV) <;> infer_instance) | ((with_reducible apply v_callF) <;> infer_instance) | ((with_reducible apply v_callW) <;> first | exact (rfl : noL _ = true) | infer_instance)
  | ((with_reducible apply f_points) <;> infer_instance) | ((with_reducible apply f_core) <;> infer_instance) | ((with_reducible apply f_ties) <;> infer_instance)
  | ((with_reducible apply s_tup) <;> infer_instance) | ((with_reducible apply s_lst) <;> infer_instance) | ((with_reducible apply v_tupD) <;> infer_instance) | ((with_reducible apply v_tupT) <;> infer_instance) | ((with_reducible apply v_listD) <;> infer_instance)
  | (with_reducible exact tp_true) | ((with_reducible apply tp_bit) <;> infer_instance) | ((with_reducible apply tp_bit0) <;> infer_instance) | ((with_reducible apply tp_eqN) <;> infer_instance) | ((with_reducible apply tp_neN) <;> infer_instance) | ((with_reducible apply tp_ltN) <;> infer_instance) | ((with_reducible apply tp_gtN) <;> infer_instance) | ((with_reducible apply tp_leN) <;> infer_instance) | ((with_reducible apply tp_geN) <;> infer_instance)
  | ((with_reducible apply tp_eq) <;> infer_instance) | ((with_reducible apply tp_ne) <;> infer_instance) | ((with_reducible apply tp_lt) <;> infer_instance) | ((with_reducible apply tp_gt) <;> infer_instance) | ((with_reducible apply tp_le) <;> infer_instance) | ((with_reducible apply tp_ge) <;> infer_instance)
  | ((with_reducible apply tp_not); infer_instance) | ((with_reducible apply tp_and1); infer_instance) | ((with_reducible apply tp_or1); infer_instance) | ((with_reducible apply tp_and) <;> (intros; infer_instance)) | ((with_reducible apply tp_or) <;> (intros; infer_instance))
  | ((with_reducible apply tp_call) <;> infer_instance) | ((with_reducible apply tp_isT) <;> infer_instance) | ((with_reducible apply tp_tru) <;> infer_instance)
  | ((with_reducible apply v_cmpN); infer_instance)
  | ((first | (with_reducible apply nlt_id) | (with_reducible apply nle_id) | (with_reducible apply ilt_id) | (with_reducible apply ile_id) | (with_reducible apply neq_id) | (with_reducible apply and_id)); first | (with_reducible assumption) | omega | (simp only [iD_len, jD_len, sD_len, pD_len, List.length_set, List.length_append, List.length_map, List.length_range, List.length_cons, List.length_nil, List.length_replicate]; omega))
  | (with_reducible assumption) | (with_reducible exact (rfl : isLst _ = false)) | ((with_reducible apply fn_id); first | (with_reducible assumption) | (apply_assumption (config := {exfalso := false}) <;> infer_instance)))
local macro_rules | `(tactic| contradiction) => `(tactic| (first
  | ((with_reducible apply run_sat); (· exact rfl); simp only [List.map_cons, List.map_nil, List.length_cons, List.length_nil, Nat.reduceAdd, Nat.reduceSub, List.reduceReplicate, List.cons_append, List.nil_append])
  | (with_reducible refine exs_next x_nil ?_) | (with_reducible refine exs_next x_pass ?_)
  | ((with_reducible apply exs_next); (· ((with_reducible apply x_setS); infer_instance)))
  | ((with_reducible apply exs_next); (· ((with_reducible apply x_setIxN); (· exact rfl); all_goals infer_instance)))
  | ((with_reducible apply exs_next); (· ((with_reducible apply x_appN); (· exact rfl); all_goals infer_instance)))
  | ((with_reducible apply exs_next); (· ((with_reducible apply x_appS); (· exact rfl); all_goals infer_instance)))
  | ((with_reducible apply exs_next); (· ((with_reducible apply x_appJ); (· exact rfl); all_goals infer_instance)))
  | ((with_reducible apply exs_next); (· ((with_reducible apply x_appP); (· exact rfl); all_goals infer_instance)))
  | ((with_reducible apply exs_next); (· ((with_reducible apply x_appD); (· exact rfl); all_goals infer_instance)))
  | ((with_reducible apply exs_next); (· ((with_reducible apply x_setL) <;> infer_instance)))
  | ((with_reducible apply exs_next); (· ((with_reducible apply x_augN); (· exact rfl); all_goals infer_instance)))
  | ((with_reducible apply exs_next); (· ((with_reducible apply x_augI'); (· exact rfl); all_goals infer_instance)))
  | ((with_reducible apply exs_cons); (with_reducible apply x_ifp); (· infer_instance); all_goals (intro h))) <;> try dsimp only [List.set_cons_succ, List.set_cons_zero])

def bNames : SRs := (.cons (.setS 2 (.lst (.cons (.str "a") (.cons (.str "b") (.cons (.str "c") (.cons (.str "d") (.cons (.str "ab") (.cons (.str "a1") (.cons (.str "x") (.cons (.str "xy") (.cons (.str "z") (.cons (.str "m0") (.cons (.str "q7") (.cons (.str "p") (.cons (.str "b2c") (.cons (.str "zz9") (.cons (.str "k") (.cons (.str "longname") (.cons (.str "e") (.cons (.str "f") (.cons (.str "h") .nil))))))))))))))))))))) (.cons (.setS 2 (.bin .Add (.slot 2) (.lst (.cons (.str "press") (.cons (.str "leave") (.cons (.str "loose") (.cons (.str "leaf") (.cons (.str "twin") .nil)))))))) (.cons (.set 3 (.lst .nil)) (.cons (.for_ (.nm 4) .range1 (.cons (.slot 1) .nil) (.cons (.setS 5 (.bin .FloorDiv (.blt .int (.cons (.ix (.slot 0) (.slot 4)) .nil)) (.int 3))) (.cons (.setS 6 (.ix (.slot 2) (.bin .Mod (.blt .int (.cons (.slot 5) .nil)) (.int 24)))) (.cons (.ife (.cmpT .Eq (.bin .Mod (.blt .int (.cons (.ix (.slot 0) (.int 0)) .nil)) (.int 3)) (.int 1)) (.cons (.setS 6 (.bin .Add (.ix (.str "ab") (.bin .Mod (.blt .int (.cons (.slot 5) .nil)) (.int 2))) (.ix (.lst (.cons (.str "1") (.cons (.str "2") (.cons (.str "3") (.cons (.str "9") (.cons (.str "10") (.cons (.str "11") (.cons (.str "12") (.cons (.str "20") (.cons (.str "100") (.cons (.str "101") .nil))))))))))) (.bin .Mod (.bin .FloorDiv (.blt .int (.cons (.slot 5) .nil)) (.int 2)) (.int 10))))) .nil) .nil) (.cons (.ife (.cmpT .Eq (.bin .Mod (.blt .int (.cons (.ix (.slot 0) (.int 0)) .nil)) (.int 3)) (.int 2)) (.cons (.setS 6 (.ix (.str "abcdefghijklmnopqrstuvwxyz") (.bin .Mod (.bin .FloorDiv (.blt .int (.cons (.slot 5) .nil)) (.int 8)) (.int 26)))) (.cons (.setS 7 (.bin .FloorDiv (.blt .int (.cons (.slot 5) .nil)) (.int 208))) (.cons (.for_ (.nm 8) .range1 (.cons (.bin .Mod (.blt .int (.cons (.slot 5) .nil)) (.int 8)) .nil) (.cons (.setS 6 (.bin .Add (.slot 6) (.ix (.str "abcdefghijklmnopqrstuvwxyz0123456789") (.bin .Mod (.blt .int (.cons (.slot 7) .nil)) (.int 36))))) (.cons (.setS 7 (.bin .FloorDiv (.blt .int (.cons (.slot 7) .nil)) (.int 36))) .nil))) .nil))) .nil) (.cons (.app 3 (.ix (.comp (.nm 9) [9] .seq (.cons (.bin .Add (.lst (.cons (.slot 6) .nil)) (.slot 2)) .nil) (.cmpT .NotIn (.slot 9) (.bor 3)) (.slot 9)) (.int 0))) .nil)))))) (.cons (.ret (.op .sortS (.cons (.slot 3) .nil))) .nil)))))
def menuS : List Str := ["a", "b", "c", "d", "ab", "a1", "x", "xy", "z", "m0", "q7", "p", "b2c", "zz9", "k", "longname", "e", "f", "h", "press", "leave", "loose", "leaf", "twin"]
def tails : List Str := ["1", "2", "3", "9", "10", "11", "12", "20", "100", "101"]
def abz : Str := "abcdefghijklmnopqrstuvwxyz0123456789"
def nmB (s : Str) : Bool := match s.cps.toList with
  | [] => false
  | c :: cs => lets.cps.toList.contains c && (decide (cs.length ≤ 7) && cs.all fun x => lets.cps.toList.contains x || digs.cps.toList.contains x)
theorem nmB_ok {s : Str} (h : nmB s = true) : Nm s := by
  unfold nmB at h
  split at h
  · cases h
  · rename_i c cs e
    simp only [Bool.and_eq_true, decide_eq_true_eq, List.all_eq_true, Bool.or_eq_true, List.contains_iff_mem] at h
    exact ⟨c, cs, e, h.1, h.2.1, h.2.2⟩
theorem str_cat (s t : Str) : (s ++ t).cps.toList = s.cps.toList ++ t.cps.toList := by
  show (s.cps ++ t.cps).toList = _
  simp
theorem v_ixC {C : Cxt} {σ : En} {b : IR} {z : Str} {i : Nat} (hb : Vw C b σ (.int (i : Int))) (h : i < z.cps.toList.length) (hz : z.length ≤ 1000000) : Vv C (.ix (.str z) b) σ (.str ⟨#[z.cps.toList.getD i 0]⟩) :=
  vv_ix (Vv.w (vv_str (s := z))) hb (by
    show (if z.length ≤ sizeLine then (atI z.cps.toList (i : Int)).map fun c => D.str ⟨#[c]⟩ else none) = _
    rw [if_pos (size_ok hz), atI_nat (v := z.cps.toList.getD i 0) (by rw [List.getElem?_eq_getElem h, List.getD_eq_getElem?_getD, List.getElem?_eq_getElem h]; rfl)]
    rfl)
theorem nodup_sub {α : Type} [DecidableEq α] : ∀ {l m : List α}, l.Nodup → (∀ x ∈ l, x ∈ m) → l.length ≤ m.length
  | [], _, _, _ => Nat.zero_le _
  | a :: l, m, hn, hs => by
    have ha := hs a (List.mem_cons_self ..)
    have h1 := nodup_sub (l := l) (m := m.erase a) (List.nodup_cons.mp hn).2 fun x hx => by
      have : x ≠ a := fun e => (List.nodup_cons.mp hn).1 (e ▸ hx)
      exact (List.mem_erase_of_ne this).mpr (hs x (List.mem_cons_of_mem _ hx))
    rw [List.length_erase_of_mem ha] at h1
    have : 0 < m.length := List.length_pos_of_mem ha
    rw [List.length_cons]
    omega
theorem menu_nd : menuS.Nodup := by decide +kernel
theorem menu_nm : ∀ s ∈ menuS, Nm s := by
  have : ∀ s ∈ menuS, nmB s = true := by decide +kernel
  exact fun s h => nmB_ok (this s h)
theorem tail_nm : ∀ i, i < 2 → ∀ k, k < 10 → Nm ((⟨#[Str.cps "ab" |>.toList |>.getD i 0]⟩ : Str) ++ sAt tails k) := by
  have : ∀ i : Fin 2, ∀ k : Fin 10, nmB ((⟨#[Str.cps "ab" |>.toList |>.getD i.1 0]⟩ : Str) ++ sAt tails k.1) = true := by decide +kernel
  exact fun i hi k hk => nmB_ok (this ⟨i, hi⟩ ⟨k, hk⟩)
theorem abz_ok {x : Nat} (h : x ∈ abz.cps.toList) : x ∈ lets.cps.toList ∨ x ∈ digs.cps.toList := by
  have : ∀ x ∈ abz.cps.toList, x ∈ lets.cps.toList ∨ x ∈ digs.cps.toList := by decide +kernel
  exact this x h
theorem getD_mem {α : Type} {l : List α} {i : Nat} {z : α} (h : i < l.length) : l.getD i z ∈ l := by
  rw [List.getD_eq_getElem?_getD, List.getElem?_eq_getElem h]
  exact List.getElem_mem h
theorem Nm.len {s : Str} (h : Nm s) : s.length ≤ 8 := by
  obtain ⟨c, cs, e, _, h2, _⟩ := h
  rw [len_toList, e, List.length_cons]
  omega
/-- the first of the text and the menu that is not taken -/
theorem fresh {C : Cxt} {L : List Str} {t : Str} {σ : En} (ht : Nm t) (hL : L.length < 24) (h3 : σ[3]? = some (.own (sD L))) (h6 : σ[6]? = some (.val (.str t))) (h2 : σ[2]? = some (.val (.lst (sD menuS)))) (h9 : σ[9]? = some .un) :
    ∃ s, Nm s ∧ s ∉ L ∧ Vv C (.ix (.comp (.nm 9) [9] .seq (.cons (.bin .Add (.lst (.cons (.slot 6) .nil)) (.slot 2)) .nil) (.cmpT .NotIn (.slot 9) (.bor 3)) (.slot 9)) (.int 0)) σ (.str s) := by
  have l9 : 9 < σ.length := (List.getElem?_eq_some_iff.mp h9).1
  have hc := comp_s (C := C) (σ := σ) (v := 9) (ifs := .cmpT .NotIn (.slot 9) (.bor 3)) (e := .slot 9) (a := .bin .Add (.lst (.cons (.slot 6) .nil)) (.slot 2)) (l := t :: menuS) (f := D.str) (p := fun s => !decide (s ∈ L)) (h := D.str) (x := .lst (sD (t :: menuS))) h9
    (v_cat (xs := [.str t]) (ys := sD menuS) (s_lst (vl_cons (vv_slot h6) vl_nil) (show 1 ≤ 1000000 by decide)).w (vv_slot h2).w (show 1 + 24 ≤ 1000000 by decide)) rfl (fun s hs => t_notin (vv_slot (by rw [List.getElem?_set_self l9])).w (vw_own (by rw [List.getElem?_set_ne (by decide)]; exact h3)) (inD_names rfl s))
    (fun s _ _ => vv_slot (by rw [List.getElem?_set_self l9])) (show 25 ≤ 1000000 by decide)
  cases hf : (t :: menuS).filter fun s => !decide (s ∈ L) with
  | nil =>
    rw [List.filter_eq_nil_iff] at hf
    have := nodup_sub menu_nd (m := L) fun x hx => by
      have := hf x (List.mem_cons_of_mem _ hx)
      simpa using this
    simp [menuS] at this
    omega
  | cons s ss =>
    have hs : s ∈ (t :: menuS).filter fun s => !decide (s ∈ L) := by rw [hf]; exact List.mem_cons_self ..
    rw [List.mem_filter] at hs
    refine ⟨s, ?_, by simpa using hs.2, ?_⟩
    · rcases List.mem_cons.mp hs.1 with h | h
      · exact h ▸ ht
      · exact menu_nm s h
    · rw [hf] at hc
      exact v_ix0 (sq_fr hc).w rfl
theorem names_ok {C : Cxt} {n : Nat} {line : List Int} (hl : n ≤ line.length) (hn : n ≤ 20) : Sat (DS.run C ⟨10, 2, bNames⟩ [.lst (jD line), .int (n : Int)]) fun r => ∃ P, r = .fr (sD P) ∧ NetOk n P := by
  refine run_sat rfl ?_
  refine exs_next (σ1 := [.val (.lst (jD line)), .val (.int (n : Int)), .val (.lst (sD (menuS.take 19))), .un, .un, .un, .un, .un, .un, .un]) rfl ?_
  refine exs_next (σ1 := [.val (.lst (jD line)), .val (.int (n : Int)), .val (.lst (sD menuS)), .un, .un, .un, .un, .un, .un, .un]) rfl ?_
  contradiction
  refine exs_cons (for_r1 (n := n) (by infer_instance) (by omega) (fun i σ => ∃ L a b c d e, L.length = i ∧ L.Nodup ∧ (∀ s ∈ L, Nm s) ∧ σ = [.val (.lst (jD line)), .val (.int (n : Int)), .val (.lst (sD menuS)), .own (sD L), a, b, c, d, e, .un]) ⟨[], .un, .un, .un, .un, .un, rfl, List.nodup_nil, (fun s h => nomatch h), rfl⟩ ?_ ?_)
  · rintro i σ hi ⟨L, a, b, c, d, e, hL, nd, nm, rfl⟩
    dsimp only [List.set_cons_succ, List.set_cons_zero]
    contradiction
    have m24 : im (line.getD i 0 / ((3 : Nat) : Int)) 24 < menuS.length := im_lt (by decide)
    contradiction
    generalize line.getD i 0 / ((3 : Nat) : Int) = q at m24 ⊢
    have last : ∀ (t : Str) (d e : Sl), Nm t → Sat (exs C (.cons (.app 3 (.ix (.comp (.nm 9) [9] .seq (.cons (.bin .Add (.lst (.cons (.slot 6) .nil)) (.slot 2)) .nil) (.cmpT .NotIn (.slot 9) (.bor 3)) (.slot 9)) (.int 0))) .nil) [.val (.lst (jD line)), .val (.int (n : Int)), .val (.lst (sD menuS)), .own (sD L), .val (.int (i : Int)), .val (.int q), .val (.str t), d, e, .un]) fun z => z.1 = .nx ∧ ∃ L a b c d e, L.length = i + 1 ∧ L.Nodup ∧ (∀ s ∈ L, Nm s) ∧ z.2 = [.val (.lst (jD line)), .val (.int (n : Int)), .val (.lst (sD menuS)), .own (sD L), a, b, c, d, e, .un] := by
      intro t d e ht
      obtain ⟨s, h1, h2, h3⟩ := fresh (C := C) (L := L) (t := t) (σ := [.val (.lst (jD line)), .val (.int (n : Int)), .val (.lst (sD menuS)), .own (sD L), .val (.int (i : Int)), .val (.int q), .val (.str t), d, e, .un]) ht (by omega) rfl rfl rfl rfl
      refine exs_next (x_appS rfl h3 (by omega)) (exs_nil ⟨rfl, L ++ [s], _, _, _, _, _, by simp [hL], ?_, ?_, rfl⟩)
      · rw [List.nodup_append]
        exact ⟨nd, by simp, fun a ha b hb => by simp at hb; subst hb; exact fun e => h2 (e ▸ ha)⟩
      · intro x hx
        rcases List.mem_append.mp hx with h | h
        · exact nm x h
        · cases List.mem_singleton.mp h
          exact h1
    have z0 : 0 < line.length := by omega
    refine exs_via (fun σ => ∃ t, Nm t ∧ σ = [.val (.lst (jD line)), .val (.int (n : Int)), .val (.lst (sD menuS)), .own (sD L), .val (.int (i : Int)), .val (.int q), .val (.str t), d, e, .un]) (x_ifp (by infer_instance) (fun h => ?_) fun h => ?_) ?_
    · have m2 : im q 2 < 2 := im_lt (by decide)
      have m10 : im (q / ((2 : Nat) : Int)) 10 < 10 := im_lt (by decide)
      refine exs_next (x_setS (v_catS (v_ixC (z := "ab") (i := im q 2) (by infer_instance) m2 (by decide)).w (v_ixS (l := tails) (x := .lst (sD tails)) (i := im (q / ((2 : Nat) : Int)) 10) (Vv.w (by exact rfl)) rfl (by infer_instance) m10).w ?_)) (exs_nil ⟨rfl, _, tail_nm _ m2 _ m10, rfl⟩)
      have h1 := (tail_nm _ m2 _ m10).len
      have h2 := len_toList ((⟨#[Str.cps "ab" |>.toList |>.getD (im q 2) 0]⟩ : Str) ++ sAt tails (im (q / ((2 : Nat) : Int)) 10))
      rw [str_cat, List.length_append, ← len_toList, ← len_toList] at h2
      omega
    · exact exs_nil ⟨rfl, _, menu_nm _ (sAt_mem m24), rfl⟩
    rintro σ ⟨t, ht, rfl⟩
    refine exs_via (fun σ => ∃ t d e, Nm t ∧ σ = [.val (.lst (jD line)), .val (.int (n : Int)), .val (.lst (sD menuS)), .own (sD L), .val (.int (i : Int)), .val (.int q), .val (.str t), d, e, .un]) (x_ifp (by infer_instance) (fun h => ?_) fun h => ?_) ?_
    · have m26 : im (q / ((8 : Nat) : Int)) 26 < 26 := im_lt (by decide)
      have m8 : im q 8 < 8 := im_lt (by decide)
      refine exs_next (x_setS (v_ixC (z := lets) (i := im (q / ((8 : Nat) : Int)) 26) (by infer_instance) m26 (by decide))) ?_
      contradiction
      refine exs_cons (for_r1 (n := im q 8) (by infer_instance) (by omega) (fun j σ => ∃ t u e, (∃ c cs, t.cps.toList = c :: cs ∧ c ∈ lets.cps.toList ∧ cs.length = j ∧ ∀ x ∈ cs, x ∈ lets.cps.toList ∨ x ∈ digs.cps.toList) ∧ σ = [.val (.lst (jD line)), .val (.int (n : Int)), .val (.lst (sD menuS)), .own (sD L), .val (.int (i : Int)), .val (.int q), .val (.str t), .val (.int u), e, .un]) ⟨_, _, _, ⟨_, [], rfl, getD_mem m26, rfl, (fun x h => nomatch h)⟩, rfl⟩ ?_ ?_)
      · rintro j σ hj ⟨t, u, e, ⟨c, cs, ht, hc, hcs, hx⟩, rfl⟩
        dsimp only [List.set_cons_succ, List.set_cons_zero]
        have m36 : im u 36 < 36 := im_lt (by decide)
        refine exs_next (x_setS (v_catS (vv_slot (i := 6) rfl).w (v_ixC (z := abz) (i := im u 36) (by infer_instance) m36 (by decide)).w ?_)) ?_
        · have h2 := len_toList t
          rw [ht, List.length_cons] at h2
          show t.length + 1 ≤ _
          omega
        contradiction
        refine exs_nil ⟨_, _, _, ⟨c, cs ++ [abz.cps.toList.getD (im u 36) 0], ?_, hc, by simp [hcs], ?_⟩, rfl⟩
        · rw [str_cat, ht]
          rfl
        · intro x h
          rcases List.mem_append.mp h with h | h
          · exact hx x h
          · cases List.mem_singleton.mp h
            exact abz_ok (getD_mem m36)
      · rintro σ ⟨t, u, e, ⟨c, cs, ht, hc, hcs, hx⟩, rfl⟩
        exact exs_nil ⟨rfl, t, _, _, ⟨c, cs, ht, hc, by omega, hx⟩, rfl⟩
    · exact exs_nil ⟨rfl, t, d, e, ht, rfl⟩
    rintro σ ⟨t, d, e, ht, rfl⟩
    refine (last t d e ht).mono fun z hz => ?_
    obtain ⟨f, s⟩ := z
    cases (show f = .nx from hz.1)
    exact hz.2
  · rintro σ ⟨L, a, b, c, d, e, hL, nd, nm, rfl⟩
    have hs : ev C (.op .sortS (.cons (.slot 3) .nil)) [.val (.lst (jD line)), .val (.int (n : Int)), .val (.lst (sD menuS)), .own (sD L), a, b, c, d, e, .un] = .ok (.fr (sD (ssort L)), [.val (.lst (jD line)), .val (.int (n : Int)), .val (.lst (sD menuS)), .val (.lst (sD L)), a, b, c, d, e, .un]) := by
      have h0 : opD C .sortS [.lst (sD L)] = .ok (.fr (sD (ssort L))) := by
        show (match strs? (sD L) with | some ss => if ss.length < 64 then Out.ok (Ar.fr ((ssort ss).map .str)) else .bad | none => .bad) = _
        rw [strs_sD]
        dsimp only
        rw [if_pos (by omega)]
        rfl
      have h1 : evs C (.cons (.slot 3) .nil) [.val (.lst (jD line)), .val (.int (n : Int)), .val (.lst (sD menuS)), .own (sD L), a, b, c, d, e, .un] = .ok ([.v (.lst (sD L))], [.val (.lst (jD line)), .val (.int (n : Int)), .val (.lst (sD menuS)), .val (.lst (sD L)), a, b, c, d, e, .un]) := rfl
      rw [ev, h1]
      simp only [Out.bnd, List.map, Ar.view, h0]
      rfl
    refine exs_rt (x_retE' hs rfl) ⟨rfl, ssort L, rfl, ?_, ?_, ?_, ?_, by omega⟩
    · rw [(ssort_perm L).length_eq, hL]
    · exact (ssort_perm L).nodup_iff.mpr nd
    · exact fun s h => nm s ((ssort_perm L).mem_iff.mp h)
    · exact (ssort_uniq (List.Perm.refl _) (ssort_pw L)).symm
end Nt
/-! ## Nets drawn whole -/
namespace Nt
open PySem PySem.Spec PyProof.Rows L2 DS Gf Bt
local macro_rules | `(tactic| infer_instance) => `(tactic| first
  | ((with_reducible apply vw_own); exact rfl) | ((with_reducible apply vw_lock); exact rfl) | (with_reducible exact vw_lit) | ((with_reducible apply Vv.w); infer_instance)
  | ((with_reducible apply vv_slot); exact rfl) | (with_reducible exact vv_lit) | ((with_reducible apply vv_move); exact rfl) | ((with_reducible apply vv_bor); exact rfl) | (with_reducible exact vv_int) | (with_reducible exact vv_bl) | (with_reducible exact vv_non) | (with_reducible exact vv_str)
  | (with_reducible exact vl_nil) | ((with_reducible apply vl_cons) <;> infer_instance) | (with_reducible exact wl_nil) | ((with_reducible apply wl_cons) <;> infer_instance)
  | (with_reducible exact sq_lst) | (with_reducible exact sq_tup) | (with_reducible exact sq_rol)
  | ((with_reducible apply v_bit) <;> infer_instance) | ((with_reducible apply v_pow) <;> infer_instance) | ((with_reducible apply v_add) <;> infer_instance) | ((with_reducible apply v_sub) <;> infer_instance)
  | ((with_reducible apply v_xor) <;> infer_instance) | ((with_reducible apply v_or) <;> infer_instance) | ((with_reducible apply v_and) <;> infer_instance) | ((with_reducible apply v_shr) <;> infer_instance) | ((with_reducible apply v_shl) <;> infer_instance)
  | ((with_reducible apply v_modN) <;> infer_instance) | ((with_reducible apply v_divN) <;> infer_instance) | ((with_reducible apply v_mulN) <;> infer_instance)
  | ((with_reducible apply v_addI) <;> infer_instance) | ((with_reducible apply v_subI) <;> infer_instance) | ((with_reducible apply v_modM) <;> infer_instance) | ((with_reducible apply v_divI) <;> infer_instance) | ((with_reducible apply v_mulI) <;> infer_instance)
  | ((with_reducible apply v_cat) <;> infer_instance) | ((with_reducible apply v_catT) <;> infer_instance) | ((with_reducible apply v_repl) <;> infer_instance) | ((with_reducible apply v_neg) <;> infer_instance)
  | ((with_reducible apply int_blt); infer_instance) | ((with_reducible apply v_lenG) <;> first | (with_reducible assumption) | infer_instance) | ((with_reducible apply v_lenI) <;> infer_instance) | ((with_reducible apply v_lenJ) <;> infer_instance) | ((with_reducible apply v_lenS) <;> infer_instance) | ((with_reducible apply v_lenP) <;> infer_instance) | ((with_reducible apply v_lenD) <;> infer_instance)
  | ((with_reducible apply v_ixN) <;> infer_instance) | ((with_reducible apply v_ixJ) <;> infer_instance) | ((with_reducible apply v_ixS) <;> infer_instance) | ((with_reducible apply v_ixP) <;> infer_instance) | ((with_reducible apply v_ix0) <;> infer_instance) | ((with_reducible apply v_ix1) <;> infer_instance) | ((with_reducible apply v_ix2) <;> infer_instance)
  | ((with_reducible apply v_callV) <;> infer_instance) | ((with_reducible apply v_callF) <;> infer_instance) | ((with_reducible apply v_callW) <;> first | exact (rfl : noL _ = true) | infer_instance)
  | ((with_reducible apply f_points) <;> infer_instance) | ((with_reducible apply f_core) <;> infer_instance) | ((with_reducible apply f_ties) <;> infer_instance)
  | ((with_reducible apply s_tup) <;> infer_instance) | ((with_reducible apply s_lst) <;> infer_instance) | ((with_reducible apply v_tupD) <;> infer_instance) | ((with_reducible apply v_tupT) <;> infer_instance) | ((with_reducible apply v_listD) <;> infer_instance)
  | (with_reducible exact tp_true) | ((with_reducible apply tp_bit) <;> infer_instance) | ((with_reducible apply tp_bit0) <;> infer_instance) | ((with_reducible apply tp_eqN) <;> infer_instance) | ((with_reducible apply tp_neN) <;> infer_instance) | ((with_reducible apply tp_ltN) <;> infer_instance) | ((with_reducible apply tp_gtN) <;> infer_instance) | ((with_reducible apply tp_leN) <;> infer_instance) | ((with_reducible apply tp_geN) <;> infer_instance)
  | ((with_reducible apply tp_eq) <;> infer_instance) | ((with_reducible apply tp_ne) <;> infer_instance) | ((with_reducible apply tp_lt) <;> infer_instance) | ((with_reducible apply tp_gt) <;> infer_instance) | ((with_reducible apply tp_le) <;> infer_instance) | ((with_reducible apply tp_ge) <;> infer_instance)
  | ((with_reducible apply tp_not); infer_instance) | ((with_reducible apply tp_and1); infer_instance) | ((with_reducible apply tp_or1); infer_instance) | ((with_reducible apply tp_and) <;> (intros; infer_instance)) | ((with_reducible apply tp_or) <;> (intros; infer_instance))
  | ((with_reducible apply tp_call) <;> infer_instance) | ((with_reducible apply tp_isT) <;> infer_instance) | ((with_reducible apply tp_tru) <;> infer_instance)
  | ((with_reducible apply v_cmpN); infer_instance)
  | ((first | (with_reducible apply nlt_id) | (with_reducible apply nle_id) | (with_reducible apply ilt_id) | (with_reducible apply ile_id) | (with_reducible apply neq_id) | (with_reducible apply and_id)); first | (with_reducible assumption) | omega | (simp only [iD_len, jD_len, sD_len, pD_len, List.length_set, List.length_append, List.length_map, List.length_range, List.length_cons, List.length_nil, List.length_replicate]; omega))
  | (with_reducible assumption) | (with_reducible exact (rfl : isLst _ = false)) | ((with_reducible apply fn_id); first | (with_reducible assumption) | (apply_assumption (config := {exfalso := false}) <;> infer_instance)))
local macro_rules | `(tactic| contradiction) => `(tactic| (first
  | ((with_reducible apply run_sat); (· exact rfl); simp only [List.map_cons, List.map_nil, List.length_cons, List.length_nil, Nat.reduceAdd, Nat.reduceSub, List.reduceReplicate, List.cons_append, List.nil_append])
  | (with_reducible refine exs_next x_nil ?_) | (with_reducible refine exs_next x_pass ?_)
  | ((with_reducible apply exs_next); (· ((with_reducible apply x_setS); infer_instance)))
  | ((with_reducible apply exs_next); (· ((with_reducible apply x_setIxN); (· exact rfl); all_goals infer_instance)))
  | ((with_reducible apply exs_next); (· ((with_reducible apply x_appN); (· exact rfl); all_goals infer_instance)))
  | ((with_reducible apply exs_next); (· ((with_reducible apply x_appS); (· exact rfl); all_goals infer_instance)))
  | ((with_reducible apply exs_next); (· ((with_reducible apply x_appJ); (· exact rfl); all_goals infer_instance)))
  | ((with_reducible apply exs_next); (· ((with_reducible apply x_appP); (· exact rfl); all_goals infer_instance)))
  | ((with_reducible apply exs_next); (· ((with_reducible apply x_appD); (· exact rfl); all_goals infer_instance)))
  | ((with_reducible apply exs_next); (· ((with_reducible apply x_setL) <;> infer_instance)))
  | ((with_reducible apply exs_next); (· ((with_reducible apply x_augN); (· exact rfl); all_goals infer_instance)))
  | ((with_reducible apply exs_next); (· ((with_reducible apply x_augI'); (· exact rfl); all_goals infer_instance)))
  | ((with_reducible apply exs_cons); (with_reducible apply x_ifp); (· infer_instance); all_goals (intro h))) <;> try dsimp only [List.set_cons_succ, List.set_cons_zero])

abbrev bDrawn (jd jc jm jx jg jr jt jw jp js jo : Nat) : SRs := (.cons (.setS 3 (.call jd (.cons (.call jc (.cons (.slot 0) (.cons (.int 2) .nil))) (.cons (.bin .Mult (.lst (.cons (.int 9) .nil)) (.int 8)) .nil)))) (.cons (.setS 4 (.call jd (.cons (.call jc (.cons (.slot 0) (.cons (.int 7) .nil))) (.cons (.bin .Add (.bin .Mult (.lst (.cons (.int 3) .nil)) (.int 8)) (.lst (.cons (.int 2) (.cons (.int 840) (.cons (.int 840) .nil))))) .nil)))) (.cons (.setS 5 (.call jm (.cons (.call jd (.cons (.call jc (.cons (.slot 0) (.cons (.int 1) .nil))) (.cons (.bin .Add (.lst (.cons (.int 12) .nil)) (.bin .Mult (.lst (.cons (.int 4) .nil)) (.int 28))) .nil))) (.cons (.slot 1) .nil)))) (.cons (.ife (.cmpT .Lt (.slot 2) (.int 5)) (.cons (.setS 5 (.call jx (.cons (.slot 5) (.cons (.call jd (.cons (.call jc (.cons (.slot 0) (.cons (.int 4) .nil))) (.cons (.bin .Mult (.lst (.cons (.int 2) .nil)) (.int 8)) .nil))) (.cons (.call jd (.cons (.call jc (.cons (.slot 0) (.cons (.int 5) .nil))) (.cons (.bin .Mult (.lst (.cons (.int 3) .nil)) (.int 8)) .nil))) .nil))))) .nil) .nil) (.cons (.ife (.cmpT .Eq (.slot 2) (.int 4)) (.cons (.setS 5 (.call jx (.cons (.slot 5) (.cons (.call jd (.cons (.call jc (.cons (.slot 0) (.cons (.int 6) .nil))) (.cons (.bin .Mult (.lst (.cons (.int 2) .nil)) (.int 8)) .nil))) (.cons (.slot 4) .nil))))) .nil) .nil) (.cons (.ife (.orT (.cons (.cmpT .Eq (.slot 2) (.int 5)) (.cons (.cmpT .Eq (.slot 2) (.int 6)) .nil))) (.cons (.setS 5 (.call jg (.cons (.lst .nil) (.cons (.slot 1) (.cons (.slot 3) (.cons (.call jd (.cons (.call jc (.cons (.slot 0) (.cons (.int 3) .nil))) (.cons (.bin .Mult (.lst (.cons (.int 840) .nil)) (.int 8)) .nil))) .nil)))))) .nil) .nil) (.cons (.ife (.cmpT .Eq (.slot 2) (.int 7)) (.cons (.setS 5 (.call jr (.cons (.slot 1) .nil))) (.cons (.ife (.andT (.cons (.cmpT .Eq (.ix (.slot 4) (.int 8)) (.int 0)) (.cons (.cmpT .Gt (.slot 1) (.int 0)) .nil))) (.cons (.setS 5 (.call jt (.cons (.slot 5) (.cons (.bin .Mod (.blt .int (.cons (.ix (.slot 4) (.int 9)) .nil)) (.slot 1)) (.cons (.bin .Mod (.blt .int (.cons (.ix (.slot 4) (.int 10)) .nil)) (.slot 1)) .nil))))) .nil) .nil) .nil)) .nil) (.cons (.ife (.cmpT .Eq (.slot 2) (.int 8)) (.cons (.setS 5 (.comp (.nm 8) [8] .range1 (.cons (.slot 1) .nil) (.bl true) (.bin .Sub (.bin .Sub (.bin .LShift (.int 1) (.slot 1)) (.int 1)) (.bin .LShift (.int 1) (.slot 8))))) .nil) .nil) (.cons (.ife (.andT (.cons (.cmpT .Eq (.slot 2) (.int 9)) (.cons (.cmpT .Gt (.slot 1) (.int 6)) .nil))) (.cons (.setS 5 (.lst (.cons (.int 146) (.cons (.int 5) (.cons (.int 10) (.cons (.int 148) (.cons (.int 41) (.cons (.int 80) (.cons (.int 160) (.cons (.int 73) .nil)))))))))) (.cons (.for_ (.nm 8) .range1 (.cons (.bin .Sub (.int 8) (.slot 1)) .nil) (.cons (.setS 5 (.call jw (.cons (.slot 5) (.cons (.bin .Sub (.blt .len (.cons (.slot 5) .nil)) (.int 1)) .nil)))) .nil)) .nil)) .nil) (.cons (.for_ (.nm 6) .seq (.cons (.call jd (.cons (.call jc (.cons (.slot 0) (.cons (.int 8) .nil))) (.cons (.bin .Mult (.lst (.cons (.int 2520) .nil)) (.int 3)) .nil))) .nil) (.cons (.ife (.andT (.cons (.cmpT .Lt (.slot 6) (.int 840)) (.cons (.cmpT .Gt (.slot 1) (.int 0)) .nil))) (.cons (.setS 5 (.call jp (.cons (.slot 5) (.cons (.bin .Mod (.blt .int (.cons (.slot 6) .nil)) (.slot 1)) .nil)))) .nil) .nil) .nil)) (.cons (.setS 7 (.call js (.cons (.comp (.nm 8) [8] .range1 (.cons (.slot 1) .nil) (.bl true) (.slot 8)) (.cons (.call jd (.cons (.call jc (.cons (.slot 0) (.cons (.int 9) .nil))) (.cons (.lst (.cons (.int 8) (.cons (.int 7) (.cons (.int 6) (.cons (.int 5) (.cons (.int 4) (.cons (.int 3) (.cons (.int 2) (.cons (.int 1) .nil))))))))) .nil))) .nil)))) (.cons (.ret (.call jo (.cons (.slot 5) (.cons (.slot 7) .nil)))) .nil))))))))))))
/-! a point left out -/
def skip (v i : Nat) : Nat := if i < v then i else i + 1
theorem wout_row (m v k : Nat) : ((m &&& (2 ^ v - 1)) ||| (m / 2 ^ (v + 1) * 2 ^ v)).testBit k = m.testBit (skip v k) := by
  rw [Nat.testBit_or, Nat.testBit_and, Nat.testBit_two_pow_sub_one, Nat.mul_comm, Nat.testBit_two_pow_mul, Nat.testBit_div_two_pow]
  unfold skip
  by_cases h : k < v
  · rw [if_pos h, decide_eq_true h, decide_eq_false (by omega)]
    simp
  · rw [if_neg h, decide_eq_false h, decide_eq_true (by omega)]
    have e : k - v + (v + 1) = k + 1 := by omega
    simp [e]
theorem range_skip {v : Nat} : ∀ {n : Nat}, v < n → (List.range n).filter (fun i => decide (i ≠ v)) = (List.range (n - 1)).map (skip v)
  | n + 1, h => by
    rw [List.range_succ, List.filter_append, Nat.add_sub_cancel]
    by_cases e : v = n
    · subst e
      have h1 : (List.range v).filter (fun i => decide (i ≠ v)) = List.range v := List.filter_eq_self.mpr fun i hi => by
        have := List.mem_range.mp hi
        exact decide_eq_true (by omega)
      rw [h1]
      have h2 : (List.range v).map (skip v) = List.range v := (List.map_congr_left fun i hi => by
        unfold skip
        rw [if_pos (List.mem_range.mp hi)]
        rfl).trans (List.map_id _)
      simp [h2]
    · have ih := range_skip (v := v) (n := n) (by omega)
      rw [ih]
      have e2 : n = (n - 1) + 1 := by omega
      rw [show ([n].filter fun i => decide (i ≠ v)) = [n] by simp; omega]
      conv => rhs; rw [e2, List.range_succ, List.map_append]
      have : skip v (n - 1) = n := by
        unfold skip
        rw [if_neg (by omega)]
        omega
      simp [this]
def woutM (n : Nat) (M : List Nat) (v : Nat) : List Nat := mk (n - 1) fun i k => bt M (skip v i) (skip v k)
theorem wout_gd {n v : Nat} {M : List Nat} (g : Gd n M) : Gd (n - 1) (woutM n M v) := mk_gd (fun i k _ _ => g.sym _ _) fun i _ => g.irr _
def rowW (M : List Nat) (v i : Nat) : Nat := (M.getD i 0 &&& (2 ^ v - 1)) ||| (M.getD i 0 / 2 ^ (v + 1) * 2 ^ v)
theorem bt_ge {n : Nat} {M : List Nat} (g : Gd n M) (i : Nat) {k : Nat} (h : n ≤ k) : bt M i k = false := by
  rw [g.sym]
  unfold bt
  rw [List.getD_eq_getElem?_getD, List.getElem?_eq_none (by rw [g.len]; exact h)]
  exact Nat.zero_testBit i
theorem rowW_eq {n v i : Nat} {M : List Nat} (g : Gd n M) (hv : v < n) : rowW M v i = ofBits (fun k => bt M i (skip v k)) (n - 1) := Nat.eq_of_testBit_eq fun k => by
  unfold rowW
  rw [wout_row, ofBits_bit]
  by_cases h : k < n - 1
  · rw [decide_eq_true h]
    rfl
  · rw [decide_eq_false h]
    exact bt_ge g i (by unfold skip; split <;> omega)
theorem woutM_eq {n v : Nat} {M : List Nat} (g : Gd n M) (hv : v < n) : ((List.range n).filter (fun i => decide (i ≠ v))).map (rowW M v) = woutM n M v := by
  rw [range_skip hv, List.map_map]
  unfold woutM mk
  exact List.map_congr_left fun i _ => rowW_eq g hv
theorem wout_ok {C : Cxt} {n v : Nat} {M : List Nat} (g : Gd n M) (hv : v < n) (hn : n ≤ 60) : DS.run C ⟨5, 2, bWout⟩ [.lst (iD M), .int (v : Int)] = .ok (.fr (iD (woutM n M v))) := Sat.eq <| by
  have nl := g.len
  have il := iD_len M
  contradiction
  unfold bWout
  contradiction
  refine exs_cons (for_r1 (n := n) (by rw [← nl]; infer_instance) (by omega) (fun i σ => ∃ a b, σ = [.val (.lst (iD M)), .val (.int (v : Int)), .own (iD (((List.range i).filter (fun i => decide (i ≠ v))).map (rowW M v))), a, b]) ⟨.un, .un, rfl⟩ ?_ ?_)
  · rintro i σ hi ⟨a, b, rfl⟩
    dsimp only [List.set_cons_succ, List.set_cons_zero]
    have hl : (((List.range i).filter (fun i => decide (i ≠ v))).map (rowW M v)).length < 1000000 := by
      rw [List.length_map]
      have := List.length_filter_le (fun i => decide (i ≠ v)) (List.range i)
      rw [List.length_range] at this
      omega
    have p0 : 0 < 2 ^ v := Nat.two_pow_pos v
    rw [List.range_succ, List.filter_append, List.map_append]
    have hb : M.getD i 0 / 2 ^ (v + 1) < 2 ^ 64 := by
      obtain ⟨m, h1, _, h2⟩ := g.at hi
      rw [List.getD_eq_getElem?_getD, h1]
      have h3 : 2 ^ n ≤ 2 ^ 60 := Nat.pow_le_pow_right (by decide) hn
      exact Nat.lt_of_le_of_lt (Nat.div_le_self _ _) (by show m < _; omega)
    contradiction
    · rename_i h
      rw [show ([i].filter fun i => decide (i ≠ v)) = [i] by simp [h]]
      contradiction
      contradiction
      refine exs_nil (exs_nil ⟨_, _, rfl⟩)
    · rename_i h
      rw [show ([i].filter fun i => decide (i ≠ v)) = [] by simp at h; simp [h]]
      exact exs_nil (exs_nil ⟨_, _, by rw [List.map_nil, List.append_nil]⟩)
  · rintro σ ⟨a, b, rfl⟩
    exact ret_mv rfl ⟨rfl, by rw [woutM_eq g hv]⟩
/-! what the functions that draw do -/
abbrev DigQ (φ : List D → Out Ar) : Prop := ∀ (n : Int) (sz : List Int), (∀ s ∈ sz, 0 < s ∧ s < 18446744073709551616) → sz.length ≤ 1000000 → ∃ ds, φ [.int n, .lst (jD sz)] = .ok (.fr (jD ds)) ∧ Dg ds sz
abbrev DigF (C : Cxt) (f : Nat) : Prop := DigQ (C.fn f)
abbrev CellQ (ns : List Int) (φ : List D → Out Ar) : Prop := ∀ k : Nat, ∃ n, φ [.rol (jD ns), .int (k : Int)] = .ok (.v (.int n))
abbrev CellF (C : Cxt) (ns : List Int) (f : Nat) : Prop := CellQ ns (C.fn f)
abbrev MasksQ (φ : List D → Out Ar) : Prop := ∀ (n : Nat) (row : List Int), (∃ d, row[0]? = some d ∧ 0 ≤ d ∧ d < 12) → 1 + (prs n).length ≤ row.length → n ≤ 100 → ∃ M, φ [.lst (jD row), .int (n : Int)] = .ok (.fr (iD M)) ∧ Gd n M
abbrev MasksF (C : Cxt) (f : Nat) : Prop := MasksQ (C.fn f)
abbrev CrsQ (φ : List D → Out Ar) : Prop := ∀ (n : Nat) (M : List Nat) (sd en : List Int), Gd n M → n ≤ sd.length → n ≤ en.length → n ≤ 1000 → ∃ N, φ [.lst (iD M), .lst (jD sd), .lst (jD en)] = .ok (.fr (iD N)) ∧ Gd n N
abbrev CrsF (C : Cxt) (f : Nat) : Prop := CrsQ (C.fn f)
abbrev GrowQ (φ : List D → Out Ar) : Prop := ∀ (n : Nat) (ks os : List Int), n ≤ ks.length → n ≤ os.length → n ≤ 1000 → ∃ M, φ [.lst [], .int (n : Int), .lst (jD ks), .lst (jD os)] = .ok (.fr (iD M)) ∧ Gd n M
abbrev GrowF (C : Cxt) (f : Nat) : Prop := GrowQ (C.fn f)
abbrev RingQ (φ : List D → Out Ar) : Prop := ∀ n : Nat, n ≤ 1000 → ∃ M, φ [.int (n : Int)] = .ok (.fr (iD M)) ∧ Gd n M
abbrev RingF (C : Cxt) (f : Nat) : Prop := RingQ (C.fn f)
abbrev TurnQ (φ : List D → Out Ar) : Prop := ∀ (n a b : Nat) (M : List Nat), Gd n M → n ≤ 1000 → a < n → b < n → φ [.lst (iD M), .int (a : Int), .int (b : Int)] = .ok (.fr (iD (if a = b then M else togL M a b)))
abbrev TurnF (C : Cxt) (f : Nat) : Prop := TurnQ (C.fn f)
abbrev WoutQ (φ : List D → Out Ar) : Prop := ∀ (n v : Nat) (M : List Nat), Gd n M → v < n → n ≤ 60 → φ [.lst (iD M), .int (v : Int)] = .ok (.fr (iD (woutM n M v)))
abbrev WoutF (C : Cxt) (f : Nat) : Prop := WoutQ (C.fn f)
abbrev ShufQ (φ : List D → Out Ar) : Prop := ∀ (n b : Nat) (T : List Nat) (row : List Int), T.length = n → (∀ o ∈ T, o < b) → n ≤ row.length → n ≤ 1000 → ∃ od, φ [.lst (iD T), .lst (jD row)] = .ok (.fr (iD od)) ∧ od.length = n ∧ ∀ o ∈ od, o < b
abbrev ShufF (C : Cxt) (f : Nat) : Prop := ShufQ (C.fn f)
abbrev PermQ (φ : List D → Out Ar) : Prop := ∀ (n : Nat) (M od : List Nat), Gd n M → od.length = n → (∀ o ∈ od, o < n) → n ≤ 1000 → ∃ N, φ [.lst (iD M), .lst (iD od)] = .ok (.fr (iD N)) ∧ Gd n N
abbrev PermF (C : Cxt) (f : Nat) : Prop := PermQ (C.fn f)
theorem draw {C : Cxt} {ns : List Int} {jd jc k : Nat} {σ : En} {s : IR} {sz : List Int} (hd : DigF C jd) (hc : CellF C ns jc) (h0 : σ[0]? = some (.val (.rol (jD ns)))) (hs : Vv C s σ (.lst (jD sz))) (hb : sz.all (fun s => decide (0 < s ∧ s < 18446744073709551616)) = true) (hl : sz.length ≤ 1000000) :
    ∃ ds, ds.length = sz.length ∧ Dg ds sz ∧ Vv C (.call jd (.cons (.call jc (.cons (.slot 0) (.cons (.int (k : Int)) .nil))) (.cons s .nil))) σ (.lst (jD ds)) := by
  obtain ⟨z, hz⟩ := hc k
  obtain ⟨ds, h1, h2⟩ := hd z sz (fun s hs => of_decide_eq_true (List.all_eq_true.mp hb s hs)) hl
  exact ⟨ds, h2.1, h2, v_callF (vl_cons (v_callV (vl_cons (vv_slot h0) (vl_cons vv_int vl_nil)) hz) (vl_cons hs vl_nil)) h1⟩
theorem full_gd (n : Nat) : Gd n ((List.range n).map fun k => 2 ^ n - 1 - 2 ^ k) := by
  have e : ((List.range n).map fun k => 2 ^ n - 1 - 2 ^ k) = mk n fun i k => !decide (i = k) := by
    unfold mk
    refine List.map_congr_left fun k hk => ?_
    have hk := List.mem_range.mp hk
    have h2 : 2 ^ k < 2 ^ n := Nat.pow_lt_pow_right (by decide) hk
    rw [far_sub h2]
    refine Nat.eq_of_testBit_eq fun j => ?_
    rw [far_bit, ofBits_bit, tb_pow]
    by_cases h : j < n <;> by_cases h2 : k = j <;> simp [h, h2]
    omega
  rw [e]
  exact mk_gd (fun i k _ _ => by by_cases h : i = k <;> simp [h]; omega) fun i _ => by simp
def eight : List Nat := [146, 5, 10, 148, 41, 80, 160, 73]
theorem eight_gd : Gd 8 eight := by
  have e : eight = mk 8 fun i k => bt eight i k := by decide +kernel
  rw [e]
  refine mk_gd (fun i k hi hk => ?_) fun i hi => ?_
  · have : ∀ i k : Fin 8, bt eight i.1 k.1 = bt eight k.1 i.1 := by decide +kernel
    exact this ⟨i, hi⟩ ⟨k, hk⟩
  · have : ∀ i : Fin 8, bt eight i.1 i.1 = false := by decide +kernel
    exact this ⟨i, hi⟩
end Nt
/-! ## Masks drawn whole -/
namespace Nt
open PySem PySem.Spec PyProof.Rows L2 DS Gf Bt
local macro_rules | `(tactic| infer_instance) => `(tactic| first
  | ((with_reducible apply vw_own); exact rfl) | ((with_reducible apply vw_lock); exact rfl) | (with_reducible exact vw_lit) | ((with_reducible apply Vv.w); infer_instance)
  | ((with_reducible apply vv_slot); exact rfl) | (with_reducible exact vv_lit) | ((with_reducible apply vv_move); exact rfl) | ((with_reducible apply vv_bor); exact rfl) | (with_reducible exact vv_int) | (with_reducible exact vv_bl) | (with_reducible exact vv_non) | (with_reducible exact vv_str)
  | (with_reducible exact vl_nil) | ((with_reducible apply vl_cons) <;> infer_instance) | (with_reducible exact wl_nil) | ((with_reducible apply wl_cons) <;> infer_instance)
  | (with_reducible exact sq_lst) | (with_reducible exact sq_tup) | (with_reducible exact sq_rol)
  | ((with_reducible apply v_bit) <;> infer_instance) | ((with_reducible apply v_pow) <;> infer_instance) | ((with_reducible apply v_add) <;> infer_instance) | ((with_reducible apply v_sub) <;> infer_instance)
  | ((with_reducible apply v_xor) <;> infer_instance) | ((with_reducible apply v_or) <;> infer_instance) | ((with_reducible apply v_and) <;> infer_instance) | ((with_reducible apply v_shr) <;> infer_instance) | ((with_reducible apply v_shl) <;> infer_instance)
  | ((with_reducible apply v_modN) <;> infer_instance) | ((with_reducible apply v_divN) <;> infer_instance) | ((with_reducible apply v_mulN) <;> infer_instance)
  | ((with_reducible apply v_addI) <;> infer_instance) | ((with_reducible apply v_subI) <;> infer_instance) | ((with_reducible apply v_modM) <;> infer_instance) | ((with_reducible apply v_divI) <;> infer_instance) | ((with_reducible apply v_mulI) <;> infer_instance)
  | ((with_reducible apply v_cat) <;> infer_instance) | ((with_reducible apply v_catT) <;> infer_instance) | ((with_reducible apply v_repl) <;> infer_instance) | ((with_reducible apply v_neg) <;> infer_instance)
  | ((with_reducible apply int_blt); infer_instance) | ((with_reducible apply v_lenG) <;> first | (with_reducible assumption) | infer_instance) | ((with_reducible apply v_lenI) <;> infer_instance) | ((with_reducible apply v_lenJ) <;> infer_instance) | ((with_reducible apply v_lenS) <;> infer_instance) | ((with_reducible apply v_lenP) <;> infer_instance) | ((with_reducible apply v_lenD) <;> infer_instance)
  | ((with_reducible apply v_ixN) <;> infer_instance) | ((with_reducible apply v_ixJ) <;> infer_instance) | ((with_reducible apply v_ixS) <;> infer_instance) | ((with_reducible apply v_ixP) <;> infer_instance) | ((with_reducible apply v_ix0) <;> infer_instance) | ((with_reducible apply v_ix1) <;> infer_instance) | ((with_reducible apply v_ix2) <;> infer_instance)
  | ((with_reducible apply v_callV) <;> infer_instance) | ((with_reducible apply v_callF) <;> infer_instance) | ((with_reducible apply v_callW) <;> first | exact (rfl : noL _ = true) | infer_instance)
  | ((with_reducible apply f_points) <;> infer_instance) | ((with_reducible apply f_core) <;> infer_instance) | ((with_reducible apply f_ties) <;> infer_instance)
  | ((with_reducible apply s_tup) <;> infer_instance) | ((with_reducible apply s_lst) <;> infer_instance) | ((with_reducible apply v_tupD) <;> infer_instance) | ((with_reducible apply v_tupT) <;> infer_instance) | ((with_reducible apply v_listD) <;> infer_instance)
  | (with_reducible exact tp_true) | ((with_reducible apply tp_bit) <;> infer_instance) | ((with_reducible apply tp_bit0) <;> infer_instance) | ((with_reducible apply tp_eqN) <;> infer_instance) | ((with_reducible apply tp_neN) <;> infer_instance) | ((with_reducible apply tp_ltN) <;> infer_instance) | ((with_reducible apply tp_gtN) <;> infer_instance) | ((with_reducible apply tp_leN) <;> infer_instance) | ((with_reducible apply tp_geN) <;> infer_instance)
  | ((with_reducible apply tp_eq) <;> infer_instance) | ((with_reducible apply tp_ne) <;> infer_instance) | ((with_reducible apply tp_lt) <;> infer_instance) | ((with_reducible apply tp_gt) <;> infer_instance) | ((with_reducible apply tp_le) <;> infer_instance) | ((with_reducible apply tp_ge) <;> infer_instance)
  | ((with_reducible apply tp_not); infer_instance) | ((with_reducible apply tp_and1); infer_instance) | ((with_reducible apply tp_or1); infer_instance) | ((with_reducible apply tp_and) <;> (intros; infer_instance)) | ((with_reducible apply tp_or) <;> (intros; infer_instance))
  | ((with_reducible apply tp_call) <;> infer_instance) | ((with_reducible apply tp_isT) <;> infer_instance) | ((with_reducible apply tp_tru) <;> infer_instance)
  | ((with_reducible apply v_cmpN); infer_instance)
  | ((first | (with_reducible apply nlt_id) | (with_reducible apply nle_id) | (with_reducible apply ilt_id) | (with_reducible apply ile_id) | (with_reducible apply neq_id) | (with_reducible apply and_id)); first | (with_reducible assumption) | omega | (simp only [iD_len, jD_len, sD_len, pD_len, List.length_set, List.length_append, List.length_map, List.length_range, List.length_cons, List.length_nil, List.length_replicate]; omega))
  | (with_reducible assumption) | (with_reducible exact (rfl : isLst _ = false)) | ((with_reducible apply fn_id); first | (with_reducible assumption) | (apply_assumption (config := {exfalso := false}) <;> infer_instance)))
local macro_rules | `(tactic| contradiction) => `(tactic| (first
  | ((with_reducible apply run_sat); (· exact rfl); simp only [List.map_cons, List.map_nil, List.length_cons, List.length_nil, Nat.reduceAdd, Nat.reduceSub, List.reduceReplicate, List.cons_append, List.nil_append])
  | (with_reducible refine exs_next x_nil ?_) | (with_reducible refine exs_next x_pass ?_)
  | ((with_reducible apply exs_next); (· ((with_reducible apply x_setS); infer_instance)))
  | ((with_reducible apply exs_next); (· ((with_reducible apply x_setIxN); (· exact rfl); all_goals infer_instance)))
  | ((with_reducible apply exs_next); (· ((with_reducible apply x_appN); (· exact rfl); all_goals infer_instance)))
  | ((with_reducible apply exs_next); (· ((with_reducible apply x_appS); (· exact rfl); all_goals infer_instance)))
  | ((with_reducible apply exs_next); (· ((with_reducible apply x_appJ); (· exact rfl); all_goals infer_instance)))
  | ((with_reducible apply exs_next); (· ((with_reducible apply x_appP); (· exact rfl); all_goals infer_instance)))
  | ((with_reducible apply exs_next); (· ((with_reducible apply x_appD); (· exact rfl); all_goals infer_instance)))
  | ((with_reducible apply exs_next); (· ((with_reducible apply x_setL) <;> infer_instance)))
  | ((with_reducible apply exs_next); (· ((with_reducible apply x_augN); (· exact rfl); all_goals infer_instance)))
  | ((with_reducible apply exs_next); (· ((with_reducible apply x_augI'); (· exact rfl); all_goals infer_instance)))
  | ((with_reducible apply exs_cons); (with_reducible apply x_ifp); (· infer_instance); all_goals (intro h))) <;> try dsimp only [List.set_cons_succ, List.set_cons_zero])

structure DrawF (C : Cxt) (ns : List Int) (jd jc jm jx jg jr jt jw jp js jo : Nat) : Prop where
  dig : DigF C jd
  cell : CellF C ns jc
  masks : MasksF C jm
  crs : CrsF C jx
  grow : GrowF C jg
  ring : RingF C jr
  turn : TurnF C jt
  wout : WoutF C jw
  press : PressF C jp
  shuf : ShufF C js
  perm : PermF C jo
def Sd (ns : List Int) (n : Nat) (md : Int) (ks mo : List Int) (M : List Nat) (u6 u7 u8 : Sl) : En := [.val (.rol (jD ns)), .val (.int (n : Int)), .val (.int md), .val (.lst (jD ks)), .val (.lst (jD mo)), .val (.lst (iD M)), u6, u7, u8]
theorem eq_of_res {α : Type} {x : Out α} {a b : α} (h1 : x = .ok a) (h2 : x = .ok b) : a = b := by
  rw [h1] at h2
  cases h2
  rfl
theorem drawn_ok {C : Cxt} {ns : List Int} {n : Nat} {md : Int} {jd jc jm jx jg jr jt jw jp js jo : Nat} (F : DrawF C ns jd jc jm jx jg jr jt jw jp js jo) (hn : n ≤ 8) :
    Sat (DS.run C ⟨9, 3, bDrawn jd jc jm jx jg jr jt jw jp js jo⟩ [.rol (jD ns), .int (n : Int), .int md]) fun r => ∃ M, r = .fr (iD M) ∧ Gd n M := by
  have dr : ∀ {σ : En} (k : Nat) {s : IR} {sz : List Int}, σ[0]? = some (.val (.rol (jD ns))) → Vv C s σ (.lst (jD sz)) → sz.all (fun s => decide (0 < s ∧ s < 18446744073709551616)) = true → sz.length ≤ 1000000 → ∃ ds, ds.length = sz.length ∧ Dg ds sz ∧ Vv C (.call jd (.cons (.call jc (.cons (.slot 0) (.cons (.int (k : Int)) .nil))) (.cons s .nil))) σ (.lst (jD ds)) := fun {σ} k {s sz} h0 hs hb hl => draw F.dig F.cell h0 hs hb hl
  have p8 := prs8 hn
  contradiction
  obtain ⟨ks, lk, _, hk⟩ := dr (σ := [.val (.rol (jD ns)), .val (.int (n : Int)), .val (.int md), .un, .un, .un, .un, .un, .un]) 2 (s := .bin .Mult (.lst (.cons (.int 9) .nil)) (.int 8)) (sz := [9, 9, 9, 9, 9, 9, 9, 9]) rfl (by exact rfl) (by decide) (by decide)
  refine exs_next (x_setS hk) ?_
  obtain ⟨mo, lm, dm, hm⟩ := dr (σ := [.val (.rol (jD ns)), .val (.int (n : Int)), .val (.int md), .val (.lst (jD ks)), .un, .un, .un, .un, .un]) 7 (s := .bin .Add (.bin .Mult (.lst (.cons (.int 3) .nil)) (.int 8)) (.lst (.cons (.int 2) (.cons (.int 840) (.cons (.int 840) .nil))))) (sz := [3, 3, 3, 3, 3, 3, 3, 3, 2, 840, 840]) rfl (by exact rfl) (by decide) (by decide)
  refine exs_next (x_setS hm) ?_
  obtain ⟨row, lr, rr, hr⟩ := dr (σ := [.val (.rol (jD ns)), .val (.int (n : Int)), .val (.int md), .val (.lst (jD ks)), .val (.lst (jD mo)), .un, .un, .un, .un]) 1 (s := .bin .Add (.lst (.cons (.int 12) .nil)) (.bin .Mult (.lst (.cons (.int 4) .nil)) (.int 28))) (sz := 12 :: List.replicate 28 4) rfl (by exact rfl) (by decide) (by decide)
  obtain ⟨M, eM, g⟩ := F.masks n row (rr.at (k := 0) (s := 12) rfl) (by rw [lr]; show _ ≤ 29; omega) (by omega)
  refine exs_next (x_setS (v_callF (vl_cons hr (vl_cons (vv_slot (i := 1) rfl) vl_nil)) eM)) ?_
  have S : ∀ {s : SR} {ss : SRs} {Q : Fl × En → Prop} {M : List Nat}, Gd n M → (∀ M, Gd n M → Sat (ex C s (Sd ns n md ks mo M .un .un .un)) fun z => z.1 = .nx ∧ ∃ N, Gd n N ∧ z.2 = Sd ns n md ks mo N .un .un .un) → (∀ N, Gd n N → Sat (exs C ss (Sd ns n md ks mo N .un .un .un)) Q) → Sat (exs C (.cons s ss) (Sd ns n md ks mo M .un .un .un)) Q := fun g h1 h2 => exs_via (fun σ => ∃ N, Gd n N ∧ σ = Sd ns n md ks mo N .un .un .un) (h1 _ g) fun σ ⟨N, g, e⟩ => e ▸ h2 N g
  have fin : ∀ {e : IR} {N : List Nat} {M : List Nat}, Gd n N → Vv C e (Sd ns n md ks mo M .un .un .un) (.lst (iD N)) → Sat (exs C (.cons (.setS 5 e) .nil) (Sd ns n md ks mo M .un .un .un)) fun z => z.1 = .nx ∧ ∃ N, Gd n N ∧ z.2 = Sd ns n md ks mo N .un .un .un := fun g h => exs_next (x_setS h) (exs_nil ⟨rfl, _, g, rfl⟩)
  show Sat (exs C _ (Sd ns n md ks mo M .un .un .un)) _
  have v1 : ∀ {M : List Nat}, Vv C (.slot 1) (Sd ns n md ks mo M .un .un .un) (.int (n : Int)) := vv_slot rfl
  have v2 : ∀ {M : List Nat}, Vv C (.slot 2) (Sd ns n md ks mo M .un .un .un) (.int md) := vv_slot rfl
  have v3 : ∀ {M : List Nat}, Vv C (.slot 3) (Sd ns n md ks mo M .un .un .un) (.lst (jD ks)) := vv_slot rfl
  have v4 : ∀ {M : List Nat}, Vv C (.slot 4) (Sd ns n md ks mo M .un .un .un) (.lst (jD mo)) := vv_slot rfl
  have v5 : ∀ {M : List Nat}, Vv C (.slot 5) (Sd ns n md ks mo M .un .un .un) (.lst (iD M)) := vv_slot rfl
  refine S g (fun M g => x_ifp (tp_lt v2.w vv_int.w) (fun _ => ?_) fun _ => exs_nil ⟨rfl, M, g, rfl⟩) fun M g => ?_
  · obtain ⟨sd, l1, _, h1⟩ := dr (σ := Sd ns n md ks mo M .un .un .un) 4 (s := .bin .Mult (.lst (.cons (.int 2) .nil)) (.int 8)) (sz := [2, 2, 2, 2, 2, 2, 2, 2]) rfl (by exact rfl) (by decide) (by decide)
    obtain ⟨en, l2, _, h2⟩ := dr (σ := Sd ns n md ks mo M .un .un .un) 5 (s := .bin .Mult (.lst (.cons (.int 3) .nil)) (.int 8)) (sz := [3, 3, 3, 3, 3, 3, 3, 3]) rfl (by exact rfl) (by decide) (by decide)
    obtain ⟨N, eN, gN⟩ := F.crs n M sd en g (by rw [l1]; exact hn) (by rw [l2]; exact hn) (by omega)
    exact fin gN (v_callF (vl_cons v5 (vl_cons h1 (vl_cons h2 vl_nil))) eN)
  refine S g (fun M g => x_ifp (tp_eq v2.w vv_int.w) (fun _ => ?_) fun _ => exs_nil ⟨rfl, M, g, rfl⟩) fun M g => ?_
  · obtain ⟨sd, l1, _, h1⟩ := dr (σ := Sd ns n md ks mo M .un .un .un) 6 (s := .bin .Mult (.lst (.cons (.int 2) .nil)) (.int 8)) (sz := [2, 2, 2, 2, 2, 2, 2, 2]) rfl (by exact rfl) (by decide) (by decide)
    obtain ⟨N, eN, gN⟩ := F.crs n M sd mo g (by rw [l1]; exact hn) (by rw [lm]; show n ≤ 11; omega) (by omega)
    exact fin gN (v_callF (vl_cons v5 (vl_cons h1 (vl_cons v4 vl_nil))) eN)
  refine S g (fun M g => x_ifp (tp_or (tp_eq v2.w vv_int.w) fun _ => tp_or1 (tp_eq v2.w vv_int.w)) (fun _ => ?_) fun _ => exs_nil ⟨rfl, M, g, rfl⟩) fun M g => ?_
  · obtain ⟨os, l1, _, h1⟩ := dr (σ := Sd ns n md ks mo M .un .un .un) 3 (s := .bin .Mult (.lst (.cons (.int 840) .nil)) (.int 8)) (sz := [840, 840, 840, 840, 840, 840, 840, 840]) rfl (by exact rfl) (by decide) (by decide)
    obtain ⟨N, eN, gN⟩ := F.grow n ks os (by rw [lk]; exact hn) (by rw [l1]; exact hn) (by omega)
    exact fin gN (v_callF (vl_cons (vv_lst (ds := []) rfl (by decide)) (vl_cons v1 (vl_cons v3 (vl_cons h1 vl_nil)))) eN)
  refine S g (fun M g => x_ifp (tp_eq v2.w vv_int.w) (fun _ => ?_) fun _ => exs_nil ⟨rfl, M, g, rfl⟩) fun M g => ?_
  · obtain ⟨N, eN, gN⟩ := F.ring n (by omega)
    refine exs_next (σ1 := Sd ns n md ks mo N .un .un .un) (x_setS (v_callF (vl_cons v1 vl_nil) eN)) ?_
    refine exs_cons (x_ifp (tp_and (tp_eq (v_ixJ (l := mo) v4.w rfl (vw_lit (n := 8)) (by rw [lm]; decide)).w vv_int.w) fun _ => tp_and1 (tp_gtN (i := n) (j := 0) v1.w vw_lit)) (fun h => ?_) fun _ => exs_nil (exs_nil ⟨rfl, N, gN, rfl⟩))
    have h0 : 0 < n := h.2
    have ha : im (mo.getD 9 0) n < n := im_lt h0
    have hb : im (mo.getD 10 0) n < n := im_lt h0
    have eT := F.turn n _ _ N gN (by omega) ha hb
    refine exs_next (x_setS (v_callF (vl_cons v5 (vl_cons (v_modM (int_blt (v_ixJ (l := mo) v4.w rfl (vw_lit (n := 9)) (by rw [lm]; decide)).w).w v1.w h0) (vl_cons (v_modM (int_blt (v_ixJ (l := mo) v4.w rfl (vw_lit (n := 10)) (by rw [lm]; decide)).w).w v1.w h0) vl_nil))) eT)) (exs_nil (exs_nil ⟨rfl, _, ?_, rfl⟩))
    split
    · exact gN
    · rename_i hab
      exact tog_gd gN ha hb hab
  refine S g (fun M g => x_ifp (tp_eq v2.w vv_int.w) (fun _ => ?_) fun _ => exs_nil ⟨rfl, M, g, rfl⟩) fun M g => ?_
  · have hc := comp_rm (C := C) (σ := Sd ns n md ks mo M .un .un .un) (v := 8) (n := n) (a := .slot 1) (e := .bin .Sub (.bin .Sub (.bin .LShift (.int 1) (.slot 1)) (.int 1)) (.bin .LShift (.int 1) (.slot 8))) (h := fun k => .int ((2 ^ n - 1 - 2 ^ k : Nat) : Int)) rfl v1.w (by omega) (fun k hk => by
      have h2 : 2 ^ k < 2 ^ n := Nat.pow_lt_pow_right (by decide) hk
      have h3 := Nat.two_pow_pos k
      unfold Sd
      dsimp only [List.set_cons_succ, List.set_cons_zero]
      exact v_sub (v_sub (v_pow (vv_slot (i := 1) rfl).w (by omega)).w vw_lit (by omega)).w (v_pow (vv_slot (i := 8) rfl).w (by omega)).w (by omega))
    have he : (List.range n).map (fun k => D.int ((2 ^ n - 1 - 2 ^ k : Nat) : Int)) = iD ((List.range n).map fun k => 2 ^ n - 1 - 2 ^ k) := by
      unfold iD
      rw [List.map_map]
      rfl
    rw [he] at hc
    exact fin (full_gd n) (sq_fr hc)
  refine exs_via (fun σ => ∃ N u, Pl u ∧ Gd n N ∧ σ = Sd ns n md ks mo N .un .un u) (x_ifp (tp_and (tp_eq v2.w vv_int.w) fun _ => tp_and1 (tp_gtN (i := n) (j := 6) v1.w vw_lit)) (fun h => ?_) fun _ => exs_nil ⟨rfl, M, .un, .inl rfl, g, rfl⟩) ?_
  · have h6 : 6 < n := h.2
    refine exs_next (σ1 := Sd ns n md ks mo eight .un .un .un) rfl ?_
    refine exs_cons (for_r1 (n := 8 - n) (v_sub (i := 8) (j := n) vw_lit v1.w hn).w (by omega) (fun i σ => ∃ N u, Pl u ∧ Gd (8 - i) N ∧ σ = Sd ns n md ks mo N .un .un u) ⟨eight, .un, .inl rfl, eight_gd, rfl⟩ ?_ ?_)
    · rintro i σ hi ⟨N, u, _, gN, rfl⟩
      have nl := gN.len
      have e1 := F.wout (8 - i) (8 - i - 1) N gN (by omega) (by omega)
      unfold Sd
      dsimp only [List.set_cons_succ, List.set_cons_zero]
      refine exs_next (x_setS (v_callF (vl_cons (vv_slot (i := 5) rfl) (vl_cons (v_sub (i := 8 - i) (j := 1) (v_lenG (vv_slot (i := 5) rfl).w rfl (by rw [iD_len, nl])).w vw_lit (by omega)) vl_nil)) e1)) (exs_nil ⟨_, _, .inr ⟨_, rfl⟩, wout_gd gN, rfl⟩)
    · rintro σ ⟨N, u, hu, gN, rfl⟩
      rw [show 8 - (8 - n) = n by omega] at gN
      exact exs_nil ⟨rfl, N, u, hu, gN, rfl⟩
  rintro σ ⟨N, u, hu, gN, rfl⟩
  obtain ⟨ps, lp, _, h1⟩ := dr (σ := Sd ns n md ks mo N .un .un u) 8 (s := .bin .Mult (.lst (.cons (.int 2520) .nil)) (.int 3)) (sz := [2520, 2520, 2520]) rfl (by exact rfl) (by decide) (by decide)
  refine exs_cons (for_sq (x := .lst (jD ps)) (xs := jD ps) h1 rfl (fun i σ => ∃ N w, Gd n N ∧ σ = Sd ns n md ks mo N w .un u) ⟨N, .un, gN, rfl⟩ ?_ ?_)
  · rintro i y σ hy ⟨N, w, gN, rfl⟩
    obtain ⟨p, ep, rfl⟩ := jD_get hy
    unfold Sd
    dsimp only [List.set_cons_succ, List.set_cons_zero]
    refine exs_cons (x_ifp (tp_and (tp_lt (vv_slot (i := 6) rfl).w vv_int.w) fun _ => tp_and1 (tp_gtN (i := n) (j := 0) (vv_slot (i := 1) rfl).w vw_lit)) (fun h => ?_) fun _ => exs_nil (exs_nil ⟨N, _, gN, rfl⟩))
    have hl := im_lt (p := p) h.2
    exact exs_next (x_setS (v_callF (vl_cons (vv_slot (i := 5) rfl) (vl_cons (v_modM (int_blt (vv_slot (i := 6) rfl).w).w (vv_slot (i := 1) rfl).w h.2) vl_nil)) (F.press n _ N gN (by omega) hl))) (exs_nil (exs_nil ⟨_, _, press_gd gN _, rfl⟩))
  · rintro σ ⟨N, w, gN, rfl⟩
    obtain ⟨os, lo, _, h2⟩ := dr (σ := Sd ns n md ks mo N w .un u) 9 (s := .lst (.cons (.int 8) (.cons (.int 7) (.cons (.int 6) (.cons (.int 5) (.cons (.int 4) (.cons (.int 3) (.cons (.int 2) (.cons (.int 1) .nil))))))))) (sz := [8, 7, 6, 5, 4, 3, 2, 1]) rfl (by exact rfl) (by decide) (by decide)
    have hc := comp_rmu (C := C) (σ := Sd ns n md ks mo N w .un u) (v := 8) (n := n) (a := .slot 1) (e := .slot 8) (h := fun k => .int (k : Int)) rfl hu (vv_slot (i := 1) rfl).w (by omega) fun k hk => vv_slot rfl
    obtain ⟨od, eo, lo2, ho⟩ := F.shuf n n (List.range n) os List.length_range (fun o h => List.mem_range.mp h) (by rw [lo]; exact hn) (by omega)
    obtain ⟨P, eP, gP⟩ := F.perm n N od gN lo2 ho (by omega)
    refine exs_next (x_setS (v_callF (vl_cons (sq_fr hc) (vl_cons h2 vl_nil)) eo)) ?_
    exact ret_fr (call_ev (vl_cons (vv_slot (i := 5) rfl) (vl_cons (vv_slot (i := 7) rfl) vl_nil)) eP) ⟨rfl, P, rfl, gP⟩
end Nt
/-! ## What a law's own functions do, as predicates on functions -/
namespace Nt
open PySem PySem.Spec PyProof.Rows L2 DS Gf Bt
theorem sat_ex {α : Type} {x : Out Ar} {g : α → Ar} {P : α → Prop} (h : Sat x fun r => ∃ a, r = g a ∧ P a) : ∃ a, x = .ok (g a) ∧ P a := by
  obtain ⟨r, e, a, rfl, p⟩ := h
  exact ⟨a, e, p⟩
theorem sat_ex0 {α : Type} {x : Out Ar} {g : α → Ar} (h : Sat x fun r => ∃ a, r = g a) : ∃ a, x = .ok (g a) := by
  obtain ⟨r, e, a, rfl⟩ := h
  exact ⟨a, e⟩
theorem fn_at {C : Cxt} {f : Nat} {φ : List D → Out Ar} {P : (List D → Out Ar) → Prop} (e : C.fn f = φ) (h : P φ) : P (C.fn f) := e ▸ h
theorem fn_at' {C : Cxt} {f : Nat} {φ : List D → Out Ar} {P : (List D → Out Ar) → Prop} (e : C.make f = φ) (h : P φ) : P (C.make f) := e ▸ h
abbrev bLow : SRs := (.cons (.ret (.bin .BitAnd (.slot 0) (.un .USub (.slot 0)))) .nil)
abbrev bMkR (jr : Nat) : SRs := (.cons (.ret (.blt .len (.cons (.call jr (.cons (.slot 0) .nil)) .nil))) .nil)
abbrev LowQ (φ : List D → Out Ar) : Prop := ∀ n : Int, φ [.int n] = .ok (.v (.int (Builtin.bitAnd n (-n))))
abbrev RedQ (φ : List D → Out Ar) : Prop := ∀ (t : D) (ms : List Nat), seqOf t = some (iD ms) → ms.length ≤ 1000000 → φ [t] = .ok (.v (.tup (iD (redS ms))))
abbrev FarQ (φ : List D → Out Ar) : Prop := MkQ (fun n M m => .ok (.v (.int (farM n m : Nat)))) φ
abbrev CutQ (φ : List D → Out Ar) : Prop := MkQ (fun n M m => .ok (.fr (iD (cutR n M m)))) φ
abbrev CutRQ (φ : List D → Out Ar) : Prop := MkQ (fun n M m => .ok (.v (.int ((rk (cutR n M m) : Nat) : Int)))) φ
abbrev IsSQ (φ : List D → Out Ar) : Prop := MkQ (fun n M m => .ok (.v (.bl (isS n M m)))) φ
abbrev LCutQ (φ : List D → Out Ar) : Prop := LMkQ (fun n M m => .ok (.v (.int ((rk (cutR n M m) : Nat) : Int)))) φ
theorem v_callKV {C : Cxt} {σ : En} {f : Nat} {pm : List Nat} {es : IRs} {ds : List D} {d : D} (hs : VvL C es σ ds) (h : C.fn f (pm.map fun j => ds.getD j .non) = .ok (.v d)) : Vv C (.callK f pm es) σ d := by
  unfold VvL at hs
  refine sq_of (r := .v d) ?_ rfl
  simp only [ev, hs, Out.bnd, view_v, h, noB_v]
  simp
theorem v_dropJ {C : Cxt} {σ : En} {a lo : IR} {l : List Int} {j : Nat} (ha : Vw C a σ (.lst (jD l))) (hh : Vw C lo σ (.int (j : Int))) (hn : lo.isNon = false) : Vv C (.slice a lo .non) σ (.lst (jD (l.drop j))) := by
  have := v_drop ha hh hn
  rwa [jD_drop] at this
abbrev NamesQ (φ : List D → Out Ar) : Prop := ∀ (n : Nat) (line : List Int), n ≤ line.length → n ≤ 20 → ∃ P, φ [.lst (jD line), .int (n : Int)] = .ok (.fr (sD P)) ∧ NetOk n P
abbrev LNetQ (cn : Nat) (φ : List D → Out Ar) : Prop := ∀ (n : Nat) (P : List Str) (M : List Nat) (dg : List Int), NetOk n P → Gd n M → 2 + (prs n).length ≤ dg.length → φ [.lst (sD P), .lst (iD M), .lst (jD dg)] = .ok (.v (netD cn P M))
abbrev LSplQ (φ : List D → Out Ar) : Prop := ∀ (n : Nat) (M : List Nat), n ≤ 16 → M.length = n → φ [.lst (iD M)] = .ok (.fr (iD (spl n M)))
abbrev LNamQ (φ : List D → Out Ar) : Prop := ∀ (n m : Nat) (P : List Str), P.length = n → n ≤ 1000 → φ [.lst (sD P), .int (m : Int)] = .ok (.v (.tup (nameL P (bitsL n m))))
abbrev SameQ (φ : List D → Out Ar) : Prop := ∀ (T : List D), (∀ t ∈ T, (∃ xs, t = .tup xs) ∧ Lay 1 t) → T.length ≤ 1000000 → φ [.tup T, .lst T] = .ok (.v (.bl true))
abbrev SaysQ (φ : List D → Out Ar) : Prop := ∀ b : Bool, φ [.bl b, .bl b] = .ok (.v (.bl true))
abbrev SpNQ (cn : Nat) (φ : List D → Out Ar) : Prop := ∀ (n : Nat) (P : List Str) (M : List Nat), n ≤ 16 → P.length = n → M.length = n → φ [netD cn P M] = .ok (.v (.tup (splD n P M)))
abbrev PrmQ (cn : Nat) (φ : List D → Out Ar) : Prop := ∀ (n : Nat) (P : List Str) (M : List Nat), n ≤ 16 → M.length = n → φ [netD cn P M] = .ok (.v (.bl (decide ((spl n M).length = 0))))
abbrev PrRQ (φ : List D → Out Ar) : Prop := ∀ (n : Nat) (M : List Nat) (row : List Int), Gd n M → n ≤ 1000 → ∃ N, φ [.lst (iD M), .lst (jD row)] = .ok (.v (.lst (iD N))) ∧ Gd n N ∧ spl n N = spl n M
abbrev TurnNQ (cn : Nat) (φ : List D → Out Ar) : Prop := ∀ (n a b : Nat) (P : List Str) (M : List Nat), NetOk n P → Gd n M → a < n → b < n → a ≠ b → φ [netD cn P M, .str (sAt P a), .str (sAt P b)] = .ok (.v (netD cn P (togL M a b)))
abbrev IsNQ (cn : Nat) (φ : List D → Out Ar) : Prop := ∀ (n : Nat) (P : List Str) (M : List Nat), NetOk n P → Gd n M → φ [netD cn P M, .lst (sD P), .lst (iD M)] = .ok (.v (.bl true))
abbrev DrawnQ (ns : List Int) (φ : List D → Out Ar) : Prop := ∀ (n : Nat) (md : Int), n ≤ 8 → ∃ M, φ [.rol (jD ns), .int (n : Int), .int md] = .ok (.fr (iD M)) ∧ Gd n M
theorem dg_nat {ds sz : List Int} (h : Dg ds sz) {k : Nat} {s : Int} (hs : sz[k]? = some s) : ∃ d : Nat, ds.getD k 0 = (d : Int) ∧ (d : Int) < s ∧ k < ds.length := by
  obtain ⟨d, h1, h2, h3⟩ := h.at hs
  refine ⟨d.toNat, ?_, by omega, (List.getElem?_eq_some_iff.mp h1).1⟩
  rw [List.getD_eq_getElem?_getD, h1]
  show d = _
  omega
theorem two_diff {n a b : Nat} (h : 1 < n) (ha : a < n) (hb : b < n - 1) : (a + 1 + b) % n < n ∧ a ≠ (a + 1 + b) % n := by
  refine ⟨Nat.mod_lt _ (by omega), ?_⟩
  by_cases c : a + 1 + b < n
  · rw [Nat.mod_eq_of_lt c]
    omega
  · rw [Nat.mod_eq_sub_mod (by omega), Nat.mod_eq_of_lt (by omega)]
    omega
end Nt
/-! ## The law on splits -/
namespace Nt
open PySem PySem.Spec PyProof.Rows L2 DS Gf Bt
local macro_rules | `(tactic| infer_instance) => `(tactic| first
  | ((with_reducible apply vw_own); exact rfl) | ((with_reducible apply vw_lock); exact rfl) | (with_reducible exact vw_lit) | ((with_reducible apply Vv.w); infer_instance)
  | ((with_reducible apply vv_slot); exact rfl) | (with_reducible exact vv_lit) | ((with_reducible apply vv_move); exact rfl) | ((with_reducible apply vv_bor); exact rfl) | (with_reducible exact vv_int) | (with_reducible exact vv_bl) | (with_reducible exact vv_non) | (with_reducible exact vv_str)
  | (with_reducible exact vl_nil) | ((with_reducible apply vl_cons) <;> infer_instance) | (with_reducible exact wl_nil) | ((with_reducible apply wl_cons) <;> infer_instance)
  | (with_reducible exact sq_lst) | (with_reducible exact sq_tup) | (with_reducible exact sq_rol)
  | ((with_reducible apply v_bit) <;> infer_instance) | ((with_reducible apply v_pow) <;> infer_instance) | ((with_reducible apply v_add) <;> infer_instance) | ((with_reducible apply v_sub) <;> infer_instance)
  | ((with_reducible apply v_xor) <;> infer_instance) | ((with_reducible apply v_or) <;> infer_instance) | ((with_reducible apply v_and) <;> infer_instance) | ((with_reducible apply v_shr) <;> infer_instance) | ((with_reducible apply v_shl) <;> infer_instance)
  | ((with_reducible apply v_modN) <;> infer_instance) | ((with_reducible apply v_divN) <;> infer_instance) | ((with_reducible apply v_mulN) <;> infer_instance)
  | ((with_reducible apply v_addI) <;> infer_instance) | ((with_reducible apply v_subI) <;> infer_instance) | ((with_reducible apply v_modM) <;> infer_instance) | ((with_reducible apply v_divI) <;> infer_instance) | ((with_reducible apply v_mulI) <;> infer_instance)
  | ((with_reducible apply v_cat) <;> infer_instance) | ((with_reducible apply v_catT) <;> infer_instance) | ((with_reducible apply v_repl) <;> infer_instance) | ((with_reducible apply v_neg) <;> infer_instance)
  | ((with_reducible apply int_blt); infer_instance) | ((with_reducible apply v_lenG) <;> first | (with_reducible assumption) | infer_instance) | ((with_reducible apply v_lenI) <;> infer_instance) | ((with_reducible apply v_lenJ) <;> infer_instance) | ((with_reducible apply v_lenS) <;> infer_instance) | ((with_reducible apply v_lenP) <;> infer_instance) | ((with_reducible apply v_lenD) <;> infer_instance)
  | ((with_reducible apply v_ixN) <;> infer_instance) | ((with_reducible apply v_ixJ) <;> infer_instance) | ((with_reducible apply v_ixS) <;> infer_instance) | ((with_reducible apply v_ixP) <;> infer_instance) | ((with_reducible apply v_ix0) <;> infer_instance) | ((with_reducible apply v_ix1) <;> infer_instance) | ((with_reducible apply v_ix2) <;> infer_instance)
  | ((with_reducible apply v_callV) <;> infer_instance) | ((with_reducible apply v_callF) <;> infer_instance) | ((with_reducible apply v_callW) <;> first | exact (rfl : noL _ = true) | infer_instance)
  | ((with_reducible apply f_points) <;> infer_instance) | ((with_reducible apply f_core) <;> infer_instance) | ((with_reducible apply f_ties) <;> infer_instance)
  | ((with_reducible apply s_tup) <;> infer_instance) | ((with_reducible apply s_lst) <;> infer_instance) | ((with_reducible apply v_tupD) <;> infer_instance) | ((with_reducible apply v_tupT) <;> infer_instance) | ((with_reducible apply v_listD) <;> infer_instance)
  | (with_reducible exact tp_true) | ((with_reducible apply tp_bit) <;> infer_instance) | ((with_reducible apply tp_bit0) <;> infer_instance) | ((with_reducible apply tp_eqN) <;> infer_instance) | ((with_reducible apply tp_neN) <;> infer_instance) | ((with_reducible apply tp_ltN) <;> infer_instance) | ((with_reducible apply tp_gtN) <;> infer_instance) | ((with_reducible apply tp_leN) <;> infer_instance) | ((with_reducible apply tp_geN) <;> infer_instance)
  | ((with_reducible apply tp_eq) <;> infer_instance) | ((with_reducible apply tp_ne) <;> infer_instance) | ((with_reducible apply tp_lt) <;> infer_instance) | ((with_reducible apply tp_gt) <;> infer_instance) | ((with_reducible apply tp_le) <;> infer_instance) | ((with_reducible apply tp_ge) <;> infer_instance)
  | ((with_reducible apply tp_not); infer_instance) | ((with_reducible apply tp_and1); infer_instance) | ((with_reducible apply tp_or1); infer_instance) | ((with_reducible apply tp_and) <;> (intros; infer_instance)) | ((with_reducible apply tp_or) <;> (intros; infer_instance))
  | ((with_reducible apply tp_call) <;> infer_instance) | ((with_reducible apply tp_isT) <;> infer_instance) | ((with_reducible apply tp_tru) <;> infer_instance)
  | ((with_reducible apply v_cmpN); infer_instance)
  | ((first | (with_reducible apply nlt_id) | (with_reducible apply nle_id) | (with_reducible apply ilt_id) | (with_reducible apply ile_id) | (with_reducible apply neq_id) | (with_reducible apply and_id)); first | (with_reducible assumption) | omega | (simp only [iD_len, jD_len, sD_len, pD_len, List.length_set, List.length_append, List.length_map, List.length_range, List.length_cons, List.length_nil, List.length_replicate]; omega))
  | (with_reducible assumption) | (with_reducible exact (rfl : isLst _ = false)) | ((with_reducible apply fn_id); first | (with_reducible assumption) | (apply_assumption (config := {exfalso := false}) <;> infer_instance)))
local macro_rules | `(tactic| contradiction) => `(tactic| (first
  | ((with_reducible apply run_sat); (· exact rfl); simp only [List.map_cons, List.map_nil, List.length_cons, List.length_nil, Nat.reduceAdd, Nat.reduceSub, List.reduceReplicate, List.cons_append, List.nil_append])
  | (with_reducible refine exs_next x_nil ?_) | (with_reducible refine exs_next x_pass ?_)
  | ((with_reducible apply exs_next); (· ((with_reducible apply x_setS); infer_instance)))
  | ((with_reducible apply exs_next); (· ((with_reducible apply x_setIxN); (· exact rfl); all_goals infer_instance)))
  | ((with_reducible apply exs_next); (· ((with_reducible apply x_appN); (· exact rfl); all_goals infer_instance)))
  | ((with_reducible apply exs_next); (· ((with_reducible apply x_appS); (· exact rfl); all_goals infer_instance)))
  | ((with_reducible apply exs_next); (· ((with_reducible apply x_appJ); (· exact rfl); all_goals infer_instance)))
  | ((with_reducible apply exs_next); (· ((with_reducible apply x_appP); (· exact rfl); all_goals infer_instance)))
  | ((with_reducible apply exs_next); (· ((with_reducible apply x_appD); (· exact rfl); all_goals infer_instance)))
  | ((with_reducible apply exs_next); (· ((with_reducible apply x_setL) <;> infer_instance)))
  | ((with_reducible apply exs_next); (· ((with_reducible apply x_augN); (· exact rfl); all_goals infer_instance)))
  | ((with_reducible apply exs_next); (· ((with_reducible apply x_augI'); (· exact rfl); all_goals infer_instance)))
  | ((with_reducible apply exs_cons); (with_reducible apply x_ifp); (· infer_instance); all_goals (intro h))) <;> try dsimp only [List.set_cons_succ, List.set_cons_zero])

abbrev bLaw52 (cn jd jc jn jm jt js ja je jp jy jq jr jt2 ju ji : Nat) : SRs := (.cons (.setS 1 (.call jd (.cons (.call jc (.cons (.slot 0) (.cons (.int 0) .nil))) (.cons (.bin .Add (.lst (.cons (.int 24) (.cons (.int 12) .nil))) (.bin .Mult (.lst (.cons (.bin .Mult (.int 624) (.bin .Pow (.int 36) (.int 7))) .nil)) (.int 8))) .nil)))) (.cons (.setS 2 (.ix (.lst (.cons (.int 6) (.cons (.int 5) (.cons (.int 6) (.cons (.int 7) (.cons (.int 4) (.cons (.int 7) (.cons (.int 6) (.cons (.int 8) (.cons (.int 5) (.cons (.int 6) (.cons (.int 3) (.cons (.int 7) (.cons (.int 6) (.cons (.int 5) (.cons (.int 7) (.cons (.int 6) (.cons (.int 4) (.cons (.int 5) (.cons (.int 6) (.cons (.int 8) (.cons (.int 6) (.cons (.int 2) (.cons (.int 1) (.cons (.int 0) .nil))))))))))))))))))))))))) (.ix (.slot 1) (.int 0)))) (.cons (.setS 3 (.call jn (.cons (.slice (.slot 1) (.int 2) .non) (.cons (.slot 2) .nil)))) (.cons (.setS 4 (.call jm (.cons (.slot 0) (.cons (.slot 2) (.cons (.ix (.slot 1) (.int 1)) .nil))))) (.cons (.setS 5 (.call jt (.cons (.slot 3) (.cons (.slot 4) (.cons (.call jd (.cons (.call jc (.cons (.slot 0) (.cons (.int 10) .nil))) (.cons (.bin .Add (.lst (.cons (.int 9) (.cons (.int 2) .nil))) (.bin .Mult (.lst (.cons (.int 6) .nil)) (.int 28))) .nil))) .nil))))) (.cons (.setS 6 (.comp (.nm 14) [14] .seq (.cons (.call js (.cons (.slot 4) .nil)) .nil) (.bl true) (.call ja (.cons (.slot 3) (.cons (.slot 14) .nil))))) (.cons (.ife (.orT (.cons (.notT (.tru (.call je (.cons (.call jp (.cons (.slot 5) .nil)) (.cons (.slot 6) .nil))))) (.cons (.notT (.tru (.call jy (.cons (.call jq (.cons (.slot 5) .nil)) (.cons (.cmp .Eq (.blt .len (.cons (.slot 6) .nil)) (.int 0)) .nil))))) .nil))) (.cons (.ret (.bl false)) .nil) .nil) (.cons (.setS 7 (.call jr (.cons (.slot 4) (.cons (.call jd (.cons (.call jc (.cons (.slot 0) (.cons (.int 11) .nil))) (.cons (.bin .Mult (.lst (.cons (.int 840) .nil)) (.int 4)) .nil))) .nil)))) (.cons (.setS 8 (.call jt (.cons (.slot 3) (.cons (.slot 7) (.cons (.call jd (.cons (.call jc (.cons (.slot 0) (.cons (.int 12) .nil))) (.cons (.bin .Add (.lst (.cons (.int 9) (.cons (.int 2) .nil))) (.bin .Mult (.lst (.cons (.int 6) .nil)) (.int 28))) .nil))) .nil))))) (.cons (.ife (.orT (.cons (.notT (.tru (.call je (.cons (.callK jp [0] (.cons (.slot 8) .nil)) (.cons (.slot 6) .nil))))) (.cons (.notT (.tru (.call jy (.cons (.callK jq [0] (.cons (.slot 8) .nil)) (.cons (.cmp .Eq (.blt .len (.cons (.slot 6) .nil)) (.int 0)) .nil))))) .nil))) (.cons (.ret (.bl false)) .nil) .nil) (.cons (.ife (.cmpT .Gt (.slot 2) (.int 1)) (.cons (.setS 9 (.call jd (.cons (.call jc (.cons (.slot 0) (.cons (.int 13) .nil))) (.cons (.lst (.cons (.int 840) (.cons (.int 840) .nil))) .nil)))) (.cons (.setS 10 (.bin .Mod (.blt .int (.cons (.ix (.slot 9) (.int 0)) .nil)) (.slot 2))) (.cons (.setS 11 (.bin .Mod (.blt .int (.cons (.bin .Add (.bin .Add (.slot 10) (.int 1)) (.bin .Mod (.blt .int (.cons (.ix (.slot 9) (.int 1)) .nil)) (.bin .Sub (.slot 2) (.int 1)))) .nil)) (.slot 2))) (.cons (.setS 12 (.comp (.nm 14) [14] .seq (.cons (.call js (.cons (.call jt2 (.cons (.slot 4) (.cons (.slot 10) (.cons (.slot 11) .nil)))) .nil)) .nil) (.bl true) (.call ja (.cons (.slot 3) (.cons (.slot 14) .nil))))) (.cons (.setS 13 (.op (.meth cn ju) (.cons (.slot 5) (.cons (.ix (.slot 3) (.slot 10)) (.cons (.ix (.slot 3) (.slot 11)) .nil))))) (.cons (.ife (.orT (.cons (.notT (.tru (.call je (.cons (.call jp (.cons (.slot 13) .nil)) (.cons (.slot 12) .nil))))) (.cons (.notT (.tru (.call jy (.cons (.call jq (.cons (.slot 13) .nil)) (.cons (.cmp .Eq (.blt .len (.cons (.slot 12) .nil)) (.int 0)) .nil))))) .nil))) (.cons (.ret (.bl false)) .nil) .nil) .nil)))))) .nil) (.cons (.ret (.andE (.cons (.call je (.cons (.call jp (.cons (.slot 5) .nil)) (.cons (.slot 6) .nil))) (.cons (.call ji (.cons (.slot 5) (.cons (.slot 3) (.cons (.slot 4) .nil)))) .nil)))) .nil))))))))))))
def many52 : List Nat := [6, 5, 6, 7, 4, 7, 6, 8, 5, 6, 3, 7, 6, 5, 7, 6, 4, 5, 6, 8, 6, 2, 1, 0]
structure F52 (C : Cxt) (ns : List Int) (jd jc jn jm jt js ja je jp jy jq jr jt2 ju ji : Nat) : Prop where
  net : NetC C 0
  dig : DigQ (C.fn jd)
  cell : CellQ ns (C.fn jc)
  names : NamesQ (C.fn jn)
  drawn : DrawnQ ns (C.fn jm)
  lnet : LNetQ 0 (C.fn jt)
  lspl : LSplQ (C.fn js)
  lnam : LNamQ (C.fn ja)
  same : SameQ (C.fn je)
  spN : SpNQ 0 (C.fn jp)
  says : SaysQ (C.fn jy)
  prm : PrmQ 0 (C.fn jq)
  prR : PrRQ (C.fn jr)
  turn : TurnQ (C.fn jt2)
  turnN : TurnNQ 0 (C.fn ju)
  isN : IsNQ 0 (C.fn ji)
theorem splD_hT {n : Nat} {P : List Str} {M : List Nat} (h : NetOk n P) : ∀ t ∈ splD n P M, (∃ xs, t = .tup xs) ∧ Lay 1 t := fun t ht => by
  obtain ⟨m, _, rfl⟩ := List.mem_map.mp ht
  exact ⟨⟨_, rfl⟩, lay_some h fun k hk => (mem_bitsL.mp hk).1⟩
theorem law52 {C : Cxt} {ns : List Int} {jd jc jn jm jt js ja je jp jy jq jr jt2 ju ji : Nat} (F : F52 C ns jd jc jn jm jt js ja je jp jy jq jr jt2 ju ji) :
    DS.run C ⟨15, 1, bLaw52 0 jd jc jn jm jt js ja je jp jy jq jr jt2 ju ji⟩ [.rol (jD ns)] = .ok (.v (.bl true)) := Sat.eq <| by
  have dr : ∀ {σ : En} (k : Nat) {s : IR} {sz : List Int}, σ[0]? = some (.val (.rol (jD ns))) → Vv C s σ (.lst (jD sz)) → sz.all (fun s => decide (0 < s ∧ s < 18446744073709551616)) = true → sz.length ≤ 1000000 → ∃ ds, ds.length = sz.length ∧ Dg ds sz ∧ Vv C (.call jd (.cons (.call jc (.cons (.slot 0) (.cons (.int (k : Int)) .nil))) (.cons s .nil))) σ (.lst (jD ds)) := fun {σ} k {s sz} h0 hs hb hl => draw F.dig F.cell h0 hs hb hl
  contradiction
  obtain ⟨hd, lh, dh, hh⟩ := dr (σ := [.val (.rol (jD ns)), .un, .un, .un, .un, .un, .un, .un, .un, .un, .un, .un, .un, .un, .un]) 0 (s := .bin .Add (.lst (.cons (.int 24) (.cons (.int 12) .nil))) (.bin .Mult (.lst (.cons (.bin .Mult (.int 624) (.bin .Pow (.int 36) (.int 7))) .nil)) (.int 8))) (sz := 24 :: 12 :: List.replicate 8 48899238395904) rfl (by exact rfl) (by decide) (by decide)
  refine exs_next (x_setS hh) ?_
  have lh : hd.length = 10 := lh
  obtain ⟨d0, e0, b0, l0⟩ := dg_nat dh (k := 0) (s := 24) rfl
  have b0 : d0 < many52.length := by show d0 < 24; omega
  obtain ⟨n, hn⟩ : ∃ n, n = many52.getD d0 0 := ⟨_, rfl⟩
  have hn8 : n ≤ 8 := by
    have : ∀ d : Fin 24, many52.getD d.1 0 ≤ 8 := by decide
    rw [hn]
    exact this ⟨d0, b0⟩
  have p8 := prs8 hn8
  refine exs_next (x_setS (d := .int (n : Int)) (by
    have h0 := v_ixJ (C := C) (l := hd) (σ := [.val (.rol (jD ns)), .val (.lst (jD hd)), .un, .un, .un, .un, .un, .un, .un, .un, .un, .un, .un, .un, .un]) (a := .slot 1) (b := .int 0) (i := 0) (vv_slot (i := 1) rfl).w rfl vw_lit l0
    rw [e0] at h0
    rw [hn]
    exact v_ixN (l := many52) (x := .lst (iD many52)) (Vv.w (by exact rfl)) rfl h0.w b0)) ?_
  dsimp only [List.set_cons_succ, List.set_cons_zero]
  obtain ⟨P, eP, hP⟩ := F.names n (hd.drop 2) (by rw [List.length_drop, lh]; omega) (by omega)
  refine exs_next (x_setS (v_callF (vl_cons (v_dropJ (vv_slot (i := 1) rfl).w (vw_lit (n := 2)) rfl) (vl_cons (vv_slot (i := 2) rfl) vl_nil)) eP)) ?_
  dsimp only [List.set_cons_succ, List.set_cons_zero]
  obtain ⟨M, eM, g⟩ := F.drawn n (hd.getD 1 0) hn8
  refine exs_next (x_setS (v_callF (vl_cons (vv_slot (i := 0) rfl) (vl_cons (vv_slot (i := 2) rfl) (vl_cons (v_ixJ (l := hd) (i := 1) (vv_slot (i := 1) rfl).w rfl vw_lit (by omega)) vl_nil))) eM)) ?_
  dsimp only [List.set_cons_succ, List.set_cons_zero]
  have lP := hP.len
  have lM := g.len
  have made : ∀ {σ : En} (k i : Nat) {M : List Nat}, Gd n M → σ[0]? = some (.val (.rol (jD ns))) → σ[3]? = some (.val (.lst (sD P))) → σ[i]? = some (.val (.lst (iD M))) → Vv C (.call jt (.cons (.slot 3) (.cons (.slot i) (.cons (.call jd (.cons (.call jc (.cons (.slot 0) (.cons (.int (k : Int)) .nil))) (.cons (.bin .Add (.lst (.cons (.int 9) (.cons (.int 2) .nil))) (.bin .Mult (.lst (.cons (.int 6) .nil)) (.int 28))) .nil))) .nil)))) σ (netD 0 P M) := fun {σ} k i {M} g h0 h3 hi => by
    obtain ⟨dg, ld, _, hd⟩ := dr (σ := σ) k (s := .bin .Add (.lst (.cons (.int 9) (.cons (.int 2) .nil))) (.bin .Mult (.lst (.cons (.int 6) .nil)) (.int 28))) (sz := 9 :: 2 :: List.replicate 28 6) h0 (by exact rfl) (by decide) (by decide)
    exact v_callV (vl_cons (vv_slot h3) (vl_cons (vv_slot hi) (vl_cons hd vl_nil))) (F.lnet n P M dg hP g (by rw [ld]; show _ ≤ 30; omega))
  refine exs_next (x_setS (made 10 4 g rfl rfl rfl)) ?_
  dsimp only [List.set_cons_succ, List.set_cons_zero]
  have due : ∀ {σ : En} {e : IR} {N : List Nat}, N.length = n → σ[14]? = some .un → σ[3]? = some (.val (.lst (sD P))) → Vv C e σ (.lst (iD N)) → Vv C (.comp (.nm 14) [14] .seq (.cons (.call js (.cons e .nil)) .nil) (.bl true) (.call ja (.cons (.slot 3) (.cons (.slot 14) .nil)))) σ (.lst (splD n P N)) := fun {σ e N} hN h14 h3 he => by
    have := spl_len n N
    have p16 := pow_ok (n := n) (by omega)
    have l14 : 14 < σ.length := (List.getElem?_eq_some_iff.mp h14).1
    exact sq_fr (comp_sm (l := spl n N) (f := fun m => .int (m : Int)) (x := .lst (iD (spl n N))) h14 (v_callF (vl_cons he vl_nil) (F.lspl n N (by omega) hN)) rfl (fun m hm => v_callV (vl_cons (vv_slot (by rw [List.getElem?_set_ne (by decide)]; exact h3)) (vl_cons (vv_slot (by rw [List.getElem?_set_self l14])) vl_nil)) (F.lnam n m P lP (by omega))) (by omega))
  refine exs_next (x_setS (due lM rfl rfl (vv_slot (i := 4) rfl))) ?_
  dsimp only [List.set_cons_succ, List.set_cons_zero]
  have lD : ∀ N : List Nat, (splD n P N).length = (spl n N).length := fun N => by simp [splD]
  have lB : ∀ N : List Nat, (splD n P N).length ≤ 1000000 := fun N => by
    have := spl_len n N
    have p16 := pow_ok (n := n) (by omega)
    rw [lD]
    omega
  have test : ∀ {σ : En} {N N' : List Nat} {i : Nat} {e1 e2 : IR}, N'.length = n → spl n N' = spl n N → σ[i]? = some (.val (.lst (splD n P N))) → Vv C e1 σ (.tup (splD n P N')) → Vv C e2 σ (.bl (decide ((spl n N').length = 0))) → Tp C (.orT (.cons (.notT (.tru (.call je (.cons e1 (.cons (.slot i) .nil))))) (.cons (.notT (.tru (.call jy (.cons e2 (.cons (.cmp .Eq (.blt .len (.cons (.slot i) .nil)) (.int 0)) .nil))))) .nil))) σ (¬ (true = true) ∨ ¬ (true = true)) := fun {σ N N' i e1 e2} hN' hs hi h1 h2 => by
    have eD : splD n P N' = splD n P N := by unfold splD; rw [hs]
    rw [eD] at h1
    rw [hs] at h2
    exact tp_or (tp_not (tp_call (vl_cons h1 (vl_cons (vv_slot hi) vl_nil)) (F.same _ (splD_hT hP) (lB N)))) fun _ => tp_or1 (tp_not (tp_call (vl_cons h2 (vl_cons (v_cmpN (tp_eqN (i := (spl n N).length) (j := 0) (v_lenG (vv_slot hi).w rfl (lD N)).w vw_lit)) vl_nil)) (F.says _)))
  have tests : ∀ {σ : En} {N N' : List Nat} {i j : Nat}, N'.length = n → spl n N' = spl n N → σ[i]? = some (.val (.lst (splD n P N))) → σ[j]? = some (.val (netD 0 P N')) → Tp C (.orT (.cons (.notT (.tru (.call je (.cons (.call jp (.cons (.slot j) .nil)) (.cons (.slot i) .nil))))) (.cons (.notT (.tru (.call jy (.cons (.call jq (.cons (.slot j) .nil)) (.cons (.cmp .Eq (.blt .len (.cons (.slot i) .nil)) (.int 0)) .nil))))) .nil))) σ (¬ (true = true) ∨ ¬ (true = true)) := fun hN' hs hi hj => test hN' hs hi (v_callV (vl_cons (vv_slot hj) vl_nil) (F.spN n P _ (by omega) lP hN')) (v_callV (vl_cons (vv_slot hj) vl_nil) (F.prm n P _ (by omega) hN'))
  refine exs_cons (x_ifp (tests (N := M) (i := 6) (j := 5) lM rfl rfl rfl) (fun h => by simp at h) fun _ => exs_nil ?_)
  obtain ⟨pr, _, _, hpr⟩ := dr (σ := [.val (.rol (jD ns)), .val (.lst (jD hd)), .val (.int (n : Int)), .val (.lst (sD P)), .val (.lst (iD M)), .val (netD 0 P M), .val (.lst (splD n P M)), .un, .un, .un, .un, .un, .un, .un, .un]) 11 (s := .bin .Mult (.lst (.cons (.int 840) .nil)) (.int 4)) (sz := [840, 840, 840, 840]) rfl (by exact rfl) (by decide) (by decide)
  obtain ⟨N, eN, gN, sN⟩ := F.prR n M pr g (by omega)
  refine exs_next (x_setS (v_callV (vl_cons (vv_slot (i := 4) rfl) (vl_cons hpr vl_nil)) eN)) ?_
  dsimp only [List.set_cons_succ, List.set_cons_zero]
  refine exs_next (x_setS (made 12 7 gN rfl rfl rfl)) ?_
  dsimp only [List.set_cons_succ, List.set_cons_zero]
  refine exs_cons (x_ifp (test (N := M) (N' := N) (i := 6) gN.len sN rfl (v_callKV (vl_cons (vv_slot (i := 8) rfl) vl_nil) (F.spN n P N (by omega) lP gN.len)) (v_callKV (vl_cons (vv_slot (i := 8) rfl) vl_nil) (F.prm n P N (by omega) gN.len))) (fun h => by simp at h) fun _ => exs_nil ?_)
  refine exs_via (fun σ => ∃ a b c d e f, σ = [.val (.rol (jD ns)), .val (.lst (jD hd)), .val (.int (n : Int)), .val (.lst (sD P)), .val (.lst (iD M)), .val (netD 0 P M), .val (.lst (splD n P M)), .val (.lst (iD N)), .val (netD 0 P N), a, b, c, d, e, f]) (x_ifp (tp_gtN (i := n) (j := 1) (vv_slot (i := 2) rfl).w vw_lit) (fun h1 => ?_) fun _ => exs_nil ⟨rfl, _, _, _, _, _, _, rfl⟩) ?_
  · obtain ⟨pk, lk, _, hpk⟩ := dr (σ := [.val (.rol (jD ns)), .val (.lst (jD hd)), .val (.int (n : Int)), .val (.lst (sD P)), .val (.lst (iD M)), .val (netD 0 P M), .val (.lst (splD n P M)), .val (.lst (iD N)), .val (netD 0 P N), .un, .un, .un, .un, .un, .un]) 13 (s := .lst (.cons (.int 840) (.cons (.int 840) .nil))) (sz := [840, 840]) rfl (by exact rfl) (by decide) (by decide)
    have lk : pk.length = 2 := lk
    refine exs_next (x_setS hpk) ?_
    dsimp only [List.set_cons_succ, List.set_cons_zero]
    contradiction
    contradiction
    have ha : im (pk.getD 0 0) n < n := im_lt (by omega)
    have hb : im (pk.getD 1 0) (n - 1) < n - 1 := im_lt (by omega)
    obtain ⟨ht, hab⟩ := two_diff h1 ha hb
    generalize im (pk.getD 0 0) n = a at ha hab ht ⊢
    generalize (a + 1 + im (pk.getD 1 0) (n - 1)) % n = b at hab ht ⊢
    have eT := F.turn n a b M g (by omega) ha ht
    rw [if_neg hab] at eT
    have gT := tog_gd g ha ht hab
    refine exs_next (x_setS (due gT.len rfl rfl (v_callF (vl_cons (vv_slot (i := 4) rfl) (vl_cons (vv_slot (i := 10) rfl) (vl_cons (vv_slot (i := 11) rfl) vl_nil))) eT))) ?_
    dsimp only [List.set_cons_succ, List.set_cons_zero]
    refine exs_next (x_setS (vv_meth (cn := 0) (r := .v (netD 0 P (togL M a b))) (vl_cons (vv_slot (i := 5) rfl) (vl_cons (v_ixS (l := P) (vv_slot (i := 3) rfl).w rfl (vv_slot (i := 10) rfl).w (by omega)) (vl_cons (v_ixS (l := P) (vv_slot (i := 3) rfl).w rfl (vv_slot (i := 11) rfl).w (by omega)) vl_nil))) (F.turnN n a b P M hP g ha ht hab))) ?_
    dsimp only [List.set_cons_succ, List.set_cons_zero, Ar.view]
    exact exs_cons (x_ifp (tests (N := togL M a b) (i := 12) (j := 13) gT.len rfl rfl rfl) (fun h => by simp at h) fun _ => exs_nil (exs_nil ⟨rfl, _, _, _, _, _, _, rfl⟩))
  rintro σ ⟨a, b, c, d, e, f, rfl⟩
  refine ret_v (d := .bl true) (vv_and (v_callV (vl_cons (v_callV (vl_cons (vv_slot (i := 5) rfl) vl_nil) (F.spN n P M (by omega) lP lM)) (vl_cons (vv_slot (i := 6) rfl) vl_nil)) (F.same _ (splD_hT hP) (lB M))) (fun _ => vv_and1 (v_callV (vl_cons (vv_slot (i := 5) rfl) (vl_cons (vv_slot (i := 3) rfl) (vl_cons (vv_slot (i := 4) rfl) vl_nil))) (F.isN n P M hP g))) (fun h => nomatch h)) rfl ⟨rfl, rfl⟩
end Nt
namespace LW
open PySem PySem.Spec PyProof.Rows L2 DS
def clsBody : Stmt → List Stmt
  | .ClassDef _ _ _ b _ _ _ _ _ _ _ => b
  | _ => []
def top (i : Nat) : Stmt := PySem.Challenge.pw_tiepress_k52_splits_whole.main.body.getD i (.Pass ⟨0, 0, 0, 0⟩)
def mth (i j : Nat) : Stmt := (clsBody (top i)).getD j (.Pass ⟨0, 0, 0, 0⟩)
def G : List (Str × List Str) :=
  ("low_bit", ["mask"]) ::
  ("is_name", ["text"]) ::
  ("ordered_points", ["points"]) ::
  ("core_of_ties", ["points", "ties"]) ::
  ("core_ties", ["core"]) ::
  ("_law_digits", ["_law_cell_here", "_law_sizes"]) ::
  ("_law_cell", ["_law_script", "_law_k"]) ::
  ("_law_names", ["_law_line", "_law_many"]) ::
  ("_law_pairs", ["_law_many"]) ::
  ("_law_masks", ["_law_row", "_law_many"]) ::
  ("_law_crossed", ["_law_masks_here", "_law_sides", "_law_ends"]) ::
  ("_law_has", ["_law_mask", "_law_k"]) ::
  ("_law_grown", ["_law_begin", "_law_many", "_law_kinds", "_law_others"]) ::
  ("_law_ring", ["_law_many"]) ::
  ("_law_turned", ["_law_masks_here", "_law_one", "_law_two"]) ::
  ("_law_without", ["_law_masks_here", "_law_at"]) ::
  ("_law_press", ["_law_masks_here", "_law_at"]) ::
  ("_law_shuffled", ["_law_things", "_law_row"]) ::
  ("_law_permuted", ["_law_masks_here", "_law_order"]) ::
  ("_law_split_masks_drawn", ["_law_script", "_law_many", "_law_mode"]) ::
  ("_law_ties", ["_law_names_here", "_law_masks_here", "_law_row"]) ::
  ("_law_names_of", ["_law_names_here", "_law_mask"]) ::
  ("_law_subsets", ["_law_many"]) ::
  ("_law_count", ["_law_mask"]) ::
  ("_law_rank", ["_law_rows"]) ::
  ("_law_cut_rank", ["_law_masks_here", "_law_mask"]) ::
  ("_law_split_masks", ["_law_masks_here"]) ::
  ("_law_same_sets", ["_law_told", "_law_due"]) ::
  ("indexes", ["mask"]) ::
  ("Net.names_of", ["self", "mask"]) ::
  ("count_bits", ["mask"]) ::
  ("subsets", ["count"]) ::
  ("reduced_masks", ["masks"]) ::
  ("mask_rank", ["masks"]) ::
  ("far_side", ["core", "mask"]) ::
  ("cut_rows", ["core", "mask"]) ::
  ("core_cut_rank", ["core", "mask"]) ::
  ("core_is_split", ["core", "mask"]) ::
  ("core_splits", ["core"]) ::
  ("splits", ["net"]) ::
  ("_law_says", ["_law_told", "_law_due"]) ::
  ("is_prime", ["net"]) ::
  ("_law_pressed_row", ["_law_masks_here", "_law_row"]) ::
  ("Net.place", ["self", "name"]) ::
  ("_law_net", ["_law_names_here", "_law_masks_here", "_law_digits_here"]) ::
  ("made_net", ["points", "core"]) ::
  ("Net.turned", ["self", "one", "two"]) ::
  ("_law_is_net", ["_law_told", "_law_names_here", "_law_masks_here"]) ::
  ("law", ["_law_script"]) ::
  []
def W : List (Nat × List Str × List Nat) := [(39, ["net"], [0]), (41, ["net"], [0])]
def M : List (Nat × Nat × Str) := [(29, 0, "names_of"), (43, 0, "place"), (46, 0, "turned")]
def CL : List ClE := [⟨"Net", ["points", "core", "ties"], 2, 5⟩]
def T0 : Tab := ⟨G, W, 0, 0, 0, M, CL, [("LETTERS", "abcdefghijklmnopqrstuvwxyz"), ("DIGITS", "0123456789")], [("LONGEST", 8)]⟩
def fuel : Nat := 100000
def flds : Nat → List Str
  | 0 => ["points", "core", "ties"]
  | _ => []
def c0 : Cxt := ⟨fun _ _ => .bad, fuel, flds, fun _ _ => .bad⟩
/-- low_bit(mask): slots 0:mask -/
def d0 : Df := ⟨1, 1, (.cons (.ret (.bin .BitAnd (.slot 0) (.un .USub (.slot 0)))) .nil)⟩
def f0 : List D → Out Ar := run c0 d0
def c1 : Cxt := c0.ext 0 f0
abbrev st0 : Stmt := top 9
def N0 : List Str := ["mask"]
theorem sc0 : FnScope N0 ["mask"] (defScope st0) := ⟨rfl, rfl, rfl, by decide +kernel, by decide +kernel, by decide +kernel, by decide +kernel⟩
theorem ck0 : okSs (T0.upTo 0 0) ⟨N0, (defScope st0).names, (defScope st0).names⟩ d0.body (defBody st0) = true := by decide +kernel
/-- is_name(text): slots 0:text 1:char -/
def d1 : Df := ⟨2, 1, (.cons (.ife (.orT (.cons (.cmpT .Lt (.blt .len (.cons (.slot 0) .nil)) (.int 1)) (.cons (.cmpT .Gt (.blt .len (.cons (.slot 0) .nil)) (.int 8)) (.cons (.cmpT .NotIn (.ix (.slot 0) (.int 0)) (.str "abcdefghijklmnopqrstuvwxyz")) .nil)))) (.cons (.ret (.bl false)) .nil) .nil) (.cons (.for_ (.nm 1) .chars (.cons (.slot 0) .nil) (.cons (.ife (.andT (.cons (.cmpT .NotIn (.slot 1) (.str "abcdefghijklmnopqrstuvwxyz")) (.cons (.cmpT .NotIn (.slot 1) (.str "0123456789")) .nil))) (.cons (.ret (.bl false)) .nil) .nil) .nil)) (.cons (.ret (.bl true)) .nil)))⟩
def f1 : List D → Out Ar := run c1 d1
def c2 : Cxt := c1.ext 1 f1
abbrev st1 : Stmt := top 32
def N1 : List Str := ["text", "char"]
theorem sc1 : FnScope N1 ["text"] (defScope st1) := ⟨rfl, rfl, rfl, by decide +kernel, by decide +kernel, by decide +kernel, by decide +kernel⟩
theorem ck1 : okSs (T0.upTo 1 0) ⟨N1, (defScope st1).names, (defScope st1).names⟩ d1.body (defBody st1) = true := by decide +kernel
/-- ordered_points(points): slots 0:points 1:known 2:name -/
def d2 : Df := ⟨3, 1, (.cons (.newDic 1) (.cons (.for_ (.nm 2) .seq (.cons (.slot 0) .nil) (.cons (.ife (.notT (.tru (.call 1 (.cons (.slot 2) .nil)))) (.cons .dead .nil) .nil) (.cons (.ife (.inDicT false (.slot 2) 1) (.cons .dead .nil) .nil) (.cons (.setDic 1 (.slot 2) (.bl true)) .nil)))) (.cons (.ret (.blt .tuple (.cons (.op .sortS (.cons (.listDic 1) .nil)) .nil))) .nil)))⟩
def f2 : List D → Out Ar := run c2 d2
def c3 : Cxt := c2.ext 2 f2
abbrev st2 : Stmt := top 34
def N2 : List Str := ["points", "known", "name"]
theorem sc2 : FnScope N2 ["points"] (defScope st2) := ⟨rfl, rfl, rfl, by decide +kernel, by decide +kernel, by decide +kernel, by decide +kernel⟩
theorem ck2 : okSs (T0.upTo 2 0) ⟨N2, (defScope st2).names, (defScope st2).names⟩ d2.body (defBody st2) = true := by decide +kernel
/-- core_of_ties(points, ties): slots 0:points 1:ties 2:core 3:one 4:two 5:first 6:second 7:name -/
def d3 : Df := ⟨8, 2, (.cons (.set 2 (.comp (.nm 7) [7] .seq (.cons (.slot 0) .nil) (.bl true) (.int 0))) (.cons (.for_ (.tp [3, 4]) .seq (.cons (.slot 1) .nil) (.cons (.ife (.cmpT .NotIn (.slot 3) (.slot 0)) (.cons .dead .nil) .nil) (.cons (.ife (.cmpT .NotIn (.slot 4) (.slot 0)) (.cons .dead .nil) .nil) (.cons (.ife (.cmpT .Eq (.slot 3) (.slot 4)) (.cons .dead .nil) .nil) (.cons (.setS 5 (.op (.index true) (.cons (.slot 0) (.cons (.slot 3) .nil)))) (.cons (.setS 6 (.op (.index true) (.cons (.slot 0) (.cons (.slot 4) .nil)))) (.cons (.setIx 2 (.slot 5) (.bin .BitOr (.ix (.bor 2) (.slot 5)) (.bin .LShift (.int 1) (.slot 6)))) (.cons (.setIx 2 (.slot 6) (.bin .BitOr (.ix (.bor 2) (.slot 6)) (.bin .LShift (.int 1) (.slot 5)))) .nil)))))))) (.cons (.ret (.blt .tuple (.cons (.slot 2) .nil))) .nil)))⟩
def f3 : List D → Out Ar := run c3 d3
def c4 : Cxt := c3.ext 3 f3
abbrev st3 : Stmt := top 35
def N3 : List Str := ["points", "ties", "core", "one", "two", "first", "second", "name"]
theorem sc3 : FnScope N3 ["points", "ties"] (defScope st3) := ⟨rfl, rfl, rfl, by decide +kernel, by decide +kernel, by decide +kernel, by decide +kernel⟩
theorem ck3 : okSs (T0.upTo 3 0) ⟨N3, (defScope st3).names, (defScope st3).names⟩ d3.body (defBody st3) = true := by decide +kernel
/-- core_ties(core): slots 0:core 1:found 2:i 3:mask 4:k -/
def d4 : Df := ⟨5, 1, (.cons (.set 1 (.lst .nil)) (.cons (.for_ (.tp [2, 3]) .enum (.cons (.slot 0) .nil) (.cons (.for_ (.nm 4) .range2 (.cons (.bin .Add (.slot 2) (.int 1)) (.cons (.blt .len (.cons (.slot 0) .nil)) .nil)) (.cons (.ife (.cmpT .Eq (.bin .BitAnd (.bin .RShift (.slot 3) (.slot 4)) (.int 1)) (.int 1)) (.cons (.app 1 (.tup (.cons (.slot 2) (.cons (.slot 4) .nil)))) .nil) .nil) .nil)) .nil)) (.cons (.ret (.blt .tuple (.cons (.slot 1) .nil))) .nil)))⟩
def f4 : List D → Out Ar := run c4 d4
def c5 : Cxt := c4.ext 4 f4
abbrev st4 : Stmt := top 7
def N4 : List Str := ["core", "found", "i", "mask", "k"]
theorem sc4 : FnScope N4 ["core"] (defScope st4) := ⟨rfl, rfl, rfl, by decide +kernel, by decide +kernel, by decide +kernel, by decide +kernel⟩
theorem ck4 : okSs (T0.upTo 4 0) ⟨N4, (defScope st4).names, (defScope st4).names⟩ d4.body (defBody st4) = true := by decide +kernel
/-- Net.__init__(self, points, ties): slots 0:self 1:points 2:ties 3:i 4:k -/
def dI0 : Df := ⟨5, 3, (.cons (.setF 0 0 "points" (.call 2 (.cons (.slot 1) .nil))) (.cons (.setF 0 0 "core" (.call 3 (.cons (.selfF 0 0 "points") (.cons (.slot 2) .nil)))) (.cons (.setF 0 0 "ties" (.blt .tuple (.cons (.comp (.tp [3, 4]) [3, 4] .seq (.cons (.call 4 (.cons (.selfF 0 0 "core") .nil)) .nil) (.bl true) (.tup (.cons (.ix (.selfF 0 0 "points") (.slot 3)) (.cons (.ix (.selfF 0 0 "points") (.slot 4)) .nil)))) .nil))) .nil)))⟩
def fI0 : List D → Out Ar := runI c5 0 dI0
def c6 : Cxt := c5.extC 0 fI0
abbrev stI0 : Stmt := mth 37 0
def NI0 : List Str := ["self", "points", "ties", "i", "k"]
theorem scI0 : FnScope NI0 ["self", "points", "ties"] (defScope stI0) := ⟨rfl, rfl, rfl, by decide +kernel, by decide +kernel, by decide +kernel, by decide +kernel⟩
theorem ckI0 : okSs (T0.upTo 5 0) ⟨NI0, (defScope stI0).names, (defScope stI0).names⟩ dI0.body (defBody stI0) = true := by decide +kernel
/-- _law_digits(_law_cell_here, _law_sizes): slots 0:_law_cell_here 1:_law_sizes 2:_law_row 3:_law_rest 4:_law_seed 5:_law_k 6:_law_size 7:_law_twice -/
def d5 : Df := ⟨8, 2, (.cons (.set 2 (.lst .nil)) (.cons (.setS 3 (.blt .int (.cons (.slot 0) .nil))) (.cons (.ife (.cmpT .GtE (.slot 3) (.bin .Pow (.int 10) (.int 18))) (.cons (.setS 3 (.bin .Sub (.slot 3) (.bin .Pow (.int 10) (.int 18)))) (.cons (.for_ (.nm 6) .seq (.cons (.slot 1) .nil) (.cons (.app 2 (.bin .Mod (.blt .int (.cons (.slot 3) .nil)) (.slot 6))) (.cons (.setS 3 (.bin .FloorDiv (.blt .int (.cons (.slot 3) .nil)) (.slot 6))) .nil))) (.cons (.ret (.move 2)) .nil))) .nil) (.cons (.setS 4 (.bin .Mod (.blt .int (.cons (.slot 3) .nil)) (.int 2147483629))) (.cons (.for_ (.nm 5) .range1 (.cons (.blt .len (.cons (.slot 1) .nil)) .nil) (.cons (.setS 4 (.bin .Mod (.blt .int (.cons (.bin .Add (.bin .Add (.bin .Mult (.slot 4) (.int 48271)) (.bin .Mult (.int 974711) (.slot 5))) (.int 12345)) .nil)) (.int 2147483647))) (.cons (.setS 7 (.bin .Mod (.blt .int (.cons (.bin .Mult (.slot 4) (.bin .Add (.bin .FloorDiv (.slot 4) (.int 65537)) (.int 3))) .nil)) (.int 2147483629))) (.cons (.app 2 (.bin .Mod (.bin .FloorDiv (.slot 7) (.int 19)) (.ix (.slot 1) (.slot 5)))) .nil)))) (.cons (.ret (.move 2)) .nil))))))⟩
def f5 : List D → Out Ar := run c6 d5
def c7 : Cxt := c6.ext 5 f5
abbrev st5 : Stmt := top 40
def N5 : List Str := ["_law_cell_here", "_law_sizes", "_law_row", "_law_rest", "_law_seed", "_law_k", "_law_size", "_law_twice"]
theorem sc5 : FnScope N5 ["_law_cell_here", "_law_sizes"] (defScope st5) := ⟨rfl, rfl, rfl, by decide +kernel, by decide +kernel, by decide +kernel, by decide +kernel⟩
theorem ck5 : okSs (T0.upTo 5 1) ⟨N5, (defScope st5).names, (defScope st5).names⟩ d5.body (defBody st5) = true := by decide +kernel
/-- _law_cell(_law_script, _law_k): slots 0:_law_script 1:_law_k 2:_law_seed 3:_law_cell_here -/
def d6 : Df := ⟨4, 2, (.cons (.ife (.cmpT .Lt (.slot 1) (.blt .len (.cons (.slot 0) .nil))) (.cons (.ret (.ix (.slot 0) (.slot 1))) .nil) .nil) (.cons (.setS 2 (.int 17)) (.cons (.for_ (.nm 3) .seq (.cons (.slot 0) .nil) (.cons (.setS 2 (.bin .Mod (.blt .int (.cons (.bin .Add (.bin .Mult (.slot 2) (.int 31)) (.bin .Mod (.blt .int (.cons (.slot 3) .nil)) (.int 1000003))) .nil)) (.int 1000003))) .nil)) (.cons (.ret (.bin .Mod (.blt .int (.cons (.bin .Mult (.bin .Mult (.bin .Add (.slot 2) (.int 7)) (.bin .Add (.slot 1) (.int 3))) (.int 69621)) .nil)) (.int 2147483647))) .nil))))⟩
def f6 : List D → Out Ar := run c7 d6
def c8 : Cxt := c7.ext 6 f6
abbrev st6 : Stmt := top 39
def N6 : List Str := ["_law_script", "_law_k", "_law_seed", "_law_cell_here"]
theorem sc6 : FnScope N6 ["_law_script", "_law_k"] (defScope st6) := ⟨rfl, rfl, rfl, by decide +kernel, by decide +kernel, by decide +kernel, by decide +kernel⟩
theorem ck6 : okSs (T0.upTo 6 1) ⟨N6, (defScope st6).names, (defScope st6).names⟩ d6.body (defBody st6) = true := by decide +kernel
/-- _law_names(_law_line, _law_many): slots 0:_law_line 1:_law_many 2:_law_menu 3:_law_names_here 4:_law_k 5:_law_rest 6:_law_text 7:_law_tail 8:_law_turn 9:_law_name -/
def d7 : Df := ⟨10, 2, (.cons (.setS 2 (.lst (.cons (.str "a") (.cons (.str "b") (.cons (.str "c") (.cons (.str "d") (.cons (.str "ab") (.cons (.str "a1") (.cons (.str "x") (.cons (.str "xy") (.cons (.str "z") (.cons (.str "m0") (.cons (.str "q7") (.cons (.str "p") (.cons (.str "b2c") (.cons (.str "zz9") (.cons (.str "k") (.cons (.str "longname") (.cons (.str "e") (.cons (.str "f") (.cons (.str "h") .nil))))))))))))))))))))) (.cons (.setS 2 (.bin .Add (.slot 2) (.lst (.cons (.str "press") (.cons (.str "leave") (.cons (.str "loose") (.cons (.str "leaf") (.cons (.str "twin") .nil)))))))) (.cons (.set 3 (.lst .nil)) (.cons (.for_ (.nm 4) .range1 (.cons (.slot 1) .nil) (.cons (.setS 5 (.bin .FloorDiv (.blt .int (.cons (.ix (.slot 0) (.slot 4)) .nil)) (.int 3))) (.cons (.setS 6 (.ix (.slot 2) (.bin .Mod (.blt .int (.cons (.slot 5) .nil)) (.int 24)))) (.cons (.ife (.cmpT .Eq (.bin .Mod (.blt .int (.cons (.ix (.slot 0) (.int 0)) .nil)) (.int 3)) (.int 1)) (.cons (.setS 6 (.bin .Add (.ix (.str "ab") (.bin .Mod (.blt .int (.cons (.slot 5) .nil)) (.int 2))) (.ix (.lst (.cons (.str "1") (.cons (.str "2") (.cons (.str "3") (.cons (.str "9") (.cons (.str "10") (.cons (.str "11") (.cons (.str "12") (.cons (.str "20") (.cons (.str "100") (.cons (.str "101") .nil))))))))))) (.bin .Mod (.bin .FloorDiv (.blt .int (.cons (.slot 5) .nil)) (.int 2)) (.int 10))))) .nil) .nil) (.cons (.ife (.cmpT .Eq (.bin .Mod (.blt .int (.cons (.ix (.slot 0) (.int 0)) .nil)) (.int 3)) (.int 2)) (.cons (.setS 6 (.ix (.str "abcdefghijklmnopqrstuvwxyz") (.bin .Mod (.bin .FloorDiv (.blt .int (.cons (.slot 5) .nil)) (.int 8)) (.int 26)))) (.cons (.setS 7 (.bin .FloorDiv (.blt .int (.cons (.slot 5) .nil)) (.int 208))) (.cons (.for_ (.nm 8) .range1 (.cons (.bin .Mod (.blt .int (.cons (.slot 5) .nil)) (.int 8)) .nil) (.cons (.setS 6 (.bin .Add (.slot 6) (.ix (.str "abcdefghijklmnopqrstuvwxyz0123456789") (.bin .Mod (.blt .int (.cons (.slot 7) .nil)) (.int 36))))) (.cons (.setS 7 (.bin .FloorDiv (.blt .int (.cons (.slot 7) .nil)) (.int 36))) .nil))) .nil))) .nil) (.cons (.app 3 (.ix (.comp (.nm 9) [9] .seq (.cons (.bin .Add (.lst (.cons (.slot 6) .nil)) (.slot 2)) .nil) (.cmpT .NotIn (.slot 9) (.bor 3)) (.slot 9)) (.int 0))) .nil)))))) (.cons (.ret (.op .sortS (.cons (.slot 3) .nil))) .nil)))))⟩
def f7 : List D → Out Ar := run c8 d7
def c9 : Cxt := c8.ext 7 f7
abbrev st7 : Stmt := top 41
def N7 : List Str := ["_law_line", "_law_many", "_law_menu", "_law_names_here", "_law_k", "_law_rest", "_law_text", "_law_tail", "_law_turn", "_law_name"]
theorem sc7 : FnScope N7 ["_law_line", "_law_many"] (defScope st7) := ⟨rfl, rfl, rfl, by decide +kernel, by decide +kernel, by decide +kernel, by decide +kernel⟩
theorem ck7 : okSs (T0.upTo 7 1) ⟨N7, (defScope st7).names, (defScope st7).names⟩ d7.body (defBody st7) = true := by decide +kernel
/-- _law_pairs(_law_many): slots 0:_law_many 1:_law_pairs_here 2:_law_i 3:_law_k -/
def d8 : Df := ⟨4, 1, (.cons (.set 1 (.lst .nil)) (.cons (.for_ (.nm 2) .range1 (.cons (.slot 0) .nil) (.cons (.for_ (.nm 3) .range2 (.cons (.bin .Add (.slot 2) (.int 1)) (.cons (.slot 0) .nil)) (.cons (.app 1 (.tup (.cons (.slot 2) (.cons (.slot 3) .nil)))) .nil)) .nil)) (.cons (.ret (.move 1)) .nil)))⟩
def f8 : List D → Out Ar := run c9 d8
def c10 : Cxt := c9.ext 8 f8
abbrev st8 : Stmt := top 42
def N8 : List Str := ["_law_many", "_law_pairs_here", "_law_i", "_law_k"]
theorem sc8 : FnScope N8 ["_law_many"] (defScope st8) := ⟨rfl, rfl, rfl, by decide +kernel, by decide +kernel, by decide +kernel, by decide +kernel⟩
theorem ck8 : okSs (T0.upTo 8 1) ⟨N8, (defScope st8).names, (defScope st8).names⟩ d8.body (defBody st8) = true := by decide +kernel
/-- _law_masks(_law_row, _law_many): slots 0:_law_row 1:_law_many 2:_law_masks_here 3:_law_at 4:_law_level 5:_law_pair 6:_law_k -/
def d9 : Df := ⟨7, 2, (.cons (.set 2 (.comp (.nm 6) [6] .range1 (.cons (.slot 1) .nil) (.bl true) (.int 0))) (.cons (.setS 3 (.int 1)) (.cons (.setS 4 (.ix (.lst (.cons (.int 2) (.cons (.int 2) (.cons (.int 1) (.cons (.int 2) (.cons (.int 3) (.cons (.int 2) (.cons (.int 1) (.cons (.int 2) (.cons (.int 3) (.cons (.int 2) (.cons (.int 4) (.cons (.int 2) .nil))))))))))))) (.blt .int (.cons (.ix (.slot 0) (.int 0)) .nil)))) (.cons (.for_ (.nm 5) .seq (.cons (.call 8 (.cons (.slot 1) .nil)) .nil) (.cons (.ife (.cmpT .Lt (.blt .int (.cons (.ix (.slot 0) (.slot 3)) .nil)) (.slot 4)) (.cons (.setIx 2 (.ix (.slot 5) (.int 0)) (.bin .Add (.ix (.bor 2) (.ix (.slot 5) (.int 0))) (.bin .LShift (.int 1) (.ix (.slot 5) (.int 1))))) (.cons (.setIx 2 (.ix (.slot 5) (.int 1)) (.bin .Add (.ix (.bor 2) (.ix (.slot 5) (.int 1))) (.bin .LShift (.int 1) (.ix (.slot 5) (.int 0))))) .nil)) .nil) (.cons (.setS 3 (.bin .Add (.slot 3) (.int 1))) .nil))) (.cons (.ret (.move 2)) .nil)))))⟩
def f9 : List D → Out Ar := run c10 d9
def c11 : Cxt := c10.ext 9 f9
abbrev st9 : Stmt := top 43
def N9 : List Str := ["_law_row", "_law_many", "_law_masks_here", "_law_at", "_law_level", "_law_pair", "_law_k"]
theorem sc9 : FnScope N9 ["_law_row", "_law_many"] (defScope st9) := ⟨rfl, rfl, rfl, by decide +kernel, by decide +kernel, by decide +kernel, by decide +kernel⟩
theorem ck9 : okSs (T0.upTo 9 1) ⟨N9, (defScope st9).names, (defScope st9).names⟩ d9.body (defBody st9) = true := by decide +kernel
/-- _law_crossed(_law_masks_here, _law_sides, _law_ends): slots 0:_law_masks_here 1:_law_sides 2:_law_ends 3:_law_after 4:_law_i 5:_law_mask 6:_law_k -/
def d10 : Df := ⟨7, 3, (.cons (.set 3 (.lst .nil)) (.cons (.for_ (.nm 4) .range1 (.cons (.blt .len (.cons (.slot 0) .nil)) .nil) (.cons (.setS 5 (.int 0)) (.cons (.for_ (.nm 6) .range1 (.cons (.blt .len (.cons (.slot 0) .nil)) .nil) (.cons (.ife (.cmpT .Eq (.ix (.slot 1) (.slot 4)) (.ix (.slot 1) (.slot 6))) (.cons (.setS 5 (.bin .BitOr (.slot 5) (.bin .BitAnd (.ix (.slot 0) (.slot 4)) (.bin .LShift (.int 1) (.slot 6))))) .nil) (.cons (.ife (.andT (.cons (.cmpT .Gt (.ix (.slot 2) (.slot 4)) (.int 0)) (.cons (.cmpT .Gt (.ix (.slot 2) (.slot 6)) (.int 0)) .nil))) (.cons (.setS 5 (.bin .BitOr (.slot 5) (.bin .LShift (.int 1) (.slot 6)))) .nil) .nil) .nil)) .nil)) (.cons (.app 3 (.slot 5)) .nil)))) (.cons (.ret (.move 3)) .nil)))⟩
def f10 : List D → Out Ar := run c11 d10
def c12 : Cxt := c11.ext 10 f10
abbrev st10 : Stmt := top 60
def N10 : List Str := ["_law_masks_here", "_law_sides", "_law_ends", "_law_after", "_law_i", "_law_mask", "_law_k"]
theorem sc10 : FnScope N10 ["_law_masks_here", "_law_sides", "_law_ends"] (defScope st10) := ⟨rfl, rfl, rfl, by decide +kernel, by decide +kernel, by decide +kernel, by decide +kernel⟩
theorem ck10 : okSs (T0.upTo 10 1) ⟨N10, (defScope st10).names, (defScope st10).names⟩ d10.body (defBody st10) = true := by decide +kernel
/-- _law_has(_law_mask, _law_k): slots 0:_law_mask 1:_law_k -/
def d11 : Df := ⟨2, 2, (.cons (.ret (.cmp .Eq (.bin .BitAnd (.bin .RShift (.slot 0) (.slot 1)) (.int 1)) (.int 1))) .nil)⟩
def f11 : List D → Out Ar := run c12 d11
def c13 : Cxt := c12.ext 11 f11
abbrev st11 : Stmt := top 44
def N11 : List Str := ["_law_mask", "_law_k"]
theorem sc11 : FnScope N11 ["_law_mask", "_law_k"] (defScope st11) := ⟨rfl, rfl, rfl, by decide +kernel, by decide +kernel, by decide +kernel, by decide +kernel⟩
theorem ck11 : okSs (T0.upTo 11 1) ⟨N11, (defScope st11).names, (defScope st11).names⟩ d11.body (defBody st11) = true := by decide +kernel
/-- _law_grown(_law_begin, _law_many, _law_kinds, _law_others): slots 0:_law_begin 1:_law_many 2:_law_kinds 3:_law_others 4:_law_masks_here 5:_law_at 6:_law_fresh 7:_law_k 8:_law_other -/
def d12 : Df := ⟨9, 4, (.cons (.set 4 (.blt .list (.cons (.slot 0) .nil))) (.cons (.for_ (.nm 5) .range2 (.cons (.blt .len (.cons (.slot 0) .nil)) (.cons (.slot 1) .nil)) (.cons (.setS 6 (.int 0)) (.cons (.ife (.andT (.cons (.cmpT .Gt (.slot 5) (.int 0)) (.cons (.cmpT .Gt (.ix (.slot 2) (.slot 5)) (.int 0)) .nil))) (.cons (.setS 8 (.bin .Mod (.blt .int (.cons (.ix (.slot 3) (.slot 5)) .nil)) (.slot 5))) (.cons (.setS 6 (.bin .LShift (.int 1) (.slot 8))) (.cons (.ife (.cmpT .Gt (.ix (.slot 2) (.slot 5)) (.int 3)) (.cons (.setS 6 (.bin .BitOr (.ix (.bor 4) (.slot 8)) (.bin .LShift (.bin .Mod (.blt .int (.cons (.ix (.slot 2) (.slot 5)) .nil)) (.int 2)) (.slot 8)))) .nil) .nil) .nil))) .nil) (.cons (.for_ (.nm 7) .range1 (.cons (.slot 5) .nil) (.cons (.ife (.tru (.call 11 (.cons (.slot 6) (.cons (.slot 7) .nil)))) (.cons (.setIx 4 (.slot 7) (.bin .BitOr (.ix (.bor 4) (.slot 7)) (.bin .LShift (.int 1) (.slot 5)))) .nil) .nil) .nil)) (.cons (.app 4 (.slot 6)) .nil))))) (.cons (.ret (.move 4)) .nil)))⟩
def f12 : List D → Out Ar := run c13 d12
def c14 : Cxt := c13.ext 12 f12
abbrev st12 : Stmt := top 55
def N12 : List Str := ["_law_begin", "_law_many", "_law_kinds", "_law_others", "_law_masks_here", "_law_at", "_law_fresh", "_law_k", "_law_other"]
theorem sc12 : FnScope N12 ["_law_begin", "_law_many", "_law_kinds", "_law_others"] (defScope st12) := ⟨rfl, rfl, rfl, by decide +kernel, by decide +kernel, by decide +kernel, by decide +kernel⟩
theorem ck12 : okSs (T0.upTo 12 1) ⟨N12, (defScope st12).names, (defScope st12).names⟩ d12.body (defBody st12) = true := by decide +kernel
/-- _law_ring(_law_many): slots 0:_law_many 1:_law_masks_here 2:_law_k 3:_law_other -/
def d13 : Df := ⟨4, 1, (.cons (.set 1 (.comp (.nm 2) [2] .range1 (.cons (.slot 0) .nil) (.bl true) (.int 0))) (.cons (.for_ (.nm 2) .range1 (.cons (.slot 0) .nil) (.cons (.setS 3 (.bin .Mod (.blt .int (.cons (.bin .Add (.slot 2) (.int 1)) .nil)) (.slot 0))) (.cons (.ife (.cmpT .NotEq (.slot 3) (.slot 2)) (.cons (.setIx 1 (.slot 2) (.bin .BitOr (.ix (.bor 1) (.slot 2)) (.bin .LShift (.int 1) (.slot 3)))) (.cons (.setIx 1 (.slot 3) (.bin .BitOr (.ix (.bor 1) (.slot 3)) (.bin .LShift (.int 1) (.slot 2)))) .nil)) .nil) .nil))) (.cons (.ret (.move 1)) .nil)))⟩
def f13 : List D → Out Ar := run c14 d13
def c15 : Cxt := c14.ext 13 f13
abbrev st13 : Stmt := top 59
def N13 : List Str := ["_law_many", "_law_masks_here", "_law_k", "_law_other"]
theorem sc13 : FnScope N13 ["_law_many"] (defScope st13) := ⟨rfl, rfl, rfl, by decide +kernel, by decide +kernel, by decide +kernel, by decide +kernel⟩
theorem ck13 : okSs (T0.upTo 13 1) ⟨N13, (defScope st13).names, (defScope st13).names⟩ d13.body (defBody st13) = true := by decide +kernel
/-- _law_turned(_law_masks_here, _law_one, _law_two): slots 0:_law_masks_here 1:_law_one 2:_law_two 3:_law_after -/
def d14 : Df := ⟨4, 3, (.cons (.set 3 (.blt .list (.cons (.slot 0) .nil))) (.cons (.ife (.cmpT .NotEq (.slot 1) (.slot 2)) (.cons (.setIx 3 (.slot 1) (.bin .BitXor (.ix (.bor 3) (.slot 1)) (.bin .LShift (.int 1) (.slot 2)))) (.cons (.setIx 3 (.slot 2) (.bin .BitXor (.ix (.bor 3) (.slot 2)) (.bin .LShift (.int 1) (.slot 1)))) .nil)) .nil) (.cons (.ret (.move 3)) .nil)))⟩
def f14 : List D → Out Ar := run c15 d14
def c16 : Cxt := c15.ext 14 f14
abbrev st14 : Stmt := top 56
def N14 : List Str := ["_law_masks_here", "_law_one", "_law_two", "_law_after"]
theorem sc14 : FnScope N14 ["_law_masks_here", "_law_one", "_law_two"] (defScope st14) := ⟨rfl, rfl, rfl, by decide +kernel, by decide +kernel, by decide +kernel, by decide +kernel⟩
theorem ck14 : okSs (T0.upTo 14 1) ⟨N14, (defScope st14).names, (defScope st14).names⟩ d14.body (defBody st14) = true := by decide +kernel
/-- _law_without(_law_masks_here, _law_at): slots 0:_law_masks_here 1:_law_at 2:_law_after 3:_law_i 4:_law_low -/
def d15 : Df := ⟨5, 2, (.cons (.set 2 (.lst .nil)) (.cons (.for_ (.nm 3) .range1 (.cons (.blt .len (.cons (.slot 0) .nil)) .nil) (.cons (.ife (.cmpT .NotEq (.slot 3) (.slot 1)) (.cons (.setS 4 (.bin .BitAnd (.ix (.slot 0) (.slot 3)) (.bin .Sub (.bin .LShift (.int 1) (.slot 1)) (.int 1)))) (.cons (.app 2 (.bin .BitOr (.slot 4) (.bin .LShift (.bin .RShift (.ix (.slot 0) (.slot 3)) (.bin .Add (.slot 1) (.int 1))) (.slot 1)))) .nil)) .nil) .nil)) (.cons (.ret (.move 2)) .nil)))⟩
def f15 : List D → Out Ar := run c16 d15
def c17 : Cxt := c16.ext 15 f15
abbrev st15 : Stmt := top 48
def N15 : List Str := ["_law_masks_here", "_law_at", "_law_after", "_law_i", "_law_low"]
theorem sc15 : FnScope N15 ["_law_masks_here", "_law_at"] (defScope st15) := ⟨rfl, rfl, rfl, by decide +kernel, by decide +kernel, by decide +kernel, by decide +kernel⟩
theorem ck15 : okSs (T0.upTo 15 1) ⟨N15, (defScope st15).names, (defScope st15).names⟩ d15.body (defBody st15) = true := by decide +kernel
/-- _law_press(_law_masks_here, _law_at): slots 0:_law_masks_here 1:_law_at 2:_law_after 3:_law_i 4:_law_k -/
def d16 : Df := ⟨5, 2, (.cons (.set 2 (.blt .list (.cons (.slot 0) .nil))) (.cons (.for_ (.nm 3) .range1 (.cons (.blt .len (.cons (.slot 0) .nil)) .nil) (.cons (.for_ (.nm 4) .range1 (.cons (.blt .len (.cons (.slot 0) .nil)) .nil) (.cons (.ife (.andT (.cons (.cmpT .NotEq (.slot 3) (.slot 4)) (.cons (.tru (.call 11 (.cons (.ix (.slot 0) (.slot 1)) (.cons (.slot 3) .nil)))) (.cons (.tru (.call 11 (.cons (.ix (.slot 0) (.slot 1)) (.cons (.slot 4) .nil)))) .nil)))) (.cons (.setIx 2 (.slot 3) (.bin .BitXor (.ix (.bor 2) (.slot 3)) (.bin .LShift (.int 1) (.slot 4)))) .nil) .nil) .nil)) .nil)) (.cons (.ret (.move 2)) .nil)))⟩
def f16 : List D → Out Ar := run c17 d16
def c18 : Cxt := c17.ext 16 f16
abbrev st16 : Stmt := top 47
def N16 : List Str := ["_law_masks_here", "_law_at", "_law_after", "_law_i", "_law_k"]
theorem sc16 : FnScope N16 ["_law_masks_here", "_law_at"] (defScope st16) := ⟨rfl, rfl, rfl, by decide +kernel, by decide +kernel, by decide +kernel, by decide +kernel⟩
theorem ck16 : okSs (T0.upTo 16 1) ⟨N16, (defScope st16).names, (defScope st16).names⟩ d16.body (defBody st16) = true := by decide +kernel
/-- _law_shuffled(_law_things, _law_row): slots 0:_law_things 1:_law_row 2:_law_rest 3:_law_after 4:_law_k 5:_law_at -/
def d17 : Df := ⟨6, 2, (.cons (.setS 2 (.blt .list (.cons (.slot 0) .nil))) (.cons (.set 3 (.lst .nil)) (.cons (.for_ (.nm 4) .range1 (.cons (.blt .len (.cons (.slot 0) .nil)) .nil) (.cons (.setS 5 (.bin .Mod (.blt .int (.cons (.ix (.slot 1) (.slot 4)) .nil)) (.blt .len (.cons (.slot 2) .nil)))) (.cons (.app 3 (.ix (.slot 2) (.slot 5))) (.cons (.setS 2 (.bin .Add (.slice (.slot 2) .non (.slot 5)) (.slice (.slot 2) (.bin .Add (.slot 5) (.int 1)) .non))) .nil)))) (.cons (.ret (.move 3)) .nil))))⟩
def f17 : List D → Out Ar := run c18 d17
def c19 : Cxt := c18.ext 17 f17
abbrev st17 : Stmt := top 53
def N17 : List Str := ["_law_things", "_law_row", "_law_rest", "_law_after", "_law_k", "_law_at"]
theorem sc17 : FnScope N17 ["_law_things", "_law_row"] (defScope st17) := ⟨rfl, rfl, rfl, by decide +kernel, by decide +kernel, by decide +kernel, by decide +kernel⟩
theorem ck17 : okSs (T0.upTo 17 1) ⟨N17, (defScope st17).names, (defScope st17).names⟩ d17.body (defBody st17) = true := by decide +kernel
/-- _law_permuted(_law_masks_here, _law_order): slots 0:_law_masks_here 1:_law_order 2:_law_after 3:_law_i 4:_law_mask 5:_law_k -/
def d18 : Df := ⟨6, 2, (.cons (.set 2 (.lst .nil)) (.cons (.for_ (.nm 3) .seq (.cons (.slot 1) .nil) (.cons (.setS 4 (.int 0)) (.cons (.for_ (.nm 5) .range1 (.cons (.blt .len (.cons (.slot 1) .nil)) .nil) (.cons (.ife (.tru (.call 11 (.cons (.ix (.slot 0) (.slot 3)) (.cons (.ix (.slot 1) (.slot 5)) .nil)))) (.cons (.setS 4 (.bin .BitOr (.slot 4) (.bin .LShift (.int 1) (.slot 5)))) .nil) .nil) .nil)) (.cons (.app 2 (.slot 4)) .nil)))) (.cons (.ret (.move 2)) .nil)))⟩
def f18 : List D → Out Ar := run c19 d18
def c20 : Cxt := c19.ext 18 f18
abbrev st18 : Stmt := top 54
def N18 : List Str := ["_law_masks_here", "_law_order", "_law_after", "_law_i", "_law_mask", "_law_k"]
theorem sc18 : FnScope N18 ["_law_masks_here", "_law_order"] (defScope st18) := ⟨rfl, rfl, rfl, by decide +kernel, by decide +kernel, by decide +kernel, by decide +kernel⟩
theorem ck18 : okSs (T0.upTo 18 1) ⟨N18, (defScope st18).names, (defScope st18).names⟩ d18.body (defBody st18) = true := by decide +kernel
/-- _law_split_masks_drawn(_law_script, _law_many, _law_mode): slots 0:_law_script 1:_law_many 2:_law_mode 3:_law_kinds 4:_law_more 5:_law_masks_here 6:_law_digit 7:_law_order 8:_law_k -/
def d19 : Df := ⟨9, 3, (.cons (.setS 3 (.call 5 (.cons (.call 6 (.cons (.slot 0) (.cons (.int 2) .nil))) (.cons (.bin .Mult (.lst (.cons (.int 9) .nil)) (.int 8)) .nil)))) (.cons (.setS 4 (.call 5 (.cons (.call 6 (.cons (.slot 0) (.cons (.int 7) .nil))) (.cons (.bin .Add (.bin .Mult (.lst (.cons (.int 3) .nil)) (.int 8)) (.lst (.cons (.int 2) (.cons (.int 840) (.cons (.int 840) .nil))))) .nil)))) (.cons (.setS 5 (.call 9 (.cons (.call 5 (.cons (.call 6 (.cons (.slot 0) (.cons (.int 1) .nil))) (.cons (.bin .Add (.lst (.cons (.int 12) .nil)) (.bin .Mult (.lst (.cons (.int 4) .nil)) (.int 28))) .nil))) (.cons (.slot 1) .nil)))) (.cons (.ife (.cmpT .Lt (.slot 2) (.int 5)) (.cons (.setS 5 (.call 10 (.cons (.slot 5) (.cons (.call 5 (.cons (.call 6 (.cons (.slot 0) (.cons (.int 4) .nil))) (.cons (.bin .Mult (.lst (.cons (.int 2) .nil)) (.int 8)) .nil))) (.cons (.call 5 (.cons (.call 6 (.cons (.slot 0) (.cons (.int 5) .nil))) (.cons (.bin .Mult (.lst (.cons (.int 3) .nil)) (.int 8)) .nil))) .nil))))) .nil) .nil) (.cons (.ife (.cmpT .Eq (.slot 2) (.int 4)) (.cons (.setS 5 (.call 10 (.cons (.slot 5) (.cons (.call 5 (.cons (.call 6 (.cons (.slot 0) (.cons (.int 6) .nil))) (.cons (.bin .Mult (.lst (.cons (.int 2) .nil)) (.int 8)) .nil))) (.cons (.slot 4) .nil))))) .nil) .nil) (.cons (.ife (.orT (.cons (.cmpT .Eq (.slot 2) (.int 5)) (.cons (.cmpT .Eq (.slot 2) (.int 6)) .nil))) (.cons (.setS 5 (.call 12 (.cons (.lst .nil) (.cons (.slot 1) (.cons (.slot 3) (.cons (.call 5 (.cons (.call 6 (.cons (.slot 0) (.cons (.int 3) .nil))) (.cons (.bin .Mult (.lst (.cons (.int 840) .nil)) (.int 8)) .nil))) .nil)))))) .nil) .nil) (.cons (.ife (.cmpT .Eq (.slot 2) (.int 7)) (.cons (.setS 5 (.call 13 (.cons (.slot 1) .nil))) (.cons (.ife (.andT (.cons (.cmpT .Eq (.ix (.slot 4) (.int 8)) (.int 0)) (.cons (.cmpT .Gt (.slot 1) (.int 0)) .nil))) (.cons (.setS 5 (.call 14 (.cons (.slot 5) (.cons (.bin .Mod (.blt .int (.cons (.ix (.slot 4) (.int 9)) .nil)) (.slot 1)) (.cons (.bin .Mod (.blt .int (.cons (.ix (.slot 4) (.int 10)) .nil)) (.slot 1)) .nil))))) .nil) .nil) .nil)) .nil) (.cons (.ife (.cmpT .Eq (.slot 2) (.int 8)) (.cons (.setS 5 (.comp (.nm 8) [8] .range1 (.cons (.slot 1) .nil) (.bl true) (.bin .Sub (.bin .Sub (.bin .LShift (.int 1) (.slot 1)) (.int 1)) (.bin .LShift (.int 1) (.slot 8))))) .nil) .nil) (.cons (.ife (.andT (.cons (.cmpT .Eq (.slot 2) (.int 9)) (.cons (.cmpT .Gt (.slot 1) (.int 6)) .nil))) (.cons (.setS 5 (.lst (.cons (.int 146) (.cons (.int 5) (.cons (.int 10) (.cons (.int 148) (.cons (.int 41) (.cons (.int 80) (.cons (.int 160) (.cons (.int 73) .nil)))))))))) (.cons (.for_ (.nm 8) .range1 (.cons (.bin .Sub (.int 8) (.slot 1)) .nil) (.cons (.setS 5 (.call 15 (.cons (.slot 5) (.cons (.bin .Sub (.blt .len (.cons (.slot 5) .nil)) (.int 1)) .nil)))) .nil)) .nil)) .nil) (.cons (.for_ (.nm 6) .seq (.cons (.call 5 (.cons (.call 6 (.cons (.slot 0) (.cons (.int 8) .nil))) (.cons (.bin .Mult (.lst (.cons (.int 2520) .nil)) (.int 3)) .nil))) .nil) (.cons (.ife (.andT (.cons (.cmpT .Lt (.slot 6) (.int 840)) (.cons (.cmpT .Gt (.slot 1) (.int 0)) .nil))) (.cons (.setS 5 (.call 16 (.cons (.slot 5) (.cons (.bin .Mod (.blt .int (.cons (.slot 6) .nil)) (.slot 1)) .nil)))) .nil) .nil) .nil)) (.cons (.setS 7 (.call 17 (.cons (.comp (.nm 8) [8] .range1 (.cons (.slot 1) .nil) (.bl true) (.slot 8)) (.cons (.call 5 (.cons (.call 6 (.cons (.slot 0) (.cons (.int 9) .nil))) (.cons (.lst (.cons (.int 8) (.cons (.int 7) (.cons (.int 6) (.cons (.int 5) (.cons (.int 4) (.cons (.int 3) (.cons (.int 2) (.cons (.int 1) .nil))))))))) .nil))) .nil)))) (.cons (.ret (.call 18 (.cons (.slot 5) (.cons (.slot 7) .nil)))) .nil))))))))))))⟩
def f19 : List D → Out Ar := run c20 d19
def c21 : Cxt := c20.ext 19 f19
abbrev st19 : Stmt := top 61
def N19 : List Str := ["_law_script", "_law_many", "_law_mode", "_law_kinds", "_law_more", "_law_masks_here", "_law_digit", "_law_order", "_law_k"]
theorem sc19 : FnScope N19 ["_law_script", "_law_many", "_law_mode"] (defScope st19) := ⟨rfl, rfl, rfl, by decide +kernel, by decide +kernel, by decide +kernel, by decide +kernel⟩
theorem ck19 : okSs (T0.upTo 19 1) ⟨N19, (defScope st19).names, (defScope st19).names⟩ d19.body (defBody st19) = true := by decide +kernel
/-- _law_ties(_law_names_here, _law_masks_here, _law_row): slots 0:_law_names_here 1:_law_masks_here 2:_law_row 3:_law_ties_here 4:_law_at 5:_law_pair -/
def d20 : Df := ⟨6, 3, (.cons (.set 3 (.lst .nil)) (.cons (.setS 4 (.int 0)) (.cons (.for_ (.nm 5) .seq (.cons (.call 8 (.cons (.blt .len (.cons (.slot 0) .nil)) .nil)) .nil) (.cons (.ife (.tru (.call 11 (.cons (.ix (.slot 1) (.ix (.slot 5) (.int 0))) (.cons (.ix (.slot 5) (.int 1)) .nil)))) (.cons (.ife (.cmpT .Eq (.bin .Mod (.ix (.slot 2) (.slot 4)) (.int 2)) (.int 0)) (.cons (.app 3 (.tup (.cons (.ix (.slot 0) (.ix (.slot 5) (.int 0))) (.cons (.ix (.slot 0) (.ix (.slot 5) (.int 1))) .nil)))) .nil) (.cons (.app 3 (.lst (.cons (.ix (.slot 0) (.ix (.slot 5) (.int 1))) (.cons (.ix (.slot 0) (.ix (.slot 5) (.int 0))) .nil)))) .nil)) (.cons (.ife (.cmpT .Eq (.ix (.slot 2) (.slot 4)) (.int 5)) (.cons (.app 3 (.tup (.cons (.ix (.slot 0) (.ix (.slot 5) (.int 0))) (.cons (.ix (.slot 0) (.ix (.slot 5) (.int 1))) .nil)))) .nil) .nil) .nil)) .nil) (.cons (.setS 4 (.bin .Add (.slot 4) (.int 1))) .nil))) (.cons (.ret (.move 3)) .nil))))⟩
def f20 : List D → Out Ar := run c21 d20
def c22 : Cxt := c21.ext 20 f20
abbrev st20 : Stmt := top 46
def N20 : List Str := ["_law_names_here", "_law_masks_here", "_law_row", "_law_ties_here", "_law_at", "_law_pair"]
theorem sc20 : FnScope N20 ["_law_names_here", "_law_masks_here", "_law_row"] (defScope st20) := ⟨rfl, rfl, rfl, by decide +kernel, by decide +kernel, by decide +kernel, by decide +kernel⟩
theorem ck20 : okSs (T0.upTo 20 1) ⟨N20, (defScope st20).names, (defScope st20).names⟩ d20.body (defBody st20) = true := by decide +kernel
/-- _law_names_of(_law_names_here, _law_mask): slots 0:_law_names_here 1:_law_mask 2:_law_k -/
def d21 : Df := ⟨3, 2, (.cons (.ret (.blt .tuple (.cons (.comp (.nm 2) [2] .range1 (.cons (.blt .len (.cons (.slot 0) .nil)) .nil) (.tru (.call 11 (.cons (.slot 1) (.cons (.slot 2) .nil)))) (.ix (.slot 0) (.slot 2))) .nil))) .nil)⟩
def f21 : List D → Out Ar := run c22 d21
def c23 : Cxt := c22.ext 21 f21
abbrev st21 : Stmt := top 63
def N21 : List Str := ["_law_names_here", "_law_mask", "_law_k"]
theorem sc21 : FnScope N21 ["_law_names_here", "_law_mask"] (defScope st21) := ⟨rfl, rfl, rfl, by decide +kernel, by decide +kernel, by decide +kernel, by decide +kernel⟩
theorem ck21 : okSs (T0.upTo 21 1) ⟨N21, (defScope st21).names, (defScope st21).names⟩ d21.body (defBody st21) = true := by decide +kernel
/-- _law_subsets(_law_many): slots 0:_law_many 1:_law_rows 2:_law_mask 3:_law_inside 4:_law_row 5:_law_k -/
def d22 : Df := ⟨6, 1, (.cons (.set 1 (.lst .nil)) (.cons (.for_ (.nm 2) .range1 (.cons (.bin .LShift (.int 1) (.slot 0)) .nil) (.cons (.setS 3 (.blt .tuple (.cons (.comp (.nm 5) [5] .range1 (.cons (.slot 0) .nil) (.tru (.call 11 (.cons (.slot 2) (.cons (.slot 5) .nil)))) (.slot 5)) .nil))) (.cons (.app 1 (.tup (.cons (.blt .len (.cons (.slot 3) .nil)) (.cons (.slot 3) (.cons (.slot 2) .nil))))) .nil))) (.cons (.ret (.comp (.nm 4) [4] .seq (.cons (.op .sortT (.cons (.slot 1) .nil)) .nil) (.bl true) (.ix (.slot 4) (.int 2)))) .nil)))⟩
def f22 : List D → Out Ar := run c23 d22
def c24 : Cxt := c23.ext 22 f22
abbrev st22 : Stmt := top 50
def N22 : List Str := ["_law_many", "_law_rows", "_law_mask", "_law_inside", "_law_row", "_law_k"]
theorem sc22 : FnScope N22 ["_law_many"] (defScope st22) := ⟨rfl, rfl, rfl, by decide +kernel, by decide +kernel, by decide +kernel, by decide +kernel⟩
theorem ck22 : okSs (T0.upTo 22 1) ⟨N22, (defScope st22).names, (defScope st22).names⟩ d22.body (defBody st22) = true := by decide +kernel
/-- _law_count(_law_mask): slots 0:_law_mask 1:_law_many 2:_law_rest 3:_law_step -/
def d23 : Df := ⟨4, 1, (.cons (.setS 1 (.int 0)) (.cons (.setS 2 (.slot 0)) (.cons (.for_ (.nm 3) .range1 (.cons (.int 200) .nil) (.cons (.ife (.cmpT .Eq (.slot 2) (.int 0)) (.cons .brk .nil) .nil) (.cons (.setS 1 (.bin .Add (.slot 1) (.bin .BitAnd (.slot 2) (.int 1)))) (.cons (.setS 2 (.bin .RShift (.slot 2) (.int 1))) .nil)))) (.cons (.ret (.slot 1)) .nil))))⟩
def f23 : List D → Out Ar := run c24 d23
def c25 : Cxt := c24.ext 23 f23
abbrev st23 : Stmt := top 45
def N23 : List Str := ["_law_mask", "_law_many", "_law_rest", "_law_step"]
theorem sc23 : FnScope N23 ["_law_mask"] (defScope st23) := ⟨rfl, rfl, rfl, by decide +kernel, by decide +kernel, by decide +kernel, by decide +kernel⟩
theorem ck23 : okSs (T0.upTo 23 1) ⟨N23, (defScope st23).names, (defScope st23).names⟩ d23.body (defBody st23) = true := by decide +kernel
/-- _law_rank(_law_rows): slots 0:_law_rows 1:_law_kept 2:_law_row 3:_law_rest 4:_law_other -/
def d24 : Df := ⟨5, 1, (.cons (.set 1 (.lst .nil)) (.cons (.for_ (.nm 2) .seq (.cons (.slot 0) .nil) (.cons (.setS 3 (.slot 2)) (.cons (.for_ (.nm 4) .seq (.cons (.bor 1) .nil) (.cons (.ife (.cmpT .Lt (.bin .BitXor (.slot 3) (.slot 4)) (.slot 3)) (.cons (.setS 3 (.bin .BitXor (.slot 3) (.slot 4))) .nil) .nil) .nil)) (.cons (.ife (.cmpT .Gt (.slot 3) (.int 0)) (.cons (.app 1 (.slot 3)) (.cons (.set 1 (.sortRev (.bor 1))) .nil)) .nil) .nil)))) (.cons (.ret (.blt .len (.cons (.bor 1) .nil))) .nil)))⟩
def f24 : List D → Out Ar := run c25 d24
def c26 : Cxt := c25.ext 24 f24
abbrev st24 : Stmt := top 49
def N24 : List Str := ["_law_rows", "_law_kept", "_law_row", "_law_rest", "_law_other"]
theorem sc24 : FnScope N24 ["_law_rows"] (defScope st24) := ⟨rfl, rfl, rfl, by decide +kernel, by decide +kernel, by decide +kernel, by decide +kernel⟩
theorem ck24 : okSs (T0.upTo 24 1) ⟨N24, (defScope st24).names, (defScope st24).names⟩ d24.body (defBody st24) = true := by decide +kernel
/-- _law_cut_rank(_law_masks_here, _law_mask): slots 0:_law_masks_here 1:_law_mask 2:_law_rows 3:_law_k -/
def d25 : Df := ⟨4, 2, (.cons (.set 2 (.lst .nil)) (.cons (.for_ (.nm 3) .range1 (.cons (.blt .len (.cons (.slot 0) .nil)) .nil) (.cons (.ife (.tru (.call 11 (.cons (.slot 1) (.cons (.slot 3) .nil)))) (.cons (.app 2 (.bin .BitAnd (.ix (.slot 0) (.slot 3)) (.bin .Sub (.bin .Sub (.bin .LShift (.int 1) (.blt .len (.cons (.slot 0) .nil))) (.int 1)) (.slot 1)))) .nil) .nil) .nil)) (.cons (.ret (.call 24 (.cons (.slot 2) .nil))) .nil)))⟩
def f25 : List D → Out Ar := run c26 d25
def c27 : Cxt := c26.ext 25 f25
abbrev st25 : Stmt := top 51
def N25 : List Str := ["_law_masks_here", "_law_mask", "_law_rows", "_law_k"]
theorem sc25 : FnScope N25 ["_law_masks_here", "_law_mask"] (defScope st25) := ⟨rfl, rfl, rfl, by decide +kernel, by decide +kernel, by decide +kernel, by decide +kernel⟩
theorem ck25 : okSs (T0.upTo 25 1) ⟨N25, (defScope st25).names, (defScope st25).names⟩ d25.body (defBody st25) = true := by decide +kernel
/-- _law_split_masks(_law_masks_here): slots 0:_law_masks_here 1:_law_found 2:_law_mask 3:_law_size -/
def d26 : Df := ⟨4, 1, (.cons (.set 1 (.lst .nil)) (.cons (.for_ (.nm 2) .seq (.cons (.call 22 (.cons (.blt .len (.cons (.slot 0) .nil)) .nil)) .nil) (.cons (.setS 3 (.call 23 (.cons (.slot 2) .nil))) (.cons (.ife (.andT (.cons (.cmpT .Eq (.bin .BitAnd (.slot 2) (.int 1)) (.int 1)) (.cons (.cmpT .Gt (.slot 3) (.int 1)) (.cons (.cmpT .Lt (.slot 3) (.bin .Sub (.blt .len (.cons (.slot 0) .nil)) (.int 1))) (.cons (.cmpT .Eq (.call 25 (.cons (.slot 0) (.cons (.slot 2) .nil))) (.int 1)) .nil))))) (.cons (.app 1 (.slot 2)) .nil) .nil) .nil))) (.cons (.ret (.move 1)) .nil)))⟩
def f26 : List D → Out Ar := run c27 d26
def c28 : Cxt := c27.ext 26 f26
abbrev st26 : Stmt := top 62
def N26 : List Str := ["_law_masks_here", "_law_found", "_law_mask", "_law_size"]
theorem sc26 : FnScope N26 ["_law_masks_here"] (defScope st26) := ⟨rfl, rfl, rfl, by decide +kernel, by decide +kernel, by decide +kernel, by decide +kernel⟩
theorem ck26 : okSs (T0.upTo 26 1) ⟨N26, (defScope st26).names, (defScope st26).names⟩ d26.body (defBody st26) = true := by decide +kernel
/-- _law_same_sets(_law_told, _law_due): slots 0:_law_told 1:_law_due 2:_law_k -/
def d27 : Df := ⟨3, 2, (.cons (.ife (.orT (.cons (.notT (.tru (.blt (.isi (.ty "tuple")) (.cons (.slot 0) .nil)))) (.cons (.cmpT .NotEq (.blt .len (.cons (.slot 0) .nil)) (.blt .len (.cons (.slot 1) .nil))) .nil))) (.cons (.ret (.bl false)) .nil) .nil) (.cons (.for_ (.nm 2) .range1 (.cons (.blt .len (.cons (.slot 1) .nil)) .nil) (.cons (.ife (.orT (.cons (.notT (.tru (.blt (.isi (.ty "tuple")) (.cons (.ix (.slot 0) (.slot 2)) .nil)))) (.cons (.cmpT .NotEq (.ix (.slot 0) (.slot 2)) (.ix (.slot 1) (.slot 2))) .nil))) (.cons (.ret (.bl false)) .nil) .nil) .nil)) (.cons (.ret (.bl true)) .nil)))⟩
def f27 : List D → Out Ar := run c28 d27
def c29 : Cxt := c28.ext 27 f27
abbrev st27 : Stmt := top 64
def N27 : List Str := ["_law_told", "_law_due", "_law_k"]
theorem sc27 : FnScope N27 ["_law_told", "_law_due"] (defScope st27) := ⟨rfl, rfl, rfl, by decide +kernel, by decide +kernel, by decide +kernel, by decide +kernel⟩
theorem ck27 : okSs (T0.upTo 27 1) ⟨N27, (defScope st27).names, (defScope st27).names⟩ d27.body (defBody st27) = true := by decide +kernel
/-- indexes(mask): slots 0:mask 1:k -/
def d28 : Df := ⟨2, 1, (.cons (.ret (.blt .tuple (.cons (.comp (.nm 1) [1] .range1 (.cons (.op .bitlen (.cons (.slot 0) .nil)) .nil) (.cmpT .Eq (.bin .BitAnd (.bin .RShift (.slot 0) (.slot 1)) (.int 1)) (.int 1)) (.slot 1)) .nil))) .nil)⟩
def f28 : List D → Out Ar := run c29 d28
def c30 : Cxt := c29.ext 28 f28
abbrev st28 : Stmt := top 2
def N28 : List Str := ["mask", "k"]
theorem sc28 : FnScope N28 ["mask"] (defScope st28) := ⟨rfl, rfl, rfl, by decide +kernel, by decide +kernel, by decide +kernel, by decide +kernel⟩
theorem ck28 : okSs (T0.upTo 28 1) ⟨N28, (defScope st28).names, (defScope st28).names⟩ d28.body (defBody st28) = true := by decide +kernel
/-- Net.names_of(self, mask): slots 0:self 1:mask 2:k -/
def d29 : Df := ⟨3, 2, (.cons (.ret (.blt .tuple (.cons (.comp (.nm 2) [2] .seq (.cons (.call 28 (.cons (.slot 1) .nil)) .nil) (.bl true) (.ix (.op (.fld 0 "points") (.cons (.slot 0) .nil)) (.slot 2))) .nil))) .nil)⟩
def f29 : List D → Out Ar := run c30 d29
def c31 : Cxt := c30.ext 29 f29
abbrev st29 : Stmt := mth 37 3
def N29 : List Str := ["self", "mask", "k"]
theorem sc29 : FnScope N29 ["self", "mask"] (defScope st29) := ⟨rfl, rfl, rfl, by decide +kernel, by decide +kernel, by decide +kernel, by decide +kernel⟩
theorem ck29 : okSs (T0.upTo 29 1) ⟨N29, (defScope st29).names, (defScope st29).names⟩ d29.body (defBody st29) = true := by decide +kernel
/-- count_bits(mask): slots 0:mask 1:many 2:rest -/
def d30 : Df := ⟨3, 1, (.cons (.setS 1 (.int 0)) (.cons (.setS 2 (.slot 0)) (.cons (.whl (.cmpT .NotEq (.slot 2) (.int 0)) (.cons (.setS 2 (.bin .BitAnd (.slot 2) (.bin .Sub (.slot 2) (.int 1)))) (.cons (.aug 1 .Add (.int 1)) .nil))) (.cons (.ret (.slot 1)) .nil))))⟩
def f30 : List D → Out Ar := run c31 d30
def c32 : Cxt := c31.ext 30 f30
abbrev st30 : Stmt := top 3
def N30 : List Str := ["mask", "many", "rest"]
theorem sc30 : FnScope N30 ["mask"] (defScope st30) := ⟨rfl, rfl, rfl, by decide +kernel, by decide +kernel, by decide +kernel, by decide +kernel⟩
theorem ck30 : okSs (T0.upTo 30 1) ⟨N30, (defScope st30).names, (defScope st30).names⟩ d30.body (defBody st30) = true := by decide +kernel
/-- subsets(count): slots 0:count 1:rows 2:mask 3:row -/
def d31 : Df := ⟨4, 1, (.cons (.setS 1 (.comp (.nm 2) [2] .range1 (.cons (.bin .LShift (.int 1) (.slot 0)) .nil) (.bl true) (.tup (.cons (.call 30 (.cons (.slot 2) .nil)) (.cons (.call 28 (.cons (.slot 2) .nil)) (.cons (.slot 2) .nil)))))) (.cons (.ret (.blt .tuple (.cons (.comp (.nm 3) [3] .seq (.cons (.op .sortT (.cons (.slot 1) .nil)) .nil) (.bl true) (.ix (.slot 3) (.int 2))) .nil))) .nil))⟩
def f31 : List D → Out Ar := run c32 d31
def c33 : Cxt := c32.ext 31 f31
abbrev st31 : Stmt := top 4
def N31 : List Str := ["count", "rows", "mask", "row"]
theorem sc31 : FnScope N31 ["count"] (defScope st31) := ⟨rfl, rfl, rfl, by decide +kernel, by decide +kernel, by decide +kernel, by decide +kernel⟩
theorem ck31 : okSs (T0.upTo 31 1) ⟨N31, (defScope st31).names, (defScope st31).names⟩ d31.body (defBody st31) = true := by decide +kernel
/-- reduced_masks(masks): slots 0:masks 1:kept 2:mask 3:rest 4:other 5:low -/
def d32 : Df := ⟨6, 1, (.cons (.set 1 (.lst .nil)) (.cons (.for_ (.nm 2) .seq (.cons (.slot 0) .nil) (.cons (.setS 3 (.slot 2)) (.cons (.for_ (.nm 4) .seq (.cons (.bor 1) .nil) (.cons (.ife (.cmpT .NotEq (.bin .BitAnd (.slot 3) (.call 0 (.cons (.slot 4) .nil))) (.int 0)) (.cons (.setS 3 (.bin .BitXor (.slot 3) (.slot 4))) .nil) .nil) .nil)) (.cons (.ife (.cmpT .NotEq (.slot 3) (.int 0)) (.cons (.setS 5 (.call 0 (.cons (.slot 3) .nil))) (.cons (.set 1 (.comp (.nm 4) [4] .seq (.cons (.bor 1) .nil) (.bl true) (.ife (.cmpT .NotEq (.bin .BitAnd (.slot 4) (.slot 5)) (.int 0)) (.bin .BitXor (.slot 4) (.slot 3)) (.slot 4)))) (.cons (.app 1 (.slot 3)) .nil))) .nil) .nil)))) (.cons (.ret (.blt .tuple (.cons (.sortKey 0 (.slot 1)) .nil))) .nil)))⟩
def f32 : List D → Out Ar := run c33 d32
def c34 : Cxt := c33.ext 32 f32
abbrev st32 : Stmt := top 10
def N32 : List Str := ["masks", "kept", "mask", "rest", "other", "low"]
theorem sc32 : FnScope N32 ["masks"] (defScope st32) := ⟨rfl, rfl, rfl, by decide +kernel, by decide +kernel, by decide +kernel, by decide +kernel⟩
theorem ck32 : okSs (T0.upTo 32 1) ⟨N32, (defScope st32).names, (defScope st32).names⟩ d32.body (defBody st32) = true := by decide +kernel
/-- mask_rank(masks): slots 0:masks -/
def d33 : Df := ⟨1, 1, (.cons (.ret (.blt .len (.cons (.call 32 (.cons (.slot 0) .nil)) .nil))) .nil)⟩
def f33 : List D → Out Ar := run c34 d33
def c35 : Cxt := c34.ext 33 f33
abbrev st33 : Stmt := top 11
def N33 : List Str := ["masks"]
theorem sc33 : FnScope N33 ["masks"] (defScope st33) := ⟨rfl, rfl, rfl, by decide +kernel, by decide +kernel, by decide +kernel, by decide +kernel⟩
theorem ck33 : okSs (T0.upTo 33 1) ⟨N33, (defScope st33).names, (defScope st33).names⟩ d33.body (defBody st33) = true := by decide +kernel
/-- far_side(core, mask): slots 0:core 1:mask -/
def d34 : Df := ⟨2, 2, (.cons (.ret (.bin .BitXor (.bin .Sub (.bin .LShift (.int 1) (.blt .len (.cons (.slot 0) .nil))) (.int 1)) (.slot 1))) .nil)⟩
def f34 : List D → Out Ar := run c35 d34
def c36 : Cxt := c35.ext 34 f34
abbrev st34 : Stmt := top 13
def N34 : List Str := ["core", "mask"]
theorem sc34 : FnScope N34 ["core", "mask"] (defScope st34) := ⟨rfl, rfl, rfl, by decide +kernel, by decide +kernel, by decide +kernel, by decide +kernel⟩
theorem ck34 : okSs (T0.upTo 34 1) ⟨N34, (defScope st34).names, (defScope st34).names⟩ d34.body (defBody st34) = true := by decide +kernel
/-- cut_rows(core, mask): slots 0:core 1:mask 2:far 3:at -/
def d35 : Df := ⟨4, 2, (.cons (.setS 2 (.call 34 (.cons (.slot 0) (.cons (.slot 1) .nil)))) (.cons (.ret (.comp (.nm 3) [3] .seq (.cons (.call 28 (.cons (.slot 1) .nil)) .nil) (.bl true) (.bin .BitAnd (.ix (.slot 0) (.slot 3)) (.slot 2)))) .nil))⟩
def f35 : List D → Out Ar := run c36 d35
def c37 : Cxt := c36.ext 35 f35
abbrev st35 : Stmt := top 14
def N35 : List Str := ["core", "mask", "far", "at"]
theorem sc35 : FnScope N35 ["core", "mask"] (defScope st35) := ⟨rfl, rfl, rfl, by decide +kernel, by decide +kernel, by decide +kernel, by decide +kernel⟩
theorem ck35 : okSs (T0.upTo 35 1) ⟨N35, (defScope st35).names, (defScope st35).names⟩ d35.body (defBody st35) = true := by decide +kernel
/-- core_cut_rank(core, mask): slots 0:core 1:mask -/
def d36 : Df := ⟨2, 2, (.cons (.ret (.call 33 (.cons (.call 35 (.cons (.slot 0) (.cons (.slot 1) .nil))) .nil))) .nil)⟩
def f36 : List D → Out Ar := run c37 d36
def c38 : Cxt := c37.ext 36 f36
abbrev st36 : Stmt := top 15
def N36 : List Str := ["core", "mask"]
theorem sc36 : FnScope N36 ["core", "mask"] (defScope st36) := ⟨rfl, rfl, rfl, by decide +kernel, by decide +kernel, by decide +kernel, by decide +kernel⟩
theorem ck36 : okSs (T0.upTo 36 1) ⟨N36, (defScope st36).names, (defScope st36).names⟩ d36.body (defBody st36) = true := by decide +kernel
/-- core_is_split(core, mask): slots 0:core 1:mask 2:count -/
def d37 : Df := ⟨3, 2, (.cons (.setS 2 (.call 30 (.cons (.slot 1) .nil))) (.cons (.ret (.andE (.cons (.chain .LtE .LtE (.int 2) (.slot 2) (.bin .Sub (.blt .len (.cons (.slot 0) .nil)) (.int 2))) (.cons (.cmp .Eq (.call 36 (.cons (.slot 0) (.cons (.slot 1) .nil))) (.int 1)) .nil)))) .nil))⟩
def f37 : List D → Out Ar := run c38 d37
def c39 : Cxt := c38.ext 37 f37
abbrev st37 : Stmt := top 17
def N37 : List Str := ["core", "mask", "count"]
theorem sc37 : FnScope N37 ["core", "mask"] (defScope st37) := ⟨rfl, rfl, rfl, by decide +kernel, by decide +kernel, by decide +kernel, by decide +kernel⟩
theorem ck37 : okSs (T0.upTo 37 1) ⟨N37, (defScope st37).names, (defScope st37).names⟩ d37.body (defBody st37) = true := by decide +kernel
/-- core_splits(core): slots 0:core 1:mask -/
def d38 : Df := ⟨2, 1, (.cons (.ret (.blt .tuple (.cons (.comp (.nm 1) [1] .seq (.cons (.call 31 (.cons (.blt .len (.cons (.slot 0) .nil)) .nil)) .nil) (.andT (.cons (.cmpT .Eq (.bin .BitAnd (.slot 1) (.int 1)) (.int 1)) (.cons (.tru (.call 37 (.cons (.slot 0) (.cons (.slot 1) .nil)))) .nil))) (.slot 1)) .nil))) .nil)⟩
def f38 : List D → Out Ar := run c39 d38
def c40 : Cxt := c39.ext 38 f38
abbrev st38 : Stmt := top 18
def N38 : List Str := ["core", "mask"]
theorem sc38 : FnScope N38 ["core"] (defScope st38) := ⟨rfl, rfl, rfl, by decide +kernel, by decide +kernel, by decide +kernel, by decide +kernel⟩
theorem ck38 : okSs (T0.upTo 38 1) ⟨N38, (defScope st38).names, (defScope st38).names⟩ d38.body (defBody st38) = true := by decide +kernel
/-- splits(net): slots 0:net 1:mask -/
def d39 : Df := ⟨2, 1, (.cons (.ret (.blt .tuple (.cons (.comp (.nm 1) [1] .seq (.cons (.call 38 (.cons (.op (.fld 0 "core") (.cons (.slot 0) .nil)) .nil)) .nil) (.bl true) (.op (.meth 0 29) (.cons (.slot 0) (.cons (.slot 1) .nil)))) .nil))) .nil)⟩
def f39 : List D → Out Ar := run c40 d39
def c41 : Cxt := c40.ext 39 f39
abbrev st39 : Stmt := top 19
def N39 : List Str := ["net", "mask"]
theorem sc39 : FnScope N39 ["net"] (defScope st39) := ⟨rfl, rfl, rfl, by decide +kernel, by decide +kernel, by decide +kernel, by decide +kernel⟩
theorem ck39 : okSs (T0.upTo 39 1) ⟨N39, (defScope st39).names, (defScope st39).names⟩ d39.body (defBody st39) = true := by decide +kernel
/-- _law_says(_law_told, _law_due): slots 0:_law_told 1:_law_due -/
def d40 : Df := ⟨2, 2, (.cons (.ret (.andE (.cons (.blt (.isi (.ty "bool")) (.cons (.slot 0) .nil)) (.cons (.cmp .Eq (.slot 0) (.slot 1)) .nil)))) .nil)⟩
def f40 : List D → Out Ar := run c41 d40
def c42 : Cxt := c41.ext 40 f40
abbrev st40 : Stmt := top 65
def N40 : List Str := ["_law_told", "_law_due"]
theorem sc40 : FnScope N40 ["_law_told", "_law_due"] (defScope st40) := ⟨rfl, rfl, rfl, by decide +kernel, by decide +kernel, by decide +kernel, by decide +kernel⟩
theorem ck40 : okSs (T0.upTo 40 1) ⟨N40, (defScope st40).names, (defScope st40).names⟩ d40.body (defBody st40) = true := by decide +kernel
/-- is_prime(net): slots 0:net -/
def d41 : Df := ⟨1, 1, (.cons (.ret (.cmp .Eq (.blt .len (.cons (.call 38 (.cons (.op (.fld 0 "core") (.cons (.slot 0) .nil)) .nil)) .nil)) (.int 0))) .nil)⟩
def f41 : List D → Out Ar := run c42 d41
def c43 : Cxt := c42.ext 41 f41
abbrev st41 : Stmt := top 20
def N41 : List Str := ["net"]
theorem sc41 : FnScope N41 ["net"] (defScope st41) := ⟨rfl, rfl, rfl, by decide +kernel, by decide +kernel, by decide +kernel, by decide +kernel⟩
theorem ck41 : okSs (T0.upTo 41 1) ⟨N41, (defScope st41).names, (defScope st41).names⟩ d41.body (defBody st41) = true := by decide +kernel
/-- _law_pressed_row(_law_masks_here, _law_row): slots 0:_law_masks_here 1:_law_row 2:_law_after 3:_law_digit -/
def d42 : Df := ⟨4, 2, (.cons (.setS 2 (.slot 0)) (.cons (.for_ (.nm 3) .seq (.cons (.slot 1) .nil) (.cons (.ife (.cmpT .Gt (.blt .len (.cons (.slot 0) .nil)) (.int 0)) (.cons (.setS 2 (.call 16 (.cons (.slot 2) (.cons (.bin .Mod (.blt .int (.cons (.slot 3) .nil)) (.blt .len (.cons (.slot 0) .nil))) .nil)))) .nil) .nil) .nil)) (.cons (.ret (.slot 2)) .nil)))⟩
def f42 : List D → Out Ar := run c43 d42
def c44 : Cxt := c43.ext 42 f42
abbrev st42 : Stmt := top 57
def N42 : List Str := ["_law_masks_here", "_law_row", "_law_after", "_law_digit"]
theorem sc42 : FnScope N42 ["_law_masks_here", "_law_row"] (defScope st42) := ⟨rfl, rfl, rfl, by decide +kernel, by decide +kernel, by decide +kernel, by decide +kernel⟩
theorem ck42 : okSs (T0.upTo 42 1) ⟨N42, (defScope st42).names, (defScope st42).names⟩ d42.body (defBody st42) = true := by decide +kernel
/-- Net.place(self, name): slots 0:self 1:name -/
def d43 : Df := ⟨2, 2, (.cons (.ife (.cmpT .NotIn (.slot 1) (.op (.fld 0 "points") (.cons (.slot 0) .nil))) (.cons .dead .nil) .nil) (.cons (.ret (.op (.index true) (.cons (.op (.fld 0 "points") (.cons (.slot 0) .nil)) (.cons (.slot 1) .nil)))) .nil))⟩
def f43 : List D → Out Ar := run c44 d43
def c45 : Cxt := c44.ext 43 f43
abbrev st43 : Stmt := mth 37 1
def N43 : List Str := ["self", "name"]
theorem sc43 : FnScope N43 ["self", "name"] (defScope st43) := ⟨rfl, rfl, rfl, by decide +kernel, by decide +kernel, by decide +kernel, by decide +kernel⟩
theorem ck43 : okSs (T0.upTo 43 1) ⟨N43, (defScope st43).names, (defScope st43).names⟩ d43.body (defBody st43) = true := by decide +kernel
/-- _law_net(_law_names_here, _law_masks_here, _law_digits_here): slots 0:_law_names_here 1:_law_masks_here 2:_law_digits_here 3:_law_turn 4:_law_points 5:_law_k -/
def d44 : Df := ⟨6, 3, (.cons (.setS 3 (.bin .Mod (.blt .int (.cons (.ix (.slot 2) (.int 0)) .nil)) (.bin .Add (.blt .len (.cons (.slot 0) .nil)) (.int 1)))) (.cons (.setS 4 (.bin .Add (.slice (.slot 0) (.slot 3) .non) (.slice (.slot 0) .non (.slot 3)))) (.cons (.ife (.cmpT .Eq (.ix (.slot 2) (.int 1)) (.int 1)) (.cons (.setS 4 (.blt .tuple (.cons (.comp (.nm 5) [5] .range1 (.cons (.blt .len (.cons (.slot 4) .nil)) .nil) (.bl true) (.ix (.slot 4) (.bin .Sub (.bin .Sub (.blt .len (.cons (.slot 4) .nil)) (.int 1)) (.slot 5)))) .nil))) .nil) .nil) (.cons (.ret (.op (.make 0) (.cons (.slot 4) (.cons (.call 20 (.cons (.slot 0) (.cons (.slot 1) (.cons (.slice (.slot 2) (.int 2) .non) .nil)))) .nil)))) .nil))))⟩
def f44 : List D → Out Ar := run c45 d44
def c46 : Cxt := c45.ext 44 f44
abbrev st44 : Stmt := top 58
def N44 : List Str := ["_law_names_here", "_law_masks_here", "_law_digits_here", "_law_turn", "_law_points", "_law_k"]
theorem sc44 : FnScope N44 ["_law_names_here", "_law_masks_here", "_law_digits_here"] (defScope st44) := ⟨rfl, rfl, rfl, by decide +kernel, by decide +kernel, by decide +kernel, by decide +kernel⟩
theorem ck44 : okSs (T0.upTo 44 1) ⟨N44, (defScope st44).names, (defScope st44).names⟩ d44.body (defBody st44) = true := by decide +kernel
/-- made_net(points, core): slots 0:points 1:core 2:i 3:k -/
def d45 : Df := ⟨4, 2, (.cons (.ret (.op (.make 0) (.cons (.slot 0) (.cons (.comp (.tp [2, 3]) [2, 3] .seq (.cons (.call 4 (.cons (.slot 1) .nil)) .nil) (.bl true) (.tup (.cons (.ix (.slot 0) (.slot 2)) (.cons (.ix (.slot 0) (.slot 3)) .nil)))) .nil)))) .nil)⟩
def f45 : List D → Out Ar := run c46 d45
def c47 : Cxt := c46.ext 45 f45
abbrev st45 : Stmt := top 36
def N45 : List Str := ["points", "core", "i", "k"]
theorem sc45 : FnScope N45 ["points", "core"] (defScope st45) := ⟨rfl, rfl, rfl, by decide +kernel, by decide +kernel, by decide +kernel, by decide +kernel⟩
theorem ck45 : okSs (T0.upTo 45 1) ⟨N45, (defScope st45).names, (defScope st45).names⟩ d45.body (defBody st45) = true := by decide +kernel
/-- Net.turned(self, one, two): slots 0:self 1:one 2:two 3:first 4:second 5:core -/
def d46 : Df := ⟨6, 3, (.cons (.setS 3 (.op (.meth 0 43) (.cons (.slot 0) (.cons (.slot 1) .nil)))) (.cons (.setS 4 (.op (.meth 0 43) (.cons (.slot 0) (.cons (.slot 2) .nil)))) (.cons (.ife (.cmpT .Eq (.slot 3) (.slot 4)) (.cons .dead .nil) .nil) (.cons (.set 5 (.blt .list (.cons (.op (.fld 0 "core") (.cons (.slot 0) .nil)) .nil))) (.cons (.setIx 5 (.slot 3) (.bin .BitXor (.ix (.bor 5) (.slot 3)) (.bin .LShift (.int 1) (.slot 4)))) (.cons (.setIx 5 (.slot 4) (.bin .BitXor (.ix (.bor 5) (.slot 4)) (.bin .LShift (.int 1) (.slot 3)))) (.cons (.ret (.call 45 (.cons (.op (.fld 0 "points") (.cons (.slot 0) .nil)) (.cons (.blt .tuple (.cons (.slot 5) .nil)) .nil)))) .nil)))))))⟩
def f46 : List D → Out Ar := run c47 d46
def c48 : Cxt := c47.ext 46 f46
abbrev st46 : Stmt := mth 37 16
def N46 : List Str := ["self", "one", "two", "first", "second", "core"]
theorem sc46 : FnScope N46 ["self", "one", "two"] (defScope st46) := ⟨rfl, rfl, rfl, by decide +kernel, by decide +kernel, by decide +kernel, by decide +kernel⟩
theorem ck46 : okSs (T0.upTo 46 1) ⟨N46, (defScope st46).names, (defScope st46).names⟩ d46.body (defBody st46) = true := by decide +kernel
/-- _law_is_net(_law_told, _law_names_here, _law_masks_here): slots 0:_law_told 1:_law_names_here 2:_law_masks_here 3:_law_due 4:_law_pair -/
def d47 : Df := ⟨5, 3, (.cons (.ife (.orT (.cons (.notT (.tru (.op (.isC 0) (.cons (.slot 0) .nil)))) (.cons (.notT (.tru (.blt (.isi (.ty "tuple")) (.cons (.op (.fld 0 "points") (.cons (.slot 0) .nil)) .nil)))) (.cons (.notT (.tru (.blt (.isi (.ty "tuple")) (.cons (.op (.fld 0 "ties") (.cons (.slot 0) .nil)) .nil)))) .nil)))) (.cons (.ret (.bl false)) .nil) .nil) (.cons (.setS 3 (.comp (.nm 4) [4] .seq (.cons (.call 8 (.cons (.blt .len (.cons (.slot 1) .nil)) .nil)) .nil) (.tru (.call 11 (.cons (.ix (.slot 2) (.ix (.slot 4) (.int 0))) (.cons (.ix (.slot 4) (.int 1)) .nil)))) (.tup (.cons (.ix (.slot 1) (.ix (.slot 4) (.int 0))) (.cons (.ix (.slot 1) (.ix (.slot 4) (.int 1))) .nil))))) (.cons (.ret (.andE (.cons (.cmp .Eq (.op (.fld 0 "points") (.cons (.slot 0) .nil)) (.blt .tuple (.cons (.slot 1) .nil))) (.cons (.cmp .Eq (.op (.fld 0 "ties") (.cons (.slot 0) .nil)) (.blt .tuple (.cons (.slot 3) .nil))) .nil)))) .nil)))⟩
def f47 : List D → Out Ar := run c48 d47
def c49 : Cxt := c48.ext 47 f47
abbrev st47 : Stmt := top 52
def N47 : List Str := ["_law_told", "_law_names_here", "_law_masks_here", "_law_due", "_law_pair"]
theorem sc47 : FnScope N47 ["_law_told", "_law_names_here", "_law_masks_here"] (defScope st47) := ⟨rfl, rfl, rfl, by decide +kernel, by decide +kernel, by decide +kernel, by decide +kernel⟩
theorem ck47 : okSs (T0.upTo 47 1) ⟨N47, (defScope st47).names, (defScope st47).names⟩ d47.body (defBody st47) = true := by decide +kernel
/-- law(_law_script): slots 0:_law_script 1:_law_head 2:_law_many 3:_law_names_here 4:_law_masks_here 5:_law_made 6:_law_due 7:_law_pressed 8:_law_other 9:_law_picks 10:_law_here 11:_law_there 12:_law_near 13:_law_beside 14:_law_mask -/
def d48 : Df := ⟨15, 1, (.cons (.setS 1 (.call 5 (.cons (.call 6 (.cons (.slot 0) (.cons (.int 0) .nil))) (.cons (.bin .Add (.lst (.cons (.int 24) (.cons (.int 12) .nil))) (.bin .Mult (.lst (.cons (.bin .Mult (.int 624) (.bin .Pow (.int 36) (.int 7))) .nil)) (.int 8))) .nil)))) (.cons (.setS 2 (.ix (.lst (.cons (.int 6) (.cons (.int 5) (.cons (.int 6) (.cons (.int 7) (.cons (.int 4) (.cons (.int 7) (.cons (.int 6) (.cons (.int 8) (.cons (.int 5) (.cons (.int 6) (.cons (.int 3) (.cons (.int 7) (.cons (.int 6) (.cons (.int 5) (.cons (.int 7) (.cons (.int 6) (.cons (.int 4) (.cons (.int 5) (.cons (.int 6) (.cons (.int 8) (.cons (.int 6) (.cons (.int 2) (.cons (.int 1) (.cons (.int 0) .nil))))))))))))))))))))))))) (.ix (.slot 1) (.int 0)))) (.cons (.setS 3 (.call 7 (.cons (.slice (.slot 1) (.int 2) .non) (.cons (.slot 2) .nil)))) (.cons (.setS 4 (.call 19 (.cons (.slot 0) (.cons (.slot 2) (.cons (.ix (.slot 1) (.int 1)) .nil))))) (.cons (.setS 5 (.call 44 (.cons (.slot 3) (.cons (.slot 4) (.cons (.call 5 (.cons (.call 6 (.cons (.slot 0) (.cons (.int 10) .nil))) (.cons (.bin .Add (.lst (.cons (.int 9) (.cons (.int 2) .nil))) (.bin .Mult (.lst (.cons (.int 6) .nil)) (.int 28))) .nil))) .nil))))) (.cons (.setS 6 (.comp (.nm 14) [14] .seq (.cons (.call 26 (.cons (.slot 4) .nil)) .nil) (.bl true) (.call 21 (.cons (.slot 3) (.cons (.slot 14) .nil))))) (.cons (.ife (.orT (.cons (.notT (.tru (.call 27 (.cons (.call 39 (.cons (.slot 5) .nil)) (.cons (.slot 6) .nil))))) (.cons (.notT (.tru (.call 40 (.cons (.call 41 (.cons (.slot 5) .nil)) (.cons (.cmp .Eq (.blt .len (.cons (.slot 6) .nil)) (.int 0)) .nil))))) .nil))) (.cons (.ret (.bl false)) .nil) .nil) (.cons (.setS 7 (.call 42 (.cons (.slot 4) (.cons (.call 5 (.cons (.call 6 (.cons (.slot 0) (.cons (.int 11) .nil))) (.cons (.bin .Mult (.lst (.cons (.int 840) .nil)) (.int 4)) .nil))) .nil)))) (.cons (.setS 8 (.call 44 (.cons (.slot 3) (.cons (.slot 7) (.cons (.call 5 (.cons (.call 6 (.cons (.slot 0) (.cons (.int 12) .nil))) (.cons (.bin .Add (.lst (.cons (.int 9) (.cons (.int 2) .nil))) (.bin .Mult (.lst (.cons (.int 6) .nil)) (.int 28))) .nil))) .nil))))) (.cons (.ife (.orT (.cons (.notT (.tru (.call 27 (.cons (.callK 39 [0] (.cons (.slot 8) .nil)) (.cons (.slot 6) .nil))))) (.cons (.notT (.tru (.call 40 (.cons (.callK 41 [0] (.cons (.slot 8) .nil)) (.cons (.cmp .Eq (.blt .len (.cons (.slot 6) .nil)) (.int 0)) .nil))))) .nil))) (.cons (.ret (.bl false)) .nil) .nil) (.cons (.ife (.cmpT .Gt (.slot 2) (.int 1)) (.cons (.setS 9 (.call 5 (.cons (.call 6 (.cons (.slot 0) (.cons (.int 13) .nil))) (.cons (.lst (.cons (.int 840) (.cons (.int 840) .nil))) .nil)))) (.cons (.setS 10 (.bin .Mod (.blt .int (.cons (.ix (.slot 9) (.int 0)) .nil)) (.slot 2))) (.cons (.setS 11 (.bin .Mod (.blt .int (.cons (.bin .Add (.bin .Add (.slot 10) (.int 1)) (.bin .Mod (.blt .int (.cons (.ix (.slot 9) (.int 1)) .nil)) (.bin .Sub (.slot 2) (.int 1)))) .nil)) (.slot 2))) (.cons (.setS 12 (.comp (.nm 14) [14] .seq (.cons (.call 26 (.cons (.call 14 (.cons (.slot 4) (.cons (.slot 10) (.cons (.slot 11) .nil)))) .nil)) .nil) (.bl true) (.call 21 (.cons (.slot 3) (.cons (.slot 14) .nil))))) (.cons (.setS 13 (.op (.meth 0 46) (.cons (.slot 5) (.cons (.ix (.slot 3) (.slot 10)) (.cons (.ix (.slot 3) (.slot 11)) .nil))))) (.cons (.ife (.orT (.cons (.notT (.tru (.call 27 (.cons (.call 39 (.cons (.slot 13) .nil)) (.cons (.slot 12) .nil))))) (.cons (.notT (.tru (.call 40 (.cons (.call 41 (.cons (.slot 13) .nil)) (.cons (.cmp .Eq (.blt .len (.cons (.slot 12) .nil)) (.int 0)) .nil))))) .nil))) (.cons (.ret (.bl false)) .nil) .nil) .nil)))))) .nil) (.cons (.ret (.andE (.cons (.call 27 (.cons (.call 39 (.cons (.slot 5) .nil)) (.cons (.slot 6) .nil))) (.cons (.call 47 (.cons (.slot 5) (.cons (.slot 3) (.cons (.slot 4) .nil)))) .nil)))) .nil))))))))))))⟩
def f48 : List D → Out Ar := run c49 d48
def c50 : Cxt := c49.ext 48 f48
abbrev st48 : Stmt := top 66
def N48 : List Str := ["_law_script", "_law_head", "_law_many", "_law_names_here", "_law_masks_here", "_law_made", "_law_due", "_law_pressed", "_law_other", "_law_picks", "_law_here", "_law_there", "_law_near", "_law_beside", "_law_mask"]
theorem sc48 : FnScope N48 ["_law_script"] (defScope st48) := ⟨rfl, rfl, rfl, by decide +kernel, by decide +kernel, by decide +kernel, by decide +kernel⟩
theorem ck48 : okSs (T0.upTo 48 1) ⟨N48, (defScope st48).names, (defScope st48).names⟩ d48.body (defBody st48) = true := by decide +kernel
section
variable {P : Program} {w : World} {K : PySem.W.Frag} {mg : Str → Option Value} {base : Heap} {p : Par}
theorem all_ok (hK : K = p.K) (hfl : p.fields = flds) (hmg : ∀ (x : Str) (v : Value), PySem.W.nsIn K mainGlobals x = some (some v) → mg x = some v) (hblt : ∀ x ∈ bltNames, mg x = none) (x0 : ∃ t, mg "LETTERS" = some (.str "abcdefghijklmnopqrstuvwxyz" t)) (x1 : ∃ t, mg "DIGITS" = some (.str "0123456789" t)) (n0 : ∃ t, mg "LONGEST" = some (.int 8 t))
    {C0 : Addr} (FC0 : FactC K "Net" "Net.__init__" ["points", "core", "ties"] C0 stI0) (F0 : FactE K "low_bit" st0) (F1 : FactE K "is_name" st1) (F2 : FactE K "ordered_points" st2) (F3 : FactE K "core_of_ties" st3) (F4 : FactE K "core_ties" st4) (F5 : FactE K "_law_digits" st5) (F6 : FactE K "_law_cell" st6) (F7 : FactE K "_law_names" st7) (F8 : FactE K "_law_pairs" st8) (F9 : FactE K "_law_masks" st9) (F10 : FactE K "_law_crossed" st10) (F11 : FactE K "_law_has" st11) (F12 : FactE K "_law_grown" st12) (F13 : FactE K "_law_ring" st13) (F14 : FactE K "_law_turned" st14) (F15 : FactE K "_law_without" st15) (F16 : FactE K "_law_press" st16) (F17 : FactE K "_law_shuffled" st17) (F18 : FactE K "_law_permuted" st18) (F19 : FactE K "_law_split_masks_drawn" st19) (F20 : FactE K "_law_ties" st20) (F21 : FactE K "_law_names_of" st21) (F22 : FactE K "_law_subsets" st22) (F23 : FactE K "_law_count" st23) (F24 : FactE K "_law_rank" st24) (F25 : FactE K "_law_cut_rank" st25) (F26 : FactE K "_law_split_masks" st26) (F27 : FactE K "_law_same_sets" st27) (F28 : FactE K "indexes" st28) (F29 : FactM K C0 "names_of" "Net.names_of" st29) (F30 : FactE K "count_bits" st30) (F31 : FactE K "subsets" st31) (F32 : FactE K "reduced_masks" st32) (F33 : FactE K "mask_rank" st33) (F34 : FactE K "far_side" st34) (F35 : FactE K "cut_rows" st35) (F36 : FactE K "core_cut_rank" st36) (F37 : FactE K "core_is_split" st37) (F38 : FactE K "core_splits" st38) (F39 : FactE K "splits" st39) (F40 : FactE K "_law_says" st40) (F41 : FactE K "is_prime" st41) (F42 : FactE K "_law_pressed_row" st42) (F43 : FactM K C0 "place" "Net.place" st43) (F44 : FactE K "_law_net" st44) (F45 : FactE K "made_net" st45) (F46 : FactM K C0 "turned" "Net.turned" st46) (F47 : FactE K "_law_is_net" st47) (hc0 : p.cl 0 = C0) {fa : Addr} {fd : FuncData} (FL : Fun K "law" "law" st48 fa fd) : FnOk P w K mg base CX0 49 fa fd ["_law_script"] (spD p 1 f48) := by
  subst hc0
  have t0 : Tb P w K mg base p T0 0 0 c0 := Tb.zero hfl.symm (fun j e h => by
    match j, h with
    | 0, h =>
      cases h
      exact FC0.clG hmg rfl rfl (by rw [hfl]; rfl) (by decide +kernel) (by decide +kernel)
    | j + 1, h => simp [T0, CL] at h) (fun a b h => by
    have h : (a, b) ∈ ([("LETTERS", "abcdefghijklmnopqrstuvwxyz"), ("DIGITS", "0123456789")] : List (Str × Str)) := h
    simp only [List.mem_cons, Prod.mk.injEq, List.not_mem_nil, or_false] at h
    rcases h with ⟨rfl, rfl⟩ | ⟨rfl, rfl⟩
    · exact x0
    · exact x1) (fun a b h => by
    have h : (a, b) ∈ ([("LONGEST", 8)] : List (Str × Int)) := h
    simp only [List.mem_cons, Prod.mk.injEq, List.not_mem_nil, or_false] at h
    rcases h with ⟨rfl, rfl⟩
    · exact n0)
  have t1 : Tb P w K mg base p T0 1 0 c1 := t0.add hK hmg hblt rfl (by decide +kernel) F0 sc0 rfl rfl ck0 (fun _ _ _ _ _ _ us hl => match us, hl with | [_], _ => rfl) (by rw [show T0.kws.filter (fun q => q.1 == 0) = [] from by decide +kernel]; intro q hq; cases hq)
  have t2 : Tb P w K mg base p T0 2 0 c2 := t1.add hK hmg hblt rfl (by decide +kernel) F1 sc1 rfl rfl ck1 (fun _ _ _ _ _ _ us hl => match us, hl with | [_], _ => rfl) (by rw [show T0.kws.filter (fun q => q.1 == 1) = [] from by decide +kernel]; intro q hq; cases hq)
  have t3 : Tb P w K mg base p T0 3 0 c3 := t2.add hK hmg hblt rfl (by decide +kernel) F2 sc2 rfl rfl ck2 (fun _ _ _ _ _ _ us hl => match us, hl with | [_], _ => rfl) (by rw [show T0.kws.filter (fun q => q.1 == 2) = [] from by decide +kernel]; intro q hq; cases hq)
  have t4 : Tb P w K mg base p T0 4 0 c4 := t3.add hK hmg hblt rfl (by decide +kernel) F3 sc3 rfl rfl ck3 (fun _ _ _ _ _ _ us hl => match us, hl with | [_, _], _ => rfl) (by rw [show T0.kws.filter (fun q => q.1 == 3) = [] from by decide +kernel]; intro q hq; cases hq)
  have t5 : Tb P w K mg base p T0 5 0 c5 := t4.add hK hmg hblt rfl (by decide +kernel) F4 sc4 rfl rfl ck4 (fun _ _ _ _ _ _ us hl => match us, hl with | [_], _ => rfl) (by rw [show T0.kws.filter (fun q => q.1 == 4) = [] from by decide +kernel]; intro q hq; cases hq)
  have t6 : Tb P w K mg base p T0 5 1 c6 := t5.addC hK hblt rfl rfl FC0 scI0 rfl rfl rfl ckI0 (fun _ _ _ _ _ _ us hl => match us, hl with | [_, _, _], _ => rfl)
  have t7 : Tb P w K mg base p T0 6 1 c7 := t6.add hK hmg hblt rfl (by decide +kernel) F5 sc5 rfl rfl ck5 (fun _ _ _ _ _ _ us hl => match us, hl with | [_, _], _ => rfl) (by rw [show T0.kws.filter (fun q => q.1 == 5) = [] from by decide +kernel]; intro q hq; cases hq)
  have t8 : Tb P w K mg base p T0 7 1 c8 := t7.add hK hmg hblt rfl (by decide +kernel) F6 sc6 rfl rfl ck6 (fun _ _ _ _ _ _ us hl => match us, hl with | [_, _], _ => rfl) (by rw [show T0.kws.filter (fun q => q.1 == 6) = [] from by decide +kernel]; intro q hq; cases hq)
  have t9 : Tb P w K mg base p T0 8 1 c9 := t8.add hK hmg hblt rfl (by decide +kernel) F7 sc7 rfl rfl ck7 (fun _ _ _ _ _ _ us hl => match us, hl with | [_, _], _ => rfl) (by rw [show T0.kws.filter (fun q => q.1 == 7) = [] from by decide +kernel]; intro q hq; cases hq)
  have t10 : Tb P w K mg base p T0 9 1 c10 := t9.add hK hmg hblt rfl (by decide +kernel) F8 sc8 rfl rfl ck8 (fun _ _ _ _ _ _ us hl => match us, hl with | [_], _ => rfl) (by rw [show T0.kws.filter (fun q => q.1 == 8) = [] from by decide +kernel]; intro q hq; cases hq)
  have t11 : Tb P w K mg base p T0 10 1 c11 := t10.add hK hmg hblt rfl (by decide +kernel) F9 sc9 rfl rfl ck9 (fun _ _ _ _ _ _ us hl => match us, hl with | [_, _], _ => rfl) (by rw [show T0.kws.filter (fun q => q.1 == 9) = [] from by decide +kernel]; intro q hq; cases hq)
  have t12 : Tb P w K mg base p T0 11 1 c12 := t11.add hK hmg hblt rfl (by decide +kernel) F10 sc10 rfl rfl ck10 (fun _ _ _ _ _ _ us hl => match us, hl with | [_, _, _], _ => rfl) (by rw [show T0.kws.filter (fun q => q.1 == 10) = [] from by decide +kernel]; intro q hq; cases hq)
  have t13 : Tb P w K mg base p T0 12 1 c13 := t12.add hK hmg hblt rfl (by decide +kernel) F11 sc11 rfl rfl ck11 (fun _ _ _ _ _ _ us hl => match us, hl with | [_, _], _ => rfl) (by rw [show T0.kws.filter (fun q => q.1 == 11) = [] from by decide +kernel]; intro q hq; cases hq)
  have t14 : Tb P w K mg base p T0 13 1 c14 := t13.add hK hmg hblt rfl (by decide +kernel) F12 sc12 rfl rfl ck12 (fun _ _ _ _ _ _ us hl => match us, hl with | [_, _, _, _], _ => rfl) (by rw [show T0.kws.filter (fun q => q.1 == 12) = [] from by decide +kernel]; intro q hq; cases hq)
  have t15 : Tb P w K mg base p T0 14 1 c15 := t14.add hK hmg hblt rfl (by decide +kernel) F13 sc13 rfl rfl ck13 (fun _ _ _ _ _ _ us hl => match us, hl with | [_], _ => rfl) (by rw [show T0.kws.filter (fun q => q.1 == 13) = [] from by decide +kernel]; intro q hq; cases hq)
  have t16 : Tb P w K mg base p T0 15 1 c16 := t15.add hK hmg hblt rfl (by decide +kernel) F14 sc14 rfl rfl ck14 (fun _ _ _ _ _ _ us hl => match us, hl with | [_, _, _], _ => rfl) (by rw [show T0.kws.filter (fun q => q.1 == 14) = [] from by decide +kernel]; intro q hq; cases hq)
  have t17 : Tb P w K mg base p T0 16 1 c17 := t16.add hK hmg hblt rfl (by decide +kernel) F15 sc15 rfl rfl ck15 (fun _ _ _ _ _ _ us hl => match us, hl with | [_, _], _ => rfl) (by rw [show T0.kws.filter (fun q => q.1 == 15) = [] from by decide +kernel]; intro q hq; cases hq)
  have t18 : Tb P w K mg base p T0 17 1 c18 := t17.add hK hmg hblt rfl (by decide +kernel) F16 sc16 rfl rfl ck16 (fun _ _ _ _ _ _ us hl => match us, hl with | [_, _], _ => rfl) (by rw [show T0.kws.filter (fun q => q.1 == 16) = [] from by decide +kernel]; intro q hq; cases hq)
  have t19 : Tb P w K mg base p T0 18 1 c19 := t18.add hK hmg hblt rfl (by decide +kernel) F17 sc17 rfl rfl ck17 (fun _ _ _ _ _ _ us hl => match us, hl with | [_, _], _ => rfl) (by rw [show T0.kws.filter (fun q => q.1 == 17) = [] from by decide +kernel]; intro q hq; cases hq)
  have t20 : Tb P w K mg base p T0 19 1 c20 := t19.add hK hmg hblt rfl (by decide +kernel) F18 sc18 rfl rfl ck18 (fun _ _ _ _ _ _ us hl => match us, hl with | [_, _], _ => rfl) (by rw [show T0.kws.filter (fun q => q.1 == 18) = [] from by decide +kernel]; intro q hq; cases hq)
  have t21 : Tb P w K mg base p T0 20 1 c21 := t20.add hK hmg hblt rfl (by decide +kernel) F19 sc19 rfl rfl ck19 (fun _ _ _ _ _ _ us hl => match us, hl with | [_, _, _], _ => rfl) (by rw [show T0.kws.filter (fun q => q.1 == 19) = [] from by decide +kernel]; intro q hq; cases hq)
  have t22 : Tb P w K mg base p T0 21 1 c22 := t21.add hK hmg hblt rfl (by decide +kernel) F20 sc20 rfl rfl ck20 (fun _ _ _ _ _ _ us hl => match us, hl with | [_, _, _], _ => rfl) (by rw [show T0.kws.filter (fun q => q.1 == 20) = [] from by decide +kernel]; intro q hq; cases hq)
  have t23 : Tb P w K mg base p T0 22 1 c23 := t22.add hK hmg hblt rfl (by decide +kernel) F21 sc21 rfl rfl ck21 (fun _ _ _ _ _ _ us hl => match us, hl with | [_, _], _ => rfl) (by rw [show T0.kws.filter (fun q => q.1 == 21) = [] from by decide +kernel]; intro q hq; cases hq)
  have t24 : Tb P w K mg base p T0 23 1 c24 := t23.add hK hmg hblt rfl (by decide +kernel) F22 sc22 rfl rfl ck22 (fun _ _ _ _ _ _ us hl => match us, hl with | [_], _ => rfl) (by rw [show T0.kws.filter (fun q => q.1 == 22) = [] from by decide +kernel]; intro q hq; cases hq)
  have t25 : Tb P w K mg base p T0 24 1 c25 := t24.add hK hmg hblt rfl (by decide +kernel) F23 sc23 rfl rfl ck23 (fun _ _ _ _ _ _ us hl => match us, hl with | [_], _ => rfl) (by rw [show T0.kws.filter (fun q => q.1 == 23) = [] from by decide +kernel]; intro q hq; cases hq)
  have t26 : Tb P w K mg base p T0 25 1 c26 := t25.add hK hmg hblt rfl (by decide +kernel) F24 sc24 rfl rfl ck24 (fun _ _ _ _ _ _ us hl => match us, hl with | [_], _ => rfl) (by rw [show T0.kws.filter (fun q => q.1 == 24) = [] from by decide +kernel]; intro q hq; cases hq)
  have t27 : Tb P w K mg base p T0 26 1 c27 := t26.add hK hmg hblt rfl (by decide +kernel) F25 sc25 rfl rfl ck25 (fun _ _ _ _ _ _ us hl => match us, hl with | [_, _], _ => rfl) (by rw [show T0.kws.filter (fun q => q.1 == 25) = [] from by decide +kernel]; intro q hq; cases hq)
  have t28 : Tb P w K mg base p T0 27 1 c28 := t27.add hK hmg hblt rfl (by decide +kernel) F26 sc26 rfl rfl ck26 (fun _ _ _ _ _ _ us hl => match us, hl with | [_], _ => rfl) (by rw [show T0.kws.filter (fun q => q.1 == 26) = [] from by decide +kernel]; intro q hq; cases hq)
  have t29 : Tb P w K mg base p T0 28 1 c29 := t28.add hK hmg hblt rfl (by decide +kernel) F27 sc27 rfl rfl ck27 (fun _ _ _ _ _ _ us hl => match us, hl with | [_, _], _ => rfl) (by rw [show T0.kws.filter (fun q => q.1 == 27) = [] from by decide +kernel]; intro q hq; cases hq)
  have t30 : Tb P w K mg base p T0 29 1 c30 := t29.add hK hmg hblt rfl (by decide +kernel) F28 sc28 rfl rfl ck28 (fun _ _ _ _ _ _ us hl => match us, hl with | [_], _ => rfl) (by rw [show T0.kws.filter (fun q => q.1 == 28) = [] from by decide +kernel]; intro q hq; cases hq)
  have t31 : Tb P w K mg base p T0 30 1 c31 := t30.addM hK hblt rfl (by decide +kernel) F29 sc29 rfl rfl ck29 (fun _ _ _ _ _ _ us hl => match us, hl with | [_, _], _ => rfl) (by decide +kernel)
  have t32 : Tb P w K mg base p T0 31 1 c32 := t31.add hK hmg hblt rfl (by decide +kernel) F30 sc30 rfl rfl ck30 (fun _ _ _ _ _ _ us hl => match us, hl with | [_], _ => rfl) (by rw [show T0.kws.filter (fun q => q.1 == 30) = [] from by decide +kernel]; intro q hq; cases hq)
  have t33 : Tb P w K mg base p T0 32 1 c33 := t32.add hK hmg hblt rfl (by decide +kernel) F31 sc31 rfl rfl ck31 (fun _ _ _ _ _ _ us hl => match us, hl with | [_], _ => rfl) (by rw [show T0.kws.filter (fun q => q.1 == 31) = [] from by decide +kernel]; intro q hq; cases hq)
  have t34 : Tb P w K mg base p T0 33 1 c34 := t33.add hK hmg hblt rfl (by decide +kernel) F32 sc32 rfl rfl ck32 (fun _ _ _ _ _ _ us hl => match us, hl with | [_], _ => rfl) (by rw [show T0.kws.filter (fun q => q.1 == 32) = [] from by decide +kernel]; intro q hq; cases hq)
  have t35 : Tb P w K mg base p T0 34 1 c35 := t34.add hK hmg hblt rfl (by decide +kernel) F33 sc33 rfl rfl ck33 (fun _ _ _ _ _ _ us hl => match us, hl with | [_], _ => rfl) (by rw [show T0.kws.filter (fun q => q.1 == 33) = [] from by decide +kernel]; intro q hq; cases hq)
  have t36 : Tb P w K mg base p T0 35 1 c36 := t35.add hK hmg hblt rfl (by decide +kernel) F34 sc34 rfl rfl ck34 (fun _ _ _ _ _ _ us hl => match us, hl with | [_, _], _ => rfl) (by rw [show T0.kws.filter (fun q => q.1 == 34) = [] from by decide +kernel]; intro q hq; cases hq)
  have t37 : Tb P w K mg base p T0 36 1 c37 := t36.add hK hmg hblt rfl (by decide +kernel) F35 sc35 rfl rfl ck35 (fun _ _ _ _ _ _ us hl => match us, hl with | [_, _], _ => rfl) (by rw [show T0.kws.filter (fun q => q.1 == 35) = [] from by decide +kernel]; intro q hq; cases hq)
  have t38 : Tb P w K mg base p T0 37 1 c38 := t37.add hK hmg hblt rfl (by decide +kernel) F36 sc36 rfl rfl ck36 (fun _ _ _ _ _ _ us hl => match us, hl with | [_, _], _ => rfl) (by rw [show T0.kws.filter (fun q => q.1 == 36) = [] from by decide +kernel]; intro q hq; cases hq)
  have t39 : Tb P w K mg base p T0 38 1 c39 := t38.add hK hmg hblt rfl (by decide +kernel) F37 sc37 rfl rfl ck37 (fun _ _ _ _ _ _ us hl => match us, hl with | [_, _], _ => rfl) (by rw [show T0.kws.filter (fun q => q.1 == 37) = [] from by decide +kernel]; intro q hq; cases hq)
  have t40 : Tb P w K mg base p T0 39 1 c40 := t39.add hK hmg hblt rfl (by decide +kernel) F38 sc38 rfl rfl ck38 (fun _ _ _ _ _ _ us hl => match us, hl with | [_], _ => rfl) (by rw [show T0.kws.filter (fun q => q.1 == 38) = [] from by decide +kernel]; intro q hq; cases hq)
  have t41 : Tb P w K mg base p T0 40 1 c41 := t40.add hK hmg hblt rfl (by decide +kernel) F39 sc39 rfl rfl ck39 (fun _ _ _ _ _ _ us hl => match us, hl with | [_], _ => rfl) (by rw [show T0.kws.filter (fun q => q.1 == 39) = ([(39, ["net"], [0])] : List (Nat × List Str × List Nat)) from by decide +kernel]; intro q hq; simp only [List.mem_cons, List.not_mem_nil, or_false] at hq; subst hq; exact ⟨rfl, fun _ _ _ _ _ _ ws hl => match ws, hl with | [_], _ => rfl⟩)
  have t42 : Tb P w K mg base p T0 41 1 c42 := t41.add hK hmg hblt rfl (by decide +kernel) F40 sc40 rfl rfl ck40 (fun _ _ _ _ _ _ us hl => match us, hl with | [_, _], _ => rfl) (by rw [show T0.kws.filter (fun q => q.1 == 40) = [] from by decide +kernel]; intro q hq; cases hq)
  have t43 : Tb P w K mg base p T0 42 1 c43 := t42.add hK hmg hblt rfl (by decide +kernel) F41 sc41 rfl rfl ck41 (fun _ _ _ _ _ _ us hl => match us, hl with | [_], _ => rfl) (by rw [show T0.kws.filter (fun q => q.1 == 41) = ([(41, ["net"], [0])] : List (Nat × List Str × List Nat)) from by decide +kernel]; intro q hq; simp only [List.mem_cons, List.not_mem_nil, or_false] at hq; subst hq; exact ⟨rfl, fun _ _ _ _ _ _ ws hl => match ws, hl with | [_], _ => rfl⟩)
  have t44 : Tb P w K mg base p T0 43 1 c44 := t43.add hK hmg hblt rfl (by decide +kernel) F42 sc42 rfl rfl ck42 (fun _ _ _ _ _ _ us hl => match us, hl with | [_, _], _ => rfl) (by rw [show T0.kws.filter (fun q => q.1 == 42) = [] from by decide +kernel]; intro q hq; cases hq)
  have t45 : Tb P w K mg base p T0 44 1 c45 := t44.addM hK hblt rfl (by decide +kernel) F43 sc43 rfl rfl ck43 (fun _ _ _ _ _ _ us hl => match us, hl with | [_, _], _ => rfl) (by decide +kernel)
  have t46 : Tb P w K mg base p T0 45 1 c46 := t45.add hK hmg hblt rfl (by decide +kernel) F44 sc44 rfl rfl ck44 (fun _ _ _ _ _ _ us hl => match us, hl with | [_, _, _], _ => rfl) (by rw [show T0.kws.filter (fun q => q.1 == 44) = [] from by decide +kernel]; intro q hq; cases hq)
  have t47 : Tb P w K mg base p T0 46 1 c47 := t46.add hK hmg hblt rfl (by decide +kernel) F45 sc45 rfl rfl ck45 (fun _ _ _ _ _ _ us hl => match us, hl with | [_, _], _ => rfl) (by rw [show T0.kws.filter (fun q => q.1 == 45) = [] from by decide +kernel]; intro q hq; cases hq)
  have t48 : Tb P w K mg base p T0 47 1 c48 := t47.addM hK hblt rfl (by decide +kernel) F46 sc46 rfl rfl ck46 (fun _ _ _ _ _ _ us hl => match us, hl with | [_, _, _], _ => rfl) (by decide +kernel)
  have t49 : Tb P w K mg base p T0 48 1 c49 := t48.add hK hmg hblt rfl (by decide +kernel) F47 sc47 rfl rfl ck47 (fun _ _ _ _ _ _ us hl => match us, hl with | [_, _, _], _ => rfl) (by rw [show T0.kws.filter (fun q => q.1 == 47) = [] from by decide +kernel]; intro q hq; cases hq)
  exact t49.one hK hblt FL sc48 rfl rfl ck48
end
end LW
namespace LW
open PySem PySem.Spec PyProof.Rows L2 DS Gf Bt Nt
theorem g0 : LowQ f0 := fun n => rfl
theorem g1 : NmQ f1 := fun s h => nm_ok (C := c1) h
theorem g2 : OrdQ f2 := fun l x hx hd hm hl => ord_ok (C := c2) (jn := 1) (fn_at (C := c2) (f := 1) (φ := f1) (P := NmQ) rfl g1) hx hd hm hl
theorem g3 : CoreQ f3 := fun n P M y h g t => core_ok (C := c3) h.len h.nd h.nm g t (Nat.le_trans h.few (by decide))
theorem g4 : CtQ f4 := fun n M hl hn => ct_ok (C := c4) hl hn
theorem gI0 : MakeQ 0 fI0 := fun n P P' M x y h p hx g t => init_ok (C := c5) (cn := 0) (jo := 2) (jc := 3) (jt := 4) rfl (fn_at (C := c5) (f := 2) (φ := f2) (P := OrdQ) rfl g2) (fn_at (C := c5) (f := 3) (φ := f3) (P := CoreQ) rfl g3) (fn_at (C := c5) (f := 4) (φ := f4) (P := CtQ) rfl g4) h p hx g t
theorem g5 : DigQ f5 := fun n sz h hl => sat_ex (digits_ok (C := c6) h hl)
theorem g6 (ns : List Int) : CellQ ns f6 := fun k => sat_ex0 (cell_ok (C := c7))
theorem g7 : NamesQ f7 := fun n line hl hn => sat_ex (names_ok (C := c8) hl hn)
theorem g8 : PrsQ f8 := fun n hn => prs_ok (C := c9) hn
theorem g9 : MasksQ f9 := fun n row hr hl hn => sat_ex (masks_ok (C := c10) (jp := 8) (fn_at (C := c10) (f := 8) (φ := f8) (P := PrsQ) rfl g8) hr hl hn)
theorem g10 : CrsQ f10 := fun n M sd en g h1 h2 hn => sat_ex (crs_ok (C := c11) g h1 h2 hn)
theorem g11 : HasQ f11 := fun m k => has_ok
theorem g12 : GrowQ f12 := fun n ks os hk ho hn => sat_ex (grow_ok (C := c13) (jh := 11) (fn_at (C := c13) (f := 11) (φ := f11) (P := HasQ) rfl g11) hk ho hn)
theorem g13 : RingQ f13 := fun n hn => sat_ex (ring_ok (C := c14) hn)
theorem g14 : TurnQ f14 := fun n a b M g hn ha hb => turn_ok (C := c15) g hn ha hb
theorem g15 : WoutQ f15 := fun n v M g hv hn => wout_ok (C := c16) g hv hn
theorem g16 : PressQ f16 := fun n v M g hn hv => lpress_ok (C := c17) (jh := 11) (fn_at (C := c17) (f := 11) (φ := f11) (P := HasQ) rfl g11) g hn hv
theorem g17 : ShufQ f17 := fun n b T row hl ht hr hn => sat_ex (shuf_ok (C := c18) hl ht hr hn)
theorem g18 : PermQ f18 := fun n M od g hl ho hn => sat_ex (perm_ok (C := c19) (jh := 11) (fn_at (C := c19) (f := 11) (φ := f11) (P := HasQ) rfl g11) g hl ho hn)
theorem g19 (ns : List Int) : DrawnQ ns f19 := fun n md hn => sat_ex (drawn_ok (C := c20) ⟨(fn_at (C := c20) (f := 5) (φ := f5) (P := DigQ) rfl g5), (fn_at (P := CellQ ns) (rfl : c20.fn 6 = f6) (g6 ns)), (fn_at (C := c20) (f := 9) (φ := f9) (P := MasksQ) rfl g9), (fn_at (C := c20) (f := 10) (φ := f10) (P := CrsQ) rfl g10), (fn_at (C := c20) (f := 12) (φ := f12) (P := GrowQ) rfl g12), (fn_at (C := c20) (f := 13) (φ := f13) (P := RingQ) rfl g13), (fn_at (C := c20) (f := 14) (φ := f14) (P := TurnQ) rfl g14), (fn_at (C := c20) (f := 15) (φ := f15) (P := WoutQ) rfl g15), (fn_at (C := c20) (f := 16) (φ := f16) (P := PressQ) rfl g16), (fn_at (C := c20) (f := 17) (φ := f17) (P := ShufQ) rfl g17), (fn_at (C := c20) (f := 18) (φ := f18) (P := PermQ) rfl g18)⟩ hn)
theorem g20 : LTiesQ f20 := fun n P M row h g hr => sat_ex (lties_ok (C := c21) (jp := 8) (jh := 11) (fn_at (C := c21) (f := 8) (φ := f8) (P := PrsQ) rfl g8) (fn_at (C := c21) (f := 11) (φ := f11) (P := HasQ) rfl g11) h g hr)
theorem g21 : LNamQ f21 := fun n m P hp hn => lnam_ok (C := c22) (jh := 11) (fn_at (C := c22) (f := 11) (φ := f11) (P := HasQ) rfl g11) hp hn
theorem g22 : LSubQ f22 := fun n hn => lsubs_ok (C := c23) (jh := 11) (fn_at (C := c23) (f := 11) (φ := f11) (P := HasQ) rfl g11) hn
theorem g23 : LCntQ f23 := fun n m hn h => lcount_ok (C := c24) h hn
theorem g24 : RkQ f24 := fun rows hl => lrank_ok (C := c25) hl
theorem g25 : LCutQ f25 := fun n m M hn hm hl => lcut_ok (C := c26) (jh := 11) (jr := 24) (fn_at (C := c26) (f := 11) (φ := f11) (P := HasQ) rfl g11) (fn_at (C := c26) (f := 24) (φ := f24) (P := RkQ) rfl g24) hn hm hl
theorem g26 : LSplQ f26 := fun n M hn hl => lspl_ok (C := c27) (js := 22) (jc := 23) (jr := 25) (fn_at (C := c27) (f := 22) (φ := f22) (P := LSubQ) rfl g22) (fn_at (C := c27) (f := 23) (φ := f23) (P := LCntQ) rfl g23) (fn_at (C := c27) (f := 25) (φ := f25) (P := LCutQ) rfl g25) hn hl
theorem g27 : SameQ f27 := fun T hT hl => same_ok (C := c28) hT hl
theorem g28 : IdxQ f28 := fun n m hn h => index_ok (C := c29) h (Nat.le_trans hn (by decide))
theorem g29 : NamQ 0 f29 := fun n m P M hn hm hp => nam_ok (C := c30) (cn := 0) (ji := 28) rfl (fn_at (C := c30) (f := 28) (φ := f28) (P := IdxQ) rfl g28) hn hm hp
theorem g30 : CntQ f30 := fun n m hn h => count_ok (C := c31) (show n < 100000 by omega) h
theorem g31 : SubQ f31 := fun n hn => subs_ok (C := c32) (jc := 30) (ji := 28) (fn_at (C := c32) (f := 30) (φ := f30) (P := CntQ) rfl g30) (fn_at (C := c32) (f := 28) (φ := f28) (P := IdxQ) rfl g28) hn
theorem g32 : RedQ f32 := fun t ms ht hl => red_ok (C := c33) (j := 0) (fn_at (C := c33) (f := 0) (φ := f0) (P := LowQ) rfl g0) ht hl
theorem g33 : RkQ f33 := fun ms hl => maskRank_ok (C := c34) (jr := 32) (fun ms h => (fn_at (C := c34) (f := 32) (φ := f32) (P := RedQ) rfl g32) _ ms rfl h) hl
theorem g34 : FarQ f34 := fun n m M hn hm hl => far_ok (C := c35) rfl hl hn
theorem g35 : CutQ f35 := fun n m M hn hm hl => cut_ok (C := c36) (jf := 34) (ji := 28) (fn_at (C := c36) (f := 34) (φ := f34) (P := FarQ) rfl g34) (fn_at (C := c36) (f := 28) (φ := f28) (P := IdxQ) rfl g28) hn hm hl
theorem g36 : CutRQ f36 := fun n m M hn hm hl => cutRank_ok (C := c37) (jm := 33) (jr := 35) (fn_at (C := c37) (f := 33) (φ := f33) (P := RkQ) rfl g33) (fn_at (C := c37) (f := 35) (φ := f35) (P := CutQ) rfl g35) hn hm hl
theorem g37 : IsSQ f37 := fun n m M hn hm hl => isS_ok (C := c38) (jc := 30) (jr := 36) (fn_at (C := c38) (f := 30) (φ := f30) (P := CntQ) rfl g30) (fn_at (C := c38) (f := 36) (φ := f36) (P := CutRQ) rfl g36) hn hm hl
theorem g38 : SplQ f38 := fun n M hn hl => spl_ok (C := c39) (js := 31) (ji := 37) (fn_at (C := c39) (f := 31) (φ := f31) (P := SubQ) rfl g31) (fn_at (C := c39) (f := 37) (φ := f37) (P := IsSQ) rfl g37) hn hl
theorem g39 : SpNQ 0 f39 := fun n P M hn hp hl => spN_ok (C := c40) (cn := 0) (jp := 38) (jn := 29) rfl (fn_at (C := c40) (f := 38) (φ := f38) (P := SplQ) rfl g38) (fn_at (C := c40) (f := 29) (φ := f29) (P := NamQ 0) rfl g29) hn hp hl
theorem g40 : SaysQ f40 := fun b => says_ok (C := c41)
theorem g41 : PrmQ 0 f41 := fun n P M hn hl => prm_ok (C := c42) (cn := 0) (jp := 38) rfl (fn_at (C := c42) (f := 38) (φ := f38) (P := SplQ) rfl g38) hn hl
theorem g42 : PrRQ f42 := fun n M row g hn => sat_ex (lprR_ok (C := c43) (jp := 16) (fn_at (C := c43) (f := 16) (φ := f16) (P := PressQ) rfl g16) g hn)
theorem g43 : PlaceQ 0 f43 := fun i P M hn hi => place_ok (C := c44) (cn := 0) rfl hn hi
theorem g44 : LNetQ 0 f44 := fun n P M dg h g hd => lnet_ok (C := c45) (cn := 0) (jt := 20) (fn_at' (P := MakeQ 0) (rfl : c45.make 0 = fI0) gI0) (fn_at (C := c45) (f := 20) (φ := f20) (P := LTiesQ) rfl g20) h g hd
theorem g45 : MadeQ 0 f45 := fun n P M h g => made_ok (C := c46) (cn := 0) (jt := 4) (fn_at' (P := MakeQ 0) (rfl : c46.make 0 = fI0) gI0) (fn_at (C := c46) (f := 4) (φ := f4) (P := CtQ) rfl g4) h g
theorem g46 : TurnNQ 0 f46 := fun n a b P M h g ha hb hab => turnN_ok (C := c47) (cn := 0) (jp := 43) (jm := 45) rfl (fn_at (C := c47) (f := 43) (φ := f43) (P := PlaceQ 0) rfl g43) (fn_at (C := c47) (f := 45) (φ := f45) (P := MadeQ 0) rfl g45) h g ha hb hab
theorem g47 : IsNQ 0 f47 := fun n P M h g => isN_ok (C := c48) (cn := 0) (jp := 8) (jh := 11) rfl (fn_at (C := c48) (f := 8) (φ := f8) (P := PrsQ) rfl g8) (fn_at (C := c48) (f := 11) (φ := f11) (P := HasQ) rfl g11) h g
theorem g48 : ∀ ns : List Int, f48 [.rol (jD ns)] = .ok (.v (.bl true)) := fun ns => law52 (C := c49) ⟨rfl, (fn_at (C := c49) (f := 5) (φ := f5) (P := DigQ) rfl g5), (fn_at (P := CellQ ns) (rfl : c49.fn 6 = f6) (g6 ns)), (fn_at (C := c49) (f := 7) (φ := f7) (P := NamesQ) rfl g7), (fn_at (P := DrawnQ ns) (rfl : c49.fn 19 = f19) (g19 ns)), (fn_at (C := c49) (f := 44) (φ := f44) (P := LNetQ 0) rfl g44), (fn_at (C := c49) (f := 26) (φ := f26) (P := LSplQ) rfl g26), (fn_at (C := c49) (f := 21) (φ := f21) (P := LNamQ) rfl g21), (fn_at (C := c49) (f := 27) (φ := f27) (P := SameQ) rfl g27), (fn_at (C := c49) (f := 39) (φ := f39) (P := SpNQ 0) rfl g39), (fn_at (C := c49) (f := 40) (φ := f40) (P := SaysQ) rfl g40), (fn_at (C := c49) (f := 41) (φ := f41) (P := PrmQ 0) rfl g41), (fn_at (C := c49) (f := 42) (φ := f42) (P := PrRQ) rfl g42), (fn_at (C := c49) (f := 14) (φ := f14) (P := TurnQ) rfl g14), (fn_at (C := c49) (f := 46) (φ := f46) (P := TurnNQ 0) rfl g46), (fn_at (C := c49) (f := 47) (φ := f47) (P := IsNQ 0) rfl g47)⟩
end LW
namespace LW
open PySem PySem.Spec PyProof.Rows L2 DS
def clAt (C0 : Addr) : Nat → Addr
  | 0 => C0
  | _ => 0
theorem all_mk {l : PySem.W.OpenLaw} {w : World} {K : PySem.W.Frag} {h : Heap} {mg : Str → Option Value} {fa : Addr} (X : K.In h) (Gh : h.Ns mainGlobals mg) (hfa : mg "law" = some (.ref fa)) (hm : ∀ ns : List Int, ns.length ≤ 63 → (∀ z ∈ ns, Builtin.Int.intBits z ≤ 1048576) → f48 [.rol (ns.map .int)] = .ok (.v (.bl true)))
    {C0 : Addr} (FC0 : FactC K "Net" "Net.__init__" ["points", "core", "ties"] C0 stI0) (F0 : FactE K "low_bit" st0) (F1 : FactE K "is_name" st1) (F2 : FactE K "ordered_points" st2) (F3 : FactE K "core_of_ties" st3) (F4 : FactE K "core_ties" st4) (F5 : FactE K "_law_digits" st5) (F6 : FactE K "_law_cell" st6) (F7 : FactE K "_law_names" st7) (F8 : FactE K "_law_pairs" st8) (F9 : FactE K "_law_masks" st9) (F10 : FactE K "_law_crossed" st10) (F11 : FactE K "_law_has" st11) (F12 : FactE K "_law_grown" st12) (F13 : FactE K "_law_ring" st13) (F14 : FactE K "_law_turned" st14) (F15 : FactE K "_law_without" st15) (F16 : FactE K "_law_press" st16) (F17 : FactE K "_law_shuffled" st17) (F18 : FactE K "_law_permuted" st18) (F19 : FactE K "_law_split_masks_drawn" st19) (F20 : FactE K "_law_ties" st20) (F21 : FactE K "_law_names_of" st21) (F22 : FactE K "_law_subsets" st22) (F23 : FactE K "_law_count" st23) (F24 : FactE K "_law_rank" st24) (F25 : FactE K "_law_cut_rank" st25) (F26 : FactE K "_law_split_masks" st26) (F27 : FactE K "_law_same_sets" st27) (F28 : FactE K "indexes" st28) (F29 : FactM K C0 "names_of" "Net.names_of" st29) (F30 : FactE K "count_bits" st30) (F31 : FactE K "subsets" st31) (F32 : FactE K "reduced_masks" st32) (F33 : FactE K "mask_rank" st33) (F34 : FactE K "far_side" st34) (F35 : FactE K "cut_rows" st35) (F36 : FactE K "core_cut_rank" st36) (F37 : FactE K "core_is_split" st37) (F38 : FactE K "core_splits" st38) (F39 : FactE K "splits" st39) (F40 : FactE K "_law_says" st40) (F41 : FactE K "is_prime" st41) (F42 : FactE K "_law_pressed_row" st42) (F43 : FactM K C0 "place" "Net.place" st43) (F44 : FactE K "_law_net" st44) (F45 : FactE K "made_net" st45) (F46 : FactM K C0 "turned" "Net.turned" st46) (F47 : FactE K "_law_is_net" st47) (F48 : FactE K "law" st48)
    (x0 : ∃ t, PySem.W.nsIn K mainGlobals "LETTERS" = some (some (.str "abcdefghijklmnopqrstuvwxyz" t))) (x1 : ∃ t, PySem.W.nsIn K mainGlobals "DIGITS" = some (some (.str "0123456789" t))) (n0 : ∃ t, PySem.W.nsIn K mainGlobals "LONGEST" = some (some (.int 8 t)))
    (z0 : PySem.W.nsIn K mainGlobals "len" = some none) (z1 : PySem.W.nsIn K mainGlobals "int" = some none) (z2 : PySem.W.nsIn K mainGlobals "tuple" = some none) (z3 : PySem.W.nsIn K mainGlobals "list" = some none) (z4 : PySem.W.nsIn K mainGlobals "sorted" = some none) (z5 : PySem.W.nsIn K mainGlobals "sum" = some none) (z6 : PySem.W.nsIn K mainGlobals "max" = some none) (z7 : PySem.W.nsIn K mainGlobals "min" = some none) (z8 : PySem.W.nsIn K mainGlobals "abs" = some none) (z9 : PySem.W.nsIn K mainGlobals "any" = some none) (z10 : PySem.W.nsIn K mainGlobals "all" = some none) (z11 : PySem.W.nsIn K mainGlobals "isinstance" = some none) (z12 : PySem.W.nsIn K mainGlobals "range" = some none) (z13 : PySem.W.nsIn K mainGlobals "enumerate" = some none) (z14 : PySem.W.nsIn K mainGlobals "zip" = some none) (z15 : PySem.W.nsIn K mainGlobals "bool" = some none) (z16 : PySem.W.nsIn K mainGlobals "str" = some none) :
    ∃ fd : FuncData, (∀ (s : Shared) (u : Value), BindsTo s fd ⟨[u], []⟩ [("_law_script", u)]) ∧ ∀ base : Heap, K.In base → base.Ns mainGlobals mg → FnOk l.prog w K mg base CX0 49 fa fd ["_law_script"] (spLaw K fun ns => ∀ z ∈ ns, Builtin.Int.intBits z ≤ 1048576) := by
  have hmg : ∀ (x : Str) (v : Value), PySem.W.nsIn K mainGlobals x = some (some v) → mg x = some v := fun x v e => PySem.W.mg_of X Gh e
  have hblt : ∀ x ∈ bltNames, mg x = none := by
    intro x hx
    unfold bltNames at hx
    simp only [List.mem_cons, List.not_mem_nil, or_false] at hx
    rcases hx with rfl | rfl | rfl | rfl | rfl | rfl | rfl | rfl | rfl | rfl | rfl | rfl | rfl | rfl | rfl | rfl | rfl
    · exact PySem.W.mg_none_of X Gh z0
    · exact PySem.W.mg_none_of X Gh z1
    · exact PySem.W.mg_none_of X Gh z2
    · exact PySem.W.mg_none_of X Gh z3
    · exact PySem.W.mg_none_of X Gh z4
    · exact PySem.W.mg_none_of X Gh z5
    · exact PySem.W.mg_none_of X Gh z6
    · exact PySem.W.mg_none_of X Gh z7
    · exact PySem.W.mg_none_of X Gh z8
    · exact PySem.W.mg_none_of X Gh z9
    · exact PySem.W.mg_none_of X Gh z10
    · exact PySem.W.mg_none_of X Gh z11
    · exact PySem.W.mg_none_of X Gh z12
    · exact PySem.W.mg_none_of X Gh z13
    · exact PySem.W.mg_none_of X Gh z14
    · exact PySem.W.mg_none_of X Gh z15
    · exact PySem.W.mg_none_of X Gh z16
  obtain ⟨fL, fdL, hL, FL⟩ := F48
  have eL := hmg _ _ hL
  rw [hfa] at eL
  cases eL
  refine ⟨fdL, fun s u => ?_, fun base _ _ => ?_⟩
  · obtain ⟨oc, od, kV, doc, pm, an, cdv, ct, osl, rfl, lk, hcd⟩ := FL.ex
    exact .of_eq rfl
  · have h1 := all_ok (P := l.prog) (w := w) (base := base) (p := ⟨K, clAt C0, flds⟩) rfl rfl hmg hblt (x0.imp fun _ e => hmg _ _ e) (x1.imp fun _ e => hmg _ _ e) (n0.imp fun _ e => hmg _ _ e) FC0 F0 F1 F2 F3 F4 F5 F6 F7 F8 F9 F10 F11 F12 F13 F14 F15 F16 F17 F18 F19 F20 F21 F22 F23 F24 F25 F26 F27 F28 F29 F30 F31 F32 F33 F34 F35 F36 F37 F38 F39 F40 F41 F42 F43 F44 F45 F46 F47 rfl FL
    exact h1.imp (spLaw_of (p := ⟨K, clAt C0, flds⟩) rfl hm)
theorem walk {l : PySem.W.OpenLaw} {q : Program} {loose : List Str} {XP : (Str → Option Value) → Heap → Prop} {YP : World → Heap → Prop} {d : DefRec} {K : Params → PySem.W.Frag} (hn : l.most = some 63) (hdf : d.params.defaults = [])
    (hY : ∀ (w : World) (h : Heap), YP w h → (K w.params).In h)
    (F : ∀ (w : World) (mg : Str → Option Value) (fa : Addr) (h : Heap), (K w.params).In h → h.Ns mainGlobals mg → mg d.name = some (.ref fa) →
      ∃ fd : FuncData, (∀ (s : Shared) (u : Value), BindsTo s fd ⟨[u], []⟩ [("_law_script", u)]) ∧ ∀ base : Heap, (K w.params).In base → base.Ns mainGlobals mg → FnOk l.prog w (K w.params) mg base CX0 49 fa fd ["_law_script"] (spLaw (K w.params) fun ns => ∀ z ∈ ns, Builtin.Int.intBits z ≤ 1048576)) :
    PySem.W.WalkO q loose XP YP l.row.toRowW d [] (fun f vs => PySem.call f vs) := walk_D hn hdf ⟨rfl, by decide, by decide⟩ hY F
end LW
open PySem PySem.W PyProof.Rows in
set_option maxRecDepth 100000 in
set_option maxHeartbeats 0 in
theorem PySem.Challenge.cw_tiepress_k52_splits_whole_holds : PySem.Challenge.rw_tiepress_k52_splits_whole.Holds := by
  w_on; o_law; k_head; (case hw => w_witness2)
  k_fill
  refine LW.walk (l := PySem.Challenge.rw_tiepress_k52_splits_whole) rfl rfl (fun w h Y => PySem.W.kIn_of Y) ?F
  case F =>
    intro w mg fa h KX G hmg
    refine' LW.all_mk KX G hmg (fun ns _ _ => LW.g48 ns) (DS.factC ?c0ns ⟨?c0pg, ?c0hd, ?c0po, ?c0sa⟩ (DS.noA3 ?c0no0 ?c0no1 ?c0no2) ⟨?c0own, ?c0non, ?c0bl, ?c0int, ?c0str, ?c0tup, ?c0lst, ?c0clx, ?c0get, ?c0tk, ?c0mro⟩ ⟨?c0mk, ?c0ini, ?c0fn, ?c0kp⟩ ?c0lk ?c0cd ?c0kf) (DS.factE ?a0 ?l0 ?c0 ?k0) (DS.factE ?a1 ?l1 ?c1 ?k1) (DS.factE ?a2 ?l2 ?c2 ?k2) (DS.factE ?a3 ?l3 ?c3 ?k3) (DS.factE ?a4 ?l4 ?c4 ?k4) (DS.factE ?a5 ?l5 ?c5 ?k5) (DS.factE ?a6 ?l6 ?c6 ?k6) (DS.factE ?a7 ?l7 ?c7 ?k7) (DS.factE ?a8 ?l8 ?c8 ?k8) (DS.factE ?a9 ?l9 ?c9 ?k9) (DS.factE ?a10 ?l10 ?c10 ?k10) (DS.factE ?a11 ?l11 ?c11 ?k11) (DS.factE ?a12 ?l12 ?c12 ?k12) (DS.factE ?a13 ?l13 ?c13 ?k13) (DS.factE ?a14 ?l14 ?c14 ?k14) (DS.factE ?a15 ?l15 ?c15 ?k15) (DS.factE ?a16 ?l16 ?c16 ?k16) (DS.factE ?a17 ?l17 ?c17 ?k17) (DS.factE ?a18 ?l18 ?c18 ?k18) (DS.factE ?a19 ?l19 ?c19 ?k19) (DS.factE ?a20 ?l20 ?c20 ?k20) (DS.factE ?a21 ?l21 ?c21 ?k21) (DS.factE ?a22 ?l22 ?c22 ?k22) (DS.factE ?a23 ?l23 ?c23 ?k23) (DS.factE ?a24 ?l24 ?c24 ?k24) (DS.factE ?a25 ?l25 ?c25 ?k25) (DS.factE ?a26 ?l26 ?c26 ?k26) (DS.factE ?a27 ?l27 ?c27 ?k27) (DS.factE ?a28 ?l28 ?c28 ?k28) (DS.factM ?a29 ?b29 ?l29 ?c29 ?k29) (DS.factE ?a30 ?l30 ?c30 ?k30) (DS.factE ?a31 ?l31 ?c31 ?k31) (DS.factE ?a32 ?l32 ?c32 ?k32) (DS.factE ?a33 ?l33 ?c33 ?k33) (DS.factE ?a34 ?l34 ?c34 ?k34) (DS.factE ?a35 ?l35 ?c35 ?k35) (DS.factE ?a36 ?l36 ?c36 ?k36) (DS.factE ?a37 ?l37 ?c37 ?k37) (DS.factE ?a38 ?l38 ?c38 ?k38) (DS.factE ?a39 ?l39 ?c39 ?k39) (DS.factE ?a40 ?l40 ?c40 ?k40) (DS.factE ?a41 ?l41 ?c41 ?k41) (DS.factE ?a42 ?l42 ?c42 ?k42) (DS.factM ?a43 ?b43 ?l43 ?c43 ?k43) (DS.factE ?a44 ?l44 ?c44 ?k44) (DS.factE ?a45 ?l45 ?c45 ?k45) (DS.factM ?a46 ?b46 ?l46 ?c46 ?k46) (DS.factE ?a47 ?l47 ?c47 ?k47) (DS.factE ?a48 ?l48 ?c48 ?k48) (DS.strK ?x0) (DS.strK ?x1) (DS.intK ?n0) ?z0 ?z1 ?z2 ?z3 ?z4 ?z5 ?z6 ?z7 ?z8 ?z9 ?z10 ?z11 ?z12 ?z13 ?z14 ?z15 ?z16
    (case c0ns => k_is)
    (case c0pg => k_is)
    (case c0hd => k_is)
    (case c0po => k_is)
    (case c0sa => k_is)
    (case c0no0 => k_is)
    (case c0no1 => k_is)
    (case c0no2 => k_is)
    (case c0own => kit_is)
    (case c0non => kit_is)
    (case c0bl => kit_is)
    (case c0int => kit_is)
    (case c0str => kit_is)
    (case c0tup => kit_is)
    (case c0lst => kit_is)
    (case c0clx => k_is)
    (case c0get => k_is)
    (case c0tk => k_is)
    (case c0mro => k_is)
    (case c0mk => k_is)
    (case c0ini => k_is)
    (case c0fn => k_is)
    (case c0kp => k_is)
    (case c0lk => k_is)
    (case c0cd => k_is)
    (case c0kf => k_is)
    (case a0 => k_is)
    (case l0 => k_is)
    (case c0 => k_is)
    (case k0 => k_is)
    (case a1 => k_is)
    (case l1 => k_is)
    (case c1 => k_is)
    (case k1 => k_is)
    (case a2 => k_is)
    (case l2 => k_is)
    (case c2 => k_is)
    (case k2 => k_is)
    (case a3 => k_is)
    (case l3 => k_is)
    (case c3 => k_is)
    (case k3 => k_is)
    (case a4 => k_is)
    (case l4 => k_is)
    (case c4 => k_is)
    (case k4 => k_is)
    (case a5 => k_is)
    (case l5 => k_is)
    (case c5 => k_is)
    (case k5 => k_is)
    (case a6 => k_is)
    (case l6 => k_is)
    (case c6 => k_is)
    (case k6 => k_is)
    (case a7 => k_is)
    (case l7 => k_is)
    (case c7 => k_is)
    (case k7 => k_is)
    (case a8 => k_is)
    (case l8 => k_is)
    (case c8 => k_is)
    (case k8 => k_is)
    (case a9 => k_is)
    (case l9 => k_is)
    (case c9 => k_is)
    (case k9 => k_is)
    (case a10 => k_is)
    (case l10 => k_is)
    (case c10 => k_is)
    (case k10 => k_is)
    (case a11 => k_is)
    (case l11 => k_is)
    (case c11 => k_is)
    (case k11 => k_is)
    (case a12 => k_is)
    (case l12 => k_is)
    (case c12 => k_is)
    (case k12 => k_is)
    (case a13 => k_is)
    (case l13 => k_is)
    (case c13 => k_is)
    (case k13 => k_is)
    (case a14 => k_is)
    (case l14 => k_is)
    (case c14 => k_is)
    (case k14 => k_is)
    (case a15 => k_is)
    (case l15 => k_is)
    (case c15 => k_is)
    (case k15 => k_is)
    (case a16 => k_is)
    (case l16 => k_is)
    (case c16 => k_is)
    (case k16 => k_is)
    (case a17 => k_is)
    (case l17 => k_is)
    (case c17 => k_is)
    (case k17 => k_is)
    (case a18 => k_is)
    (case l18 => k_is)
    (case c18 => k_is)
    (case k18 => k_is)
    (case a19 => k_is)
    (case l19 => k_is)
    (case c19 => k_is)
    (case k19 => k_is)
    (case a20 => k_is)
    (case l20 => k_is)
    (case c20 => k_is)
    (case k20 => k_is)
    (case a21 => k_is)
    (case l21 => k_is)
    (case c21 => k_is)
    (case k21 => k_is)
    (case a22 => k_is)
    (case l22 => k_is)
    (case c22 => k_is)
    (case k22 => k_is)
    (case a23 => k_is)
    (case l23 => k_is)
    (case c23 => k_is)
    (case k23 => k_is)
    (case a24 => k_is)
    (case l24 => k_is)
    (case c24 => k_is)
    (case k24 => k_is)
    (case a25 => k_is)
    (case l25 => k_is)
    (case c25 => k_is)
    (case k25 => k_is)
    (case a26 => k_is)
    (case l26 => k_is)
    (case c26 => k_is)
    (case k26 => k_is)
    (case a27 => k_is)
    (case l27 => k_is)
    (case c27 => k_is)
    (case k27 => k_is)
    (case a28 => k_is)
    (case l28 => k_is)
    (case c28 => k_is)
    (case k28 => k_is)
    (case a29 => k_is)
    (case b29 => k_is)
    (case l29 => k_is)
    (case c29 => k_is)
    (case k29 => k_is)
    (case a30 => k_is)
    (case l30 => k_is)
    (case c30 => k_is)
    (case k30 => k_is)
    (case a31 => k_is)
    (case l31 => k_is)
    (case c31 => k_is)
    (case k31 => k_is)
    (case a32 => k_is)
    (case l32 => k_is)
    (case c32 => k_is)
    (case k32 => k_is)
    (case a33 => k_is)
    (case l33 => k_is)
    (case c33 => k_is)
    (case k33 => k_is)
    (case a34 => k_is)
    (case l34 => k_is)
    (case c34 => k_is)
    (case k34 => k_is)
    (case a35 => k_is)
    (case l35 => k_is)
    (case c35 => k_is)
    (case k35 => k_is)
    (case a36 => k_is)
    (case l36 => k_is)
    (case c36 => k_is)
    (case k36 => k_is)
    (case a37 => k_is)
    (case l37 => k_is)
    (case c37 => k_is)
    (case k37 => k_is)
    (case a38 => k_is)
    (case l38 => k_is)
    (case c38 => k_is)
    (case k38 => k_is)
    (case a39 => k_is)
    (case l39 => k_is)
    (case c39 => k_is)
    (case k39 => k_is)
    (case a40 => k_is)
    (case l40 => k_is)
    (case c40 => k_is)
    (case k40 => k_is)
    (case a41 => k_is)
    (case l41 => k_is)
    (case c41 => k_is)
    (case k41 => k_is)
    (case a42 => k_is)
    (case l42 => k_is)
    (case c42 => k_is)
    (case k42 => k_is)
    (case a43 => k_is)
    (case b43 => k_is)
    (case l43 => k_is)
    (case c43 => k_is)
    (case k43 => k_is)
    (case a44 => k_is)
    (case l44 => k_is)
    (case c44 => k_is)
    (case k44 => k_is)
    (case a45 => k_is)
    (case l45 => k_is)
    (case c45 => k_is)
    (case k45 => k_is)
    (case a46 => k_is)
    (case b46 => k_is)
    (case l46 => k_is)
    (case c46 => k_is)
    (case k46 => k_is)
    (case a47 => k_is)
    (case l47 => k_is)
    (case c47 => k_is)
    (case k47 => k_is)
    (case a48 => k_is)
    (case l48 => k_is)
    (case c48 => k_is)
    (case k48 => k_is)
    (case x0 => kernel_rfl)
    (case x1 => kernel_rfl)
    (case n0 => kernel_rfl)
    (case z0 => k_is)
    (case z1 => k_is)
    (case z2 => k_is)
    (case z3 => k_is)
    (case z4 => k_is)
    (case z5 => k_is)
    (case z6 => k_is)
    (case z7 => k_is)
    (case z8 => k_is)
    (case z9 => k_is)
    (case z10 => k_is)
    (case z11 => k_is)
    (case z12 => k_is)
    (case z13 => k_is)
    (case z14 => k_is)
    (case z15 => k_is)
    (case z16 => k_is)
