import PyProof.Rows.All
import Wide.All
import OpenK.AllK
import Wide.FinOn
import HandS.ForMost
import HandS.ForExc
import HandS.IsInst
import HandS.Style
import HandS.SortInts
import HandS.SortKw
import HandS.Conv
import HandS.EndBits
import KE.KSortKeySt
import HandS.TupAny
import KE.GoesEnum
import HandS.Zip
import HandS.Walk
import HandS.WideBits
import PySem.Challenge.RW_tiepress_k00_ranks_and_reduced_rows
set_option Elab.async false
set_option linter.all false
set_option maxRecDepth 100000
set_option maxHeartbeats 4000000
/-! ## A small language of plain data: values, programs with slots, their evaluator -/
namespace DS
open PySem PySem.Spec PyProof.Rows L2

/-- plain data. rol: a list that is only read (the script) -/
inductive D where
  | non | bl (b : Bool) | int (i : Int) | str (x : Str)
  | tup (xs : List D) | lst (xs : List D) | rol (xs : List D) | ins (c : Nat) (fs : List D)

inductive Out (α : Type) where
  | bad
  | ok (a : α)
  | exc (c : Nat) (fs : List D)
namespace Out
@[reducible] def bnd {α β : Type} (x : Out α) (f : α → Out β) : Out β :=
  match x with
  | bad => bad
  | ok a => f a
  | exc c fs => exc c fs
@[simp] theorem bnd_ok {α β : Type} (a : α) (f : α → Out β) : bnd (ok a) f = f a := rfl
@[simp] theorem bnd_bad {α β : Type} (f : α → Out β) : bnd bad f = bad := rfl
@[simp] theorem bnd_exc {α β : Type} (c : Nat) (fs : List D) (f : α → Out β) : bnd (exc c fs) f = exc c fs := rfl
end Out

/-- an answer: data; a list just made, held by nobody; a list of a slot, looked at -/
inductive Ar where
  | v (x : D) | fr (ds : List D) | br (i : Nat) (ds : List D)
def Ar.view : Ar → D
  | .v d => d | .fr ds => .lst ds | .br _ ds => .lst ds
def Ar.seal : Ar → Ar
  | .v d => .v d | .fr ds => .v (.lst ds) | .br i ds => .br i ds
def Ar.isB : Ar → Bool
  | .br _ _ => true | _ => false
/-- what a slot holds: nothing; data; a list of its own; such a list while a loop walks it; a dict of its own -/
inductive Sl where
  | un | val (d : D) | own (ds : List D) | lock (ds : List D) | dic (kvs : List (Key × D))
def Sl.owns : Sl → Bool
  | .own _ => true | .dic _ => true | _ => false
abbrev En := List Sl

/-! ### operations on data -/
def seqOf : D → Option (List D)
  | .lst xs => some xs | .tup xs => some xs | .rol xs => some xs | _ => none
mutual
def toPD : D → Option PyData
  | .non => some .none | .bl b => some (.bool b) | .int i => some (.int i) | .str x => some (.str x)
  | .tup xs => (toPDs xs).map PyData.tuple
  | .lst xs => (toPDs xs).map PyData.list
  | .rol xs => (toPDs xs).map PyData.list
  | .ins _ _ => none
def toPDs : List D → Option (List PyData)
  | [] => some []
  | d :: ds => match toPD d, toPDs ds with
    | some x, some xs => some (x :: xs)
    | _, _ => none
end
def eqD (x y : D) : Option Bool :=
  match toPD x, toPD y with
  | some a, some b => if SeqAt.shaped a && SeqAt.shaped b then some (PyData.eqv a b) else none
  | _, _ => none
/-- the flat ones as values -/
def flat? : D → Option V
  | .non => some .non | .bl b => some (.bl b) | .int i => some (.int i) | .str x => some (.str x) | _ => none
def flats? : List D → Option (List V)
  | [] => some []
  | d :: ds => match flat? d, flats? ds with
    | some x, some xs => some (x :: xs)
    | _, _ => none
def ints? : List D → Option (List Int)
  | [] => some []
  | .int i :: ds => (ints? ds).map (i :: ·)
  | _ => none
def strs? : List D → Option (List Str)
  | [] => some []
  | .str i :: ds => (strs? ds).map (i :: ·)
  | _ => none
def bls? : List D → Option (List Bool)
  | [] => some []
  | .bl i :: ds => (bls? ds).map (i :: ·)
  | _ => none
mutual
def noL : D → Bool
  | .lst _ => false
  | .rol _ => false
  | .tup xs => noLs xs
  | .ins _ fs => noLs fs
  | .non => true
  | .bl _ => true
  | .int _ => true
  | .str _ => true
def noLs : List D → Bool
  | [] => true
  | d :: ds => noL d && noLs ds
end
def Ar.noL : Ar → Bool
  | .v d => DS.noL d | .fr ds => noLs ds | .br _ _ => false
def truthD : D → Option Bool
  | .non => some false | .bl b => some b | .int i => some (i != 0)
  | .str x => if x.length ≤ sizeLine then some ((x.length : Int) != 0) else none
  | .tup xs => some (!xs.isEmpty) | .lst xs => some (!xs.isEmpty) | .rol xs => some (!xs.isEmpty)
  | .ins _ _ => none
instance (i j : Int) : Decidable (CMul i j) := by unfold CMul; infer_instance
instance (i j : Int) : Decidable (CDiv i j) := by unfold CDiv; infer_instance
instance (i j : Int) : Decidable (CPow i j) := by unfold CPow; infer_instance
def ob {α : Type} : Option α → Out α
  | some a => .ok a
  | none => .bad
def binD (o : Operator) (x y : D) : Out Ar :=
  match o, x, y with
  | .Add, .int i, .int j => .ok (.v (.int (i + j)))
  | .Sub, .int i, .int j => .ok (.v (.int (i - j)))
  | .Mult, .int i, .int j => if CMul i j then .ok (.v (.int (i * j))) else .bad
  | .FloorDiv, .int i, .int j => if CDiv i j then .ok (.v (.int (i / j))) else .bad
  | .Mod, .int i, .int j => if 0 < j then .ok (.v (.int (i % j))) else .bad
  | .Pow, .int i, .int j => if CPow i j then .ok (.v (.int (i ^ j.toNat))) else .bad
  | .LShift, .int i, .int j => if CPow i j then .ok (.v (.int (i * 2 ^ j.toNat))) else .bad
  | .RShift, .int i, .int j => if 0 ≤ j then .ok (.v (.int (i / 2 ^ j.toNat))) else .bad
  | .BitAnd, .int i, .int j => .ok (.v (.int (Builtin.bitAnd i j)))
  | .BitOr, .int i, .int j => .ok (.v (.int (Builtin.bitOr i j)))
  | .BitXor, .int i, .int j => .ok (.v (.int (Builtin.bitXor i j)))
  | .Add, .str i, .str j => if i.length + j.length ≤ sizeLine then .ok (.v (.str (i ++ j))) else .bad
  | .Add, .lst xs, .lst ys => if xs.length + ys.length ≤ sizeLine then .ok (.fr (xs ++ ys)) else .bad
  | .Add, .tup xs, .tup ys => if xs ≠ [] ∧ xs.length + ys.length ≤ sizeLine then .ok (.v (.tup (xs ++ ys))) else .bad
  | .Mult, .lst xs, .int k => if -(2 ^ 63) ≤ k ∧ k < 2 ^ 63 ∧ xs.length * k.toNat ≤ sizeLine then .ok (.fr (List.replicate k.toNat xs).flatten) else .bad
  | _, _, _ => .bad
instance {xs : List D} : Decidable (xs ≠ []) := match xs with
  | [] => .isFalse (fun h => h rfl)
  | _ :: _ => .isTrue (fun h => nomatch h)
def unD (o : UnaryOp) (x : D) : Out Ar :=
  match o, x with
  | .USub, .int i => .ok (.v (.int (-i)))
  | .Invert, .int i => .ok (.v (.int (Builtin.bitNot i)))
  | _, _ => .bad
def inD (x y : D) : Option Bool :=
  match y with
  | .lst ys => match flat? x, flats? ys with
    | some v, some vs => some (inV v vs)
    | _, _ => none
  | .tup ys => match flat? x, flats? ys with
    | some v, some vs => some (inV v vs)
    | _, _ => none
  | .rol ys => match flat? x, flats? ys with
    | some v, some vs => some (inV v vs)
    | _, _ => none
  | .str z => match x with
    | .str w => some (!(Builtin.Str.occurrences z w 0 z.length 1).isEmpty)
    | _ => none
  | _ => none
def cmpD (o : CmpOp) (x y : D) : Option Bool :=
  match o with
  | .Eq => eqD x y
  | .NotEq => (eqD x y).map (!·)
  | .Lt => match x, y with
    | .int i, .int j => some (decide (i < j))
    | _, _ => none
  | .LtE => match x, y with
    | .int i, .int j => some (decide (i ≤ j))
    | _, _ => none
  | .Gt => match x, y with
    | .int i, .int j => some (decide (j < i))
    | _, _ => none
  | .GtE => match x, y with
    | .int i, .int j => some (decide (j ≤ i))
    | _, _ => none
  | .Is => match y with
    | .non => (match x with
      | .non => some true
      | _ => some false)
    | .bl b => (match x with
      | .bl a => some (decide (a = b))
      | _ => none)
    | _ => none
  | .IsNot => match y with
    | .non => (match x with
      | .non => some false
      | _ => some true)
    | .bl b => (match x with
      | .bl a => some (!decide (a = b))
      | _ => none)
    | _ => none
  | .In => inD x y
  | .NotIn => (inD x y).map (!·)
def ixD (x i : D) : Option D :=
  match i with
  | .int k => match x with
    | .lst xs => atI xs k
    | .tup xs => atI xs k
    | .rol xs => atI xs k
    | .str z => if z.length ≤ sizeLine then (atI z.cps.toList k).map fun c => .str ⟨#[c]⟩ else none
    | _ => none
  | _ => none
def partD (b : Bool) (d : D) : Option (Option Int) := if b = true then some none else match d with
  | .int i => some (some i)
  | _ => none
def cutD {α : Type} (xs : List α) (lo hi : Option Int) : List α := (xs.drop (HT.sIx xs.length 0 lo)).take (HT.sIx xs.length xs.length hi - HT.sIx xs.length 0 lo)
def sliceD (x : D) (lo hi : Option (Option Int)) : Out Ar :=
  match lo, hi with
  | some l, some h => (match x with
    | .lst xs => .ok (.fr (cutD xs l h))
    | .rol xs => .ok (.fr (cutD xs l h))
    | .tup xs => if HT.sIx xs.length 0 l = 0 ∧ HT.sIx xs.length xs.length h = xs.length then .ok (.v (.tup xs)) else .ok (.v (.tup (cutD xs l h)))
    | _ => .bad)
  | _, _ => .bad
/-- a class as isinstance asks for it -/
inductive Cl where
  | ty (n : String) | own (c : Nat)
  deriving DecidableEq
def tyD : D → Option String
  | .non => some "NoneType" | .bl _ => some "bool" | .int _ => some "int" | .str _ => some "str"
  | .tup _ => some "tuple" | .lst _ => some "list" | .rol _ => some "list" | .ins _ _ => none
def isiD (x : D) (T : Cl) : Option Bool :=
  match T with
  | .ty n => (tyD x).bind fun t => kitB t n
  | .own _ => none
/-- ints in ascending order -/
def isort (ns : List Int) : List Int := ns.mergeSort fun a b => decide (a ≤ b)
inductive Blt where
  | len | int | tuple | list | sorted | sum | max | min | max2 | min2 | abs | any | all | isi (T : Cl)
  deriving DecidableEq
def bltD (b : Blt) (xs : List D) : Out Ar :=
  match b, xs with
  | .len, [x] => (match seqOf x with
    | some ys => .ok (.v (.int ys.length))
    | none => (match x with
      | .str z => if z.length ≤ sizeLine then .ok (.v (.int z.length)) else .bad
      | _ => .bad))
  | .int, [x] => (match x with
    | .int i => .ok (.v (.int i))
    | .bl k => .ok (.v (.int (if k then 1 else 0)))
    | _ => .bad)
  | .tuple, [x] => (match x with
    | .tup ys => .ok (.v (.tup ys))
    | .lst ys => .ok (.v (.tup ys))
    | .rol ys => .ok (.v (.tup ys))
    | _ => .bad)
  | .list, [x] => (match seqOf x with
    | some ys => .ok (.fr ys)
    | none => .bad)
  | .sorted, [x] => (match x with
    | .lst ys => (match ints? ys with
      | some ns => .ok (.fr ((isort ns).map .int))
      | none => .bad)
    | _ => .bad)
  | .sum, [x] => (match x with
    | .lst ys => (match ints? ys with
      | some ns => .ok (.v (.int ns.sum))
      | none => .bad)
    | _ => .bad)
  | .max2, [.int i, .int j] => .ok (.v (.int (if j > i then j else i)))
  | .min2, [.int i, .int j] => .ok (.v (.int (if j < i then j else i)))
  | .abs, [.int i] => .ok (.v (.int (if i < 0 then -i else i)))
  | .any, [.lst ys] => (match bls? ys with
    | some bs => .ok (.v (.bl (bs.any id)))
    | none => .bad)
  | .all, [.lst ys] => (match bls? ys with
    | some bs => .ok (.v (.bl (bs.all id)))
    | none => .bad)
  | .isi T, [x] => (match isiD x T with
    | some b => .ok (.v (.bl b))
    | none => .bad)
  | _, _ => .bad

/-! ### programs -/
/-- a target; what a loop walks -/
inductive Tg where
  | nm (i : Nat) | tp (is : List Nat)
inductive ItK where
  | seq | range1 | range2 | enum | zip
mutual
inductive IR where
  | slot (i : Nat) | move (i : Nat) | bor (i : Nat)
  | int (n : Int) | bl (b : Bool) | non | str (x : Str)
  | bin (o : Operator) (a b : IR) | un (o : UnaryOp) (a : IR)
  | cmp (o : CmpOp) (a b : IR) | chain (o o' : CmpOp) (a b c : IR)
  | andE (es : IRs) | orE (es : IRs) | notE (a : IR) | ife (c a b : IR)
  | cmpT (o : CmpOp) (a b : IR) | chainT (o o' : CmpOp) (a b c : IR) | inDicT (neg : Bool) (e : IR) (i : Nat)
  | tru (a : IR) | andT (es : IRs) | orT (es : IRs) | notT (a : IR)
  | tup (es : IRs) | lst (es : IRs) | ix (a i : IR) | slice (a lo hi : IR)
  | call (f : Nat) (es : IRs)
  | callK (f : Nat) (perm : List Nat) (es : IRs)
  | blt (b : Blt) (es : IRs)
  | sortRev (e : IR) | sortKey (f : Nat) (e : IR)
  | comp (t : Tg) (own : List Nat) (k : ItK) (es : IRs) (ifs : IR) (e : IR)
  | inDic (neg : Bool) (e : IR) (i : Nat) | getDic (i : Nat) (e : IR)
  | fld (a : IR) (f : Str)
  | make (c : Nat) (es : IRs)
inductive IRs where
  | nil | cons (e : IR) (es : IRs)
end
mutual
inductive SR where
  | set (i : Nat) (e : IR) | setS (i : Nat) (e : IR) | unp (is : List Nat) (e : IR) | par (is : List Nat) (es : IRs)
  | aug (i : Nat) (o : Operator) (e : IR)
  | setIx (i : Nat) (k e : IR) | setDic (i : Nat) (k e : IR) | newDic (i : Nat)
  | app (i : Nat) (e : IR) | expr (e : IR) | ret (e : IR) | retN
  | ife (c : IR) (a b : SRs) | whl (c : IR) (b : SRs)
  | for_ (t : Tg) (k : ItK) (es : IRs) (b : SRs)
  | brk | cont | pass
inductive SRs where
  | nil | cons (s : SR) (ss : SRs)
end
def IR.isNon : IR → Bool
  | .non => true
  | _ => false
def IRs.len : IRs → Nat
  | .nil => 0
  | .cons _ es => es.len + 1

/-! ### the evaluator -/
/-- the defs' meanings; the classes' field names -/
structure Cxt where
  fn : Nat → List D → Out Ar
  fuel : Nat
  fields : Nat → List Str
  make : Nat → List D → Out Ar

def keyD : D → Option Key
  | .int i => some (.inl i)
  | .str x => some (.inr x)
  | _ => none
def putD (kvs : List (Key × D)) (k : Key) (v : D) : List (Key × D) :=
  match kvs with
  | [] => [(k, v)]
  | (q, u) :: r => if q = k then (q, v) :: r else (q, u) :: putD r k v
def getD' (kvs : List (Key × D)) (k : Key) : Option D :=
  match kvs with
  | [] => none
  | (q, u) :: r => if q = k then some u else getD' r k

def zipD : List D → List D → List D
  | a :: as, b :: bs => .tup [a, b] :: zipD as bs
  | _, _ => []
def enumD : Nat → List D → List D
  | _, [] => []
  | n, d :: ds => .tup [.int n, d] :: enumD (n + 1) ds
def rangeD (lo : Int) : Nat → List D
  | 0 => []
  | n + 1 => .int lo :: rangeD (lo + 1) n
def range1D : List D → Option (List D)
  | [.int j] => if -(2 ^ 62) ≤ j ∧ j < 2 ^ 62 then some (rangeD 0 j.toNat) else none
  | _ => none
def range2D : List D → Option (List D)
  | [.int i, .int j] => if -(2 ^ 62) ≤ i ∧ i < 2 ^ 62 ∧ -(2 ^ 62) ≤ j ∧ j < 2 ^ 62 then some (rangeD i (j - i).toNat) else none
  | _ => none
def zip2D : List D → Option (List D)
  | [x, y] => match seqOf x, seqOf y with
    | some xs, some ys => if xs.length = ys.length then some (zipD xs ys) else none
    | _, _ => none
  | _ => none
def seq1D : List D → Option (List D)
  | [x] => seqOf x
  | _ => none
def itD (k : ItK) (xs : List D) : Option (List D) :=
  match k with
  | .seq => seq1D xs
  | .range1 => range1D xs
  | .range2 => range2D xs
  | .enum => (seq1D xs).map (enumD 0)
  | .zip => zip2D xs

def setAll : List Nat → List D → En → En
  | i :: is, d :: ds, σ => setAll is ds (σ.set i (.val d))
  | _, _, σ => σ
def asg (t : Tg) (d : D) (σ : En) : Option En :=
  match t with
  | .nm i => some (σ.set i (.val d))
  | .tp is => match d with
    | .tup ds => if ds.length = is.length then some (setAll is ds σ) else none
    | _ => none
/-- own slots that are looked at -/
def lockers : List Ar → En → List Nat
  | .br i _ :: rs, σ => match σ[i]? with
    | some (.own _) => if i ∈ lockers rs σ then lockers rs σ else i :: lockers rs σ
    | _ => lockers rs σ
  | _ :: rs, σ => lockers rs σ
  | [], _ => []
def okBr : List Ar → En → Bool
  | .br i _ :: rs, σ => (match σ[i]? with
    | some (.own _) => true
    | some (.lock _) => true
    | _ => false) && okBr rs σ
  | _ :: rs, σ => okBr rs σ
  | [], _ => true
def lockAt (σ : En) (i : Nat) : En := match σ[i]? with
  | some (.own ds) => σ.set i (.lock ds)
  | _ => σ
def unlockAt (σ : En) (i : Nat) : En := match σ[i]? with
  | some (.lock ds) => σ.set i (.own ds)
  | _ => σ
def wipeE (σ : En) : List Nat → En
  | [] => σ
  | v :: vs => (wipeE σ vs).set v .un
/-- the slots is of σ as they were in τ -/
def backE (τ σ : En) : List Nat → En
  | [] => σ
  | i :: is => (backE τ σ is).set i (τ.getD i .un)
def noOwn (σ : En) (is : List Nat) : Bool := is.all fun i => match σ[i]? with
  | some (.own _) => false
  | some (.lock _) => false
  | some (.dic _) => false
  | _ => true
def fldD (C : Cxt) (x : D) (f : Str) : Option D :=
  match x with
  | .ins c fs => ((C.fields c).zip fs).lookup f
  | _ => none

/-- a stable sort by keys -/
def kins {α : Type} (k : Int) (a : α) : List (Int × α) → List (Int × α)
  | [] => [(k, a)]
  | q :: r => if k ≤ q.1 then (k, a) :: q :: r else q :: kins k a r
def ksort {α : Type} : List (Int × α) → List (Int × α)
  | [] => []
  | q :: r => kins q.1 q.2 (ksort r)
def keysD (m : List D → Out Ar) : List D → Out (List Int)
  | [] => .ok []
  | d :: ds => (m [d]).bnd fun r => match r with
    | .v (.int k) => (keysD m ds).bnd fun ks => .ok (k :: ks)
    | _ => .bad
def consO : Option D → List D → List D
  | some y, ys => y :: ys
  | none, ys => ys
/-- one turn after another of a comprehension -/
def compLoop (turn : D → En → Out (Option D × En)) : List D → En → Out (List D × En)
  | [], σ => .ok ([], σ)
  | x :: xs, σ => (turn x σ).bnd fun o => (compLoop turn xs o.2).bnd fun z => .ok (consO o.1 z.1, z.2)

def sq (x : Out (Ar × En)) : Out (Ar × En) := x.bnd fun p => .ok (p.1.seal, p.2)
mutual
def ev (C : Cxt) : IR → En → Out (Ar × En)
  | .slot i, σ => match σ[i]? with
    | some (.val d) => .ok (.v d, σ)
    | some (.own ds) => .ok (.v (.lst ds), σ.set i (.val (.lst ds)))
    | _ => .bad
  | .move i, σ => match σ[i]? with
    | some (.val d) => .ok (.v d, σ)
    | some (.own ds) => .ok (.fr ds, σ.set i .un)
    | _ => .bad
  | .bor i, σ => match σ[i]? with
    | some (.val d) => .ok (.v d, σ)
    | some (.own ds) => .ok (.br i ds, σ)
    | some (.lock ds) => .ok (.br i ds, σ)
    | _ => .bad
  | .int n, σ => .ok (.v (.int n), σ)
  | .bl b, σ => .ok (.v (.bl b), σ)
  | .non, σ => .ok (.v .non, σ)
  | .str x, σ => .ok (.v (.str x), σ)
  | .bin o a b, σ => (sq (ev C a σ)).bnd fun (x, σ1) => (sq (ev C b σ1)).bnd fun (y, σ2) => (binD o x.view y.view).bnd fun r => .ok (r, σ2)
  | .un o a, σ => (sq (ev C a σ)).bnd fun (x, σ1) => (unD o x.view).bnd fun r => .ok (r, σ1)
  | .cmp o a b, σ => (sq (ev C a σ)).bnd fun (x, σ1) => (sq (ev C b σ1)).bnd fun (y, σ2) => (ob (cmpD o x.view y.view)).bnd fun r => .ok (.v (.bl r), σ2)
  | .chain o o' a b c, σ => (sq (ev C a σ)).bnd fun (x, σ1) => (sq (ev C b σ1)).bnd fun (y, σ2) => (ob (cmpD o x.view y.view)).bnd fun r =>
      if r = true then (sq (ev C c σ2)).bnd fun (z, σ3) => (ob (cmpD o' y.view z.view)).bnd fun r' => .ok (.v (.bl r'), σ3)
      else .ok (.v (.bl false), σ2)
  | .cmpT o a b, σ => (sq (ev C a σ)).bnd fun (x, σ1) => (sq (ev C b σ1)).bnd fun (y, σ2) => (ob (cmpD o x.view y.view)).bnd fun r => .ok (.v (.bl r), σ2)
  | .chainT o o' a b c, σ => (sq (ev C a σ)).bnd fun (x, σ1) => (sq (ev C b σ1)).bnd fun (y, σ2) => (ob (cmpD o x.view y.view)).bnd fun r =>
      if r = true then (sq (ev C c σ2)).bnd fun (z, σ3) => (ob (cmpD o' y.view z.view)).bnd fun r' => .ok (.v (.bl r'), σ3)
      else .ok (.v (.bl false), σ2)
  | .andE es, σ => evAnd C es σ
  | .orE es, σ => evOr C es σ
  | .tru a, σ => (sq (ev C a σ)).bnd fun (x, σ1) => (ob (truthD x.view)).bnd fun b => .ok (.v (.bl b), σ1)
  | .andT es, σ => evAndT C es σ
  | .orT es, σ => evOrT C es σ
  | .notT a, σ => (ev C a σ).bnd fun (x, σ1) => match x with
    | .v (.bl b) => .ok (.v (.bl (!b)), σ1)
    | _ => .bad
  | .notE a, σ => (sq (ev C a σ)).bnd fun (x, σ1) => match x.view with
    | .bl b => .ok (.v (.bl (!b)), σ1)
    | _ => .bad
  | .ife c a b, σ => (ev C c σ).bnd fun (k, σ1) => match k with
    | .v (.bl k) => if k = true then sq (ev C a σ1) else sq (ev C b σ1)
    | _ => .bad
  | .tup es, σ => (evs C es σ).bnd fun (rs, σ1) => if rs.any Ar.isB then .bad else if rs.length ≤ sizeLine then .ok (.v (.tup (rs.map Ar.view)), σ1) else .bad
  | .lst es, σ => (evs C es σ).bnd fun (rs, σ1) => if rs.any Ar.isB then .bad else if rs.length ≤ sizeLine then .ok (.fr (rs.map Ar.view), σ1) else .bad
  | .ix a i, σ => (sq (ev C a σ)).bnd fun (x, σ1) => (sq (ev C i σ1)).bnd fun (y, σ2) => (ob (ixD x.view y.view)).bnd fun r => .ok (.v r, σ2)
  | .slice a lo hi, σ => (sq (ev C a σ)).bnd fun (x, σ1) => (sq (ev C lo σ1)).bnd fun (l, σ2) => (sq (ev C hi σ2)).bnd fun (h, σ3) => (sliceD x.view (partD lo.isNon l.view) (partD hi.isNon h.view)).bnd fun r => .ok (r, σ3)
  | .call f es, σ => (evs C es σ).bnd fun (rs, σ1) => (C.fn f (rs.map Ar.view)).bnd fun r => if rs.any Ar.isB && !r.noL then .bad else .ok (r, σ1)
  | .callK f perm es, σ => (evs C es σ).bnd fun (rs, σ1) => (C.fn f (perm.map fun j => (rs.map Ar.view).getD j .non)).bnd fun r => if rs.any Ar.isB && !r.noL then .bad else .ok (r, σ1)
  | .blt b es, σ => (evs C es σ).bnd fun (rs, σ1) => (bltD b (rs.map Ar.view)).bnd fun r => .ok (r, σ1)
  | .sortRev e, σ => (sq (ev C e σ)).bnd fun (x, σ1) => match x.view with
    | .lst ys => (match ints? ys with
      | some ns => .ok (.fr ((isort ns).reverse.map .int), σ1)
      | none => .bad)
    | _ => .bad
  | .sortKey f e, σ => (sq (ev C e σ)).bnd fun (x, σ1) => match x.view with
    | .lst ys => (keysD (C.fn f) ys).bnd fun ks => .ok (.fr ((ksort (ks.zip ys)).map (·.2)), σ1)
    | _ => .bad
  | .comp t own k es ifs e, σ => (evs C es σ).bnd fun (rs, σ1) =>
      match itD k (rs.map Ar.view) with
      | none => .bad
      | some xs => if noOwn ((lockers rs σ1).foldl lockAt σ1) own && okBr rs σ1 then
          (compLoop (fun x τ => match asg t x τ with
            | none => .bad
            | some τ1 => (ev C ifs τ1).bnd fun (kv, τ2) => match kv with
              | .v (.bl k) => if k = true then (sq (ev C e τ2)).bnd fun (r, τ3) => if r.isB then .bad else .ok (some r.view, wipeE τ3 own)
                else .ok (none, wipeE τ2 own)
              | _ => .bad) xs (wipeE ((lockers rs σ1).foldl lockAt σ1) own)).bnd fun (ys, σ2) =>
            if ys.length ≤ sizeLine then .ok (.fr ys, (lockers rs σ1).foldr (fun i τ => unlockAt τ i) (backE ((lockers rs σ1).foldl lockAt σ1) σ2 own)) else .bad
        else .bad
  | .inDic neg e i, σ => (sq (ev C e σ)).bnd fun (x, σ1) => match keyD x.view, σ1[i]? with
    | some k, some (.dic kvs) => .ok (.v (.bl (if neg then !(getD' kvs k).isSome else (getD' kvs k).isSome)), σ1)
    | _, _ => .bad
  | .inDicT neg e i, σ => (sq (ev C e σ)).bnd fun (x, σ1) => match keyD x.view, σ1[i]? with
    | some k, some (.dic kvs) => .ok (.v (.bl (if neg then !(getD' kvs k).isSome else (getD' kvs k).isSome)), σ1)
    | _, _ => .bad
  | .getDic i e, σ => (sq (ev C e σ)).bnd fun (x, σ1) => match keyD x.view, σ1[i]? with
    | some k, some (.dic kvs) => (ob (getD' kvs k)).bnd fun r => .ok (.v r, σ1)
    | _, _ => .bad
  | .fld a f, σ => (sq (ev C a σ)).bnd fun (x, σ1) => (ob (fldD C x.view f)).bnd fun r => .ok (.v r, σ1)
  | .make c es, σ => (evs C es σ).bnd fun (rs, σ1) => if rs.any Ar.isB then .bad else (C.make c (rs.map Ar.view)).bnd fun r => .ok (r, σ1)
def evs (C : Cxt) : IRs → En → Out (List Ar × En)
  | .nil, σ => .ok ([], σ)
  | .cons e es, σ => (sq (ev C e σ)).bnd fun (r, σ1) => (evs C es σ1).bnd fun (rs, σ2) => .ok (r :: rs, σ2)
def evAnd (C : Cxt) : IRs → En → Out (Ar × En)
  | .nil, _ => .bad
  | .cons e es, σ => match es with
    | .nil => sq (ev C e σ)
    | .cons _ _ => (sq (ev C e σ)).bnd fun (x, σ1) => match x.view with
      | .bl b => if b = true then evAnd C es σ1 else .ok (.v (.bl false), σ1)
      | _ => .bad
def evOr (C : Cxt) : IRs → En → Out (Ar × En)
  | .nil, _ => .bad
  | .cons e es, σ => match es with
    | .nil => sq (ev C e σ)
    | .cons _ _ => (sq (ev C e σ)).bnd fun (x, σ1) => match x.view with
      | .bl b => if b = true then .ok (.v (.bl true), σ1) else evOr C es σ1
      | _ => .bad
def evAndT (C : Cxt) : IRs → En → Out (Ar × En)
  | .nil, σ => .ok (.v (.bl true), σ)
  | .cons e es, σ => (ev C e σ).bnd fun (x, σ1) => match x with
      | .v (.bl b) => if b = true then evAndT C es σ1 else .ok (.v (.bl false), σ1)
      | _ => .bad
def evOrT (C : Cxt) : IRs → En → Out (Ar × En)
  | .nil, σ => .ok (.v (.bl false), σ)
  | .cons e es, σ => (ev C e σ).bnd fun (x, σ1) => match x with
      | .v (.bl b) => if b = true then .ok (.v (.bl true), σ1) else evOrT C es σ1
      | _ => .bad
end

/-- how a statement ends -/
inductive Fl where
  | nx | bk | ct | rt (r : Ar)
def forLoop (t : Tg) (body : En → Out (Fl × En)) : List D → En → Out (Fl × En)
  | [], σ => .ok (.nx, σ)
  | x :: xs, σ => match asg t x σ with
    | none => .bad
    | some σ1 => (body σ1).bnd fun (f, σ2) => match f with
      | .nx => forLoop t body xs σ2
      | .ct => forLoop t body xs σ2
      | .bk => .ok (.nx, σ2)
      | .rt r => .ok (.rt r, σ2)
def whileLoop (c : En → Out (Ar × En)) (body : En → Out (Fl × En)) : Nat → En → Out (Fl × En)
  | 0, _ => .bad
  | n + 1, σ => (c σ).bnd fun (k, σ1) => match k with
    | .v (.bl k) => if k = true then (body σ1).bnd fun (f, σ2) => (match f with
        | .nx => whileLoop c body n σ2
        | .ct => whileLoop c body n σ2
        | .bk => .ok (.nx, σ2)
        | .rt r => .ok (.rt r, σ2))
      else .ok (.nx, σ1)
    | _ => .bad
def augD (o : Operator) (x y : D) : Out Ar :=
  match o, x, y with
  | .Add, .int i, .int j => .ok (.v (.int (i + j)))
  | .Sub, .int i, .int j => .ok (.v (.int (i - j)))
  | .Mult, .int i, .int j => if CMul i j then .ok (.v (.int (i * j))) else .bad
  | .BitAnd, .int i, .int j => .ok (.v (.int (Builtin.bitAnd i j)))
  | .BitOr, .int i, .int j => .ok (.v (.int (Builtin.bitOr i j)))
  | .BitXor, .int i, .int j => .ok (.v (.int (Builtin.bitXor i j)))
  | .Add, .str i, .str j => if i.length + j.length ≤ sizeLine then .ok (.v (.str (i ++ j))) else .bad
  | _, _, _ => .bad
mutual
def ex (C : Cxt) : SR → En → Out (Fl × En)
  | .set i e, σ => (ev C e σ).bnd fun (r, σ1) => match r with
    | .v d => .ok (.nx, σ1.set i (.val d))
    | .fr ds => .ok (.nx, σ1.set i (.own ds))
    | .br _ _ => .bad
  | .setS i e, σ => (sq (ev C e σ)).bnd fun (r, σ1) => match r with
    | .v d => .ok (.nx, σ1.set i (.val d))
    | _ => .bad
  | .unp is e, σ => (sq (ev C e σ)).bnd fun (r, σ1) => match r with
    | .v (.tup ds) => if ds.length = is.length then .ok (.nx, setAll is ds σ1) else .bad
    | _ => .bad
  | .par is es, σ => (evs C es σ).bnd fun (rs, σ1) => if rs.any Ar.isB then .bad else if rs.length = is.length then .ok (.nx, setAll is (rs.map Ar.view) σ1) else .bad
  | .aug i o e, σ => match σ[i]? with
    | some (.val x) => (sq (ev C e σ)).bnd fun (r, σ1) => (augD o x r.view).bnd fun z => match z with
      | .v d => .ok (.nx, σ1.set i (.val d))
      | _ => .bad
    | _ => .bad
  | .setIx i k e, σ => (sq (ev C e σ)).bnd fun z => match z.1, z.2[i]? with
    | .v d, some (.own _) => (sq (ev C k z.2)).bnd fun q => (match q.2[i]?, q.1.view with
      | some (.own ds), .int n => (match ixN ds.length n with
        | some j => .ok (.nx, q.2.set i (.own (ds.set j d)))
        | none => .bad)
      | _, _ => .bad)
    | _, _ => .bad
  | .setDic i k e, σ => (sq (ev C e σ)).bnd fun z => match z.1, z.2[i]? with
    | .v d, some (.dic _) => (sq (ev C k z.2)).bnd fun q => (match q.2[i]?, keyD q.1.view with
      | some (.dic kvs), some k => if kvs.length < sizeLine then .ok (.nx, q.2.set i (.dic (putD kvs k d))) else .bad
      | _, _ => .bad)
    | _, _ => .bad
  | .newDic i, σ => .ok (.nx, σ.set i (.dic []))
  | .app i e, σ => match σ[i]? with
    | some (.own _) => (sq (ev C e σ)).bnd fun (r, σ1) => (match r, σ1[i]? with
      | .v d, some (.own ds) => if ds.length < sizeLine then .ok (.nx, σ1.set i (.own (ds ++ [d]))) else .bad
      | _, _ => .bad)
    | _ => .bad
  | .expr e, σ => (sq (ev C e σ)).bnd fun (_, σ1) => .ok (.nx, σ1)
  | .ret e, σ => (ev C e σ).bnd fun (r, σ1) => if r.isB then .bad else .ok (.rt r, σ1)
  | .retN, σ => .ok (.rt (.v .non), σ)
  | .ife c a b, σ => (ev C c σ).bnd fun (k, σ1) => match k with
    | .v (.bl k) => if k = true then exs C a σ1 else exs C b σ1
    | _ => .bad
  | .whl c b, σ => whileLoop (ev C c) (exs C b) C.fuel σ
  | .for_ t k es b, σ => (evs C es σ).bnd fun (rs, σ1) => match itD k (rs.map Ar.view) with
    | none => .bad
    | some xs => if okBr rs σ1 then (forLoop t (exs C b) xs ((lockers rs σ1).foldl lockAt σ1)).bnd fun (f, σ2) => .ok (f, (lockers rs σ1).foldr (fun i τ => unlockAt τ i) σ2) else .bad
  | .brk, σ => .ok (.bk, σ)
  | .cont, σ => .ok (.ct, σ)
  | .pass, σ => .ok (.nx, σ)
def exs (C : Cxt) : SRs → En → Out (Fl × En)
  | .nil, σ => .ok (.nx, σ)
  | .cons s ss, σ => (ex C s σ).bnd fun (f, σ1) => match f with
    | .nx => exs C ss σ1
    | .bk => .ok (.bk, σ1)
    | .ct => .ok (.ct, σ1)
    | .rt r => .ok (.rt r, σ1)
end
/-- a def: how many slots, its body -/
structure Df where
  slots : Nat
  arity : Nat
  body : SRs
def run (C : Cxt) (d : Df) (xs : List D) : Out Ar :=
  if xs.length = d.arity then
    (exs C d.body (xs.map Sl.val ++ List.replicate (d.slots - xs.length) .un)).bnd fun (f, _) => match f with
      | .rt r => if r.isB then .bad else .ok r
      | .nx => .ok (.v .non)
      | _ => .bad
  else .bad

/-! ### data in the heap -/
structure Par where
  K : PySem.W.Frag
  cl : Nat → Addr
  fields : Nat → List Str
section
variable (p : Par)
mutual
def Rep (S : Hp) : D → V → Prop
  | .non, v => v = .non
  | .bl b, v => v = .bl b
  | .int i, v => v = .int i
  | .str x, v => v = .str x
  | .tup xs, v => ∃ a vs, v = .ref a ∧ SqT p.K S a vs ∧ Reps S xs vs
  | .lst xs, v => ∃ a vs, v = .ref a ∧ Rd S a (.lst vs) ∧ Reps S xs vs
  | .rol xs, v => ∃ a vs, v = .ref a ∧ SqL p.K S a vs ∧ Reps S xs vs
  | .ins c fs, v => ∃ a dx vs, v = .ref a ∧ S a = some (.ins (p.cl c) dx ((p.fields c).zip vs)) ∧ Reps S fs vs
def Reps (S : Hp) : List D → List V → Prop
  | [], vs => vs = []
  | d :: ds, vs => ∃ v r, vs = v :: r ∧ Rep S d v ∧ Reps S ds r
end
end
def Sub (S S' : Hp) : Prop := ∀ a o, S a = some o → S' a = some o
theorem Sub.refl (S : Hp) : Sub S S := fun _ _ h => h
theorem Sub.trans {A B C : Hp} (x : Sub A B) (y : Sub B C) : Sub A C := fun a o h => y a o (x a o h)
section
variable {p : Par} {S S' : Hp}
theorem Rd.sub (h : Sub S S') {a : Addr} {u : HO} (r : Rd S a u) : Rd S' a u := by
  rcases r with r | ⟨o, r⟩
  · exact .inl (h _ _ r)
  · exact .inr ⟨o, h _ _ r⟩
theorem SqL.sub {K : PySem.W.Frag} (h : Sub S S') {a : Addr} {u : List V} (r : SqL K S a u) : SqL K S' a u := r.imp (DS.Rd.sub h) id
theorem SqT.sub {K : PySem.W.Frag} (h : Sub S S') {a : Addr} {u : List V} (r : SqT K S a u) : SqT K S' a u := r.imp (DS.Rd.sub h) id
mutual
theorem Rep.sub (h : Sub S S') : ∀ (d : D) (v : V), Rep p S d v → Rep p S' d v
  | .non, _, r => r
  | .bl _, _, r => r
  | .int _, _, r => r
  | .str _, _, r => r
  | .tup xs, v, r => by
    obtain ⟨a, vs, e, q, rr⟩ := (show ∃ a vs, v = .ref a ∧ SqT p.K S a vs ∧ Reps p S xs vs from r)
    exact ⟨a, vs, e, DS.SqT.sub h q, Reps.sub h xs vs rr⟩
  | .lst xs, v, r => by
    obtain ⟨a, vs, e, q, rr⟩ := (show ∃ a vs, v = .ref a ∧ Rd S a (.lst vs) ∧ Reps p S xs vs from r)
    exact ⟨a, vs, e, DS.Rd.sub h q, Reps.sub h xs vs rr⟩
  | .rol xs, v, r => by
    obtain ⟨a, vs, e, q, rr⟩ := (show ∃ a vs, v = .ref a ∧ SqL p.K S a vs ∧ Reps p S xs vs from r)
    exact ⟨a, vs, e, DS.SqL.sub h q, Reps.sub h xs vs rr⟩
  | .ins c fs, v, r => by
    obtain ⟨a, dx, vs, e, q, rr⟩ := (show ∃ a dx vs, v = .ref a ∧ S a = some (.ins (p.cl c) dx ((p.fields c).zip vs)) ∧ Reps p S fs vs from r)
    exact ⟨a, dx, vs, e, h _ _ q, Reps.sub h fs vs rr⟩
theorem Reps.sub (h : Sub S S') : ∀ (ds : List D) (vs : List V), Reps p S ds vs → Reps p S' ds vs
  | [], _, r => r
  | d :: ds, vs, r => by
    obtain ⟨v, q, e, r1, r2⟩ := (show ∃ v q, vs = v :: q ∧ Rep p S d v ∧ Reps p S ds q from r)
    exact ⟨v, q, e, Rep.sub h d v r1, Reps.sub h ds q r2⟩
end
theorem Reps.length : ∀ {ds : List D} {vs : List V}, Reps p S ds vs → ds.length = vs.length
  | [], _, r => by
    cases (show _ = [] from r)
    rfl
  | d :: ds, vs, r => by
    obtain ⟨v, q, e, r1, r2⟩ := (show ∃ v q, vs = v :: q ∧ Rep p S d v ∧ Reps p S ds q from r)
    subst e
    exact congrArg (· + 1) (Reps.length r2)
theorem Reps.get : ∀ {ds : List D} {vs : List V} {i : Nat} {d : D}, Reps p S ds vs → ds[i]? = some d → ∃ v, vs[i]? = some v ∧ Rep p S d v
  | [], _, _, _, r, h => by simp at h
  | d :: ds, vs, i, d', r, h => by
    obtain ⟨v, q, e, r1, r2⟩ := (show ∃ v q, vs = v :: q ∧ Rep p S d v ∧ Reps p S ds q from r)
    subst e
    cases i with
    | zero => simp at h; subst h; exact ⟨v, rfl, r1⟩
    | succ i => exact Reps.get (i := i) r2 (by simpa using h)
theorem Reps.get' : ∀ {ds : List D} {vs : List V} {i : Nat} {v : V}, Reps p S ds vs → vs[i]? = some v → ∃ d, ds[i]? = some d ∧ Rep p S d v
  | [], vs, _, _, r, h => by
    cases (show vs = [] from r)
    simp at h
  | d :: ds, vs, i, v', r, h => by
    obtain ⟨v, q, e, r1, r2⟩ := (show ∃ v q, vs = v :: q ∧ Rep p S d v ∧ Reps p S ds q from r)
    subst e
    cases i with
    | zero => simp at h; subst h; exact ⟨d, rfl, r1⟩
    | succ i => exact Reps.get' (i := i) r2 (by simpa using h)
theorem Reps.append : ∀ {ds es : List D} {vs us : List V}, Reps p S ds vs → Reps p S es us → Reps p S (ds ++ es) (vs ++ us)
  | [], _, vs, _, r, q => by
    cases (show vs = [] from r)
    exact q
  | d :: ds, es, vs, us, r, q => by
    obtain ⟨v, q', e, r1, r2⟩ := (show ∃ v q, vs = v :: q ∧ Rep p S d v ∧ Reps p S ds q from r)
    subst e
    exact ⟨v, q' ++ us, rfl, r1, Reps.append r2 q⟩
theorem Reps.one {d : D} {v : V} (r : Rep p S d v) : Reps p S [d] [v] := ⟨v, [], rfl, r, rfl⟩
theorem Reps.set : ∀ {ds : List D} {vs : List V} (i : Nat) {d : D} {v : V}, Reps p S ds vs → Rep p S d v → Reps p S (ds.set i d) (vs.set i v)
  | [], vs, _, _, _, r, _ => by
    cases (show vs = [] from r)
    exact rfl
  | d :: ds, vs, i, d', v', r, q => by
    obtain ⟨v, q', e, r1, r2⟩ := (show ∃ v q, vs = v :: q ∧ Rep p S d v ∧ Reps p S ds q from r)
    subst e
    cases i with
    | zero => exact ⟨v', q', rfl, q, r2⟩
    | succ i => exact ⟨v, q'.set i v', rfl, r1, Reps.set i r2 q⟩
theorem Reps.drop : ∀ {ds : List D} {vs : List V} (n : Nat), Reps p S ds vs → Reps p S (ds.drop n) (vs.drop n)
  | ds, vs, 0, r => r
  | [], vs, n + 1, r => by
    cases (show vs = [] from r)
    exact rfl
  | d :: ds, vs, n + 1, r => by
    obtain ⟨v, q', e, r1, r2⟩ := (show ∃ v q, vs = v :: q ∧ Rep p S d v ∧ Reps p S ds q from r)
    subst e
    exact Reps.drop n r2
theorem Reps.take : ∀ {ds : List D} {vs : List V} (n : Nat), Reps p S ds vs → Reps p S (ds.take n) (vs.take n)
  | ds, vs, 0, r => rfl
  | [], vs, n + 1, r => by
    cases (show vs = [] from r)
    exact rfl
  | d :: ds, vs, n + 1, r => by
    obtain ⟨v, q', e, r1, r2⟩ := (show ∃ v q, vs = v :: q ∧ Rep p S d v ∧ Reps p S ds q from r)
    subst e
    exact ⟨v, q'.take n, rfl, r1, Reps.take n r2⟩
theorem Reps.cut {ds : List D} {vs : List V} (lo hi : Option Int) (r : Reps p S ds vs) : Reps p S (cutD ds lo hi) (cutV vs lo hi) := by
  unfold cutD cutV
  rw [r.length]
  exact (r.drop _).take _
theorem Reps.rep {ds : List D} {vs : List V} (r : Reps p S ds vs) : ∀ n : Nat, Reps p S (List.replicate n ds).flatten (List.replicate n vs).flatten
  | 0 => rfl
  | n + 1 => by
    rw [List.replicate_succ, List.replicate_succ, List.flatten_cons, List.flatten_cons]
    exact r.append (Reps.rep r n)
theorem Reps.ints : ∀ {ns : List Int} {vs : List V}, Reps p S (ns.map D.int) vs ↔ vs = ns.map V.int
  | [], vs => Iff.rfl
  | n :: ns, vs => by
    constructor
    · intro r
      obtain ⟨v, q, e, r1, r2⟩ := (show ∃ v q, vs = v :: q ∧ Rep p S (.int n) v ∧ Reps p S (ns.map D.int) q from r)
      cases (show v = .int n from r1)
      rw [e, Reps.ints.mp r2]
      rfl
    · intro e
      exact ⟨.int n, ns.map V.int, e, rfl, Reps.ints.mpr rfl⟩
theorem ints?_eq : ∀ {ds : List D} {ns : List Int}, ints? ds = some ns → ds = ns.map D.int
  | [], ns, h => by
    simp [ints?] at h
    subst h
    rfl
  | d :: ds, ns, h => by
    cases d with
    | int i =>
      simp only [ints?, Option.map_eq_some_iff] at h
      obtain ⟨ms, h1, h2⟩ := h
      subst h2
      rw [ints?_eq h1]
      rfl
    | _ => simp [ints?] at h
theorem bls?_eq : ∀ {ds : List D} {ns : List Bool}, bls? ds = some ns → ds = ns.map D.bl
  | [], ns, h => by
    simp [bls?] at h
    subst h
    rfl
  | d :: ds, ns, h => by
    cases d with
    | bl i =>
      simp only [bls?, Option.map_eq_some_iff] at h
      obtain ⟨ms, h1, h2⟩ := h
      subst h2
      rw [bls?_eq h1]
      rfl
    | _ => simp [bls?] at h
theorem Reps.bls : ∀ {ns : List Bool} {vs : List V}, Reps p S (ns.map D.bl) vs → vs = ns.map V.bl
  | [], vs, r => r
  | n :: ns, vs, r => by
    obtain ⟨v, q, e, r1, r2⟩ := (show ∃ v q, vs = v :: q ∧ Rep p S (.bl n) v ∧ Reps p S (ns.map D.bl) q from r)
    cases (show v = .bl n from r1)
    rw [e, Reps.bls r2]
    rfl
theorem flat?_rep : ∀ {d : D} {v w : V}, flat? d = some w → Rep p S d v → v = w ∧ flatV w = true
  | .non, v, w, h, r => by
    cases h
    exact ⟨r, rfl⟩
  | .bl b, v, w, h, r => by
    cases h
    exact ⟨r, rfl⟩
  | .int b, v, w, h, r => by
    cases h
    exact ⟨r, rfl⟩
  | .str b, v, w, h, r => by
    cases h
    exact ⟨r, rfl⟩
  | .tup _, v, w, h, r => by cases h
  | .lst _, v, w, h, r => by cases h
  | .rol _, v, w, h, r => by cases h
  | .ins _ _, v, w, h, r => by cases h
theorem flats?_rep : ∀ {ds : List D} {vs ws : List V}, flats? ds = some ws → Reps p S ds vs → vs = ws ∧ ws.all flatV = true
  | [], vs, ws, h, r => by
    simp [flats?] at h
    subst h
    exact ⟨r, rfl⟩
  | d :: ds, vs, ws, h, r => by
    obtain ⟨v, q, e, r1, r2⟩ := (show ∃ v q, vs = v :: q ∧ Rep p S d v ∧ Reps p S ds q from r)
    simp only [flats?] at h
    split at h
    · rename_i x xs h1 h2
      cases h
      obtain ⟨e1, f1⟩ := flat?_rep h1 r1
      obtain ⟨e2, f2⟩ := flats?_rep h2 r2
      subst e1 e2
      exact ⟨e, by simp [f1, f2]⟩
    · cases h
mutual
theorem toPD_rep {K : PySem.W.Frag} (hK : p.K = K) : ∀ {d : D} {v : V} {x : PyData}, toPD d = some x → Rep p S d v → Dp K S v x
  | .non, v, x, h, r => by
    cases h
    cases (show v = _ from r)
    exact .non
  | .bl b, v, x, h, r => by
    cases h
    cases (show v = _ from r)
    exact .bl b
  | .int i, v, x, h, r => by
    cases h
    cases (show v = _ from r)
    exact .int i
  | .str i, v, x, h, r => by
    cases h
    cases (show v = _ from r)
    exact .str i
  | .tup xs, v, x, h, r => by
    obtain ⟨a, vs, e, q, rr⟩ := (show ∃ a vs, v = .ref a ∧ SqT p.K S a vs ∧ Reps p S xs vs from r)
    simp only [toPD, Option.map_eq_some_iff] at h
    obtain ⟨ys, h1, h2⟩ := h
    subst h2 e hK
    exact .tup q (toPDs_rep rfl h1 rr)
  | .lst xs, v, x, h, r => by
    obtain ⟨a, vs, e, q, rr⟩ := (show ∃ a vs, v = .ref a ∧ Rd S a (.lst vs) ∧ Reps p S xs vs from r)
    simp only [toPD, Option.map_eq_some_iff] at h
    obtain ⟨ys, h1, h2⟩ := h
    subst h2 e
    exact .lst (.inl q) (toPDs_rep hK h1 rr)
  | .rol xs, v, x, h, r => by
    obtain ⟨a, vs, e, q, rr⟩ := (show ∃ a vs, v = .ref a ∧ SqL p.K S a vs ∧ Reps p S xs vs from r)
    simp only [toPD, Option.map_eq_some_iff] at h
    obtain ⟨ys, h1, h2⟩ := h
    subst h2 e hK
    exact .lst q (toPDs_rep rfl h1 rr)
  | .ins _ _, v, x, h, r => by cases h
theorem toPDs_rep {K : PySem.W.Frag} (hK : p.K = K) : ∀ {ds : List D} {vs : List V} {xs : List PyData}, toPDs ds = some xs → Reps p S ds vs → DpAll K S vs xs
  | [], vs, xs, h, r => by
    simp only [toPDs, Option.some.injEq] at h
    cases (show vs = [] from r)
    subst h
    exact .nil
  | d :: ds, vs, xs, h, r => by
    obtain ⟨v, q, e, r1, r2⟩ := (show ∃ v q, vs = v :: q ∧ Rep p S d v ∧ Reps p S ds q from r)
    simp only [toPDs] at h
    split at h
    · rename_i y ys h1 h2
      cases h
      subst e
      exact .cons (toPD_rep hK h1 r1) (toPDs_rep hK h2 r2)
    · cases h
end
end
end DS
/-! ## The state: slots, heap -/
namespace DS
open PySem PySem.Spec PyProof.Rows L2

/-- the heap at the entry, what was sealed there; which list a slot is locked at -/
structure Dy where
  H0 : Hp
  S0 : Hp
  lk : Nat → Option Addr

def RepKs (p : Par) (S : Hp) : List (Key × D) → List (Key × V) → Prop
  | [], vs => vs = []
  | (k, d) :: ds, vs => ∃ v r, vs = (k, v) :: r ∧ Rep p S d v ∧ RepKs p S ds r
theorem RepKs.sub {p : Par} {S S' : Hp} (h : Sub S S') : ∀ {ds : List (Key × D)} {vs : List (Key × V)}, RepKs p S ds vs → RepKs p S' ds vs
  | [], _, r => r
  | (k, d) :: ds, vs, r => by
    obtain ⟨v, q, e, r1, r2⟩ := (show ∃ v r, vs = (k, v) :: r ∧ Rep p S d v ∧ RepKs p S ds r from r)
    exact ⟨v, q, e, Rep.sub h d v r1, RepKs.sub h r2⟩

def SlOk (p : Par) (y : Dy) (S H : Hp) (i : Nat) (o : Option (Option V)) : Sl → Prop
  | .un => True
  | .val d => ∃ v, o = some (some v) ∧ Rep p S d v
  | .own ds => ∃ l vs, o = some (some (.ref l)) ∧ H l = some (.lst vs) ∧ S l = none ∧ y.H0 l = none ∧ Reps p S ds vs
  | .lock ds => ∃ l vs, o = some (some (.ref l)) ∧ y.lk i = some l ∧ y.H0 l = some (.lst vs) ∧ S l = none ∧ Reps p S ds vs
  | .dic kvs => ∃ l kv, o = some (some (.ref l)) ∧ H l = some (.dK kv) ∧ S l = none ∧ y.H0 l = none ∧ RepKs p S kvs kv

structure Stt (p : Par) (y : Dy) (S : Hp) (σ : L2.St) (H : Hp) (ρ : En) : Prop where
  sub : Sub S H
  same : Sub y.H0 H
  sub0 : Sub y.S0 S
  old : ∀ a : Addr, y.H0 a ≠ none → S a = y.S0 a
  len : ρ.length = σ.length
  lk : ∀ (j : Nat) (l : Addr), y.lk j = some l → y.H0 l ≠ none
  sl : ∀ (i : Nat) (s : Sl), ρ[i]? = some s → SlOk p y S H i σ[i]? s
  sep : ∀ (i j : Nat) (s t : Sl) (l : Addr), ρ[i]? = some s → ρ[j]? = some t → s.owns = true → t.owns = true → σ[i]? = some (some (.ref l)) → σ[j]? = some (some (.ref l)) → i = j

/-- nobody's -/
def Free (σ : L2.St) (ρ : En) (l : Addr) : Prop := ∀ (i : Nat) (s : Sl), ρ[i]? = some s → s.owns = true → σ[i]? ≠ some (some (.ref l))

def RepA (p : Par) (y : Dy) (S : Hp) (σ : L2.St) (H : Hp) (ρ : En) : Ar → V → Prop
  | .v d, v => Rep p S d v
  | .fr ds, v => ∃ l vs, v = .ref l ∧ H l = some (.lst vs) ∧ S l = none ∧ y.H0 l = none ∧ Reps p S ds vs ∧ Free σ ρ l
  | .br i ds, v => ∃ l vs, v = .ref l ∧ σ[i]? = some (some (.ref l)) ∧ H l = some (.lst vs) ∧ Reps p S ds vs
/-- as it is looked at -/
def RepV (p : Par) (S H : Hp) : D → V → Prop
  | .lst ds, v => ∃ l vs, v = .ref l ∧ Rd H l (.lst vs) ∧ Reps p S ds vs
  | d, v => Rep p S d v

section
variable {p : Par} {y : Dy} {S S' : Hp} {σ : L2.St} {H H' : Hp} {ρ : En}
theorem RepA.viewV (st : Stt p y S σ H ρ) : ∀ {r : Ar} {v : V}, RepA p y S σ H ρ r v → RepV p S H r.view v
  | .v d, v, h => by
    cases d with
    | lst ds =>
      obtain ⟨a, vs, e, q, rr⟩ := (show ∃ a vs, v = .ref a ∧ Rd S a (.lst vs) ∧ Reps p S ds vs from h)
      exact ⟨a, vs, e, DS.Rd.sub st.sub q, rr⟩
    | _ => exact h
  | .fr ds, v, h => by
    obtain ⟨l, vs, e, h1, _, _, r, _⟩ := h
    exact ⟨l, vs, e, .inl h1, r⟩
  | .br i ds, v, h => by
    obtain ⟨l, vs, e, _, h1, r⟩ := h
    exact ⟨l, vs, e, .inl h1, r⟩
theorem RepV.mono (hS : Sub S S') (hH : Sub H H') : ∀ {d : D} {v : V}, RepV p S H d v → RepV p S' H' d v
  | .lst ds, v, h => by
    obtain ⟨l, vs, e, q, r⟩ := h
    exact ⟨l, vs, e, DS.Rd.sub hH q, Reps.sub hS _ _ r⟩
  | .non, v, h => h
  | .bl _, v, h => h
  | .int _, v, h => h
  | .str _, v, h => h
  | .tup xs, v, h => Rep.sub hS (.tup xs) v h
  | .rol xs, v, h => Rep.sub hS (.rol xs) v h
  | .ins c fs, v, h => Rep.sub hS (.ins c fs) v h
/-- sealed or looked at: what stays -/
theorem RepA.mono {y' : Dy} {ρ' : En} (hS : Sub S S') (hH : Sub H H') : ∀ {r : Ar} {v : V}, r.seal = r → RepA p y S σ H ρ r v → RepA p y' S' σ H' ρ' r v
  | .v d, v, _, h => Rep.sub hS d v h
  | .fr ds, v, e, h => nomatch e
  | .br i ds, v, _, h => by
    obtain ⟨l, vs, e, q0, q, r⟩ := h
    exact ⟨l, vs, e, q0, hH _ _ q, Reps.sub hS _ _ r⟩
theorem Ar.seal_seal (r : Ar) : r.seal.seal = r.seal := by cases r <;> rfl
theorem Ar.view_seal (r : Ar) : r.seal.view = r.view := by cases r <;> rfl

theorem SlOk.grow (hS : Sub S S') (hH : Sub H H') (hn : ∀ a, H a ≠ none → S' a = S a) (hsam : Sub y.H0 H) {i : Nat} {o : Option (Option V)} : ∀ {s : Sl}, SlOk p y S H i o s → SlOk p y S' H' i o s
  | .un, h => h
  | .val d, ⟨v, e, r⟩ => ⟨v, e, Rep.sub hS d v r⟩
  | .own ds, ⟨l, vs, e, h1, h2, h3, r⟩ => ⟨l, vs, e, hH _ _ h1, (hn l (by rw [h1]; simp)).trans h2, h3, Reps.sub hS _ _ r⟩
  | .lock ds, ⟨l, vs, e, h1, h2, h3, r⟩ => ⟨l, vs, e, h1, h2, (hn l (by rw [hsam _ _ h2]; simp)).trans h3, Reps.sub hS _ _ r⟩
  | .dic kvs, ⟨l, vs, e, h1, h2, h3, r⟩ => ⟨l, vs, e, hH _ _ h1, (hn l (by rw [h1]; simp)).trans h2, h3, RepKs.sub hS r⟩
/-- new things stand, some of them sealed -/
theorem Stt.grow (st : Stt p y S σ H ρ) (hS : Sub S S') (hH : Sub H H') (hSH : Sub S' H') (hn : ∀ a, H a ≠ none → S' a = S a) : Stt p y S' σ H' ρ where
  sub := hSH
  same := st.same.trans hH
  sub0 := st.sub0.trans hS
  old := fun a h => (hn a (by
    cases q : y.H0 a with
    | none => exact absurd q h
    | some o => rw [st.same _ _ q]; simp)).trans (st.old a h)
  len := st.len
  lk := st.lk
  sl := fun i s e => SlOk.grow hS hH hn st.same (st.sl i s e)
  sep := st.sep
/-- a new thing, sealed -/
theorem Stt.newS (st : Stt p y S σ H ρ) {a : Addr} {o : HO} (ha : H a = none) : Stt p y (upd S a o) σ (upd H a o) ρ ∧ Sub S (upd S a o) ∧ Sub H (upd H a o) := by
  have hSa : S a = none := by
    cases q : S a with
    | none => rfl
    | some u => rw [st.sub _ _ q] at ha; cases ha
  have h1 : Sub S (upd S a o) := fun b u h => by rw [upd_ne (ne_of_none h hSa)]; exact h
  have h2 : Sub H (upd H a o) := fun b u h => by rw [upd_ne (ne_of_none h ha)]; exact h
  refine ⟨st.grow h1 h2 (fun b u h => ?_) fun b hb => ?_, h1, h2⟩
  · by_cases e : b = a
    · subst e
      rw [upd_same] at h ⊢
      exact h
    · rw [upd_ne e] at h ⊢
      exact st.sub _ _ h
  · rw [upd_ne (fun e => hb (by rw [e]; exact ha))]
/-- a new thing, not sealed -/
theorem Stt.newF (st : Stt p y S σ H ρ) {a : Addr} {o : HO} (ha : H a = none) : Stt p y S σ (upd H a o) ρ ∧ Sub H (upd H a o) := by
  have h2 : Sub H (upd H a o) := fun b u h => by rw [upd_ne (ne_of_none h ha)]; exact h
  exact ⟨st.grow (Sub.refl _) h2 (st.sub.trans h2) fun _ _ => rfl, h2⟩
theorem Stt.none0 (st : Stt p y S σ H ρ) {a : Addr} (ha : H a = none) : S a = none ∧ y.H0 a = none := by
  constructor
  · cases q : S a with
    | none => rfl
    | some u => rw [st.sub _ _ q] at ha; cases ha
  · cases q : y.H0 a with
    | none => rfl
    | some u => rw [st.same _ _ q] at ha; cases ha
/-- a fresh list's answer -/
theorem Stt.freshA (st : Stt p y S σ H ρ) {a : Addr} {vs : List V} {ds : List D} (ha : H a = none) (r : Reps p S ds vs) : RepA p y S σ (upd H a (.lst vs)) ρ (.fr ds) (.ref a) := by
  refine ⟨a, vs, rfl, upd_same, (st.none0 ha).1, (st.none0 ha).2, r, fun i s e ho q => ?_⟩
  have h := st.sl i s e
  cases s with
  | own ds' =>
    obtain ⟨l, us, e1, e2, _⟩ := (show SlOk p y S H i σ[i]? (.own ds') from h)
    rw [e1] at q
    cases q
    rw [ha] at e2
    cases e2
  | dic ds' =>
    obtain ⟨l, us, e1, e2, _⟩ := (show SlOk p y S H i σ[i]? (.dic ds') from h)
    rw [e1] at q
    cases q
    rw [ha] at e2
    cases e2
  | _ => cases ho
/-- a list of nobody is sealed -/
theorem Stt.sealF (st : Stt p y S σ H ρ) {l : Addr} {vs : List V} (h1 : H l = some (.lst vs)) (h2 : S l = none) (h3 : y.H0 l = none) (hf : Free σ ρ l) :
    Stt p y (upd S l (.lst vs)) σ H ρ ∧ Sub S (upd S l (.lst vs)) := by
  have hs : Sub S (upd S l (.lst vs)) := fun b u h => by rw [upd_ne (ne_of_none h h2)]; exact h
  refine ⟨⟨fun b u h => ?_, st.same, st.sub0.trans hs, fun a h => ?_, st.len, st.lk, fun i s e => ?_, st.sep⟩, hs⟩
  · by_cases e : b = l
    · subst e
      rw [upd_same] at h
      rw [h1]
      exact h
    · rw [upd_ne e] at h
      exact st.sub _ _ h
  · rw [upd_ne (fun e => h (by rw [e]; exact h3))]
    exact st.old a h
  · have q := st.sl i s e
    cases s with
    | un => trivial
    | val d =>
      obtain ⟨v, e1, r⟩ := q
      exact ⟨v, e1, Rep.sub hs d v r⟩
    | own ds =>
      obtain ⟨l', us, e1, e2, e3, e4, r⟩ := q
      exact ⟨l', us, e1, e2, by rw [upd_ne (fun z => hf i _ e rfl (by rw [e1, z]))]; exact e3, e4, Reps.sub hs _ _ r⟩
    | lock ds =>
      obtain ⟨l', us, e1, e2, e3, e4, r⟩ := q
      exact ⟨l', us, e1, e2, e3, by rw [upd_ne (fun z => by rw [z, h3] at e3; cases e3)]; exact e4, Reps.sub hs _ _ r⟩
    | dic ds =>
      obtain ⟨l', us, e1, e2, e3, e4, r⟩ := q
      exact ⟨l', us, e1, e2, by rw [upd_ne (fun z => hf i _ e rfl (by rw [e1, z]))]; exact e3, e4, RepKs.sub hs r⟩
/-- an answer is sealed -/
theorem Stt.sealA (st : Stt p y S σ H ρ) : ∀ {r : Ar} {v : V}, RepA p y S σ H ρ r v → ∃ S', Stt p y S' σ H ρ ∧ Sub S S' ∧ RepA p y S' σ H ρ r.seal v
  | .v d, v, h => ⟨S, st, Sub.refl _, h⟩
  | .br i d, v, h => ⟨S, st, Sub.refl _, h⟩
  | .fr ds, v, h => by
    obtain ⟨l, vs, e, h1, h2, h3, r, hf⟩ := h
    obtain ⟨st', hs⟩ := st.sealF h1 h2 h3 hf
    exact ⟨_, st', hs, l, vs, e, .inl upd_same, Reps.sub hs _ _ r⟩
theorem Stt.dropSlot (st : Stt p y S σ H ρ) (i : Nat) : Stt p y S σ H (ρ.set i .un) where
  sub := st.sub
  same := st.same
  sub0 := st.sub0
  old := st.old
  len := by rw [List.length_set]; exact st.len
  lk := st.lk
  sl := fun j s e => by
    by_cases h : i = j
    · subst h
      by_cases hl : i < ρ.length
      · rw [List.getElem?_set_self hl] at e
        cases e
        trivial
      · rw [List.getElem?_eq_none (by rw [List.length_set]; omega)] at e
        cases e
    · rw [List.getElem?_set_ne h] at e
      exact st.sl j s e
  sep := fun j k s t l e1 e2 o1 o2 q1 q2 => by
    have f : ∀ {j : Nat} {s : Sl}, (ρ.set i .un)[j]? = some s → s.owns = true → ρ[j]? = some s := fun {j s} e o => by
      by_cases h : i = j
      · subst h
        by_cases hl : i < ρ.length
        · rw [List.getElem?_set_self hl] at e
          cases e
          cases o
        · rw [List.getElem?_eq_none (by rw [List.length_set]; omega)] at e
          cases e
      · rw [List.getElem?_set_ne h] at e
        exact e
    exact st.sep j k s t l (f e1 o1) (f e2 o2) o1 o2 q1 q2
theorem Stt.lt (st : Stt p y S σ H ρ) {i : Nat} {s : Sl} (e : ρ[i]? = some s) : i < ρ.length := (List.getElem?_eq_some_iff.mp e).1
theorem Stt.sepSet (st : Stt p y S σ H ρ) {i : Nat} {s : Sl} (ho : s.owns = true → ∃ s0, ρ[i]? = some s0 ∧ s0.owns = true) :
    ∀ (j k : Nat) (s' t : Sl) (l : Addr), (ρ.set i s)[j]? = some s' → (ρ.set i s)[k]? = some t → s'.owns = true → t.owns = true → σ[j]? = some (some (.ref l)) → σ[k]? = some (some (.ref l)) → j = k := fun j k s' t l e1 e2 o1 o2 q1 q2 => by
    have f : ∀ {j : Nat} {s' : Sl}, (ρ.set i s)[j]? = some s' → s'.owns = true → ∃ s0, ρ[j]? = some s0 ∧ s0.owns = true := fun {j s'} e o => by
      by_cases h : i = j
      · subst h
        by_cases hl : i < ρ.length
        · rw [List.getElem?_set_self hl] at e
          cases e
          exact ho o
        · rw [List.getElem?_eq_none (by rw [List.length_set]; omega)] at e
          cases e
      · rw [List.getElem?_set_ne h] at e
        exact ⟨s', e, o⟩
    obtain ⟨s1, a1, b1⟩ := f e1 o1
    obtain ⟨s2, a2, b2⟩ := f e2 o2
    exact st.sep j k s1 s2 l a1 a2 b1 b2 q1 q2
/-- the slot's value as it is, told otherwise -/
theorem Stt.retell (st : Stt p y S σ H ρ) {i : Nat} {s : Sl} (hs : i < ρ.length → SlOk p y S H i σ[i]? s) (ho : s.owns = true → ∃ s0, ρ[i]? = some s0 ∧ s0.owns = true) : Stt p y S σ H (ρ.set i s) where
  sub := st.sub
  same := st.same
  sub0 := st.sub0
  old := st.old
  len := by rw [List.length_set]; exact st.len
  lk := st.lk
  sl := fun j t e => by
    by_cases h : i = j
    · subst h
      by_cases hl : i < ρ.length
      · rw [List.getElem?_set_self hl] at e
        cases e
        exact hs hl
      · rw [List.getElem?_eq_none (by rw [List.length_set]; omega)] at e
        cases e
    · rw [List.getElem?_set_ne h] at e
      exact st.sl j t e
  sep := st.sepSet ho
/-- a slot is set to a value -/
theorem Stt.put (st : Stt p y S σ H ρ) {i : Nat} {s : Sl} {v : V} (hs : SlOk p y S H i (some (some v)) s) (ho : s.owns = true → ∃ l, v = .ref l ∧ Free σ ρ l) : Stt p y S (σ.set i (some v)) H (ρ.set i s) where
  sub := st.sub
  same := st.same
  sub0 := st.sub0
  old := st.old
  len := by rw [List.length_set, List.length_set]; exact st.len
  lk := st.lk
  sl := fun j t e => by
    by_cases h : i = j
    · subst h
      by_cases hl : i < ρ.length
      · rw [List.getElem?_set_self hl] at e
        cases e
        rw [List.getElem?_set_self (by rw [← st.len]; exact hl)]
        exact hs
      · rw [List.getElem?_eq_none (by rw [List.length_set]; omega)] at e
        cases e
    · rw [List.getElem?_set_ne h] at e
      rw [List.getElem?_set_ne h]
      exact st.sl j t e
  sep := fun j k s' t l e1 e2 o1 o2 q1 q2 => by
    by_cases hl : i < ρ.length
    · by_cases hj : i = j
      · by_cases hk : i = k
        · omega
        · exfalso
          subst hj
          rw [List.getElem?_set_self hl] at e1
          cases e1
          obtain ⟨l', e, hf⟩ := ho o1
          rw [List.getElem?_set_self (by rw [← st.len]; exact hl)] at q1
          cases q1
          cases e
          rw [List.getElem?_set_ne hk] at e2 q2
          exact hf k t e2 o2 q2
      · by_cases hk : i = k
        · exfalso
          subst hk
          rw [List.getElem?_set_self hl] at e2
          cases e2
          obtain ⟨l', e, hf⟩ := ho o2
          rw [List.getElem?_set_self (by rw [← st.len]; exact hl)] at q2
          cases q2
          cases e
          rw [List.getElem?_set_ne hj] at e1 q1
          exact hf j s' e1 o1 q1
        · rw [List.getElem?_set_ne hj] at e1 q1
          rw [List.getElem?_set_ne hk] at e2 q2
          exact st.sep j k s' t l e1 e2 o1 o2 q1 q2
    · have hl' : σ.length ≤ i := by rw [← st.len]; omega
      rw [List.set_eq_of_length_le (by omega)] at e1 e2
      rw [List.set_eq_of_length_le hl'] at q1 q2
      exact st.sep j k s' t l e1 e2 o1 o2 q1 q2
theorem Stt.putVal (st : Stt p y S σ H ρ) (i : Nat) {d : D} {v : V} (r : Rep p S d v) : Stt p y S (σ.set i (some v)) H (ρ.set i (.val d)) := st.put ⟨v, rfl, r⟩ fun z => nomatch z
theorem Stt.putOwn (st : Stt p y S σ H ρ) (i : Nat) {ds : List D} {v : V} (r : RepA p y S σ H ρ (.fr ds) v) : Stt p y S (σ.set i (some v)) H (ρ.set i (.own ds)) := by
  obtain ⟨l, vs, e, h1, h2, h3, r, hf⟩ := r
  subst e
  exact st.put ⟨l, vs, rfl, h1, h2, h3, r⟩ fun _ => ⟨l, rfl, hf⟩
/-- an own list is written -/
theorem Stt.write (st : Stt p y S σ H ρ) {i : Nat} {s s' : Sl} {l : Addr} {u : HO} (e : ρ[i]? = some s) (ho : s.owns = true) (hl : σ[i]? = some (some (.ref l))) (h2 : S l = none) (h3 : y.H0 l = none)
    (hs : SlOk p y S (upd H l u) i σ[i]? s') (ho' : s'.owns = true) : Stt p y S σ (upd H l u) (ρ.set i s') := by
  have st1 : Stt p y S σ (upd H l u) (ρ.set i .un) := by
    refine ⟨fun b o h => ?_, fun b o h => ?_, st.sub0, st.old, by rw [List.length_set]; exact st.len, st.lk, fun j t q => ?_, (st.dropSlot i).sep⟩
    · rw [upd_ne (ne_of_none h h2)]
      exact st.sub _ _ h
    · rw [upd_ne (ne_of_none h h3)]
      exact st.same _ _ h
    · by_cases hij : i = j
      · subst hij
        rw [List.getElem?_set_self (st.lt e)] at q
        cases q
        trivial
      · rw [List.getElem?_set_ne hij] at q
        have r := st.sl j t q
        have ne : ∀ l', t.owns = true → σ[j]? = some (some (.ref l')) → l' ≠ l := fun l' o z w => hij (st.sep i j s t l e q ho o hl (by rw [← w]; exact z))
        cases t with
        | un => trivial
        | val d => exact r
        | own ds =>
          obtain ⟨l', us, e1, e2, r⟩ := r
          exact ⟨l', us, e1, by rw [upd_ne (ne l' rfl e1)]; exact e2, r⟩
        | lock ds => exact r
        | dic ds =>
          obtain ⟨l', us, e1, e2, r⟩ := r
          exact ⟨l', us, e1, by rw [upd_ne (ne l' rfl e1)]; exact e2, r⟩
  refine ⟨st1.sub, st1.same, st1.sub0, st1.old, by rw [List.length_set]; exact st.len, st.lk, fun j t q => ?_, st.sepSet fun _ => ⟨s, e, ho⟩⟩
  · by_cases hij : i = j
    · subst hij
      rw [List.getElem?_set_self (st.lt e)] at q
      cases q
      exact hs
    · rw [List.getElem?_set_ne hij] at q
      exact st1.sl j t (by rw [List.getElem?_set_ne hij]; exact q)

/-! ### locks -/
def Dy.locked (y : Dy) (i : Nat) (l : Addr) (vs : List V) : Dy := { H0 := upd y.H0 l (.lst vs), S0 := y.S0, lk := fun j => if j = i then some l else y.lk j }
theorem Stt.lock1 (st : Stt p y S σ H ρ) {i : Nat} {ds : List D} (e : ρ[i]? = some (.own ds)) :
    ∃ l vs, σ[i]? = some (some (.ref l)) ∧ H l = some (.lst vs) ∧ y.H0 l = none ∧ Stt p (y.locked i l vs) S σ H (ρ.set i (.lock ds)) := by
  obtain ⟨l, vs, h1, h2, h3, h4, h5⟩ := (show SlOk p y S H i σ[i]? (.own ds) from st.sl i _ e)
  refine ⟨l, vs, h1, h2, h4, ?_⟩
  have hlt := st.lt e
  refine ⟨st.sub, fun a o q => ?_, st.sub0, fun a q => ?_, by rw [List.length_set]; exact st.len, fun j l' q => ?_, fun j s q => ?_, st.sepSet fun z => nomatch z⟩
  · have q : upd y.H0 l (.lst vs) a = some o := q
    by_cases z : a = l
    · subst z
      rw [upd_same] at q
      rw [h2]
      exact q
    · rw [upd_ne z] at q
      exact st.same _ _ q
  · have q : upd y.H0 l (.lst vs) a ≠ none := q
    by_cases z : a = l
    · subst z
      show S a = y.S0 a
      rw [h3]
      cases w : y.S0 a with
      | none => rfl
      | some o =>
        have := st.sub0 _ _ w
        rw [h3] at this
        cases this
    · rw [upd_ne z] at q
      exact st.old a q
  · have q : (if j = i then some l else y.lk j) = some l' := q
    show upd y.H0 l (.lst vs) l' ≠ none
    by_cases z : l' = l
    · subst z
      rw [upd_same]
      simp
    · rw [upd_ne z]
      split at q
      · cases q
        exact absurd rfl z
      · exact st.lk j l' q
  · by_cases z : i = j
    · subst z
      rw [List.getElem?_set_self hlt] at q
      cases q
      exact ⟨l, vs, h1, by show (if i = i then some l else y.lk i) = some l; rw [if_pos rfl], upd_same, h3, h5⟩
    · rw [List.getElem?_set_ne z] at q
      have r := st.sl j s q
      have ne : ∀ l', s.owns = true → σ[j]? = some (some (.ref l')) → l' ≠ l := fun l' o a w => z (st.sep i j _ s l e q rfl o h1 (by rw [← w]; exact a))
      cases s with
      | un => trivial
      | val d => exact r
      | own ds' =>
        obtain ⟨l', us, e1, e2, e3, e4, r⟩ := r
        exact ⟨l', us, e1, e2, e3, by show upd y.H0 l (.lst vs) l' = none; rw [upd_ne (ne l' rfl e1)]; exact e4, r⟩
      | lock ds' =>
        obtain ⟨l', us, e1, e2, e3, e4, r⟩ := r
        refine ⟨l', us, e1, ?_, ?_, e4, r⟩
        · show (if j = i then some l else y.lk j) = some l'
          rw [if_neg (fun w => z w.symm)]
          exact e2
        · show upd y.H0 l (.lst vs) l' = some (.lst us)
          rw [upd_ne (ne_of_none e3 h4)]
          exact e3
      | dic ds' =>
        obtain ⟨l', us, e1, e2, e3, e4, r⟩ := r
        exact ⟨l', us, e1, e2, e3, by show upd y.H0 l (.lst vs) l' = none; rw [upd_ne (ne l' rfl e1)]; exact e4, r⟩
theorem Stt.unlock1 {i : Nat} {l : Addr} {vs : List V} (h4 : y.H0 l = none) (hlk : ∀ (j : Nat) (l' : Addr), y.lk j = some l' → y.H0 l' ≠ none) (hlj : ∀ a o, y.S0 a = some o → y.S0 a = some o)
    (st : Stt p (y.locked i l vs) S σ H ρ) : Stt p y S σ H (unlockAt ρ i) := by
  have hup : ∀ a, y.H0 a ≠ none → (y.locked i l vs).H0 a ≠ none := fun a q => by
    show upd y.H0 l (.lst vs) a ≠ none
    rw [upd_ne (fun z => q (by rw [z]; exact h4))]
    exact q
  have hsub : Sub y.H0 (y.locked i l vs).H0 := fun a o q => by
    show upd y.H0 l (.lst vs) a = some o
    rw [upd_ne (ne_of_none q h4)]
    exact q
  have slo : ∀ (j : Nat) (s : Sl), i ≠ j ∨ (∀ ds, s ≠ .lock ds) → SlOk p (y.locked i l vs) S H j σ[j]? s → SlOk p y S H j σ[j]? s := fun j s hj r => by
    cases s with
    | un => trivial
    | val d => exact r
    | own ds' =>
      obtain ⟨l', us, e1, e2, e3, e4, r⟩ := r
      refine ⟨l', us, e1, e2, e3, ?_, r⟩
      cases q : y.H0 l' with
      | none => rfl
      | some o => exact absurd e4 (hup l' (by rw [q]; simp))
    | lock ds' =>
      rcases hj with hj | hj
      · obtain ⟨l', us, e1, e2, e3, e4, r⟩ := r
        have e2' : y.lk j = some l' := by
          have e2 : (if j = i then some l else y.lk j) = some l' := e2
          rw [if_neg (fun w => hj w.symm)] at e2
          exact e2
        refine ⟨l', us, e1, e2', ?_, e4, r⟩
        have e3 : upd y.H0 l (.lst vs) l' = some (.lst us) := e3
        rw [upd_ne (fun w => hlk j l' e2' (by rw [w]; exact h4))] at e3
        exact e3
      · exact absurd rfl (hj ds')
    | dic ds' =>
      obtain ⟨l', us, e1, e2, e3, e4, r⟩ := r
      refine ⟨l', us, e1, e2, e3, ?_, r⟩
      cases q : y.H0 l' with
      | none => rfl
      | some o => exact absurd e4 (hup l' (by rw [q]; simp))
  have base : ∀ (ρ' : En), ρ'.length = ρ.length → (∀ (j : Nat) (s : Sl), ρ'[j]? = some s → SlOk p y S H j σ[j]? s) →
      (∀ (j k : Nat) (s t : Sl) (l' : Addr), ρ'[j]? = some s → ρ'[k]? = some t → s.owns = true → t.owns = true → σ[j]? = some (some (.ref l')) → σ[k]? = some (some (.ref l')) → j = k) → Stt p y S σ H ρ' := fun ρ' hl h1 h2 =>
    ⟨st.sub, hsub.trans st.same, st.sub0, fun a q => st.old a (hup a q), hl.trans st.len, hlk, h1, h2⟩
  unfold unlockAt
  split
  · rename_i ds hd
    obtain ⟨l', us, e1, e2, e3, e4, r⟩ := (show SlOk p (y.locked i l vs) S H i σ[i]? (.lock ds) from st.sl i _ hd)
    have e2 : (if i = i then some l else y.lk i) = some l' := e2
    rw [if_pos rfl] at e2
    cases e2
    have hlt := st.lt hd
    have nol : ∀ (j : Nat) (t : Sl), i ≠ j → ρ[j]? = some t → t.owns = true → σ[j]? ≠ some (some (.ref l)) := fun j t hj ht ho z => by
      have q := st.sl j t ht
      have hne : (y.locked i l vs).H0 l ≠ none := by rw [e3]; simp
      cases t with
      | own ds' =>
        obtain ⟨l2, _, a1, _, _, a4, _⟩ := q
        rw [a1] at z
        cases z
        exact hne a4
      | dic ds' =>
        obtain ⟨l2, _, a1, _, _, a4, _⟩ := q
        rw [a1] at z
        cases z
        exact hne a4
      | _ => cases ho
    refine base _ (by rw [List.length_set]) (fun j s q => ?_) fun j k s t l' q1 q2 o1 o2 z1 z2 => ?_
    · by_cases z : i = j
      · subst z
        rw [List.getElem?_set_self hlt] at q
        cases q
        exact ⟨l, us, e1, st.same _ _ e3, e4, h4, r⟩
      · rw [List.getElem?_set_ne z] at q
        exact slo j s (.inl z) (st.sl j s q)
    · by_cases w1 : i = j
      · by_cases w2 : i = k
        · omega
        · exfalso
          subst w1
          rw [e1] at z1
          cases z1
          rw [List.getElem?_set_ne w2] at q2
          exact nol k t w2 q2 o2 z2
      · by_cases w2 : i = k
        · exfalso
          subst w2
          rw [e1] at z2
          cases z2
          rw [List.getElem?_set_ne w1] at q1
          exact nol j s w1 q1 o1 z1
        · rw [List.getElem?_set_ne w1] at q1
          rw [List.getElem?_set_ne w2] at q2
          exact st.sep j k s t l' q1 q2 o1 o2 z1 z2
  · rename_i hd
    refine base ρ rfl (fun j s q => slo j s ?_ (st.sl j s q)) st.sep
    by_cases z : i = j
    · subst z
      exact .inr fun ds w => hd ds (by rw [q, w])
    · exact .inl z
theorem lockers_own : ∀ (rs : List Ar) (ρ : En), (lockers rs ρ).Nodup ∧ (∀ i ∈ lockers rs ρ, ∃ ds, ρ[i]? = some (.own ds)) ∧ ∀ i ds ds', Ar.br i ds ∈ rs → ρ[i]? = some (.own ds') → i ∈ lockers rs ρ
  | [], ρ => ⟨List.nodup_nil, (fun i h => nomatch h), (fun i ds ds' h => nomatch h)⟩
  | .v d :: rs, ρ => by
    obtain ⟨h1, h2, h3⟩ := lockers_own rs ρ
    refine ⟨h1, h2, fun i ds ds' h => ?_⟩
    rcases List.mem_cons.mp h with z | z
    · cases z
    · exact h3 i ds ds' z
  | .fr d :: rs, ρ => by
    obtain ⟨h1, h2, h3⟩ := lockers_own rs ρ
    refine ⟨h1, h2, fun i ds ds' h => ?_⟩
    rcases List.mem_cons.mp h with z | z
    · cases z
    · exact h3 i ds ds' z
  | .br j e :: rs, ρ => by
    obtain ⟨h1, h2, h3⟩ := lockers_own rs ρ
    by_cases hd : ∃ ds, ρ[j]? = some (.own ds)
    · obtain ⟨ds0, hd⟩ := hd
      have eq : lockers (.br j e :: rs) ρ = if j ∈ lockers rs ρ then lockers rs ρ else j :: lockers rs ρ := by
        show (match ρ[j]? with | some (.own _) => _ | _ => _) = _
        rw [hd]
      rw [eq]
      split
      · rename_i hm
        refine ⟨h1, h2, fun i ds ds' h q => ?_⟩
        rcases List.mem_cons.mp h with z | z
        · cases z
          exact hm
        · exact h3 i ds ds' z q
      · rename_i hm
        refine ⟨List.nodup_cons.mpr ⟨hm, h1⟩, fun i hi => ?_, fun i ds ds' h q => ?_⟩
        · rcases List.mem_cons.mp hi with z | z
          · rw [z]
            exact ⟨ds0, hd⟩
          · exact h2 i z
        · rcases List.mem_cons.mp h with z | z
          · cases z
            exact List.mem_cons_self
          · exact List.mem_cons_of_mem _ (h3 i ds ds' z q)
    · have eq : lockers (.br j e :: rs) ρ = lockers rs ρ := by
        show (match ρ[j]? with | some (.own _) => _ | _ => _) = _
        split
        · rename_i ds q
          exact absurd ⟨ds, q⟩ hd
        · rfl
      rw [eq]
      refine ⟨h1, h2, fun i ds ds' h q => ?_⟩
      rcases List.mem_cons.mp h with z | z
      · cases z
        exact absurd ⟨ds', q⟩ hd
      · exact h3 i ds ds' z q
theorem Free.unlock1 {i : Nat} {l l' : Addr} {vs : List V} (st : Stt p (y.locked i l vs) S σ H ρ) (h : (y.locked i l vs).H0 l' = none) (hf : Free σ ρ l') : Free σ (unlockAt ρ i) l' := by
  unfold unlockAt
  split
  · rename_i ds hd
    obtain ⟨l2, us, e1, e2, e3, e4, r⟩ := (show SlOk p (y.locked i l vs) S H i σ[i]? (.lock ds) from st.sl i _ hd)
    intro j s q o z
    by_cases w : i = j
    · subst w
      rw [e1] at z
      cases z
      rw [h] at e3
      cases e3
    · rw [List.getElem?_set_ne w] at q
      exact hf j s q o z
  · exact hf
/-- the locks are opened again -/
def Back (p : Par) (y y1 : Dy) (ls : List Nat) : Prop := ∀ (S' : Hp) (σ' : L2.St) (H' : Hp) (ρ' : En), Stt p y1 S' σ' H' ρ' → Stt p y S' σ' H' (ls.foldr (fun i τ => unlockAt τ i) ρ') ∧
  ∀ l, y1.H0 l = none → Free σ' ρ' l → Free σ' (ls.foldr (fun i τ => unlockAt τ i) ρ') l
/-- several, one after another -/
theorem Stt.locks : ∀ (ls : List Nat) {y : Dy} {ρ : En}, ls.Nodup → (∀ i ∈ ls, ∃ ds, ρ[i]? = some (.own ds)) → Stt p y S σ H ρ → ∃ y1, Stt p y1 S σ H (ls.foldl lockAt ρ) ∧ Sub y.H0 y1.H0 ∧ Back p y y1 ls ∧
    (∀ i ∈ ls, ∀ l, σ[i]? = some (some (.ref l)) → ∃ vs, H l = some (.lst vs) ∧ y1.H0 l = some (.lst vs))
  | [], y, ρ, _, _, st => ⟨y, st, Sub.refl _, fun _ _ _ _ st' => ⟨st', fun _ _ h => h⟩, fun i hi => nomatch hi⟩
  | i :: ls, y, ρ, hn, ho, st => by
    obtain ⟨ds, hd⟩ := ho i List.mem_cons_self
    obtain ⟨hni, hn'⟩ := List.nodup_cons.mp hn
    obtain ⟨l, vs, h1, h2, h3, st1⟩ := st.lock1 hd
    have e : lockAt ρ i = ρ.set i (.lock ds) := by unfold lockAt; rw [hd]
    obtain ⟨y1, st2, hs, hb, hp⟩ := Stt.locks ls hn' (fun j hj => by
      obtain ⟨ds', q⟩ := ho j (List.mem_cons_of_mem _ hj)
      exact ⟨ds', by rw [List.getElem?_set_ne (fun z => hni (by rw [z]; exact hj))]; exact q⟩) st1
    have h0 : Sub y.H0 (y.locked i l vs).H0 := fun a o q => by
      show upd y.H0 l (.lst vs) a = some o
      rw [upd_ne (ne_of_none q h3)]
      exact q
    have hpin : y1.H0 l = some (.lst vs) := hs _ _ (by show upd y.H0 l (.lst vs) l = _; rw [upd_same])
    refine ⟨y1, by show Stt p y1 S σ H (ls.foldl lockAt (lockAt ρ i)); rw [e]; exact st2, h0.trans hs, fun S' σ' H' ρ' st' => ⟨Stt.unlock1 h3 st.lk (fun _ _ q => q) (hb _ _ _ _ st').1, fun l' q hf => ?_⟩, fun j hj l' q2 => ?_⟩
    · refine Free.unlock1 (hb _ _ _ _ st').1 ?_ ((hb _ _ _ _ st').2 l' q hf)
      cases z : (y.locked i l vs).H0 l' with
      | none => rfl
      | some o => rw [hs _ _ z] at q; cases q
    rcases List.mem_cons.mp hj with w | w
    · subst w
      rw [h1] at q2
      cases q2
      exact ⟨vs, h2, hpin⟩
    · exact hp j w l' q2
end
end DS
/-! ## Operations: from the layer's rules to data -/
namespace DS
open PySem PySem.Spec PyProof.Rows L2

abbrev FinQ (p : Par) (y : Dy) (σ : L2.St) (S H : Hp) (Q : VK) : Ar × En → Prop :=
  fun r => ∀ v H' S', Stt p y S' σ H' r.2 → Sub S S' → Sub H H' → RepA p y S' σ H' r.2 r.1 v → Q v H'

section
variable {p : Par} {y : Dy} {S S' : Hp} {σ : L2.St} {H H' : Hp} {ρ : En} {Q : VK}
theorem FinQ.sub {r : Ar × En} (h : FinQ p y σ S H Q r) (hS : Sub S S') (hH : Sub H H') : FinQ p y σ S' H' Q r :=
  fun v H2 S2 st a b q => h v H2 S2 st (hS.trans a) (hH.trans b) q
theorem FinQ.val {d : D} {v : V} (h : FinQ p y σ S H Q (.v d, ρ)) (st : Stt p y S σ H ρ) (r : Rep p S d v) : Q v H :=
  h v H S st (Sub.refl _) (Sub.refl _) r
theorem FinQ.lst {ds : List D} {vs : List V} (h : FinQ p y σ S H Q (.fr ds, ρ)) (st : Stt p y S σ H ρ) (r : Reps p S ds vs) : ∀ a, H a = none → Q (.ref a) (upd H a (.lst vs)) := fun a ha => by
  obtain ⟨st', hH⟩ := st.newF (o := .lst vs) ha
  exact h _ _ S st' (Sub.refl _) hH (st.freshA ha r)
theorem FinQ.tup {ds : List D} {vs : List V} (h : FinQ p y σ S H Q (.v (.tup ds), ρ)) (st : Stt p y S σ H ρ) (r : Reps p S ds vs) : ∀ a, H a = none → Q (.ref a) (upd H a (.tup vs)) := fun a ha => by
  obtain ⟨st', hS, hH⟩ := st.newS (o := .tup vs) ha
  exact h _ _ _ st' hS hH ⟨a, vs, rfl, .inl (.inl upd_same), Reps.sub hS _ _ r⟩

/-- over the heap itself -/
theorem RepV.rep (hSH : Sub S H) : ∀ {d : D} {v : V}, RepV p S H d v → Rep p H d v
  | .lst ds, v, h => by
    obtain ⟨l, vs, e, q, r⟩ := h
    exact ⟨l, vs, e, q, Reps.sub hSH _ _ r⟩
  | .non, v, h => h
  | .bl _, v, h => h
  | .int _, v, h => h
  | .str _, v, h => h
  | .tup xs, v, h => Rep.sub hSH (.tup xs) v h
  | .rol xs, v, h => Rep.sub hSH (.rol xs) v h
  | .ins c fs, v, h => Rep.sub hSH (.ins c fs) v h
theorem RepV.lst' {ds : List D} {v : V} (h : RepV p S H (.lst ds) v) : ∃ l vs, v = .ref l ∧ Rd H l (.lst vs) ∧ Reps p S ds vs := h
theorem RepV.tup' {ds : List D} {v : V} (hSH : Sub S H) (h : RepV p S H (.tup ds) v) : ∃ l vs, v = .ref l ∧ SqT p.K H l vs ∧ Reps p S ds vs := by
  obtain ⟨a, vs, e, q, r⟩ := (show ∃ a vs, v = .ref a ∧ SqT p.K S a vs ∧ Reps p S ds vs from h)
  exact ⟨a, vs, e, DS.SqT.sub hSH q, r⟩
theorem RepV.rol' {ds : List D} {v : V} (hSH : Sub S H) (h : RepV p S H (.rol ds) v) : ∃ l vs, v = .ref l ∧ SqL p.K H l vs ∧ Reps p S ds vs := by
  obtain ⟨a, vs, e, q, r⟩ := (show ∃ a vs, v = .ref a ∧ SqL p.K S a vs ∧ Reps p S ds vs from h)
  exact ⟨a, vs, e, DS.SqL.sub hSH q, r⟩
theorem RepV.seq {d : D} {ds : List D} {v : V} (hSH : Sub S H) (e : seqOf d = some ds) (h : RepV p S H d v) : ∃ l vs, v = .ref l ∧ (SqL p.K H l vs ∨ SqT p.K H l vs) ∧ Reps p S ds vs := by
  cases d with
  | lst xs =>
    cases e
    obtain ⟨l, vs, e, q, r⟩ := h.lst'
    exact ⟨l, vs, e, .inl (.inl q), r⟩
  | tup xs =>
    cases e
    obtain ⟨l, vs, e, q, r⟩ := h.tup' hSH
    exact ⟨l, vs, e, .inr q, r⟩
  | rol xs =>
    cases e
    obtain ⟨l, vs, e, q, r⟩ := h.rol' hSH
    exact ⟨l, vs, e, .inl q, r⟩
  | _ => cases e
end

/-! ### list + list, list * int over what is read -/
section
variable {X : Cx}
theorem Inv.lstR {pins : List (Addr × Obj)} {σ : L2.St} {H : Hp} {s : Shared} {a : Addr} {xs : List V} (I : Inv X pins σ H s) (here : Rd H a (.lst xs)) : xs.length ≤ sizeLine ∧ ∃ (vs : List Value) (e : Nat), Vals xs vs ∧ xs.length = vs.length ∧ s.heap.get? a = some { cls := .type "list", data := .seq vs.toArray e } := by
  have ok := here.ok I.hok
  obtain ⟨few, vs, e, rel, get⟩ := ok
  exact ⟨few, vs, e, rel, rel.length, get⟩
def rCatR : R2 := fun x y H Q => ∃ l b xs zs, x = .ref l ∧ y = .ref b ∧ Rd H l (.lst xs) ∧ Rd H b (.lst zs) ∧ xs.length + zs.length ≤ sizeLine ∧ ∀ p, H p = none → Q (.ref p) (upd H p (.lst (xs ++ zs)))
theorem op_catR : OpR X (binaryOp .Add) rCatR := by
  rintro pins σ₁ σ₂ H x y v u Q I rx ry ⟨one, two, as, bs, rfl, rfl, H1, H2, few, give⟩
  cases rx; cases ry
  obtain ⟨-, p1, n1, v1, c1, g1⟩ := DS.Inv.lstR I H1
  obtain ⟨-, p2, n2, v2, c2, g2⟩ := DS.Inv.lstR I H2
  have end_ := I.lnew (t' := σ₁.toks) (v1.append v2) (by simpa using few)
  rw [← List.append_toArray] at end_
  have fin : EP X pins σ₂ Q (.ref σ₁.heap.objs.size) _ := ⟨.ref _, _, end_, rfl, give _ I.fresh⟩
  exact PySem.P.add_list g1 g2 fin (by simp only [List.size_toArray]; omega)
def rRepR : R2 := fun x y H Q => ∃ l k xs, x = .ref l ∧ y = .int k ∧ Rd H l (.lst xs) ∧ -(2 ^ 63) ≤ k ∧ k < 2 ^ 63 ∧ xs.length * k.toNat ≤ sizeLine ∧ (∀ p, H p = none → Q (.ref p) (upd H p (.lst (List.replicate k.toNat xs).flatten)))
theorem rep_made (ps : List Value) (m : Nat) : List.foldl (fun x1 x2 => x1 ++ x2) #[] (List.replicate (if ps.toArray.isEmpty = true then 0 else m) ps.toArray) = (List.replicate m ps).flatten.toArray := by
  cases ps
  · simp
  · rename_i q r
    simpa using foldl_rep (q :: r) m []
theorem op_repR : OpR X (binaryOp .Mult) rRepR := by
  rintro pins σ₁ σ₂ H x y v u Q I rx ry ⟨l, k, xs, rfl, rfl, H1, lo, hi, few, give⟩
  cases rx
  obtain ⟨t, rfl⟩ := ry
  obtain ⟨-, ps, n, v1, c1, g1⟩ := DS.Inv.lstR I H1
  have few' : ps.toArray.size * k.toNat ≤ sizeLine := by simpa [← c1] using few
  have line : (sizeLine : Nat) ≤ (2 ^ 63 - 1) / 8 := by decide
  have inner := AutoListH.list___mul___list_int_3 l ps.toArray n k t (by simp [fitsIndex_both lo hi]) (Nat.not_lt.mpr (Nat.le_trans few' line)) (by rw [notLongL few']; exact Bool.false_ne_true)
  have end_ := I.lnew (t' := σ₁.toks) (v1.rep k.toNat) (by rw [PyProof.Rows.lm_len_rep_flat, Nat.mul_comm]; exact few)
  rw [← rep_made] at end_
  have fin : EP X pins σ₂ Q (.ref σ₁.heap.objs.size) _ := ⟨.ref _, _, end_, rfl, give _ I.fresh⟩
  have there : σ₁.TypeIs (.ref l) "list" := ⟨_, g1, rfl⟩
  exact wpAny_binaryOp_repeat_ref (T := "list") (U := "int") (by decide) there (fun _ => typeIs_int _ k t) noFill_list_mul F.fills_int_mul F.slot_int_rmul repeat_list F.slot_int_index.lookup
    (call_meets F.slot_int_rmul (typeIs_int σ₁ k t) F.entry_int_rmul (F.args_int_rmul_2 _ _) (int___rmul___int_list k t l ps.toArray n) (And.intro g1 (And.intro rfl (And.intro there
      (call_meets F.slot_list_mul there F.entry_list_mul (F.args_list_mul_2 _ _) inner (And.intro g1 fin))))))

/-! ### two-place operators -/
def rBin (K : PySem.W.Frag) : Operator → R2
  | .Add => fun x y H Q => rI0 (fun i j => .int (i + j)) x y H Q ∨ (∃ i j, x = .str i ∧ y = .str j ∧ i.length + j.length ≤ sizeLine ∧ Q (.str (i ++ j)) H) ∨ rCatR x y H Q ∨ rCatT K x y H Q
  | .Sub => rI0 fun i j => .int (i - j)
  | .Mult => fun x y H Q => rI CMul (fun i j => .int (i * j)) x y H Q ∨ rRepR x y H Q
  | .FloorDiv => rI CDiv fun i j => .int (i / j)
  | .Mod => rI (fun _ j => 0 < j) fun i j => .int (i % j)
  | .Pow => rI CPow fun i j => .int (i ^ j.toNat)
  | .LShift => rI CPow fun i j => .int (i * 2 ^ j.toNat)
  | .RShift => rI (fun _ j => 0 ≤ j) fun i j => .int (i / 2 ^ j.toNat)
  | .BitAnd => rI0 fun i j => .int (Builtin.bitAnd i j)
  | .BitOr => rI0 fun i j => .int (Builtin.bitOr i j)
  | .BitXor => rI0 fun i j => .int (Builtin.bitXor i j)
  | .MatMult => fun _ _ _ _ => False
  | .Div => fun _ _ _ _ => False
theorem OpR.never {f : Value → Value → Sem Value} : OpR X f (fun _ _ _ _ => False) := fun _ _ _ _ _ _ _ _ _ _ _ _ h => h.elim
theorem op_bin : ∀ o : Operator, OpR X (binaryOp o) (rBin X.K o)
  | .Add => op_add.or (op_add_str.or (op_catR.or op_catT))
  | .Sub => op_sub
  | .Mult => op_mul.or op_repR
  | .FloorDiv => op_fdiv
  | .Mod => op_mod
  | .Pow => op_pow
  | .LShift => op_shl
  | .RShift => op_shr
  | .BitAnd => op_and
  | .BitOr => op_or
  | .BitXor => op_xor
  | .MatMult => OpR.never
  | .Div => OpR.never
section
variable {p : Par} {y : Dy} {S : Hp} {σ : L2.St} {H : Hp} {ρ : En} {Q : VK}
theorem bin_fin {o : Operator} {a b : D} {v w : V} {r : Ar} (e : binD o a b = .ok r) (st : Stt p y S σ H ρ) (ra : RepV p S H a v) (rb : RepV p S H b w) (fin : FinQ p y σ S H Q (r, ρ)) : rBin p.K o v w H Q := by
  unfold binD at e
  split at e
  case h_1 i j => cases e; cases (show v = _ from ra); cases (show w = _ from rb); exact .inl ⟨_, _, rfl, rfl, fin.val st rfl⟩
  case h_2 i j => cases e; cases (show v = _ from ra); cases (show w = _ from rb); exact ⟨_, _, rfl, rfl, fin.val st rfl⟩
  case h_3 i j =>
    split at e
    · rename_i hc; cases e; cases (show v = _ from ra); cases (show w = _ from rb); exact .inl ⟨_, _, rfl, rfl, hc, fin.val st rfl⟩
    · cases e
  case h_4 i j =>
    split at e
    · rename_i hc; cases e; cases (show v = _ from ra); cases (show w = _ from rb); exact ⟨_, _, rfl, rfl, hc, fin.val st rfl⟩
    · cases e
  case h_5 i j =>
    split at e
    · rename_i hc; cases e; cases (show v = _ from ra); cases (show w = _ from rb); exact ⟨_, _, rfl, rfl, hc, fin.val st rfl⟩
    · cases e
  case h_6 i j =>
    split at e
    · rename_i hc; cases e; cases (show v = _ from ra); cases (show w = _ from rb); exact ⟨_, _, rfl, rfl, hc, fin.val st rfl⟩
    · cases e
  case h_7 i j =>
    split at e
    · rename_i hc; cases e; cases (show v = _ from ra); cases (show w = _ from rb); exact ⟨_, _, rfl, rfl, hc, fin.val st rfl⟩
    · cases e
  case h_8 i j =>
    split at e
    · rename_i hc; cases e; cases (show v = _ from ra); cases (show w = _ from rb); exact ⟨_, _, rfl, rfl, hc, fin.val st rfl⟩
    · cases e
  case h_9 i j => cases e; cases (show v = _ from ra); cases (show w = _ from rb); exact ⟨_, _, rfl, rfl, fin.val st rfl⟩
  case h_10 i j => cases e; cases (show v = _ from ra); cases (show w = _ from rb); exact ⟨_, _, rfl, rfl, fin.val st rfl⟩
  case h_11 i j => cases e; cases (show v = _ from ra); cases (show w = _ from rb); exact ⟨_, _, rfl, rfl, fin.val st rfl⟩
  case h_12 i j =>
    split at e
    · rename_i hc; cases e; cases (show v = _ from ra); cases (show w = _ from rb); exact .inr (.inl ⟨_, _, rfl, rfl, hc, fin.val st rfl⟩)
    · cases e
  case h_13 xs ys =>
    split at e
    · rename_i hc
      cases e
      obtain ⟨l, vs, e1, q1, r1⟩ := ra.lst'
      obtain ⟨l2, us, e2, q2, r2⟩ := rb.lst'
      exact .inr (.inr (.inl ⟨l, l2, vs, us, e1, e2, q1, q2, by rw [← r1.length, ← r2.length]; exact hc, fin.lst st (r1.append r2)⟩))
    · cases e
  case h_14 xs ys =>
    split at e
    · rename_i hc
      cases e
      obtain ⟨l, vs, e1, q1, r1⟩ := ra.tup' st.sub
      obtain ⟨l2, us, e2, q2, r2⟩ := rb.tup' st.sub
      have l1 := r1.length
      have l2' := r2.length
      refine .inr (.inr (.inr ⟨l, l2, vs, us, e1, e2, q1, q2, ?_, by omega, ?_, ?_⟩))
      · intro z
        rw [z] at l1
        exact hc.1 (List.length_eq_zero_iff.mp l1)
      · intro z
        have hy : ys = [] := by rw [z] at l2'; exact List.length_eq_zero_iff.mp l2'
        subst hy
        have ra' := ra
        subst e1
        refine fin.val st ?_
        rw [List.append_nil]
        exact ra'
      · intro z
        exact fin.tup st (r1.append r2)
    · cases e
  case h_15 xs k =>
    split at e
    · rename_i hc
      cases e
      obtain ⟨l, vs, e1, q1, r1⟩ := ra.lst'
      cases (show w = _ from rb)
      exact .inr ⟨l, _, vs, e1, rfl, q1, hc.1, hc.2.1, by rw [← r1.length]; exact hc.2.2, fin.lst st (r1.rep _)⟩
    · cases e
  case h_16 => cases e
end
end
end DS
namespace DS
open PySem PySem.Spec PyProof.Rows L2
section
variable {X : Cx}
def rUn : UnaryOp → V → Hp → VK → Prop
  | .USub => rU fun i => .int (-i)
  | .Invert => rU fun i => .int (Builtin.bitNot i)
  | .Not => fun _ _ _ => False
  | .UAdd => fun _ _ _ => False
theorem op_un : ∀ o : UnaryOp, UnR X (unaryOp o) (rUn o)
  | .USub => un_neg
  | .Invert => un_inv
  | .Not => fun _ _ _ _ _ _ _ _ _ h => h.elim
  | .UAdd => fun _ _ _ _ _ _ _ _ _ h => h.elim
section
variable {p : Par} {y : Dy} {S : Hp} {σ : L2.St} {H : Hp} {ρ : En} {Q : VK}
theorem un_fin {o : UnaryOp} {a : D} {v : V} {r : Ar} (e : unD o a = .ok r) (st : Stt p y S σ H ρ) (ra : RepV p S H a v) (fin : FinQ p y σ S H Q (r, ρ)) : rUn o v H Q := by
  unfold unD at e
  split at e
  · cases e; cases (show v = _ from ra); exact ⟨_, rfl, fin.val st rfl⟩
  · cases e; cases (show v = _ from ra); exact ⟨_, rfl, fin.val st rfl⟩
  · cases e

/-! ### comparisons -/
def rCmp (K : PySem.W.Frag) : CmpOp → R2
  | .Eq => rEqD K
  | .NotEq => rNeD K
  | .Lt => rI0 fun i j => .bl (decide (i < j))
  | .LtE => rI0 fun i j => .bl (decide (i ≤ j))
  | .Gt => rI0 fun i j => .bl (decide (j < i))
  | .GtE => rI0 fun i j => .bl (decide (j ≤ i))
  | .Is => fun x y H Q => (y = .non ∧ Q (.bl (decide (x = .non))) H) ∨ rIsB x y H Q
  | .IsNot => fun x y H Q => (y = .non ∧ Q (.bl (!decide (x = .non))) H) ∨ rNotB x y H Q
  | .In => fun x y H Q => rIn K false x y H Q ∨ (∃ i j, x = .str i ∧ y = .str j ∧ Q (.bl (!(Builtin.Str.occurrences j i 0 j.length 1).isEmpty)) H)
  | .NotIn => fun x y H Q => rIn K true x y H Q ∨ (∃ i j, x = .str i ∧ y = .str j ∧ Q (.bl (!(!(Builtin.Str.occurrences j i 0 j.length 1).isEmpty))) H)
theorem op_cmp (hu : X.A.units + 64 < cLine) : ∀ o : CmpOp, OpR X (compareOp o) (rCmp X.K o)
  | .Eq => op_eqD hu
  | .NotEq => op_neD hu
  | .Lt => op_lt
  | .LtE => op_le
  | .Gt => op_gt
  | .GtE => op_ge
  | .Is => op_isN.or op_isBl
  | .IsNot => op_notN.or op_notBl
  | .In => op_in_seq.or op_in_str
  | .NotIn => op_notIn_seq.or op_notin_str
theorem Rep.nonIff {d : D} {v : V} (r : Rep p S d v) : decide (v = .non) = (match d with | .non => true | _ => false) := by
  cases d with
  | non => cases (show v = _ from r); rfl
  | bl b => cases (show v = _ from r); rfl
  | int b => cases (show v = _ from r); rfl
  | str b => cases (show v = _ from r); rfl
  | tup xs => obtain ⟨a, vs, e, _⟩ := (show ∃ a vs, v = .ref a ∧ SqT p.K S a vs ∧ Reps p S xs vs from r); subst e; rfl
  | lst xs => obtain ⟨a, vs, e, _⟩ := (show ∃ a vs, v = .ref a ∧ Rd S a (.lst vs) ∧ Reps p S xs vs from r); subst e; rfl
  | rol xs => obtain ⟨a, vs, e, _⟩ := (show ∃ a vs, v = .ref a ∧ SqL p.K S a vs ∧ Reps p S xs vs from r); subst e; rfl
  | ins c fs => obtain ⟨a, dx, vs, e, _⟩ := (show ∃ a dx vs, v = .ref a ∧ S a = some (.ins (p.cl c) dx ((p.fields c).zip vs)) ∧ Reps p S fs vs from r); subst e; rfl
theorem eq_fin {a b : D} {v w : V} {k : Bool} (e : eqD a b = some k) (ra : Rep p H a v) (rb : Rep p H b w) : ∃ d e, Dp p.K H v d ∧ Dp p.K H w e ∧ SeqAt.shaped d = true ∧ SeqAt.shaped e = true ∧ PyData.eqv d e = k := by
  unfold eqD at e
  split at e
  · rename_i x z h1 h2
    split at e
    · rename_i hs
      cases e
      simp only [Bool.and_eq_true] at hs
      exact ⟨x, z, toPD_rep rfl h1 ra, toPD_rep rfl h2 rb, hs.1, hs.2, rfl⟩
    · cases e
  · cases e
theorem in_fin {a b : D} {v w : V} {k : Bool} (e : inD a b = some k) (hSH : Sub S H) (ra : RepV p S H a v) (rb : RepV p S H b w) :
    (∃ q xs, w = .ref q ∧ (SqL p.K H q xs ∨ SqT p.K H q xs) ∧ flatV v = true ∧ xs.all flatV = true ∧ inV v xs = k) ∨ (∃ i j, v = .str i ∧ w = .str j ∧ (!(Builtin.Str.occurrences j i 0 j.length 1).isEmpty) = k) := by
  have seqc : ∀ {ys : List D}, seqOf b = some ys → (∃ v' vs, flat? a = some v' ∧ flats? ys = some vs ∧ inV v' vs = k) →
      (∃ q xs, w = .ref q ∧ (SqL p.K H q xs ∨ SqT p.K H q xs) ∧ flatV v = true ∧ xs.all flatV = true ∧ inV v xs = k) := fun {ys} hs ⟨v', vs, h1, h2, h3⟩ => by
    obtain ⟨l, us, e1, q1, r1⟩ := rb.seq hSH hs
    obtain ⟨e2, f2⟩ := flat?_rep h1 (ra.rep hSH)
    obtain ⟨e3, f3⟩ := flats?_rep h2 r1
    subst e2 e3
    exact ⟨l, _, e1, q1, f2, f3, h3⟩
  unfold inD at e
  split at e
  · split at e
    · rename_i h1 h2; cases e; exact .inl (seqc rfl ⟨_, _, h1, h2, rfl⟩)
    · cases e
  · split at e
    · rename_i h1 h2; cases e; exact .inl (seqc rfl ⟨_, _, h1, h2, rfl⟩)
    · cases e
  · split at e
    · rename_i h1 h2; cases e; exact .inl (seqc rfl ⟨_, _, h1, h2, rfl⟩)
    · cases e
  · split at e
    · cases e
      cases (show v = _ from ra)
      cases (show w = _ from rb)
      exact .inr ⟨_, _, rfl, rfl, rfl⟩
    · cases e
  · cases e
theorem cmp_fin {o : CmpOp} {a b : D} {v w : V} {k : Bool} (e : cmpD o a b = some k) (hSH : Sub S H) (ra : RepV p S H a v) (rb : RepV p S H b w) (q : Q (.bl k) H) : rCmp p.K o v w H Q := by
  cases o with
  | Eq =>
    obtain ⟨d, e', h1, h2, h3, h4, h5⟩ := eq_fin e (ra.rep hSH) (rb.rep hSH)
    exact ⟨d, e', h1, h2, h3, h4, by rw [h5]; exact q⟩
  | NotEq =>
    simp only [cmpD, Option.map_eq_some_iff] at e
    obtain ⟨k', e, rfl⟩ := e
    obtain ⟨d, e', h1, h2, h3, h4, h5⟩ := eq_fin e (ra.rep hSH) (rb.rep hSH)
    exact ⟨d, e', h1, h2, h3, h4, by rw [h5]; exact q⟩
  | Lt =>
    simp only [cmpD] at e
    split at e
    · cases e; cases (show v = _ from ra); cases (show w = _ from rb); exact ⟨_, _, rfl, rfl, q⟩
    · cases e
  | LtE =>
    simp only [cmpD] at e
    split at e
    · cases e; cases (show v = _ from ra); cases (show w = _ from rb); exact ⟨_, _, rfl, rfl, q⟩
    · cases e
  | Gt =>
    simp only [cmpD] at e
    split at e
    · cases e; cases (show v = _ from ra); cases (show w = _ from rb); exact ⟨_, _, rfl, rfl, q⟩
    · cases e
  | GtE =>
    simp only [cmpD] at e
    split at e
    · cases e; cases (show v = _ from ra); cases (show w = _ from rb); exact ⟨_, _, rfl, rfl, q⟩
    · cases e
  | Is =>
    simp only [cmpD] at e
    split at e
    · cases (show w = _ from rb)
      refine .inl ⟨rfl, ?_⟩
      rw [(ra.rep hSH).nonIff]
      cases a <;> (cases e; exact q)
    · split at e
      · cases e; cases (show v = _ from ra); cases (show w = _ from rb); exact .inr ⟨_, _, rfl, rfl, q⟩
      · cases e
    · cases e
  | IsNot =>
    simp only [cmpD] at e
    split at e
    · cases (show w = _ from rb)
      refine .inl ⟨rfl, ?_⟩
      rw [(ra.rep hSH).nonIff]
      cases a <;> (cases e; exact q)
    · split at e
      · cases e; cases (show v = _ from ra); cases (show w = _ from rb); exact .inr ⟨_, _, rfl, rfl, q⟩
      · cases e
    · cases e
  | In =>
    rcases in_fin e hSH ra rb with ⟨l, xs, h1, h2, h3, h4, h5⟩ | ⟨i, j, h1, h2, h3⟩
    · exact .inl ⟨l, xs, h1, h2, h3, h4, by show Q (.bl (inV v xs)) H; rw [h5]; exact q⟩
    · exact .inr ⟨i, j, h1, h2, by rw [h3]; exact q⟩
  | NotIn =>
    simp only [cmpD, Option.map_eq_some_iff] at e
    obtain ⟨k', e, rfl⟩ := e
    rcases in_fin e hSH ra rb with ⟨l, xs, h1, h2, h3, h4, h5⟩ | ⟨i, j, h1, h2, h3⟩
    · exact .inl ⟨l, xs, h1, h2, h3, h4, by show Q (.bl (!inV v xs)) H; rw [h5]; exact q⟩
    · exact .inr ⟨i, j, h1, h2, by rw [h3]; exact q⟩

/-! ### truth -/
theorem tru_fin {d : D} {v : V} {k : Bool} (e : truthD d = some k) (hSH : Sub S H) (r : RepV p S H d v) : TruV p.K v H k := by
  cases d with
  | non => cases e; cases (show v = _ from r); exact rfl
  | bl b => cases e; cases (show v = _ from r); exact rfl
  | int b => cases e; cases (show v = _ from r); exact rfl
  | str b =>
    simp only [truthD] at e
    split at e
    · rename_i hz; cases e; cases (show v = _ from r); exact ⟨hz, rfl⟩
    · cases e
  | ins c fs => cases e
  | tup xs =>
    cases e
    obtain ⟨l, vs, e1, q, rr⟩ := r.tup' hSH
    subst e1
    have hl := rr.length
    refine .inr (.inl ⟨vs, q, ?_⟩)
    cases xs <;> cases vs <;> simp at hl ⊢
  | lst xs =>
    cases e
    obtain ⟨l, vs, e1, q, rr⟩ := r.lst'
    subst e1
    have hl := rr.length
    refine .inl ⟨vs, .inl q, ?_⟩
    cases xs <;> cases vs <;> simp at hl ⊢
  | rol xs =>
    cases e
    obtain ⟨l, vs, e1, q, rr⟩ := r.rol' hSH
    subst e1
    have hl := rr.length
    refine .inl ⟨vs, q, ?_⟩
    cases xs <;> cases vs <;> simp at hl ⊢

/-! ### a place in a sequence, a slice -/
theorem atI_rep {ds : List D} {vs : List V} (r : Reps p S ds vs) {k : Int} {d : D} (e : atI ds k = some d) : ∃ v, atI vs k = some v ∧ Rep p S d v := by
  unfold atI at e ⊢
  rw [← r.length]
  cases q : ixN ds.length k with
  | none => rw [q] at e; cases e
  | some j =>
    rw [q] at e
    exact r.get (show ds[j]? = some d from e)
theorem ix_fin {a b : D} {v w : V} {d : D} (e : ixD a b = some d) (st : Stt p y S σ H ρ) (ra : RepV p S H a v) (rb : RepV p S H b w) (q : ∀ u, Rep p S d u → Q u H) : rIx p.K v w H Q := by
  unfold ixD at e
  split at e
  · rename_i k
    cases (show w = _ from rb)
    split at e
    · obtain ⟨l, vs, e1, q1, r1⟩ := ra.lst'
      obtain ⟨u, e2, r2⟩ := atI_rep r1 e
      exact .inl ⟨l, vs, k, u, e1, rfl, .inl q1, e2, q u r2⟩
    · obtain ⟨l, vs, e1, q1, r1⟩ := ra.tup' st.sub
      obtain ⟨u, e2, r2⟩ := atI_rep r1 e
      exact .inr (.inl ⟨l, vs, k, u, e1, rfl, q1, e2, q u r2⟩)
    · obtain ⟨l, vs, e1, q1, r1⟩ := ra.rol' st.sub
      obtain ⟨u, e2, r2⟩ := atI_rep r1 e
      exact .inl ⟨l, vs, k, u, e1, rfl, q1, e2, q u r2⟩
    · split at e
      · rename_i hz
        simp only [Option.map_eq_some_iff] at e
        obtain ⟨c, e1, e2⟩ := e
        subst e2
        cases (show v = _ from ra)
        exact .inr (.inr ⟨_, k, c, rfl, rfl, hz, e1, q _ rfl⟩)
      · cases e
    · cases e
  · cases e
end
end
end DS
namespace DS
open PySem PySem.Spec PyProof.Rows L2
/-! ### sorted ints -/
theorem isort_perm (ns : List Int) : (isort ns).Perm ns := List.mergeSort_perm _ _
theorem isort_sorted (ns : List Int) : (isort ns).Pairwise (· ≤ ·) := by
  have h := List.pairwise_mergeSort (le := fun (a b : Int) => decide (a ≤ b)) (fun a b c h1 h2 => by simp at h1 h2 ⊢; omega) (fun a b => by simp; omega) ns
  exact h.imp fun h => by simpa using h
theorem isort_uniq {ns ms : List Int} (hp : ms.Perm ns) (hs : ms.Pairwise (· ≤ ·)) : ms = isort ns :=
  List.Perm.eq_of_pairwise (le := fun (a b : Int) => a ≤ b) (fun a b _ _ h1 h2 => by omega) hs (isort_sorted ns) (hp.trans (isort_perm ns).symm)
theorem isort_rev {ns ms : List Int} (hp : ms.Perm ns) (hs : ms.Pairwise (· ≥ ·)) : ms = (isort ns).reverse := by
  have h : ms.reverse = isort ns := isort_uniq (((List.reverse_perm ms).trans hp)) (by rw [List.pairwise_reverse]; exact hs)
  rw [← h, List.reverse_reverse]
section
variable {X : Cx}
section
variable {p : Par} {y : Dy} {S : Hp} {σ : L2.St} {H : Hp} {ρ : En} {Q : VK}
def rSl (K : PySem.W.Frag) : V → Option Int → Option Int → Hp → VK → Prop := fun x lo hi H Q => rSlL K x lo hi H Q ∨ rSlA K x lo hi H Q
theorem op_sl : SlR X (rSl X.K) := sl_list.or sl_tupA
theorem cutV_eq (vs : List V) (l h : Option Int) : cutV vs l h = cutD vs l h := rfl
theorem sl_fin {a : D} {v : V} {l h : Option Int} {r : Ar} {lo hi : Option (Option Int)} (e1 : lo = some l) (e2 : hi = some h) (e : sliceD a lo hi = .ok r) (st : Stt p y S σ H ρ) (ra : RepV p S H a v) (fin : FinQ p y σ S H Q (r, ρ)) : rSl p.K v l h H Q := by
  unfold sliceD at e
  rw [e1, e2] at e
  simp only at e
  split at e
  · cases e
    obtain ⟨b, vs, e3, q, rr⟩ := ra.lst'
    exact .inl ⟨b, vs, e3, .inl q, fin.lst st (rr.cut l h)⟩
  · cases e
    obtain ⟨b, vs, e3, q, rr⟩ := ra.rol' st.sub
    exact .inl ⟨b, vs, e3, q, fin.lst st (rr.cut l h)⟩
  · rename_i xs
    obtain ⟨b, vs, e3, q, rr⟩ := ra.tup' st.sub
    have hl := rr.length
    split at e
    · rename_i hw
      cases e
      subst e3
      exact .inr ⟨b, vs, rfl, q, fun _ => fin.val st ra, fun z => absurd (by rw [← hl]; exact hw) z⟩
    · rename_i hw
      cases e
      exact .inr ⟨b, vs, e3, q, fun z => absurd (by rw [← hl] at z; exact z) hw, fun _ => fin.tup st (rr.cut l h)⟩
  · cases e

/-! ### built-ins -/
theorem ty_rep {d : D} {v : V} {t : String} (e : tyD d = some t) (hSH : Sub S H) (r : RepV p S H d v) : TyX p.K H v (.type t) := by
  cases d with
  | non => cases e; cases (show v = _ from r); exact .base .non
  | bl b => cases e; cases (show v = _ from r); exact .base (.bl b)
  | int b => cases e; cases (show v = _ from r); exact .base (.int b)
  | str b => cases e; cases (show v = _ from r); exact .base (.str b)
  | ins c fs => cases e
  | tup xs =>
    cases e
    obtain ⟨a, vs, e1, q, _⟩ := r.tup' hSH
    subst e1
    rcases q with (q | ⟨o, q⟩) | ⟨o, its, n, h1, h2, _⟩
    · exact .base (.tup q)
    · exact .fTuple q
    · exact .kTuple h1 h2
  | lst xs =>
    cases e
    obtain ⟨a, vs, e1, q, _⟩ := r.lst'
    subst e1
    rcases q with q | ⟨o, q⟩
    · exact .base (.lst q)
    · exact .base (.frz q)
  | rol xs =>
    cases e
    obtain ⟨a, vs, e1, q, _⟩ := r.rol' hSH
    subst e1
    rcases q with (q | ⟨o, q⟩) | ⟨o, its, n, h1, h2, _⟩
    · exact .base (.lst q)
    · exact .base (.frz q)
    · exact .kList h1 h2
def bltNm : Blt → Str
  | .len => "len" | .int => "int" | .tuple => "tuple" | .list => "list" | .sorted => "sorted" | .sum => "sum" | .max => "max" | .min => "min" | .max2 => "max" | .min2 => "min"
  | .abs => "abs" | .any => "any" | .all => "all" | .isi _ => "isinstance"
def bltVal : Blt → Value
  | .len => .builtin "len" | .int => .type "int" | .tuple => .type "tuple" | .list => .type "list" | .sorted => .builtin "sorted" | .sum => .builtin "sum" | .max => .builtin "max" | .min => .builtin "min"
  | .max2 => .builtin "max" | .min2 => .builtin "min" | .abs => .builtin "abs" | .any => .builtin "any" | .all => .builtin "all" | .isi _ => .builtin "isinstance"
def rBlt (K : PySem.W.Frag) : Blt → List V → Hp → VK → Prop
  | .len => fun xs H Q => (∃ p ys, xs = [.ref p] ∧ (SqL K H p ys ∨ SqT K H p ys) ∧ Q (.int ys.length) H) ∨ (∃ z, xs = [.str z] ∧ z.length ≤ sizeLine ∧ Q (.int z.length) H)
  | .int => fun xs H Q => (∃ i, xs = [.int i] ∧ Q (.int i) H) ∨ ∃ k, xs = [.bl k] ∧ Q (.int (if k then 1 else 0)) H
  | .tuple => fun xs H Q => ∃ p ys, xs = [.ref p] ∧ ((SqL K H p ys ∧ ∀ l, H l = none → Q (.ref l) (upd H l (.tup ys))) ∨ (SqT K H p ys ∧ Q (.ref p) H))
  | .list => fun xs H Q => ∃ p ys, xs = [.ref p] ∧ (SqL K H p ys ∨ SqT K H p ys) ∧ ∀ l, H l = none → Q (.ref l) (upd H l (.lst ys))
  | .sorted => rSortedI K
  | .sum => rSum K
  | .max => fun _ _ _ => False
  | .min => fun _ _ _ => False
  | .max2 => fun xs H Q => ∃ i j, xs = [.int i, .int j] ∧ Q (.int (if j > i then j else i)) H
  | .min2 => fun xs H Q => ∃ i j, xs = [.int i, .int j] ∧ Q (.int (if j < i then j else i)) H
  | .abs => fun xs H Q => ∃ i, xs = [.int i] ∧ Q (.int (if i < 0 then -i else i)) H
  | .any => rAny K
  | .all => rAll K
  | .isi _ => fun _ _ _ => False
theorem CallR.never {f : Value} : CallR X f (fun _ _ _ => False) := fun _ _ _ _ _ _ _ _ _ h => h.elim
theorem op_blt (hc : X.calm = true) : ∀ b : Blt, CallR X (bltVal b) (rBlt X.K b)
  | .len => call_len_seq.or call_len_str
  | .int => call_int1
  | .tuple => call_tuple_of
  | .list => call_list_of
  | .sorted => cr_sortedI
  | .sum => cr_sum hc
  | .max => CallR.never
  | .min => CallR.never
  | .max2 => call_max2 hc
  | .min2 => call_min2 hc
  | .abs => call_abs
  | .any => cr_any hc
  | .all => cr_all hc
  | .isi _ => CallR.never
def RepVs (p : Par) (S H : Hp) : List D → List V → Prop
  | [], vs => vs = []
  | d :: ds, vs => ∃ v r, vs = v :: r ∧ RepV p S H d v ∧ RepVs p S H ds r
theorem blt_fin {b : Blt} {ds : List D} {vs : List V} {r : Ar} (hi : ∀ T, b ≠ .isi T) (e : bltD b ds = .ok r) (st : Stt p y S σ H ρ) (rs : RepVs p S H ds vs) (fin : FinQ p y σ S H Q (r, ρ)) : rBlt p.K b vs H Q := by
  have one : ∀ {d : D}, ds = [d] → ∃ v, vs = [v] ∧ RepV p S H d v := fun {d} h => by
    subst h
    obtain ⟨v, q, e1, r1, e2⟩ := rs
    cases (show q = [] from e2)
    exact ⟨v, e1, r1⟩
  have two : ∀ {d d' : D}, ds = [d, d'] → ∃ v w, vs = [v, w] ∧ RepV p S H d v ∧ RepV p S H d' w := fun {d d'} h => by
    subst h
    obtain ⟨v, q, e1, r1, w, q2, e2, r2, e3⟩ := rs
    cases (show q2 = [] from e3)
    subst e2
    exact ⟨v, w, e1, r1, r2⟩
  unfold bltD at e
  split at e
  · obtain ⟨v, rfl, rv⟩ := one rfl
    split at e
    · rename_i ys hq
      cases e
      obtain ⟨l, us, e1, q, rr⟩ := rv.seq st.sub hq
      subst e1
      exact .inl ⟨l, us, rfl, q, by rw [← rr.length]; exact fin.val st rfl⟩
    · split at e
      · split at e
        · rename_i hz; cases e; cases (show v = _ from rv); exact .inr ⟨_, rfl, hz, fin.val st rfl⟩
        · cases e
      · cases e
  · obtain ⟨v, rfl, rv⟩ := one rfl
    split at e
    · cases e; cases (show v = _ from rv); exact .inl ⟨_, rfl, fin.val st rfl⟩
    · cases e; cases (show v = _ from rv); exact .inr ⟨_, rfl, fin.val st rfl⟩
    · cases e
  · obtain ⟨v, rfl, rv⟩ := one rfl
    split at e
    · cases e
      obtain ⟨l, us, e1, q, rr⟩ := rv.tup' st.sub
      subst e1
      exact ⟨l, us, rfl, .inr ⟨q, fin.val st rv⟩⟩
    · cases e
      obtain ⟨l, us, e1, q, rr⟩ := rv.lst'
      subst e1
      exact ⟨l, us, rfl, .inl ⟨.inl q, fin.tup st rr⟩⟩
    · cases e
      obtain ⟨l, us, e1, q, rr⟩ := rv.rol' st.sub
      subst e1
      exact ⟨l, us, rfl, .inl ⟨q, fin.tup st rr⟩⟩
    · cases e
  · obtain ⟨v, rfl, rv⟩ := one rfl
    split at e
    · rename_i hq
      cases e
      obtain ⟨l, us, e1, q, rr⟩ := rv.seq st.sub hq
      subst e1
      exact ⟨l, us, rfl, q, fin.lst st rr⟩
    · cases e
  · obtain ⟨v, rfl, rv⟩ := one rfl
    split at e
    · split at e
      · rename_i ns hn
        cases e
        obtain ⟨l, us, e1, q, rr⟩ := rv.lst'
        rw [ints?_eq hn] at rr
        rw [Reps.ints.mp rr] at q
        subst e1
        exact ⟨l, ns, rfl, .inl q, fun ms a hp hs ha => by rw [isort_uniq hp hs]; exact fin.lst st (Reps.ints.mpr rfl) a ha⟩
      · cases e
    · cases e
  · obtain ⟨v, rfl, rv⟩ := one rfl
    split at e
    · split at e
      · rename_i ns hn
        cases e
        obtain ⟨l, us, e1, q, rr⟩ := rv.lst'
        rw [ints?_eq hn] at rr
        rw [Reps.ints.mp rr] at q
        subst e1
        exact ⟨l, ns, rfl, .inl q, fin.val st rfl⟩
      · cases e
    · cases e
  · cases e
    obtain ⟨v, w, rfl, r1, r2⟩ := two rfl
    cases (show v = _ from r1)
    cases (show w = _ from r2)
    exact ⟨_, _, rfl, fin.val st rfl⟩
  · cases e
    obtain ⟨v, w, rfl, r1, r2⟩ := two rfl
    cases (show v = _ from r1)
    cases (show w = _ from r2)
    exact ⟨_, _, rfl, fin.val st rfl⟩
  · cases e
    obtain ⟨v, rfl, r1⟩ := one rfl
    cases (show v = _ from r1)
    exact ⟨_, rfl, fin.val st rfl⟩
  · obtain ⟨v, rfl, rv⟩ := one rfl
    split at e
    · rename_i bs hb
      cases e
      obtain ⟨l, us, e1, q, rr⟩ := rv.lst'
      rw [bls?_eq hb] at rr
      rw [Reps.bls rr] at q
      subst e1
      exact ⟨l, bs, rfl, .inl q, fin.val st rfl⟩
    · cases e
  · obtain ⟨v, rfl, rv⟩ := one rfl
    split at e
    · rename_i bs hb
      cases e
      obtain ⟨l, us, e1, q, rr⟩ := rv.lst'
      rw [bls?_eq hb] at rr
      rw [Reps.bls rr] at q
      subst e1
      exact ⟨l, bs, rfl, .inl q, fin.val st rfl⟩
    · cases e
  · rename_i T _
    exact absurd rfl (hi T)
  · cases e
theorem isi_fin {d : D} {v : V} {T : Cl} {k : Bool} (e : isiD d T = some k) (hSH : Sub S H) (r : RepV p S H d v) (q : Q (.bl k) H) :
    ∃ n, T = .ty n ∧ rIsi p.K [v, .ty n] H Q := by
  cases T with
  | own c => cases e
  | ty n =>
    refine ⟨n, rfl, ?_⟩
    simp only [isiD, Option.bind_eq_some_iff] at e
    obtain ⟨t, e1, e2⟩ := e
    exact ⟨v, .ty n, .type t, .type n, k, rfl, .ty n, ty_rep e1 hSH r, kit_ty e2, q⟩
end
end
end DS
/-! ## Readings of expressions; calls -/
namespace DS
open PySem PySem.Spec PyProof.Rows L2

def Res {α : Type} (x : Out α) (k : α → Prop) : Prop := match x with
  | .ok a => k a
  | _ => False
theorem Res.bnd {α β : Type} {x : Out α} {f : α → Out β} {k : β → Prop} (h : Res (x.bnd f) k) : ∃ a, x = .ok a ∧ Res (f a) k := by
  cases x with
  | ok a => exact ⟨a, rfl, h⟩
  | bad => exact h.elim
  | exc c fs => exact h.elim
theorem Res.ok {α : Type} {x : Out α} {k : α → Prop} (h : Res x k) : ∃ a, x = .ok a ∧ k a := by
  cases x with
  | ok a => exact ⟨a, rfl, h⟩
  | bad => exact h.elim
  | exc c fs => exact h.elim
theorem ob_ok {α : Type} {o : Option α} {a : α} (h : ob o = .ok a) : o = some a := by
  cases o with
  | none => cases h
  | some b => cases h; rfl

section
variable (p : Par) (C : Cxt) (y : Dy)
/-- the reading of an expression's evaluation -/
def rdO (f : En → Out (Ar × En)) : TE := fun σ H Q => ∃ S ρ, Stt p y S σ H ρ ∧ Res (f ρ) (FinQ p y σ S H Q)
abbrev rdE (e : IR) : TE := rdO p y (ev C e)
abbrev rdQ (e : IR) : TE := rdO p y fun ρ => sq (ev C e ρ)
def RepAs (S : Hp) (σ : L2.St) (H : Hp) (ρ : En) : List Ar → List V → Prop
  | [], vs => vs = []
  | r :: rs, vs => ∃ v q, vs = v :: q ∧ r.seal = r ∧ RepA p y S σ H ρ r v ∧ RepAs S σ H ρ rs q
def rdA (es : IRs) : TA := fun σ H Q => ∃ S ρ, Stt p y S σ H ρ ∧ Res (evs C es ρ) fun r => ∀ vs H' S', Stt p y S' σ H' r.2 → Sub S S' → Sub H H' → RepAs p y S' σ H' r.2 r.1 vs → Q vs H'
/-- of a test -/
def rdO' (f : En → Out (Ar × En)) : TT := fun σ H Q => ∃ S ρ, Stt p y S σ H ρ ∧ Res (f ρ) fun r => ∃ b, r.1 = .v (.bl b) ∧ ∀ H' S', Stt p y S' σ H' r.2 → Sub S S' → Sub H H' → Q b H'
abbrev rdT (e : IR) : TT := rdO' p y (ev C e)
end
section
variable {X : Cx} {p : Par} {C : Cxt} {y : Dy} {S : Hp} {σ : L2.St} {H : Hp} {ρ : En}
theorem PE.mono {e : Expr} {t t' : TE} (h : PE X e t) (k : ∀ σ H Q, t' σ H Q → t σ H Q) : PE X e t' := ⟨fun pins s σ H Q I q => h.run pins s σ H Q I (k σ H Q q)⟩
theorem PT.mono {e : Expr} {t t' : TT} (h : PT X e t) (k : ∀ σ H Q, t' σ H Q → t σ H Q) : PT X e t' := ⟨fun pins s σ H Q I q => h.run pins s σ H Q I (k σ H Q q)⟩
theorem PW.mono {e : Expr} {t t' : TT} (h : PW X e t) (k : ∀ σ H Q, t' σ H Q → t σ H Q) : PW X e t' := ⟨fun w pins s σ H Q I q => h.run w pins s σ H Q I (k σ H Q q)⟩
theorem PA.mono {es : List Expr} {t t' : TA} (h : PA X es t) (k : ∀ σ H Q, t' σ H Q → t σ H Q) : PA X es t' := ⟨fun po pins s σ H Q I q => h.run po pins s σ H Q I (k σ H Q q)⟩
theorem PS.mono {st : Stmt} {t t' : TS} (h : PS X st t) (k : ∀ D σ H, t' D σ H → t D σ H) : PS X st t' := ⟨fun pins s σ H D I q => h.run pins s σ H D I (k D σ H q)⟩
theorem PSs.mono {st : List Stmt} {t t' : TS} (h : PSs X st t) (k : ∀ D σ H, t' D σ H → t D σ H) : PSs X st t' := ⟨fun pins s σ H D I q => h.run pins s σ H D I (k D σ H q)⟩
/-- sealed at once -/
theorem seal_of {e : Expr} {ir : IR} (h : PE X e (rdE p C y ir)) : PE X e (rdQ p C y ir) := PE.mono h fun σ H Q ⟨S, ρ, st, q⟩ => by
  refine ⟨S, ρ, st, ?_⟩
  obtain ⟨r, e1, q1⟩ := Res.bnd q
  rw [e1]
  exact fun v H' S' st' hS hH ra => by
    obtain ⟨S2, st2, hS2, ra2⟩ := st'.sealA ra
    exact q1 v H' S2 st2 (hS.trans hS2) hH ra2
/-- one operand -/
theorem one_rd {a : IR} {β : Type} {k : Ar × En → Out β} {F : β → Prop} {G : V → Hp → Prop} (st : Stt p y S σ H ρ) (h : Res ((sq (ev C a ρ)).bnd k) F)
    (fin : ∀ r ρ1 v H1 S1, Res (k (r, ρ1)) F → Stt p y S1 σ H1 ρ1 → Sub S S1 → Sub H H1 → r.seal = r → RepA p y S1 σ H1 ρ1 r v → G v H1) : rdQ p C y a σ H G := by
  refine ⟨S, ρ, st, ?_⟩
  obtain ⟨⟨r, ρ1⟩, e1, q1⟩ := Res.bnd h
  show Res (sq (ev C a ρ)) _
  rw [e1]
  refine fun v H' S' st' hS hH ra => fin r ρ1 v H' S' q1 st' hS hH ?_ ra
  obtain ⟨⟨r0, ρ0⟩, e2, e3⟩ : ∃ q, ev C a ρ = .ok q ∧ (Out.ok (q.1.seal, q.2) : Out (Ar × En)) = .ok (r, ρ1) := by
    unfold sq at e1
    cases q : ev C a ρ with
    | ok q0 => rw [q] at e1; exact ⟨q0, rfl, e1⟩
    | bad => rw [q] at e1; cases e1
    | exc c fs => rw [q] at e1; cases e1
  cases e3
  exact Ar.seal_seal _
/-- two operands -/
theorem two_rd {a b : IR} {β : Type} {k : Ar → Ar × En → Out β} {F : β → Prop} {G : V → V → Hp → Prop} (st : Stt p y S σ H ρ) (h : Res ((sq (ev C a ρ)).bnd fun x => (sq (ev C b x.2)).bnd fun z => k x.1 z) F)
    (fin : ∀ r1 r2 ρ2 v w H2 S2, Res (k r1 (r2, ρ2)) F → Stt p y S2 σ H2 ρ2 → Sub S S2 → Sub H H2 → RepV p S2 H2 r1.view v → RepV p S2 H2 r2.view w → RepA p y S2 σ H2 ρ2 r1 v → RepA p y S2 σ H2 ρ2 r2 w → G v w H2) :
    rdQ p C y a σ H fun v H1 => rdQ p C y b σ H1 fun w H2 => G v w H2 := by
  refine one_rd st h fun r1 ρ1 v H1 S1 q1 st1 hS hH s1 ra => ?_
  refine one_rd st1 q1 fun r2 ρ2 w H2 S2 q2 st2 hS2 hH2 s2 rb => ?_
  have ra2 : RepA p y S2 σ H2 ρ2 r1 v := RepA.mono hS2 hH2 s1 ra
  exact fin r1 r2 ρ2 v w H2 S2 q2 st2 (hS.trans hS2) (hH.trans hH2) (ra2.viewV st2) (rb.viewV st2) ra2 rb

theorem RepAs.views (st : Stt p y S σ H ρ) : ∀ {rs : List Ar} {vs : List V}, RepAs p y S σ H ρ rs vs → RepVs p S H (rs.map Ar.view) vs
  | [], vs, h => h
  | r :: rs, vs, ⟨v, q, e, _, ra, h⟩ => ⟨v, q, e, ra.viewV st, RepAs.views st h⟩
theorem RepAs.vals : ∀ {rs : List Ar} {vs : List V}, rs.any Ar.isB = false → RepAs p y S σ H ρ rs vs → Reps p S (rs.map Ar.view) vs
  | [], vs, _, h => h
  | r :: rs, vs, hb, ⟨v, q, e, s, ra, h⟩ => by
    rw [List.any_cons, Bool.or_eq_false_iff] at hb
    refine ⟨v, q, e, ?_, RepAs.vals hb.2 h⟩
    cases r with
    | v d => exact ra
    | fr ds => cases s
    | br i ds => cases hb.1
theorem RepAs.length : ∀ {rs : List Ar} {vs : List V}, RepAs p y S σ H ρ rs vs → rs.length = vs.length
  | [], vs, h => by cases (show vs = [] from h); rfl
  | r :: rs, vs, ⟨v, q, e, _, _, h⟩ => by subst e; exact congrArg (· + 1) (RepAs.length h)
theorem RepAs.mono {S' : Hp} {H' : Hp} {ρ' : En} {y' : Dy} (hS : Sub S S') (hH : Sub H H') : ∀ {rs : List Ar} {vs : List V}, RepAs p y S σ H ρ rs vs → RepAs p y' S' σ H' ρ' rs vs
  | [], vs, h => h
  | r :: rs, vs, ⟨v, q, e, s, ra, h⟩ => ⟨v, q, e, s, RepA.mono hS hH s ra, RepAs.mono hS hH h⟩

/-! ### calls of defs -/
def RetA (p : Par) (S' H H' : Hp) : Ar → V → Prop
  | .v d, v => Rep p S' d v
  | .fr ds, v => ∃ l vs, v = .ref l ∧ H' l = some (.lst vs) ∧ S' l = none ∧ H l = none ∧ Reps p S' ds vs
  | .br _ _, _ => False
/-- the promise of a def whose meaning is m -/
def spD (p : Par) (ar : Nat) (m : List D → Out Ar) : Sp := fun vs H Q _ => ∃ (S : Hp) (ds : List D), Sub S H ∧ Reps p S ds vs ∧ ds.length = ar ∧
  Res (m ds) fun r => ∀ v H' S', Sub S S' → Sub S' H' → Sub H H' → (∀ a, H a ≠ none → S' a = S a) → RetA p S' H H' r v → Q v H'
theorem spD.len {p : Par} {ar : Nat} {m : List D → Out Ar} {vs : List V} {H : Hp} {Q : VK} {E : XK} (h : spD p ar m vs H Q E) : vs.length = ar := by
  obtain ⟨S, ds, _, r, e, _⟩ := h
  rw [← r.length, e]
mutual
theorem Rep.unlist {S S' : Hp} (h : ∀ a o, S a = some o → (∀ xs, o ≠ .lst xs) → S' a = some o) : ∀ (d : D) (v : V), noL d = true → Rep p S d v → Rep p S' d v
  | .non, _, _, r => r
  | .bl _, _, _, r => r
  | .int _, _, _, r => r
  | .str _, _, _, r => r
  | .lst _, _, n, _ => nomatch n
  | .rol _, _, n, _ => nomatch n
  | .tup xs, v, n, r => by
    obtain ⟨a, vs, e, q, rr⟩ := (show ∃ a vs, v = .ref a ∧ SqT p.K S a vs ∧ Reps p S xs vs from r)
    refine ⟨a, vs, e, ?_, Reps.unlist h xs vs n rr⟩
    rcases q with (q | ⟨o, q⟩) | q
    · exact .inl (.inl (h _ _ q fun _ z => nomatch z))
    · exact .inl (.inr ⟨o, h _ _ q fun _ z => nomatch z⟩)
    · exact .inr q
  | .ins c fs, v, n, r => by
    obtain ⟨a, dx, vs, e, q, rr⟩ := (show ∃ a dx vs, v = .ref a ∧ S a = some (.ins (p.cl c) dx ((p.fields c).zip vs)) ∧ Reps p S fs vs from r)
    exact ⟨a, dx, vs, e, h _ _ q (fun _ z => nomatch z), Reps.unlist h fs vs n rr⟩
theorem Reps.unlist {S S' : Hp} (h : ∀ a o, S a = some o → (∀ xs, o ≠ .lst xs) → S' a = some o) : ∀ (ds : List D) (vs : List V), noLs ds = true → Reps p S ds vs → Reps p S' ds vs
  | [], _, _, r => r
  | d :: ds, vs, n, r => by
    obtain ⟨v, q, e, r1, r2⟩ := (show ∃ v q, vs = v :: q ∧ Rep p S d v ∧ Reps p S ds q from r)
    rw [noLs, Bool.and_eq_true] at n
    exact ⟨v, q, e, Rep.unlist h d v n.1 r1, Reps.unlist h ds q n.2 r2⟩
end
/-- what the borrowed ones stand at -/
def lentAt (S H : Hp) (vs : List V) : Hp := fun a => match S a with
  | some o => some o
  | none => if V.ref a ∈ vs then (match H a with
    | some (.lst xs) => some (.lst xs)
    | _ => none) else none
theorem lent_rep (hSH : Sub S H) {ws : List V} : ∀ {rs : List Ar} {vs : List V}, (∀ v ∈ vs, v ∈ ws) → RepAs p y S σ H ρ rs vs → Reps p (lentAt S H ws) (rs.map Ar.view) vs
  | [], vs, _, h => h
  | r :: rs, vs, hm, ⟨v, q, e, s, ra, h⟩ => by
    subst e
    have hs : Sub S (lentAt S H ws) := fun a o z => by unfold lentAt; rw [z]
    refine ⟨v, q, rfl, ?_, lent_rep hSH (fun u hu => hm u (List.mem_cons_of_mem _ hu)) h⟩
    cases r with
    | v d => exact Rep.sub hs d v ra
    | fr ds => cases s
    | br i ds =>
      obtain ⟨l, us, e1, _, h1, r1⟩ := ra
      refine ⟨l, us, e1, .inl ?_, Reps.sub hs _ _ r1⟩
      unfold lentAt
      cases q : S l with
      | some o =>
        have z := hSH _ _ q
        rw [h1] at z
        simp only
        rw [z]
      | none =>
        simp only
        rw [if_pos (by rw [← e1]; exact hm v List.mem_cons_self), h1]
theorem call_fin {rs : List Ar} {vs : List V} {args : List D} {ws : List V} {r : Ar} {m : List D → Out Ar} {Q : VK} {E : XK} {ar : Nat} (st : Stt p y S σ H ρ) (hr : ∀ S', Reps p S' (rs.map Ar.view) vs → Reps p S' args ws) (ras : RepAs p y S σ H ρ rs vs)
    (har : args.length = ar) (e : m args = .ok r) (hb : (rs.any Ar.isB && !r.noL) = false) (fin : FinQ p y σ S H Q (r, ρ)) : spD p ar m ws H Q E := by
  cases hB : rs.any Ar.isB with
  | false =>
    refine ⟨S, args, st.sub, hr S (ras.vals hB), har, ?_⟩
    rw [e]
    intro v H' S' h1 h2 h3 h4 h5
    have st' := st.grow h1 h3 h2 h4
    refine fin v H' S' st' h1 h3 ?_
    cases r with
    | v d => exact h5
    | br _ ds => exact h5.elim
    | fr ds =>
      obtain ⟨l, us, e1, q1, q2, q3, q4⟩ := h5
      refine ⟨l, us, e1, q1, q2, (st.none0 q3).2, q4, fun i s e2 ho z => ?_⟩
      have q := st.sl i s e2
      cases s with
      | own ds' =>
        obtain ⟨l', us', e3, e4, _⟩ := q
        rw [e3] at z
        cases z
        rw [q3] at e4
        cases e4
      | dic ds' =>
        obtain ⟨l', us', e3, e4, _⟩ := q
        rw [e3] at z
        cases z
        rw [q3] at e4
        cases e4
      | _ => cases ho
  | true =>
    rw [hB] at hb
    have hn : r.noL = true := by
      cases q : r.noL with
      | true => rfl
      | false => rw [q] at hb; cases hb
    have hs : Sub S (lentAt S H vs) := fun a o z => by unfold lentAt; rw [z]
    have hsH : Sub (lentAt S H vs) H := fun a o z => by
      unfold lentAt at z
      cases q : S a with
      | some u =>
        rw [q] at z
        rw [← z]
        exact st.sub _ _ q
      | none =>
        rw [q] at z
        simp only at z
        split at z
        · split at z
          · rename_i xs hx
            rw [← z]
            exact hx
          · cases z
        · cases z
    refine ⟨lentAt S H vs, args, hsH, hr _ (lent_rep st.sub (fun _ h => h) ras), har, ?_⟩
    rw [e]
    intro v H' S2 h1 h2 h3 h4 h5
    -- the lent ones are taken back
    have key : ∀ a, S a = none → lentAt S H vs a ≠ none → ∃ xs, H a = some (.lst xs) ∧ S2 a = some (.lst xs) := fun a ha hne => by
      cases q : lentAt S H vs a with
      | none => exact absurd q hne
      | some o =>
        have hh := hsH _ _ q
        unfold lentAt at q
        rw [ha] at q
        simp only at q
        split at q
        · split at q
          · rename_i xs hx
            cases q
            refine ⟨xs, hx, ?_⟩
            have z := h4 a (by rw [hx]; simp)
            rw [z]
            unfold lentAt
            rw [ha]
            simp only
            rw [if_pos (by assumption), hx]
          · cases q
        · cases q
    let S' : Hp := fun a => if S a = none ∧ lentAt S H vs a ≠ none then none else S2 a
    have hSS' : Sub S S' := fun a o z => by
      show (if S a = none ∧ lentAt S H vs a ≠ none then none else S2 a) = some o
      rw [if_neg (fun w => by rw [z] at w; cases w.1)]
      exact h1 _ _ (hs _ _ z)
    have hS2 : Sub S' S2 := fun a o z => by
      have z' : (if S a = none ∧ lentAt S H vs a ≠ none then none else S2 a) = some o := z
      split at z'
      · cases z'
      · exact z'
    have back : ∀ a o, S2 a = some o → (∀ xs, o ≠ .lst xs) → S' a = some o := fun a o z hnl => by
      show (if S a = none ∧ lentAt S H vs a ≠ none then none else S2 a) = some o
      rw [if_neg (fun w => by
        obtain ⟨xs, _, q⟩ := key a w.1 w.2
        rw [z] at q
        exact hnl xs (Option.some.inj q))]
      exact z
    have st' : Stt p y S' σ H' ρ := st.grow hSS' h3 (hS2.trans h2) fun a ha => by
      show (if S a = none ∧ lentAt S H vs a ≠ none then none else S2 a) = S a
      by_cases w : S a = none ∧ lentAt S H vs a ≠ none
      · rw [if_pos w, w.1]
      · rw [if_neg w, h4 a ha]
        cases q : S a with
        | some o => exact hs _ _ q
        | none =>
          cases q2 : lentAt S H vs a with
          | none => rfl
          | some o => exact absurd ⟨q, by rw [q2]; simp⟩ w
    refine fin v H' S' st' hSS' h3 ?_
    cases r with
    | v d => exact Rep.unlist back d v hn h5
    | br _ ds => exact h5.elim
    | fr ds =>
      obtain ⟨l, us, e1, q1, q2, q3, q4⟩ := h5
      refine ⟨l, us, e1, q1, ?_, (st.none0 q3).2, Reps.unlist back _ _ hn q4, fun i s e2 ho z => ?_⟩
      · cases q : S' l with
        | none => rfl
        | some o => rw [hS2 _ _ q] at q2; cases q2
      have q := st.sl i s e2
      cases s with
      | own ds' =>
        obtain ⟨l', us', e3, e4, _⟩ := q
        rw [e3] at z
        cases z
        rw [q3] at e4
        cases e4
      | dic ds' =>
        obtain ⟨l', us', e3, e4, _⟩ := q
        rw [e3] at z
        cases z
        rw [q3] at e4
        cases e4
      | _ => cases ho
end
end DS
/-! ## sorted(xs, key=f), f a def -/
namespace DS
open PySem PySem.Spec PyProof.Rows L2
theorem kins_sorted {α : Type} {k : Int} {a : α} : ∀ {l : List (Int × α)}, l.Pairwise (fun p q => p.1 ≤ q.1) → (kins k a l).Pairwise (fun p q => p.1 ≤ q.1) ∧ ∀ q ∈ kins k a l, q = (k, a) ∨ q ∈ l
  | [], _ => ⟨List.pairwise_singleton _ _, fun q h => .inl (by simpa [kins] using h)⟩
  | q :: r, h => by
    unfold kins
    obtain ⟨h1, h2⟩ := List.pairwise_cons.mp h
    split
    · rename_i hk
      refine ⟨List.pairwise_cons.mpr ⟨fun z hz => ?_, h⟩, fun z hz => by simpa using hz⟩
      rcases List.mem_cons.mp hz with rfl | hz
      · exact hk
      · exact Int.le_trans hk (h1 z hz)
    · rename_i hk
      obtain ⟨i1, i2⟩ := kins_sorted (k := k) (a := a) h2
      refine ⟨List.pairwise_cons.mpr ⟨fun z hz => ?_, i1⟩, fun z hz => ?_⟩
      · rcases i2 z hz with rfl | hz
        · show q.1 ≤ k
          omega
        · exact h1 z hz
      · rcases List.mem_cons.mp hz with rfl | hz
        · exact .inr (List.mem_cons_self ..)
        · rcases i2 z hz with e | e
          · exact .inl e
          · exact .inr (List.mem_cons_of_mem _ e)
theorem ksort_sorted {α : Type} : ∀ l : List (Int × α), (ksort l).Pairwise (fun p q => p.1 ≤ q.1)
  | [] => .nil
  | q :: r => (kins_sorted (ksort_sorted r)).1
theorem kins_filter {α : Type} {k : Int} {a : α} (c : Int) : ∀ l : List (Int × α), l.Pairwise (fun p q => p.1 ≤ q.1) → (kins k a l).filter (fun p => p.1 == c) = ((k, a) :: l).filter (fun p => p.1 == c)
  | [], _ => rfl
  | q :: r, h => by
    unfold kins
    split
    · rfl
    · rename_i hk
      obtain ⟨h1, h2⟩ := List.pairwise_cons.mp h
      rw [List.filter_cons, kins_filter c r h2]
      by_cases e1 : q.1 = c
      · have e2 : ¬ k = c := by omega
        simp [List.filter_cons, e1, e2]
      · simp [List.filter_cons, e1]
theorem ksort_filter {α : Type} (c : Int) : ∀ l : List (Int × α), (ksort l).filter (fun p => p.1 == c) = l.filter (fun p => p.1 == c)
  | [] => rfl
  | q :: r => by
    show (kins q.1 q.2 (ksort r)).filter _ = _
    rw [kins_filter c _ (ksort_sorted r), List.filter_cons, List.filter_cons, ksort_filter c r]
theorem sorted_eq {α : Type} : ∀ {ps qs : List (Int × α)}, ps.Pairwise (fun p q => p.1 ≤ q.1) → qs.Pairwise (fun p q => p.1 ≤ q.1) → (∀ c, ps.filter (fun p => p.1 == c) = qs.filter (fun p => p.1 == c)) → ps = qs
  | [], [], _, _, _ => rfl
  | [], q :: qs, _, _, h => by
    have := h q.1
    simp at this
  | p :: ps, [], _, _, h => by
    have := h p.1
    simp at this
  | p :: ps, q :: qs, h1, h2, h => by
    obtain ⟨a1, a2⟩ := List.pairwise_cons.mp h1
    obtain ⟨b1, b2⟩ := List.pairwise_cons.mp h2
    have m1 : p ∈ (q :: qs).filter (fun z => z.1 == p.1) := by
      rw [← h]
      simp
    have m2 : q ∈ (p :: ps).filter (fun z => z.1 == q.1) := by
      rw [h]
      simp
    have l1 : q.1 ≤ p.1 := by
      rcases List.mem_cons.mp (List.mem_filter.mp m1).1 with e | e
      · rw [e]
        exact Int.le_refl _
      · exact b1 _ e
    have l2 : p.1 ≤ q.1 := by
      rcases List.mem_cons.mp (List.mem_filter.mp m2).1 with e | e
      · rw [e]
        exact Int.le_refl _
      · exact a1 _ e
    have e : p.1 = q.1 := Int.le_antisymm l2 l1
    have hp := h p.1
    rw [List.filter_cons, List.filter_cons] at hp
    rw [if_pos (by simp), if_pos (by simp [e])] at hp
    obtain ⟨e1, e2⟩ := List.cons.inj hp
    subst e1
    refine congrArg (List.cons p) (sorted_eq a2 b2 fun c => ?_)
    by_cases hc : p.1 = c
    · subst hc
      exact e2
    · have := h c
      simpa [List.filter_cons, hc] using this
inductive Z2 {α β : Type} (R : α → β → Prop) : List (Int × α) → List (Int × β) → Prop
  | nil : Z2 R [] []
  | cons {k : Int} {a : α} {b : β} {l : List (Int × α)} {m : List (Int × β)} (h : R a b) (r : Z2 R l m) : Z2 R ((k, a) :: l) ((k, b) :: m)
theorem kins_rel {α β : Type} {R : α → β → Prop} {k : Int} {a : α} {b : β} (hab : R a b) : ∀ {l : List (Int × α)} {m : List (Int × β)}, Z2 R l m → Z2 R (kins k a l) (kins k b m)
  | _, _, .nil => .cons hab .nil
  | _, _, .cons (k := c) h hr => by
    unfold kins
    dsimp only
    split
    · exact .cons hab (.cons h hr)
    · exact .cons h (kins_rel hab hr)
theorem ksort_rel {α β : Type} {R : α → β → Prop} : ∀ {l : List (Int × α)} {m : List (Int × β)}, Z2 R l m → Z2 R (ksort l) (ksort m)
  | _, _, .nil => .nil
  | _, _, .cons h hr => kins_rel h (ksort_rel hr)
theorem Z2.vals : ∀ {ks : List Int} {xs : List V} {vs : List Value}, Vals xs vs → Z2 RelV (ks.zip xs) (ks.zip vs)
  | [], _, _, _ => by simp; exact .nil
  | k :: ks, _, _, .nil => .nil
  | k :: ks, _, _, .cons h r => .cons h (Z2.vals r)
theorem Z2.out : ∀ {l : List (Int × V)} {m : List (Int × Value)}, Z2 RelV l m → Vals (l.map (·.2)) (m.map (·.2))
  | _, _, .nil => .nil
  | _, _, .cons h r => .cons h (Z2.out r)
section
variable {p : Par} {S : Hp}
theorem Z2.reps : ∀ {ks : List Int} {ds : List D} {vs : List V}, Reps p S ds vs → Z2 (Rep p S) (ks.zip ds) (ks.zip vs)
  | [], _, _, _ => by simp; exact .nil
  | k :: ks, [], vs, h => by
    cases (show vs = [] from h)
    exact .nil
  | k :: ks, d :: ds, vs, h => by
    obtain ⟨v, r, rfl, h1, h2⟩ := (show ∃ v r, vs = v :: r ∧ Rep p S d v ∧ Reps p S ds r from h)
    exact .cons h1 (Z2.reps h2)
theorem Z2.rout : ∀ {l : List (Int × D)} {m : List (Int × V)}, Z2 (Rep p S) l m → Reps p S (l.map (·.2)) (m.map (·.2))
  | _, _, .nil => rfl
  | _, _, .cons h r => ⟨_, _, rfl, h, Z2.rout r⟩
end
theorem kins_len {α : Type} {k : Int} {a : α} : ∀ l : List (Int × α), (kins k a l).length = l.length + 1
  | [] => rfl
  | q :: r => by
    unfold kins
    split
    · rfl
    · show (kins k a r).length + 1 = _
      rw [kins_len r]
      rfl
theorem ksort_len {α : Type} : ∀ l : List (Int × α), (ksort l).length = l.length
  | [] => rfl
  | q :: r => by
    show (kins q.1 q.2 (ksort r)).length = _
    rw [kins_len, ksort_len r]
    rfl
theorem keysD_len {m : List D → Out Ar} : ∀ {ds : List D} {ks : List Int}, keysD m ds = .ok ks → ks.length = ds.length
  | [], ks, h => by cases h; rfl
  | d :: ds, ks, h => by
    unfold keysD at h
    cases e : m [d] with
    | ok r =>
      rw [e] at h
      cases r with
      | v x =>
        cases x with
        | int k =>
          cases e2 : keysD m ds with
          | ok ks' =>
            have h : (Out.ok (k :: ks') : Out (List Int)) = .ok ks := by simpa [e2] using h
            cases h
            exact congrArg (· + 1) (keysD_len e2)
          | bad => simp [e2] at h
          | exc c fs => simp [e2] at h
        | _ => cases h
      | _ => cases h
    | bad => rw [e] at h; cases h
    | exc c fs => rw [e] at h; cases h
theorem keysD_at {m : List D → Out Ar} : ∀ {ds : List D} {ks : List Int} {i : Nat} {d : D} {k : Int}, keysD m ds = .ok ks → ds[i]? = some d → ks[i]? = some k → m [d] = .ok (.v (.int k))
  | [], ks, i, d, k, h, h1, h2 => by simp at h1
  | d :: ds, ks, i, d', k', h, h1, h2 => by
    unfold keysD at h
    cases e : m [d] with
    | ok r =>
      rw [e] at h
      cases r with
      | v x =>
        cases x with
        | int k =>
          cases e2 : keysD m ds with
          | ok ks' =>
            have h : (Out.ok (k :: ks') : Out (List Int)) = .ok ks := by simpa [e2] using h
            cases h
            cases i with
            | zero =>
              simp at h1 h2
              subst h1 h2
              exact e
            | succ i => exact keysD_at (i := i) e2 (by simpa using h1) (by simpa using h2)
          | bad => simp [e2] at h
          | exc c fs => simp [e2] at h
        | _ => cases h
      | _ => cases h
    | bad => rw [e] at h; cases h
    | exc c fs => rw [e] at h; cases h
end DS
/-! ### the machine: what stands behind the keys' loop -/
namespace DsSort
open PySem PyProof.Rows
section
variable {P : Program} {w : World} {A : Around} {X : Value → Shared → Prop} {t : Shared} {D kS : Addr} {xs : List Value} {zs : List Int} {ks : Array Value} {n m : Nat} {R : PySem.Fin → Shared → Prop}
/-- the keys' list emptied, the sorted values laid down -/
def ended (h : Heap) (D kS : Addr) (out : Array Value) : Heap := (h.update kS (.mapSeq fun _ => #[])).update D (.mapSeq fun _ => out)
theorem last_part {q : SortSt} (hD : t.heap.get? D = some (seqObj "list" #[] m)) (hS : t.heap.get? kS = some (seqObj "list" ks n)) (apart : kS ≠ D) (few : ks.size ≤ sizeLine) (few2 : (arrOf q).size ≤ sizeLine) (good : failedOf q = none)
    (go : ∀ c, R (.done (.ret .none)) { t with heap := ended t.heap D kS ((arrOf q).map (·.2)), toks := c }) : wpAny (model P w) A (ksk_tail D false m (.ref kS) q) R X t := by
  have still : (t.heap.update kS (.mapSeq fun _ => #[])).get? D = some (seqObj "list" #[] m) :=
    Eq.trans (Heap.get?_update_ne _ _ _ _ apart.symm) hD
  have size : ((arrOf q).map (·.2)).size ≤ sizeLine + 1 := by
    rw [Array.size_map]
    exact Nat.le_succ_of_le few2
  show wpAny _ _ (do
    Builtin.List.listUpdate (.ref kS) fun _ => #[]
    letGo ((arrOf q).map (·.1)).toList (failedOf q).toList
    let b := (← seqEpoch D) != m
    Builtin.List.listUpdate (.ref D) fun _ => (arrOf q).map (·.2)
    if let some e := failedOf q then rule "list.sort.comparison-raised"; throw e
    if b then rule "list.sort.modified"; raiseError "ValueError" "list modified during sort"
    ret .none) R X t
  rw [good]
  exact wpAny_bind (listUpdate_at hS rfl (wpAny_bind (wpAny_letGo (wpAny_bind (seqEpoch_at still rfl (wpAny_bind (listUpdate_at still rfl (by
    simp only [bne_self_eq_false]
    exact wpAny_pure (go _)) (Nat.zero_le _) size)))))) few (Nat.zero_le _))
/-- behind the keys: the values in the order of their keys -/
theorem end_part (hD : t.heap.get? D = some (seqObj "list" #[] m)) (hS : t.heap.get? kS = some (seqObj "list" ks n)) (apart : kS ≠ D) (are : IntsAre ks.toList zs) (same : zs.length = xs.length) (few : xs.length ≤ sizeLine)
    (go : ∀ c out, KskOutSt false zs xs out.toList → R (.done (.ret .none)) { t with heap := ended t.heap D kS out, toks := c }) : wpAny (model P w) A (ksk_end D false xs.toArray m (.ref kS) ks) R X t := by
  have k1 : ks.size = xs.length := by
    have := are.length
    simp only [Array.length_toList] at this
    omega
  obtain ⟨Z, hZ⟩ : ∃ Z, Z = ks.zip xs.toArray := ⟨_, rfl⟩
  have z1 : Z.size = xs.length := by
    rw [hZ, Array.size_zip, k1]
    simp
  have fin : ∀ q : SortSt, (arrOf q).Perm Z → failedOf q = none → SortedTo (arrOf q) (arrOf q).size → Stable intKind (arrOf q) Z → wpAny (model P w) A (ksk_tail D false m (.ref kS) q) R X t := fun q p1 p2 p3 p4 => by
    refine last_part hD hS apart (by omega) (by rw [p1.size_eq, z1]; exact few) p2 fun c => go c _ ?_
    rw [hZ] at p1 p4
    exact ksk_outSt (b := false) are p1 p3 p4
  show wpAny _ _ (do
    let kind ← if xs.toArray.size < 2 then pure general' else keyKind' ks
    let ((), q) ← (if xs.toArray.size < 2 then pure () else sortRuns').run (SortSt.mk' kind (ks.zip xs.toArray) #[] 7 none)
    ksk_tail D false m (.ref kS) q) R X t
  rw [← hZ]
  by_cases short : xs.toArray.size < 2
  · simp only [short, if_true]
    refine wpAny_bind (wpAny_pure (wpAny_bind (wpAny_pure (fin (SortSt.mk' general' Z #[] 7 none) (.refl _) rfl ?_ (.refl _)))))
    intro i j h1 h2
    have h3 : j < Z.size := h2
    have h4 : xs.length < 2 := by simpa using short
    obtain rfl : i = j := by omega
    exact Int.le_refl _
  · simp only [short, if_false]
    have long : 2 ≤ xs.length := by simpa using short
    rw [ksk_kind are (by omega)]
    have good := ksk_keysOfInt (ksk_intKeys (vs := xs) are)
    rw [← hZ] at good
    exact wpAny_bind (wpAny_pure (wpAny_bind (wpAny_mono (wpS_sortRunsSt (κ := intKind) (a₀ := Z) (st := SortSt.mk' oneType' Z #[] 7 none)
      (Q := fun _ q => (arrOf q).Perm Z ∧ failedOf q = none ∧ SortedTo (arrOf q) (arrOf q).size ∧ Stable intKind (arrOf q) Z) intKind_oneLt good ⟨.refl _, rfl, rfl⟩ rfl (.refl _) (by omega)
      fun q r1 r2 r3 r4 => ⟨r1, r2, by rw [r1.size_eq]; exact sortedTo_of_int r3, r4⟩) (fun r u hr => by
        obtain ⟨⟨⟩, q⟩ := r
        obtain ⟨rfl, r1, r2, r3, r4⟩ := hr
        exact fin q r1 r2 r3 r4) fun _ _ z => z)))
end
end DsSort
namespace DS
open PySem PySem.Spec PyProof.Rows L2
section
variable {X : Cx} {p : Par}
/-- one call of the key -/
theorem key_turn {pins : List (Addr × Obj)} {σ : L2.St} {H S : Hp} {s : Shared} {m : List D → Out Ar} {fa : Addr} {fd : FuncData} {ps : List Str} {k : Nat} {d : D} {x : V} {v : Value} {key : Int} (F : FnOk X.prog X.w X.K X.mg X.base CX0 k fa fd ps (spD p 1 m)) (hr : Room (k + 2) X.A) (hb : Binds X.K fd ps [])
    (I : Inv X pins σ H s) (sub : Sub S H) (rx : Rep p S d x) (rv : RelV x v) (hm : m [d] = .ok (.v (.int key))) :
    wpAny (model X.prog X.w) X.A.in1.in1 (call (.ref fa) [v]) (fun u s' => ∃ H' t, u = .int key t ∧ Inv X pins σ H' s' ∧ Sub H H') (fun _ _ => False) s := by
  have hsp : spD p 1 m [x] H (fun u H' => u = .int key ∧ Sub H H') (fun _ _ _ => False) := by
    refine ⟨S, [d], sub, ⟨x, [], rfl, rx, rfl⟩, rfl, ?_⟩
    rw [hm]
    exact fun u H' S' _ _ h3 _ ra => ⟨ra, h3⟩
  have r2 : Vals [x] [v] := .cons rv .nil
  have hl : [v].length = ps.length := F.len _ _ _ _ hsp
  have e0 : Env0 X.prog X.w X.K X.mg X.base X.A.in1.in1 X.stack s H := I.env0.in1.in1
  have hr2 : Room k X.A.in1.in1 := (hr.in1).in1
  have hbb := hb s [v] I.kIn hl
  rw [List.append_nil] at hbb
  refine wpAny_call (codeAny_mono (F.run X.A.in1.in1 X.stack s H ⟨[v], []⟩ [v] [x] _ _ hr2 e0 hbb r2 hsp) fun r s' hq => ?_)
  cases r with
  | error e => exact hq
  | ok fl =>
    cases fl with
    | ret u =>
      obtain ⟨y, H', I', ry, e1, h3⟩ := I.after hq
      subst e1
      obtain ⟨t, e2⟩ := (show ∃ t, u = .int key t from ry)
      exact ⟨H', t, e2, I', h3⟩
    | next => exact False.elim hq
    | brk => exact False.elim hq
    | cont => exact False.elim hq
theorem key_rest {pins : List (Addr × Obj)} {σ : L2.St} {H0 H S : Hp} {s : Shared} {m : List D → Out Ar} {fa a kS : Addr} {fd : FuncData} {ps : List Str} {k : Nat} {ds : List D} {xs : List V} {vs : List Value} {ks : List Int} {e1 : Nat} {E : Value → Shared → Prop} {P : PySem.Fin → Shared → Prop}
    (F : FnOk X.prog X.w X.K X.mg X.base CX0 k fa fd ps (spD p 1 m)) (hr : Room (k + 2) X.A) (hb : Binds X.K fd ps [])
    (I : Inv X pins σ H s) (hS : Sub S H0) (h0 : Sub H0 H) (rep : Reps p S ds xs) (rv : Vals xs vs) (hm : keysD m ds = .ok ks) (hZ : xs.length ≤ sizeLine)
    (ha : H a = some (.frz (seqObj "list" #[] e1) (.lst []))) (hk : H kS = some (.lst [])) (hka : kS ≠ a) (n0 : H0 a = none) (n1 : H0 kS = none) (nf : ∀ o' u', X.H_0 a ≠ some (.frz o' u'))
    (h : ∀ H' s', Inv X pins σ H' s' → Sub H0 H' → H' a = some (.lst ((ksort (ks.zip xs)).map (·.2))) → P (.done (.ret .none)) s') :
    wpAny (model X.prog X.w) X.A.in1.in1 (ksk_rest a (.ref fa) false vs.toArray e1 (.ref kS)) P E s := by
  have hl1 := keysD_len hm
  have hl2 := rep.length
  have hl3 := rv.length
  have hZ2 := hZ
  rw [sizeLine_eq] at hZ2
  refine wpAny_bind (m := rule "list.sort.key") (wpAny_rule ?_)
  rw [List.forIn_toArray]
  refine wpAny_bind (ksk_fold (fun j s' => ∃ Hj, Inv X pins σ Hj s' ∧ Sub H0 Hj ∧ Hj a = some (.frz (seqObj "list" #[] e1) (.lst [])) ∧ Hj kS = some (.lst ((ks.take j).map V.int))) vs 0 s
    ⟨H, I, h0, ha, by simpa using hk⟩ ?step ?done)
  case step =>
    rintro j v s' hx ⟨Hj, Ij, hj, haj, hkj⟩
    simp only [Nat.zero_add] at hkj ⊢
    have hjl : j < vs.length := (List.getElem?_eq_some_iff.mp hx).1
    obtain ⟨key, ek⟩ : ∃ key, ks[j]? = some key := ⟨_, List.getElem?_eq_getElem (by omega)⟩
    obtain ⟨d, ed⟩ : ∃ d, ds[j]? = some d := ⟨_, List.getElem?_eq_getElem (by omega)⟩
    obtain ⟨x, ex, rx⟩ := rep.get ed
    obtain ⟨v', ev, rxv⟩ := rv.get ex
    rw [hx] at ev
    cases ev
    refine wpAny_bind (wpAny_attempt (wpAny_mono (key_turn F hr hb Ij (hS.trans hj) rx rxv (keysD_at hm ed ek)) (fun u s'' he => ?_) fun _ _ hF => hF.elim))
    obtain ⟨H2, t, rfl, I2, h2⟩ := he
    try dsimp only
    obtain ⟨hz, its, n, rits, hlen, hobj⟩ := I2.lstM (h2 _ _ hkj)
    have hz2 : its.length ≤ vs.length := by
      rw [← hlen, List.length_map, List.length_take]
      omega
    have et : ks.take (j + 1) = ks.take j ++ [key] := by rw [List.take_add_one, ek]; simp
    refine wpAny_bind (listUpdate_at hobj rfl ?_ (by rw [List.size_toArray, sizeLine_eq]; omega) (Nat.le_trans (Nat.le_of_eq (Array.size_push ..)) (by rw [List.size_toArray, sizeLine_eq]; omega)))
    have I3 := I2.lset (f := fun q => q.push (.int key t)) (its' := its ++ [.int key t]) (ys := (ks.take (j + 1)).map V.int) (t' := s''.toks) (h2 _ _ hkj) hobj (by simp) (by
      rw [et, List.map_append]
      exact rits.append (.cons ⟨t, rfl⟩ .nil)) (by
        rw [List.length_map, List.length_take, sizeLine_eq]
        omega)
    refine wpAny_pure ⟨rfl, _, I3, fun b o q => ?_, ?_, upd_same⟩
    · rw [upd_ne (fun z => by rw [z, n1] at q; cases q)]
      exact h2 _ _ (hj _ _ q)
    · rw [upd_ne hka.symm]
      exact h2 _ _ haj
  case done =>
    rintro s' ⟨Hj, Ij, hj, haj, hkj⟩
    rw [Nat.zero_add, List.take_of_length_le (by omega)] at hkj
    obtain ⟨hz, its, n, rits, hlen, hobj⟩ := Ij.lstM hkj
    have hkI : IntsAre its ks := rits.ints
    have hao : s'.heap.get? a = some (seqObj "list" #[] e1) := (Ij.hok a _ haj).1
    try dsimp only
    refine wpAny_bind (listItems_at hobj rfl ?_)
    refine DsSort.end_part (zs := ks) (n := n) (ks := its.toArray) (xs := vs) hao hobj hka (by simpa using hkI) (by omega) (by rw [sizeLine_eq]; omega) fun tk out ho => ?_
    obtain ⟨pr, q1, q2, q3, q4⟩ := ho
    have epr : pr = ksort (ks.zip vs) := sorted_eq (by simpa using q3) (ksort_sorted _) fun c => by rw [q4 c, ksort_filter]
    have hov : Vals ((ksort (ks.zip xs)).map (·.2)) out.toList := by
      rw [q2, epr]
      exact (ksort_rel (Z2.vals rv)).out
    have I4 := Ij.lset (f := fun _ => (#[] : Array Value)) (its' := []) (ys := []) (t' := tk) hkj hobj rfl .nil (Nat.zero_le _)
    have ha4 : (upd Hj kS (.lst [])) a = some (.frz (seqObj "list" #[] e1) (.lst [])) := by rw [upd_ne hka.symm]; exact haj
    have I5 := I4.unlock ha4 nf
    have hao2 : (s'.heap.update kS (Obj.mapSeq fun _ => (#[] : Array Value))).get? a = some (seqObj "list" #[] e1) := (I5.hok a _ upd_same |> fun z => by
      exact ((Heap.SameBut.update s'.heap kS (Obj.mapSeq fun _ => (#[] : Array Value))).2 a hka.symm).trans hao)
    have I6 := I5.lset (f := fun _ => out) (its := []) (its' := out.toList) (ys := (ksort (ks.zip xs)).map (·.2)) (t' := tk) upd_same hao2 (by simp) hov (by
      rw [List.length_map, ksort_len, List.length_zip]
      omega)
    refine h _ _ I6 (fun b o q => ?_) upd_same
    have nb : b ≠ a := fun z => by rw [z, n0] at q; cases q
    have nk : b ≠ kS := fun z => by rw [z, n1] at q; cases q
    rw [upd_ne nb, upd_ne nb, upd_ne nk]
    exact hj _ _ q
/-- what sorted lays down before it sorts: a list that is gathered, and its copy -/
def twin (h : Heap) (vs : Array Value) : Heap := ((h.push (seqObj "list" #[] 0)).update h.objs.size (.mapSeq (· ++ vs))).push (seqObj "list" vs 0)
theorem twin_size (h : Heap) (vs : Array Value) : ((h.push (seqObj "list" #[] 0)).update h.objs.size (.mapSeq (· ++ vs))).objs.size = h.objs.size + 1 :=
  (Heap.size_update ..).trans (size_push' ..)
theorem twin_at (h : Heap) (vs : Array Value) : (twin h vs).get? (h.objs.size + 1) = some (seqObj "list" vs 0) := by
  have := Heap.get?_push_size ((h.push (seqObj "list" #[] 0)).update h.objs.size (.mapSeq (· ++ vs))) (o := seqObj "list" vs 0) rfl
  rwa [twin_size] at this
theorem twin_keep (h : Heap) (vs : Array Value) (b : Addr) (o : Obj) (e : h.get? b = some o) : (twin h vs).get? b = some o :=
  Heap.get?_push_of_some _ ((Heap.get?_update_ne _ _ _ _ (Nat.ne_of_lt (Heap.lt_size e))).trans (Heap.get?_push_of_some _ e))
theorem twin_run {P : Program} {w : World} {A : Around} {E : Value → Shared → Prop} {s : Shared} {l : Addr} {vs : List Value} {Q : PySem.Fin → Shared → Prop} {kw : List (Str × Value)} (hl : PlainL s.heap l vs.toArray) (hZ : vs.length ≤ sizeLine)
    (h : wpAny (model P w) A (do
      let _ ← holding [.ref (s.heap.objs.size + 1)] (call (.builtin "list.sort") [.ref (s.heap.objs.size + 1)] kw)
      ret (.ref (s.heap.objs.size + 1))) Q E { s with heap := twin s.heap vs.toArray }) : wpAny (model P w) A (Builtin.«sorted» ⟨[.ref l], kw⟩) Q E s := by
  rw [← twin_size s.heap vs.toArray] at h
  have z : vs.toArray.size ≤ sizeLine := by simpa using hZ
  exact wpAny_bind (m := checkCount "sorted" 1 1 [Value.ref l].length) (wpAny_pure (wpAny_bind (collect_list hl.isList (wpAny_bind (wpAny_newList h hZ)) z)))
/-- sorted(xs, key=f) -/
def rSortK (K : PySem.W.Frag) (p : Par) (m : List D → Out Ar) (fa : Addr) : List V → List V → Hp → VK → Prop := fun us zs H Q => ∃ (a : Addr) (S : Hp) (ds : List D) (xs : List V) (ks : List Int), us = [.ref a] ∧ zs = [.ref fa] ∧ SqL K H a xs ∧ Sub S H ∧ Reps p S ds xs ∧ keysD m ds = .ok ks ∧
  ∀ H' l, Sub H H' → H l = none → H' l = some (.lst ((ksort (ks.zip xs)).map (·.2))) → Q (.ref l) H'
theorem cr_sortK {m : List D → Out Ar} {fa : Addr} {fd : FuncData} {ps : List Str} {k : Nat} (F : FnOk X.prog X.w X.K X.mg X.base CX0 k fa fd ps (spD p 1 m)) (hr : Room (k + 2) X.A) (hb : Binds X.K fd ps []) : CallRK X (.builtin "sorted") ["key"] (rSortK X.K p m fa) := by
  intro pins s σ H us zs uv zv Q I r1 r2 h
  obtain ⟨a, S, ds, xs, ks, rfl, rfl, hsq, hS, rep, hm, q⟩ := h
  rw [Vals.ref1 r1, Vals.ref1 r2]
  obtain ⟨vs, rv, hl, hZ⟩ := I.list hsq
  have hlen := rv.length
  have hZ2 := hZ
  rw [sizeLine_eq] at hZ2
  show wpAny _ _ (call (.builtin "sorted") [.ref a] [(Str.ofString "key", .ref fa)]) _ _ _
  refine call_function_entry_kw kind_sorted plain_sorted entry_sorted (ksk_s1 _ _) ?_
  obtain ⟨h1, eh1⟩ : ∃ h1, h1 = twin s.heap vs.toArray := ⟨_, rfl⟩
  have hoL := twin_at s.heap vs.toArray
  have keep : ∀ b o, s.heap.get? b = some o → h1.get? b = some o := by
    rw [eh1]
    exact twin_keep s.heap vs.toArray
  rw [← eh1] at hoL
  refine twin_run hl (by omega) ?_
  rw [← eh1]
  have nD : H (s.heap.objs.size + 1) = none := I.hok.fresh (Nat.le_succ _)
  have I1 : Inv X pins σ (upd H (s.heap.objs.size + 1) (.lst xs)) { s with heap := h1, toks := s.toks } := I.laid keep (Nat.le_succ _) ⟨hZ, vs, 0, rv, hoL⟩
  refine wpAny_bind (wpAny_holding (wpAny_call_entry_kw slot_list_sort ⟨_, hoL, rfl⟩ entry_list_sort ?body (ksk_l1 _ _)))
  case body =>
    show wpAny (model X.prog X.w) X.A.in1.in1 (Builtin.«list.sort» ⟨[.ref (s.heap.objs.size + 1)], [(Str.ofString "key", .ref fa)]⟩) _ _ _
    rw [ksk_t1]
    obtain ⟨e1, ho1⟩ : ∃ e1, (h1.update (s.heap.objs.size + 1) (Obj.mapSeq fun _ => (#[] : Array Value))).get? (s.heap.objs.size + 1) = some (seqObj "list" #[] e1) := ⟨_, get?_update_seq hoL fun _ => #[]⟩
    have I2 := I1.lset (f := fun _ => (#[] : Array Value)) (its := vs) (its' := []) (ys := []) (t' := s.toks) upd_same hoL rfl .nil (Nat.zero_le _)
    unfold ksk_tree
    refine wpAny_bind (listItems_at hoL rfl ?_)
    refine wpAny_bind (listUpdate_at hoL rfl ?_ (by rw [List.size_toArray, sizeLine_eq]; omega) (Nat.zero_le _))
    refine wpAny_bind (seqEpoch_at ho1 rfl ?_)
    refine wpAny_bind (wpAny_newTuple ?_ (by show vs.length ≤ _; rw [sizeLine_eq]; omega))
    refine wpAny_bind (wpAny_newList ?_ (Nat.zero_le _))
    refine wpAny_holding ?_
    dsimp only
    have I3 := I2.kept (t' := s.toks) (h' := (h1.update (s.heap.objs.size + 1) (Obj.mapSeq fun _ => (#[] : Array Value))).push (seqObj "tuple" vs.toArray 0)) fun b u q => Heap.get?_push_of_some _ q
    have I4 := I3.lnew (its := []) (ys := []) (t' := s.toks) .nil (Nat.zero_le _)
    obtain ⟨kS, ekS⟩ : ∃ kS, kS = ((h1.update (s.heap.objs.size + 1) (Obj.mapSeq fun _ => (#[] : Array Value))).push (seqObj "tuple" vs.toArray 0)).objs.size := ⟨_, rfl⟩
    rw [← ekS] at I4 ⊢
    have hlt : s.heap.objs.size + 1 < h1.objs.size := Heap.lt_size hoL
    have ekS2 : kS = h1.objs.size + 1 := by rw [ekS, size_push', Heap.size_update]
    have hka : kS ≠ s.heap.objs.size + 1 := by omega
    have nK : H kS = none := I.hok.fresh (by omega)
    have ho4 : (((h1.update (s.heap.objs.size + 1) (Obj.mapSeq fun _ => (#[] : Array Value))).push (seqObj "tuple" vs.toArray 0)).push { cls := .type "list", data := .seq (([] : List Value)).toArray }).get? (s.heap.objs.size + 1) = some (seqObj "list" #[] e1) :=
      Heap.get?_push_of_some _ (Heap.get?_push_of_some _ ho1)
    have hD4 : (upd (upd (upd H (s.heap.objs.size + 1) (.lst xs)) (s.heap.objs.size + 1) (.lst [])) kS (.lst [])) (s.heap.objs.size + 1) = some (.lst []) := by rw [upd_ne hka.symm, upd_same]
    have nf := I4.nofrz hD4 trivial
    obtain ⟨od, I5⟩ := I4.lock hD4 trivial
    have eod : od = seqObj "list" #[] e1 := by
      have := (I5.hok _ _ upd_same).1
      rw [ho4] at this
      exact (Option.some.inj this).symm
    subst eod
    refine key_rest (H0 := H) (S := S) F hr hb I5 hS (fun b o q => ?_) rep rv hm hZ upd_same (by rw [upd_ne hka, upd_same]) hka nD nK nf fun H' s' I' h' ha' => ?_
    · have nb : b ≠ s.heap.objs.size + 1 := fun z => by rw [z, nD] at q; cases q
      have nk : b ≠ kS := fun z => by rw [z, nK] at q; cases q
      rw [upd_ne nb, upd_ne nk, upd_ne nb, upd_ne nb]
      exact q
    · refine ⟨_, rfl, ?_⟩
      exact wpAny_pure ⟨_, rfl, .ref (s.heap.objs.size + 1), H', I', rfl, q _ _ h' nD ha'⟩
end
end DS
/-! ## enumerate over a tuple -/
namespace DS
open PySem PySem.Spec PyProof.Rows L2
/-- the two cells that a new enumerate puts behind the heap -/
abbrev enumOn (h : Heap) (first : Obj) : Heap :=
  (h.push first).push { cls := .type "enumerate", data := .fields #[.none, .bool false, .ref h.objs.size, rawInt 0, .none, .none] }
theorem enum_made {v : Value} {first : Obj} {may : Heap → Prop} (src : Begins v first may) : Meets (Builtin.«enumerate.__new__» ⟨[.type "enumerate", v], []⟩)
    (fun _ R s => may s.heap ∧ R (.ok (.ret (.ref (s.heap.push first).objs.size))) { s with heap := enumOn s.heap first }) := by
  refine .of_wp fun prog w around R world given => ?_
  obtain ⟨cells, gl, os, tick, sys⟩ := world
  have sub_ := sub_enumerate
  have start_ : ∀ {A' : Around} {E : Value → Shared → Prop} {Q : Value → Shared → Prop}, Q (.ref cells.objs.size) ⟨cells.push first, gl, os, tick, sys⟩ →
      wpAny (model prog w) A' (pyIter v) Q E ⟨cells, gl, os, tick, sys⟩ :=
    fun goal => src.iter prog w _ _ ⟨cells, gl, os, tick, sys⟩ _ given.1 goal
  have out := given.2
  wp_walk using start_
  refine wpAny_stack_any fun _ => wpAny_pure ?_
  split
  case h_1 =>
    rename_i c _ _ _ _ _
    cases (c == Value.type "enumerate") <;> (wp_walk using start_; exact ⟨_, rfl, out⟩)
  all_goals (wp_walk using start_; exact ⟨_, rfl, out⟩)
section
variable {prog : Program} {w : World} {A : Around} {E : Value → Shared → Prop} {s : Shared}
theorem enum_call {l : Addr} {vs : Array Value} {Q : Value → Shared → Prop} (tup : s.heap.IsTuple l vs)
    (go : ∀ h2, IsEnum h2 (s.heap.objs.size + 1) s.heap.objs.size 0 .none → h2.IsTupleIter s.heap.objs.size l 0 → (∀ b o, s.heap.get? b = some o → h2.get? b = some o) → Q (.ref (s.heap.objs.size + 1)) { s with heap := h2 }) :
    wpAny (model prog w) A (call (.type "enumerate") [.ref l]) Q E s := by
  have top : (s.heap.push { cls := .type "tuple_iterator", data := .fields #[.ref l, .int 0 0] }).objs.size = s.heap.objs.size + 1 := Heap.size_push ..
  have made : IsEnum (enumOn s.heap { cls := .type "tuple_iterator", data := .fields #[.ref l, .int 0 0] }) (s.heap.objs.size + 1) s.heap.objs.size 0 .none := by
    have at_ := Heap.get?_push_size (s.heap.push { cls := .type "tuple_iterator", data := .fields #[.ref l, .int 0 0] }) (o := { cls := .type "enumerate", data := .fields #[.none, .bool false, .ref s.heap.objs.size, rawInt 0, .none, .none] }) rfl
    rwa [top] at at_
  refine callType_new F.called_enumerate (by decide) (F.typeCall_enumerate_1 _) (F.newCall_enumerate_1 _) (fun ob => F.args_object_init_2 ob _) F.entry_enumerate_new (enum_made (begins_tuple l vs)) (And.intro tup ?_)
  show _ ∧ _
  rw [top]
  exact ⟨⟨_, made, rfl⟩, go _ made ⟨_, Heap.get?_push_of_some _ (Heap.get?_push_size _ rfl), rfl, rfl⟩ fun _ _ was => Heap.get?_push_of_some _ (Heap.get?_push_of_some _ was)⟩
end
/-- the turns: a new pair of the index and the item there -/
def IteT (K : PySem.W.Frag) (a : Addr) : It where
  go := fun i H => ∃ (xs : List V) (x : V), SqT K H a xs ∧ xs[i]? = some x
  yld := fun i H v H' => ∃ T x, v = .ref T ∧ H T = none ∧ H' = upd H T (.tup [.int (i : Nat), x]) ∧ ∀ xs, SqT K H a xs → xs[i]? = some x
  stop := fun i H => ∃ xs : List V, SqT K H a xs ∧ xs.length = i
/-- the kit's walk over enumerate, with a tuple below -/
def enum_walk {P : Program} {w : World} {A : Around} (calm : A.in1.handled = none) {e it a : Addr} (ne : e ≠ it) (ni : a ≠ it) (na : e ≠ a) (vs : Array Value) :=
  WalksT.enumerateD (prog := P) (w := w) (A := A) (Draws.tuple calm it a ni vs) e ne (fun z => (List.mem_cons.mp z).elim ne fun z => na (List.mem_singleton.mp z)) (List.mem_cons_self ..)
theorem enum_apart {h : Heap} {e it a : Addr} {n : Int} {old : Value} {vs : Array Value} (he : IsEnum h e it n old) (ht : h.IsTuple a vs) : e ≠ a := by
  rintro rfl
  obtain ⟨o, ho, hcl, -⟩ := ht
  cases he.symm.trans ho
  exact absurd (show Value.type "enumerate" = Value.type "tuple" from hcl) (by decide +kernel)
theorem turn_enumT {P : Program} {w : World} {K : PySem.W.Frag} {elts : List Expr} {kk : Nat} {tpos : Pos} (a e it : Addr) (ni : a ≠ it) :
    Turn P w K (.Tuple elts kk tpos) (IteT K a) [e, it] e (fun i h => (∃ old, IsEnum h e it ((i : Nat) : Int) old) ∧ h.IsTupleIter it a i ∧ e ≠ it) := by
  refine ⟨List.mem_cons_self .., ?_, ?_, ?_, ?_, fun _ i s Q E st q => st.1.elim fun _ he => wpAny_pyIter_enum he q⟩
  · rintro i h ⟨⟨old, he⟩, ⟨o, ho, -, hd⟩, -⟩ b hb
    simp only [List.mem_cons, List.not_mem_nil, or_false] at hb
    rcases hb with rfl | rfl
    · exact ⟨_, he, fun _ c => nomatch c⟩
    · exact ⟨o, ho, fun _ c => by rw [hd] at c; exact nomatch c⟩
  · rintro i h h' ⟨⟨old, he⟩, hi, ne⟩ k
    exact ⟨⟨old, k e (.head _) _ he⟩, hi.at fun o q => k it (.tail _ (.head _)) o q, ne⟩
  · rintro X rfl rfl rfl calm i pins s σ H E I free ⟨⟨old, he⟩, hit, ne⟩ ⟨xs, x, sq, hx⟩
    obtain ⟨us, rel, tup, -⟩ := I.tuple sq
    obtain ⟨u, hu, ru⟩ := rel.get hx
    have tup' : s.heap.IsTuple a us.toArray := tup
    have W := enum_walk (P := X.prog) (w := X.w) (A := X.A) (I.ok.hd calm) ne ni (enum_apart he tup') us.toArray
    have small : i < us.toArray.size := by simpa using (List.getElem?_eq_some_iff.mp hu).1
    refine W.item i s _ E small ⟨⟨old, he⟩, hit, tup'⟩ ?_
    rintro T vals h2 tk ⟨t, y, hy, rfl⟩ new_ isT mid rest
    have same : y = u := by
      have : us[i]? = some y := by simpa using hy
      exact Option.some.inj (this.symm.trans hu)
    subst same
    refine ⟨_, rfl, W.go elts kk tpos i T { s with heap := h2, toks := tk } _ E mid ?_⟩
    rintro h3 ⟨he3, hit3, -⟩ rest3
    have isT3 : h3.IsTuple T #[.int (i : Nat) t, y] := isT.at fun o q => rest3 T o (W.apart i T h2 mid) q
    have born : ObjOk X.prog X.w (upd H T (.tup [.int (i : Nat), x])) h3 T (.tup [.int (i : Nat), x]) := ⟨by show 2 ≤ sizeLine; decide, [.int (i : Nat) t, y], .cons ⟨_, rfl⟩ (.cons ru .nil), isT3⟩
    have I3 := I.turnedNew (t' := tk) (ch := [e, it]) (fun b o hb q => rest3 b o hb (rest b o hb q)) free new_ born
    refine ⟨.ref T, _, I3, rfl, ⟨T, x, rfl, I.hok.fresh new_, rfl, fun ys hy => by rw [I.tuple_inj hy sq]; exact hx⟩, ⟨he3, hit3, ne⟩, fun b hb => ?_⟩
    have apart_ : b ≠ T := fun z => W.apart i T h2 mid (z ▸ hb)
    rw [upd_ne apart_]
    exact (free b hb).1
  · rintro X rfl rfl rfl calm i pins s σ H E I free ⟨⟨old, he⟩, hit, ne⟩ ⟨xs, sq, rfl⟩
    obtain ⟨us, rel, tup, -⟩ := I.tuple sq
    have tup' : s.heap.IsTuple a us.toArray := tup
    have W := enum_walk (P := X.prog) (w := X.w) (A := X.A) (I.ok.hd calm) ne ni (enum_apart he tup') us.toArray
    have all_ : xs.length = us.toArray.size := by simp [rel.length]
    rw [all_] at he hit
    refine W.done s _ E ⟨⟨old, he⟩, hit, tup'⟩ fun h2 tk rest => ⟨rfl, ?_⟩
    exact I.turnedL rest free
def iEnumT (K : PySem.W.Frag) (ta : TA) : TI := fun σ H R => ta σ H fun vs H1 => ∃ a xs, vs = [.ref a] ∧ SqT K H1 a xs ∧ R (IteT K a) H1
theorem pi_enumT {X : Cx} {e : Expr} {ta : TA} {p pos tpos : Pos} {elts : List Expr} {kk : Nat} (hg : Gl X "enumerate") (hm : X.mg "enumerate" = none) (ha : PA X [e] ta) (hs : starEach [e] X.env = [(false, eval e X.env)]) :
    PI X (.Tuple elts kk tpos) (.Call (.Name "enumerate" p) [e] [] pos) (iEnumT X.K ta) := by
  constructor
  intro pins s σ H R I todo
  refine Call_ (ld_blt I hg hm boot_enumerate (PyProof.Rows.callWith_type1 (thn (ha.run pos pins s σ H _ I todo) ?_) hs rfl))
  rintro us s1 ⟨_, H1, I1, r1, a, xs, rfl, sq, rest⟩
  rcases r1 with _ | ⟨⟨⟩, ⟨⟩⟩
  obtain ⟨ps, -, tup, -⟩ := I1.tuple sq
  have below : a < s1.heap.objs.size := tup.elim fun o ho => Heap.lt_size ho.1
  refine enum_call (show s1.heap.IsTuple a ps.toArray from tup) fun h2 he hit old => wpAny_pyIter_enum he ?_
  refine ⟨_, [s1.heap.objs.size + 1, s1.heap.objs.size], _, _, H1, rfl, I1.kept (t' := s1.toks) old, turn_enumT a (s1.heap.objs.size + 1) s1.heap.objs.size (Nat.ne_of_lt below), ⟨⟨.none, he⟩, hit, Nat.succ_ne_self _⟩, ?_, rest⟩
  intro b hb
  have up : s1.heap.objs.size ≤ b := by
    rcases List.mem_cons.mp hb with rfl | hb
    · exact Nat.le_succ _
    · exact Nat.le_of_eq (List.mem_singleton.mp hb).symm
  exact I1.fpOk up (I1.hok.fresh up)
theorem walk_enumT {K : PySem.W.Frag} {a : Addr} {xs : List V} : Walk (IteT K a) xs.length (fun H => SqT K H a xs) (YPair (fun i => some (.int (i : Nat))) (fun i => xs[i]?)) where
  goes := fun i _ small sq => ⟨xs, xs[i], sq, by simp [small]⟩
  stops := fun _ sq => ⟨xs, sq, rfl⟩
  yields := by
    rintro i H v H' - sq ⟨T, x, e1, e2, e3, e4⟩
    exact ⟨T, .int (i : Nat), x, e1, e2, e3, rfl, e4 xs sq⟩
end DS
/-! ## What is walked -/
namespace DS
open PySem PySem.Spec PyProof.Rows L2
/-- J walks xs, over whatever heap holds what is sealed in S1 and what is pinned in B -/
structure WalkD (p : Par) (S1 B : Hp) (J : It) (xs : List D) : Prop where
  goes : ∀ (i : Nat) (H S : Hp), i < xs.length → Sub S1 S → Sub S H → Sub B H → J.go i H
  stops : ∀ (H S : Hp), Sub S1 S → Sub S H → Sub B H → J.stop xs.length H
  yields : ∀ (i : Nat) (H S : Hp) (x : V) (H' : Hp), i < xs.length → Sub S1 S → Sub S H → Sub B H → J.yld i H x H' →
    ∃ S' d, xs[i]? = some d ∧ Rep p S' d x ∧ Sub S S' ∧ Sub S' H' ∧ Sub H H' ∧ ∀ a, H a ≠ none → S' a = S a
section
variable {p : Par} {S1 B : Hp} {a b : Addr} {ds es : List D} {vs us : List V}
theorem WalkD.list (hq : ∀ H S, Sub S1 S → Sub S H → Sub B H → SqL p.K H a vs) (r : Reps p S1 ds vs) : WalkD p S1 B (Itl p.K a) ds where
  goes := fun i H S hi h1 h2 h3 => walk_list.goes i H (by rw [← r.length]; exact hi) (hq H S h1 h2 h3)
  stops := fun H S h1 h2 h3 => by rw [r.length]; exact walk_list.stops H (hq H S h1 h2 h3)
  yields := fun i H S x H' hi h1 h2 h3 y => by
    obtain ⟨e, hx⟩ := walk_list.yields i H x H' (by rw [← r.length]; exact hi) (hq H S h1 h2 h3) y
    subst e
    obtain ⟨d, hd, rd⟩ := r.get' hx
    exact ⟨S, d, hd, Rep.sub h1 d x rd, Sub.refl _, h2, Sub.refl _, fun _ _ => rfl⟩
theorem WalkD.tup (hq : ∀ H S, Sub S1 S → Sub S H → Sub B H → SqT p.K H a vs) (r : Reps p S1 ds vs) : WalkD p S1 B (Itt p.K a) ds where
  goes := fun i H S hi h1 h2 h3 => walk_tup.goes i H (by rw [← r.length]; exact hi) (hq H S h1 h2 h3)
  stops := fun H S h1 h2 h3 => by rw [r.length]; exact walk_tup.stops H (hq H S h1 h2 h3)
  yields := fun i H S x H' hi h1 h2 h3 y => by
    obtain ⟨e, hx⟩ := walk_tup.yields i H x H' (by rw [← r.length]; exact hi) (hq H S h1 h2 h3) y
    subst e
    obtain ⟨d, hd, rd⟩ := r.get' hx
    exact ⟨S, d, hd, Rep.sub h1 d x rd, Sub.refl _, h2, Sub.refl _, fun _ _ => rfl⟩
theorem rangeD_len : ∀ (n : Nat) (lo : Int), (rangeD lo n).length = n
  | 0, _ => rfl
  | n + 1, lo => congrArg (· + 1) (rangeD_len n (lo + 1))
theorem rangeD_get : ∀ (n : Nat) (lo : Int) (i : Nat), i < n → (rangeD lo n)[i]? = some (.int (lo + i))
  | 0, _, _, h => by omega
  | n + 1, lo, 0, _ => by simp [rangeD]
  | n + 1, lo, i + 1, h => by
    show (rangeD (lo + 1) n)[i]? = _
    rw [rangeD_get n (lo + 1) i (by omega)]
    congr 2
    omega
theorem WalkD.range (lo : Int) (n : Nat) : WalkD p S1 B (Itr lo n) (rangeD lo n) where
  goes := fun i H S hi _ _ _ => walk_range.goes i H (by rw [← rangeD_len n lo]; exact hi) trivial
  stops := fun H S _ _ _ => by rw [rangeD_len]; exact walk_range.stops H trivial
  yields := fun i H S x H' hi h1 h2 h3 y => by
    rw [rangeD_len] at hi
    obtain ⟨e, hx⟩ := walk_range.yields i H x H' hi trivial y
    subst e
    exact ⟨S, _, rangeD_get n lo i hi, hx, Sub.refl _, h2, Sub.refl _, fun _ _ => rfl⟩
/-- a new pair -/
theorem pair_new {S H : Hp} {T : Addr} {d1 d2 : D} {x1 x2 : V} (h1 : Sub S H) (hT : H T = none) (r1 : Rep p S d1 x1) (r2 : Rep p S d2 x2) :
    ∃ S', Rep p S' (.tup [d1, d2]) (.ref T) ∧ Sub S S' ∧ Sub S' (upd H T (.tup [x1, x2])) ∧ Sub H (upd H T (.tup [x1, x2])) ∧ ∀ a, H a ≠ none → S' a = S a := by
  have hS : S T = none := by
    cases q : S T with
    | none => rfl
    | some u => rw [h1 _ _ q] at hT; cases hT
  have hs : Sub S (upd S T (.tup [x1, x2])) := fun c u z => by rw [upd_ne (ne_of_none z hS)]; exact z
  refine ⟨upd S T (.tup [x1, x2]), ⟨T, [x1, x2], rfl, .inl (.inl upd_same), x1, [x2], rfl, Rep.sub hs d1 x1 r1, x2, [], rfl, Rep.sub hs d2 x2 r2, rfl⟩, hs, fun c u z => ?_, fun c u z => ?_, fun c z => ?_⟩
  · by_cases e : c = T
    · subst e
      rw [upd_same] at z ⊢
      exact z
    · rw [upd_ne e] at z ⊢
      exact h1 _ _ z
  · rw [upd_ne (ne_of_none z hT)]
    exact z
  · rw [upd_ne (fun e => z (by rw [e]; exact hT))]
theorem enumD_len : ∀ (ds : List D) (n : Nat), (enumD n ds).length = ds.length
  | [], _ => rfl
  | d :: ds, n => congrArg (· + 1) (enumD_len ds (n + 1))
theorem enumD_get : ∀ (ds : List D) (n i : Nat) (d : D), ds[i]? = some d → (enumD n ds)[i]? = some (.tup [.int ((n + i : Nat) : Int), d])
  | [], _, i, d, h => by simp at h
  | e :: ds, n, 0, d, h => by
    simp at h
    subst h
    simp [enumD]
  | e :: ds, n, i + 1, d, h => by
    show (enumD (n + 1) ds)[i]? = _
    rw [enumD_get ds (n + 1) i d (by simpa using h)]
    congr 4
    omega
theorem WalkD.enumOf {J : It} {G : Hp → Prop} (w : Walk J vs.length G (YPair (fun i => some (.int (i : Nat))) (fun i => vs[i]?))) (hq : ∀ H S, Sub S1 S → Sub S H → Sub B H → G H) (r : Reps p S1 ds vs) : WalkD p S1 B J (enumD 0 ds) where
  goes := fun i H S hi h1 h2 h3 => w.goes i H (by rw [enumD_len, r.length] at hi; exact hi) (hq H S h1 h2 h3)
  stops := fun H S h1 h2 h3 => by rw [enumD_len, r.length]; exact w.stops H (hq H S h1 h2 h3)
  yields := fun i H S x H' hi h1 h2 h3 y => by
    obtain ⟨T, x1, x2, e1, e2, e3, e4, e5⟩ := w.yields i H x H' (by rw [enumD_len, r.length] at hi; exact hi) (hq H S h1 h2 h3) y
    obtain ⟨d, hd, rd⟩ := r.get' e5
    cases e4
    subst e1 e3
    obtain ⟨S', a1, a2, a3, a4, a5⟩ := pair_new (p := p) h2 e2 (d1 := .int (i : Nat)) (x1 := .int (i : Nat)) rfl (Rep.sub h1 d x2 rd)
    refine ⟨S', _, enumD_get ds 0 i d hd, ?_, a2, a3, a4, a5⟩
    have e0 : ((0 + i : Nat) : Int) = (i : Nat) := by omega
    rw [e0]
    exact a1
theorem zipD_len : ∀ (ds es : List D), ds.length = es.length → (zipD ds es).length = ds.length
  | [], [], _ => rfl
  | d :: ds, e :: es, h => congrArg (· + 1) (zipD_len ds es (by simpa using h))
theorem zipD_get : ∀ (ds es : List D) (i : Nat) (d e : D), ds[i]? = some d → es[i]? = some e → (zipD ds es)[i]? = some (.tup [d, e])
  | [], _, i, d, e, h, _ => by simp at h
  | _ :: _, [], i, d, e, _, h => by simp at h
  | x :: ds, z :: es, 0, d, e, h, h' => by
    simp at h h'
    subst h h'
    simp [zipD]
  | x :: ds, z :: es, i + 1, d, e, h, h' => zipD_get ds es i d e (by simpa using h) (by simpa using h')
theorem WalkD.zipOf {J : It} {G : Hp → Prop} (w : Walk J vs.length G (YPair (fun i => vs[i]?) (fun i => us[i]?))) (hq : ∀ H S, Sub S1 S → Sub S H → Sub B H → G H) (r : Reps p S1 ds vs) (r' : Reps p S1 es us) (hl : ds.length = es.length) : WalkD p S1 B J (zipD ds es) where
  goes := fun i H S hi h1 h2 h3 => w.goes i H (by rw [zipD_len ds es hl, r.length] at hi; exact hi) (hq H S h1 h2 h3)
  stops := fun H S h1 h2 h3 => by rw [zipD_len ds es hl, r.length]; exact w.stops H (hq H S h1 h2 h3)
  yields := fun i H S x H' hi h1 h2 h3 y => by
    obtain ⟨T, x1, x2, e1, e2, e3, e4, e5⟩ := w.yields i H x H' (by rw [zipD_len ds es hl, r.length] at hi; exact hi) (hq H S h1 h2 h3) y
    obtain ⟨d, hd, rd⟩ := r.get' e4
    obtain ⟨d', hd', rd'⟩ := r'.get' e5
    subst e1 e3
    obtain ⟨S', a1, a2, a3, a4, a5⟩ := pair_new (p := p) h2 e2 (Rep.sub h1 d x1 rd) (Rep.sub h1 d' x2 rd')
    exact ⟨S', _, zipD_get ds es i d d' hd hd', a1, a2, a3, a4, a5⟩
end

/-! ### the readings of what is walked -/
section
variable (p : Par) (C : Cxt) (y : Dy)
def rdI (k : ItK) (es : IRs) : TI := fun σ H R => ∃ S ρ, Stt p y S σ H ρ ∧ Res (evs C es ρ) fun r => ∃ xs, itD k (r.1.map Ar.view) = some xs ∧ okBr r.1 r.2 = true ∧
  ∀ J H1 S1 y1, Stt p y1 S1 σ H1 ((lockers r.1 r.2).foldl lockAt r.2) → Sub S S1 → Sub H H1 → Sub y.H0 y1.H0 →
    Back p y y1 (lockers r.1 r.2) → WalkD p S1 y1.H0 J xs → R J H1
end
section
variable {X : Cx} {p : Par} {C : Cxt} {y : Dy} {tg : Expr}
theorem PI.mono {it : Expr} {w w' : TI} (h : PI X tg it w) (k : ∀ σ H R, w' σ H R → w σ H R) : PI X tg it w' := ⟨fun pins s σ H R I q => h.run pins s σ H R I (k σ H R q)⟩
theorem PI.or {it : Expr} {w w' : TI} (h : PI X tg it w) (h' : PI X tg it w') : PI X tg it (fun σ H R => w σ H R ∨ w' σ H R) := ⟨fun pins s σ H R I q => q.elim (h.run pins s σ H R I) (h'.run pins s σ H R I)⟩
section
variable {S : Hp} {σ : L2.St} {H : Hp} {ρ : En}
/-- an argument that is walked: it stands while what is sealed and what is pinned stand -/
def Stay (p : Par) (S1 B : Hp) (d : D) (v : V) : Prop :=
  match d with
  | .lst ds => ∃ a vs, v = .ref a ∧ (∀ H S, Sub S1 S → Sub S H → Sub B H → SqL p.K H a vs) ∧ Reps p S1 ds vs
  | d => Rep p S1 d v
theorem stay_of {y1 : Dy} {rs : List Ar} {ρ1 : En} (st : Stt p y S σ H ρ1) (hob : okBr rs ρ1 = true) (hp : ∀ i ∈ lockers rs ρ1, ∀ l, σ[i]? = some (some (.ref l)) → ∃ vs, H l = some (.lst vs) ∧ y1.H0 l = some (.lst vs)) (h0 : Sub y.H0 y1.H0) :
    ∀ {r : Ar} {v : V}, r ∈ rs → r.seal = r → RepA p y S σ H ρ1 r v → Stay p S y1.H0 r.view v
  | .v d, v, _, _, ra => by
    cases d with
    | lst ds =>
      obtain ⟨a, vs, e, q, rr⟩ := (show ∃ a vs, v = .ref a ∧ Rd S a (.lst vs) ∧ Reps p S ds vs from ra)
      exact ⟨a, vs, e, fun H' S' h1 h2 _ => .inl (DS.Rd.sub h2 (DS.Rd.sub h1 q)), rr⟩
    | _ => exact ra
  | .fr ds, v, _, s, _ => nomatch s
  | .br i ds, v, hm, _, ra => by
    obtain ⟨a, vs, e, q0, q, rr⟩ := ra
    have hok : ∀ {rs : List Ar}, Ar.br i ds ∈ rs → okBr rs ρ1 = true → (∃ d, ρ1[i]? = some (.own d)) ∨ ∃ d, ρ1[i]? = some (.lock d) := fun {rs} => by
      induction rs with
      | nil => intro h; cases h
      | cons r rs ih =>
        intro h ho
        cases r with
        | v d =>
          rcases List.mem_cons.mp h with z | z
          · cases z
          · exact ih z ho
        | fr d =>
          rcases List.mem_cons.mp h with z | z
          · cases z
          · exact ih z ho
        | br j d =>
          have ho2 : ((match ρ1[j]? with | some (.own _) => true | some (.lock _) => true | _ => false) && okBr rs ρ1) = true := ho
          rw [Bool.and_eq_true] at ho2
          rcases List.mem_cons.mp h with z | z
          · cases z
            have h1 := ho2.1
            split at h1
            · rename_i d' hd; exact .inl ⟨d', hd⟩
            · rename_i d' hd; exact .inr ⟨d', hd⟩
            · cases h1
          · exact ih z ho2.2
    rcases hok hm hob with ⟨d, hd⟩ | ⟨d, hd⟩
    · obtain ⟨us, e1, e2⟩ := hp i ((lockers_own rs ρ1).2.2 i ds d hm hd) a q0
      rw [q] at e1
      cases e1
      exact ⟨a, vs, e, fun H' S' _ _ h3 => .inl (.inl (h3 _ _ e2)), rr⟩
    · obtain ⟨l, us, e1, _, e3, _, _⟩ := (show SlOk p y S H i σ[i]? (.lock d) from st.sl i _ hd)
      rw [e1] at q0
      cases q0
      rw [st.same _ _ e3] at q
      cases q
      exact ⟨a, vs, e, fun H' S' _ _ h3 => .inl (.inl (h3 _ _ (h0 _ _ e3))), rr⟩
theorem Stay.seq {S1 B : Hp} {d : D} {ds : List D} {v : V} (e : seqOf d = some ds) (h : Stay p S1 B d v) :
    ∃ a vs, v = .ref a ∧ Reps p S1 ds vs ∧ ((∀ H S, Sub S1 S → Sub S H → Sub B H → SqL p.K H a vs) ∨ (∀ H S, Sub S1 S → Sub S H → Sub B H → SqT p.K H a vs)) := by
  cases d with
  | lst xs =>
    cases e
    obtain ⟨a, vs, e1, q, rr⟩ := h
    exact ⟨a, vs, e1, rr, .inl q⟩
  | tup xs =>
    cases e
    obtain ⟨a, vs, e1, q, rr⟩ := (show ∃ a vs, v = .ref a ∧ SqT p.K S1 a vs ∧ Reps p S1 ds vs from h)
    exact ⟨a, vs, e1, rr, .inr fun H S h1 h2 _ => DS.SqT.sub h2 (DS.SqT.sub h1 q)⟩
  | rol xs =>
    cases e
    obtain ⟨a, vs, e1, q, rr⟩ := (show ∃ a vs, v = .ref a ∧ SqL p.K S1 a vs ∧ Reps p S1 ds vs from h)
    exact ⟨a, vs, e1, rr, .inl fun H S h1 h2 _ => DS.SqL.sub h2 (DS.SqL.sub h1 q)⟩
  | _ => cases e
/-- from the arguments' reading to a walk's: the iterator is chosen by what the arguments are -/
theorem it_rd {es : IRs} {R : It → Hp → Prop} {G : List V → Hp → Prop} {rs : List Ar} {ρ1 : En} {xs : List D} (st : Stt p y S σ H ρ) (e1 : evs C es ρ = .ok (rs, ρ1)) (e3 : okBr rs ρ1 = true)
    (q : ∀ J H1 S1 y1, Stt p y1 S1 σ H1 ((lockers rs ρ1).foldl lockAt ρ1) → Sub S S1 → Sub H H1 → Sub y.H0 y1.H0 →
      Back p y y1 (lockers rs ρ1) → WalkD p S1 y1.H0 J xs → R J H1)
    (hG : ∀ (vs : List V) (H1 S1 : Hp) (y1 : Dy), Sub S1 H1 → Sub y1.H0 H1 → (∀ i, i < rs.length → ∃ r v, rs[i]? = some r ∧ vs[i]? = some v ∧ Stay p S1 y1.H0 r.view v) → rs.length = vs.length →
      (∀ J, WalkD p S1 y1.H0 J xs → R J H1) → G vs H1) : rdA p C y es σ H G := by
  refine ⟨S, ρ, st, ?_⟩
  rw [e1]
  intro vs H1 S1 st1 hS hH ras
  obtain ⟨hn, ho, _⟩ := lockers_own rs ρ1
  obtain ⟨y1, st2, h0, hb, hp⟩ := Stt.locks (lockers rs ρ1) hn ho st1
  refine hG vs H1 S1 y1 st1.sub st2.same (fun i hi => ?_) ras.length fun J w => q J H1 S1 y1 st2 hS hH h0 hb w
  have all : ∀ {qs : List Ar} {us : List V} {i : Nat}, (∀ r ∈ qs, r ∈ rs) → RepAs p y S1 σ H1 ρ1 qs us → i < qs.length → ∃ r v, qs[i]? = some r ∧ us[i]? = some v ∧ Stay p S1 y1.H0 r.view v := fun {qs} => by
    induction qs with
    | nil => intro us i _ _ hi; exact absurd hi (Nat.not_lt_zero _)
    | cons r qs ih =>
      intro us i hm hr hi
      obtain ⟨v, q, e, s, ra, h⟩ := hr
      subst e
      cases i with
      | zero => exact ⟨r, v, rfl, rfl, stay_of st1 e3 hp h0 (hm r List.mem_cons_self) s ra⟩
      | succ i =>
        obtain ⟨r', v', a1, a2, a3⟩ := ih (fun r hr => hm r (List.mem_cons_of_mem _ hr)) h (by simpa using hi)
        exact ⟨r', v', by simpa using a1, by simpa using a2, a3⟩
  exact all (fun r h => h) ras hi
end
theorem rdA1 {e : IR} {σ : L2.St} {H : Hp} {G : List V → Hp → Prop} (h : rdA p C y (.cons e .nil) σ H G) : rdQ p C y e σ H fun v H1 => G [v] H1 := by
  obtain ⟨S, ρ, st, q⟩ := h
  refine one_rd (F := fun r => ∀ vs H' S', Stt p y S' σ H' r.2 → Sub S S' → Sub H H' → RepAs p y S' σ H' r.2 r.1 vs → G vs H') (k := fun x => (evs C .nil x.2).bnd fun z => .ok (x.1 :: z.1, z.2)) st ?_ fun r ρ1 v H1 S1 q1 st1 hS hH s ra => ?_
  · exact q
  · exact q1 [v] H1 S1 st1 hS hH ⟨v, [], rfl, s, ra, rfl⟩
theorem rdO.imp {f : En → Out (Ar × En)} {σ : L2.St} {H : Hp} {Q Q' : VK} (h : rdO p y f σ H Q) (k : ∀ v H, Q v H → Q' v H) : rdO p y f σ H Q' := by
  obtain ⟨S, ρ, st, q⟩ := h
  refine ⟨S, ρ, st, ?_⟩
  obtain ⟨r, e1, q1⟩ := Res.ok q
  rw [e1]
  exact fun v H' S' a b c d => k _ _ (q1 v H' S' a b c d)
theorem rdA.imp {es : IRs} {σ : L2.St} {H : Hp} {Q Q' : List V → Hp → Prop} (h : rdA p C y es σ H Q) (k : ∀ v H, Q v H → Q' v H) : rdA p C y es σ H Q' := by
  obtain ⟨S, ρ, st, q⟩ := h
  refine ⟨S, ρ, st, ?_⟩
  obtain ⟨r, e1, q1⟩ := Res.ok q
  rw [e1]
  exact fun v H' S' a b c d => k _ _ (q1 v H' S' a b c d)
theorem one1 {r : Ar} {vs : List V} (hl : [r].length = vs.length) : ∃ v, vs = [v] := by
  cases vs with
  | nil => cases hl
  | cons v vs =>
    cases vs with
    | nil => exact ⟨v, rfl⟩
    | cons w vs => cases hl
theorem two2 {r r' : Ar} {vs : List V} (hl : [r, r'].length = vs.length) : ∃ v w, vs = [v, w] := by
  cases vs with
  | nil => cases hl
  | cons v vs =>
    cases vs with
    | nil => cases hl
    | cons w vs =>
      cases vs with
      | nil => exact ⟨v, w, rfl⟩
      | cons u vs => cases hl
/-- sequences: lists, tuples -/
theorem pi_seq {it : Expr} {e : IR} (hK : X.K = p.K) (h : PE X it (rdQ p C y e)) : PI X tg it (rdI p C y .seq (.cons e .nil)) := by
  refine PI.mono (DS.PI.or (pi_list h) (pi_tup h)) fun σ H R q => ?_
  obtain ⟨S, ρ, st, q0⟩ := id q
  obtain ⟨⟨rs, ρ1⟩, e1, xs, e2, e3, q⟩ := Res.ok q0
  obtain ⟨r, rfl⟩ : ∃ r, rs = [r] := by
    cases rs with
    | nil => cases e2
    | cons r rs =>
      cases rs with
      | nil => exact ⟨r, rfl⟩
      | cons r' rs => cases e2
  have e2 : seqOf r.view = some xs := e2
  by_cases ht : ∃ ts, r.view = .tup ts
  · obtain ⟨ts, ht⟩ := ht
    refine .inr (rdO.imp (rdA1 (G := fun vs H1 => ∃ v, vs = [v] ∧ ∃ a, v = .ref a ∧ (∃ xs, SqT X.K H1 a xs) ∧ R (Itt X.K a) H1) (it_rd st e1 e3 q fun vs H1 S1 y1 hS hB hst hl k => ?_)) fun v H1 ⟨w, e, z⟩ => by cases e; exact z)
    obtain ⟨v, rfl⟩ := one1 hl
    obtain ⟨r', v', a1, a2, a3⟩ := hst 0 (by simp)
    cases a1
    cases a2
    rw [ht] at a3 e2
    cases e2
    obtain ⟨a, us, e4, q4, rr⟩ := (show ∃ a vs, v = .ref a ∧ SqT p.K S1 a vs ∧ Reps p S1 xs vs from a3)
    refine ⟨v, rfl, a, e4, ⟨us, by rw [hK]; exact DS.SqT.sub hS q4⟩, ?_⟩
    rw [hK]
    exact k _ (.tup (fun H S h1 h2 _ => DS.SqT.sub h2 (DS.SqT.sub h1 q4)) rr)
  · refine .inl (rdO.imp (rdA1 (G := fun vs H1 => ∃ v, vs = [v] ∧ ∃ a, v = .ref a ∧ (∃ xs, SqL X.K H1 a xs) ∧ R (Itl X.K a) H1) (it_rd st e1 e3 q fun vs H1 S1 y1 hS hB hst hl k => ?_)) fun v H1 ⟨w, e, z⟩ => by cases e; exact z)
    obtain ⟨v, rfl⟩ := one1 hl
    obtain ⟨r', v', a1, a2, a3⟩ := hst 0 (by simp)
    cases a1
    cases a2
    have key : ∃ a us, v = .ref a ∧ (∀ H S, Sub S1 S → Sub S H → Sub y1.H0 H → SqL p.K H a us) ∧ Reps p S1 xs us := by
      cases hv : r.view with
      | lst ds =>
        rw [hv] at a3 e2
        cases e2
        exact a3
      | rol ds =>
        rw [hv] at a3 e2
        cases e2
        obtain ⟨a, us, e4, q4, rr⟩ := (show ∃ a vs, v = .ref a ∧ SqL p.K S1 a vs ∧ Reps p S1 xs vs from a3)
        exact ⟨a, us, e4, fun H S h1 h2 _ => DS.SqL.sub h2 (DS.SqL.sub h1 q4), rr⟩
      | tup ds => exact absurd ⟨ds, hv⟩ ht
      | _ => rw [hv] at e2; cases e2
    obtain ⟨a, us, e4, q4, rr⟩ := key
    refine ⟨v, rfl, a, e4, ⟨us, by rw [hK]; exact q4 H1 S1 (Sub.refl _) hS hB⟩, ?_⟩
    rw [hK]
    exact k _ (.list q4 rr)
theorem map1 {rs : List Ar} {d : D} (h : rs.map Ar.view = [d]) : ∃ r, rs = [r] ∧ r.view = d := by
  cases rs with
  | nil => simp at h
  | cons r rs =>
    cases rs with
    | nil => exact ⟨r, rfl, by simpa using h⟩
    | cons r' rs => simp at h
theorem map2 {rs : List Ar} {d e : D} (h : rs.map Ar.view = [d, e]) : ∃ r r', rs = [r, r'] ∧ r.view = d ∧ r'.view = e := by
  cases rs with
  | nil => simp at h
  | cons r rs =>
    cases rs with
    | nil => simp at h
    | cons r' rs =>
      cases rs with
      | nil =>
        simp at h
        exact ⟨r, r', rfl, h.1, h.2⟩
      | cons u rs => simp at h
theorem itD_range2 {ds xs : List D} (h : itD .range2 ds = some xs) : ∃ i j, ds = [.int i, .int j] ∧ (-(2 ^ 62) ≤ i ∧ i < 2 ^ 62 ∧ -(2 ^ 62) ≤ j ∧ j < 2 ^ 62) ∧ xs = rangeD i (j - i).toNat := by
  change range2D ds = some xs at h
  unfold range2D at h
  split at h
  · rename_i i j
    split at h
    · rename_i hj
      cases h
      exact ⟨i, j, rfl, hj, rfl⟩
    · cases h
  · cases h
theorem itD_range1 {ds xs : List D} (h : itD .range1 ds = some xs) : ∃ j, ds = [.int j] ∧ (-(2 ^ 62) ≤ j ∧ j < 2 ^ 62) ∧ xs = rangeD 0 j.toNat := by
  change range1D ds = some xs at h
  unfold range1D at h
  split at h
  · rename_i j
    split at h
    · rename_i hj
      cases h
      exact ⟨j, rfl, hj, rfl⟩
    · cases h
  · cases h
/-- range(n) -/
theorem pi_rng1 {a : Expr} {es : IRs} {q pos : Pos} (hg : Gl X "range") (hm : X.mg "range" = none) (hs : starEach [a] X.env = [(false, eval a X.env)]) (h : PA X [a] (rdA p C y es)) : PI X tg (.Call (.Name "range" q) [a] [] pos) (rdI p C y .range1 es) := by
  refine PI.mono (pi_range1 hg hm h hs) fun σ H R q => ?_
  obtain ⟨S, ρ, st, q0⟩ := id q
  obtain ⟨⟨rs, ρ1⟩, e1, xs, e2, e3, q⟩ := Res.ok q0
  refine it_rd st e1 e3 q fun vs H1 S1 y1 hS hB hst hl k => ?_
  obtain ⟨j, h2, hj, e4⟩ := itD_range1 e2
  obtain ⟨r, rfl, h3⟩ := map1 h2
  obtain ⟨v, rfl⟩ := one1 hl
  obtain ⟨r', v', a1, a2, a3⟩ := hst 0 (by simp)
  cases a1
  cases a2
  rw [h3] at a3
  cases (show v = _ from a3)
  subst e4
  exact ⟨j, rfl, hj.1, hj.2, k _ (.range 0 _)⟩
/-- range(a, b) -/
theorem pi_rng2 {a b : Expr} {es : IRs} {q pos : Pos} (hg : Gl X "range") (hm : X.mg "range" = none) (hs : starEach [a, b] X.env = [(false, eval a X.env), (false, eval b X.env)]) (hs2 : starEach [b] X.env = [(false, eval b X.env)]) (h : PA X [a, b] (rdA p C y es)) :
    PI X tg (.Call (.Name "range" q) [a, b] [] pos) (rdI p C y .range2 es) := by
  refine PI.mono (pi_range2 hg hm h hs hs2) fun σ H R q => ?_
  obtain ⟨S, ρ, st, q0⟩ := id q
  obtain ⟨⟨rs, ρ1⟩, e1, xs, e2, e3, q⟩ := Res.ok q0
  refine it_rd st e1 e3 q fun vs H1 S1 y1 hS hB hst hl k => ?_
  obtain ⟨i, j, h2, hj, e4⟩ := itD_range2 e2
  obtain ⟨r, r', rfl, h3, h4⟩ := map2 h2
  obtain ⟨v, w, rfl⟩ := two2 hl
  obtain ⟨r1, v1, a1, a2, a3⟩ := hst 0 (by simp)
  obtain ⟨r2, v2, b1, b2, b3⟩ := hst 1 (by simp)
  cases a1
  cases a2
  cases b1
  cases b2
  rw [h3] at a3
  rw [h4] at b3
  cases (show v = _ from a3)
  cases (show w = _ from b3)
  subst e4
  exact ⟨i, j, rfl, hj, k _ (.range i _)⟩
/-- enumerate(x) -/
theorem pi_enumA {a : Expr} {es : IRs} {q pos tpos : Pos} {elts : List Expr} {kk : Nat} (hK : X.K = p.K) (hg : Gl X "enumerate") (hm : X.mg "enumerate" = none) (hs : starEach [a] X.env = [(false, eval a X.env)]) (h : PA X [a] (rdA p C y es)) :
    PI X (.Tuple elts kk tpos) (.Call (.Name "enumerate" q) [a] [] pos) (rdI p C y .enum es) := by
  refine PI.mono (DS.PI.or (pi_enum hg hm h hs) (pi_enumT hg hm h hs)) fun σ H R q => ?_
  obtain ⟨S, ρ, st, q0⟩ := id q
  obtain ⟨⟨rs, ρ1⟩, e1, xs, e2, e3, q⟩ := Res.ok q0
  obtain ⟨r, rfl⟩ : ∃ r, rs = [r] := by
    cases rs with
    | nil => cases e2
    | cons r rs =>
      cases rs with
      | nil => exact ⟨r, rfl⟩
      | cons r' rs => cases e2
  change (seqOf r.view).map (enumD 0) = some xs at e2
  rw [Option.map_eq_some_iff] at e2
  obtain ⟨ys, e2, e4⟩ := e2
  subst e4
  by_cases ht : ∃ ts, r.view = .tup ts
  · obtain ⟨ts, ht⟩ := ht
    refine .inr (it_rd st e1 e3 q fun vs H1 S1 y1 hS hB hst hl k => ?_)
    obtain ⟨v, rfl⟩ := one1 hl
    obtain ⟨r', v', a1, a2, a3⟩ := hst 0 (by simp)
    cases a1
    cases a2
    rw [ht] at a3 e2
    cases e2
    obtain ⟨a, us, e4, q4, rr⟩ := (show ∃ a vs, v = .ref a ∧ SqT p.K S1 a vs ∧ Reps p S1 ys vs from a3)
    subst e4
    refine ⟨a, us, rfl, by rw [hK]; exact DS.SqT.sub hS q4, ?_⟩
    rw [hK]
    exact k _ (.enumOf walk_enumT (fun H S h1 h2 _ => DS.SqT.sub h2 (DS.SqT.sub h1 q4)) rr)
  · refine .inl (it_rd st e1 e3 q fun vs H1 S1 y1 hS hB hst hl k => ?_)
    obtain ⟨v, rfl⟩ := one1 hl
    obtain ⟨r', v', a1, a2, a3⟩ := hst 0 (by simp)
    cases a1
    cases a2
    have key : ∃ a us, v = .ref a ∧ (∀ H S, Sub S1 S → Sub S H → Sub y1.H0 H → SqL p.K H a us) ∧ Reps p S1 ys us := by
      cases hv : r.view with
      | lst ds =>
        rw [hv] at a3 e2
        cases e2
        exact a3
      | rol ds =>
        rw [hv] at a3 e2
        cases e2
        obtain ⟨a, us, e4, q4, rr⟩ := (show ∃ a vs, v = .ref a ∧ SqL p.K S1 a vs ∧ Reps p S1 ys vs from a3)
        exact ⟨a, us, e4, fun H S h1 h2 _ => DS.SqL.sub h2 (DS.SqL.sub h1 q4), rr⟩
      | tup ds => exact absurd ⟨ds, hv⟩ ht
      | _ => rw [hv] at e2; cases e2
    obtain ⟨a, us, e4, q4, rr⟩ := key
    subst e4
    refine ⟨a, us, rfl, by rw [hK]; exact q4 H1 S1 (Sub.refl _) hS hB, ?_⟩
    rw [hK]
    exact k _ (.enumOf walk_enum q4 rr)
end
end DS
/-! ## Targets, comprehensions -/
namespace DS
open PySem PySem.Spec PyProof.Rows L2
section
variable {p : Par} {y : Dy} {S S' : Hp} {σ : L2.St} {H H' : Hp} {ρ : En}
/-! ### a thing of nobody is pinned -/
def Dy.pin (y : Dy) (l : Addr) (vs : List V) : Dy := { H0 := upd y.H0 l (.lst vs), S0 := y.S0, lk := y.lk }
theorem Stt.pin (st : Stt p y S σ H ρ) {l : Addr} {vs : List V} (h2 : H l = some (.lst vs)) (h3 : S l = none) (h4 : y.H0 l = none) (hf : Free σ ρ l) : Stt p (y.pin l vs) S σ H ρ := by
  refine ⟨st.sub, fun a o q => ?_, st.sub0, fun a q => ?_, st.len, fun j l' q => ?_, fun j s q => ?_, st.sep⟩
  · have q : upd y.H0 l (.lst vs) a = some o := q
    by_cases z : a = l
    · subst z
      rw [upd_same] at q
      rw [h2]
      exact q
    · rw [upd_ne z] at q
      exact st.same _ _ q
  · have q : upd y.H0 l (.lst vs) a ≠ none := q
    by_cases z : a = l
    · subst z
      show S a = y.S0 a
      rw [h3]
      cases w : y.S0 a with
      | none => rfl
      | some o =>
        have := st.sub0 _ _ w
        rw [h3] at this
        cases this
    · rw [upd_ne z] at q
      exact st.old a q
  · show upd y.H0 l (.lst vs) l' ≠ none
    rw [upd_ne (fun z => st.lk j l' q (by rw [z]; exact h4))]
    exact st.lk j l' q
  · have r := st.sl j s q
    have ne : ∀ l', s.owns = true → σ[j]? = some (some (.ref l')) → l' ≠ l := fun l' o a w => hf j s q o (by rw [← w]; exact a)
    cases s with
    | un => trivial
    | val d => exact r
    | own ds' =>
      obtain ⟨l', us, e1, e2, e3, e4, r⟩ := r
      exact ⟨l', us, e1, e2, e3, by show upd y.H0 l (.lst vs) l' = none; rw [upd_ne (ne l' rfl e1)]; exact e4, r⟩
    | lock ds' =>
      obtain ⟨l', us, e1, e2, e3, e4, r⟩ := r
      refine ⟨l', us, e1, e2, ?_, e4, r⟩
      show upd y.H0 l (.lst vs) l' = some (.lst us)
      rw [upd_ne (ne_of_none e3 h4)]
      exact e3
    | dic ds' =>
      obtain ⟨l', us, e1, e2, e3, e4, r⟩ := r
      exact ⟨l', us, e1, e2, e3, by show upd y.H0 l (.lst vs) l' = none; rw [upd_ne (ne l' rfl e1)]; exact e4, r⟩
theorem Stt.unpin {l : Addr} {vs : List V} (h4 : y.H0 l = none) (hlk : ∀ (j : Nat) (l' : Addr), y.lk j = some l' → y.H0 l' ≠ none) (h0 : y.S0 l = none)
    (st : Stt p (y.pin l vs) S σ H ρ) : Stt p y S σ H ρ ∧ H l = some (.lst vs) ∧ S l = none ∧ Free σ ρ l := by
  have hpin : (y.pin l vs).H0 l = some (.lst vs) := by show upd y.H0 l (.lst vs) l = _; rw [upd_same]
  have hup : ∀ a, y.H0 a ≠ none → (y.pin l vs).H0 a ≠ none := fun a q => by
    show upd y.H0 l (.lst vs) a ≠ none
    rw [upd_ne (fun z => q (by rw [z]; exact h4))]
    exact q
  have hsub : Sub y.H0 (y.pin l vs).H0 := fun a o q => by
    show upd y.H0 l (.lst vs) a = some o
    rw [upd_ne (ne_of_none q h4)]
    exact q
  have hn : ∀ l', (y.pin l vs).H0 l' = none → y.H0 l' = none := fun l' e => by
    cases q : y.H0 l' with
    | none => rfl
    | some o => exact absurd e (hup l' (by rw [q]; simp))
  refine ⟨⟨st.sub, hsub.trans st.same, st.sub0, fun a q => st.old a (hup a q), st.len, hlk, fun j s q => ?_, st.sep⟩, st.same _ _ hpin, ?_, fun j s q o z => ?_⟩
  · have r := st.sl j s q
    cases s with
    | un => trivial
    | val d => exact r
    | own ds' =>
      obtain ⟨l', us, e1, e2, e3, e4, r⟩ := r
      exact ⟨l', us, e1, e2, e3, hn l' e4, r⟩
    | lock ds' =>
      obtain ⟨l', us, e1, e2, e3, e4, r⟩ := r
      refine ⟨l', us, e1, e2, ?_, e4, r⟩
      have e3 : upd y.H0 l (.lst vs) l' = some (.lst us) := e3
      rw [upd_ne (fun w => hlk j l' e2 (by rw [w]; exact h4))] at e3
      exact e3
    | dic ds' =>
      obtain ⟨l', us, e1, e2, e3, e4, r⟩ := r
      exact ⟨l', us, e1, e2, e3, hn l' e4, r⟩
  · have := st.old l (by rw [hpin]; simp)
    rw [this]
    exact h0
  · have r := st.sl j s q
    cases s with
    | own ds' =>
      obtain ⟨l', us, e1, e2, e3, e4, r⟩ := r
      rw [e1] at z
      cases z
      rw [hpin] at e4
      cases e4
    | dic ds' =>
      obtain ⟨l', us, e1, e2, e3, e4, r⟩ := r
      rw [e1] at z
      cases z
      rw [hpin] at e4
      cases e4
    | _ => cases o
/-- a thing of nobody is written -/
theorem Stt.writeF (st : Stt p y S σ H ρ) {l : Addr} {u : HO} (h3 : S l = none) (h4 : y.H0 l = none) (hf : Free σ ρ l) : Stt p y S σ (upd H l u) ρ := by
  refine ⟨fun b o h => ?_, fun b o h => ?_, st.sub0, st.old, st.len, st.lk, fun j t q => ?_, st.sep⟩
  · rw [upd_ne (ne_of_none h h3)]
    exact st.sub _ _ h
  · rw [upd_ne (ne_of_none h h4)]
    exact st.same _ _ h
  · have r := st.sl j t q
    have ne : ∀ l', t.owns = true → σ[j]? = some (some (.ref l')) → l' ≠ l := fun l' o z w => hf j t q o (by rw [← w]; exact z)
    cases t with
    | un => trivial
    | val d => exact r
    | own ds =>
      obtain ⟨l', us, e1, e2, r⟩ := r
      exact ⟨l', us, e1, by rw [upd_ne (ne l' rfl e1)]; exact e2, r⟩
    | lock ds => exact r
    | dic ds =>
      obtain ⟨l', us, e1, e2, r⟩ := r
      exact ⟨l', us, e1, by rw [upd_ne (ne l' rfl e1)]; exact e2, r⟩

/-! ### targets -/
def gNames : List Nat → TGs
  | [] => gNil
  | i :: is => gCons (gName i) (gNames is)
def gOf (K : PySem.W.Frag) : Tg → TG
  | .nm i => gName i
  | .tp is => gTup K is.length (gNames is)
def Tg.slots : Tg → List Nat
  | .nm i => [i]
  | .tp is => is
theorem names_rd : ∀ {is : List Nat} {ds : List D} {vs : List V} {σ : L2.St} {ρ : En} {K : L2.St → Hp → Prop}, ds.length = is.length → Stt p y S σ H ρ → Reps p S ds vs →
    (∀ σ1, Stt p y S σ1 H (setAll is ds ρ) → (∀ j, j ∉ is → σ1[j]? = σ[j]?) → σ1.length = σ.length → K σ1 H) → gNames is vs σ H K
  | [], ds, vs, σ, ρ, K, hl, st, r, k => by
    cases ds with
    | nil =>
      cases (show vs = [] from r)
      exact ⟨rfl, k σ st (fun _ _ => rfl) rfl⟩
    | cons d ds => cases hl
  | i :: is, ds, vs, σ, ρ, K, hl, st, r, k => by
    cases ds with
    | nil => cases hl
    | cons d ds =>
      obtain ⟨v, q, e, r1, r2⟩ := (show ∃ v q, vs = v :: q ∧ Rep p S d v ∧ Reps p S ds q from r)
      subst e
      refine ⟨v, q, rfl, names_rd (by simpa using hl) (st.putVal i r1) r2 fun σ1 st1 h1 h2 => k σ1 st1 (fun j hj => ?_) (by rw [h2, List.length_set])⟩
      rw [h1 j (fun z => hj (List.mem_cons_of_mem _ z)), List.getElem?_set_ne (fun z => hj (by rw [z]; exact List.mem_cons_self))]
theorem asg_rd {t : Tg} {d : D} {x : V} {ρ1 : En} {K : L2.St → Hp → Prop} (hSH : Sub S H) (st : Stt p y S σ H ρ) (r : Rep p S d x) (e : asg t d ρ = some ρ1)
    (k : ∀ σ1, Stt p y S σ1 H ρ1 → (∀ j, j ∉ t.slots → σ1[j]? = σ[j]?) → σ1.length = σ.length → K σ1 H) : gOf p.K t x σ H K := by
  cases t with
  | nm i =>
    cases e
    exact k _ (st.putVal i r) (fun j hj => List.getElem?_set_ne (fun z => hj (by rw [z]; exact List.mem_cons_self))) (by rw [List.length_set])
  | tp is =>
    cases d with
    | tup ds =>
      have e : (if ds.length = is.length then some (setAll is ds ρ) else none) = some ρ1 := e
      split at e
      · rename_i hl
        cases e
        obtain ⟨a, vs, e1, q, rr⟩ := (show ∃ a vs, x = .ref a ∧ SqT p.K S a vs ∧ Reps p S ds vs from r)
        exact ⟨a, vs, e1, DS.SqT.sub hSH q, by rw [← rr.length, hl], names_rd hl st rr k⟩
      · cases e
    | _ => cases e

/-! ### slots wiped, slots brought back -/
theorem wipeE_len (ρ : En) : ∀ is : List Nat, (wipeE ρ is).length = ρ.length
  | [] => rfl
  | i :: is => by unfold wipeE; rw [List.length_set, wipeE_len ρ is]
theorem wipe_get {σ : L2.St} {j : Nat} : ∀ {is : List Nat}, j ∉ is → (wipe σ is)[j]? = σ[j]?
  | [], _ => rfl
  | i :: is, h => by
    unfold wipe
    rw [List.getElem?_set_ne (fun z => h (by rw [z]; exact List.mem_cons_self)), wipe_get (fun z => h (List.mem_cons_of_mem _ z))]
theorem wipe_in {σ : L2.St} {j : Nat} : ∀ {is : List Nat}, j ∈ is → j < σ.length → (wipe σ is)[j]? = some none
  | [], h, _ => nomatch h
  | i :: is, h, hl => by
    unfold wipe
    by_cases z : i = j
    · subst z
      rw [List.getElem?_set_self (by rw [wipe_length]; exact hl)]
    · rw [List.getElem?_set_ne z]
      exact wipe_in ((List.mem_cons.mp h).resolve_left (fun w => z w.symm)) hl
theorem wipe_eq {σ σ1 : L2.St} {is : List Nat} (hl : σ1.length = σ.length) (h : ∀ j, j ∉ is → σ1[j]? = σ[j]?) : wipe σ1 is = wipe σ is := by
  refine List.ext_getElem? fun j => ?_
  by_cases hj : j ∈ is
  · by_cases hb : j < σ.length
    · rw [wipe_in hj hb, wipe_in hj (by rw [hl]; exact hb)]
    · rw [List.getElem?_eq_none (by rw [wipe_length]; omega), List.getElem?_eq_none (by rw [wipe_length]; omega)]
  · rw [wipe_get hj, wipe_get hj, h j hj]
theorem wipeE_get {ρ : En} {j : Nat} : ∀ {is : List Nat}, j ∉ is → (wipeE ρ is)[j]? = ρ[j]?
  | [], _ => rfl
  | i :: is, h => by
    unfold wipeE
    rw [List.getElem?_set_ne (fun z => h (by rw [z]; exact List.mem_cons_self)), wipeE_get (fun z => h (List.mem_cons_of_mem _ z))]
theorem Stt.wipe (st : Stt p y S σ H ρ) : ∀ is : List Nat, Stt p y S (L2.wipe σ is) H (wipeE ρ is)
  | [] => st
  | i :: is => by
    have st1 := Stt.wipe st is
    show Stt p y S ((L2.wipe σ is).set i none) H ((wipeE ρ is).set i .un)
    refine ⟨st1.sub, st1.same, st1.sub0, st1.old, by rw [List.length_set, List.length_set]; exact st1.len, st1.lk, fun j s e => ?_, fun j k s t l e1 e2 o1 o2 q1 q2 => ?_⟩
    · by_cases z : i = j
      · subst z
        by_cases hl : i < (wipeE ρ is).length
        · rw [List.getElem?_set_self hl] at e
          cases e
          trivial
        · rw [List.getElem?_eq_none (by rw [List.length_set]; omega)] at e
          cases e
      · rw [List.getElem?_set_ne z] at e ⊢
        exact st1.sl j s e
    · have f : ∀ {j : Nat} {s : Sl}, ((wipeE ρ is).set i .un)[j]? = some s → s.owns = true → i ≠ j := fun {j s} e o z => by
        subst z
        by_cases hl : i < (wipeE ρ is).length
        · rw [List.getElem?_set_self hl] at e
          cases e
          cases o
        · rw [List.getElem?_eq_none (by rw [List.length_set]; omega)] at e
          cases e
      have hj := f e1 o1
      have hk := f e2 o2
      rw [List.getElem?_set_ne hj] at e1 q1
      rw [List.getElem?_set_ne hk] at e2 q2
      exact st1.sep j k s t l e1 e2 o1 o2 q1 q2
theorem backE_len (τ ρ : En) : ∀ is : List Nat, (backE τ ρ is).length = ρ.length
  | [] => rfl
  | i :: is => by unfold backE; rw [List.length_set, backE_len τ ρ is]
theorem backE_get {τ ρ : En} {j : Nat} : ∀ {is : List Nat}, j ∉ is → (backE τ ρ is)[j]? = ρ[j]?
  | [], _ => rfl
  | i :: is, h => by
    unfold backE
    rw [List.getElem?_set_ne (fun z => h (by rw [z]; exact List.mem_cons_self)), backE_get (fun z => h (List.mem_cons_of_mem _ z))]
theorem backE_in {τ ρ : En} {j : Nat} : ∀ {is : List Nat}, j ∈ is → j < ρ.length → (backE τ ρ is)[j]? = some (τ.getD j .un)
  | [], h, _ => nomatch h
  | i :: is, h, hl => by
    unfold backE
    by_cases z : i = j
    · subst z
      rw [List.getElem?_set_self (by rw [backE_len]; exact hl)]
    · rw [List.getElem?_set_ne z]
      exact backE_in ((List.mem_cons.mp h).resolve_left (fun w => z w.symm)) hl
theorem Stt.back {S1 H1 : Hp} {τ : En} {is : List Nat} (st0 : Stt p y S1 σ H1 ρ) (hno : noOwn ρ is = true) (hS : Sub S1 S) (st : Stt p y S (L2.wipe σ is) H τ) : Stt p y S σ H (backE ρ τ is) := by
  have hlen : τ.length = σ.length := by rw [st.len, wipe_length]
  have notOwn : ∀ j, j ∈ is → ∀ s, ρ[j]? = some s → (s = .un ∨ ∃ d, s = .val d) := fun j hj s e => by
    have h := List.all_eq_true.mp hno j hj
    rw [e] at h
    cases s with
    | un => exact .inl rfl
    | val d => exact .inr ⟨d, rfl⟩
    | own d => cases h
    | lock d => cases h
    | dic d => cases h
  have look : ∀ (j : Nat) (s : Sl), (backE ρ τ is)[j]? = some s → (j ∉ is ∧ τ[j]? = some s) ∨ (j ∈ is ∧ (s = .un ∨ ∃ d, s = .val d ∧ ρ[j]? = some s)) := fun j s e => by
    by_cases hj : j ∈ is
    · have hlt : j < τ.length := by
        have := (List.getElem?_eq_some_iff.mp e).1
        rw [backE_len] at this
        exact this
      rw [backE_in hj hlt] at e
      cases e
      refine .inr ⟨hj, ?_⟩
      rw [List.getD_eq_getElem?_getD]
      cases q : ρ[j]? with
      | none => exact .inl rfl
      | some s =>
        rcases notOwn j hj s q with z | ⟨d, z⟩
        · exact .inl z
        · exact .inr ⟨d, z, rfl⟩
    · rw [backE_get hj] at e
      exact .inl ⟨hj, e⟩
  refine ⟨st.sub, st.same, st.sub0, st.old, by rw [backE_len]; exact hlen, st.lk, fun j s e => ?_, fun j k s t l e1 e2 o1 o2 q1 q2 => ?_⟩
  · rcases look j s e with ⟨h1, h2⟩ | ⟨h1, h2⟩
    · have r := st.sl j s h2
      rw [wipe_get h1] at r
      exact r
    · rcases h2 with z | ⟨d, z, h3⟩
      · subst z
        trivial
      · subst z
        obtain ⟨v, e4, r⟩ := st0.sl j _ h3
        exact ⟨v, e4, Rep.sub hS d v r⟩
  · have f : ∀ {j : Nat} {s : Sl}, (backE ρ τ is)[j]? = some s → s.owns = true → j ∉ is ∧ τ[j]? = some s := fun {j s} e o => by
      rcases look j s e with h | ⟨_, h2⟩
      · exact h
      · rcases h2 with z | ⟨d, z, _⟩
        · subst z
          cases o
        · subst z
          cases o
    obtain ⟨a1, a2⟩ := f e1 o1
    obtain ⟨b1, b2⟩ := f e2 o2
    exact st.sep j k s t l a2 b2 o1 o2 (by rw [wipe_get a1]; exact q1) (by rw [wipe_get b1]; exact q2)
end

/-! ### comprehensions -/
section
variable {X : Cx} {p : Par} {C : Cxt} {y : Dy}
theorem PE.ex {ι : Type} {e : Expr} {t : ι → TE} (h : ∀ i, PE X e (t i)) : PE X e (fun σ H Q => ∃ i, t i σ H Q) := ⟨fun pins s σ H Q I ⟨i, q⟩ => (h i).run pins s σ H Q I q⟩
theorem PT.ex {ι : Type} {e : Expr} {t : ι → TT} (h : ∀ i, PT X e (t i)) : PT X e (fun σ H Q => ∃ i, t i σ H Q) := ⟨fun pins s σ H Q I ⟨i, q⟩ => (h i).run pins s σ H Q I q⟩
theorem PSs.ex {ι : Type} {e : List Stmt} {t : ι → TS} (h : ∀ i, PSs X e (t i)) : PSs X e (fun D σ H => ∃ i, t i D σ H) := ⟨fun pins s σ H D I ⟨i, q⟩ => (h i).run pins s σ H D I q⟩
/-- the turn of a comprehension -/
def turnC (C : Cxt) (t : Tg) (own : List Nat) (ifs e : IR) : D → En → Out (Option D × En) := fun x τ => match asg t x τ with
  | none => .bad
  | some τ1 => (ev C ifs τ1).bnd fun (kv, τ2) => match kv with
    | .v (.bl k) => if k = true then (sq (ev C e τ2)).bnd fun (r, τ3) => if r.isB then .bad else .ok (some r.view, wipeE τ3 own)
      else .ok (none, wipeE τ2 own)
    | _ => .bad
theorem comp_rd {t : Tg} {own : List Nat} {k : ItK} {es : IRs} {ifs e : IR} {σ : L2.St} {H : Hp} {Q : VK} (hsl : ∀ i ∈ t.slots, i ∈ own) (h : rdE p C y (.comp t own k es ifs e) σ H Q) :
    tLc (rdI p C y k es) (gOf p.K t) (fun σ H Q => ∃ y, rdT p C y ifs σ H Q) (fun σ H Q => ∃ y, rdQ p C y e σ H Q) own σ H Q := by
  obtain ⟨S, ρ, st, q⟩ := h
  obtain ⟨⟨rs, ρ1⟩, e1, q⟩ := Res.bnd (x := evs C es ρ) q
  dsimp only at q
  have q' := q
  cases e2 : itD k (rs.map Ar.view) with
  | none => rw [e2] at q; exact q.elim
  | some xs =>
  rw [e2] at q
  dsimp only at q
  split at q
  · rename_i hc
    rw [Bool.and_eq_true] at hc
    obtain ⟨hno, hbr⟩ := hc
    refine ⟨S, ρ, st, ?_⟩
    rw [e1]
    refine ⟨xs, e2, hbr, fun J H1 S1 y1 st1 hS hH hy hback w Da hDa => ?_⟩
    generalize hρl : (lockers rs ρ1).foldl lockAt ρ1 = ρl at *
    have q : Res ((compLoop (turnC C t own ifs e) xs (wipeE ρl own)).bnd fun z => if z.1.length ≤ sizeLine then Out.ok (Ar.fr z.1, (lockers rs ρ1).foldr (fun i τ => unlockAt τ i) (backE ρl z.2 own)) else .bad) (FinQ p y σ S H Q) := q
    have hD0 := st1.none0 hDa
    -- the invariant
    let Fin : List D × En → Prop := fun z => z.1.length ≤ sizeLine ∧ FinQ p y σ S H Q (.fr z.1, (lockers rs ρ1).foldr (fun i τ => unlockAt τ i) (backE ρl z.2 own))
    have q0 : Res (compLoop (turnC C t own ifs e) xs (wipeE ρl own)) Fin := by
      obtain ⟨z, e3, q3⟩ := Res.bnd q
      rw [e3]
      split at q3
      · rename_i hz
        exact ⟨hz, q3⟩
      · exact q3.elim
    refine ⟨fun i m Hi => m = xs.length - i ∧ i ≤ xs.length ∧ ∃ (Si : Hp) (τ : En) (acc : List V) (ds : List D), Stt p y1 Si (wipe σ own) Hi τ ∧ Sub S1 Si ∧ Sub H1 Hi ∧ Hi Da = some (.lst acc) ∧ Si Da = none ∧ Free (wipe σ own) τ Da ∧ Reps p Si ds acc ∧
      Res (compLoop (turnC C t own ifs e) (xs.drop i) τ) fun z => Fin (ds ++ z.1, z.2), ⟨xs.length, ?_⟩, ?_⟩
    · obtain ⟨sf, hf⟩ := st1.newF (o := .lst []) hDa
      have fr := st1.freshA (vs := []) (ds := []) hDa rfl
      obtain ⟨l, us, a1, a2, a3, a4, a5, a6⟩ := fr
      cases a1
      have sw := sf.wipe own
      refine ⟨rfl, Nat.zero_le _, S1, wipeE ρl own, [], [], sw, Sub.refl _, hf, upd_same, hD0.1, fun j s hj ho z => ?_, rfl, ?_⟩
      · have : j ∉ own := fun hjo => by
          rw [wipe_in hjo (by
            have := sw.lt hj
            rw [wipeE_len] at this
            rw [← sf.len]
            exact this)] at z
          cases z
        rw [wipe_get this] at z
        have hj' : ρl[j]? = some s := by
          rw [wipeE_get this] at hj
          exact hj
        exact a6 j s hj' ho z
      · exact q0
    · rintro i m Hi ⟨rfl, hi, Si, τ, acc, ds, sti, hSi, hHi, hD, hSD, hfree, racc, qi⟩
      have hB : Sub y1.H0 Hi := sti.same
      have h0 : y1.S0 Da = none := by
        cases z : y1.S0 Da with
        | none => rfl
        | some o => rw [sti.sub0 _ _ z] at hSD; cases hSD
      by_cases hlt : i < xs.length
      · refine .inr ⟨w.goes i Hi Si hlt hSi sti.sub hB, fun H' => ∃ (Si : Hp) (τ : En) (acc : List V) (ds : List D), Stt p y1 Si (wipe σ own) H' τ ∧ Sub S1 Si ∧ Sub H1 H' ∧ H' Da = some (.lst acc) ∧ Si Da = none ∧ Free (wipe σ own) τ Da ∧ Reps p Si ds acc ∧
          Res (compLoop (turnC C t own ifs e) (xs.drop (i + 1)) τ) fun z => Fin (ds ++ z.1, z.2), fun H' z => ⟨xs.length - (i + 1), by omega, rfl, hlt, z⟩, fun x H' yl => ?_⟩
        obtain ⟨S2, d, hd, rd, b1, b2, b3, b4⟩ := w.yields i Hi Si x H' hlt hSi sti.sub hB yl
        have sp : Stt p (y1.pin Da acc) Si (wipe σ own) Hi τ := Stt.pin sti hD hSD hD0.2 hfree
        have st2 : Stt p (y1.pin Da acc) S2 (wipe σ own) H' τ := sp.grow b1 b3 b2 b4
        have edrop : xs.drop i = d :: xs.drop (i + 1) := by
          obtain ⟨h1, h2⟩ := List.getElem?_eq_some_iff.mp hd
          rw [← h2]
          exact List.drop_eq_getElem_cons h1
        rw [edrop] at qi
        obtain ⟨⟨o, τ4⟩, e4, q4⟩ := Res.bnd (x := turnC C t own ifs e d τ) qi
        have q4 : Res ((compLoop (turnC C t own ifs e) (xs.drop (i + 1)) τ4).bnd fun z => .ok (consO o z.1, z.2)) fun z => Fin (ds ++ z.1, z.2) := q4
        unfold turnC at e4
        cases ea : asg t d τ with
        | none => rw [ea] at e4; cases e4
        | some τ1 =>
        rw [ea] at e4
        dsimp only at e4
        refine asg_rd b2 st2 rd ea fun σ1 st3 h1 h2 => ?_
        have hww : wipe (wipe σ own) own = wipe σ own := wipe_eq (wipe_length _ _) fun j hj => wipe_get hj
        have hw : wipe σ1 own = wipe σ own := (wipe_eq h2 fun j hj => h1 j fun z => hj (hsl j z)).trans hww
        -- a turn's end
        have fin : ∀ {S5 : Hp} {H5 : Hp} {τ5 : En} {new : List D} {nv : List V}, Stt p (y1.pin Da acc) S5 σ1 H5 τ5 → Sub Si S5 → Sub Hi H5 → Reps p S5 new nv → acc.length + nv.length ≤ sizeLine → (∀ z : List D × En, Fin (ds ++ (new ++ z.1), z.2) → Fin (ds ++ new ++ z.1, z.2)) →
            Res (compLoop (turnC C t own ifs e) (xs.drop (i + 1)) (wipeE τ5 own)) (fun z => Fin (ds ++ (new ++ z.1), z.2)) →
            ∃ (Si : Hp) (τ : En) (acc' : List V) (ds : List D), Stt p y1 Si (wipe σ own) (upd H5 Da (.lst (acc ++ nv))) τ ∧ Sub S1 Si ∧ Sub H1 (upd H5 Da (.lst (acc ++ nv))) ∧ (upd H5 Da (.lst (acc ++ nv))) Da = some (.lst acc') ∧ Si Da = none ∧ Free (wipe σ own) τ Da ∧ Reps p Si ds acc' ∧
              Res (compLoop (turnC C t own ifs e) (xs.drop (i + 1)) τ) fun z => Fin (ds ++ z.1, z.2) := fun {S5 H5 τ5 new nv} st5 g1 g2 rn hz hF hres => by
          obtain ⟨su, u1, u2, u3⟩ := Stt.unpin hD0.2 st1.lk h0 st5
          have sw := su.wipe own
          rw [hw] at sw
          have fw : Free (wipe σ own) (wipeE τ5 own) Da := fun j s hj ho z => by
            have hjo : j ∉ own := fun hjo => by
              rw [wipe_in hjo (by
                have := sw.lt hj
                rw [sw.len, wipe_length] at this
                exact this)] at z
              cases z
            rw [wipe_get hjo] at z
            have hj' : τ5[j]? = some s := by
              rw [wipeE_get hjo] at hj
              exact hj
            refine u3 j s hj' ho ?_
            rw [h1 j (fun w => hjo (hsl j w)), wipe_get hjo]
            exact z
          refine ⟨S5, wipeE τ5 own, acc ++ nv, ds ++ new, sw.writeF u2 hD0.2 fw, hSi.trans g1, fun a u z => ?_, upd_same, u2, fw, (Reps.sub g1 _ _ racc).append rn, ?_⟩
          · rw [upd_ne (ne_of_none z hDa)]
            exact g2 _ _ (hHi _ _ z)
          · obtain ⟨z, e6, q6⟩ := Res.ok hres
            rw [e6]
            exact hF z q6
        refine ⟨hw, y1.pin Da acc, S2, τ1, st3, ?_⟩
        cases ei : ev C ifs τ1 with
        | bad => rw [ei] at e4; cases e4
        | exc c fs => rw [ei] at e4; cases e4
        | ok kv =>
        obtain ⟨kv, τ2⟩ := kv
        rw [ei] at e4
        unfold Out.bnd at e4
        dsimp only at e4
        split at e4
        · rename_i kb
          refine ⟨kb, rfl, fun H3 S3 st4 c1 c2 => ?_⟩
          cases kb with
          | true =>
            simp only [if_true] at e4 ⊢
            obtain ⟨⟨r, τ3⟩, e5, e6⟩ : ∃ q, sq (ev C e τ2) = .ok q ∧ (if q.1.isB then Out.bad else .ok (some q.1.view, wipeE q.2 own)) = .ok (o, τ4) := by
              cases z : sq (ev C e τ2) with
              | bad => rw [z] at e4; cases e4
              | exc c fs => rw [z] at e4; cases e4
              | ok q => rw [z] at e4; exact ⟨q, rfl, e4⟩
            dsimp only at e6
            split at e6
            · cases e6
            · rename_i hb
              cases e6
              have hbnd : Res ((sq (ev C e τ2)).bnd fun q => (Out.ok q : Out (Ar × En))) fun q => q = (r, τ3) := by
                rw [e5]
                exact rfl
              refine ⟨y1.pin Da acc, one_rd st4 hbnd fun r' ρ' v H4 S4 q5 st5 d1 d2 s5 ra => ?_⟩
              cases (show (r', ρ') = (r, τ3) from q5)
              obtain ⟨z, e7, q7⟩ := Res.bnd q4
              have q7 : Fin (ds ++ (r.view :: z.1), z.2) := q7
              have hlen := q7.1
              simp only [List.length_append, List.length_cons] at hlen
              have hacc := racc.length
              have rv : Rep p S4 r.view v := by
                cases r with
                | v d => exact ra
                | fr ds => cases s5
                | br i ds => exact absurd rfl hb
              obtain ⟨_, u1, _, _⟩ := Stt.unpin hD0.2 st1.lk h0 st5
              refine ⟨acc, u1, by omega, fin (new := [r.view]) (nv := [v]) st5 (b1.trans (c1.trans d1)) (b3.trans (c2.trans d2)) (Reps.one rv) (by simp only [List.length_singleton]; omega) (fun z q => by rw [List.append_assoc]; exact q) ?_⟩
              rw [e7]
              exact q7
          | false =>
            simp only [Bool.false_eq_true, if_false] at e4 ⊢
            cases e4
            obtain ⟨z, e7, q7⟩ := Res.bnd q4
            have q7 : Fin (ds ++ z.1, z.2) := q7
            obtain ⟨_, u1, _, _⟩ := Stt.unpin hD0.2 st1.lk h0 st4
            have hlen := q7.1
            simp only [List.length_append] at hlen
            have hacc := racc.length
            have key := fin (new := []) (nv := []) st4 (b1.trans c1) (b3.trans c2) rfl (by simp only [List.length_nil]; omega) (fun z q => by rw [List.append_nil]; exact q) (by rw [e7]; exact q7)
            rw [List.append_nil] at key
            have eu : upd H3 Da (.lst acc) = H3 := by
              funext a
              by_cases z : a = Da
              · rw [z, upd_same, u1]
              · rw [upd_ne z]
            rw [eu] at key
            exact key
        · cases e4
      · have e : i = xs.length := by omega
        subst e
        refine .inl ⟨w.stops Hi Si hSi sti.sub hB, ?_⟩
        rw [List.drop_length] at qi
        have qi : Fin (ds ++ [], τ) := qi
        rw [List.append_nil] at qi
        obtain ⟨_, fq⟩ := qi
        have stb : Stt p y1 Si σ Hi (backE ρl τ own) := st1.back hno hSi sti
        obtain ⟨stu, hfb⟩ := hback _ _ _ _ stb
        refine fq _ _ Si stu (hS.trans hSi) (hH.trans hHi) ⟨Da, acc, rfl, hD, hSD, ?_, racc, ?_⟩
        · cases z : y.H0 Da with
          | none => rfl
          | some o => rw [hy _ _ z] at hD0; cases hD0.2
        · refine hfb Da hD0.2 fun j s hj ho z => ?_
          have hjo : j ∉ own := fun hjo => by
            have hlt : j < τ.length := by
              have := (List.getElem?_eq_some_iff.mp hj).1
              rw [backE_len] at this
              exact this
            rw [backE_in hjo hlt, List.getD_eq_getElem?_getD] at hj
            have h := List.all_eq_true.mp hno j hjo
            cases q : ρl[j]? with
            | none => rw [q] at hj; cases hj; cases ho
            | some s' =>
              rw [q] at hj h
              have hj2 : s' = s := Option.some.inj hj
              subst hj2
              cases s' with
              | own d => cases h
              | dic d => cases h
              | _ => cases ho
          rw [backE_get hjo] at hj
          exact hfree j s hj ho (by rw [wipe_get hjo]; exact z)
  · exact q.elim
end
end DS
/-! ## The check of expressions, and what it gives -/
namespace DS
open PySem PySem.Spec PyProof.Rows L2
/-- the defs by name, with their parameters -/
structure Tab where
  fns : List (Str × List Str)
  kws : List (Nat × List Str × List Nat)
  keys : Nat
def IR.isTrue : IR → Bool
  | .bl true => true
  | _ => false
/-- where the code stands: the slots' names, the scope, the names that may be stored -/
structure CC where
  N : List Str
  sc : List (Str × NameKind)
  sto : List (Str × NameKind)
def dbg : Str := "__debug__"
def clsd : Str := "__classdict__"
def dnm : Str := "__name__"
def nmB (c : CC) (i : Nat) (x : Str) : Bool := decide (c.N[i]? = some x) && (match c.sc.lookup x with
  | some .local => true | some .cell => true | some .free => true | _ => false) && !(x == dbg) && !(x == clsd)
def stB (c : CC) (i : Nat) (x : Str) : Bool := decide (c.N[i]? = some x) && (match c.sto.lookup x with
  | some .local => true | some .cell => true | _ => false)
def glB (c : CC) (x : Str) : Bool := decide (c.sc.lookup x = some .globalImplicit) && !(x == dbg) && decide (x ≠ dnm)
def fnB (T : Tab) (f : Nat) (x : Str) : Bool := match T.fns[f]? with
  | some q => decide (q.1 = x)
  | none => false
def arB (T : Tab) (f n : Nat) : Bool := match T.fns[f]? with
  | some q => decide (n = q.2.length)
  | none => false
def notStar : Expr → Bool
  | .Starred _ _ => false
  | _ => true
def notSlice : Expr → Bool
  | .Slice _ _ _ _ => false
  | _ => true
def plainT : Expr → Bool
  | .UnaryOp .Not _ _ => false
  | .BoolOp _ _ _ => false
  | .IfExp _ _ _ _ => false
  | .Compare _ _ _ _ => false
  | _ => true
def bltNames : List Str := ["len", "int", "tuple", "list", "sorted", "sum", "max", "min", "abs", "any", "all", "isinstance", "range", "enumerate", "zip", "bool", "str"]
def tyTab : List (String × Str) := [("int", "int"), ("bool", "bool"), ("str", "str"), ("tuple", "tuple"), ("list", "list")]
def blkCC (c : CC) (scope : Scope) : CC := ⟨c.N, (relS scope { kind := .function, names := c.sc, isGenerator := false, isCoroutine := false }).names, scope.names⟩
def ownP (c : CC) (own : List Nat) : List (Str × Nat) := own.map fun i => (c.N.getD i dbg, i)
def itArgs (c : CC) (k : ItK) (tg iter : Expr) : Option (List Expr) :=
  match k with
  | .seq => some [iter]
  | .range1 => (match iter with
    | .Call (.Name x _) [a] [] _ => if glB c x && decide (x = "range") then some [a] else none
    | _ => none)
  | .range2 => (match iter with
    | .Call (.Name x _) [a, b] [] _ => if glB c x && decide (x = "range") then some [a, b] else none
    | _ => none)
  | .enum => (match tg with
    | .Tuple _ _ _ => (match iter with
      | .Call (.Name x _) [a] [] _ => if glB c x && decide (x = "enumerate") then some [a] else none
      | _ => none)
    | _ => none)
  | .zip => none
def okNs (c : CC) : List Nat → List Expr → Bool
  | [], [] => true
  | i :: is, .Name x _ :: es => stB c i x && okNs c is es
  | _, _ => false
def okTg (c : CC) (t : Tg) (e : Expr) : Bool :=
  match t with
  | .nm i => (match e with
    | .Name x _ => stB c i x
    | _ => false)
  | .tp is => (match e with
    | .Tuple es _ _ => okNs c is es
    | _ => false)
def kwNames : List Keyword → Option (List Str)
  | [] => some []
  | ⟨some n, _, _⟩ :: r => (kwNames r).map (n :: ·)
  | _ => none
def kwVals : List Keyword → List Expr
  | [] => []
  | ⟨_, v, _⟩ :: r => v :: kwVals r
mutual
def okE (T : Tab) (c : CC) : IR → Expr → Bool
  | .slot i, e => (match e with
    | .Name x _ => nmB c i x
    | _ => false)
  | .move i, e => (match e with
    | .Name x _ => nmB c i x
    | _ => false)
  | .bor i, e => (match e with
    | .Name x _ => nmB c i x
    | _ => false)
  | .int n, e => (match e with
    | .Constant (.int m) _ _ => decide (n = m)
    | _ => false)
  | .bl b, e => (match e with
    | .Constant (.bool b') _ _ => b == b'
    | _ => false)
  | .non, e => (match e with
    | .Constant .none _ _ => true
    | _ => false)
  | .str s, e => (match e with
    | .Constant (.str t) _ _ => decide (s = t)
    | _ => false)
  | .bin o a b, e => (match e with
    | .BinOp l o' r _ => decide (o = o') && okE T c a l && okE T c b r
    | _ => false)
  | .un o a, e => (match e with
    | .UnaryOp o' x _ => decide (o = o') && okE T c a x
    | _ => false)
  | .cmp o a b, e => (match e with
    | .Compare l [o'] [r] _ => decide (o = o') && okE T c a l && okE T c b r && !behindInMarks o' r
    | _ => false)
  | .chain o o2 a b d, e => (match e with
    | .Compare l [o', o2'] [r, r2] _ => decide (o = o') && decide (o2 = o2') && okE T c a l && okE T c b r && okE T c d r2 && !lastMarks [o', o2'] [r, r2]
    | _ => false)
  | .andE es, e => (match e with
    | .BoolOp .And vs _ => okEs T c es vs && !vs.isEmpty
    | _ => false)
  | .orE es, e => (match e with
    | .BoolOp .Or vs _ => okEs T c es vs && !vs.isEmpty
    | _ => false)
  | .notE a, e => (match e with
    | .UnaryOp .Not x _ => okE T c a x
    | _ => false)
  | .ife t a b, e => (match e with
    | .IfExp te be oe _ => okT T c t te && okE T c a be && okE T c b oe
    | _ => false)
  | .tup es, e => (match e with
    | .Tuple vs _ _ => okEs T c es vs
    | _ => false)
  | .lst es, e => (match e with
    | .List vs _ => okEs T c es vs
    | _ => false)
  | .ix a i, e => (match e with
    | .Subscript v s _ => okE T c a v && okE T c i s && notSlice s
    | _ => false)
  | .slice a lo hi, e => (match e with
    | .Subscript v (.Slice l h none _) _ => okE T c a v && (match l with
      | none => lo.isNon
      | some x => okE T c lo x && !lo.isNon) && (match h with
      | none => hi.isNon
      | some x => okE T c hi x && !hi.isNon)
    | _ => false)
  | .call f es, e => (match e with
    | .Call (.Name x _) as [] _ => fnB T f x && glB c x && okEs T c es as && arB T f es.len
    | _ => false)
  | .callK f perm es, e => (match e with
    | .Call (.Name x _) [] kws _ => fnB T f x && glB c x && okEs T c es (kwVals kws) && !kws.isEmpty && (match kwNames kws with
      | some ks => decide ((f, ks, perm) ∈ T.kws)
      | none => false)
    | _ => false)
  | .blt b es, e => (match e with
    | .Call (.Name x _) as [] _ => (match b with
      | .isi (.ty n) => (match as with
        | [_, .Name t _] => decide (x = "isinstance") && glB c x && glB c t && decide ((n, t) ∈ tyTab) && okEs T c es (as.take 1)
        | _ => false)
      | .isi (.own _) => false
      | b => decide (x = bltNm b) && glB c x && okEs T c es as && !as.isEmpty)
    | _ => false)
  | .sortRev a, e => (match e with
    | .Call (.Name x _) [v] [⟨some n, .Constant (.bool true) _ _, _⟩] _ => decide (x = "sorted") && glB c x && decide (n = "reverse") && okE T c a v && notStar v
    | _ => false)
  | .comp t own k es ifs a, e => (match e with
    | .ListComp elt [⟨tg, iter, cs, 0⟩] scope _ => (match itArgs c k tg iter with
      | some as => okEs T c es as
      | none => false) && okTg (blkCC c scope) t tg && t.slots.all (fun i => decide (i ∈ own)) && blkC c.N { kind := .function, names := c.sc, isGenerator := false, isCoroutine := false } scope (ownP c own) && (match cs with
      | [] => ifs.isTrue
      | [q] => okT T (blkCC c scope) ifs q
      | _ => false) && okE T (blkCC c scope) a elt
    | _ => false)
  | .cmpT _ _ _, _ => false
  | .chainT _ _ _ _ _, _ => false
  | .inDicT _ _ _, _ => false
  | .tru _, _ => false
  | .andT _, _ => false
  | .orT _, _ => false
  | .notT _, _ => false
  | .sortKey f a, e => (match e with
    | .Call (.Name x _) [v] [⟨some n, .Name fx _, _⟩] _ => decide (x = "sorted") && glB c x && decide (n = "key") && okE T c a v && notStar v && fnB T f fx && glB c fx && arB T f 1 && decide (f < T.keys)
    | _ => false)
  | .inDic _ _ _, _ => false
  | .getDic _ _, _ => false
  | .fld _ _, _ => false
  | .make _ _, _ => false
def okEs (T : Tab) (c : CC) : IRs → List Expr → Bool
  | .nil, as => as.isEmpty
  | .cons a es, as => (match as with
    | e :: as => okE T c a e && notStar e && okEs T c es as
    | [] => false)
def okT (T : Tab) (c : CC) : IR → Expr → Bool
  | .tru a, e => plainT e && okE T c a e
  | .cmpT o a b, e => (match e with
    | .Compare l [o'] [r] _ => decide (o = o') && okE T c a l && okE T c b r && !behindInMarks o' r
    | _ => false)
  | .chainT o o2 a b d, e => (match e with
    | .Compare l [o', o2'] [r, r2] _ => decide (o = o') && decide (o2 = o2') && okE T c a l && okE T c b r && okE T c d r2 && !lastMarks [o', o2'] [r, r2]
    | _ => false)
  | .andT es, e => (match e with
    | .BoolOp .And vs _ => okTs T c es vs
    | _ => false)
  | .orT es, e => (match e with
    | .BoolOp .Or vs _ => okTs T c es vs
    | _ => false)
  | .notT a, e => (match e with
    | .UnaryOp .Not x _ => okT T c a x
    | _ => false)
  | _, _ => false
def okTs (T : Tab) (c : CC) : IRs → List Expr → Bool
  | .nil, _ => false
  | .cons a es, as => (match as with
    | [] => false
    | e :: as => okT T c a e && (match es with
      | .nil => as.isEmpty
      | .cons _ _ => okTs T c es as))
end
end DS
namespace DS
open PySem PySem.Spec PyProof.Rows L2
def gPerm (ks : List Str) (n : Nat) (perm : List Nat) : List Value → List Value → List Value := fun us ws => if us = [] ∧ ws.length = ks.length then perm.map (fun j => ws.getD j .none) else List.replicate (n + 1) .none
def gPermV (ks : List Str) (n : Nat) (perm : List Nat) : List V → List V → List V := fun us ws => if us = [] ∧ ws.length = ks.length then perm.map (fun j => ws.getD j .non) else List.replicate (n + 1) .non
structure FnSome (p : Par) (C : Cxt) (X : Cx) (f : Nat) (nm : Str) (ps : List Str) : Prop where
  ex : ∃ (k : Nat) (a : Addr) (fd : FuncData), FnOk X.prog X.w X.K X.mg X.base CX0 k a fd ps (spD p ps.length (C.fn f)) ∧ Room k X.A ∧ X.mg nm = some (.ref a) ∧ PySem.W.keepIn X.K (.ref a) = true ∧ Binds X.K fd ps []
structure KwSome (p : Par) (C : Cxt) (X : Cx) (f : Nat) (nm : Str) (ps ks : List Str) (perm : List Nat) : Prop where
  ex : ∃ (k : Nat) (a : Addr) (fd : FuncData), FnOk X.prog X.w X.K X.mg X.base CX0 k a fd ps (spD p ps.length (C.fn f)) ∧ Room k X.A ∧ X.mg nm = some (.ref a) ∧ PySem.W.keepIn X.K (.ref a) = true ∧ KBinds X.K fd ps ks (gPerm ks ps.length perm) (gPermV ks ps.length perm)
  len : perm.length = ps.length
structure KeySome (p : Par) (C : Cxt) (X : Cx) (f : Nat) (nm : Str) (ps : List Str) : Prop where
  ex : ∃ (k : Nat) (a : Addr) (fd : FuncData), FnOk X.prog X.w X.K X.mg X.base CX0 k a fd ps (spD p ps.length (C.fn f)) ∧ Room (k + 2) X.A ∧ X.mg nm = some (.ref a) ∧ PySem.W.keepIn X.K (.ref a) = true ∧ Binds X.K fd ps []
structure XOk (p : Par) (C : Cxt) (T : Tab) (X : Cx) (c : CC) : Prop where
  K : X.K = p.K
  calm : X.calm = true
  N : X.N = c.N
  nd : c.N.Nodup
  kind : X.env.scope.kind = .function
  sc : X.env.scope.names = c.sc
  sto : ∀ x : Str, c.sto.lookup x = some .local ∨ c.sto.lookup x = some .cell → Loc X.env.scope x ∧ (X.fn x = true ∨ X.env.scope.names.lookup x = some .local)
  blt : ∀ x ∈ bltNames, X.mg x = none
  units : X.A.units + 64 < cLine
  pass : PassesOwn (model X.prog X.w) X.A X.env X.xe
  fns : ∀ (f : Nat) (nm : Str) (ps : List Str), T.fns[f]? = some (nm, ps) → FnSome p C X f nm ps
  srt : ∀ (f : Nat) (nm : Str) (ps : List Str), f < T.keys → T.fns[f]? = some (nm, ps) → KeySome p C X f nm ps
  kws : ∀ (f : Nat) (ks : List Str) (perm : List Nat) (nm : Str) (ps : List Str), (f, ks, perm) ∈ T.kws → T.fns[f]? = some (nm, ps) → KwSome p C X f nm ps ks perm
section
variable {p : Par} {C : Cxt} {T : Tab} {X : Cx} {c : CC} {y : Dy}
theorem XOk.vis (hX : XOk p C T X c) {i : Nat} {x : Str} (h : nmB c i x = true) : X.N[i]? = some x ∧ Vis X.env.scope x ∧ (x == dbg) = false ∧ (x == clsd) = false := by
  unfold nmB at h
  simp only [Bool.and_eq_true, decide_eq_true_eq, Bool.not_eq_true'] at h
  obtain ⟨⟨⟨h1, h2⟩, h3⟩, h4⟩ := h
  refine ⟨by rw [hX.N]; exact h1, ?_, h3, h4⟩
  unfold Vis
  rw [hX.sc]
  split at h2
  · exact .inl (by assumption)
  · exact .inr (.inl (by assumption))
  · exact .inr (.inr (by assumption))
  · cases h2
theorem XOk.st (hX : XOk p C T X c) {i : Nat} {x : Str} (h : stB c i x = true) : X.N[i]? = some x ∧ Loc X.env.scope x ∧ (X.fn x = true ∨ X.env.scope.names.lookup x = some .local) := by
  unfold stB at h
  simp only [Bool.and_eq_true, decide_eq_true_eq] at h
  obtain ⟨h1, h2⟩ := h
  refine ⟨by rw [hX.N]; exact h1, ?_⟩
  refine hX.sto x ?_
  split at h2
  · exact .inl (by assumption)
  · exact .inr (by assumption)
  · cases h2
theorem XOk.gl (hX : XOk p C T X c) {x : Str} (h : glB c x = true) : Gl X x ∧ (x == dbg) = false ∧ x ≠ dnm := by
  unfold glB at h
  simp only [Bool.and_eq_true, decide_eq_true_eq, Bool.not_eq_true'] at h
  obtain ⟨⟨h1, h2⟩, h3⟩ := h
  refine ⟨?_, h2, h3⟩
  show X.env.scope.names.lookup x = _
  rw [hX.sc]
  exact h1
theorem XOk.fn (hX : XOk p C T X c) {f : Nat} {x : Str} (h : fnB T f x = true) : ∃ ps, T.fns[f]? = some (x, ps) ∧ FnSome p C X f x ps := by
  unfold fnB at h
  split at h
  · rename_i q hq
    have e := of_decide_eq_true h
    obtain ⟨n, ps⟩ := q
    cases e
    exact ⟨ps, hq, hX.fns f _ ps hq⟩
  · cases h
theorem FnSome.blk {f : Nat} {nm : Str} {ps : List Str} (h : FnSome p C X f nm ps) (s : Shared) (H : Hp) (scope : Scope) (cenv : Env) (fp : List Addr) : FnSome p C (X.blk s H scope cenv fp) f nm ps := ⟨h.ex⟩
theorem KeySome.blk {f : Nat} {nm : Str} {ps : List Str} (h : KeySome p C X f nm ps) (s : Shared) (H : Hp) (scope : Scope) (cenv : Env) (fp : List Addr) : KeySome p C (X.blk s H scope cenv fp) f nm ps := ⟨h.ex⟩
theorem KwSome.blk {f : Nat} {nm : Str} {ps ks : List Str} {perm : List Nat} (h : KwSome p C X f nm ps ks perm) (s : Shared) (H : Hp) (scope : Scope) (cenv : Env) (fp : List Addr) : KwSome p C (X.blk s H scope cenv fp) f nm ps ks perm := ⟨h.ex, h.len⟩
theorem XOk.blk (hX : XOk p C T X c) {scope : Scope} (hk : scope.kind = .function) (s : Shared) (H : Hp) (D : Addr) (cl : List (Str × Addr)) (fp : List Addr) : XOk p C T (X.blk s H scope (compEnvC scope cl D X.env) fp) (blkCC c scope) where
  K := hX.K
  calm := hX.calm
  N := hX.N
  nd := hX.nd
  kind := hk
  sc := by
    show (relS scope X.env.scope).names = _
    unfold blkCC relS
    dsimp only
    rw [hX.kind, hX.sc]
  sto := fun x h => by
    have h : scope.names.lookup x = some .local ∨ scope.names.lookup x = some .cell := h
    have e : (relS scope X.env.scope).names.lookup x = some .local ∨ (relS scope X.env.scope).names.lookup x = some .cell := by
      rcases h with h | h
      · exact .inl (lookup_relS_keep (by decide) h)
      · exact .inr (lookup_relS_keep (by decide) h)
    refine ⟨e, ?_⟩
    rcases h with h | h
    · exact .inr (lookup_relS_keep (by decide) h)
    · refine .inl ?_
      show (scope.names.lookup x == some NameKind.cell) = true
      rw [h]
      rfl
  blt := hX.blt
  units := hX.units
  pass := PassesOwn.never
  fns := fun f nm ps h => (hX.fns f nm ps h).blk ..
  srt := fun f nm ps h0 h => (hX.srt f nm ps h0 h).blk ..
  kws := fun f ks perm nm ps h1 h2 => (hX.kws f ks perm nm ps h1 h2).blk ..

/-! ### shapes of the syntax -/
theorem star_cons {e : Expr} {es : List Expr} {env : Env} (h : notStar e = true) : starEach (e :: es) env = (false, eval e env) :: starEach es env := by
  cases e <;> first | rfl | cases h
theorem star_any {pos : Pos} {env : Env} : ∀ {es : List Expr}, es.all notStar = true → (backTo pos (starEach es env)).any (·.1) = false
  | [], _ => rfl
  | e :: es, h => by
    rw [List.all_cons, Bool.and_eq_true] at h
    rw [star_cons h.1]
    show (false || (backTo pos (starEach es env)).any (·.1)) = false
    rw [star_any h.2]
    rfl
theorem plain_ix {b : Expr} (h : notSlice b = true) : PlainIx b := by
  intro o i
  cases b <;> first | rfl | cases h
theorem plain_test {e : Expr} (h : plainT e = true) (env : Env) (whole : Sem Value) : isTrue e env whole = (do let v ← whole; standAt e.pos; holding [v] (truthy v)) := by
  cases e with
  | UnaryOp o x pos => cases o <;> first | rfl | cases h
  | BoolOp _ _ _ => cases h
  | IfExp _ _ _ _ => cases h
  | Compare _ _ _ _ => cases h
  | _ => rfl
theorem okEs_star : ∀ {es : IRs} {as : List Expr}, okEs T c es as = true → as.all notStar = true
  | .nil, [], _ => rfl
  | .nil, _ :: _, h => by simp [okEs] at h
  | .cons _ _, [], h => by simp [okEs] at h
  | .cons a es, e :: as, h => by
    simp only [okEs, Bool.and_eq_true] at h
    rw [List.all_cons, h.1.2, okEs_star h.2]
    rfl
theorem boot_blt : ∀ b : Blt, bootBuiltins (bltNm b) = some (bltVal b) := by
  intro b
  cases b with
  | isi T =>
    show bootBuiltins ("isinstance" : Str) = some (.builtin "isinstance")
    decide +kernel
  | _ => decide +kernel
theorem blt_in : ∀ b : Blt, bltNm b ∈ bltNames := by
  intro b
  cases b with
  | isi T =>
    show ("isinstance" : Str) ∈ bltNames
    decide +kernel
  | _ => decide +kernel
theorem ty_boot {n : String} {t : Str} (h : (n, t) ∈ tyTab) : bootBuiltins t = some (.type n) ∧ t ∈ bltNames := by
  unfold tyTab at h
  simp only [List.mem_cons, Prod.mk.injEq, List.not_mem_nil, or_false] at h
  rcases h with ⟨h1, h2⟩ | ⟨h1, h2⟩ | ⟨h1, h2⟩ | ⟨h1, h2⟩ | ⟨h1, h2⟩ <;> (subst h1 h2; exact ⟨by decide +kernel, by decide +kernel⟩)
end
end DS
/-! ## Each form of an expression -/
namespace DS
open PySem PySem.Spec PyProof.Rows L2
section
variable {p : Par} {C : Cxt} {T : Tab} {X : Cx} {c : CC} {y : Dy}
theorem FinQ.seal {σ : L2.St} {S H : Hp} {Q : VK} {r : Ar} {ρ : En} (h : FinQ p y σ S H Q (r, ρ)) : FinQ p y σ S H Q (r, ρ) := h

theorem n_const {e : Expr} {ir : IR} {d : D} {v : V} (he : PE X e (tC v)) (hv : ∀ ρ, ev C ir ρ = .ok (.v d, ρ)) (hr : ∀ S, Rep p S d v) : PE X e (rdE p C y ir) := PE.mono he fun σ H Q ⟨S, ρ, st, q⟩ => by
  have q : Res (ev C ir ρ) (FinQ p y σ S H Q) := q
  rw [hv] at q
  exact FinQ.val q st (hr S)
theorem n_slot {i : Nat} {e : Expr} (he : PE X e (tVar i)) : PE X e (rdE p C y (.slot i)) := PE.mono he fun σ H Q ⟨S, ρ, st, q⟩ => by
  have q : Res (ev C (.slot i) ρ) (FinQ p y σ S H Q) := q
  simp only [ev] at q
  split at q
  · rename_i d hd
    obtain ⟨v, e1, r⟩ := st.sl i _ hd
    exact ⟨v, e1, FinQ.val q st r⟩
  · rename_i ds hd
    obtain ⟨l, vs, e1, h1, h2, h3, r⟩ := (show SlOk p y S H i σ[i]? (.own ds) from st.sl i _ hd)
    have st1 := st.dropSlot i
    have fr : Free σ (ρ.set i .un) l := fun j s hj ho z => by
      by_cases w : i = j
      · subst w
        rw [List.getElem?_set_self (st.lt hd)] at hj
        cases hj
        cases ho
      · rw [List.getElem?_set_ne w] at hj
        exact w (st.sep i j _ s l hd hj rfl ho e1 z)
    obtain ⟨st2, hs⟩ := st1.sealF h1 h2 h3 fr
    have rr : Rep p (upd S l (.lst vs)) (.lst ds) (.ref l) := ⟨l, vs, rfl, .inl upd_same, Reps.sub hs _ _ r⟩
    have st3 := st2.retell (i := i) (s := .val (.lst ds)) (fun _ => ⟨_, e1, rr⟩) fun z => nomatch z
    rw [List.set_set] at st3
    exact ⟨_, e1, (q : FinQ p y σ S H Q _) _ H _ st3 hs (Sub.refl _) rr⟩
  · exact q.elim
theorem n_move {i : Nat} {e : Expr} (he : PE X e (tVar i)) : PE X e (rdE p C y (.move i)) := PE.mono he fun σ H Q ⟨S, ρ, st, q⟩ => by
  have q : Res (ev C (.move i) ρ) (FinQ p y σ S H Q) := q
  simp only [ev] at q
  split at q
  · rename_i d hd
    obtain ⟨v, e1, r⟩ := st.sl i _ hd
    exact ⟨v, e1, FinQ.val q st r⟩
  · rename_i ds hd
    obtain ⟨l, vs, e1, h1, h2, h3, r⟩ := (show SlOk p y S H i σ[i]? (.own ds) from st.sl i _ hd)
    have st1 := st.dropSlot i
    have fr : Free σ (ρ.set i .un) l := fun j s hj ho z => by
      by_cases w : i = j
      · subst w
        rw [List.getElem?_set_self (st.lt hd)] at hj
        cases hj
        cases ho
      · rw [List.getElem?_set_ne w] at hj
        exact w (st.sep i j _ s l hd hj rfl ho e1 z)
    exact ⟨_, e1, (q : FinQ p y σ S H Q _) _ H _ st1 (Sub.refl _) (Sub.refl _) ⟨l, vs, rfl, h1, h2, h3, r, fr⟩⟩
  · exact q.elim
theorem n_bor {i : Nat} {e : Expr} (he : PE X e (tVar i)) : PE X e (rdE p C y (.bor i)) := PE.mono he fun σ H Q ⟨S, ρ, st, q⟩ => by
  have q : Res (ev C (.bor i) ρ) (FinQ p y σ S H Q) := q
  simp only [ev] at q
  split at q
  · rename_i d hd
    obtain ⟨v, e1, r⟩ := st.sl i _ hd
    exact ⟨v, e1, FinQ.val q st r⟩
  · rename_i ds hd
    obtain ⟨l, vs, e1, h1, h2, h3, r⟩ := (show SlOk p y S H i σ[i]? (.own ds) from st.sl i _ hd)
    exact ⟨_, e1, (q : FinQ p y σ S H Q _) _ H S st (Sub.refl _) (Sub.refl _) ⟨l, vs, rfl, e1, h1, r⟩⟩
  · rename_i ds hd
    obtain ⟨l, vs, e1, _, h1, h2, r⟩ := (show SlOk p y S H i σ[i]? (.lock ds) from st.sl i _ hd)
    exact ⟨_, e1, (q : FinQ p y σ S H Q _) _ H S st (Sub.refl _) (Sub.refl _) ⟨l, vs, rfl, e1, st.same _ _ h1, r⟩⟩
  · exact q.elim
theorem n_bin (hK : X.K = p.K) {o : Operator} {a b : IR} {l r : Expr} {pos : Pos} (ha : PE X l (rdQ p C y a)) (hb : PE X r (rdQ p C y b)) : PE X (.BinOp l o r pos) (rdE p C y (.bin o a b)) :=
  PE.mono (pe_op (op_bin o) ha hb) fun σ H Q ⟨S, ρ, st, q⟩ => by
  refine two_rd (k := fun x z => (binD o x.view z.1.view).bnd fun r => .ok (r, z.2)) st q fun r1 r2 ρ2 v w H2 S2 q2 st2 hS hH ra rb _ _ => ?_
  obtain ⟨r, e1, q3⟩ := Res.bnd q2
  rw [hK]
  exact bin_fin e1 st2 ra rb (FinQ.sub (q3 : FinQ p y σ S H Q _) hS hH)
theorem n_un {o : UnaryOp} {a : IR} {l : Expr} {pos : Pos} (ha : PE X l (rdQ p C y a)) : PE X (.UnaryOp o l pos) (rdE p C y (.un o a)) :=
  PE.mono (pe_un (op_un o) ha) fun σ H Q ⟨S, ρ, st, q⟩ => by
  refine one_rd (k := fun x => (unD o x.1.view).bnd fun r => .ok (r, x.2)) st q fun r1 ρ1 v H1 S1 q1 st1 hS hH _ ra => ?_
  obtain ⟨r, e1, q3⟩ := Res.bnd q1
  exact un_fin e1 st1 (ra.viewV st1) (FinQ.sub (q3 : FinQ p y σ S H Q _) hS hH)
theorem n_cmp (hX : XOk p C T X c) {o : CmpOp} {a b : IR} {l r : Expr} {pos : Pos} (hm : behindInMarks o r = false) (ha : PE X l (rdQ p C y a)) (hb : PE X r (rdQ p C y b)) : PE X (.Compare l [o] [r] pos) (rdE p C y (.cmp o a b)) :=
  PE.mono (pe_cmpR (op_cmp hX.units o) ha hb hm) fun σ H Q ⟨S, ρ, st, q⟩ => by
  refine two_rd (k := fun x z => (ob (cmpD o x.view z.1.view)).bnd fun r => Out.ok (Ar.v (.bl r), z.2)) st q fun r1 r2 ρ2 v w H2 S2 q2 st2 hS hH ra rb _ _ => ?_
  obtain ⟨r, e1, q3⟩ := Res.bnd q2
  rw [hX.K]
  exact cmp_fin (ob_ok e1) st2.sub ra rb (FinQ.val (FinQ.sub (q3 : FinQ p y σ S H Q _) hS hH) st2 rfl)
theorem t_cmp (hX : XOk p C T X c) {o : CmpOp} {a b : IR} {l r : Expr} {pos : Pos} (hm : behindInMarks o r = false) (ha : PE X l (rdQ p C y a)) (hb : PE X r (rdQ p C y b)) : PT X (.Compare l [o] [r] pos) (rdT p C y (.cmpT o a b)) :=
  PT.mono (pt_cmpR (op_cmp hX.units o) ha hb hm) fun σ H Q ⟨S, ρ, st, q⟩ => by
  refine two_rd (k := fun x z => (ob (cmpD o x.view z.1.view)).bnd fun r => Out.ok (Ar.v (.bl r), z.2)) st q fun r1 r2 ρ2 v w H2 S2 q2 st2 hS hH ra rb _ _ => ?_
  obtain ⟨r, e1, q3⟩ := Res.bnd q2
  rw [hX.K]
  obtain ⟨b, e3, k⟩ := (show ∃ b, Ar.v (.bl r) = .v (.bl b) ∧ ∀ H' S', Stt p y S' σ H' ρ2 → Sub S S' → Sub H H' → Q b H' from q3)
  cases e3
  exact cmp_fin (ob_ok e1) st2.sub ra rb ⟨r, rfl, k H2 S2 st2 hS hH⟩
/-- a chain of two -/
theorem chain_in (hX : XOk p C T X c) {o o2 : CmpOp} {a b d : IR} {σ : L2.St} {H : Hp} {ρ : En} {S : Hp} {Q : VK} {F : Ar × En → Prop} (st : Stt p y S σ H ρ)
    (q : Res ((sq (ev C a ρ)).bnd fun x => (sq (ev C b x.2)).bnd fun z => (ob (cmpD o x.1.view z.1.view)).bnd fun r => if r = true then (sq (ev C d z.2)).bnd fun u => (ob (cmpD o2 z.1.view u.1.view)).bnd fun r' => .ok (.v (.bl r'), u.2) else .ok (.v (.bl false), z.2)) F)
    (hF : ∀ b ρ' H' S', F (.v (.bl b), ρ') → Stt p y S' σ H' ρ' → Sub S S' → Sub H H' → Q (.bl b) H') :
    tChain (rCmp X.K o) (rCmp X.K o2) (rdQ p C y a) (rdQ p C y b) (rdQ p C y d) σ H Q := by
  refine two_rd (k := fun x z => (ob (cmpD o x.view z.1.view)).bnd fun r => if r = true then (sq (ev C d z.2)).bnd fun u => (ob (cmpD o2 z.1.view u.1.view)).bnd fun r' => Out.ok (Ar.v (.bl r'), u.2) else .ok (.v (.bl false), z.2)) st q fun r1 r2 ρ2 v w H2 S2 q2 st2 hS hH ra rb _ rb' => ?_
  obtain ⟨r, e1, q3⟩ := Res.bnd q2
  rw [hX.K]
  refine cmp_fin (ob_ok e1) st2.sub ra rb ⟨r, rfl, ?_⟩
  cases r with
  | false =>
    rw [if_neg Bool.false_ne_true]
    exact hF false ρ2 H2 S2 q3 st2 hS hH
  | true =>
    rw [if_pos rfl]
    have q3 : Res ((sq (ev C d ρ2)).bnd fun u => (ob (cmpD o2 r2.view u.1.view)).bnd fun r' => Out.ok (Ar.v (.bl r'), u.2)) F := q3
    refine one_rd st2 q3 fun r3 ρ3 u H3 S3 q4 st3 hS3 hH3 _ rc => ?_
    obtain ⟨r', e5, q5⟩ := Res.bnd q4
    exact cmp_fin (ob_ok e5) st3.sub (RepV.mono hS3 hH3 rb) (rc.viewV st3) (hF r' ρ3 H3 S3 q5 st3 (hS.trans hS3) (hH.trans hH3))
theorem n_chain (hX : XOk p C T X c) {o o2 : CmpOp} {a b d : IR} {l r r2 : Expr} {pos : Pos} (hm : lastMarks [o, o2] [r, r2] = false) (ha : PE X l (rdQ p C y a)) (hb : PE X r (rdQ p C y b)) (hd : PE X r2 (rdQ p C y d)) :
    PE X (.Compare l [o, o2] [r, r2] pos) (rdE p C y (.chain o o2 a b d)) :=
  PE.mono (pe_chain (op_cmp hX.units o) (op_cmp hX.units o2) ha hb hd hm) fun σ H Q ⟨S, ρ, st, q⟩ =>
    chain_in hX st q fun b ρ' H' S' f st' hS hH => FinQ.val (FinQ.sub (f : FinQ p y σ S H Q _) hS hH) st' rfl
theorem t_chain (hX : XOk p C T X c) {o o2 : CmpOp} {a b d : IR} {l r r2 : Expr} {pos : Pos} (hm : lastMarks [o, o2] [r, r2] = false) (ha : PE X l (rdQ p C y a)) (hb : PE X r (rdQ p C y b)) (hd : PE X r2 (rdQ p C y d)) :
    PT X (.Compare l [o, o2] [r, r2] pos) (rdT p C y (.chainT o o2 a b d)) :=
  PT.mono (pt_chain (op_cmp hX.units o) (op_cmp hX.units o2) ha hb hd hm) fun σ H Q ⟨S, ρ, st, q⟩ =>
    chain_in hX st q fun b ρ' H' S' f st' hS hH => by
      obtain ⟨b', e3, k⟩ := (show ∃ b', Ar.v (.bl b) = .v (.bl b') ∧ ∀ H' S', Stt p y S' σ H' ρ' → Sub S S' → Sub H H' → Q b' H' from f)
      cases e3
      exact ⟨b, rfl, k H' S' st' hS hH⟩
theorem n_notE {a : IR} {l : Expr} {pos : Pos} (ha : PE X l (rdQ p C y a)) : PE X (.UnaryOp .Not l pos) (rdE p C y (.notE a)) :=
  PE.mono (pe_not ha) fun σ H Q ⟨S, ρ, st, q⟩ => by
  refine one_rd (k := fun x => match x.1.view with | .bl b => Out.ok (Ar.v (.bl (!b)), x.2) | _ => .bad) st q fun r1 ρ1 v H1 S1 q1 st1 hS hH _ ra => ?_
  have rv := ra.viewV st1
  dsimp only at q1
  split at q1
  · rename_i b hb
    rw [hb] at rv
    cases (show v = _ from rv)
    exact ⟨b, rfl, FinQ.val (FinQ.sub (q1 : FinQ p y σ S H Q _) hS hH) st1 rfl⟩
  · exact q1.elim
theorem n_ife {t a b : IR} {te ae be : Expr} {pos : Pos} (ht : PT X te (rdT p C y t)) (ha : PE X ae (rdQ p C y a)) (hb : PE X be (rdQ p C y b)) : PE X (.IfExp te ae be pos) (rdE p C y (.ife t a b)) :=
  PE.mono (pe_ifExp ht ha hb) fun σ H Q ⟨S, ρ, st, q⟩ => by
  refine ⟨S, ρ, st, ?_⟩
  obtain ⟨⟨k, ρ1⟩, e1, q1⟩ := Res.bnd (x := ev C t ρ) q
  rw [e1]
  dsimp only at q1
  split at q1
  · rename_i kb
    refine ⟨kb, rfl, fun H1 S1 st1 hS hH => ?_⟩
    cases kb with
    | true =>
      simp only [if_true] at q1 ⊢
      refine ⟨S1, ρ1, st1, ?_⟩
      obtain ⟨z, e2, q2⟩ := Res.ok q1
      show Res (sq (ev C a ρ1)) _
      rw [e2]
      exact FinQ.sub (q2 : FinQ p y σ S H Q _) hS hH
    | false =>
      simp only [Bool.false_eq_true, if_false] at q1 ⊢
      refine ⟨S1, ρ1, st1, ?_⟩
      obtain ⟨z, e2, q2⟩ := Res.ok q1
      show Res (sq (ev C b ρ1)) _
      rw [e2]
      exact FinQ.sub (q2 : FinQ p y σ S H Q _) hS hH
  · exact q1.elim
theorem n_tup {es : IRs} {as : List Expr} {k : Nat} {pos : Pos} (h : PA X as (rdA p C y es)) : PE X (.Tuple as k pos) (rdE p C y (.tup es)) :=
  PE.mono (pe_tup h) fun σ H Q ⟨S, ρ, st, q⟩ => by
  refine ⟨S, ρ, st, ?_⟩
  obtain ⟨⟨rs, ρ1⟩, e1, q1⟩ := Res.bnd (x := evs C es ρ) q
  rw [e1]
  intro vs H1 S1 st1 hS hH ras
  dsimp only at q1
  split at q1
  · exact q1.elim
  · rename_i hb
    split at q1
    · rename_i hl
      refine ⟨by rw [← ras.length]; exact hl, FinQ.tup (FinQ.sub (q1 : FinQ p y σ S H Q _) hS hH) st1 (ras.vals (by simpa using hb))⟩
    · exact q1.elim
theorem n_lst {es : IRs} {as : List Expr} {pos : Pos} (h : PA X as (rdA p C y es)) : PE X (.List as pos) (rdE p C y (.lst es)) :=
  PE.mono (pe_lst h) fun σ H Q ⟨S, ρ, st, q⟩ => by
  refine ⟨S, ρ, st, ?_⟩
  obtain ⟨⟨rs, ρ1⟩, e1, q1⟩ := Res.bnd (x := evs C es ρ) q
  rw [e1]
  intro vs H1 S1 st1 hS hH ras
  dsimp only at q1
  split at q1
  · exact q1.elim
  · rename_i hb
    split at q1
    · rename_i hl
      refine ⟨by rw [← ras.length]; exact hl, FinQ.lst (FinQ.sub (q1 : FinQ p y σ S H Q _) hS hH) st1 (ras.vals (by simpa using hb))⟩
    · exact q1.elim
theorem n_ix (hK : X.K = p.K) {a i : IR} {l r : Expr} {pos : Pos} (hs : notSlice r = true) (ha : PE X l (rdQ p C y a)) (hb : PE X r (rdQ p C y i)) : PE X (.Subscript l r pos) (rdE p C y (.ix a i)) :=
  PE.mono (pe_ix ix_seq ha hb (plain_ix hs)) fun σ H Q ⟨S, ρ, st, q⟩ => by
  refine two_rd (k := fun x z => (ob (ixD x.view z.1.view)).bnd fun r => Out.ok (Ar.v r, z.2)) st q fun r1 r2 ρ2 v w H2 S2 q2 st2 hS hH ra rb _ _ => ?_
  obtain ⟨r, e1, q3⟩ := Res.bnd q2
  rw [hK]
  exact ix_fin (ob_ok e1) st2 ra rb fun u ru => FinQ.val (FinQ.sub (q3 : FinQ p y σ S H Q _) hS hH) st2 ru
def rdPart (p : Par) (C : Cxt) (y : Dy) (e : IR) (b : Bool) : TO := fun σ H Q => if b = true then Q none H else rdQ p C y e σ H fun v H1 => ∃ i, v = .int i ∧ Q (some i) H1
theorem po_of {e : IR} {l : Option Expr} (h : (match l with | none => e.isNon = true | some x => e.isNon = false ∧ PE X x (rdQ p C y e))) : PO X l (rdPart p C y e e.isNon) := by
  cases l with
  | none =>
    have h : e.isNon = true := h
    have hp := po_none (X := X)
    refine ⟨fun pins s σ H Q I q => hp.run pins s σ H Q I ?_⟩
    unfold rdPart at q
    rw [if_pos h] at q
    exact q
  | some x =>
    obtain ⟨h1, h2⟩ := (show e.isNon = false ∧ PE X x (rdQ p C y e) from h)
    have hp := po_some h2
    refine ⟨fun pins s σ H Q I q => hp.run pins s σ H Q I ?_⟩
    unfold rdPart at q
    rw [h1, if_neg Bool.false_ne_true] at q
    exact q
theorem part_in {e : IR} {σ : L2.St} {H : Hp} {ρ : En} {S : Hp} {β : Type} {k : Option (Option Int) → En → Out β} {F : β → Prop} {G : Option Int → Hp → Prop} (st : Stt p y S σ H ρ)
    (q : Res ((sq (ev C e ρ)).bnd fun x => k (partD e.isNon x.1.view) x.2) F) (hn : ∀ en, ¬ Res (k none en) F)
    (hG : ∀ o ρ1 H1 S1, Res (k (some o) ρ1) F → Stt p y S1 σ H1 ρ1 → Sub S S1 → Sub H H1 → G o H1) : rdPart p C y e e.isNon σ H G := by
  unfold rdPart
  cases hb : e.isNon with
  | true =>
    rw [if_pos rfl]
    cases e with
    | non => exact hG none ρ H S q st (Sub.refl _) (Sub.refl _)
    | _ => cases hb
  | false =>
    rw [if_neg Bool.false_ne_true]
    rw [hb] at q
    refine one_rd (k := fun x => k (partD false x.1.view) x.2) st q fun r ρ1 v H1 S1 q1 st1 hS hH s ra => ?_
    have rv := ra.viewV st1
    have q1 : Res (k (partD false r.view) ρ1) F := q1
    cases hv : r.view with
    | int i =>
      rw [hv] at q1 rv
      cases (show v = _ from rv)
      exact ⟨i, rfl, hG (some i) ρ1 H1 S1 q1 st1 hS hH⟩
    | _ =>
      rw [hv] at q1
      exact (hn ρ1 q1).elim
theorem n_slice (hK : X.K = p.K) {a lo hi : IR} {e : Expr} {l h : Option Expr} {pos p2 : Pos} (ha : PE X e (rdQ p C y a)) (hl : (match l with | none => lo.isNon = true | some x => lo.isNon = false ∧ PE X x (rdQ p C y lo)))
    (hh : (match h with | none => hi.isNon = true | some x => hi.isNon = false ∧ PE X x (rdQ p C y hi))) : PE X (.Subscript e (.Slice l h none p2) pos) (rdE p C y (.slice a lo hi)) :=
  PE.mono (pe_slice op_sl ha (po_of hl) (po_of hh)) fun σ H Q ⟨S, ρ, st, q⟩ => by
  have q : Res ((sq (ev C a ρ)).bnd fun x => (sq (ev C lo x.2)).bnd fun l => (sq (ev C hi l.2)).bnd fun h => (sliceD x.1.view (partD lo.isNon l.1.view) (partD hi.isNon h.1.view)).bnd fun r => .ok (r, h.2)) (FinQ p y σ S H Q) := q
  refine one_rd st q fun r1 ρ1 v H1 S1 q1 st1 hS hH s1 ra => ?_
  refine part_in (k := fun o en => (sq (ev C hi en)).bnd fun h => (sliceD r1.view o (partD hi.isNon h.1.view)).bnd fun r => .ok (r, h.2)) st1 q1 (fun en => ?_) fun o ρ2 H2 S2 q2 st2 hS2 hH2 => ?_
  · intro z
    obtain ⟨u, _, z⟩ := Res.bnd z
    exact z
  refine part_in (k := fun o' en => (sliceD r1.view (some o) o').bnd fun r => .ok (r, en)) st2 q2 (fun en z => z) fun o' ρ3 H3 S3 q3 st3 hS3 hH3 => ?_
  obtain ⟨r, e1, q4⟩ := Res.bnd q3
  rw [hK]
  have ra3 : RepA p y S3 σ H3 ρ3 r1 v := RepA.mono (hS2.trans hS3) (hH2.trans hH3) s1 ra
  exact sl_fin rfl rfl e1 st3 (ra3.viewV st3) (FinQ.sub (q4 : FinQ p y σ S H Q _) (hS.trans (hS2.trans hS3)) (hH.trans (hH2.trans hH3)))
end
end DS
namespace DS
open PySem PySem.Spec PyProof.Rows L2
section
variable {p : Par} {C : Cxt} {T : Tab} {X : Cx} {c : CC} {y : Dy}
/-! ### and, or -/
theorem n_and1 {e : IR} {a : Expr} {pos : Pos} (ha : PE X a (rdQ p C y e)) : PE X (.BoolOp .And [a] pos) (rdO p y (evAnd C (.cons e .nil))) := pe_one ha
theorem n_or1 {e : IR} {a : Expr} {pos : Pos} (ha : PE X a (rdQ p C y e)) : PE X (.BoolOp .Or [a] pos) (rdO p y (evOr C (.cons e .nil))) := pe_one ha
theorem n_and {e e' : IR} {es : IRs} {a b : Expr} {rest : List Expr} {pos : Pos} (ha : PE X a (rdQ p C y e)) (hb : PE X (.BoolOp .And (b :: rest) pos) (rdO p y (evAnd C (.cons e' es)))) :
    PE X (.BoolOp .And (a :: b :: rest) pos) (rdO p y (evAnd C (.cons e (.cons e' es)))) :=
  PE.mono (pe_and ha hb) fun σ H Q ⟨S, ρ, st, q⟩ => by
  refine one_rd (k := fun x => match x.1.view with | .bl b => if b = true then evAnd C (.cons e' es) x.2 else Out.ok (Ar.v (.bl false), x.2) | _ => .bad) st q fun r1 ρ1 v H1 S1 q1 st1 hS hH _ ra => ?_
  have rv := ra.viewV st1
  dsimp only at q1
  split at q1
  · rename_i b hb
    rw [hb] at rv
    cases (show v = _ from rv)
    refine ⟨b, rfl, ?_⟩
    cases b with
    | true =>
      simp only [if_true] at q1 ⊢
      refine ⟨S1, ρ1, st1, ?_⟩
      obtain ⟨z, e2, q2⟩ := Res.ok q1
      rw [e2]
      exact FinQ.sub (q2 : FinQ p y σ S H Q _) hS hH
    | false =>
      simp only [Bool.false_eq_true, if_false] at q1 ⊢
      exact FinQ.val (FinQ.sub (q1 : FinQ p y σ S H Q _) hS hH) st1 rfl
  · exact q1.elim
theorem n_or {e e' : IR} {es : IRs} {a b : Expr} {rest : List Expr} {pos : Pos} (ha : PE X a (rdQ p C y e)) (hb : PE X (.BoolOp .Or (b :: rest) pos) (rdO p y (evOr C (.cons e' es)))) :
    PE X (.BoolOp .Or (a :: b :: rest) pos) (rdO p y (evOr C (.cons e (.cons e' es)))) :=
  PE.mono (pe_or ha hb) fun σ H Q ⟨S, ρ, st, q⟩ => by
  refine one_rd (k := fun x => match x.1.view with | .bl b => if b = true then Out.ok (Ar.v (.bl true), x.2) else evOr C (.cons e' es) x.2 | _ => .bad) st q fun r1 ρ1 v H1 S1 q1 st1 hS hH _ ra => ?_
  have rv := ra.viewV st1
  dsimp only at q1
  split at q1
  · rename_i b hb
    rw [hb] at rv
    cases (show v = _ from rv)
    refine ⟨b, rfl, ?_⟩
    cases b with
    | true =>
      simp only [if_true] at q1 ⊢
      exact FinQ.val (FinQ.sub (q1 : FinQ p y σ S H Q _) hS hH) st1 rfl
    | false =>
      simp only [Bool.false_eq_true, if_false] at q1 ⊢
      refine ⟨S1, ρ1, st1, ?_⟩
      obtain ⟨z, e2, q2⟩ := Res.ok q1
      rw [e2]
      exact FinQ.sub (q2 : FinQ p y σ S H Q _) hS hH
  · exact q1.elim
/-! ### tests -/
theorem t_tru (hX : XOk p C T X c) {e : IR} {a : Expr} (hp : plainT a = true) (ha : PE X a (rdQ p C y e)) : PT X a (rdT p C y (.tru e)) :=
  PT.mono (pt_truth ha (plain_test hp X.env)) fun σ H Q ⟨S, ρ, st, q⟩ => by
  refine one_rd (k := fun x => (ob (truthD x.1.view)).bnd fun b => Out.ok (Ar.v (.bl b), x.2)) st q fun r1 ρ1 v H1 S1 q1 st1 hS hH _ ra => ?_
  obtain ⟨b, e1, q2⟩ := Res.bnd q1
  obtain ⟨b', e3, k⟩ := (show ∃ b', Ar.v (.bl b) = .v (.bl b') ∧ ∀ H' S', Stt p y S' σ H' ρ1 → Sub S S' → Sub H H' → Q b' H' from q2)
  cases e3
  refine ⟨b, ?_, k H1 S1 st1 hS hH⟩
  rw [hX.K]
  exact tru_fin (ob_ok e1) st1.sub (ra.viewV st1)
theorem rdO'.sub {f : En → Out (Ar × En)} {σ : L2.St} {H H1 : Hp} {S S1 : Hp} {ρ1 : En} {Q : Bool → Hp → Prop} (st1 : Stt p y S1 σ H1 ρ1) (hS : Sub S S1) (hH : Sub H H1)
    (q : Res (f ρ1) fun r => ∃ b, r.1 = .v (.bl b) ∧ ∀ H' S', Stt p y S' σ H' r.2 → Sub S S' → Sub H H' → Q b H') : rdO' p y f σ H1 Q := by
  refine ⟨S1, ρ1, st1, ?_⟩
  obtain ⟨z, e2, b, e3, k⟩ := Res.ok q
  rw [e2]
  exact ⟨b, e3, fun H' S' st' h1 h2 => k H' S' st' (hS.trans h1) (hH.trans h2)⟩
theorem t_not {e : IR} {a : Expr} {pos : Pos} (ha : PT X a (rdT p C y e)) : PT X (.UnaryOp .Not a pos) (rdT p C y (.notT e)) :=
  PT.mono (pt_not ha) fun σ H Q ⟨S, ρ, st, q⟩ => by
  refine ⟨S, ρ, st, ?_⟩
  obtain ⟨⟨k, ρ1⟩, e1, q1⟩ := Res.bnd (x := ev C e ρ) q
  rw [e1]
  dsimp only at q1
  split at q1
  · rename_i kb
    obtain ⟨b, e3, k⟩ := (show ∃ b, Ar.v (.bl (!kb)) = .v (.bl b) ∧ ∀ H' S', Stt p y S' σ H' ρ1 → Sub S S' → Sub H H' → Q b H' from q1)
    cases e3
    exact ⟨kb, rfl, k⟩
  · exact q1.elim
theorem t_and1 {e : IR} {a : Expr} {pos : Pos} (ha : PT X a (rdT p C y e)) : PW X (.BoolOp .And [a] pos) (rdO' p y (evAndT C (.cons e .nil))) :=
  PW.mono (pw_and1 ha) fun σ H Q ⟨S, ρ, st, q⟩ => by
  refine ⟨S, ρ, st, ?_⟩
  obtain ⟨⟨k, ρ1⟩, e1, q1⟩ := Res.bnd (x := ev C e ρ) q
  rw [e1]
  dsimp only at q1
  split at q1
  · rename_i kb
    cases kb with
    | true => exact q1
    | false => exact q1
  · exact q1.elim
theorem t_or1 {e : IR} {a : Expr} {pos : Pos} (ha : PT X a (rdT p C y e)) : PW X (.BoolOp .Or [a] pos) (rdO' p y (evOrT C (.cons e .nil))) :=
  PW.mono (pw_or1 ha) fun σ H Q ⟨S, ρ, st, q⟩ => by
  refine ⟨S, ρ, st, ?_⟩
  obtain ⟨⟨k, ρ1⟩, e1, q1⟩ := Res.bnd (x := ev C e ρ) q
  rw [e1]
  dsimp only at q1
  split at q1
  · rename_i kb
    cases kb with
    | true => exact q1
    | false => exact q1
  · exact q1.elim
theorem t_and {e : IR} {es : IRs} {a b : Expr} {rest : List Expr} {pos : Pos} (ha : PT X a (rdT p C y e)) (hb : PW X (.BoolOp .And (b :: rest) pos) (rdO' p y (evAndT C es))) :
    PW X (.BoolOp .And (a :: b :: rest) pos) (rdO' p y (evAndT C (.cons e es))) :=
  PW.mono (pw_and ha hb) fun σ H Q ⟨S, ρ, st, q⟩ => by
  refine ⟨S, ρ, st, ?_⟩
  obtain ⟨⟨k, ρ1⟩, e1, q1⟩ := Res.bnd (x := ev C e ρ) q
  rw [e1]
  dsimp only at q1
  split at q1
  · rename_i kb
    refine ⟨kb, rfl, fun H1 S1 st1 hS hH => ?_⟩
    cases kb with
    | true =>
      simp only [if_true] at q1 ⊢
      exact rdO'.sub st1 hS hH q1
    | false =>
      simp only [Bool.false_eq_true, if_false] at q1 ⊢
      obtain ⟨b, e3, k⟩ := (show ∃ b, Ar.v (.bl false) = .v (.bl b) ∧ ∀ H' S', Stt p y S' σ H' ρ1 → Sub S S' → Sub H H' → Q b H' from q1)
      cases e3
      exact k H1 S1 st1 hS hH
  · exact q1.elim
theorem t_or {e : IR} {es : IRs} {a b : Expr} {rest : List Expr} {pos : Pos} (ha : PT X a (rdT p C y e)) (hb : PW X (.BoolOp .Or (b :: rest) pos) (rdO' p y (evOrT C es))) :
    PW X (.BoolOp .Or (a :: b :: rest) pos) (rdO' p y (evOrT C (.cons e es))) :=
  PW.mono (pw_or ha hb) fun σ H Q ⟨S, ρ, st, q⟩ => by
  refine ⟨S, ρ, st, ?_⟩
  obtain ⟨⟨k, ρ1⟩, e1, q1⟩ := Res.bnd (x := ev C e ρ) q
  rw [e1]
  dsimp only at q1
  split at q1
  · rename_i kb
    refine ⟨kb, rfl, fun H1 S1 st1 hS hH => ?_⟩
    cases kb with
    | false =>
      simp only [Bool.false_eq_true, if_false] at q1 ⊢
      exact rdO'.sub st1 hS hH q1
    | true =>
      simp only [if_true] at q1 ⊢
      obtain ⟨b, e3, k⟩ := (show ∃ b, Ar.v (.bl true) = .v (.bl b) ∧ ∀ H' S', Stt p y S' σ H' ρ1 → Sub S S' → Sub H H' → Q b H' from q1)
      cases e3
      exact k H1 S1 st1 hS hH
  · exact q1.elim
/-! ### arguments -/
theorem a_nil : PA X [] (rdA p C y .nil) := PA.mono pa_nil fun σ H Q ⟨S, ρ, st, q⟩ => q [] H S st (Sub.refl _) (Sub.refl _) rfl
theorem a_consG {e : IR} {es : IRs} {σ : L2.St} {H : Hp} {Q : List V → Hp → Prop} (h : rdA p C y (.cons e es) σ H Q) : tCons (rdQ p C y e) (rdA p C y es) σ H Q := by
  obtain ⟨S, ρ, st, q⟩ := h
  refine one_rd (F := fun r => ∀ vs H' S', Stt p y S' σ H' r.2 → Sub S S' → Sub H H' → RepAs p y S' σ H' r.2 r.1 vs → Q vs H') (k := fun x => (evs C es x.2).bnd fun z => .ok (x.1 :: z.1, z.2)) st q fun r ρ1 v H1 S1 q1 st1 hS hH s ra => ?_
  refine ⟨S1, ρ1, st1, ?_⟩
  obtain ⟨⟨rs, ρ2⟩, e1, q2⟩ := Res.bnd (x := evs C es ρ1) q1
  rw [e1]
  intro vs H2 S2 st2 hS2 hH2 ras
  exact q2 (v :: vs) H2 S2 st2 (hS.trans hS2) (hH.trans hH2) ⟨v, vs, rfl, s, RepA.mono hS2 hH2 s ra, ras⟩
theorem a_cons {e : IR} {es : IRs} {a : Expr} {as : List Expr} (hs : notStar a = true) (ha : PE X a (rdQ p C y e)) (h : PA X as (rdA p C y es)) : PA X (a :: as) (rdA p C y (.cons e es)) :=
  PA.mono (pa_cons ha h (star_cons hs)) fun _ _ _ => a_consG
theorem PK.mono {kws : List Keyword} {t t' : TA} (h : PK X kws t) (k : ∀ σ H Q, t' σ H Q → t σ H Q) : PK X kws t' := ⟨fun po pins s σ H Q I q => h.run po pins s σ H Q I (k σ H Q q)⟩
theorem k_nil : PK X [] (rdA p C y .nil) := DS.PK.mono pk_nil fun σ H Q ⟨S, ρ, st, q⟩ => q [] H S st (Sub.refl _) (Sub.refl _) rfl
theorem k_cons {e : IR} {es : IRs} {a : Expr} {nm : Option Str} {kpos : Pos} {kws : List Keyword} (ha : PE X a (rdQ p C y e)) (h : PK X kws (rdA p C y es)) : PK X (⟨nm, a, kpos⟩ :: kws) (rdA p C y (.cons e es)) :=
  DS.PK.mono (pk_cons ha h) fun _ _ _ => a_consG

/-! ### calls -/
theorem args_rd {es : IRs} {σ : L2.St} {H : Hp} {Q : VK} {m : List Ar → Out Ar} {G : List V → Hp → Prop} {ρ : En} {S : Hp} (st : Stt p y S σ H ρ)
    (q : Res ((evs C es ρ).bnd fun z => (m z.1).bnd fun r => if z.1.any Ar.isB && !r.noL then .bad else .ok (r, z.2)) (FinQ p y σ S H Q))
    (hG : ∀ rs ρ1 vs H1 S1 r, m rs = .ok r → (rs.any Ar.isB && !r.noL) = false → Stt p y S1 σ H1 ρ1 → RepAs p y S1 σ H1 ρ1 rs vs → FinQ p y σ S1 H1 Q (r, ρ1) → G vs H1) : rdA p C y es σ H G := by
  refine ⟨S, ρ, st, ?_⟩
  obtain ⟨⟨rs, ρ1⟩, e1, q1⟩ := Res.bnd (x := evs C es ρ) q
  rw [e1]
  intro vs H1 S1 st1 hS hH ras
  obtain ⟨r, e2, q2⟩ := Res.bnd q1
  dsimp only at q2
  split at q2
  · exact q2.elim
  · rename_i hb
    exact hG rs ρ1 vs H1 S1 r e2 (by simpa using hb) st1 ras (FinQ.sub (q2 : FinQ p y σ S H Q _) hS hH)
theorem evs_len : ∀ {es : IRs} {ρ : En} {z : List Ar × En}, evs C es ρ = .ok z → z.1.length = es.len
  | .nil, ρ, z, h => by cases h; rfl
  | .cons e es, ρ, z, h => by
    have h : (sq (ev C e ρ)).bnd (fun x => (evs C es x.2).bnd fun w => .ok (x.1 :: w.1, w.2)) = .ok z := h
    cases q : sq (ev C e ρ) with
    | bad => rw [q] at h; cases h
    | exc c fs => rw [q] at h; cases h
    | ok x =>
      rw [q] at h
      have h : (evs C es x.2).bnd (fun w => .ok (x.1 :: w.1, w.2)) = Out.ok z := h
      cases q2 : evs C es x.2 with
      | bad => rw [q2] at h; cases h
      | exc c fs => rw [q2] at h; cases h
      | ok w =>
        rw [q2] at h
        cases h
        exact congrArg (· + 1) (evs_len q2)
theorem rdA_nil {σ : L2.St} {H : Hp} {G : List V → Hp → Prop} (h : rdA p C y .nil σ H G) : G [] H := by
  obtain ⟨S, ρ, st, q⟩ := h
  exact q [] H S st (Sub.refl _) (Sub.refl _) rfl
theorem n_call (hX : XOk p C T X c) {f : Nat} {x : Str} {es : IRs} {as : List Expr} {pos pos' : Pos} (hf : fnB T f x = true) (har : arB T f es.len = true) (hg : glB c x = true) (hst : as.all notStar = true) (hnil : as = [] → es = .nil) (h : PA X as (rdA p C y es)) :
    PE X (.Call (.Name x pos') as [] pos) (rdE p C y (.call f es)) := by
  obtain ⟨ps, hp, F⟩ := hX.fn hf
  obtain ⟨k, a, fd, Fo, hr, hm, hk, hb⟩ := F.ex
  obtain ⟨g1, g2, g3⟩ := hX.gl hg
  have hlen : es.len = ps.length := by
    unfold arB at har
    rw [hp] at har
    exact of_decide_eq_true har
  have core : ∀ σ H Q, rdE p C y (.call f es) σ H Q → tCall (spD p ps.length (C.fn f)) [] E0 (rdA p C y es) σ H Q := fun σ H Q ⟨S, ρ, st, q⟩ => by
    have q : Res ((evs C es ρ).bnd fun z => (C.fn f (z.1.map Ar.view)).bnd fun r => if z.1.any Ar.isB && !r.noL then .bad else .ok (r, z.2)) (FinQ p y σ S H Q) := q
    have q' : Res ((evs C es ρ).bnd fun z => ((fun rs => if rs.length = es.len then C.fn f (rs.map Ar.view) else .bad) z.1).bnd fun r => if z.1.any Ar.isB && !r.noL then .bad else .ok (r, z.2)) (FinQ p y σ S H Q) := by
      obtain ⟨z, e1, q1⟩ := Res.bnd q
      rw [e1]
      show Res ((if z.1.length = es.len then C.fn f (z.1.map Ar.view) else .bad).bnd _) _
      rw [if_pos (evs_len e1)]
      exact q1
    refine args_rd (m := fun rs => if rs.length = es.len then C.fn f (rs.map Ar.view) else .bad) (G := fun vs H1 => spD p ps.length (C.fn f) (vs ++ []) H1 Q E0) st q' fun rs ρ1 vs H1 S1 r e1 hB st1 ras fin => ?_
    rw [List.append_nil]
    split at e1
    · rename_i hl
      exact call_fin (E := E0) st1 (fun _ z => z) ras (by rw [List.length_map, hl, hlen]) e1 hB fin
    · cases e1
  cases as with
  | nil =>
    cases hnil rfl
    exact PE.mono (pe_call0 Fo hr g1 hm hk hb .nil pass0 g2) fun σ H Q q => rdA_nil (core σ H Q q)
  | cons e as =>
    rw [List.all_cons, Bool.and_eq_true] at hst
    exact PE.mono (pe_call Fo hr g1 hm hk hb .nil pass0 h g2 (star_cons hst.1) (star_any hst.2)) core
theorem kw_all {env : Env} {pos : Pos} : ∀ {kws : List Keyword} {ks : List Str}, kwNames kws = some ks → (backToKw pos (keywordEach kws env)).all (·.1.isSome) = true ∧ (backToKw pos (keywordEach kws env)).filterMap (·.1) = ks ∧ (backToKw pos (keywordEach kws env)).any (·.1.isNone) = false
  | [], ks, h => by cases h; exact ⟨rfl, rfl, rfl⟩
  | ⟨some n, v, kp⟩ :: r, ks, h => by
    simp only [kwNames, Option.map_eq_some_iff] at h
    obtain ⟨ks', h1, h2⟩ := h
    subst h2
    obtain ⟨a1, a2, a3⟩ := kw_all (env := env) (pos := pos) h1
    refine ⟨?_, ?_, ?_⟩
    · show (true && (backToKw pos (keywordEach r env)).all (·.1.isSome)) = true
      rw [a1]
      rfl
    · show n :: (backToKw pos (keywordEach r env)).filterMap (·.1) = n :: ks'
      rw [a2]
    · show (false || (backToKw pos (keywordEach r env)).any (·.1.isNone)) = false
      rw [a3]
      rfl
  | ⟨none, v, kp⟩ :: r, ks, h => by simp [kwNames] at h
theorem reps_perm {S' : Hp} {ds : List D} {vs : List V} (r : Reps p S' ds vs) : ∀ (perm : List Nat), Reps p S' (perm.map fun j => ds.getD j .non) (perm.map fun j => vs.getD j .non)
  | [] => rfl
  | j :: js => by
    refine ⟨vs.getD j .non, _, rfl, ?_, reps_perm r js⟩
    show Rep p S' (ds.getD j .non) (vs.getD j .non)
    rw [List.getD_eq_getElem?_getD, List.getD_eq_getElem?_getD]
    cases q : ds[j]? with
    | some d =>
      obtain ⟨v, h1, h2⟩ := r.get q
      rw [h1]
      exact h2
    | none =>
      have : vs[j]? = none := by
        rw [List.getElem?_eq_none_iff] at q ⊢
        rw [← r.length]
        exact q
      rw [this]
      exact rfl
theorem n_callK (hX : XOk p C T X c) {f : Nat} {x : Str} {es : IRs} {kws : List Keyword} {ks : List Str} {perm : List Nat} {pos pos' : Pos} (hf : fnB T f x = true) (hg : glB c x = true) (hks : kwNames kws = some ks) (hkw : (f, ks, perm) ∈ T.kws) (hne : kws ≠ [])
    (h : PK X kws (rdA p C y es)) (hlk : es.len = ks.length) : PE X (.Call (.Name x pos') [] kws pos) (rdE p C y (.callK f perm es)) := by
  obtain ⟨ps, hp, _⟩ := hX.fn hf
  have KW := hX.kws f ks perm x ps hkw hp
  obtain ⟨k, a, fd, Fo, hr, hm, hk, hb⟩ := KW.ex
  obtain ⟨g1, g2, g3⟩ := hX.gl hg
  obtain ⟨w1, w2, w3⟩ := kw_all (env := X.env) (pos := pos) hks
  refine ⟨fun pins s σ H Q I ⟨S, ρ, st, q⟩ => ?_⟩
  refine wpAny_Call_Name_kw (ld_glob I g1 hm ?_ g2)
  have q : Res ((evs C es ρ).bnd fun z => (C.fn f (perm.map fun j => (z.1.map Ar.view).getD j .non)).bnd fun r => if z.1.any Ar.isB && !r.noL then .bad else .ok (r, z.2)) (FinQ p y σ S H Q) := q
  have q' : Res ((evs C es ρ).bnd fun z => ((fun rs : List Ar => if rs.length = es.len then C.fn f (perm.map fun j => (rs.map Ar.view).getD j .non) else .bad) z.1).bnd fun r => if z.1.any Ar.isB && !r.noL then .bad else .ok (r, z.2)) (FinQ p y σ S H Q) := by
    obtain ⟨z, e1, q1⟩ := Res.bnd q
    rw [e1]
    show Res ((if z.1.length = es.len then C.fn f (perm.map fun j => (z.1.map Ar.view).getD j .non) else .bad).bnd _) _
    rw [if_pos (evs_len e1)]
    exact q1
  have hall : rdA p C y es σ H fun zs H2 => spD p ps.length (C.fn f) (gPermV ks ps.length perm [] zs) H2 Q E0 := by
    refine args_rd (m := fun rs => if rs.length = es.len then C.fn f (perm.map fun j => (rs.map Ar.view).getD j .non) else .bad) (G := fun zs H2 => spD p ps.length (C.fn f) (gPermV ks ps.length perm [] zs) H2 Q E0) st q' fun rs ρ1 vs H1 S1 r e1 hB st1 ras fin => ?_
    split at e1
    · rename_i hl
      unfold gPermV
      rw [if_pos ⟨rfl, by rw [← ras.length, hl, hlk]⟩]
      exact call_fin (E := E0) st1 (fun _ z => reps_perm z perm) ras (by rw [List.length_map]; exact KW.len) e1 hB fin
    · cases e1
  refine PySem.W.callWith_KW0 (h₀ := X.base) I.ok.mod.kin hk w1 (thn (h.run pos pins s σ H _ I hall) fun ws s2 ⟨zs, H2, I2, rz, q2⟩ => ⟨I2.kIn, ?_⟩) (by show (false || _) = false; rw [w3]; rfl)
  rw [w2]
  exact run_fnk Fo hr hb pass0 I2 .nil rz q2

/-! ### built-ins -/
theorem blt_mg (hX : XOk p C T X c) (b : Blt) : X.mg (bltNm b) = none := hX.blt _ (blt_in b)
theorem n_blt (hX : XOk p C T X c) {b : Blt} {es : IRs} {e : Expr} {as : List Expr} {pos pos' : Pos} (hi : ∀ T, b ≠ .isi T) (hg : glB c (bltNm b) = true) (hst : (e :: as).all notStar = true) (h : PA X (e :: as) (rdA p C y es)) :
    PE X (.Call (.Name (bltNm b) pos') (e :: as) [] pos) (rdE p C y (.blt b es)) := by
  obtain ⟨g1, g2, g3⟩ := hX.gl hg
  rw [List.all_cons, Bool.and_eq_true] at hst
  have core : ∀ σ H Q, rdE p C y (.blt b es) σ H Q → tCB (rBlt X.K b) (rdA p C y es) σ H Q := fun σ H Q ⟨S, ρ, st, q⟩ => by
    refine ⟨S, ρ, st, ?_⟩
    obtain ⟨⟨rs, ρ1⟩, e1, q1⟩ := Res.bnd (x := evs C es ρ) q
    rw [e1]
    intro vs H1 S1 st1 hS hH ras
    obtain ⟨r, e2, q2⟩ := Res.bnd q1
    rw [hX.K]
    exact blt_fin hi e2 st1 (ras.views st1) (FinQ.sub (q2 : FinQ p y σ S H Q _) hS hH)
  have ho := op_blt (X := X) hX.calm b
  have hbt := boot_blt b
  have hm := blt_mg hX b
  cases hv : bltVal b with
  | builtin id =>
    rw [hv] at ho hbt
    exact PE.mono (pe_callB ho g1 hm hbt h g3 g2 (star_cons hst.1) (star_any hst.2)) core
  | type t =>
    rw [hv] at ho hbt
    exact PE.mono (pe_callTy ho g1 hm hbt h g3 g2 (star_cons hst.1) (star_any hst.2)) core
  | _ => cases b <;> cases hv
theorem n_isi (hX : XOk p C T X c) {n : String} {t : Str} {a : IR} {e : Expr} {pos pos' pos2 : Pos} (hg : glB c ("isinstance" : Str) = true) (hgt : glB c t = true) (ht : (n, t) ∈ tyTab) (hse : notStar e = true) (ha : PE X e (rdQ p C y a)) :
    PE X (.Call (.Name "isinstance" pos') [e, .Name t pos2] [] pos) (rdE p C y (.blt (.isi (.ty n)) (.cons a .nil))) := by
  obtain ⟨g1, g2, g3⟩ := hX.gl hg
  obtain ⟨h1, h2, h3⟩ := hX.gl hgt
  obtain ⟨b1, b2⟩ := ty_boot ht
  have hn : PE X (.Name t pos2) (tC (.ty n)) := pe_bltn h1 (hX.blt _ b2) b1 rfl h3 h2
  have hpa : PA X [e, .Name t pos2] (tCons (rdQ p C y a) (tCons (tC (.ty n)) tNil)) := pa_cons ha (pa_cons hn pa_nil (star_cons rfl)) (star_cons hse)
  have hm : X.mg ("isinstance" : Str) = none := blt_mg hX (.isi (.ty n))
  refine PE.mono (pe_callB (id := "isinstance") call_isi g1 hm (boot_blt (.isi (.ty n))) hpa g3 g2 (star_cons hse) (star_any rfl)) fun σ H Q ⟨S, ρ, st, q⟩ => ?_
  refine one_rd (k := fun x => ((evs C .nil x.2).bnd fun z => .ok (x.1 :: z.1, z.2)).bnd fun w => (bltD (.isi (.ty n)) (w.1.map Ar.view)).bnd fun r => Out.ok (r, w.2)) st (by
    have q : Res ((evs C (.cons a .nil) ρ).bnd fun w => (bltD (.isi (.ty n)) (w.1.map Ar.view)).bnd fun r => Out.ok (r, w.2)) (FinQ p y σ S H Q) := q
    obtain ⟨w, e1, q1⟩ := Res.bnd q
    have e1 : (sq (ev C a ρ)).bnd (fun x => (evs C .nil x.2).bnd fun z => .ok (x.1 :: z.1, z.2)) = .ok w := e1
    cases q2 : sq (ev C a ρ) with
    | bad => rw [q2] at e1; cases e1
    | exc c fs => rw [q2] at e1; cases e1
    | ok x =>
      rw [q2] at e1
      have e1 : Out.ok ([x.1], x.2) = Out.ok w := e1
      cases e1
      exact q1) fun r1 ρ1 v H1 S1 q1 st1 hS hH _ ra => ?_
  have q1 : Res ((bltD (.isi (.ty n)) [r1.view]).bnd fun r => Out.ok (r, ρ1)) (FinQ p y σ S H Q) := q1
  obtain ⟨r, e2, q2⟩ := Res.bnd q1
  have e2 : (match isiD r1.view (.ty n) with | some b => Out.ok (Ar.v (.bl b)) | none => .bad) = .ok r := e2
  split at e2
  · rename_i b hb
    cases e2
    obtain ⟨n', e3, q3⟩ := isi_fin (p := p) (Q := Q) hb st1.sub (ra.viewV st1) (FinQ.val (FinQ.sub (q2 : FinQ p y σ S H Q _) hS hH) st1 rfl)
    cases e3
    rw [hX.K]
    exact q3
  · cases e2
/-- sorted(x, reverse=True) -/
theorem n_sortRev (hX : XOk p C T X c) {a : IR} {e : Expr} {pos pos' kp ep : Pos} {k : Nat} (hg : glB c ("sorted" : Str) = true) (hse : notStar e = true) (ha : PE X e (rdQ p C y a)) :
    PE X (.Call (.Name "sorted" pos') [e] [⟨some "reverse", .Constant (.bool true) k ep, kp⟩] pos) (rdE p C y (.sortRev a)) := by
  obtain ⟨g1, g2, g3⟩ := hX.gl hg
  have hpa : PA X [e] (tCons (rdQ p C y a) tNil) := pa_cons ha pa_nil (star_cons hse)
  have hm : X.mg ("sorted" : Str) = none := blt_mg hX .sorted
  have es : starEach [e] X.env = [(false, eval e X.env)] := star_cons hse
  refine PE.mono (pe_callBK (cr_sortedRev (b := true)) g1 hm (boot_blt .sorted) hpa (pk_cons pe_bl pk_nil) g3 g2 (by rw [es]; rfl) (by rw [es]; rfl)) fun σ H Q ⟨S, ρ, st, q⟩ => ?_
  refine one_rd (k := fun x => match x.1.view with | .lst ys => (match ints? ys with | some ns => Out.ok (Ar.fr ((isort ns).reverse.map .int), x.2) | none => .bad) | _ => .bad) st q fun r1 ρ1 v H1 S1 q1 st1 hS hH _ ra => ?_
  have rv := ra.viewV st1
  dsimp only at q1
  split at q1
  · rename_i ys hy
    split at q1
    · rename_i ns hn
      rw [hy] at rv
      obtain ⟨l, us, e1, q0, rr⟩ := rv.lst'
      rw [ints?_eq hn] at rr
      rw [Reps.ints.mp rr] at q0
      subst e1
      refine ⟨l, ns, rfl, rfl, .inl q0, fun ms a hp ho hn' => ?_⟩
      rw [isort_rev hp ho]
      exact FinQ.lst (FinQ.sub (q1 : FinQ p y σ S H Q _) hS hH) st1 (Reps.ints.mpr rfl) a hn'
    · exact q1.elim
  · exact q1.elim
/-- sorted(x, key=f) -/
theorem n_sortKey (hX : XOk p C T X c) {f : Nat} {a : IR} {e : Expr} {fx : Str} {pos pos' kp ep : Pos} (hg : glB c ("sorted" : Str) = true) (hse : notStar e = true) (hf : fnB T f fx = true) (hgf : glB c fx = true) (har : arB T f 1 = true) (hk : f < T.keys) (ha : PE X e (rdQ p C y a)) :
    PE X (.Call (.Name "sorted" pos') [e] [⟨some "key", .Name fx ep, kp⟩] pos) (rdE p C y (.sortKey f a)) := by
  obtain ⟨g1, g2, g3⟩ := hX.gl hg
  obtain ⟨f1, f2, f3⟩ := hX.gl hgf
  obtain ⟨ps, hps, _⟩ := hX.fn hf
  obtain ⟨k, fa, fd, F, hr, hm0, hkp, hb⟩ := (hX.srt f fx ps hk hps).ex
  have hl1 : ps.length = 1 := by
    unfold arB at har
    rw [hps] at har
    exact (of_decide_eq_true har).symm
  rw [hl1] at F
  have hpa : PA X [e] (tCons (rdQ p C y a) tNil) := pa_cons ha pa_nil (star_cons hse)
  have hm : X.mg ("sorted" : Str) = none := blt_mg hX .sorted
  have es : starEach [e] X.env = [(false, eval e X.env)] := star_cons hse
  have hfn : PE X (.Name fx ep) (tC (.ref fa)) := pe_glob f1 hm0 rfl f2
  refine PE.mono (pe_callBK (cr_sortK (p := p) F hr hb) g1 hm (boot_blt .sorted) hpa (pk_cons hfn pk_nil) g3 g2 (by rw [es]; rfl) (by rw [es]; rfl)) fun σ H Q ⟨S, ρ, st, q⟩ => ?_
  refine one_rd (k := fun x => match x.1.view with | .lst ys => (keysD (C.fn f) ys).bnd fun ks => Out.ok (Ar.fr ((ksort (ks.zip ys)).map (·.2)), x.2) | _ => .bad) st q fun r1 ρ1 v H1 S1 q1 st1 hS hH _ ra => ?_
  have rv := ra.viewV st1
  dsimp only at q1
  split at q1
  · rename_i ys hy
    obtain ⟨ks, hks, q2⟩ := Res.bnd q1
    rw [hy] at rv
    obtain ⟨l, us, e1, q0, rr⟩ := rv.lst'
    subst e1
    refine ⟨l, S1, ys, us, ks, rfl, rfl, .inl q0, st1.sub, rr, hks, fun H' l' hsub hn hl => ?_⟩
    have stn := st1.grow (Sub.refl S1) hsub (st1.sub.trans hsub) fun _ _ => rfl
    refine (FinQ.sub (q2 : FinQ p y σ S H Q _) hS hH) (.ref l') H' S1 stn (Sub.refl _) hsub ?_
    have n1 := st1.none0 hn
    refine ⟨l', _, rfl, hl, ?_, ?_, (ksort_rel (Z2.reps rr)).rout, fun i s e2 ho z => ?_⟩
    · cases z : S1 l' with
      | none => rfl
      | some o => rw [st1.sub _ _ z] at hn; cases hn
    · cases z : y.H0 l' with
      | none => rfl
      | some o => rw [st1.same _ _ z] at hn; cases hn
    · have q := st1.sl i s e2
      cases s with
      | own ds' =>
        obtain ⟨l2, us', e3, e4, _⟩ := q
        rw [e3] at z
        cases z
        rw [hn] at e4
        cases e4
      | dic ds' =>
        obtain ⟨l2, us', e3, e4, _⟩ := q
        rw [e3] at z
        cases z
        rw [hn] at e4
        cases e4
      | _ => cases ho
  · exact q1.elim
end
end DS
/-! ## Expressions: the check is sound -/
namespace DS
open PySem PySem.Spec PyProof.Rows L2
section
variable {p : Par} {C : Cxt} {T : Tab}
theorem blkC_eq {N : List Str} {sc sc' scope : Scope} {own : List (Str × Nat)} (h : sc.names = sc'.names) : blkC N sc scope own = blkC N sc' scope own := by
  unfold blkC
  rw [h]
theorem fold_seq {iter : Expr} {env : Env} {T : Tab} {c : CC} {ir : IR} (h : okE T c ir iter = true) : ∀ x, foldedSetIterable iter env x = pure x := by
  intro x
  cases iter with
  | Set es k pos => cases ir <;> (simp only [okE] at h; cases h)
  | _ => rfl
theorem fold_call {f : Expr} {as : List Expr} {ks : List Keyword} {pos : Pos} {env : Env} : ∀ x, foldedSetIterable (.Call f as ks pos) env x = pure x := fun _ => rfl
/-- what is walked, with its arguments checked -/
theorem s_iter {X : Cx} {c : CC} (y : Dy) (hX : XOk p C T X c) {k : ItK} {es : IRs} {tg iter : Expr} {as : List Expr} (hi : itArgs c k tg iter = some as) (hes : okEs T c es as = true)
    (hpa : PA X as (rdA p C y es)) (hpe : ∀ (e : IR) (a : Expr), es = .cons e .nil → as = [a] → PE X a (rdQ p C y e)) : PI X tg iter (rdI p C y k es) ∧ ∀ x, foldedSetIterable iter X.env x = pure x := by
  have hst := okEs_star hes
  cases k with
  | seq =>
    cases hi
    cases es with
    | nil => simp [okEs] at hes
    | cons e es =>
      cases es with
      | nil =>
        refine ⟨pi_seq hX.K (hpe e iter rfl rfl), ?_⟩
        simp only [okEs, Bool.and_eq_true] at hes
        exact fold_seq hes.1.1
      | cons e' es => simp [okEs] at hes
  | range1 =>
    simp only [itArgs] at hi
    split at hi
    · split at hi
      · rename_i hc
        cases hi
        simp only [Bool.and_eq_true, decide_eq_true_eq] at hc
        obtain ⟨hc1, hc2⟩ := hc
        subst hc2
        rw [List.all_cons, Bool.and_eq_true] at hst
        exact ⟨pi_rng1 (hX.gl hc1).1 (hX.blt _ (by decide +kernel)) (star_cons hst.1) hpa, fold_call⟩
      · cases hi
    · cases hi
  | range2 =>
    simp only [itArgs] at hi
    split at hi
    · split at hi
      · rename_i hc
        cases hi
        simp only [Bool.and_eq_true, decide_eq_true_eq] at hc
        obtain ⟨hc1, hc2⟩ := hc
        subst hc2
        rw [List.all_cons, List.all_cons, Bool.and_eq_true, Bool.and_eq_true] at hst
        exact ⟨pi_rng2 (hX.gl hc1).1 (hX.blt _ (by decide +kernel)) (by rw [star_cons hst.1, star_cons hst.2.1]; rfl) (star_cons hst.2.1) hpa, fold_call⟩
      · cases hi
    · cases hi
  | enum =>
    simp only [itArgs] at hi
    split at hi
    · split at hi
      · split at hi
        · rename_i hc
          cases hi
          simp only [Bool.and_eq_true, decide_eq_true_eq] at hc
          obtain ⟨hc1, hc2⟩ := hc
          subst hc2
          rw [List.all_cons, Bool.and_eq_true] at hst
          exact ⟨pi_enumA hX.K (hX.gl hc1).1 (hX.blt _ (by decide +kernel)) (star_cons hst.1) hpa, fold_call⟩
        · cases hi
      · cases hi
    · cases hi
  | zip => cases hi

theorem names_each : ∀ {is : List Nat} {es : List Expr} {c : CC} {env : Env}, okNs c is es = true → (assignEach es env).length = is.length ∧ (assignEach es env).findIdx? (·.1) = none
  | [], [], _, _, _ => ⟨rfl, rfl⟩
  | [], _ :: _, _, _, h => by simp [okNs] at h
  | i :: is, [], _, _, h => by simp [okNs] at h
  | i :: is, e :: es, c, env, h => by
    cases e with
    | Name x pos =>
      simp only [okNs, Bool.and_eq_true] at h
      obtain ⟨h1, h2⟩ := names_each (env := env) h.2
      have e1 : assignEach (.Name x pos :: es) env = (false, assign (.Name x pos) env) :: assignEach es env := rfl
      refine ⟨by rw [e1, List.length_cons, List.length_cons, h1], ?_⟩
      rw [e1, List.findIdx?_cons, h2]
      rfl
    | _ => simp [okNs] at h
theorem pgs_names {X : Cx} {c : CC} (hX : XOk p C T X c) : ∀ {is : List Nat} {es : List Expr}, okNs c is es = true → PGs X es (gNames is)
  | [], [], _ => pgs_nil
  | [], _ :: _, h => by simp [okNs] at h
  | i :: is, [], h => by simp [okNs] at h
  | i :: is, e :: es, h => by
    cases e with
    | Name x pos =>
      simp only [okNs, Bool.and_eq_true] at h
      obtain ⟨h1, h2, h3⟩ := hX.st h.1
      exact pgs_cons (pg_name (by rw [hX.N]; exact hX.nd) h1 h2 h3) (pgs_names hX h.2)
    | _ => simp [okNs] at h
theorem pg_tg {X : Cx} {c : CC} (hX : XOk p C T X c) {t : Tg} {e : Expr} (h : okTg c t e = true) : PG X e (gOf p.K t) := by
  cases t with
  | nm i =>
    cases e with
    | Name x pos =>
      obtain ⟨h1, h2, h3⟩ := hX.st (show stB c i x = true from h)
      exact pg_name (by rw [hX.N]; exact hX.nd) h1 h2 h3
    | _ => cases h
  | tp is =>
    cases e with
    | Tuple es k pos =>
      have h : okNs c is es = true := h
      obtain ⟨h1, h2⟩ := names_each (env := X.env) h
      have := pg_tup (k := k) (pos := pos) hX.calm (pgs_names hX h) h1 h2
      rw [hX.K] at this
      exact this
    | _ => cases h
theorem kw_len : ∀ {kws : List Keyword} {ks : List Str}, kwNames kws = some ks → (kwVals kws).length = ks.length
  | [], ks, h => by cases h; rfl
  | ⟨some n, v, kp⟩ :: r, ks, h => by
    simp only [kwNames, Option.map_eq_some_iff] at h
    obtain ⟨ks', h1, h2⟩ := h
    subst h2
    exact congrArg (· + 1) (kw_len h1)
  | ⟨none, v, kp⟩ :: r, ks, h => by simp [kwNames] at h
theorem okEs_len {c : CC} : ∀ {es : IRs} {as : List Expr}, okEs T c es as = true → es.len = as.length
  | .nil, [], _ => rfl
  | .nil, _ :: _, h => by simp [okEs] at h
  | .cons _ _, [], h => by simp [okEs] at h
  | .cons a es, e :: as, h => by
    simp only [okEs, Bool.and_eq_true] at h
    exact congrArg (· + 1) (okEs_len h.2)
mutual
theorem sE : ∀ (ir : IR) {X : Cx} {c : CC} (y : Dy) {e : Expr}, XOk p C T X c → okE T c ir e = true → PE X e (rdE p C y ir)
  | .slot i, X, c, y, e, hX, h => by
    simp only [okE] at h
    split at h
    · obtain ⟨h1, h2, h3, h4⟩ := hX.vis h
      exact n_slot (pe_var h1 h2 h3 h4)
    · cases h
  | .move i, X, c, y, e, hX, h => by
    simp only [okE] at h
    split at h
    · obtain ⟨h1, h2, h3, h4⟩ := hX.vis h
      exact n_move (pe_var h1 h2 h3 h4)
    · cases h
  | .bor i, X, c, y, e, hX, h => by
    simp only [okE] at h
    split at h
    · obtain ⟨h1, h2, h3, h4⟩ := hX.vis h
      exact n_bor (pe_var h1 h2 h3 h4)
    · cases h
  | .int n, X, c, y, e, hX, h => by
    simp only [okE] at h
    split at h
    · obtain rfl := of_decide_eq_true h
      exact n_const pe_int (fun _ => rfl) fun _ => rfl
    · cases h
  | .bl b, X, c, y, e, hX, h => by
    simp only [okE] at h
    split at h
    · obtain rfl := eq_of_beq h
      exact n_const pe_bl (fun _ => rfl) fun _ => rfl
    · cases h
  | .non, X, c, y, e, hX, h => by
    simp only [okE] at h
    split at h
    · exact n_const pe_non (fun _ => rfl) fun _ => rfl
    · cases h
  | .str s, X, c, y, e, hX, h => by
    simp only [okE] at h
    split at h
    · obtain rfl := of_decide_eq_true h
      exact n_const pe_str (fun _ => rfl) fun _ => rfl
    · cases h
  | .bin o a b, X, c, y, e, hX, h => by
    simp only [okE] at h
    split at h
    · simp only [Bool.and_eq_true, decide_eq_true_eq] at h
      obtain ⟨⟨rfl, h1⟩, h2⟩ := h
      exact n_bin hX.K (seal_of (sE a y hX h1)) (seal_of (sE b y hX h2))
    · cases h
  | .un o a, X, c, y, e, hX, h => by
    simp only [okE] at h
    split at h
    · simp only [Bool.and_eq_true, decide_eq_true_eq] at h
      obtain ⟨rfl, h1⟩ := h
      exact n_un (seal_of (sE a y hX h1))
    · cases h
  | .cmp o a b, X, c, y, e, hX, h => by
    simp only [okE] at h
    split at h
    · simp only [Bool.and_eq_true, decide_eq_true_eq, Bool.not_eq_true'] at h
      obtain ⟨⟨⟨rfl, h1⟩, h2⟩, h3⟩ := h
      exact n_cmp hX h3 (seal_of (sE a y hX h1)) (seal_of (sE b y hX h2))
    · cases h
  | .chain o o2 a b d, X, c, y, e, hX, h => by
    simp only [okE] at h
    split at h
    · simp only [Bool.and_eq_true, decide_eq_true_eq, Bool.not_eq_true'] at h
      obtain ⟨⟨⟨⟨⟨rfl, rfl⟩, h1⟩, h2⟩, h4⟩, h3⟩ := h
      exact n_chain hX h3 (seal_of (sE a y hX h1)) (seal_of (sE b y hX h2)) (seal_of (sE d y hX h4))
    · cases h
  | .andE es, X, c, y, e, hX, h => by
    simp only [okE] at h
    split at h
    · simp only [Bool.and_eq_true, Bool.not_eq_true'] at h
      exact sAnd es y hX h.1 h.2
    · cases h
  | .orE es, X, c, y, e, hX, h => by
    simp only [okE] at h
    split at h
    · simp only [Bool.and_eq_true, Bool.not_eq_true'] at h
      exact sOr es y hX h.1 h.2
    · cases h
  | .notE a, X, c, y, e, hX, h => by
    simp only [okE] at h
    split at h
    · exact n_notE (seal_of (sE a y hX h))
    · cases h
  | .ife t a b, X, c, y, e, hX, h => by
    simp only [okE] at h
    split at h
    · simp only [Bool.and_eq_true] at h
      obtain ⟨⟨h1, h2⟩, h3⟩ := h
      exact n_ife (sT t y hX h1) (seal_of (sE a y hX h2)) (seal_of (sE b y hX h3))
    · cases h
  | .tup es, X, c, y, e, hX, h => by
    simp only [okE] at h
    split at h
    · exact n_tup (sEs es y hX h)
    · cases h
  | .lst es, X, c, y, e, hX, h => by
    simp only [okE] at h
    split at h
    · exact n_lst (sEs es y hX h)
    · cases h
  | .ix a i, X, c, y, e, hX, h => by
    simp only [okE] at h
    split at h
    · simp only [Bool.and_eq_true] at h
      obtain ⟨⟨h1, h2⟩, h3⟩ := h
      exact n_ix hX.K h3 (seal_of (sE a y hX h1)) (seal_of (sE i y hX h2))
    · cases h
  | .slice a lo hi, X, c, y, e, hX, h => by
    simp only [okE] at h
    split at h
    · rename_i v l u _ _
      simp only [Bool.and_eq_true] at h
      obtain ⟨⟨h1, h2⟩, h3⟩ := h
      refine n_slice hX.K (seal_of (sE a y hX h1)) ?_ ?_
      · cases l with
        | none => exact h2
        | some x =>
          simp only [Bool.and_eq_true, Bool.not_eq_true'] at h2
          exact ⟨h2.2, seal_of (sE lo y hX h2.1)⟩
      · cases u with
        | none => exact h3
        | some x =>
          simp only [Bool.and_eq_true, Bool.not_eq_true'] at h3
          exact ⟨h3.2, seal_of (sE hi y hX h3.1)⟩
    · cases h
  | .call f es, X, c, y, e, hX, h => by
    simp only [okE] at h
    split at h
    · simp only [Bool.and_eq_true] at h
      obtain ⟨⟨⟨h1, h2⟩, h3⟩, h4⟩ := h
      refine n_call hX h1 h4 h2 (okEs_star h3) (fun hn => ?_) (sEs es y hX h3)
      subst hn
      cases es with
      | nil => rfl
      | cons _ _ => simp [okEs] at h3
    · cases h
  | .callK f perm es, X, c, y, e, hX, h => by
    simp only [okE] at h
    split at h
    · simp only [Bool.and_eq_true, Bool.not_eq_true'] at h
      obtain ⟨⟨⟨⟨h1, h2⟩, h3⟩, h4⟩, h5⟩ := h
      split at h5
      · rename_i ks hks
        refine n_callK hX h1 h2 hks (of_decide_eq_true h5) (fun z => by subst z; cases h4) (sKs es y hX h3) ?_
        rw [okEs_len h3, kw_len hks]
      · cases h5
    · cases h
  | .blt b es, X, c, y, e, hX, h => by
    simp only [okE] at h
    split at h
    · split at h
      · split at h
        · rename_i a t pos2
          simp only [Bool.and_eq_true, decide_eq_true_eq] at h
          obtain ⟨⟨⟨⟨rfl, h1⟩, h2⟩, h3⟩, h4⟩ := h
          cases es with
          | nil => simp [okEs] at h4
          | cons a' es =>
            cases es with
            | nil =>
              have h5 : okE T c a' a && notStar a && okEs T c .nil [] = true := h4
              simp only [Bool.and_eq_true] at h5
              exact n_isi hX h1 h2 h3 h5.1.2 (seal_of (sE a' y hX h5.1.1))
            | cons _ _ => simp [okEs] at h4
        · cases h
      · cases h
      · rename_i hn1 hn2
        simp only [Bool.and_eq_true, decide_eq_true_eq, Bool.not_eq_true'] at h
        obtain ⟨⟨⟨rfl, h1⟩, h2⟩, h3⟩ := h
        rename_i as _ _
        cases as with
        | nil => cases h3
        | cons e as =>
          refine n_blt hX (fun T => ?_) h1 (okEs_star h2) (sEs es y hX h2)
          cases T with
          | ty n => exact hn1 n
          | own n => exact hn2 n
    · cases h
  | .sortRev a, X, c, y, e, hX, h => by
    simp only [okE] at h
    split at h
    · simp only [Bool.and_eq_true, decide_eq_true_eq] at h
      obtain ⟨⟨⟨⟨rfl, h1⟩, rfl⟩, h2⟩, h3⟩ := h
      exact n_sortRev hX h1 h3 (seal_of (sE a y hX h2))
    · cases h
  | .comp t own k es ifs a, X, c, y, e, hX, h => by
    simp only [okE] at h
    split at h
    · rename_i elt tg iter cs scope pos
      simp only [Bool.and_eq_true] at h
      obtain ⟨⟨⟨⟨⟨h1, h2⟩, h3⟩, h4⟩, h5⟩, h6⟩ := h
      split at h1
      · rename_i as has
        have hpa := sEs es y hX h1
        obtain ⟨hpi, hfo⟩ := s_iter (tg := tg) y hX has h1 hpa fun e' a' q1 q2 => by
          subst q1 q2
          have h7 : okE T c e' a' && notStar a' && okEs T c .nil [] = true := h1
          simp only [Bool.and_eq_true] at h7
          exact seal_of (sE e' y hX h7.1.1)
        have hbo : BlkOk X.N X.env.scope scope (ownP c own) := blkOk_by (by
          rw [blkC_eq (sc' := { kind := .function, names := c.sc, isGenerator := false, isCoroutine := false }) hX.sc, hX.N]
          exact h4)
        have eown : (ownP c own).map (·.2) = own := by
          unfold ownP
          rw [List.map_map]
          exact List.map_id' own
        have key := pe_lc (pos := pos) hX.calm (by rw [hX.N]; exact hX.nd) hpi hbo (g := gOf p.K t) (tt := fun σ H Q => ∃ y, rdT p C y ifs σ H Q) (te := fun σ H Q => ∃ y, rdQ p C y a σ H Q) (ifs := cs) (elt := elt)
          (fun s H D cl fp => pg_tg (hX.blk hbo.kind s H D cl fp) h2)
          (fun s H D cl fp => by
            cases cs with
            | nil =>
              have hh : ifs.isTrue = true := h5
              have hp := pts_nil (X := X.blk s H scope (compEnvC scope cl D X.env) fp)
              refine ⟨fun pins s σ H Q I q => hp.run pins s σ H Q I ?_⟩
              obtain ⟨y, S, ρ, st, q⟩ := q
              cases ifs with
              | bl b =>
                cases b with
                | true =>
                  obtain ⟨b, e1, k⟩ := (show ∃ b, Ar.v (.bl true) = .v (.bl b) ∧ ∀ H' S', Stt p y S' σ H' ρ → Sub S S' → Sub H H' → Q b H' from q)
                  cases e1
                  exact k H S st (Sub.refl _) (Sub.refl _)
                | false => cases hh
              | _ => cases hh
            | cons q cs =>
              cases cs with
              | nil => exact pts_one (PT.ex fun y => sT ifs y (hX.blk hbo.kind s H D cl fp) h5)
              | cons _ _ => cases h5)
          (fun s H D cl fp => PE.ex fun y => seal_of (sE a y (hX.blk hbo.kind s H D cl fp) h6)) hfo
        rw [eown] at key
        exact PE.mono key fun σ H Q q => comp_rd (fun i hi => of_decide_eq_true (List.all_eq_true.mp h3 i hi)) q
      · cases h1
    · cases h
  | .cmpT _ _ _, X, c, y, e, hX, h => by simp [okE] at h
  | .chainT _ _ _ _ _, X, c, y, e, hX, h => by simp [okE] at h
  | .inDicT _ _ _, X, c, y, e, hX, h => by simp [okE] at h
  | .tru _, X, c, y, e, hX, h => by simp [okE] at h
  | .andT _, X, c, y, e, hX, h => by simp [okE] at h
  | .orT _, X, c, y, e, hX, h => by simp [okE] at h
  | .notT _, X, c, y, e, hX, h => by simp [okE] at h
  | .sortKey f a, X, c, y, e, hX, h => by
    simp only [okE] at h
    split at h
    · simp only [Bool.and_eq_true, decide_eq_true_eq] at h
      obtain ⟨⟨⟨⟨⟨⟨⟨⟨rfl, h1⟩, rfl⟩, h2⟩, h3⟩, h4⟩, h5⟩, h6⟩, h7⟩ := h
      exact n_sortKey hX h1 h3 h4 h5 h6 h7 (seal_of (sE a y hX h2))
    · cases h
  | .inDic _ _ _, X, c, y, e, hX, h => by simp [okE] at h
  | .getDic _ _, X, c, y, e, hX, h => by simp [okE] at h
  | .fld _ _, X, c, y, e, hX, h => by simp [okE] at h
  | .make _ _, X, c, y, e, hX, h => by simp [okE] at h
theorem sEs : ∀ (es : IRs) {X : Cx} {c : CC} (y : Dy) {as : List Expr}, XOk p C T X c → okEs T c es as = true → PA X as (rdA p C y es)
  | .nil, X, c, y, as, hX, h => by
    cases as with
    | nil => exact a_nil
    | cons _ _ => simp [okEs] at h
  | .cons a es, X, c, y, as, hX, h => by
    cases as with
    | nil => simp [okEs] at h
    | cons e as =>
      simp only [okEs, Bool.and_eq_true] at h
      exact a_cons h.1.2 (seal_of (sE a y hX h.1.1)) (sEs es y hX h.2)
theorem sKs : ∀ (es : IRs) {X : Cx} {c : CC} (y : Dy) {kws : List Keyword}, XOk p C T X c → okEs T c es (kwVals kws) = true → PK X kws (rdA p C y es)
  | .nil, X, c, y, kws, hX, h => by
    cases kws with
    | nil => exact k_nil
    | cons q r => obtain ⟨n, v, kp⟩ := q; simp [okEs, kwVals] at h
  | .cons a es, X, c, y, kws, hX, h => by
    cases kws with
    | nil => simp [okEs, kwVals] at h
    | cons q r =>
      obtain ⟨n, v, kp⟩ := q
      simp only [okEs, kwVals, Bool.and_eq_true] at h
      exact k_cons (seal_of (sE a y hX h.1.1)) (sKs es y hX h.2)
theorem sAnd : ∀ (es : IRs) {X : Cx} {c : CC} (y : Dy) {as : List Expr} {pos : Pos}, XOk p C T X c → okEs T c es as = true → as.isEmpty = false → PE X (.BoolOp .And as pos) (rdO p y (evAnd C es))
  | .nil, X, c, y, as, pos, hX, h, hn => by
    cases as with
    | nil => cases hn
    | cons _ _ => simp [okEs] at h
  | .cons a es, X, c, y, as, pos, hX, h, hn => by
    cases as with
    | nil => cases hn
    | cons e as =>
      simp only [okEs, Bool.and_eq_true] at h
      cases es with
      | nil =>
        cases as with
        | nil => exact n_and1 (seal_of (sE a y hX h.1.1))
        | cons _ _ => exact absurd h.2 (by simp [okEs])
      | cons b es =>
        cases as with
        | nil => exact absurd h.2 (by simp [okEs])
        | cons e' as => exact n_and (seal_of (sE a y hX h.1.1)) (sAnd (.cons b es) y hX h.2 rfl)
theorem sOr : ∀ (es : IRs) {X : Cx} {c : CC} (y : Dy) {as : List Expr} {pos : Pos}, XOk p C T X c → okEs T c es as = true → as.isEmpty = false → PE X (.BoolOp .Or as pos) (rdO p y (evOr C es))
  | .nil, X, c, y, as, pos, hX, h, hn => by
    cases as with
    | nil => cases hn
    | cons _ _ => simp [okEs] at h
  | .cons a es, X, c, y, as, pos, hX, h, hn => by
    cases as with
    | nil => cases hn
    | cons e as =>
      simp only [okEs, Bool.and_eq_true] at h
      cases es with
      | nil =>
        cases as with
        | nil => exact n_or1 (seal_of (sE a y hX h.1.1))
        | cons _ _ => exact absurd h.2 (by simp [okEs])
      | cons b es =>
        cases as with
        | nil => exact absurd h.2 (by simp [okEs])
        | cons e' as => exact n_or (seal_of (sE a y hX h.1.1)) (sOr (.cons b es) y hX h.2 rfl)
theorem sT : ∀ (ir : IR) {X : Cx} {c : CC} (y : Dy) {e : Expr}, XOk p C T X c → okT T c ir e = true → PT X e (rdT p C y ir)
  | .tru a, X, c, y, e, hX, h => by
    simp only [okT, Bool.and_eq_true] at h
    exact t_tru hX h.1 (seal_of (sE a y hX h.2))
  | .cmpT o a b, X, c, y, e, hX, h => by
    simp only [okT] at h
    split at h
    · simp only [Bool.and_eq_true, decide_eq_true_eq, Bool.not_eq_true'] at h
      obtain ⟨⟨⟨rfl, h1⟩, h2⟩, h3⟩ := h
      exact t_cmp hX h3 (seal_of (sE a y hX h1)) (seal_of (sE b y hX h2))
    · cases h
  | .chainT o o2 a b d, X, c, y, e, hX, h => by
    simp only [okT] at h
    split at h
    · simp only [Bool.and_eq_true, decide_eq_true_eq, Bool.not_eq_true'] at h
      obtain ⟨⟨⟨⟨⟨rfl, rfl⟩, h1⟩, h2⟩, h4⟩, h3⟩ := h
      exact t_chain hX h3 (seal_of (sE a y hX h1)) (seal_of (sE b y hX h2)) (seal_of (sE d y hX h4))
    · cases h
  | .andT es, X, c, y, e, hX, h => by
    simp only [okT] at h
    split at h
    · exact (sTa es y hX h).pt
    · cases h
  | .orT es, X, c, y, e, hX, h => by
    simp only [okT] at h
    split at h
    · exact (sTo es y hX h).pt
    · cases h
  | .notT a, X, c, y, e, hX, h => by
    simp only [okT] at h
    split at h
    · exact t_not (sT a y hX h)
    · cases h
  | .slot _, X, c, y, e, hX, h => by simp [okT] at h
  | .move _, X, c, y, e, hX, h => by simp [okT] at h
  | .bor _, X, c, y, e, hX, h => by simp [okT] at h
  | .int _, X, c, y, e, hX, h => by simp [okT] at h
  | .bl _, X, c, y, e, hX, h => by simp [okT] at h
  | .non, X, c, y, e, hX, h => by simp [okT] at h
  | .str _, X, c, y, e, hX, h => by simp [okT] at h
  | .bin _ _ _, X, c, y, e, hX, h => by simp [okT] at h
  | .un _ _, X, c, y, e, hX, h => by simp [okT] at h
  | .cmp _ _ _, X, c, y, e, hX, h => by simp [okT] at h
  | .chain _ _ _ _ _, X, c, y, e, hX, h => by simp [okT] at h
  | .andE _, X, c, y, e, hX, h => by simp [okT] at h
  | .orE _, X, c, y, e, hX, h => by simp [okT] at h
  | .notE _, X, c, y, e, hX, h => by simp [okT] at h
  | .ife _ _ _, X, c, y, e, hX, h => by simp [okT] at h
  | .tup _, X, c, y, e, hX, h => by simp [okT] at h
  | .lst _, X, c, y, e, hX, h => by simp [okT] at h
  | .ix _ _, X, c, y, e, hX, h => by simp [okT] at h
  | .slice _ _ _, X, c, y, e, hX, h => by simp [okT] at h
  | .call _ _, X, c, y, e, hX, h => by simp [okT] at h
  | .callK _ _ _, X, c, y, e, hX, h => by simp [okT] at h
  | .blt _ _, X, c, y, e, hX, h => by simp [okT] at h
  | .sortRev _, X, c, y, e, hX, h => by simp [okT] at h
  | .sortKey _ _, X, c, y, e, hX, h => by simp [okT] at h
  | .comp _ _ _ _ _ _, X, c, y, e, hX, h => by simp [okT] at h
  | .inDic _ _ _, X, c, y, e, hX, h => by simp [okT] at h
  | .inDicT _ _ _, X, c, y, e, hX, h => by simp [okT] at h
  | .getDic _ _, X, c, y, e, hX, h => by simp [okT] at h
  | .fld _ _, X, c, y, e, hX, h => by simp [okT] at h
  | .make _ _, X, c, y, e, hX, h => by simp [okT] at h
theorem sTa : ∀ (es : IRs) {X : Cx} {c : CC} (y : Dy) {as : List Expr} {pos : Pos}, XOk p C T X c → okTs T c es as = true → PW X (.BoolOp .And as pos) (rdO' p y (evAndT C es))
  | .nil, X, c, y, as, pos, hX, h => by simp [okTs] at h
  | .cons a es, X, c, y, as, pos, hX, h => by
    cases as with
    | nil => simp [okTs] at h
    | cons e as =>
      simp only [okTs, Bool.and_eq_true] at h
      cases es with
      | nil =>
        cases as with
        | nil => exact t_and1 (sT a y hX h.1)
        | cons _ _ => cases h.2
      | cons b es =>
        cases as with
        | nil => exact absurd h.2 (by simp [okTs])
        | cons e' as => exact t_and (sT a y hX h.1) (sTa (.cons b es) y hX h.2)
theorem sTo : ∀ (es : IRs) {X : Cx} {c : CC} (y : Dy) {as : List Expr} {pos : Pos}, XOk p C T X c → okTs T c es as = true → PW X (.BoolOp .Or as pos) (rdO' p y (evOrT C es))
  | .nil, X, c, y, as, pos, hX, h => by simp [okTs] at h
  | .cons a es, X, c, y, as, pos, hX, h => by
    cases as with
    | nil => simp [okTs] at h
    | cons e as =>
      simp only [okTs, Bool.and_eq_true] at h
      cases es with
      | nil =>
        cases as with
        | nil => exact t_or1 (sT a y hX h.1)
        | cons _ _ => cases h.2
      | cons b es =>
        cases as with
        | nil => exact absurd h.2 (by simp [okTs])
        | cons e' as => exact t_or (sT a y hX h.1) (sTo (.cons b es) y hX h.2)
end
end
end DS
/-! ## Statements: readings -/
namespace DS
open PySem PySem.Spec PyProof.Rows L2
section
variable {p : Par} {C : Cxt} {T : Tab} {X : Cx} {c : CC} {y : Dy}
def EndQ (p : Par) (y : Dy) (S0 : Hp) (D : Ends) : Fl × En → Prop := fun z => ∀ σ' H' S', Stt p y S' σ' H' z.2 → Sub S0 S' → match z.1 with
  | .nx => D.nx σ' H'
  | .bk => D.bk σ' H'
  | .ct => D.ct σ' H'
  | .rt r => ∀ v, RepA p y S' σ' H' z.2 r v → D.rt v H'
theorem EndQ.sub {S0 S1 : Hp} {D : Ends} {z : Fl × En} (h : EndQ p y S0 D z) (hS : Sub S0 S1) : EndQ p y S1 D z := fun σ' H' S' st q => h σ' H' S' st (hS.trans q)
def rdS (p : Par) (y : Dy) (f : En → Out (Fl × En)) : TS := fun D σ H => ∃ S ρ, Stt p y S σ H ρ ∧ Res (f ρ) (EndQ p y S D)
theorem fl_map (f : Fl) (σ : En) (k : En → Out (Fl × En)) : (match f with | .nx => k σ | .bk => .ok (.bk, σ) | .ct => .ok (.ct, σ) | .rt r => .ok (.rt r, σ)) = (match f with | .nx => k σ | f => .ok (f, σ) : Out (Fl × En)) := by cases f <;> rfl
/-! ### blocks -/
theorem b_nil : PSs X [] (rdS p y (exs C .nil)) := PSs.mono pss_nil fun D σ H ⟨S, ρ, st, q⟩ => q σ H S st (Sub.refl _)
theorem b_cons {s : SR} {ss : SRs} {st : Stmt} {rest : List Stmt} (h1 : PS X st (rdS p y (ex C s))) (h2 : PSs X rest (rdS p y (exs C ss))) : PSs X (st :: rest) (rdS p y (exs C (.cons s ss))) :=
  PSs.mono (pss_cons h1 h2) fun D σ H ⟨S, ρ, st, q⟩ => by
  refine ⟨S, ρ, st, ?_⟩
  obtain ⟨⟨f, ρ1⟩, e1, q1⟩ := Res.bnd (x := ex C s ρ) q
  rw [e1]
  intro σ1 H1 S1 st1 hS
  cases f with
  | nx =>
    refine ⟨S1, ρ1, st1, ?_⟩
    obtain ⟨z, e2, q2⟩ := Res.ok (x := exs C ss ρ1) q1
    rw [e2]
    exact EndQ.sub q2 hS
  | bk => exact (show EndQ p y S D (.bk, ρ1) from q1) σ1 H1 S1 st1 hS
  | ct => exact (show EndQ p y S D (.ct, ρ1) from q1) σ1 H1 S1 st1 hS
  | rt r => exact (show EndQ p y S D (.rt r, ρ1) from q1) σ1 H1 S1 st1 hS
/-! ### small statements -/
theorem s_pass {st : Stmt} {t : TS} (h : PS X st t) (f : Fl) (s : SR) (hs : ∀ ρ, ex C s ρ = .ok (f, ρ)) (ht : ∀ D σ H, (match f with | .nx => D.nx σ H | .bk => D.bk σ H | .ct => D.ct σ H | .rt r => False) → t D σ H) (hf : ∀ r, f ≠ .rt r) : PS X st (rdS p y (ex C s)) :=
  PS.mono h fun D σ H ⟨S, ρ, st, q⟩ => by
  rw [hs] at q
  have := (show EndQ p y S D (f, ρ) from q) σ H S st (Sub.refl _)
  refine ht D σ H ?_
  cases f with
  | rt r => exact absurd rfl (hf r)
  | _ => exact this
theorem s_expr {e : IR} {st : Stmt} {a : Expr} (hs : ∀ {te}, PE X a te → PS X st (tDrop te)) (ha : PE X a (rdQ p C y e)) : PS X st (rdS p y (ex C (.expr e))) :=
  PS.mono (hs ha) fun D σ H ⟨S, ρ, st, q⟩ => by
  refine ⟨S, ρ, st, ?_⟩
  obtain ⟨z, e1, q1⟩ := Res.bnd (x := sq (ev C e ρ)) q
  show Res (sq (ev C e ρ)) _
  rw [e1]
  exact fun v H1 S1 st1 hS hH ra => (q1 : EndQ p y S D (.nx, z.2)) σ H1 S1 st1 hS
theorem s_ret {e : IR} {a : Expr} {pos : Pos} (ha : PE X a (rdE p C y e)) : PS X (.Return (some a) pos) (rdS p y (ex C (.ret e))) :=
  PS.mono (ps_ret ha) fun D σ H ⟨S, ρ, st, q⟩ => by
  refine ⟨S, ρ, st, ?_⟩
  obtain ⟨⟨r, ρ1⟩, e1, q1⟩ := Res.bnd (x := ev C e ρ) q
  rw [e1]
  intro v H1 S1 st1 hS hH ra
  dsimp only at q1
  split at q1
  · exact q1.elim
  · exact (q1 : EndQ p y S D (.rt r, ρ1)) σ H1 S1 st1 hS v ra
theorem s_retN {pos : Pos} : PS X (.Return none pos) (rdS p y (ex C .retN)) :=
  PS.mono ps_retN fun D σ H ⟨S, ρ, st, q⟩ => (q : EndQ p y S D (.rt (.v .non), ρ)) σ H S st (Sub.refl _) .non rfl
theorem s_set {i : Nat} {e : IR} {st : Stmt} {te : TE} (h : PS X st (tAsg te (gName i))) (hte : ∀ σ H Q, rdE p C y e σ H Q → te σ H Q) : PS X st (rdS p y (ex C (.set i e))) :=
  PS.mono h fun D σ H ⟨S, ρ, st, q⟩ => by
  refine hte σ H _ ⟨S, ρ, st, ?_⟩
  obtain ⟨⟨r, ρ1⟩, e1, q1⟩ := Res.bnd (x := ev C e ρ) q
  rw [e1]
  intro v H1 S1 st1 hS hH ra
  dsimp only at q1
  split at q1
  · exact (q1 : EndQ p y S D (.nx, _)) _ H1 S1 (st1.putVal i ra) hS
  · exact (q1 : EndQ p y S D (.nx, _)) _ H1 S1 (st1.putOwn i ra) hS
  · exact q1.elim
theorem sq_in {e : IR} {ρ : En} {σ : L2.St} {H S : Hp} {β : Type} {k : Ar × En → Out β} {F : β → Prop} {te : TE} {Q : VK} (st : Stt p y S σ H ρ) (hte : ∀ σ H Q, rdE p C y e σ H Q → te σ H Q)
    (q : Res ((sq (ev C e ρ)).bnd k) F) (hQ : ∀ r ρ1 v H1 S1, Res (k (r, ρ1)) F → Stt p y S1 σ H1 ρ1 → Sub S S1 → Sub H H1 → r.seal = r → RepA p y S1 σ H1 ρ1 r v → Q v H1) : te σ H Q := by
  refine hte σ H _ ?_
  have := one_rd (G := Q) st q hQ
  obtain ⟨S0, ρ0, st0, q0⟩ := this
  refine ⟨S0, ρ0, st0, ?_⟩
  obtain ⟨z, e1, q1⟩ := Res.bnd (x := ev C e ρ0) (f := fun p => Out.ok (p.1.seal, p.2)) q0
  rw [e1]
  exact fun v H' S' st' hS hH ra => by
    obtain ⟨S2, st2, hS2, ra2⟩ := st'.sealA ra
    exact (q1 : FinQ p y σ S0 H Q (z.1.seal, z.2)) v H' S2 st2 (hS.trans hS2) hH ra2
theorem s_setS {i : Nat} {e : IR} {st : Stmt} {te : TE} (h : PS X st (tAsg te (gName i))) (hte : ∀ σ H Q, rdE p C y e σ H Q → te σ H Q) : PS X st (rdS p y (ex C (.setS i e))) :=
  PS.mono h fun D σ H ⟨S, ρ, st, q⟩ => by
  refine sq_in (k := fun z => match z.1 with | .v d => Out.ok (Fl.nx, z.2.set i (.val d)) | _ => .bad) st hte q fun r ρ1 v H1 S1 q1 st1 hS hH _ ra => ?_
  dsimp only at q1
  split at q1
  · exact (q1 : EndQ p y S D (.nx, _)) _ H1 S1 (st1.putVal i ra) hS
  · exact q1.elim
theorem s_unp (hK : X.K = p.K) {is : List Nat} {e : IR} {st : Stmt} {te : TE} (h : PS X st (tAsg te (gOf p.K (.tp is)))) (hte : ∀ σ H Q, rdE p C y e σ H Q → te σ H Q) : PS X st (rdS p y (ex C (.unp is e))) :=
  PS.mono h fun D σ H ⟨S, ρ, st, q⟩ => by
  refine sq_in (k := fun z => match z.1 with | .v (.tup ds) => if ds.length = is.length then Out.ok (Fl.nx, setAll is ds z.2) else .bad | _ => .bad) st hte q fun r ρ1 v H1 S1 q1 st1 hS hH _ ra => ?_
  dsimp only at q1
  split at q1
  · rename_i ds _
    split at q1
    · rename_i hl
      refine asg_rd (ρ1 := setAll is ds ρ1) st1.sub st1 ra (by show (if ds.length = is.length then some (setAll is ds ρ1) else none) = _; rw [if_pos hl]) fun σ1 st2 _ _ => ?_
      exact (q1 : EndQ p y S D (.nx, _)) _ H1 S1 st2 hS
    · exact q1.elim
  · exact q1.elim
theorem s_par2 {i j : Nat} (hij : i ≠ j) {es : IRs} {st : Stmt} {as : List Expr} (h : PS X st (tPar i j (rdA p C y es))) : PS X st (rdS p y (ex C (.par [i, j] es))) :=
  PS.mono h fun D σ H ⟨S, ρ, st, q⟩ => by
  refine ⟨S, ρ, st, ?_⟩
  obtain ⟨⟨rs, ρ1⟩, e1, q1⟩ := Res.bnd (x := evs C es ρ) q
  rw [e1]
  intro vs H1 S1 st1 hS hH ras
  dsimp only at q1
  split at q1
  · exact q1.elim
  · rename_i hb
    split at q1
    · rename_i hl
      have rv := ras.vals (by simpa using hb)
      cases rs with
      | nil => cases hl
      | cons r rs =>
        cases rs with
        | nil => cases hl
        | cons r' rs =>
          cases rs with
          | cons _ _ => cases hl
          | nil =>
            obtain ⟨v, q2, e2, rv1, w, q3, e3, rv2, e4⟩ := rv
            cases (show q3 = [] from e4)
            subst e3 e2
            exact ⟨v, w, rfl, (q1 : EndQ p y S D (.nx, _)) _ H1 S1 ((st1.putVal i rv1).putVal j rv2) hS⟩
    · exact q1.elim
theorem s_par3 {i j l : Nat} {es : IRs} {st : Stmt} (h : PS X st (tPar3 i j l (rdA p C y es))) : PS X st (rdS p y (ex C (.par [i, j, l] es))) :=
  PS.mono h fun D σ H ⟨S, ρ, st, q⟩ => by
  refine ⟨S, ρ, st, ?_⟩
  obtain ⟨⟨rs, ρ1⟩, e1, q1⟩ := Res.bnd (x := evs C es ρ) q
  rw [e1]
  intro vs H1 S1 st1 hS hH ras
  dsimp only at q1
  split at q1
  · exact q1.elim
  · rename_i hb
    split at q1
    · rename_i hl
      have rv := ras.vals (by simpa using hb)
      cases rs with
      | nil => cases hl
      | cons r rs =>
        cases rs with
        | nil => cases hl
        | cons r' rs =>
          cases rs with
          | nil => cases hl
          | cons r'' rs =>
            cases rs with
            | cons _ _ => cases hl
            | nil =>
              obtain ⟨v, q2, e2, rv1, w, q3, e3, rv2, u, q4, e4, rv3, e5⟩ := rv
              cases (show q4 = [] from e5)
              subst e4 e3 e2
              exact ⟨v, w, u, rfl, (q1 : EndQ p y S D (.nx, _)) _ H1 S1 (((st1.putVal i rv1).putVal j rv2).putVal l rv3) hS⟩
    · exact q1.elim
/-! ### name op= e -/
def rAug : Operator → R2
  | .Add => fun x y H Q => rI0 (fun i j => .int (i + j)) x y H Q ∨ (∃ i j, x = .str i ∧ y = .str j ∧ i.length + j.length ≤ sizeLine ∧ Q (.str (i ++ j)) H)
  | .Sub => rI0 fun i j => .int (i - j)
  | .Mult => rI CMul fun i j => .int (i * j)
  | .BitAnd => rI0 fun i j => .int (Builtin.bitAnd i j)
  | .BitOr => rI0 fun i j => .int (Builtin.bitOr i j)
  | .BitXor => rI0 fun i j => .int (Builtin.bitXor i j)
  | _ => fun _ _ _ _ => False
theorem op_aug : ∀ o : Operator, PIp X o (rAug o)
  | .Add => iop_add.or iop_add_str
  | .Sub => iop_sub
  | .Mult => iop_mul
  | .BitAnd => iop_and
  | .BitOr => iop_or
  | .BitXor => iop_xor
  | .MatMult => OpR.never
  | .Div => OpR.never
  | .Mod => OpR.never
  | .Pow => OpR.never
  | .LShift => OpR.never
  | .RShift => OpR.never
  | .FloorDiv => OpR.never
theorem aug_fin {σ : L2.St} {H S : Hp} {ρ : En} {o : Operator} {a b : D} {v w : V} {d : D} {Q : VK} (e : augD o a b = .ok (.v d)) (ra : RepV p S H a v) (rb : RepV p S H b w) (fin : ∀ u, Rep p S d u → Q u H) : rAug o v w H Q := by
  unfold augD at e
  split at e
  · cases e; cases (show v = _ from ra); cases (show w = _ from rb); exact .inl ⟨_, _, rfl, rfl, fin _ rfl⟩
  · cases e; cases (show v = _ from ra); cases (show w = _ from rb); exact ⟨_, _, rfl, rfl, fin _ rfl⟩
  · split at e
    · rename_i hc; cases e; cases (show v = _ from ra); cases (show w = _ from rb); exact ⟨_, _, rfl, rfl, hc, fin _ rfl⟩
    · cases e
  · cases e; cases (show v = _ from ra); cases (show w = _ from rb); exact ⟨_, _, rfl, rfl, fin _ rfl⟩
  · cases e; cases (show v = _ from ra); cases (show w = _ from rb); exact ⟨_, _, rfl, rfl, fin _ rfl⟩
  · cases e; cases (show v = _ from ra); cases (show w = _ from rb); exact ⟨_, _, rfl, rfl, fin _ rfl⟩
  · split at e
    · rename_i hc; cases e; cases (show v = _ from ra); cases (show w = _ from rb); exact .inr ⟨_, _, rfl, rfl, hc, fin _ rfl⟩
    · cases e
  · cases e
theorem s_aug {i : Nat} {o : Operator} {e : IR} {st : Stmt} (h : PS X st (tAug i (rdQ p C y e) (rAug o))) : PS X st (rdS p y (ex C (.aug i o e))) :=
  PS.mono h fun D σ H ⟨S, ρ, st, q⟩ => by
  simp only [ex] at q
  split at q
  · rename_i x hx
    obtain ⟨v, e1, rx⟩ := (show SlOk p y S H i σ[i]? (.val x) from st.sl i _ hx)
    refine ⟨v, e1, one_rd (k := fun z => (augD o x z.1.view).bnd fun w => match w with | .v d => Out.ok (Fl.nx, z.2.set i (.val d)) | _ => .bad) st q fun r ρ1 w H1 S1 q1 st1 hS hH _ ra => ?_⟩
    obtain ⟨w', e2, q2⟩ := Res.bnd q1
    dsimp only at q2
    split at q2
    · rename_i d
      have rx1 : RepV p S1 H1 x v := by
        have := RepA.viewV (y := y) (σ := σ) (ρ := ρ1) st1 (r := .v x) (v := v) (Rep.sub hS x v rx)
        exact this
      exact aug_fin (σ := σ) (ρ := ρ1) e2 rx1 (ra.viewV st1) fun u ru => (q2 : EndQ p y S D (.nx, _)) _ H1 S1 (st1.putVal i ru) hS
    · exact q2.elim
  · exact q.elim
/-! ### xs[k] = e, xs.append(e) -/
theorem s_setIx {i : Nat} {k e : IR} {st : Stmt} {te : TE} (h : PS X st (tAsg te (gSub (tVar i) (rdQ p C y k) rSetL))) (hte : ∀ σ H Q, rdE p C y e σ H Q → te σ H Q) : PS X st (rdS p y (ex C (.setIx i k e))) :=
  PS.mono h fun D σ H ⟨S, ρ, st, q⟩ => by
  obtain ⟨F, hF⟩ : ∃ F : Ar × En → Out (Fl × En), F = fun z => (match z.1, z.2[i]? with
    | .v d, some (.own _) => (sq (ev C k z.2)).bnd fun q => (match q.2[i]?, q.1.view with
      | some (.own ds), .int n => (match ixN ds.length n with
        | some j => .ok (.nx, q.2.set i (.own (ds.set j d)))
        | none => .bad)
      | _, _ => .bad)
    | _, _ => .bad) := ⟨_, rfl⟩
  have q : Res ((sq (ev C e ρ)).bnd F) (EndQ p y S D) := by rw [hF]; exact q
  refine sq_in st hte q fun r ρ1 v H1 S1 q1 st1 hS hH _ ra => ?_
  rw [hF] at q1
  dsimp only at q1
  split at q1
  · rename_i d ds0 hd0 _
    obtain ⟨l, vs0, b1, b2, b3, b4, b5⟩ := (show SlOk p y S1 H1 i σ[i]? (.own ds0) from st1.sl i _ hd0)
    refine ⟨.ref l, b1, ?_⟩
    refine one_rd st1 q1 fun r2 ρ2 w H2 S2 q3 st2 hS2 hH2 s2 rb => ?_
    dsimp only at q3
    split at q3
    · rename_i ds n hd hn
      obtain ⟨l', vs, a1, a2, a3, a4, a5⟩ := (show SlOk p y S2 H2 i σ[i]? (.own ds) from st2.sl i _ hd)
      have rw' := rb.viewV st2
      rw [hn] at rw'
      cases (show w = _ from rw')
      split at q3
      · rename_i j hj
        rw [b1] at a1
        cases a1
        refine ⟨l, vs, n, j, rfl, rfl, a2, by rw [← a5.length]; exact hj, ?_⟩
        have rd : Rep p S2 d v := Rep.sub hS2 d v ra
        have stw := st2.write (s' := .own (ds.set j d)) (u := .lst (vs.set j v)) hd rfl b1 a3 a4 ⟨l, vs.set j v, b1, upd_same, a3, a4, a5.set j rd⟩ rfl
        exact (q3 : EndQ p y S D (.nx, _)) _ _ S2 stw (hS.trans hS2)
      · exact q3.elim
    · exact q3.elim
  · exact q1.elim
theorem s_app (hK : X.K = p.K) {i : Nat} {e : IR} {st : Stmt} (h : PS X st (tDrop (tBM X.K "list" rAppend (tVar i) (tCons (rdQ p C y e) tNil)))) : PS X st (rdS p y (ex C (.app i e))) :=
  PS.mono h fun D σ H ⟨S, ρ, st, q⟩ => by
  simp only [ex] at q
  split at q
  · rename_i ds0 hd0
    obtain ⟨l, vs0, b1, b2, b3, b4, b5⟩ := (show SlOk p y S H i σ[i]? (.own ds0) from st.sl i _ hd0)
    refine ⟨.ref l, b1, .inl ⟨rfl, _, SqL.of b2⟩, ?_⟩
    obtain ⟨F, hF⟩ : ∃ F : Ar × En → Out (Fl × En), F = fun z => (match z.1, z.2[i]? with
      | .v d, some (.own ds) => if ds.length < sizeLine then .ok (.nx, z.2.set i (.own (ds ++ [d]))) else .bad
      | _, _ => .bad) := ⟨_, rfl⟩
    have q : Res ((sq (ev C e ρ)).bnd F) (EndQ p y S D) := by rw [hF]; exact q
    refine one_rd st q fun r ρ1 v H1 S1 q1 st1 hS hH _ ra => ?_
    rw [hF] at q1
    dsimp only at q1
    split at q1
    · rename_i d ds hd _
      split at q1
      · rename_i hl
        obtain ⟨l', vs, a1, a2, a3, a4, a5⟩ := (show SlOk p y S1 H1 i σ[i]? (.own ds) from st1.sl i _ hd)
        rw [b1] at a1
        cases a1
        refine ⟨l, vs, v, rfl, rfl, a2, by rw [← a5.length]; exact hl, ?_⟩
        have stw := st1.write (s' := .own (ds ++ [d])) (u := .lst (vs ++ [v])) hd rfl b1 a3 a4 ⟨l, vs ++ [v], b1, upd_same, a3, a4, a5.append (Reps.one ra)⟩ rfl
        exact (q1 : EndQ p y S D (.nx, _)) _ _ S1 stw hS
      · exact q1.elim
    · exact q1.elim
  · exact q.elim
/-! ### if, while, for -/
theorem s_ife {t : IR} {a b : SRs} {te : Expr} {as bs : List Stmt} {pos : Pos} (ht : PT X te (rdT p C y t)) (ha : PSs X as (rdS p y (exs C a))) (hb : PSs X bs (rdS p y (exs C b))) : PS X (.If te as bs pos) (rdS p y (ex C (.ife t a b))) :=
  PS.mono (ps_if ht ha hb) fun D σ H ⟨S, ρ, st, q⟩ => by
  refine ⟨S, ρ, st, ?_⟩
  obtain ⟨⟨k, ρ1⟩, e1, q1⟩ := Res.bnd (x := ev C t ρ) q
  rw [e1]
  dsimp only at q1
  split at q1
  · rename_i kb
    refine ⟨kb, rfl, fun H1 S1 st1 hS hH => ?_⟩
    cases kb with
    | true =>
      simp only [if_true] at q1 ⊢
      refine ⟨S1, ρ1, st1, ?_⟩
      obtain ⟨z, e2, q2⟩ := Res.ok q1
      rw [e2]
      exact EndQ.sub q2 hS
    | false =>
      simp only [Bool.false_eq_true, if_false] at q1 ⊢
      refine ⟨S1, ρ1, st1, ?_⟩
      obtain ⟨z, e2, q2⟩ := Res.ok q1
      rw [e2]
      exact EndQ.sub q2 hS
  · exact q1.elim
theorem s_whl (hX : XOk p C T X c) {t : IR} {b : SRs} {te : Expr} {bs : List Stmt} {pos : Pos} (ht : PT X te (rdT p C y t)) (hb : PSs X bs (rdS p y (exs C b))) : PS X (.While te bs [] pos) (rdS p y (ex C (.whl t b))) :=
  PS.mono (ps_while hX.pass ht hb) fun D σ H ⟨S, ρ, st, q⟩ => by
  refine ⟨fun m σ H => ∃ S1 ρ1, Stt p y S1 σ H ρ1 ∧ Sub S S1 ∧ Res (whileLoop (ev C t) (exs C b) m ρ1) (EndQ p y S D), ⟨C.fuel, S, ρ, st, Sub.refl _, q⟩, ?_⟩
  rintro m σ1 H1 ⟨S1, ρ1, st1, hS1, q1⟩
  cases m with
  | zero => exact q1.elim
  | succ m =>
    obtain ⟨⟨k, ρ2⟩, e1, q2⟩ := Res.bnd (x := ev C t ρ1) q1
    refine ⟨S1, ρ1, st1, ?_⟩
    rw [e1]
    dsimp only at q2
    split at q2
    · rename_i kb
      refine ⟨kb, rfl, fun H2 S2 st2 hS hH => ?_⟩
      cases kb with
      | true =>
        simp only [if_true] at q2 ⊢
        refine ⟨fun σ' H' => ∃ S3 ρ3, Stt p y S3 σ' H' ρ3 ∧ Sub S S3 ∧ Res (whileLoop (ev C t) (exs C b) m ρ3) (EndQ p y S D), fun σ' H' z => ⟨m, Nat.lt_succ_self _, z⟩, S2, ρ2, st2, ?_⟩
        obtain ⟨⟨f, ρ3⟩, e3, q3⟩ := Res.bnd (x := exs C b ρ2) q2
        rw [e3]
        intro σ' H' S' st' hS'
        cases f with
        | nx => exact ⟨S', ρ3, st', hS1.trans (hS.trans hS'), q3⟩
        | ct => exact ⟨S', ρ3, st', hS1.trans (hS.trans hS'), q3⟩
        | bk => exact (show EndQ p y S D (.nx, ρ3) from q3) σ' H' S' st' (hS1.trans (hS.trans hS'))
        | rt r => exact (show EndQ p y S D (.rt r, ρ3) from q3) σ' H' S' st' (hS1.trans (hS.trans hS'))
      | false =>
        simp only [Bool.false_eq_true, if_false] at q2 ⊢
        exact (q2 : EndQ p y S D (.nx, ρ2)) σ1 H2 S2 st2 (hS1.trans hS)
    · exact q2.elim
theorem s_for (hX : XOk p C T X c) {t : Tg} {k : ItK} {es : IRs} {b : SRs} {tg iter : Expr} {bs : List Stmt} {pos : Pos} (hi : PI X tg iter (rdI p C y k es)) (hg : PG X tg (gOf p.K t)) (hb : ∀ y, PSs X bs (rdS p y (exs C b))) (hs : ∀ x, foldedSetIterable iter X.env x = pure x) :
    PS X (.For tg iter bs [] pos) (rdS p y (ex C (.for_ t k es b))) :=
  PS.mono (ps_for hX.pass hX.calm hi hg (PSs.ex hb) hs) fun D σ H ⟨S, ρ, st, q⟩ => by
  refine ⟨S, ρ, st, ?_⟩
  obtain ⟨⟨rs, ρ1⟩, e1, q1⟩ := Res.bnd (x := evs C es ρ) q
  rw [e1]
  dsimp only at q1
  split at q1
  · exact q1.elim
  · rename_i xs hxs
    split at q1
    · rename_i hbr
      refine ⟨xs, hxs, hbr, fun J H1 S1 y1 st1 hS hH hy hback w => ?_⟩
      obtain ⟨⟨fl, ρf⟩, ef, qf⟩ := Res.bnd (x := forLoop t (exs C b) xs ((lockers rs ρ1).foldl lockAt ρ1)) q1
      have q2 : Res (forLoop t (exs C b) xs ((lockers rs ρ1).foldl lockAt ρ1)) fun z => EndQ p y S D (z.1, (lockers rs ρ1).foldr (fun i τ => unlockAt τ i) z.2) := by
        rw [ef]
        exact qf
      -- the end: locks opened
      have fin : ∀ {f : Fl} {ρ' : En} {σ' : L2.St} {H' S' : Hp}, EndQ p y S D (f, (lockers rs ρ1).foldr (fun i τ => unlockAt τ i) ρ') → Stt p y1 S' σ' H' ρ' → Sub S S' → (match f with
          | .nx => D.nx σ' H' | .bk => D.bk σ' H' | .ct => D.ct σ' H' | .rt r => ∀ v, RepA p y1 S' σ' H' ρ' r v → D.rt v H') := fun {f ρ' σ' H' S'} hq hst hs => by
        obtain ⟨st', hf⟩ := hback _ _ _ _ hst
        have := hq σ' H' S' st' hs
        cases f with
        | rt r =>
          intro v ra
          refine this v ?_
          cases r with
          | v d => exact ra
          | br i ds => exact ra
          | fr ds =>
            obtain ⟨l, vs, a1, a2, a3, a4, a5, a6⟩ := ra
            refine ⟨l, vs, a1, a2, a3, ?_, a5, hf l a4 a6⟩
            cases z : y.H0 l with
            | none => rfl
            | some o => rw [hy _ _ z] at a4; cases a4
        | _ => exact this
      refine ⟨fun i m σ' H' => m = xs.length - i ∧ i ≤ xs.length ∧ ∃ S2 ρ2, Stt p y1 S2 σ' H' ρ2 ∧ Sub S S2 ∧ Sub S1 S2 ∧ Res (forLoop t (exs C b) (xs.drop i) ρ2) fun z => EndQ p y S D (z.1, (lockers rs ρ1).foldr (fun i τ => unlockAt τ i) z.2),
        ⟨xs.length, rfl, Nat.zero_le _, S1, _, st1, hS, Sub.refl _, q2⟩, ?_⟩
      rintro i m σ2 H2 ⟨rfl, hi2, S2, ρ2, st2, hS2, hS12, q3⟩
      have hB : Sub y1.H0 H2 := st2.same
      by_cases hlt : i < xs.length
      · refine .inr ⟨w.goes i H2 S2 hlt hS12 st2.sub hB, fun σ' H' => ∃ S2 ρ2, Stt p y1 S2 σ' H' ρ2 ∧ Sub S S2 ∧ Sub S1 S2 ∧ Res (forLoop t (exs C b) (xs.drop (i + 1)) ρ2) fun z => EndQ p y S D (z.1, (lockers rs ρ1).foldr (fun i τ => unlockAt τ i) z.2),
          fun σ' H' z => ⟨xs.length - (i + 1), by omega, rfl, hlt, z⟩, fun x H' yl => ?_⟩
        obtain ⟨S3, d, hd, rd, b1, b2, b3, b4⟩ := w.yields i H2 S2 x H' hlt hS12 st2.sub hB yl
        have st3 : Stt p y1 S3 σ2 H' ρ2 := st2.grow b1 b3 b2 b4
        have edrop : xs.drop i = d :: xs.drop (i + 1) := by
          obtain ⟨h1, h2⟩ := List.getElem?_eq_some_iff.mp hd
          rw [← h2]
          exact List.drop_eq_getElem_cons h1
        rw [edrop] at q3
        simp only [forLoop] at q3
        split at q3
        · exact q3.elim
        · rename_i ρ4 ha
          refine asg_rd b2 st3 rd ha fun σ4 st4 _ _ => ?_
          obtain ⟨⟨f, ρ5⟩, e5, q5⟩ := Res.bnd (x := exs C b ρ4) q3
          refine ⟨y1, S3, ρ4, st4, ?_⟩
          rw [e5]
          intro σ' H'' S' st' hS'
          cases f with
          | nx => exact ⟨S', ρ5, st', hS2.trans (b1.trans hS'), hS12.trans (b1.trans hS'), q5⟩
          | ct => exact ⟨S', ρ5, st', hS2.trans (b1.trans hS'), hS12.trans (b1.trans hS'), q5⟩
          | bk => exact fin (f := .nx) q5 st' (hS2.trans (b1.trans hS'))
          | rt r => exact fin (f := .rt r) q5 st' (hS2.trans (b1.trans hS'))
      · have e : i = xs.length := by omega
        subst e
        refine .inl ⟨w.stops H2 S2 hS12 st2.sub hB, ?_⟩
        rw [List.drop_length] at q3
        exact fin (f := .nx) (q3 : EndQ p y S D (.nx, _)) st2 hS2
    · exact q1.elim
end
end DS
/-! ## Statements: the check and its soundness -/
namespace DS
open PySem PySem.Spec PyProof.Rows L2
def noComp : Expr → Bool
  | .ListComp _ _ _ _ => false
  | .SetComp _ _ _ _ => false
  | .DictComp _ _ _ _ _ => false
  | _ => true
def swB (c : CC) (x : Str) (px : Pos) : Expr → Bool
  | .ListComp elt gs s pos => decide (c.sc.lookup x = some .local) && (px.line == pos.line) && !(s.names.any fun (n, k) => n == x && (k == .local || k == .cell))
  | _ => false
def swN (c : CC) (x : Str) (px : Pos) : Expr → Bool
  | .ListComp elt gs s pos => decide (c.sc.lookup x ≠ some .local) || !(px.line == pos.line)
  | _ => false
def noTup : Expr → Bool
  | .Tuple vs _ _ => vs.all (foldedForSure 8) || decide (3 < vs.length)
  | _ => true
def loB (c : CC) (i : Nat) (x : Str) : Bool := decide (c.N[i]? = some x) && decide (c.sc.lookup x = some .local)
def parB (c : CC) : List Nat → List Expr → Bool
  | [i, j], [.Name x px, .Name y py] => loB c i x && loB c j y && (px.line == py.line) && !(x == y) && decide (i ≠ j)
  | [i, j, l], [.Name x px, .Name y py, .Name z pz] => loB c i x && loB c j y && loB c l z && (px.line == py.line) && (px.line == pz.line) && !(x == y) && !(x == z) && !(y == z) && decide (i ≠ j) && decide (i ≠ l) && decide (j ≠ l)
  | _, _ => false
mutual
def okS (T : Tab) (c : CC) : SR → Stmt → Bool
  | .set i e, s => (match s with
    | .Assign [.Name x px] v _ => stB c i x && okE T c e v && (noComp v || swN c x px v || swB c x px v)
    | _ => false)
  | .setS i e, s => (match s with
    | .Assign [.Name x px] v _ => stB c i x && okE T c e v && (noComp v || swN c x px v || swB c x px v)
    | _ => false)
  | .unp is e, s => (match s with
    | .Assign [tg] v _ => okTg c (.tp is) tg && okE T c e v && noComp v && noTup v
    | _ => false)
  | .par is es, s => (match s with
    | .Assign [.Tuple ts _ _] (.Tuple vs _ _) _ => parB c is ts && okEs T c es vs && !(vs.all (foldedForSure 8)) && !(vs.all (constantsAlone 8)) && decide (vs.length = is.length)
    | _ => false)
  | .aug i o e, s => (match s with
    | .AugAssign (.Name x _) op v _ => stB c i x && decide (o = op) && okE T c e v
    | _ => false)
  | .setIx i k e, s => (match s with
    | .Assign [.Subscript (.Name x _) kx _] v _ => nmB c i x && okE T c k kx && notSlice kx && okE T c e v && noComp v
    | _ => false)
  | .setDic _ _ _, _ => false
  | .newDic _, _ => false
  | .app i e, s => (match s with
    | .Expr (.Call (.Attribute (.Name x _) name apos) [a] [] cpos) _ => nmB c i x && decide (name = "append") && (apos.endLine == cpos.line) && okE T c e a && notStar a
    | _ => false)
  | .expr e, s => (match s with
    | .Expr a _ => okE T c e a && noComp a
    | _ => false)
  | .ret e, s => (match s with
    | .Return (some a) _ => okE T c e a
    | _ => false)
  | .retN, s => (match s with
    | .Return none _ => true
    | _ => false)
  | .ife t a b, s => (match s with
    | .If te as bs _ => okT T c t te && okSs T c a as && okSs T c b bs
    | _ => false)
  | .whl t b, s => (match s with
    | .While te bs [] _ => okT T c t te && okSs T c b bs
    | _ => false)
  | .for_ t k es b, s => (match s with
    | .For tg iter bs [] _ => (match itArgs c k tg iter with
      | some as => okEs T c es as
      | none => false) && okTg c t tg && okSs T c b bs
    | _ => false)
  | .brk, s => (match s with
    | .Break _ => true
    | _ => false)
  | .cont, s => (match s with
    | .Continue _ => true
    | _ => false)
  | .pass, s => (match s with
    | .Pass _ => true
    | .Expr (.Constant (.str _) _ _) _ => true
    | _ => false)
def okSs (T : Tab) (c : CC) : SRs → List Stmt → Bool
  | .nil, as => as.isEmpty
  | .cons a es, as => (match as with
    | e :: as => okS T c a e && okSs T c es as
    | [] => false)
end
theorem sw_no {e : Expr} {t : Option Expr} {l : Nat} {env : Env} (h : noComp e = true) : swapsWith e t l env = pure false := by
  cases e <;> first | rfl | cases h
theorem sws_no {e tg : Expr} {l : Nat} {env : Env} (h : noComp e = true) : swapsWithSole [tg] e l env = pure false := by
  have e1 : swapsWithSole [tg] e l env = swapsWith e (some tg) l env := rfl
  rw [e1]
  exact sw_no h
theorem len_two {α : Type} {l : List α} (h : l.length = 2) : ∃ a b, l = [a, b] := by
  match l, h with
  | [a, b], _ => exact ⟨a, b, rfl⟩
theorem len_three {α : Type} {l : List α} (h : l.length = 3) : ∃ a b c, l = [a, b, c] := by
  match l, h with
  | [a, b, c], _ => exact ⟨a, b, c, rfl⟩
theorem ss_no {e : Expr} {ts : List Expr} {k2 : Nat} {p2 : Pos} {env : Env} (h : noTup e = true) : swappedStores [.Tuple ts k2 p2] e env = pure none := by
  cases e with
  | Tuple vs k pos =>
    unfold noTup at h
    unfold swappedStores
    rcases (Bool.or_eq_true _ _).mp h with h | h
    · dsimp only
      split
      · rfl
      · split
        · rfl
        · split
          · rfl
          · first | rfl | rw [if_pos h]
    · have h := of_decide_eq_true h
      dsimp only
      split
      · rfl
      · rename_i h2
        exfalso
        apply h2
        by_cases hl : vs.length = ts.length
        · have : (ts.length == 2 || ts.length == 3) = false := by
            simp
            omega
          simp [this]
        · have : (vs.length != ts.length) = true := by simpa using hl
          simp [this]
  | _ => rfl
theorem bk_fn {env : Env} (h : env.scope.kind = .function) : env.blockKind = .function := by
  unfold Env.blockKind
  rw [h]
  rfl
theorem ns_any : ∀ {vs : List Expr}, vs.all notStar = true → (vs.any fun | .Starred _ _ => true | _ => false) = false
  | [], _ => rfl
  | v :: vs, h => by
    rw [List.all_cons, Bool.and_eq_true] at h
    rw [List.any_cons, ns_any h.2]
    cases v <;> first | rfl | cases h.1
theorem ss_two {x y : Str} {px py p2 p3 : Pos} {k2 k3 : Nat} {vs : List Expr} {env : Env} (hk : env.scope.kind = .function) (hl : vs.length = 2) (hs : vs.all notStar = true) (hx : env.scope.names.lookup x = some .local) (hy : env.scope.names.lookup y = some .local) (hp : (px.line == py.line) = true) (hxy : (x == y) = false)
    (h1 : vs.all (foldedForSure 8) = false) (h2 : vs.all (constantsAlone 8) = false) : swappedStores [.Tuple [.Name x px, .Name y py] k2 p2] (.Tuple vs k3 p3) env = pure (some [x, y]) := by
  have e1 : env.kindOf x = some .local := hx
  have e2 : env.kindOf y = some .local := hy
  have hp := eq_of_beq hp
  have hne : ¬ y = x := fun z => by subst z; simp at hxy
  have hp1 : (Expr.Name x px).pos = px := rfl
  unfold swappedStores
  simp [bk_fn hk, hl, ns_any hs, e1, e2, h1, h2, hp1, hp, List.eraseDups_cons, hne]
  intro q hq hm
  exfalso
  have := List.all_eq_true.mp hs q hq
  cases q <;> first | exact Bool.noConfusion (show false = true from hm) | exact Bool.noConfusion (show false = true from this)
theorem ss_three {x y z : Str} {px py pz p2 p3 : Pos} {k2 k3 : Nat} {vs : List Expr} {env : Env} (hk : env.scope.kind = .function) (hl : vs.length = 3) (hs : vs.all notStar = true) (hx : env.scope.names.lookup x = some .local) (hy : env.scope.names.lookup y = some .local) (hz : env.scope.names.lookup z = some .local) (hp : (px.line == py.line) = true) (hp' : (px.line == pz.line) = true) (hxy : (x == y) = false) (hxz : (x == z) = false) (hyz : (y == z) = false)
    (h1 : vs.all (foldedForSure 8) = false) (h2 : vs.all (constantsAlone 8) = false) : swappedStores [.Tuple [.Name x px, .Name y py, .Name z pz] k2 p2] (.Tuple vs k3 p3) env = pure (some [x, y, z]) := by
  have e1 : env.kindOf x = some .local := hx
  have e2 : env.kindOf y = some .local := hy
  have e3 : env.kindOf z = some .local := hz
  have hp := eq_of_beq hp
  have hp' := eq_of_beq hp'
  have hne : ¬ y = x := fun q => by subst q; simp at hxy
  have hne' : ¬ z = x := fun q => by subst q; simp at hxz
  have hne2 : ¬ z = y := fun q => by subst q; simp at hyz
  have hp1 : (Expr.Name x px).pos = px := rfl
  unfold swappedStores
  simp [bk_fn hk, hl, ns_any hs, e1, e2, e3, h1, h2, hp1, ← hp, ← hp', List.eraseDups_cons, hne, hne', hne2]
  intro q hq hm
  exfalso
  have := List.all_eq_true.mp hs q hq
  cases q <;> first | exact Bool.noConfusion (show false = true from hm) | exact Bool.noConfusion (show false = true from this)
theorem sw_n {v : Expr} {px : Pos} {x : Str} {l : Nat} {env : Env} {c : CC} (hk : env.scope.kind = .function) (hc : env.scope.names = c.sc) (h : swN c x px v = true) : swapsWith v (some (.Name x px)) l env = pure false := by
  cases v with
  | ListComp elt gs s pos =>
    have hp1 : (Expr.ListComp elt gs s pos).pos = pos := rfl
    have e0 : env.kindOf x = c.sc.lookup x := by
      show env.scope.names.lookup x = _
      rw [hc]
    unfold swN at h
    unfold swapsWith
    dsimp only
    rw [bk_fn hk, e0, hp1]
    rcases (Bool.or_eq_true _ _).mp h with h | h
    · have h := of_decide_eq_true h
      have : (c.sc.lookup x == some NameKind.local) = false := by simpa using h
      rw [this]
      rfl
    · have : (px.line == pos.line) = false := by simpa using h
      rw [this]
      simp
  | _ => cases h
theorem sw_lc {elt : Expr} {gs : List Comprehension} {s : Scope} {pos px : Pos} {x : Str} {l : Nat} {env : Env} {c : CC} (hk : env.scope.kind = .function) (hc : env.scope.names = c.sc) (h : swB c x px (.ListComp elt gs s pos) = true) : swapsWith (.ListComp elt gs s pos) (some (.Name x px)) l env = pure true := by
  unfold swB at h
  simp only [Bool.and_eq_true, decide_eq_true_eq] at h
  obtain ⟨⟨h1, h2⟩, h3⟩ := h
  have e1 : env.kindOf x = some .local := by
    show env.scope.names.lookup x = _
    rw [hc]
    exact h1
  have hp1 : (Expr.ListComp elt gs s pos).pos = pos := rfl
  unfold swapsWith
  dsimp only
  rw [bk_fn hk, e1, hp1, h2, h3]
  rfl

section
variable {p : Par} {C : Cxt} {T : Tab}
theorem loB_is {X : Cx} {c : CC} (hX : XOk p C T X c) {i : Nat} {x : Str} (h : loB c i x = true) : X.N[i]? = some x ∧ X.env.scope.names.lookup x = some .local := by
  unfold loB at h
  simp only [Bool.and_eq_true, decide_eq_true_eq] at h
  rw [hX.N, hX.sc]
  exact h
/-- x = [..] on one line, x a plain local name -/
theorem s_lc {X : Cx} {c : CC} (y : Dy) (hX : XOk p C T X c) {ir : IR} {v : Expr} {x : Str} {px pos : Pos} {i : Nat} (h : okE T c ir v = true) (hs : swB c x px v = true) (hi : X.N[i]? = some x) : ∃ te, PS X (.Assign [.Name x px] v pos) (tAsg te (gName i)) ∧ ∀ σ H Q, rdE p C y ir σ H Q → te σ H Q := by
  cases ir with
  | comp t own k es ifs a =>
    simp only [okE] at h
    split at h
    · rename_i elt tg iter cs scope lpos
      have hsw := sw_lc (l := pos.line) hX.kind hX.sc hs
      have hloc : X.env.scope.names.lookup x = some .local := by
        unfold swB at hs
        simp only [Bool.and_eq_true, decide_eq_true_eq] at hs
        rw [hX.sc]
        exact hs.1.1
      simp only [Bool.and_eq_true] at h
      obtain ⟨⟨⟨⟨⟨h1, h2⟩, h3⟩, h4⟩, h5⟩, h6⟩ := h
      split at h1
      · rename_i as has
        have hpa := sEs es y hX h1
        obtain ⟨hpi, hfo⟩ := s_iter (tg := tg) y hX has h1 hpa fun e' a' q1 q2 => by
          subst q1 q2
          have h7 : okE T c e' a' && notStar a' && okEs T c .nil [] = true := h1
          simp only [Bool.and_eq_true] at h7
          exact seal_of (sE e' y hX h7.1.1)
        have hbo : BlkOk X.N X.env.scope scope (ownP c own) := blkOk_by (by
          rw [blkC_eq (sc' := { kind := .function, names := c.sc, isGenerator := false, isCoroutine := false }) hX.sc, hX.N]
          exact h4)
        have eown : (ownP c own).map (·.2) = own := by
          unfold ownP
          rw [List.map_map]
          exact List.map_id' own
        have key := ps_setLc (i := i) (spos := pos) hX.calm (by rw [hX.N]; exact hX.nd) hi hloc hsw hpi hbo (g := gOf p.K t) (tt := fun σ H Q => ∃ y, rdT p C y ifs σ H Q) (te := fun σ H Q => ∃ y, rdQ p C y a σ H Q) (ifs := cs) (elt := elt)
          (fun s H D cl fp => pg_tg (hX.blk hbo.kind s H D cl fp) h2)
          (fun s H D cl fp => by
            cases cs with
            | nil =>
              have hh : ifs.isTrue = true := h5
              have hp := pts_nil (X := X.blk s H scope (compEnvC scope cl D X.env) fp)
              refine ⟨fun pins s σ H Q I q => hp.run pins s σ H Q I ?_⟩
              obtain ⟨y, S, ρ, st, q⟩ := q
              cases ifs with
              | bl b =>
                cases b with
                | true =>
                  obtain ⟨b, e1, k⟩ := (show ∃ b, Ar.v (.bl true) = .v (.bl b) ∧ ∀ H' S', Stt p y S' σ H' ρ → Sub S S' → Sub H H' → Q b H' from q)
                  cases e1
                  exact k H S st (Sub.refl _) (Sub.refl _)
                | false => cases hh
              | _ => cases hh
            | cons q cs =>
              cases cs with
              | nil => exact pts_one (PT.ex fun y => sT ifs y (hX.blk hbo.kind s H D cl fp) h5)
              | cons _ _ => cases h5)
          (fun s H D cl fp => PE.ex fun y => seal_of (sE a y (hX.blk hbo.kind s H D cl fp) h6)) hfo
        rw [eown] at key
        exact ⟨_, key, fun σ H Q q => comp_rd (fun i hi => of_decide_eq_true (List.all_eq_true.mp h3 i hi)) q⟩
      · cases h1
    · cases h
  | _ =>
    exfalso
    unfold swB at hs
    split at hs
    · first
      | (simp only [okE] at h; done)
      | (simp only [okE] at h; cases h; done)
      | (simp [okE] at h; done)
    · cases hs
theorem par_two {c : CC} {is : List Nat} {ts : List Expr} (h : parB c is ts = true) : (∃ i j x y px py, is = [i, j] ∧ ts = [.Name x px, .Name y py] ∧ loB c i x = true ∧ loB c j y = true ∧ (px.line == py.line) = true ∧ (x == y) = false ∧ i ≠ j) ∨
    ∃ i j l x y z px py pz, is = [i, j, l] ∧ ts = [.Name x px, .Name y py, .Name z pz] ∧ loB c i x = true ∧ loB c j y = true ∧ loB c l z = true ∧ (px.line == py.line) = true ∧ (px.line == pz.line) = true ∧ (x == y) = false ∧ (x == z) = false ∧ (y == z) = false ∧ i ≠ j ∧ i ≠ l ∧ j ≠ l := by
  unfold parB at h
  split at h
  · simp only [Bool.and_eq_true, Bool.not_eq_true', decide_eq_true_eq] at h
    obtain ⟨⟨⟨⟨h1, h2⟩, h3⟩, h4⟩, h5⟩ := h
    exact .inl ⟨_, _, _, _, _, _, rfl, rfl, h1, h2, h3, h4, h5⟩
  · simp only [Bool.and_eq_true, Bool.not_eq_true', decide_eq_true_eq] at h
    obtain ⟨⟨⟨⟨⟨⟨⟨⟨⟨⟨h1, h2⟩, h3⟩, h4⟩, h5⟩, h6⟩, h7⟩, h8⟩, h9⟩, h10⟩, h11⟩ := h
    exact .inr ⟨_, _, _, _, _, _, _, _, _, rfl, rfl, h1, h2, h3, h4, h5, h6, h7, h8, h9, h10, h11⟩
  · cases h
theorem sub_asg {o i : Expr} {pos : Pos} {env : Env} (h : notSlice i = true) (v : Value) : assign (.Subscript o i pos) env v = (do
      let ov ← holding [v] (eval o env)
      let iv ← holding [v, ov] (eval i env)
      standAt pos
      holding [v, ov, iv] (setItem ov iv v)
      release [v, ov, iv] []) := by
  cases i <;> first | rfl | cases h
mutual
theorem sS : ∀ (ir : SR) {X : Cx} {c : CC} (y : Dy) {st : Stmt}, XOk p C T X c → okS T c ir st = true → PS X st (rdS p y (ex C ir))
  | .set i e, X, c, y, st, hX, h => by
    simp only [okS] at h
    split at h
    · simp only [Bool.and_eq_true, Bool.or_eq_true] at h
      obtain ⟨⟨h1, h2⟩, h3⟩ := h
      obtain ⟨k1, k2, k3⟩ := hX.st h1
      rcases h3 with (h3 | h3) | h3
      · exact s_set (ps_set (by rw [hX.N]; exact hX.nd) k1 k2 (sE e y hX h2) (sw_no h3) k3) fun _ _ _ q => q
      · exact s_set (ps_set (by rw [hX.N]; exact hX.nd) k1 k2 (sE e y hX h2) (sw_n hX.kind hX.sc h3) k3) fun _ _ _ q => q
      · obtain ⟨te, a, b⟩ := s_lc y hX h2 h3 k1
        exact s_set a b
    · cases h
  | .setS i e, X, c, y, st, hX, h => by
    simp only [okS] at h
    split at h
    · simp only [Bool.and_eq_true, Bool.or_eq_true] at h
      obtain ⟨⟨h1, h2⟩, h3⟩ := h
      obtain ⟨k1, k2, k3⟩ := hX.st h1
      rcases h3 with (h3 | h3) | h3
      · exact s_setS (ps_set (by rw [hX.N]; exact hX.nd) k1 k2 (sE e y hX h2) (sw_no h3) k3) fun _ _ _ q => q
      · exact s_setS (ps_set (by rw [hX.N]; exact hX.nd) k1 k2 (sE e y hX h2) (sw_n hX.kind hX.sc h3) k3) fun _ _ _ q => q
      · obtain ⟨te, a, b⟩ := s_lc y hX h2 h3 k1
        exact s_setS a b
    · cases h
  | .unp is e, X, c, y, st, hX, h => by
    simp only [okS] at h
    split at h
    · rename_i tg v pos
      simp only [Bool.and_eq_true] at h
      obtain ⟨⟨⟨h1, h2⟩, h3⟩, h4⟩ := h
      cases tg with
      | Tuple ts k2 p2 => exact s_unp hX.K (ps_asg (sE e y hX h2) (pg_tg hX h1) (sws_no h3) (ss_no h4) rfl) fun _ _ _ q => q
      | _ => cases h1
    · cases h
  | .par is es, X, c, y, st, hX, h => by
    simp only [okS] at h
    split at h
    · rename_i ts k1 p1 vs k2 p2 pos
      simp only [Bool.and_eq_true, Bool.not_eq_true', decide_eq_true_eq] at h
      obtain ⟨⟨⟨⟨h1, h2⟩, h3⟩, h4⟩, h5⟩ := h
      have hst := okEs_star h2
      have hpa := sEs es y hX h2
      rcases par_two h1 with ⟨i, j, x, x2, px, py, rfl, rfl, a1, a2, a3, a4, a5⟩ | ⟨i, j, l, x, x2, x3, px, py, pz, rfl, rfl, a1, a2, a6, a3, a7, a4, a8, a9, a5, a10, a11⟩
      · obtain ⟨b1, b2⟩ := loB_is hX a1
        obtain ⟨c1, c2⟩ := loB_is hX a2
        obtain ⟨a, b, rfl⟩ := len_two h5
        exact s_par2 (as := []) a5 (ps_par hX.calm (by rw [hX.N]; exact hX.nd) b1 c1 a5 b2 c2 hpa (ss_two hX.kind rfl hst b2 c2 a3 a4 h3 h4) rfl)
      · obtain ⟨b1, b2⟩ := loB_is hX a1
        obtain ⟨c1, c2⟩ := loB_is hX a2
        obtain ⟨d1, d2⟩ := loB_is hX a6
        obtain ⟨a, b, d, rfl⟩ := len_three h5
        exact s_par3 (ps_par3 hX.calm (by rw [hX.N]; exact hX.nd) b1 c1 d1 a5 a10 a11 b2 c2 d2 hpa (ss_three hX.kind rfl hst b2 c2 d2 a3 a7 a4 a8 a9 h3 h4) rfl)
    · cases h
  | .aug i o e, X, c, y, st, hX, h => by
    simp only [okS] at h
    split at h
    · simp only [Bool.and_eq_true, decide_eq_true_eq] at h
      obtain ⟨⟨h1, rfl⟩, h3⟩ := h
      obtain ⟨k1, k2, k3⟩ := hX.st h1
      exact s_aug (ps_aug (by rw [hX.N]; exact hX.nd) k1 k2 (seal_of (sE e y hX h3)) (op_aug o) k3)
    · cases h
  | .setIx i k e, X, c, y, st, hX, h => by
    simp only [okS] at h
    split at h
    · simp only [Bool.and_eq_true] at h
      obtain ⟨⟨⟨⟨h1, h2⟩, h3⟩, h4⟩, h5⟩ := h
      obtain ⟨k1, k2, k3, k4⟩ := hX.vis h1
      exact s_setIx (ps_asg (sE e y hX h4) (pg_sub (pe_var k1 k2 k3 k4) (seal_of (sE k y hX h2)) set_list (sub_asg h3)) (sws_no h5) rfl rfl) fun _ _ _ q => q
    · cases h
  | .setDic _ _ _, X, c, y, st, hX, h => by simp [okS] at h
  | .newDic _, X, c, y, st, hX, h => by simp [okS] at h
  | .app i e, X, c, y, st, hX, h => by
    simp only [okS] at h
    split at h
    · simp only [Bool.and_eq_true, decide_eq_true_eq] at h
      obtain ⟨⟨⟨⟨h1, rfl⟩, h3⟩, h4⟩, h5⟩ := h
      obtain ⟨k1, k2, k3, k4⟩ := hX.vis h1
      refine s_app hX.K (ps_expr (pe_bm PySem.F.plainAttrs_list PySem.F.slot_list_append PySem.F.type_list_append mt_append (pe_var k1 k2 k3 k4) (pa_cons (seal_of (sE e y hX h4)) pa_nil (star_cons h5)) rfl ?_ h3 (star_cons h5) rfl) rfl)
      rw [star_cons h5]
      rfl
    · cases h
  | .expr e, X, c, y, st, hX, h => by
    simp only [okS] at h
    split at h
    · simp only [Bool.and_eq_true] at h
      exact s_expr (fun q => ps_expr q (sw_no h.2)) (seal_of (sE e y hX h.1))
    · cases h
  | .ret e, X, c, y, st, hX, h => by
    simp only [okS] at h
    split at h
    · exact s_ret (sE e y hX h)
    · cases h
  | .retN, X, c, y, st, hX, h => by
    simp only [okS] at h
    split at h
    · exact s_retN
    · cases h
  | .ife t a b, X, c, y, st, hX, h => by
    simp only [okS] at h
    split at h
    · simp only [Bool.and_eq_true] at h
      exact s_ife (sT t y hX h.1.1) (sSs a y hX h.1.2) (sSs b y hX h.2)
    · cases h
  | .whl t b, X, c, y, st, hX, h => by
    simp only [okS] at h
    split at h
    · simp only [Bool.and_eq_true] at h
      exact s_whl hX (sT t y hX h.1) (sSs b y hX h.2)
    · cases h
  | .for_ t k es b, X, c, y, st, hX, h => by
    simp only [okS] at h
    split at h
    · rename_i tg iter bs pos
      simp only [Bool.and_eq_true] at h
      obtain ⟨⟨h1, h2⟩, h3⟩ := h
      split at h1
      · rename_i as has
        obtain ⟨hpi, hfo⟩ := s_iter (tg := tg) y hX has h1 (sEs es y hX h1) fun e' a' q1 q2 => by
          subst q1 q2
          have h7 : okE T c e' a' && notStar a' && okEs T c .nil [] = true := h1
          simp only [Bool.and_eq_true] at h7
          exact seal_of (sE e' y hX h7.1.1)
        exact s_for hX hpi (pg_tg hX h2) (fun y => sSs b y hX h3) hfo
      · cases h1
    · cases h
  | .brk, X, c, y, st, hX, h => by
    simp only [okS] at h
    split at h
    · exact s_pass ps_break .bk _ (fun _ => rfl) (fun _ _ _ q => q) fun r => by intro z; cases z
    · cases h
  | .cont, X, c, y, st, hX, h => by
    simp only [okS] at h
    split at h
    · exact s_pass ps_continue .ct _ (fun _ => rfl) (fun _ _ _ q => q) fun r => by intro z; cases z
    · cases h
  | .pass, X, c, y, st, hX, h => by
    simp only [okS] at h
    split at h
    · exact s_pass ps_pass .nx _ (fun _ => rfl) (fun _ _ _ q => q) fun r => by intro z; cases z
    · exact s_pass ps_doc .nx _ (fun _ => rfl) (fun _ _ _ q => q) fun r => by intro z; cases z
    · cases h
theorem sSs : ∀ (ss : SRs) {X : Cx} {c : CC} (y : Dy) {as : List Stmt}, XOk p C T X c → okSs T c ss as = true → PSs X as (rdS p y (exs C ss))
  | .nil, X, c, y, as, hX, h => by
    cases as with
    | nil => exact b_nil
    | cons _ _ => simp [okSs] at h
  | .cons a es, X, c, y, as, hX, h => by
    cases as with
    | nil => simp [okSs] at h
    | cons e as =>
      simp only [okSs, Bool.and_eq_true] at h
      exact b_cons (sS a y hX h.1) (sSs es y hX h.2)
end
end
end DS
/-! ## Defs -/
namespace DS
open PySem PySem.Spec PyProof.Rows L2
section
variable {P : Program} {w : World} {K : PySem.W.Frag} {mg : Str → Option Value} {base : Heap}
/-- a def whose meaning is known, as it is called -/
structure FnG (P : Program) (w : World) (K : PySem.W.Frag) (mg : Str → Option Value) (base : Heap) (p : Par) (k : Nat) (m : List D → Out Ar) (nm : Str) (ps : List Str) (fd : FuncData) : Prop where
  ex : ∃ a : Addr, FnOk P w K mg base CX0 k a fd ps (spD p ps.length m) ∧ mg nm = some (.ref a) ∧ PySem.W.keepIn K (.ref a) = true ∧ Binds K fd ps []
theorem FnG.mono {p : Par} {j k : Nat} {m : List D → Out Ar} {nm : Str} {ps : List Str} {fd : FuncData} (h : FnG P w K mg base p j m nm ps fd) (l : j ≤ k) : FnG P w K mg base p k m nm ps fd :=
  let ⟨a, f, r⟩ := h.ex
  ⟨a, f.mono l, r⟩
theorem start_stt {p : Par} {N : List Str} {vs : List V} {S H : Hp} {ds : List D} (sub : Sub S H) (r : Reps p S ds vs) (hl : ds.length ≤ N.length) : Stt p ⟨H, S, fun _ => none⟩ S (L2.start N vs) H (ds.map Sl.val ++ List.replicate (N.length - ds.length) .un) where
  sub := sub
  same := Sub.refl _
  sub0 := Sub.refl _
  old := fun _ _ => rfl
  len := by
    have := r.length
    simp [L2.start]
    omega
  lk := fun j l h => by cases h
  sl := fun i s h => by
    have hlen := r.length
    by_cases hi : i < ds.length
    · rw [List.getElem?_append_left (by simpa using hi), List.getElem?_map] at h
      cases e : ds[i]? with
      | none => rw [e] at h; cases h
      | some d =>
        rw [e] at h
        cases h
        obtain ⟨v, e2, rv⟩ := r.get e
        refine ⟨v, ?_, rv⟩
        unfold L2.start
        rw [List.getElem?_append_left (by rw [List.length_map]; omega), List.getElem?_map, e2]
        rfl
    · rw [List.getElem?_append_right (by simpa using Nat.le_of_not_lt hi)] at h
      have := List.mem_of_getElem? h
      rw [List.eq_of_mem_replicate this]
      exact trivial
  sep := fun i j s t l h1 h2 o1 _ _ _ => by
    exfalso
    have : s ∈ ds.map Sl.val ++ List.replicate (N.length - ds.length) .un := List.mem_of_getElem? h1
    rcases List.mem_append.mp this with q | q
    · obtain ⟨d, _, rfl⟩ := List.mem_map.mp q
      cases o1
    · rw [List.eq_of_mem_replicate q] at o1
      cases o1
theorem def_ok {p : Par} {C : Cxt} {T : Tab} {df : Df} {x qual : Str} {st : Stmt} {f : Addr} {fd : FuncData} {N ps : List Str} {k : Nat} (hK : K = p.K) (F : Fun K x qual st f fd) (S : FnScope N ps (defScope st)) (hs : df.slots = N.length) (ha : df.arity = ps.length)
    (hck : okSs T ⟨N, (defScope st).names, (defScope st).names⟩ df.body (defBody st) = true) (hblt : ∀ x ∈ bltNames, mg x = none)
    (hfns : ∀ (f : Nat) (nm : Str) (qs : List Str), T.fns[f]? = some (nm, qs) → ∃ fd, FnG P w K mg base p k (C.fn f) nm qs fd)
    (hkeys : ∀ (f : Nat) (nm : Str) (qs : List Str), f < T.keys → T.fns[f]? = some (nm, qs) → ∃ j fd, j + 2 ≤ k ∧ FnG P w K mg base p j (C.fn f) nm qs fd)
    (hkws : ∀ (f : Nat) (ks : List Str) (perm : List Nat) (nm : Str) (qs : List Str), (f, ks, perm) ∈ T.kws → T.fns[f]? = some (nm, qs) → perm.length = qs.length ∧ ∃ fd, FnG P w K mg base p k (C.fn f) nm qs fd ∧ KBinds K fd qs ks (gPerm ks qs.length perm) (gPermV ks qs.length perm)) :
    FnOk P w K mg base CX0 (k + 1) f fd ps (spD p ps.length (run C df)) := by
  refine F.ok S (fun vs H Q E h => h.len) fun cdv A outer s H vs Q E hr h => ?_
  obtain ⟨S0, ds, sub, rep, hlen, hres⟩ := h
  have hX : XOk p C T (cxOf CX0 P w K mg base N qual (defScope st) f cdv A outer s H E).nox ⟨N, (defScope st).names, (defScope st).names⟩ := {
    K := hK
    calm := rfl
    N := rfl
    nd := S.nd
    kind := S.kind
    sc := rfl
    sto := fun x h => ⟨h, .inl rfl⟩
    blt := hblt
    units := by
      have := hr.un
      show (A.deeper (envOfC qual (defScope st) s.heap.objs.size f cdv)).units + 64 < cLine
      omega
    pass := PassesOwn.never
    fns := fun f nm qs e => by
      obtain ⟨fd, a, h1, h2, h3, h4⟩ := hfns f nm qs e
      exact ⟨⟨k, a, fd, h1, hr, h2, h3, h4⟩⟩
    srt := fun f nm qs e0 e => by
      obtain ⟨j, fd, hj, a, h1, h2, h3, h4⟩ := hkeys f nm qs e0 e
      exact ⟨⟨j, a, fd, h1, hr.mono hj, h2, h3, h4⟩⟩
    kws := fun f ks perm nm qs e1 e2 => by
      obtain ⟨hl, fd, ⟨a, h1, h2, h3, h4⟩, hb⟩ := hkws f ks perm nm qs e1 e2
      exact ⟨⟨k, a, fd, h1, hr, h2, h3, hb⟩, hl⟩ }
  refine ⟨_, sSs df.body ⟨H, S0, fun _ => none⟩ hX hck, ?_⟩
  have hN : ps.length ≤ N.length := by
    have := congrArg List.length S.pre
    rw [List.length_take] at this
    omega
  refine ⟨S0, _, start_stt sub rep (by omega), ?_⟩
  unfold run at hres
  rw [if_pos (by omega), hs] at hres
  obtain ⟨⟨fl, ρ'⟩, e, q⟩ := Res.bnd hres
  rw [e]
  intro σ' H' S' st' hS
  cases fl with
  | nx => exact (q : Res (Out.ok (Ar.v .non)) _) .non H' S' st'.sub0 st'.sub st'.same st'.old rfl
  | bk => exact q.elim
  | ct => exact q.elim
  | rt r =>
    intro v ra
    dsimp only at q
    cases r with
    | v d => exact (q : Res (Out.ok (Ar.v d)) _) v H' S' st'.sub0 st'.sub st'.same st'.old ra
    | fr es =>
      obtain ⟨l, vs, e1, a1, a2, a3, a4, _⟩ := ra
      exact (q : Res (Out.ok (Ar.fr es)) _) v H' S' st'.sub0 st'.sub st'.same st'.old ⟨l, vs, e1, a1, a2, a3, a4⟩
    | br i es => exact q.elim
theorem gen_perm_rel {ks : List Str} {n : Nat} {perm : List Nat} {vs zs : List V} {us ws : List Value} (r : Vals vs us) (q : Vals zs ws) : Vals (gPermV ks n perm vs zs) (gPerm ks n perm us ws) := by
  unfold gPermV gPerm
  have e1 : (us = [] ↔ vs = []) := by cases r <;> simp
  have e2 := q.length
  by_cases h : vs = [] ∧ zs.length = ks.length
  · rw [if_pos h, if_pos ⟨e1.mpr h.1, by rw [← e2]; exact h.2⟩]
    have hg : ∀ j, RelV (zs.getD j .non) (ws.getD j .none) := by
      clear e1 e2 h
      induction q with
      | nil => intro j; simp; exact rfl
      | cons a b ih =>
        intro j
        cases j with
        | zero => simpa using a
        | succ j => simpa using ih j
    clear e1 e2 h
    induction perm with
    | nil => exact .nil
    | cons j js ih => exact .cons (hg j) ih
  · rw [if_neg h, if_neg (fun z => h ⟨e1.mp z.1, by rw [e2]; exact z.2⟩)]
    generalize n + 1 = m
    induction m with
    | zero => exact .nil
    | succ m ih => exact .cons rfl ih
theorem kw_binds {x qual : Str} {st : Stmt} {f : Addr} {fd : FuncData} {ps ks : List Str} {perm : List Nat} (F : Fun K x qual st f fd)
    (h : ∀ (kV doc pm : Value) (an : Option Addr) (cdv ct : Value) (ws : List Value), ws.length = ks.length → bindArgs (PySem.W.fnOf x qual (defArgs st) (defBody st) (defScope st) .none kV doc pm an cdv ct) ⟨[], ks.zip ws⟩ = pure (ps.zip (perm.map fun j => ws.getD j .none))) : KBinds K fd ps ks (gPerm ks ps.length perm) (gPermV ks ps.length perm) where
  to := fun s us ws _ hl => by
    obtain ⟨oc, od, kV, doc, pm, an, cdv, ct, osl, rfl, lk, hcd⟩ := F.ex
    unfold gPerm at hl ⊢
    by_cases h2 : us = [] ∧ ws.length = ks.length
    · obtain ⟨rfl, h2⟩ := h2
      rw [if_pos ⟨rfl, h2⟩]
      exact .of_eq (h kV doc pm an cdv ct ws h2)
    · rw [if_neg h2] at hl
      simp at hl
  rel := gen_perm_rel
end
end DS
/-! ## A text of defs, in the order of calls -/
namespace DS
open PySem PySem.Spec PyProof.Rows L2
def Cxt.ext (c : Cxt) (n : Nat) (m : List D → Out Ar) : Cxt := { c with fn := fun j => if j = n then m else c.fn j }
section
variable {P : Program} {w : World} {K : PySem.W.Frag} {mg : Str → Option Value} {base : Heap}
def FactE (K : PySem.W.Frag) (nm : Str) (st : Stmt) : Prop := ∃ (f : Addr) (fd : FuncData), PySem.W.nsIn K mainGlobals nm = some (some (.ref f)) ∧ Fun K nm nm st f fd
theorem factE {nm : Str} {st : Stmt} {f : Addr} {oc : Value} {od an : Option Addr} {osl : Array (Option Value)} {kV doc pm cdv ct : Value} (a : PySem.W.nsIn K mainGlobals nm = some (some (.ref f)))
    (l : K.lookup f = some ⟨oc, od, .func (PySem.W.fnOf nm nm (defArgs st) (defBody st) (defScope st) .none kV doc pm an cdv ct), osl⟩) (c : PySem.W.codeIn K cdv nm = true) (k : PySem.W.keepIn K (.ref f) = true) : FactE K nm st :=
  ⟨f, _, a, fun_mk l c k⟩
theorem take_lt {α : Type} {G : List α} {n f : Nat} {x : α} (h : (G.take n)[f]? = some x) : f < n := by
  rw [List.getElem?_take] at h
  split at h
  · assumption
  · cases h
structure Tb (P : Program) (w : World) (K : PySem.W.Frag) (mg : Str → Option Value) (base : Heap) (p : Par) (G : List (Str × List Str)) (W : List (Nat × List Str × List Nat)) (n : Nat) (c : Cxt) : Prop where
  fns : ∀ (f : Nat) (nm : Str) (qs : List Str), (G.take n)[f]? = some (nm, qs) → ∃ fd, FnG P w K mg base p (f + 1) (c.fn f) nm qs fd ∧ ∀ q ∈ W.filter (fun q => q.1 == f), q.2.2.length = qs.length ∧ KBinds K fd qs q.2.1 (gPerm q.2.1 qs.length q.2.2) (gPermV q.2.1 qs.length q.2.2)
theorem Tb.zero {p : Par} {G : List (Str × List Str)} {W : List (Nat × List Str × List Nat)} {c : Cxt} : Tb P w K mg base p G W 0 c := ⟨fun f nm qs h => by simp at h⟩
theorem Tb.one {p : Par} {G : List (Str × List Str)} {W : List (Nat × List Str × List Nat)} {n : Nat} {c : Cxt} {nm : Str} {ps N : List Str} {st : Stmt} {df : Df} {f : Addr} {fd : FuncData} (t : Tb P w K mg base p G W n c) (hK : K = p.K) (hblt : ∀ x ∈ bltNames, mg x = none)
    (hF : Fun K nm nm st f fd) (S : FnScope N ps (defScope st)) (hs : df.slots = N.length) (ha : df.arity = ps.length)
    (hck : okSs ⟨G.take n, W, n - 2⟩ ⟨N, (defScope st).names, (defScope st).names⟩ df.body (defBody st) = true) :
    FnOk P w K mg base CX0 (n + 1) f fd ps (spD p ps.length (run c df)) := def_ok (T := ⟨G.take n, W, n - 2⟩) hK hF S hs ha hck hblt
    (fun f nm qs h => by
      obtain ⟨fd, h1, _⟩ := t.fns f nm qs h
      exact ⟨fd, h1.mono (take_lt h)⟩)
    (fun f nm qs h0 h => by
      obtain ⟨fd, h1, _⟩ := t.fns f nm qs h
      exact ⟨f + 1, fd, by have : f < n - 2 := h0; omega, h1⟩)
    (fun f ks perm nm qs h1 h2 => by
      obtain ⟨fd, h3, h4⟩ := t.fns f nm qs h2
      obtain ⟨a, b⟩ := h4 (f, ks, perm) (List.mem_filter.mpr ⟨h1, by simp⟩)
      exact ⟨a, fd, h3.mono (take_lt h2), b⟩)
theorem Tb.add {p : Par} {G : List (Str × List Str)} {W : List (Nat × List Str × List Nat)} {n : Nat} {c : Cxt} {nm : Str} {ps N : List Str} {st : Stmt} {df : Df} (t : Tb P w K mg base p G W n c) (hK : K = p.K) (hmg : ∀ (x : Str) (v : Value), PySem.W.nsIn K mainGlobals x = some (some v) → mg x = some v) (hblt : ∀ x ∈ bltNames, mg x = none)
    (hG : G[n]? = some (nm, ps)) (F : FactE K nm st) (S : FnScope N ps (defScope st)) (hs : df.slots = N.length) (ha : df.arity = ps.length)
    (hck : okSs ⟨G.take n, W, n - 2⟩ ⟨N, (defScope st).names, (defScope st).names⟩ df.body (defBody st) = true)
    (hb : ∀ (kV doc pm : Value) (an : Option Addr) (cdv ct : Value) (us : List Value), us.length = ps.length → bindArgs (PySem.W.fnOf nm nm (defArgs st) (defBody st) (defScope st) .none kV doc pm an cdv ct) ⟨us, []⟩ = pure (ps.zip us))
    (hk : ∀ q ∈ W.filter (fun q => q.1 == n), q.2.2.length = ps.length ∧ ∀ (kV doc pm : Value) (an : Option Addr) (cdv ct : Value) (ws : List Value), ws.length = q.2.1.length → bindArgs (PySem.W.fnOf nm nm (defArgs st) (defBody st) (defScope st) .none kV doc pm an cdv ct) ⟨[], q.2.1.zip ws⟩ = pure (ps.zip (q.2.2.map fun j => ws.getD j .none))) :
    Tb P w K mg base p G W (n + 1) (c.ext n (run c df)) := by
  obtain ⟨f, fd, hf, hF⟩ := F
  have hok : FnOk P w K mg base CX0 (n + 1) f fd ps (spD p ps.length (run c df)) := t.one hK hblt hF S hs ha hck
  refine ⟨fun j nm' qs h => ?_⟩
  by_cases hj : j = n
  · subst hj
    have h : (nm', qs) = (nm, ps) := by
      rw [List.getElem?_take] at h
      simp only [Nat.lt_succ_self, if_true] at h
      rw [hG] at h
      exact (Option.some.inj h).symm
    cases h
    refine ⟨fd, ⟨f, ?_, hmg _ _ hf, hF.kp, hF.binds hb⟩, fun q hq => ⟨(hk q hq).1, kw_binds hF (hk q hq).2⟩⟩
    show FnOk P w K mg base CX0 (j + 1) f fd ps (spD p ps.length ((c.ext j (run c df)).fn j))
    unfold Cxt.ext
    dsimp only
    rw [if_pos rfl]
    exact hok
  · have h' : (G.take n)[j]? = some (nm', qs) := by
      rw [List.getElem?_take] at h ⊢
      split at h
      · rename_i hl
        rw [if_pos (by omega)]
        exact h
      · cases h
    obtain ⟨fd', h1, h2⟩ := t.fns j nm' qs h'
    refine ⟨fd', ?_, h2⟩
    have e : (c.ext n (run c df)).fn j = c.fn j := by
      unfold Cxt.ext
      dsimp only
      rw [if_neg hj]
    rw [e]
    exact h1
end
/-- the sp of a law that is true -/
def spLaw (K : PySem.W.Frag) (B : List Int → Prop) : Sp := fun vs H Q _ => ∃ (a : Addr) (ns : List Int), vs = [.ref a] ∧ SqL K H a (ns.map V.int) ∧ ns.length ≤ 63 ∧ B ns ∧ ∀ H', Q (.bl true) H'
theorem spLaw_of {p : Par} {K : PySem.W.Frag} (hK : K = p.K) {m : List D → Out Ar} {B : List Int → Prop} (hm : ∀ ns : List Int, ns.length ≤ 63 → B ns → m [.rol (ns.map .int)] = .ok (.v (.bl true))) (vs : List V) (H : Hp) (Q : VK) (E : XK) (h : spLaw K B vs H Q E) : spD p 1 m vs H Q E := by
  obtain ⟨a, ns, rfl, hS, hl, hB, hQ⟩ := h
  subst hK
  refine ⟨H, [.rol (ns.map .int)], Sub.refl _, ⟨.ref a, [], rfl, ⟨a, ns.map V.int, rfl, hS, Reps.ints.mpr rfl⟩, rfl⟩, rfl, ?_⟩
  rw [hm ns hl hB]
  intro v H' S' _ _ _ _ r
  cases (show v = .bl true from r)
  exact hQ H'
theorem walk_D {l : PySem.W.OpenLaw} {q : Program} {loose : List Str} {XP : (Str → Option Value) → Heap → Prop} {YP : World → Heap → Prop} {d : DefRec} {K : Params → PySem.W.Frag} {k : Nat} {x : Str} (hn : l.most = some 63) (hdf : d.params.defaults = []) (hr : Room k callerA)
    (hY : ∀ (w : World) (h : Heap), YP w h → (K w.params).In h)
    (F : ∀ (w : World) (mg : Str → Option Value) (fa : Addr) (h : Heap), (K w.params).In h → h.Ns mainGlobals mg → mg d.name = some (.ref fa) →
      ∃ fd : FuncData, (∀ (s : Shared) (u : Value), BindsTo s fd ⟨[u], []⟩ [(x, u)]) ∧ ∀ base : Heap, (K w.params).In base → base.Ns mainGlobals mg → FnOk l.prog w (K w.params) mg base CX0 k fa fd [x] (spLaw (K w.params) fun ns => ∀ z ∈ ns, Builtin.Int.intBits z ≤ 1048576)) :
    PySem.W.WalkO q loose XP YP l.row.toRowW d [] (fun f vs => PySem.call f vs) :=
  L2.walk_ofB (n := 63) (k := k) (x := x) (CX := fun _ => CX0) (sp := fun w => spLaw (K w.params) fun ns => ∀ z ∈ ns, Builtin.Int.intBits z ≤ 1048576) hn (by decide) hdf hr hY F (fun _ _ a ns hl hb _ hS => ⟨a, ns, rfl, hS, hl, hb, fun _ => rfl⟩) fun _ _ _ _ _ z => z
end DS
/-! ## Reckoning with the evaluator -/
namespace DS
open PySem PySem.Spec PyProof.Rows L2
def Sat {α : Type} (x : Out α) (Q : α → Prop) : Prop := ∃ a, x = .ok a ∧ Q a
theorem Sat.ok {α : Type} {a : α} {Q : α → Prop} (h : Q a) : Sat (.ok a) Q := ⟨a, rfl, h⟩
theorem Sat.mono {α : Type} {x : Out α} {Q R : α → Prop} (h : Sat x Q) (k : ∀ a, Q a → R a) : Sat x R := let ⟨a, e, q⟩ := h; ⟨a, e, k a q⟩
theorem Sat.bnd {α β : Type} {x : Out α} {f : α → Out β} {Q : β → Prop} (h : Sat x fun a => Sat (f a) Q) : Sat (x.bnd f) Q := by
  obtain ⟨a, e, q⟩ := h
  rw [e]
  exact q
theorem Sat.of_eq {α : Type} {x y : Out α} {Q : α → Prop} (e : x = y) (h : Sat y Q) : Sat x Q := e ▸ h
section
variable {C : Cxt}
/-- how a statement ends -/
def Nx (Q : Fl × En → Prop) (K : En → Prop) : Fl × En → Prop := fun z => match z.1 with
  | .nx => K z.2
  | f => Q (f, z.2)
theorem exs_nil {σ : En} {Q : Fl × En → Prop} (h : Q (.nx, σ)) : Sat (exs C .nil σ) Q := ⟨_, rfl, h⟩
theorem exs_cons {s : SR} {ss : SRs} {σ : En} {Q : Fl × En → Prop} (h : Sat (ex C s σ) (Nx Q fun σ1 => Sat (exs C ss σ1) Q)) : Sat (exs C (.cons s ss) σ) Q := by
  obtain ⟨⟨f, σ1⟩, e, q⟩ := h
  show Sat ((ex C s σ).bnd _) Q
  rw [e]
  cases f with
  | nx => exact q
  | bk => exact ⟨_, rfl, q⟩
  | ct => exact ⟨_, rfl, q⟩
  | rt r => exact ⟨_, rfl, q⟩
/-- a statement that is reckoned through -/
theorem exs_next {s : SR} {ss : SRs} {σ σ1 : En} {Q : Fl × En → Prop} (e : ex C s σ = .ok (.nx, σ1)) (h : Sat (exs C ss σ1) Q) : Sat (exs C (.cons s ss) σ) Q := exs_cons ⟨_, e, h⟩
theorem exs_rt {s : SR} {ss : SRs} {σ σ1 : En} {r : Ar} {Q : Fl × En → Prop} (e : ex C s σ = .ok (.rt r, σ1)) (h : Q (.rt r, σ1)) : Sat (exs C (.cons s ss) σ) Q := exs_cons ⟨_, e, h⟩
theorem run_sat {d : Df} {xs : List D} {Q : Ar → Prop} (hl : xs.length = d.arity) (h : Sat (exs C d.body (xs.map Sl.val ++ List.replicate (d.slots - xs.length) .un)) fun z => match z.1 with
    | .rt r => r.isB = false ∧ Q r
    | .nx => Q (.v .non)
    | _ => False) : Sat (run C d xs) Q := by
  obtain ⟨⟨f, σ1⟩, e, q⟩ := h
  unfold run
  rw [if_pos hl, e]
  cases f with
  | nx => exact ⟨_, rfl, q⟩
  | bk => exact q.elim
  | ct => exact q.elim
  | rt r =>
    dsimp only [Out.bnd] at q ⊢
    rw [if_neg (by rw [q.1]; simp)]
    exact ⟨_, rfl, q.2⟩
theorem lockers_nil : ∀ {rs : List Ar} {σ : En}, rs.any Ar.isB = false → lockers rs σ = []
  | [], _, _ => rfl
  | r :: rs, σ, h => by
    rw [List.any_cons, Bool.or_eq_false_iff] at h
    cases r with
    | br i ds => cases h.1
    | v d => exact lockers_nil (rs := rs) h.2
    | fr ds => exact lockers_nil (rs := rs) h.2
theorem okBr_nil : ∀ {rs : List Ar} {σ : En}, rs.any Ar.isB = false → okBr rs σ = true
  | [], _, _ => rfl
  | r :: rs, σ, h => by
    rw [List.any_cons, Bool.or_eq_false_iff] at h
    cases r with
    | br i ds => cases h.1
    | v d => exact okBr_nil (rs := rs) h.2
    | fr ds => exact okBr_nil (rs := rs) h.2
theorem forLoop_sat {t : Tg} {b : En → Out (Fl × En)} {xs : List D} {Q : Fl × En → Prop} (I : Nat → En → Prop)
    (step : ∀ (i : Nat) (x : D) (σ : En), xs[i]? = some x → I i σ → ∃ σ1, asg t x σ = some σ1 ∧ Sat (b σ1) fun z => match z.1 with
      | .nx => I (i + 1) z.2
      | .ct => I (i + 1) z.2
      | .bk => Q (.nx, z.2)
      | .rt r => Q (.rt r, z.2)) (fin : ∀ σ, I xs.length σ → Q (.nx, σ)) : ∀ (n i : Nat) (σ : En), n = xs.length - i → i ≤ xs.length → I i σ → Sat (forLoop t b (xs.drop i) σ) Q
  | 0, i, σ, hn, hi, h => by
    have e : i = xs.length := by omega
    subst e
    rw [List.drop_length]
    exact ⟨_, rfl, fin σ h⟩
  | n + 1, i, σ, hn, hi, h => by
    have hlt : i < xs.length := by omega
    rw [List.drop_eq_getElem_cons hlt]
    obtain ⟨σ1, e1, ⟨f, σ2⟩, e2, q⟩ := step i xs[i] σ (List.getElem?_eq_getElem hlt) h
    unfold forLoop
    rw [e1]
    dsimp only
    rw [e2]
    have ih := forLoop_sat I step fin n (i + 1)
    cases f with
    | nx => exact ih σ2 (by omega) hlt q
    | ct => exact ih σ2 (by omega) hlt q
    | bk => exact ⟨_, rfl, q⟩
    | rt r => exact ⟨_, rfl, q⟩
theorem for_sat {t : Tg} {k : ItK} {es : IRs} {b : SRs} {σ σ1 : En} {rs : List Ar} {xs : List D} {Q : Fl × En → Prop} (he : evs C es σ = .ok (rs, σ1)) (hx : itD k (rs.map Ar.view) = some xs) (hb : rs.any Ar.isB = false) (I : Nat → En → Prop) (h0 : I 0 σ1)
    (step : ∀ (i : Nat) (x : D) (σ : En), xs[i]? = some x → I i σ → ∃ σ1, asg t x σ = some σ1 ∧ Sat (exs C b σ1) fun z => match z.1 with
      | .nx => I (i + 1) z.2
      | .ct => I (i + 1) z.2
      | .bk => Q (.nx, z.2)
      | .rt r => Q (.rt r, z.2)) (fin : ∀ σ, I xs.length σ → Q (.nx, σ)) : Sat (ex C (.for_ t k es b) σ) Q := by
  show Sat ((evs C es σ).bnd _) Q
  rw [he]
  dsimp only [Out.bnd]
  rw [hx]
  dsimp only
  rw [if_pos (okBr_nil hb), lockers_nil hb]
  dsimp only [List.foldl, List.foldr]
  obtain ⟨⟨f, σ2⟩, e, q⟩ := forLoop_sat I step fin _ 0 σ1 rfl (Nat.zero_le _) h0
  rw [List.drop_zero] at e
  rw [e]
  exact ⟨_, rfl, q⟩
/-- a loop over an own list -/
theorem for_br {t : Tg} {es : IRs} {b : SRs} {σ σ1 : En} {j : Nat} {xs : List D} {Q : Fl × En → Prop} (he : evs C es σ = .ok ([.br j xs], σ1)) (ho : σ1[j]? = some (.own xs)) (I : Nat → En → Prop) (h0 : I 0 (σ1.set j (.lock xs)))
    (step : ∀ (i : Nat) (x : D) (σ : En), xs[i]? = some x → I i σ → ∃ σ1, asg t x σ = some σ1 ∧ Sat (exs C b σ1) fun z => match z.1 with
      | .nx => I (i + 1) z.2
      | .ct => I (i + 1) z.2
      | .bk => Q (.nx, unlockAt z.2 j)
      | .rt r => Q (.rt r, unlockAt z.2 j)) (fin : ∀ σ, I xs.length σ → Q (.nx, unlockAt σ j)) : Sat (ex C (.for_ t .seq es b) σ) Q := by
  show Sat ((evs C es σ).bnd _) Q
  rw [he]
  have hl : lockers [.br j xs] σ1 = [j] := by simp [lockers, ho]
  have hk : okBr [.br j xs] σ1 = true := by simp [okBr, ho]
  have hx : itD .seq ([Ar.br j xs].map Ar.view) = some xs := rfl
  dsimp only [Out.bnd]
  rw [hx]
  dsimp only
  rw [if_pos hk, hl]
  dsimp only [List.foldl, List.foldr]
  have e0 : lockAt σ1 j = σ1.set j (.lock xs) := by unfold lockAt; rw [ho]
  rw [e0]
  obtain ⟨⟨f, σ2⟩, e, q⟩ := forLoop_sat (Q := fun z => Q (z.1, unlockAt z.2 j)) I step fin _ 0 _ rfl (Nat.zero_le _) h0
  rw [List.drop_zero] at e
  rw [e]
  exact ⟨_, rfl, q⟩
/-- a comprehension: what each turn makes -/
theorem comp_loop {f : D → En → Out (Option D × En)} {g : D → Option D} {τ : En} : ∀ (xs : List D), (∀ x ∈ xs, f x τ = .ok (g x, τ)) → compLoop f xs τ = .ok (xs.filterMap g, τ)
  | [], _ => rfl
  | x :: xs, h => by
    show (f x τ).bnd _ = _
    rw [h x (List.mem_cons_self ..)]
    dsimp only [Out.bnd]
    rw [comp_loop xs fun y hy => h y (List.mem_cons_of_mem _ hy)]
    cases e : g x <;> simp [consO, e]
def turnOf (C : Cxt) (t : Tg) (own : List Nat) (ifs e : IR) (x : D) (τ : En) : Out (Option D × En) := match asg t x τ with
  | none => .bad
  | some τ1 => (ev C ifs τ1).bnd fun (kv, τ2) => match kv with
    | .v (.bl k) => if k = true then (sq (ev C e τ2)).bnd fun (r, τ3) => if r.isB then .bad else .ok (some r.view, wipeE τ3 own)
      else .ok (none, wipeE τ2 own)
    | _ => .bad
def compFin (C : Cxt) (t : Tg) (own : List Nat) (ifs e : IR) (rs : List Ar) (σ1 : En) (xs : List D) : Out (Ar × En) :=
  if (noOwn ((lockers rs σ1).foldl lockAt σ1) own && okBr rs σ1) = true then
    (compLoop (turnOf C t own ifs e) xs (wipeE ((lockers rs σ1).foldl lockAt σ1) own)).bnd fun w =>
      if w.1.length ≤ sizeLine then .ok (.fr w.1, (lockers rs σ1).foldr (fun i τ => unlockAt τ i) (backE ((lockers rs σ1).foldl lockAt σ1) w.2 own)) else .bad
  else .bad
theorem comp_unf {t : Tg} {own : List Nat} {k : ItK} {es : IRs} {ifs e : IR} {σ : En} : ev C (.comp t own k es ifs e) σ = (evs C es σ).bnd fun z => match itD k (z.1.map Ar.view) with
    | none => .bad
    | some xs => compFin C t own ifs e z.1 z.2 xs := by
  rw [ev]
  rfl
theorem comp_eq {t : Tg} {own : List Nat} {k : ItK} {es : IRs} {ifs e : IR} {σ σ1 : En} {rs : List Ar} {xs : List D} {g : D → Option D} (he : evs C es σ = .ok (rs, σ1)) (hx : itD k (rs.map Ar.view) = some xs) (hb : rs.any Ar.isB = false) (hn : noOwn σ1 own = true)
    (turn : ∀ x ∈ xs, turnOf C t own ifs e x (wipeE σ1 own) = .ok (g x, wipeE σ1 own)) (hl : (xs.filterMap g).length ≤ sizeLine) : ev C (.comp t own k es ifs e) σ = .ok (.fr (xs.filterMap g), backE σ1 (wipeE σ1 own) own) := by
  rw [comp_unf, he]
  show (match itD k (rs.map Ar.view) with | none => _ | some xs => compFin C t own ifs e rs σ1 xs) = _
  rw [hx]
  show compFin C t own ifs e rs σ1 xs = _
  unfold compFin
  rw [lockers_nil hb, okBr_nil hb]
  show (if (noOwn σ1 own && true) = true then (compLoop (turnOf C t own ifs e) xs (wipeE σ1 own)).bnd (fun w => if w.1.length ≤ sizeLine then Out.ok (Ar.fr w.1, backE σ1 w.2 own) else .bad) else .bad) = _
  rw [if_pos (by rw [hn]; rfl), comp_loop xs turn]
  show (if (xs.filterMap g).length ≤ sizeLine then Out.ok (Ar.fr (xs.filterMap g), backE σ1 (wipeE σ1 own) own) else .bad) = _
  rw [if_pos hl]
/-- a comprehension over an own list -/
theorem comp_br {t : Tg} {own : List Nat} {es : IRs} {ifs e : IR} {σ σ1 : En} {j : Nat} {xs : List D} {g : D → Option D} (he : evs C es σ = .ok ([.br j xs], σ1)) (ho : σ1[j]? = some (.own xs)) (hn : noOwn (σ1.set j (.lock xs)) own = true)
    (turn : ∀ x ∈ xs, turnOf C t own ifs e x (wipeE (σ1.set j (.lock xs)) own) = .ok (g x, wipeE (σ1.set j (.lock xs)) own)) (hl : (xs.filterMap g).length ≤ sizeLine) : ev C (.comp t own .seq es ifs e) σ = .ok (.fr (xs.filterMap g), unlockAt (backE (σ1.set j (.lock xs)) (wipeE (σ1.set j (.lock xs)) own) own) j) := by
  have hl' : lockers [.br j xs] σ1 = [j] := by simp [lockers, ho]
  have hk : okBr [.br j xs] σ1 = true := by simp [okBr, ho]
  have e0 : lockAt σ1 j = σ1.set j (.lock xs) := by unfold lockAt; rw [ho]
  rw [comp_unf, he]
  show compFin C t own ifs e [.br j xs] σ1 xs = _
  unfold compFin
  rw [hl', hk]
  show (if (noOwn (lockAt σ1 j) own && true) = true then (compLoop (turnOf C t own ifs e) xs (wipeE (lockAt σ1 j) own)).bnd (fun w => if w.1.length ≤ sizeLine then Out.ok (Ar.fr w.1, unlockAt (backE (lockAt σ1 j) w.2 own) j) else .bad) else .bad) = _
  rw [e0, if_pos (by rw [hn]; rfl), comp_loop xs turn]
  show (if (xs.filterMap g).length ≤ sizeLine then Out.ok (Ar.fr (xs.filterMap g), unlockAt (backE (σ1.set j (.lock xs)) (wipeE (σ1.set j (.lock xs)) own) own) j) else .bad) = _
  rw [if_pos hl]
end
theorem rangeD_eq : ∀ (n : Nat) (lo : Int), rangeD lo n = (List.range n).map fun k : Nat => D.int (lo + (k : Int))
  | 0, _ => rfl
  | n + 1, lo => by
    rw [rangeD, rangeD_eq n, List.range_succ_eq_map, List.map_cons, List.map_map]
    have e0 : lo + ((0 : Nat) : Int) = lo := by omega
    rw [e0]
    refine congrArg (D.int lo :: ·) (List.map_congr_left fun k _ => ?_)
    show D.int (lo + 1 + (k : Int)) = D.int (lo + ((k + 1 : Nat) : Int))
    congr 1
    omega
theorem enumD_eq : ∀ (xs : List D) (n : Nat), (enumD n xs).length = xs.length ∧ ∀ i, (enumD n xs)[i]? = xs[i]?.map fun d => D.tup [.int ((n + i : Nat) : Int), d]
  | [], n => ⟨rfl, fun i => by simp [enumD]⟩
  | x :: xs, n => by
    obtain ⟨h1, h2⟩ := enumD_eq xs (n + 1)
    refine ⟨congrArg (· + 1) h1, fun i => ?_⟩
    cases i with
    | zero => simp [enumD]
    | succ i =>
      have := h2 i
      simp only [enumD, List.getElem?_cons_succ]
      rw [this]
      have e : n + 1 + i = n + (i + 1) := by omega
      rw [e]
end DS
/-! ## Equality of plain data -/
namespace DS
open PySem PySem.Spec PyProof.Rows L2
/-- ints, nested in tuples and lists at most n deep -/
def Nst : Nat → D → Prop
  | 0, d => ∃ i, d = .int i
  | n + 1, d => Nst n d ∨ ∃ xs : List D, (d = .tup xs ∨ d = .lst xs) ∧ ∀ x ∈ xs, Nst n x
theorem nst_lay : ∀ (n : Nat) (d : D), Nst n d → ∃ a, toPD d = some a ∧ a.canLay0 = true ∧ a.depth ≤ n
  | 0, d, ⟨i, e⟩ => by subst e; exact ⟨.int i, rfl, rfl, Nat.le_refl _⟩
  | n + 1, d, h => by
    rcases h with h | ⟨xs, h, k⟩
    · obtain ⟨a, h1, h2, h3⟩ := nst_lay n d h
      exact ⟨a, h1, h2, Nat.le_succ_of_le h3⟩
    · have all : ∀ ys : List D, (∀ x ∈ ys, Nst n x) → ∃ as, toPDs ys = some as ∧ PyData.canLayAll0 as = true ∧ PyData.depthAll as ≤ n := by
        intro ys
        induction ys with
        | nil => exact fun _ => ⟨[], rfl, rfl, Nat.zero_le _⟩
        | cons y ys ih =>
          intro hy
          obtain ⟨a, h1, h2, h3⟩ := nst_lay n y (hy y (List.mem_cons_self ..))
          obtain ⟨as, g1, g2, g3⟩ := ih fun x hx => hy x (List.mem_cons_of_mem _ hx)
          refine ⟨a :: as, by simp only [toPDs, h1, g1], by simp [PyData.canLayAll0, h2, g2], ?_⟩
          simp only [PyData.depthAll]
          omega
      obtain ⟨as, g1, g2, g3⟩ := all xs k
      rcases h with h | h
      · subst h
        exact ⟨.tuple as, by simp only [toPD, g1, Option.map], by simpa [PyData.canLay0] using g2, by simp only [PyData.depth]; omega⟩
      · subst h
        exact ⟨.list as, by simp only [toPD, g1, Option.map], by simpa [PyData.canLay0] using g2, by simp only [PyData.depth]; omega⟩
theorem shaped_of {a : PyData} {n : Nat} (h : a.canLay0 = true) (k : a.depth ≤ n) (hn : n ≤ 64) : SeqAt.shaped a = true := by
  unfold SeqAt.shaped
  rw [h, decide_eq_true (by omega)]
  rfl
theorem eqD_nst {n : Nat} {d e : D} (hd : Nst n d) (he : Nst n e) (hn : n ≤ 64) : ∃ a b, toPD d = some a ∧ toPD e = some b ∧ eqD d e = some (PyData.eqv a b) := by
  obtain ⟨a, a1, a2, a3⟩ := nst_lay n d hd
  obtain ⟨b, b1, b2, b3⟩ := nst_lay n e he
  refine ⟨a, b, a1, b1, ?_⟩
  unfold eqD
  rw [a1, b1]
  dsimp only
  rw [shaped_of a2 a3 hn, shaped_of b2 b3 hn]
  rfl
theorem eqD_self {n : Nat} {d : D} (hd : Nst n d) (hn : n ≤ 64) : eqD d d = some true := by
  obtain ⟨a, a1, a2, a3⟩ := nst_lay n d hd
  unfold eqD
  rw [a1]
  dsimp only
  rw [shaped_of a2 a3 hn, PySem.SeqAt.eqv_refl a a2]
  rfl
theorem eqD_int (i j : Int) : eqD (.int i) (.int j) = some (decide (i = j)) := by
  obtain ⟨a, b, h1, h2, h3⟩ := eqD_nst (n := 0) ⟨i, rfl⟩ ⟨j, rfl⟩ (by decide)
  cases h1
  cases h2
  rw [h3]
  simp [PyData.eqv]
  exact Int.decEq i j |>.casesOn (fun h => by simp [h]) fun h => by simp [h]
theorem toPDs_ints : ∀ ns : List Int, toPDs (ns.map D.int) = some (ns.map PyData.int)
  | [] => rfl
  | n :: ns => by simp only [List.map_cons, toPDs, toPD, toPDs_ints ns]
theorem eqvAll_ints : ∀ ns ms : List Int, PyData.eqvAll (ns.map PyData.int) (ms.map PyData.int) = decide (ns = ms)
  | [], [] => rfl
  | [], _ :: _ => rfl
  | _ :: _, [] => rfl
  | n :: ns, m :: ms => by
    simp only [List.map_cons, PyData.eqvAll, PyData.eqv, eqvAll_ints ns ms]
    by_cases h : n = m <;> by_cases k : ns = ms <;> simp [h, k]
theorem eqD_ints (ns ms : List Int) : eqD (.lst (ns.map .int)) (.lst (ms.map .int)) = some (decide (ns = ms)) := by
  have hi : ∀ ks : List Int, Nst 1 (.lst (ks.map .int)) := fun ks => .inr ⟨_, .inr rfl, fun x hx => by
    obtain ⟨k, _, rfl⟩ := List.mem_map.mp hx
    exact ⟨k, rfl⟩⟩
  obtain ⟨a, b, h1, h2, h3⟩ := eqD_nst (hi ns) (hi ms) (by decide)
  simp only [toPD, toPDs_ints, Option.map, Option.some.injEq] at h1 h2
  subst h1 h2
  rw [h3]
  simp only [PyData.eqv, eqvAll_ints]
theorem eqD_none : eqD .non .non = some true := rfl
theorem run_ret {C : Cxt} {d : Df} {xs : List D} {e : IR} {r : Ar} {σ : En} (hd : d.body = .cons (.ret e) .nil) (hl : xs.length = d.arity) (h : ev C e (xs.map Sl.val ++ List.replicate (d.slots - xs.length) .un) = .ok (r, σ)) (hb : r.isB = false) : DS.run C d xs = .ok r := by
  unfold DS.run
  rw [if_pos hl, hd]
  simp [Out.bnd, exs, ex, h, hb]
theorem map_int {α : Type} {l : List α} {f : α → D} {g : D → Option D} {h : α → D} (e : ∀ a ∈ l, g (f a) = some (h a)) : (l.map f).filterMap g = l.map h := by
  induction l with
  | nil => rfl
  | cons a l ih =>
    rw [List.map_cons, List.filterMap_cons, e a (List.mem_cons_self ..), List.map_cons, ih fun b hb => e b (List.mem_cons_of_mem _ hb)]
end DS
/-! ## Rules for pieces that leave the slots alone -/
namespace DS
open PySem PySem.Spec PyProof.Rows L2
section
variable {C : Cxt} {σ : En} {a b c e : IR} {x y z d : D} {r : Ar} {i f : Nat} {es : IRs} {ds : List D}
def Vw (C : Cxt) (e : IR) (σ : En) (d : D) : Prop := ∃ r, sq (ev C e σ) = .ok (r, σ) ∧ r.view = d
def Vv (C : Cxt) (e : IR) (σ : En) (d : D) : Prop := sq (ev C e σ) = .ok (.v d, σ)
def VwL (C : Cxt) (es : IRs) (σ : En) (ds : List D) : Prop := ∃ rs, evs C es σ = .ok (rs, σ) ∧ rs.map Ar.view = ds
def VvL (C : Cxt) (es : IRs) (σ : En) (ds : List D) : Prop := evs C es σ = .ok (ds.map Ar.v, σ)
def Tt (C : Cxt) (e : IR) (σ : En) (k : Bool) : Prop := ev C e σ = .ok (.v (.bl k), σ)
theorem Vv.w (h : Vv C e σ d) : Vw C e σ d := ⟨_, h, rfl⟩
theorem view_v : ∀ ds : List D, (ds.map Ar.v).map Ar.view = ds
  | [] => rfl
  | d :: ds => congrArg (d :: ·) (view_v ds)
theorem noB_v : ∀ ds : List D, (ds.map Ar.v).any Ar.isB = false
  | [] => rfl
  | d :: ds => noB_v ds
theorem VvL.w (h : VvL C es σ ds) : VwL C es σ ds := ⟨_, h, view_v ds⟩
theorem sq_of (h : ev C e σ = .ok (r, σ)) (hb : r.isB = false) : Vv C e σ r.view := by
  unfold Vv sq
  rw [h]
  cases r with
  | v d => rfl
  | fr ds => rfl
  | br i ds => cases hb
theorem vv_slot (h : σ[i]? = some (.val d)) : Vv C (.slot i) σ d := by
  unfold Vv sq
  simp only [ev, h]
  rfl
theorem vv_move (h : σ[i]? = some (.val d)) : Vv C (.move i) σ d := by
  unfold Vv sq
  simp only [ev, h]
  rfl
theorem vv_bor (h : σ[i]? = some (.val d)) : Vv C (.bor i) σ d := by
  unfold Vv sq
  simp only [ev, h]
  rfl
theorem vw_own (h : σ[i]? = some (.own ds)) : Vw C (.bor i) σ (.lst ds) := by
  refine ⟨.br i ds, ?_, rfl⟩
  unfold sq
  simp only [ev, h]
  rfl
theorem vw_lock (h : σ[i]? = some (.lock ds)) : Vw C (.bor i) σ (.lst ds) := by
  refine ⟨.br i ds, ?_, rfl⟩
  unfold sq
  simp only [ev, h]
  rfl
theorem vv_int {n : Int} : Vv C (.int n) σ (.int n) := rfl
theorem vv_bl {k : Bool} : Vv C (.bl k) σ (.bl k) := rfl
theorem vv_non : Vv C .non σ .non := rfl
theorem bin_ev {o : Operator} (ha : Vw C a σ x) (hb : Vw C b σ y) (ho : binD o x y = .ok r) : ev C (.bin o a b) σ = .ok (r, σ) := by
  obtain ⟨p, hp, rfl⟩ := ha
  obtain ⟨q, hq, rfl⟩ := hb
  simp only [ev, hp, Out.bnd, hq, ho]
theorem vv_bin {o : Operator} (ha : Vw C a σ x) (hb : Vw C b σ y) (ho : binD o x y = .ok r) (hr : r.isB = false := by rfl) : Vv C (.bin o a b) σ r.view := sq_of (bin_ev ha hb ho) hr
theorem vv_un {o : UnaryOp} (ha : Vw C a σ x) (ho : unD o x = .ok r) (hr : r.isB = false := by rfl) : Vv C (.un o a) σ r.view := by
  obtain ⟨p, hp, rfl⟩ := ha
  exact sq_of (by simp only [ev, hp, Out.bnd, ho]) hr
theorem cmp_ev {o : CmpOp} {k : Bool} (ha : Vw C a σ x) (hb : Vw C b σ y) (ho : cmpD o x y = some k) : ev C (.cmp o a b) σ = .ok (.v (.bl k), σ) := by
  obtain ⟨p, hp, rfl⟩ := ha
  obtain ⟨q, hq, rfl⟩ := hb
  simp only [ev, hp, Out.bnd, hq, ho, ob]
theorem vv_cmp {o : CmpOp} {k : Bool} (ha : Vw C a σ x) (hb : Vw C b σ y) (ho : cmpD o x y = some k) : Vv C (.cmp o a b) σ (.bl k) := sq_of (cmp_ev ha hb ho) rfl
theorem tt_cmp {o : CmpOp} {k : Bool} (ha : Vw C a σ x) (hb : Vw C b σ y) (ho : cmpD o x y = some k) : Tt C (.cmpT o a b) σ k := by
  obtain ⟨p, hp, rfl⟩ := ha
  obtain ⟨q, hq, rfl⟩ := hb
  unfold Tt
  simp only [ev, hp, Out.bnd, hq, ho, ob]
theorem tt_tru {k : Bool} (ha : Vw C a σ x) (h : truthD x = some k) : Tt C (.tru a) σ k := by
  obtain ⟨p, hp, rfl⟩ := ha
  unfold Tt
  simp only [ev, hp, Out.bnd, h, ob]
theorem tt_not {k : Bool} (h : Tt C a σ k) : Tt C (.notT a) σ (!k) := by
  unfold Tt at h ⊢
  simp only [ev, h, Out.bnd]
theorem tt_and1 {k : Bool} (h : Tt C a σ k) : Tt C (.andT (.cons a .nil)) σ k := by
  unfold Tt at h ⊢
  simp only [ev, evAndT, h, Out.bnd]
  cases k <;> rfl
theorem tt_or1 {k : Bool} (h : Tt C a σ k) : Tt C (.orT (.cons a .nil)) σ k := by
  unfold Tt at h ⊢
  simp only [ev, evOrT, h, Out.bnd]
  cases k <;> rfl
theorem tt_and {k l : Bool} (h : Tt C a σ k) (h2 : k = true → Tt C (.andT (.cons b es)) σ l) : Tt C (.andT (.cons a (.cons b es))) σ (k && l) := by
  unfold Tt at h h2 ⊢
  cases k with
  | true =>
    have h2 := h2 rfl
    simp only [ev] at h2 ⊢
    rw [evAndT]
    simp only [h, Out.bnd, if_true]
    exact h2
  | false =>
    simp only [ev]
    rw [evAndT]
    simp only [h, Out.bnd]
    rfl
theorem tt_or {k l : Bool} (h : Tt C a σ k) (h2 : k = false → Tt C (.orT (.cons b es)) σ l) : Tt C (.orT (.cons a (.cons b es))) σ (k || l) := by
  unfold Tt at h h2 ⊢
  cases k with
  | false =>
    have h2 := h2 rfl
    simp only [ev] at h2 ⊢
    rw [evOrT]
    simp only [h, Out.bnd]
    exact h2
  | true =>
    simp only [ev]
    rw [evOrT]
    simp only [h, Out.bnd]
    rfl
theorem vv_not {k : Bool} (ha : Vw C a σ (.bl k)) : Vv C (.notE a) σ (.bl (!k)) := by
  obtain ⟨p, hp, e⟩ := ha
  exact sq_of (r := .v (.bl (!k))) (by simp only [ev, hp, Out.bnd, e]) rfl
theorem sq_sq (q : Out (Ar × En)) : sq (sq q) = sq q := by
  cases q with
  | ok p => obtain ⟨r, τ⟩ := p; cases r <;> rfl
  | bad => rfl
  | exc c fs => rfl
theorem vv_and1 (h : Vv C a σ d) : Vv C (.andE (.cons a .nil)) σ d := by
  have e : ev C (.andE (.cons a .nil)) σ = sq (ev C a σ) := by simp only [ev, evAnd]
  unfold Vv at h ⊢
  rw [e, sq_sq, h]
theorem vv_and {k : Bool} (h : Vv C a σ (.bl k)) (h2 : k = true → Vv C (.andE (.cons b es)) σ d) (h3 : k = false → d = .bl false) : Vv C (.andE (.cons a (.cons b es))) σ d := by
  have e : ev C (.andE (.cons a (.cons b es))) σ = if k = true then evAnd C (.cons b es) σ else .ok (.v (.bl false), σ) := by
    unfold Vv at h
    simp only [ev]
    rw [evAnd]
    simp only [h, Out.bnd]
    cases k <;> rfl
  unfold Vv
  rw [e]
  cases k with
  | true =>
    have := h2 rfl
    unfold Vv at this
    simp only [ev] at this
    exact this
  | false => rw [h3 rfl]; rfl
theorem vv_or {k : Bool} (h : Vv C a σ (.bl k)) (h2 : k = false → Vv C (.orE (.cons b es)) σ d) (h3 : k = true → d = .bl true) : Vv C (.orE (.cons a (.cons b es))) σ d := by
  have e : ev C (.orE (.cons a (.cons b es))) σ = if k = true then .ok (.v (.bl true), σ) else evOr C (.cons b es) σ := by
    unfold Vv at h
    simp only [ev]
    rw [evOr]
    simp only [h, Out.bnd]
    cases k <;> rfl
  unfold Vv
  rw [e]
  cases k with
  | false =>
    have := h2 rfl
    unfold Vv at this
    simp only [ev] at this
    exact this
  | true => rw [h3 rfl]; rfl
theorem vv_or1 (h : Vv C a σ d) : Vv C (.orE (.cons a .nil)) σ d := by
  have e : ev C (.orE (.cons a .nil)) σ = sq (ev C a σ) := by simp only [ev, evOr]
  unfold Vv at h ⊢
  rw [e, sq_sq, h]
theorem vv_ix (ha : Vw C a σ x) (hb : Vw C b σ y) (ho : ixD x y = some d) : Vv C (.ix a b) σ d := by
  obtain ⟨p, hp, rfl⟩ := ha
  obtain ⟨q, hq, rfl⟩ := hb
  exact sq_of (r := .v d) (by simp only [ev, hp, Out.bnd, hq, ho, ob]) rfl
theorem vl_nil : VvL C .nil σ [] := rfl
theorem vl_cons (ha : Vv C a σ d) (hs : VvL C es σ ds) : VvL C (.cons a es) σ (d :: ds) := by
  unfold VvL Vv at *
  simp only [evs, ha, Out.bnd, hs]
  rfl
theorem wl_nil : VwL C .nil σ [] := ⟨[], rfl, rfl⟩
theorem wl_cons (ha : Vw C a σ d) (hs : VwL C es σ ds) : VwL C (.cons a es) σ (d :: ds) := by
  obtain ⟨p, hp, rfl⟩ := ha
  obtain ⟨q, hq, rfl⟩ := hs
  exact ⟨p :: q, by simp only [evs, hp, Out.bnd, hq], rfl⟩
theorem call_ev (hs : VvL C es σ ds) (h : C.fn f ds = .ok r) : ev C (.call f es) σ = .ok (r, σ) := by
  unfold VvL at hs
  simp only [ev, hs, Out.bnd, view_v, h, noB_v]
  simp
theorem vv_call (hs : VvL C es σ ds) (h : C.fn f ds = .ok r) (hr : r.isB = false := by rfl) : Vv C (.call f es) σ r.view := sq_of (call_ev hs h) hr
/-- with borrowed lists: an answer without lists -/
theorem vv_callW (hs : VwL C es σ ds) (h : C.fn f ds = .ok r) (hn : r.noL = true) (hr : r.isB = false := by rfl) : Vv C (.call f es) σ r.view := by
  obtain ⟨q, hq, rfl⟩ := hs
  refine sq_of ?_ hr
  simp only [ev, hq, Out.bnd, h, hn]
  simp
theorem vv_blt {k : Blt} (hs : VwL C es σ ds) (h : bltD k ds = .ok r) (hr : r.isB = false := by rfl) : Vv C (.blt k es) σ r.view := by
  obtain ⟨q, hq, rfl⟩ := hs
  refine sq_of ?_ hr
  simp only [ev, hq, Out.bnd, h]
theorem blt_ev {k : Blt} (hs : VwL C es σ ds) (h : bltD k ds = .ok r) : ev C (.blt k es) σ = .ok (r, σ) := by
  obtain ⟨q, hq, rfl⟩ := hs
  simp only [ev, hq, Out.bnd, h]
theorem tup_ev (hs : VvL C es σ ds) (hl : ds.length ≤ sizeLine) : ev C (.tup es) σ = .ok (.v (.tup ds), σ) := by
  unfold VvL at hs
  simp only [ev, hs, Out.bnd, view_v, noB_v, List.length_map]
  simp [hl]
theorem vv_tup (hs : VvL C es σ ds) (hl : ds.length ≤ sizeLine) : Vv C (.tup es) σ (.tup ds) := sq_of (tup_ev hs hl) rfl
theorem lst_ev (hs : VvL C es σ ds) (hl : ds.length ≤ sizeLine) : ev C (.lst es) σ = .ok (.fr ds, σ) := by
  unfold VvL at hs
  simp only [ev, hs, Out.bnd, view_v, noB_v, List.length_map]
  simp [hl]
theorem vv_lst (hs : VvL C es σ ds) (hl : ds.length ≤ sizeLine) : Vv C (.lst es) σ (.lst ds) := sq_of (lst_ev hs hl) rfl
/-! statements -/
theorem x_setS (h : Vv C e σ d) : ex C (.setS i e) σ = .ok (.nx, σ.set i (.val d)) := by
  unfold Vv at h
  simp only [ex, h, Out.bnd]
theorem x_ret (h : Vv C e σ d) (hv : ∃ r, ev C e σ = .ok (.v r, σ)) : ex C (.ret e) σ = .ok (.rt (.v d), σ) := by
  obtain ⟨r, hr⟩ := hv
  unfold Vv sq at h
  rw [hr] at h
  cases h
  simp only [ex, hr, Out.bnd]
  rfl
theorem x_retE (h : ev C e σ = .ok (r, σ)) (hb : r.isB = false) : ex C (.ret e) σ = .ok (.rt r, σ) := by
  simp only [ex, h, Out.bnd, hb]
  rfl
theorem x_app (ho : σ[i]? = some (.own ds)) (h : Vv C e σ d) (hl : ds.length < sizeLine) : ex C (.app i e) σ = .ok (.nx, σ.set i (.own (ds ++ [d]))) := by
  unfold Vv at h
  simp only [ex, ho, h, Out.bnd, if_pos hl]
theorem x_ife {t : IR} {p q : SRs} {k : Bool} {Q : Fl × En → Prop} (h : Tt C t σ k) (h1 : k = true → Sat (exs C p σ) Q) (h2 : k = false → Sat (exs C q σ) Q) : Sat (ex C (.ife t p q) σ) Q := by
  unfold Tt at h
  show Sat ((ev C t σ).bnd _) Q
  rw [h]
  cases k with
  | true => exact h1 rfl
  | false => exact h2 rfl
/-- if without a return in it, nothing else -/
theorem x_par2 {j : Nat} {d' : D} (h : VvL C es σ [d, d']) : ex C (.par [i, j] es) σ = .ok (.nx, (σ.set i (.val d)).set j (.val d')) := by
  unfold VvL at h
  simp only [ex, h, Out.bnd]
  rfl
theorem x_unp {is : List Nat} (h : Vv C e σ (.tup ds)) (hl : ds.length = is.length) : ex C (.unp is e) σ = .ok (.nx, setAll is ds σ) := by
  unfold Vv at h
  simp only [ex, h, Out.bnd, if_pos hl]
theorem turn_some {t : Tg} {own : List Nat} {ifs : IR} {τ τ1 : En} (ha : asg t x τ = some τ1) (hi : Tt C ifs τ1 true) (he : Vv C e τ1 d) : turnOf C t own ifs e x τ = .ok (some d, wipeE τ1 own) := by
  unfold Tt at hi
  unfold Vv at he
  unfold turnOf
  rw [ha]
  simp only [hi, Out.bnd, if_true, he]
  rfl
theorem turn_none {t : Tg} {own : List Nat} {ifs : IR} {τ τ1 : En} (ha : asg t x τ = some τ1) (hi : Tt C ifs τ1 false) : turnOf C t own ifs e x τ = .ok (none, wipeE τ1 own) := by
  unfold Tt at hi
  unfold turnOf
  rw [ha]
  simp only [hi, Out.bnd]
  rfl
theorem tt_true : Tt C (.bl true) σ true := rfl
end
end DS
/-! ## Bits: sums, echelon families -/
namespace Gf
theorem xc (a b g : Nat) : (a ^^^ g) ^^^ (b ^^^ g) = a ^^^ b := Nat.eq_of_testBit_eq fun i => by
  simp only [Nat.testBit_xor]; cases a.testBit i <;> cases b.testBit i <;> cases g.testBit i <;> rfl
theorem xl (a g : Nat) : (a ^^^ g) ^^^ g = a := Nat.eq_of_testBit_eq fun i => by
  simp only [Nat.testBit_xor]; cases a.testBit i <;> cases g.testBit i <;> rfl
theorem x1 (a b g : Nat) : (a ^^^ b) ^^^ g = a ^^^ (b ^^^ g) := Nat.xor_assoc ..
theorem x2 (a b g : Nat) : (a ^^^ b) ^^^ g = (a ^^^ g) ^^^ b := Nat.eq_of_testBit_eq fun i => by
  simp only [Nat.testBit_xor]; cases a.testBit i <;> cases b.testBit i <;> cases g.testBit i <;> rfl
/-- v is a sum of some of gs -/
def Sp : List Nat → Nat → Prop
  | [], v => v = 0
  | g :: gs, v => Sp gs v ∨ Sp gs (v ^^^ g)
theorem Sp.zero : ∀ gs, Sp gs 0
  | [] => rfl
  | g :: gs => .inl (Sp.zero gs)
theorem Sp.xor : ∀ {gs : List Nat} {a b : Nat}, Sp gs a → Sp gs b → Sp gs (a ^^^ b)
  | [], a, b, h, k => by
    cases (show a = 0 from h); cases (show b = 0 from k); rfl
  | g :: gs, a, b, h, k => by
    rcases h with h | h <;> rcases k with k | k
    · exact .inl (h.xor k)
    · refine .inr ?_
      rw [x1]
      exact h.xor k
    · refine .inr ?_
      rw [x2]
      exact h.xor k
    · refine .inl ?_
      have := h.xor k
      rw [xc] at this
      exact this
theorem Sp.mem : ∀ {gs : List Nat} {g : Nat}, g ∈ gs → Sp gs g
  | g :: gs, x, h => by
    rcases List.mem_cons.mp h with e | h
    · subst e
      refine .inr ?_
      rw [Nat.xor_self]
      exact Sp.zero gs
    · exact .inl (Sp.mem h)
theorem Sp.sub {B : List Nat} : ∀ {A : List Nat} {v : Nat}, (∀ g ∈ A, Sp B g) → Sp A v → Sp B v
  | [], v, _, h => by
    cases (show v = 0 from h)
    exact Sp.zero B
  | g :: gs, v, k, h => by
    rcases h with h | h
    · exact Sp.sub (fun x hx => k x (List.mem_cons_of_mem _ hx)) h
    · have h1 := Sp.sub (fun x hx => k x (List.mem_cons_of_mem _ hx)) h
      have := h1.xor (k g (List.mem_cons_self ..))
      rw [xl] at this
      exact this
theorem Sp.cons {g : Nat} {gs : List Nat} {v : Nat} (h : Sp gs v) : Sp (g :: gs) v := .inl h
theorem Sp.bit {gs : List Nat} {i : Nat} (h : ∀ g ∈ gs, g.testBit i = false) : ∀ {v : Nat}, Sp gs v → v.testBit i = false := by
  induction gs with
  | nil =>
    intro v k
    cases (show v = 0 from k)
    exact Nat.zero_testBit i
  | cons g gs ih =>
    intro v k
    have h' : ∀ g ∈ gs, g.testBit i = false := fun x hx => h x (List.mem_cons_of_mem _ hx)
    rcases k with k | k
    · exact ih h' k
    · have := ih h' k
      rw [Nat.testBit_xor, h g (List.mem_cons_self ..)] at this
      simpa using this
/-- same sums -/
def Eqv (A B : List Nat) : Prop := ∀ v, Sp A v ↔ Sp B v
theorem Eqv.refl (A : List Nat) : Eqv A A := fun _ => Iff.rfl
theorem Eqv.symm {A B : List Nat} (h : Eqv A B) : Eqv B A := fun v => (h v).symm
theorem Eqv.trans {A B C : List Nat} (h : Eqv A B) (k : Eqv B C) : Eqv A C := fun v => (h v).trans (k v)
theorem Eqv.of {A B : List Nat} (h : ∀ g ∈ A, Sp B g) (k : ∀ g ∈ B, Sp A g) : Eqv A B := fun _ => ⟨Sp.sub h, Sp.sub k⟩
theorem Sp.append_left {A B : List Nat} {v : Nat} (h : Sp A v) : Sp (A ++ B) v := Sp.sub (fun g hg => Sp.mem (List.mem_append_left _ hg)) h
theorem Sp.append_right {A B : List Nat} {v : Nat} (h : Sp B v) : Sp (A ++ B) v := Sp.sub (fun g hg => Sp.mem (List.mem_append_right _ hg)) h
theorem Eqv.perm {A B : List Nat} (h : A.Perm B) : Eqv A B := Eqv.of (fun g hg => Sp.mem (h.mem_iff.mp hg)) fun g hg => Sp.mem (h.mem_iff.mpr hg)
/-! ### counting -/
def sums : List Nat → List Nat
  | [] => [0]
  | g :: gs => sums gs ++ (sums gs).map (· ^^^ g)
theorem sums_len : ∀ gs, (sums gs).length = 2 ^ gs.length
  | [] => rfl
  | g :: gs => by
    rw [sums, List.length_append, List.length_map, sums_len gs, List.length_cons, Nat.pow_succ]
    omega
theorem mem_sums : ∀ {gs : List Nat} {v : Nat}, v ∈ sums gs ↔ Sp gs v
  | [], v => by simp [sums, Sp]
  | g :: gs, v => by
    rw [sums, List.mem_append, List.mem_map]
    constructor
    · rintro (h | ⟨u, h, rfl⟩)
      · exact .inl (mem_sums.mp h)
      · refine .inr ?_
        rw [xl]
        exact mem_sums.mp h
    · rintro (h | h)
      · exact .inl (mem_sums.mpr h)
      · exact .inr ⟨_, mem_sums.mpr h, xl v g⟩
/-- an echelon family: a place and a row; the place is set in the row and not in those behind it -/
def Ech : List (Nat × Nat) → Prop
  | [] => True
  | q :: r => q.2.testBit q.1 = true ∧ (∀ z ∈ r, z.2.testBit q.1 = false) ∧ Ech r
theorem nodup_sub : ∀ {l m : List Nat}, l.Nodup → (∀ x ∈ l, x ∈ m) → l.length ≤ m.length
  | [], m, _, _ => Nat.zero_le _
  | x :: l, m, h, k => by
    obtain ⟨h1, h2⟩ := List.nodup_cons.mp h
    have hx : x ∈ m := k x (List.mem_cons_self ..)
    have := nodup_sub (m := m.erase x) h2 fun y hy => (List.mem_erase_of_ne (fun e => h1 (by rw [← e]; exact hy))).mpr (k y (List.mem_cons_of_mem _ hy))
    rw [List.length_erase_of_mem hx] at this
    have := List.length_pos_of_mem hx
    rw [List.length_cons]
    omega
theorem Ech.nodup : ∀ {l : List (Nat × Nat)}, Ech l → (sums (l.map (·.2))).Nodup
  | [], _ => by simp [sums]
  | q :: r, ⟨h1, h2, h3⟩ => by
    have ih := Ech.nodup h3
    show (sums (r.map (·.2)) ++ (sums (r.map (·.2))).map (· ^^^ q.2)).Nodup
    have hb : ∀ v, v ∈ sums (r.map (·.2)) → v.testBit q.1 = false := fun v hv => Sp.bit (fun g hg => by
      obtain ⟨z, hz, rfl⟩ := List.mem_map.mp hg
      exact h2 z hz) (mem_sums.mp hv)
    rw [List.nodup_append]
    refine ⟨ih, ?_, ?_⟩
    · refine List.Pairwise.map _ (fun a b hab e => hab ?_) ih
      have := congrArg (· ^^^ q.2) e
      simpa only [xl] using this
    · intro a ha b hb' e
      obtain ⟨u, hu, rfl⟩ := List.mem_map.mp hb'
      have e1 := hb a ha
      rw [e, Nat.testBit_xor, hb u hu, h1] at e1
      cases e1
theorem pow_le {a b : Nat} (h : 2 ^ a ≤ 2 ^ b) : a ≤ b := (Nat.pow_le_pow_iff_right (by decide)).mp h
theorem Ech.le {l : List (Nat × Nat)} {A : List Nat} (h : Ech l) (k : ∀ q ∈ l, Sp A q.2) : l.length ≤ A.length := by
  refine pow_le ?_
  have := nodup_sub h.nodup (m := sums A) fun v hv => mem_sums.mpr (Sp.sub (fun g hg => by
    obtain ⟨z, hz, rfl⟩ := List.mem_map.mp hg
    exact k z hz) (mem_sums.mp hv))
  rwa [sums_len, sums_len, List.length_map] at this
theorem Ech.eq {l m : List (Nat × Nat)} (h : Ech l) (k : Ech m) (e : Eqv (l.map (·.2)) (m.map (·.2))) : l.length = m.length := by
  have h1 := h.le (A := m.map (·.2)) fun q hq => (e _).mp (Sp.mem (List.mem_map_of_mem hq))
  have h2 := k.le (A := l.map (·.2)) fun q hq => (e _).mpr (Sp.mem (List.mem_map_of_mem hq))
  rw [List.length_map] at h1 h2
  omega
/-! ### rows and columns -/
def ofBits (f : Nat → Bool) : Nat → Nat
  | 0 => 0
  | n + 1 => ofBits f n ^^^ (if f n then 2 ^ n else 0)
theorem ofBits_bit (f : Nat → Bool) : ∀ n i, (ofBits f n).testBit i = (decide (i < n) && f i)
  | 0, i => by simp [ofBits]
  | n + 1, i => by
    rw [ofBits, Nat.testBit_xor, ofBits_bit f n i]
    by_cases h : f n = true
    · rw [if_pos h, Nat.testBit_two_pow]
      by_cases e : n = i
      · subst e
        simp [h]
      · have : (i < n + 1) = (i < n) := propext ⟨fun _ => by omega, fun _ => by omega⟩
        simp [e, this]
    · rw [if_neg h, Nat.zero_testBit, Bool.xor_false]
      by_cases e : i = n
      · subst e
        simp at h
        simp [h]
      · have : (i < n + 1) = (i < n) := propext ⟨fun _ => by omega, fun _ => by omega⟩
        simp [this]
theorem cols_le {s n : Nat} : ∀ (A : List Nat) (R : Nat → Nat), (∀ i, i < n → Sp A (R i)) → ∃ D : List Nat, D.length = A.length ∧ ∀ k, Sp D (ofBits (fun i => (R i).testBit k) n)
  | [], R, h => ⟨[], rfl, fun k => by
    have : ofBits (fun i => (R i).testBit k) n = 0 := Nat.eq_of_testBit_eq fun i => by
      rw [ofBits_bit, Nat.zero_testBit]
      by_cases hi : i < n
      · rw [show R i = 0 from h i hi]
        simp
      · simp [hi]
    exact this⟩
  | a :: A, R, h => by
    have hc : ∀ i, ∃ c : Bool, i < n → Sp A (R i ^^^ (if c then a else 0)) := fun i => by
      by_cases hi : i < n
      · rcases h i hi with k | k
        · exact ⟨false, fun _ => by simpa using k⟩
        · exact ⟨true, fun _ => by simpa using k⟩
      · exact ⟨false, fun z => absurd z hi⟩
    let c : Nat → Bool := fun i => Classical.choose (hc i)
    have hcs : ∀ i, i < n → Sp A (R i ^^^ (if c i then a else 0)) := fun i => Classical.choose_spec (hc i)
    obtain ⟨D, hD, hk⟩ := cols_le (s := s) A (fun i => R i ^^^ (if c i then a else 0)) hcs
    refine ⟨ofBits c n :: D, by rw [List.length_cons, hD, List.length_cons], fun k => ?_⟩
    have e : ofBits (fun i => (R i ^^^ (if c i then a else 0)).testBit k) n = if a.testBit k then ofBits (fun i => (R i).testBit k) n ^^^ ofBits c n else ofBits (fun i => (R i).testBit k) n := Nat.eq_of_testBit_eq fun i => by
      rw [ofBits_bit]
      by_cases ha : a.testBit k = true
      · rw [if_pos ha, Nat.testBit_xor, Nat.testBit_xor, ofBits_bit, ofBits_bit]
        cases hci : c i <;> simp [ha, hci]
        cases decide (i < n) <;> simp
      · rw [if_neg ha, Nat.testBit_xor, ofBits_bit]
        simp at ha
        cases hci : c i <;> simp [ha, hci]
    have := hk k
    rw [e] at this
    by_cases ha : a.testBit k = true
    · rw [if_pos ha] at this
      exact .inr this
    · rw [if_neg ha] at this
      exact .inl this
end Gf
/-! ## The reduced family -/
namespace Gf
def lowF : Nat → Nat → Nat
  | 0, _ => 0
  | f + 1, n => if n % 2 = 1 then 0 else lowF f (n / 2) + 1
/-- the place of the lowest 1 -/
def lo (n : Nat) : Nat := lowF n n
theorem lowF_spec : ∀ (f n : Nat), n ≤ f → n ≠ 0 → n.testBit (lowF f n) = true ∧ ∀ i, i < lowF f n → n.testBit i = false
  | 0, n, h, h0 => absurd (Nat.le_zero.mp h) h0
  | f + 1, n, h, h0 => by
    unfold lowF
    by_cases h2 : n % 2 = 1
    · rw [if_pos h2]
      exact ⟨by rw [Nat.testBit_zero]; simpa using h2, fun i hi => absurd hi (Nat.not_lt_zero i)⟩
    · rw [if_neg h2]
      obtain ⟨k1, k2⟩ := lowF_spec f (n / 2) (by omega) (by omega)
      refine ⟨by rw [Nat.testBit_succ]; exact k1, fun i hi => ?_⟩
      cases i with
      | zero => rw [Nat.testBit_zero]; simpa using h2
      | succ i => rw [Nat.testBit_succ]; exact k2 i (by omega)
theorem lo_set {n : Nat} (h : n ≠ 0) : n.testBit (lo n) = true := (lowF_spec n n (Nat.le_refl _) h).1
theorem lo_below {n : Nat} (h : n ≠ 0) {i : Nat} (hi : i < lo n) : n.testBit i = false := (lowF_spec n n (Nat.le_refl _) h).2 i hi
theorem ne_zero_of {n i : Nat} (h : n.testBit i = true) : n ≠ 0 := fun e => by rw [e, Nat.zero_testBit] at h; cases h
theorem lo_le {n i : Nat} (h : n.testBit i = true) : lo n ≤ i := Nat.le_of_not_lt fun hi => by
  rw [lo_below (ne_zero_of h) hi] at h
  cases h
theorem lo_eq {n i : Nat} (h : n.testBit i = true) (k : ∀ j, j < i → n.testBit j = false) : lo n = i := Nat.le_antisymm (lo_le h) (Nat.le_of_not_lt fun hi => by
  have := lo_set (ne_zero_of h)
  rw [k _ hi] at this
  cases this)
/-- reduced: no zeros; the lowest 1 of each row stands in no other row -/
def Rd (l : List Nat) : Prop := (∀ x ∈ l, x ≠ 0) ∧ l.Pairwise fun x y => y.testBit (lo x) = false ∧ x.testBit (lo y) = false
theorem Rd.ech : ∀ {l : List Nat}, Rd l → Ech (l.map fun x => (lo x, x))
  | [], _ => trivial
  | x :: l, ⟨h1, h2⟩ => by
    obtain ⟨h3, h4⟩ := List.pairwise_cons.mp h2
    refine ⟨lo_set (h1 x (List.mem_cons_self ..)), fun z hz => ?_, Rd.ech ⟨fun y hy => h1 y (List.mem_cons_of_mem _ hy), h4⟩⟩
    obtain ⟨y, hy, rfl⟩ := List.mem_map.mp hz
    exact (h3 y hy).1
theorem map_snd {f : Nat → Nat} : ∀ l : List Nat, (l.map fun x => (f x, x)).map (·.2) = l
  | [] => rfl
  | x :: l => congrArg (x :: ·) (map_snd l)
/-- one row less by the family -/
def rest1 (r o : Nat) : Nat := if r.testBit (lo o) then r ^^^ o else r
def restL (l : List Nat) (r : Nat) : Nat := l.foldl rest1 r
theorem restL_sp : ∀ (l : List Nat) (r : Nat), Sp l (r ^^^ restL l r)
  | [], r => by
    show r ^^^ r = 0
    exact Nat.xor_self r
  | o :: l, r => by
    have ih := restL_sp l (rest1 r o)
    show Sp l (r ^^^ restL l (rest1 r o)) ∨ Sp l ((r ^^^ restL l (rest1 r o)) ^^^ o)
    unfold rest1 at ih ⊢
    split at ih
    · rename_i h
      rw [if_pos h]
      rw [x2] at ih
      exact .inr ih
    · rename_i h
      rw [if_neg h]
      exact .inl ih
/-- places that are clear in the row and in the family stay so -/
theorem restL_keep {i : Nat} : ∀ (l : List Nat) (r : Nat), (∀ x ∈ l, x.testBit i = false) → (restL l r).testBit i = r.testBit i
  | [], r, _ => rfl
  | o :: l, r, h => by
    show (restL l (rest1 r o)).testBit i = _
    rw [restL_keep l _ fun x hx => h x (List.mem_cons_of_mem _ hx)]
    unfold rest1
    split
    · rw [Nat.testBit_xor, h o (List.mem_cons_self ..), Bool.xor_false]
    · rfl
/-- triangular: the lowest 1 of a row stands in no row behind it -/
def Tr (l : List Nat) : Prop := (∀ x ∈ l, x ≠ 0) ∧ l.Pairwise fun x y => y.testBit (lo x) = false
theorem Rd.tr {l : List Nat} (h : Rd l) : Tr l := ⟨h.1, h.2.imp fun q => q.1⟩
theorem rest1_clear {r o : Nat} (h : o ≠ 0) : (rest1 r o).testBit (lo o) = false := by
  unfold rest1
  split
  · rename_i k
    rw [Nat.testBit_xor, k, lo_set h]
    rfl
  · rename_i k
    simpa using k
theorem restL_clear : ∀ {l : List Nat} (r : Nat), Tr l → ∀ x ∈ l, (restL l r).testBit (lo x) = false
  | [], r, _, x, hx => by cases hx
  | o :: l, r, ⟨h1, h2⟩, x, hx => by
    obtain ⟨h3, h4⟩ := List.pairwise_cons.mp h2
    show (restL l (rest1 r o)).testBit (lo x) = false
    rcases List.mem_cons.mp hx with e | hx
    · subst e
      rw [restL_keep l _ h3]
      exact rest1_clear (h1 x (List.mem_cons_self ..))
    · exact restL_clear _ ⟨fun y hy => h1 y (List.mem_cons_of_mem _ hy), h4⟩ x hx
theorem Tr.ech : ∀ {l : List Nat}, Tr l → Ech (l.map fun x => (lo x, x))
  | [], _ => trivial
  | x :: l, ⟨h1, h2⟩ => by
    obtain ⟨h3, h4⟩ := List.pairwise_cons.mp h2
    refine ⟨lo_set (h1 x (List.mem_cons_self ..)), fun z hz => ?_, Tr.ech ⟨fun y hy => h1 y (List.mem_cons_of_mem _ hy), h4⟩⟩
    obtain ⟨y, hy, rfl⟩ := List.mem_map.mp hz
    exact h3 y hy
/-- a sum that is clear at all places of a triangular family is zero -/
theorem Tr.clear_zero : ∀ {l : List Nat} {v : Nat}, Tr l → Sp l v → (∀ x ∈ l, v.testBit (lo x) = false) → v = 0
  | [], v, _, h, _ => h
  | o :: l, v, ⟨h1, h2⟩, h, k => by
    obtain ⟨h3, h4⟩ := List.pairwise_cons.mp h2
    rcases h with h | h
    · exact Tr.clear_zero ⟨fun y hy => h1 y (List.mem_cons_of_mem _ hy), h4⟩ h fun x hx => k x (List.mem_cons_of_mem _ hx)
    · exfalso
      have e1 := Sp.bit h3 h
      rw [Nat.testBit_xor, k o (List.mem_cons_self ..), lo_set (h1 o (List.mem_cons_self ..))] at e1
      cases e1
theorem restL_zero {l : List Nat} {r : Nat} (h : Tr l) : restL l r = 0 ↔ Sp l r := by
  have h1 := restL_sp l r
  constructor
  · intro e
    rw [e, Nat.xor_zero] at h1
    exact h1
  · intro k
    have h2 := h1.xor k
    rw [Nat.xor_comm, ← x1, Nat.xor_self, Nat.zero_xor] at h2
    exact h.clear_zero h2 (restL_clear r h)
/-- one more row -/
def addRow (l : List Nat) (m : Nat) : List Nat := if restL l m ≠ 0 then (l.map fun o => if o.testBit (lo (restL l m)) then o ^^^ restL l m else o) ++ [restL l m] else l
theorem lo_mod {o r : Nat} (ho : o ≠ 0) (hr : r ≠ 0) (h : r.testBit (lo o) = false) : lo (if o.testBit (lo r) then o ^^^ r else o) = lo o ∧ (if o.testBit (lo r) then o ^^^ r else o) ≠ 0 ∧ (if o.testBit (lo r) then o ^^^ r else o).testBit (lo r) = false := by
  by_cases k : o.testBit (lo r) = true
  · rw [if_pos k]
    have l1 : lo o < lo r := Nat.lt_of_le_of_ne (lo_le k) fun e => by
      rw [e, lo_set hr] at h
      cases h
    have b1 : (o ^^^ r).testBit (lo o) = true := by rw [Nat.testBit_xor, lo_set ho, h]; rfl
    refine ⟨lo_eq b1 fun j hj => ?_, ne_zero_of b1, by rw [Nat.testBit_xor, k, lo_set hr]; rfl⟩
    rw [Nat.testBit_xor, lo_below ho hj, lo_below hr (Nat.lt_trans hj l1)]
    rfl
  · rw [if_neg k]
    exact ⟨rfl, ho, by simpa using k⟩
theorem addRow_rd {l : List Nat} {m : Nat} (h : Rd l) : Rd (addRow l m) := by
  unfold addRow
  split
  · rename_i hr
    generalize hR : restL l m = r at hr ⊢
    have hc : ∀ x ∈ l, r.testBit (lo x) = false := fun x hx => by rw [← hR]; exact restL_clear m h.tr x hx
    refine ⟨fun x hx => ?_, ?_⟩
    · rcases List.mem_append.mp hx with hx | hx
      · obtain ⟨o, ho, rfl⟩ := List.mem_map.mp hx
        exact (lo_mod (h.1 o ho) hr (hc o ho)).2.1
      · rw [List.mem_singleton.mp hx]
        exact hr
    · rw [List.pairwise_append]
      refine ⟨?_, List.pairwise_singleton _ _, fun a ha b hb => ?_⟩
      · rw [List.pairwise_map]
        refine List.Pairwise.imp_of_mem (fun {a b} ha hb hab => ?_) h.2
        rw [(lo_mod (h.1 a ha) hr (hc a ha)).1, (lo_mod (h.1 b hb) hr (hc b hb)).1]
        have bit : ∀ (x : Nat) (i : Nat), r.testBit i = false → (if x.testBit (lo r) then x ^^^ r else x).testBit i = x.testBit i := fun x i hi => by
          split
          · rw [Nat.testBit_xor, hi, Bool.xor_false]
          · rfl
        rw [bit b _ (hc a ha), bit a _ (hc b hb)]
        exact hab
      · obtain ⟨o, ho, rfl⟩ := List.mem_map.mp ha
        rw [List.mem_singleton.mp hb]
        obtain ⟨q1, q2, q3⟩ := lo_mod (h.1 o ho) hr (hc o ho)
        rw [q1]
        exact ⟨hc o ho, q3⟩
  · exact h
theorem addRow_eqv {l : List Nat} {m : Nat} : Eqv (addRow l m) (l ++ [m]) := by
  have h1 := restL_sp l m
  unfold addRow
  split
  · rename_i hr
    generalize hR : restL l m = r at hr h1 ⊢
    have mr : Sp (l ++ [m]) r := by
      have := (Sp.append_left (B := [m]) h1).xor (Sp.mem (gs := l ++ [m]) (g := m) (by simp))
      rw [x2, Nat.xor_self, Nat.zero_xor] at this
      exact this
    have hlast : ∀ (f : Nat → Nat), r ∈ l.map f ++ [r] := fun f => by simp
    refine Eqv.of (fun g hg => ?_) fun g hg => ?_
    · rcases List.mem_append.mp hg with hg | hg
      · obtain ⟨o, ho, rfl⟩ := List.mem_map.mp hg
        have ho' : Sp (l ++ [m]) o := Sp.append_left (Sp.mem ho)
        split
        · exact ho'.xor mr
        · exact ho'
      · rw [List.mem_singleton.mp hg]
        exact mr
    · have ol : ∀ o ∈ l, Sp ((l.map fun o => if o.testBit (lo r) then o ^^^ r else o) ++ [r]) o := fun o ho => by
        have k1 : Sp ((l.map fun o => if o.testBit (lo r) then o ^^^ r else o) ++ [r]) (if o.testBit (lo r) then o ^^^ r else o) := Sp.mem (List.mem_append_left _ (List.mem_map_of_mem (f := fun o => if o.testBit (lo r) then o ^^^ r else o) ho))
        split at k1
        · have := k1.xor (Sp.mem (hlast _))
          rw [xl] at this
          exact this
        · exact k1
      rcases List.mem_append.mp hg with hg | hg
      · exact ol g hg
      · rw [List.mem_singleton.mp hg]
        have := (Sp.sub ol h1).xor (Sp.mem (hlast _))
        rw [xl] at this
        exact this
  · rename_i hr
    have hr : restL l m = 0 := by
      by_cases e : restL l m = 0
      · exact e
      · exact absurd e hr
    rw [hr, Nat.xor_zero] at h1
    refine Eqv.of (fun g hg => Sp.append_left (Sp.mem hg)) fun g hg => ?_
    rcases List.mem_append.mp hg with hg | hg
    · exact Sp.mem hg
    · rw [List.mem_singleton.mp hg]
      exact h1
theorem Eqv.append {A B : List Nat} (h : Eqv A B) (C : List Nat) : Eqv (A ++ C) (B ++ C) := Eqv.of (fun g hg => by
    rcases List.mem_append.mp hg with hg | hg
    · exact Sp.append_left ((h g).mp (Sp.mem hg))
    · exact Sp.append_right (Sp.mem hg)) fun g hg => by
    rcases List.mem_append.mp hg with hg | hg
    · exact Sp.append_left ((h g).mpr (Sp.mem hg))
    · exact Sp.append_right (Sp.mem hg)
theorem fold_rd (f : List Nat → Nat → List Nat) (P : List Nat → Prop) (hP : ∀ l m, P l → P (f l m)) (hE : ∀ l m, P l → Eqv (f l m) (l ++ [m])) : ∀ (ms l : List Nat), P l → P (ms.foldl f l) ∧ Eqv (ms.foldl f l) (l ++ ms)
  | [], l, h => ⟨h, by rw [List.append_nil]; exact Eqv.refl l⟩
  | m :: ms, l, h => by
    obtain ⟨h1, h2⟩ := fold_rd f P hP hE ms (f l m) (hP l m h)
    refine ⟨h1, h2.trans ?_⟩
    have := (hE l m h).append ms
    rw [List.append_assoc] at this
    exact this
/-- the kept rows -/
def kept (ms : List Nat) : List Nat := ms.foldl addRow []
theorem kept_spec (ms : List Nat) : Rd (kept ms) ∧ Eqv (kept ms) ms := by
  have := fold_rd addRow Rd (fun _ _ h => addRow_rd h) (fun _ _ _ => addRow_eqv) ms [] ⟨fun x hx => (by cases hx), .nil⟩
  exact this
/-! ### the reduced family is one -/
theorem Rd.perm {l m : List Nat} (p : l.Perm m) (h : Rd l) : Rd m := ⟨fun x hx => h.1 x (p.mem_iff.mpr hx), (p.pairwise_iff (fun {a b} hab => ⟨hab.2, hab.1⟩)).mp h.2⟩
/-- ascending -/
def As (l : List Nat) : Prop := l.Pairwise fun x y => lo x < lo y
theorem Rd.low_in : ∀ {l : List Nat} {v : Nat}, Rd l → As l → Sp l v → v ≠ 0 → ∃ x ∈ l, lo x = lo v
  | [], v, _, _, h, h0 => absurd h h0
  | o :: l, v, ⟨h1, h2⟩, a, h, h0 => by
    obtain ⟨h3, h4⟩ := List.pairwise_cons.mp h2
    obtain ⟨a1, a2⟩ := List.pairwise_cons.mp a
    have ho := h1 o (List.mem_cons_self ..)
    rcases h with h | h
    · obtain ⟨x, hx, e⟩ := Rd.low_in ⟨fun y hy => h1 y (List.mem_cons_of_mem _ hy), h4⟩ a2 h h0
      exact ⟨x, List.mem_cons_of_mem _ hx, e⟩
    · refine ⟨o, List.mem_cons_self .., (lo_eq ?_ fun j hj => ?_).symm⟩
      · have := Sp.bit (fun g hg => (h3 g hg).1) h
        rw [Nat.testBit_xor, lo_set ho] at this
        simpa using this
      · have := Sp.bit (i := j) (fun g hg => lo_below (h1 g (List.mem_cons_of_mem _ hg)) (Nat.lt_trans hj (a1 g hg))) h
        rw [Nat.testBit_xor, lo_below ho hj] at this
        simpa using this
theorem Rd.tail {x : Nat} {l : List Nat} (h : Rd (x :: l)) : Rd l := ⟨fun y hy => h.1 y (List.mem_cons_of_mem _ hy), (List.pairwise_cons.mp h.2).2⟩
theorem Rd.tail_sp {x : Nat} {l : List Nat} (h : Rd (x :: l)) (v : Nat) : Sp l v ↔ Sp (x :: l) v ∧ v.testBit (lo x) = false := by
  have h3 := (List.pairwise_cons.mp h.2).1
  constructor
  · exact fun k => ⟨.inl k, Sp.bit (fun g hg => (h3 g hg).1) k⟩
  · rintro ⟨k | k, hb⟩
    · exact k
    · have := Sp.bit (fun g hg => (h3 g hg).1) k
      rw [Nat.testBit_xor, hb, lo_set (h.1 x (List.mem_cons_self ..))] at this
      cases this
theorem rd_unique : ∀ {l m : List Nat}, Rd l → As l → Rd m → As m → Eqv l m → l = m
  | [], [], _, _, _, _, _ => rfl
  | [], y :: m, _, _, hm, _, e => absurd ((e y).mpr (Sp.mem (List.mem_cons_self ..))) (hm.1 y (List.mem_cons_self ..))
  | x :: l, [], hl, _, _, _, e => absurd ((e x).mp (Sp.mem (List.mem_cons_self ..))) (hl.1 x (List.mem_cons_self ..))
  | x :: l, y :: m, hl, al, hm, am, e => by
    have hx := hl.1 x (List.mem_cons_self ..)
    have hy := hm.1 y (List.mem_cons_self ..)
    have sx : Sp (y :: m) x := (e x).mp (Sp.mem (List.mem_cons_self ..))
    have sy : Sp (x :: l) y := (e y).mpr (Sp.mem (List.mem_cons_self ..))
    have le : ∀ {z : Nat} {k : List Nat} {v : Nat}, As (z :: k) → (∃ q ∈ z :: k, lo q = lo v) → lo z ≤ lo v := fun {z k v} ha ⟨q, hq, e⟩ => by
      rw [← e]
      rcases List.mem_cons.mp hq with h | h
      · rw [h]
        exact Nat.le_refl _
      · exact Nat.le_of_lt ((List.pairwise_cons.mp ha).1 q h)
    have elo : lo x = lo y := Nat.le_antisymm (le al (hl.low_in al sy hy)) (le am (hm.low_in am sx hx))
    have exy : x = y := by
      have su : Sp (x :: l) (x ^^^ y) := (Sp.mem (List.mem_cons_self ..)).xor sy
      have sm : Sp (y :: m) (x ^^^ y) := (e _).mp su
      by_cases h0 : x ^^^ y = 0
      · have := congrArg (· ^^^ y) h0
        simp only [xl, Nat.zero_xor] at this
        exact this
      · exfalso
        obtain ⟨q, hq, eq⟩ := hl.low_in al su h0
        obtain ⟨r, hr, er⟩ := hm.low_in am sm h0
        have hb := lo_set h0
        rw [Nat.testBit_xor] at hb
        have bx : x.testBit (lo (x ^^^ y)) = true → q = x := fun h => by
          rcases List.mem_cons.mp hq with z | z
          · exact z
          · have := ((List.pairwise_cons.mp hl.2).1 q z).2
            rw [eq, h] at this
            cases this
        have by' : y.testBit (lo (x ^^^ y)) = true → r = y := fun h => by
          rcases List.mem_cons.mp hr with z | z
          · exact z
          · have := ((List.pairwise_cons.mp hm.2).1 r z).2
            rw [er, h] at this
            cases this
        have same : lo (x ^^^ y) = lo x → False := fun h => by
          rw [h, lo_set hx, elo, lo_set hy] at hb
          cases hb
        cases cx : x.testBit (lo (x ^^^ y)) with
        | true =>
          have := bx cx
          subst this
          exact same eq.symm
        | false =>
          cases cy : y.testBit (lo (x ^^^ y)) with
          | true =>
            have := by' cy
            subst this
            exact same (er.symm.trans elo.symm)
          | false =>
            rw [cx, cy] at hb
            cases hb
    subst exy
    refine congrArg (x :: ·) (rd_unique hl.tail (List.pairwise_cons.mp al).2 hm.tail (List.pairwise_cons.mp am).2 fun v => ?_)
    rw [hl.tail_sp, hm.tail_sp, e v]
end Gf
/-! ## Rank by the highest 1; sums with their indexes -/
namespace Gf
theorem log2_set {n : Nat} (h : n ≠ 0) : n.testBit n.log2 = true := by
  have h1 := Nat.log2_self_le h
  have h2 : n < 2 ^ (n.log2 + 1) := Nat.lt_log2_self
  rw [Nat.testBit_eq_decide_div_mod_eq]
  have : n / 2 ^ n.log2 = 1 := by
    rw [Nat.pow_succ] at h2
    have a : 1 ≤ n / 2 ^ n.log2 := (Nat.one_le_div_iff (Nat.two_pow_pos _)).mpr h1
    have b : n / 2 ^ n.log2 < 2 := Nat.div_lt_of_lt_mul (by omega)
    omega
  rw [this]
  rfl
theorem log2_above {n i : Nat} (h : n.log2 < i) : n.testBit i = false := Nat.testBit_lt_two_pow (Nat.lt_of_lt_of_le Nat.lt_log2_self (Nat.pow_le_pow_right (by decide) h))
theorem div_bit (n i : Nat) : n / 2 ^ i = 2 * (n / 2 ^ (i + 1)) + (n.testBit i).toNat := by
  rw [Nat.pow_succ, ← Nat.div_div_eq_div_mul, Nat.testBit_eq_decide_div_mod_eq]
  generalize n / 2 ^ i = a
  by_cases h : a % 2 = 1
  · simp [h]
    omega
  · simp [h]
    omega
theorem lt_bit {x y : Nat} (i : Nat) (hx : x.testBit i = false) (hy : y.testBit i = true) (h : ∀ j, i < j → x.testBit j = y.testBit j) : x < y := by
  have e : x / 2 ^ (i + 1) = y / 2 ^ (i + 1) := Nat.eq_of_testBit_eq fun j => by
    rw [Nat.testBit_div_two_pow, Nat.testBit_div_two_pow]
    exact h _ (by omega)
  have e1 := div_bit x i
  have e2 := div_bit y i
  rw [hx, e] at e1
  rw [hy] at e2
  have : x / 2 ^ i < y / 2 ^ i := by
    rw [e1, e2]
    simp
  exact Nat.lt_of_not_le fun q => absurd (Nat.div_le_div_right (c := 2 ^ i) q) (Nat.not_le.mpr this)
theorem getD_at {α : Type} {l : List α} {i : Nat} (d : α) (h : i < l.length) : l.getD i d = l[i] := by
  simp [List.getD, h]
theorem xor_lt {r o : Nat} (ho : o ≠ 0) : r ^^^ o < r ↔ r.testBit o.log2 = true := by
  cases h : r.testBit o.log2 with
  | true =>
    refine ⟨fun _ => rfl, fun _ => lt_bit o.log2 ?_ h fun j hj => ?_⟩
    · rw [Nat.testBit_xor, h, log2_set ho]
      rfl
    · rw [Nat.testBit_xor, log2_above hj, Bool.xor_false]
  | false =>
    refine ⟨fun k => ?_, fun k => by cases k⟩
    have : r < r ^^^ o := lt_bit o.log2 h (by rw [Nat.testBit_xor, h, log2_set ho]; rfl) fun j hj => by rw [Nat.testBit_xor, log2_above hj, Bool.xor_false]
    omega
/-- tops strictly descending -/
def Tp (l : List Nat) : Prop := (∀ x ∈ l, x ≠ 0) ∧ l.Pairwise fun x y => y.log2 < x.log2
def lr1 (r o : Nat) : Nat := if r ^^^ o < r then r ^^^ o else r
def lrRest (l : List Nat) (r : Nat) : Nat := l.foldl lr1 r
theorem lrRest_sp : ∀ (l : List Nat) (r : Nat), Sp l (r ^^^ lrRest l r)
  | [], r => Nat.xor_self r
  | o :: l, r => by
    have ih := lrRest_sp l (lr1 r o)
    show Sp l (r ^^^ lrRest l (lr1 r o)) ∨ Sp l ((r ^^^ lrRest l (lr1 r o)) ^^^ o)
    unfold lr1 at ih ⊢
    split at ih
    · rename_i h
      rw [if_pos h]
      rw [x2] at ih
      exact .inr ih
    · rename_i h
      rw [if_neg h]
      exact .inl ih
theorem lrRest_keep {i : Nat} : ∀ (l : List Nat) (r : Nat), (∀ x ∈ l, x.testBit i = false) → (lrRest l r).testBit i = r.testBit i
  | [], r, _ => rfl
  | o :: l, r, h => by
    show (lrRest l (lr1 r o)).testBit i = _
    rw [lrRest_keep l _ fun x hx => h x (List.mem_cons_of_mem _ hx)]
    unfold lr1
    split
    · rw [Nat.testBit_xor, h o (List.mem_cons_self ..), Bool.xor_false]
    · rfl
theorem lrRest_clear : ∀ {l : List Nat} (r : Nat), Tp l → ∀ x ∈ l, (lrRest l r).testBit x.log2 = false
  | [], r, _, x, hx => by cases hx
  | o :: l, r, ⟨h1, h2⟩, x, hx => by
    obtain ⟨h3, h4⟩ := List.pairwise_cons.mp h2
    have ho := h1 o (List.mem_cons_self ..)
    show (lrRest l (lr1 r o)).testBit x.log2 = false
    rcases List.mem_cons.mp hx with e | hx
    · subst e
      rw [lrRest_keep l _ fun y hy => log2_above (h3 y hy)]
      unfold lr1
      split
      · rename_i h
        rw [Nat.testBit_xor, (xor_lt ho).mp h, log2_set ho]
        rfl
      · rename_i h
        cases e : r.testBit x.log2 with
        | true => exact absurd ((xor_lt ho).mpr e) h
        | false => rfl
    · exact lrRest_clear _ ⟨fun y hy => h1 y (List.mem_cons_of_mem _ hy), h4⟩ x hx
theorem Tp.ech : ∀ {l : List Nat}, Tp l → Ech (l.map fun x => (x.log2, x))
  | [], _ => trivial
  | x :: l, ⟨h1, h2⟩ => by
    obtain ⟨h3, h4⟩ := List.pairwise_cons.mp h2
    refine ⟨log2_set (h1 x (List.mem_cons_self ..)), fun z hz => ?_, Tp.ech ⟨fun y hy => h1 y (List.mem_cons_of_mem _ hy), h4⟩⟩
    obtain ⟨y, hy, rfl⟩ := List.mem_map.mp hz
    exact log2_above (h3 y hy)
theorem log2_mono {a b : Nat} (h : a ≤ b) : a.log2 ≤ b.log2 := by
  by_cases ha : a = 0
  · subst ha
    exact Nat.zero_le _
  · exact (Nat.le_log2 (by omega)).mpr (Nat.le_trans (Nat.log2_self_le ha) h)
theorem lr_ok {l l' : List Nat} {m : Nat} (h : Tp l) (hr : lrRest l m ≠ 0) (p : l'.Perm (l ++ [lrRest l m])) (s : l'.Pairwise fun x y => y ≤ x) : Tp l' ∧ Eqv l' (l ++ [m]) := by
  have hc := lrRest_clear m h
  generalize hR : lrRest l m = r at hr p hc
  have hsp : Sp l (m ^^^ r) := by rw [← hR]; exact lrRest_sp l m
  constructor
  · refine ⟨fun x hx => ?_, ?_⟩
    · rcases List.mem_append.mp (p.mem_iff.mp hx) with k | k
      · exact h.1 x k
      · rw [List.mem_singleton.mp k]
        exact hr
    · have d : l'.Pairwise fun x y => x.log2 ≠ y.log2 := by
        refine (p.pairwise_iff (fun {a b} hab => Ne.symm hab)).mpr ?_
        rw [List.pairwise_append]
        refine ⟨h.2.imp fun q => Nat.ne_of_gt q, List.pairwise_singleton _ _, fun a ha b hb e => ?_⟩
        rw [List.mem_singleton.mp hb] at e
        have := hc a ha
        rw [e, log2_set hr] at this
        cases this
      exact (s.and d).imp fun ⟨q1, q2⟩ => Nat.lt_of_le_of_ne (log2_mono q1) (Ne.symm q2)
  · refine (Eqv.perm p).trans (Eqv.of (fun g hg => ?_) fun g hg => ?_)
    · rcases List.mem_append.mp hg with k | k
      · exact Sp.append_left (Sp.mem k)
      · rw [List.mem_singleton.mp k]
        have := (Sp.append_left (B := [m]) hsp).xor (Sp.mem (gs := l ++ [m]) (g := m) (by simp))
        rw [x2, Nat.xor_self, Nat.zero_xor] at this
        exact this
    · rcases List.mem_append.mp hg with k | k
      · exact Sp.append_left (Sp.mem k)
      · rw [List.mem_singleton.mp k]
        have := (Sp.append_left (B := [r]) hsp).xor (Sp.mem (gs := l ++ [r]) (g := r) (by simp))
        rw [xl] at this
        exact this
theorem lr_no {l : List Nat} {m : Nat} (hr : lrRest l m = 0) : Eqv l (l ++ [m]) := by
  have h := lrRest_sp l m
  rw [hr, Nat.xor_zero] at h
  refine Eqv.of (fun g hg => Sp.append_left (Sp.mem hg)) fun g hg => ?_
  rcases List.mem_append.mp hg with k | k
  · exact Sp.mem k
  · rw [List.mem_singleton.mp k]
    exact h
/-- the rank -/
def rk (ms : List Nat) : Nat := (kept ms).length
theorem rk_tp {l ms : List Nat} (h : Tp l) (e : Eqv l ms) : l.length = rk ms := by
  obtain ⟨k1, k2⟩ := kept_spec ms
  have := h.ech.eq k1.ech (by rw [map_snd, map_snd]; exact e.trans k2.symm)
  simpa [rk] using this
theorem rk_tr {l ms : List Nat} (h : Tr l) (e : Eqv l ms) : l.length = rk ms := by
  obtain ⟨k1, k2⟩ := kept_spec ms
  have := h.ech.eq k1.ech (by rw [map_snd, map_snd]; exact e.trans k2.symm)
  simpa [rk] using this
theorem rk_eqv {l m : List Nat} (e : Eqv l m) : rk l = rk m := by
  obtain ⟨k1, k2⟩ := kept_spec l
  exact rk_tr k1.tr (k2.trans e)
theorem rk_le {l A : List Nat} (h : ∀ x ∈ l, Sp A x) : rk l ≤ A.length := by
  obtain ⟨k1, k2⟩ := kept_spec l
  have := k1.ech.le (A := A) fun q hq => by
    obtain ⟨x, hx, rfl⟩ := List.mem_map.mp hq
    exact Sp.sub h ((k2 x).mp (Sp.mem hx))
  simpa [rk] using this
theorem rk_more {ms : List Nat} {m : Nat} (h : ¬ Sp ms m) : rk ms < rk (ms ++ [m]) := by
  obtain ⟨k1, k2⟩ := kept_spec ms
  have hr : restL (kept ms) m ≠ 0 := fun e => h ((k2 m).mp ((restL_zero k1.tr).mp e))
  have : kept (ms ++ [m]) = addRow (kept ms) m := by unfold kept; rw [List.foldl_append]; rfl
  unfold rk
  rw [this]
  unfold addRow
  rw [if_pos hr]
  simp
/-- rows and columns have one rank -/
theorem rk_cols {R C : List Nat} (hR : ∀ x ∈ R, x < 2 ^ C.length) (hC : ∀ k, k < C.length → C.getD k 0 = ofBits (fun i => (R.getD i 0).testBit k) R.length) : rk C = rk R := by
  have le1 : ∀ {R C : List Nat}, (∀ k, k < C.length → C.getD k 0 = ofBits (fun i => (R.getD i 0).testBit k) R.length) → rk C ≤ rk R := fun {R C} h => by
    obtain ⟨k1, k2⟩ := kept_spec R
    obtain ⟨D, hD, hk⟩ := cols_le (s := 0) (n := R.length) (kept R) (fun i => R.getD i 0) fun i hi => (k2 _).mpr (Sp.mem (by
      rw [getD_at _ hi]
      exact List.getElem_mem hi))
    have := rk_le (l := C) (A := D) fun x hx => by
      obtain ⟨k, hk', rfl⟩ := List.mem_iff_getElem.mp hx
      have e := h k hk'
      rw [getD_at _ hk'] at e
      rw [e]
      exact hk k
    rw [hD] at this
    exact this
  refine Nat.le_antisymm (le1 hC) (le1 fun i hi => Nat.eq_of_testBit_eq fun k => ?_)
  rw [ofBits_bit]
  by_cases hk : k < C.length
  · rw [hC k hk, ofBits_bit]
    simp [hi, hk]
  · have : R.getD i 0 < 2 ^ C.length := hR _ (by rw [getD_at _ hi]; exact List.getElem_mem hi)
    rw [Nat.testBit_lt_two_pow (Nat.lt_of_lt_of_le this (Nat.pow_le_pow_right (by decide) (by omega)))]
    simp [hk]
/-! ### sums with indexes -/
def selX (R : Nat → Nat) (w : Nat) : List Nat → Nat
  | [] => 0
  | k :: ks => (if w.testBit k then R k else 0) ^^^ selX R w ks
theorem selX_xor (R : Nat → Nat) (w v : Nat) : ∀ ks, selX R (w ^^^ v) ks = selX R w ks ^^^ selX R v ks
  | [] => (Nat.xor_self 0).symm
  | k :: ks => by
    rw [selX, selX, selX, selX_xor R w v ks, Nat.testBit_xor]
    have r : ∀ a b c d : Nat, (a ^^^ b) ^^^ (c ^^^ d) = (a ^^^ c) ^^^ (b ^^^ d) := fun a b c d => Nat.eq_of_testBit_eq fun i => by
      simp only [Nat.testBit_xor]; cases a.testBit i <;> cases b.testBit i <;> cases c.testBit i <;> cases d.testBit i <;> rfl
    rw [r]
    cases w.testBit k <;> cases v.testBit k <;> simp
theorem selX_zero (R : Nat → Nat) : ∀ ks, selX R 0 ks = 0
  | [] => rfl
  | k :: ks => by rw [selX, selX_zero R ks, Nat.zero_testBit]; simp
theorem selX_two (R : Nat → Nat) (k : Nat) : ∀ ks : List Nat, ks.Nodup → selX R (2 ^ k) ks = if k ∈ ks then R k else 0
  | [], _ => rfl
  | j :: ks, h => by
    obtain ⟨h1, h2⟩ := List.nodup_cons.mp h
    rw [selX, selX_two R k ks h2, Nat.testBit_two_pow]
    by_cases e : k = j
    · subst e
      simp [h1]
    · simp [e]
def sw1 (z : Nat × Nat) (q : Nat × Nat) : Nat × Nat := if z.1.testBit (lo q.1) then (z.1 ^^^ q.1, z.2 ^^^ q.2) else z
def sumWith (l : List (Nat × Nat)) (z : Nat × Nat) : Nat × Nat := l.foldl sw1 z
theorem sumWith_fst : ∀ (l : List (Nat × Nat)) (z : Nat × Nat), (sumWith l z).1 = restL (l.map (·.1)) z.1
  | [], _ => rfl
  | q :: l, z => by
    show (sumWith l (sw1 z q)).1 = restL (l.map (·.1)) (rest1 z.1 q.1)
    rw [sumWith_fst l]
    unfold sw1 rest1
    split <;> rfl
/-- each row is the sum that its indexes tell -/
def Tells (R : Nat → Nat) (ks : List Nat) (x : Nat) (z : Nat × Nat) : Prop := z.1 = x ^^^ selX R z.2 ks
theorem sumWith_tells {R : Nat → Nat} {ks : List Nat} {x : Nat} : ∀ (l : List (Nat × Nat)) (z : Nat × Nat), (∀ q ∈ l, q.1 = selX R q.2 ks) → Tells R ks x z → Tells R ks x (sumWith l z)
  | [], _, _, h => h
  | q :: l, z, hq, h => by
    refine sumWith_tells l (sw1 z q) (fun y hy => hq y (List.mem_cons_of_mem _ hy)) ?_
    unfold sw1
    split
    · show z.1 ^^^ q.1 = x ^^^ selX R (z.2 ^^^ q.2) ks
      rw [selX_xor, ← x1, ← (show z.1 = x ^^^ selX R z.2 ks from h), ← hq q (List.mem_cons_self ..)]
    · exact h
end Gf
/-! ## Bits of ints -/
namespace Gf
open PySem PyProof.Rows
theorem xor_half (a b : Nat) : (a ^^^ b) / 2 = (a / 2) ^^^ (b / 2) := Nat.eq_of_testBit_eq fun i => by
  simp only [Nat.testBit_xor, ← Nat.testBit_succ]
theorem and_half (a b : Nat) : (a &&& b) / 2 = (a / 2) &&& (b / 2) := Nat.eq_of_testBit_eq fun i => by
  simp only [Nat.testBit_and, ← Nat.testBit_succ]
theorem mod_two_bit (a : Nat) : a % 2 = (a.testBit 0).toNat := by
  rw [Nat.testBit_zero]
  by_cases h : a % 2 = 1
  · simp [h]
  · simp [h]
    omega
theorem xor_and : ∀ (n a b : Nat), a ≤ n → (a ^^^ b) + 2 * (a &&& b) = a + b
  | 0, a, b, h => by
    have : a = 0 := by omega
    subst this
    simp
  | n + 1, a, b, h => by
    by_cases h0 : a = 0
    · subst h0
      simp
    · have ih := xor_and n (a / 2) (b / 2) (by omega)
      rw [← xor_half, ← and_half] at ih
      have m1 := mod_two_bit (a ^^^ b)
      have m2 := mod_two_bit (a &&& b)
      have m3 := mod_two_bit a
      have m4 := mod_two_bit b
      rw [Nat.testBit_xor] at m1
      rw [Nat.testBit_and] at m2
      cases h1 : a.testBit 0 <;> cases h2 : b.testBit 0 <;> rw [h1] at m1 m2 m3 <;> rw [h2] at m1 m2 m4 <;> simp only [Bool.xor_self, Bool.xor_false, Bool.false_xor, Bool.true_xor, Bool.and_self, Bool.and_false, Bool.and_true, Bool.false_and, Bool.not_true, Bool.not_false, Bool.toNat_true, Bool.toNat_false] at m1 m2 m3 m4 <;> omega
theorem bxor (a b : Nat) : Builtin.bitXor (a : Int) (b : Int) = ((a ^^^ b : Nat) : Int) := by
  rw [bitXor_and, bitAnd_pp (by omega) (by omega), Int.toNat_natCast, Int.toNat_natCast]
  have := xor_and a a b (Nat.le_refl _)
  omega
theorem bor (a b : Nat) : Builtin.bitOr (a : Int) (b : Int) = ((a ||| b : Nat) : Int) := by
  have := L2.bitOr_nn (x := (a : Int)) (y := (b : Int)) (by omega) (by omega)
  simpa using this
theorem shr_nat (m k : Nat) : ((m : Int) / 2 ^ k) = ((m / 2 ^ k : Nat) : Int) := by push_cast; rfl
theorem shr_bit (m k : Nat) : Builtin.bitAnd ((m : Int) / 2 ^ k) 1 = (((m.testBit k).toNat : Nat) : Int) := by
  rw [bitAnd_m1, Nat.testBit_eq_decide_div_mod_eq, shr_nat]
  by_cases h : m / 2 ^ k % 2 = 1
  · have q : ((m / 2 ^ k : Nat) : Int) % 2 = 1 := by omega
    rw [q, decide_eq_true h]
    rfl
  · have q : ((m / 2 ^ k : Nat) : Int) % 2 = 0 := by omega
    rw [q, decide_eq_false h]
    rfl
theorem lo_form {n : Nat} (h : n ≠ 0) : n = 2 ^ lo n * (2 * (n / 2 ^ (lo n + 1)) + 1) := by
  have e1 := div_bit n (lo n)
  rw [lo_set h] at e1
  have e2 : n % 2 ^ lo n = 0 := Nat.eq_of_testBit_eq fun i => by
    rw [Nat.testBit_mod_two_pow, Nat.zero_testBit]
    by_cases hi : i < lo n
    · rw [lo_below h hi]
      simp
    · simp [hi]
  have e3 := Nat.div_add_mod n (2 ^ lo n)
  rw [e2, Nat.add_zero, e1] at e3
  simpa using e3.symm
theorem low_pow {n : Nat} (h : n ≠ 0) : Builtin.bitAnd (n : Int) (-(n : Int)) = ((2 ^ lo n : Nat) : Int) := by
  have e := PySem.W.kbt_low (lo n) ((n / 2 ^ (lo n + 1) : Nat) : Int)
  have e2 : ((n : Nat) : Int) = 2 ^ lo n * (2 * ((n / 2 ^ (lo n + 1) : Nat) : Int) + 1) := by
    have := congrArg (fun z : Nat => (z : Int)) (lo_form h)
    simpa using this
  rw [← e2] at e
  rw [e]
  push_cast
  rfl
theorem and_pow (r k : Nat) : (Builtin.bitAnd (r : Int) ((2 ^ k : Nat) : Int) = 0) ↔ r.testBit k = false := by
  have e : (((2 : Nat) ^ k : Nat) : Int) = (2 : Int) ^ k := by push_cast; rfl
  rw [e, PySem.W.kbt_bit, shr_nat, Nat.testBit_eq_decide_div_mod_eq]
  have hp : (0 : Int) < 2 ^ k := by
    rw [← e]
    exact Int.ofNat_lt.mpr (Nat.two_pow_pos k)
  by_cases h : r / 2 ^ k % 2 = 1
  · have : (((r / 2 ^ k : Nat) : Int) % 2) = 1 := by omega
    rw [this]
    simp [h]
    omega
  · have : (((r / 2 ^ k : Nat) : Int) % 2) = 0 := by omega
    rw [this]
    simp [h]
theorem or_step (m i : Nat) : (m % 2 ^ i) ||| ((m.testBit i).toNat * 2 ^ i) = m % 2 ^ (i + 1) := Nat.eq_of_testBit_eq fun j => by
  rw [Nat.testBit_or, Nat.testBit_mod_two_pow, Nat.testBit_mod_two_pow]
  by_cases e : j = i
  · subst e
    cases h : m.testBit j <;> simp [Nat.testBit_two_pow_self]
  · have e2 : ((m.testBit i).toNat * 2 ^ i).testBit j = false := by
      cases m.testBit i
      · simp
      · simp [Nat.testBit_two_pow]
        omega
    rw [e2]
    by_cases h : j < i
    · have : j < i + 1 := by omega
      simp [h, this]
    · have : ¬ j < i + 1 := by omega
      simp [h, this]
end Gf
/-! ## The program's bits: what its defs tell -/
namespace Bt
open PySem PySem.Spec PyProof.Rows L2 DS Gf
theorem _root_.DS.Sat.eq {α : Type} {x : Out α} {b : α} (h : Sat x fun a => a = b) : x = .ok b := by
  obtain ⟨a, e, rfl⟩ := h
  exact e
theorem _root_.DS.getI {α : Type} {n i : Nat} {f : Nat → α} {x : α} (h : ((List.range n).map f)[i]? = some x) : i < n ∧ x = f i := by
  rw [List.getElem?_map] at h
  by_cases hi : i < n
  · rw [List.getElem?_range hi] at h
    exact ⟨hi, (Option.some.inj h).symm⟩
  · rw [List.getElem?_eq_none (by simpa using hi)] at h
    cases h
/-- bits of a row -/
def bitsD (m s : Nat) : List D := (List.range s).map fun k => D.int (((m.testBit k).toNat : Nat) : Int)
theorem low_ok {C : Cxt} (n : Int) : DS.run C ⟨1, 1, (.cons (.ret (.bin .BitAnd (.slot 0) (.un .USub (.slot 0)))) .nil)⟩ [.int n] = .ok (.v (.int (Builtin.bitAnd n (-n)))) := rfl
theorem shl_ok {i j : Nat} (hj : j ≤ 1000000) (hi : i < 2 ^ 64) : binD .LShift (.int (i : Int)) (.int (j : Int)) = .ok (.v (.int ((i * 2 ^ j : Nat) : Int))) := by
  have hc : CPow (i : Int) (j : Int) := ⟨by omega, by omega, by simpa using hi⟩
  have e : (i : Int) * 2 ^ (j : Int).toNat = ((i * 2 ^ j : Nat) : Int) := by
    rw [Int.toNat_natCast]
    push_cast
    rfl
  show (if CPow (i : Int) (j : Int) then Out.ok (Ar.v (.int ((i : Int) * 2 ^ (j : Int).toNat))) else Out.bad) = _
  rw [if_pos hc, e]
theorem shr_ok {i j : Nat} : binD .RShift (.int (i : Int)) (.int (j : Int)) = .ok (.v (.int ((i / 2 ^ j : Nat) : Int))) := by
  have e : (i : Int) / 2 ^ (j : Int).toNat = ((i / 2 ^ j : Nat) : Int) := by
    rw [Int.toNat_natCast]
    exact shr_nat i j
  show (if 0 ≤ (j : Int) then Out.ok (Ar.v (.int ((i : Int) / 2 ^ (j : Int).toNat))) else Out.bad) = _
  rw [if_pos (by omega), e]
theorem xor_ok {i j : Nat} : binD .BitXor (.int (i : Int)) (.int (j : Int)) = .ok (.v (.int ((i ^^^ j : Nat) : Int))) := by
  rw [← bxor]
  rfl
theorem or_ok {i j : Nat} : binD .BitOr (.int (i : Int)) (.int (j : Int)) = .ok (.v (.int ((i ||| j : Nat) : Int))) := by
  rw [← bor]
  rfl
theorem bit_ok {m k : Nat} : binD .BitAnd (.int ((m / 2 ^ k : Nat) : Int)) (.int 1) = .ok (.v (.int (((m.testBit k).toNat : Nat) : Int))) := by
  rw [← shr_bit, shr_nat]
  rfl
theorem add_ok {i j : Nat} : binD .Add (.int (i : Int)) (.int (j : Int)) = .ok (.v (.int ((i + j : Nat) : Int))) := by
  push_cast
  rfl
def bMask : SRs := (.cons (.setS 1 (.int 0)) (.cons (.for_ (.tp [2, 3]) .enum (.cons (.slot 0) .nil) (.cons (.setS 1 (.bin .BitOr (.slot 1) (.bin .LShift (.slot 3) (.slot 2)))) .nil)) (.cons (.ret (.slot 1)) .nil)))
theorem mask_ok {C : Cxt} {t : D} {m s : Nat} (ht : seqOf t = some (bitsD m s)) (hm : m < 2 ^ s) (hs : s ≤ 1000000) : DS.run C ⟨4, 1, bMask⟩ [t] = .ok (.v (.int (m : Int))) := Sat.eq <| by
  refine run_sat rfl ?_
  refine exs_next (σ1 := [.val t, .val (.int 0), .un, .un]) rfl ?_
  refine exs_cons (for_sat (σ1 := [.val t, .val (.int 0), .un, .un]) (rs := [.v t]) (xs := enumD 0 (bitsD m s)) rfl (by simp [itD, seq1D, Ar.view, ht]) rfl (fun i σ => ∃ a b, σ = [.val t, .val (.int ((m % 2 ^ i : Nat) : Int)), a, b]) ⟨.un, .un, by simp [Nat.mod_one]⟩ ?_ ?_)
  · rintro i x σ hx ⟨a, b, rfl⟩
    obtain ⟨e1, e2⟩ := enumD_eq (bitsD m s) 0
    rw [e2 i] at hx
    cases hb : (bitsD m s)[i]? with
    | none => rw [hb] at hx; cases hx
    | some d =>
      rw [hb] at hx
      obtain ⟨hi, rfl⟩ := getI hb
      have hx : D.tup [.int ((0 + i : Nat) : Int), .int (((m.testBit i).toNat : Nat) : Int)] = x := Option.some.inj hx
      subst hx
      rw [Nat.zero_add]
      refine ⟨_, rfl, exs_next (x_setS (vv_bin (vv_slot (i := 1) rfl).w (vv_bin (vv_slot (i := 3) rfl).w (vv_slot (i := 2) rfl).w (shl_ok (i := (m.testBit i).toNat) (j := i) (by omega) (by cases m.testBit i <;> decide))).w or_ok)) (exs_nil ⟨.val (.int (i : Int)), .val (.int (((m.testBit i).toNat : Nat) : Int)), ?_⟩)⟩
      rw [or_step]
      rfl
  · rintro σ ⟨a, b, rfl⟩
    refine exs_rt rfl ⟨rfl, ?_⟩
    have e1 := (enumD_eq (bitsD m s) 0).1
    rw [e1]
    simp [bitsD, Nat.mod_eq_of_lt hm]
/-- a table: rows as sequences of bits -/
def RowD (s : Nat) (m : Nat) (t : D) : Prop := (t = .tup (bitsD m s) ∨ t = .lst (bitsD m s)) ∧ m < 2 ^ s
theorem RowD.seq {m s : Nat} {t : D} (h : RowD s m t) : seqOf t = some (bitsD m s) := by
  rcases h.1 with rfl | rfl <;> rfl
theorem range1_ok {n : Nat} (h : n ≤ 1000000) : itD .range1 [.int (n : Int)] = some ((List.range n).map fun k : Nat => D.int (k : Int)) := by
  simp only [itD, range1D]
  rw [if_pos (by omega), rangeD_eq]
  refine congrArg some (List.map_congr_left fun k _ => ?_)
  congr 1
  omega
def eBits : IR := .comp (.nm 2) [2] .range1 (.cons (.slot 1) .nil) (.bl true) (.bin .BitAnd (.bin .RShift (.slot 0) (.slot 2)) (.int 1))
theorem size_ok {n : Nat} (h : n ≤ 1000000) : n ≤ sizeLine := Nat.le_trans h (by decide)
theorem bits_comp {C : Cxt} {m s : Nat} (hs : s ≤ 1000000) : ev C eBits [.val (.int (m : Int)), .val (.int (s : Int)), .un] = .ok (.fr (bitsD m s), [.val (.int (m : Int)), .val (.int (s : Int)), .un]) := by
  have he := comp_eq (C := C) (t := .nm 2) (own := [2]) (k := .range1) (es := .cons (.slot 1) .nil) (ifs := .bl true) (e := .bin .BitAnd (.bin .RShift (.slot 0) (.slot 2)) (.int 1)) (σ := [.val (.int (m : Int)), .val (.int (s : Int)), .un]) (rs := [.v (.int (s : Int))]) (xs := (List.range s).map fun k : Nat => D.int (k : Int))
    (g := fun x => match x with | .int k => some (.int (((m.testBit k.toNat).toNat : Nat) : Int)) | _ => none) rfl (range1_ok hs) rfl rfl (fun x hx => by
      obtain ⟨k, _, rfl⟩ := List.mem_map.mp hx
      have hv : Vv C (.bin .BitAnd (.bin .RShift (.slot 0) (.slot 2)) (.int 1)) [.val (.int (m : Int)), .val (.int (s : Int)), .val (.int (k : Int))] (.int (((m.testBit k).toNat : Nat) : Int)) := vv_bin (vv_bin (vv_slot (i := 0) rfl).w (vv_slot (i := 2) rfl).w shr_ok).w vv_int.w bit_ok
      exact turn_some (τ1 := [.val (.int (m : Int)), .val (.int (s : Int)), .val (.int (k : Int))]) rfl tt_true hv) (by
      rw [map_int (h := fun k => D.int (((m.testBit k).toNat : Nat) : Int)) (fun k _ => by simp)]
      simp
      exact size_ok hs)
  rw [map_int (h := fun k => D.int (((m.testBit k).toNat : Nat) : Int)) (fun k _ => by simp)] at he
  exact he
end Bt
namespace Bt
open PySem PySem.Spec PyProof.Rows L2 DS Gf
def iD (l : List Nat) : List D := l.map fun k : Nat => D.int (k : Int)
theorem iD_get {l : List Nat} {i : Nat} {x : D} (h : (iD l)[i]? = some x) : ∃ m, l[i]? = some m ∧ x = .int (m : Int) := by
  unfold iD at h
  rw [List.getElem?_map] at h
  cases e : l[i]? with
  | none => rw [e] at h; cases h
  | some m => rw [e] at h; exact ⟨m, rfl, (Option.some.inj h).symm⟩
theorem take_snoc {α : Type} {l : List α} {i : Nat} {m : α} (h : l[i]? = some m) : l.take (i + 1) = l.take i ++ [m] := by
  rw [List.take_add_one, h]
  rfl
def Pl (s : Sl) : Prop := s = .un ∨ ∃ d, s = .val d
theorem bitsOf_ok {C : Cxt} {m s : Nat} (hs : s ≤ 1000000) : DS.run C ⟨3, 2, (.cons (.ret (.blt .tuple (.cons eBits .nil))) .nil)⟩ [.int (m : Int), .int (s : Int)] = .ok (.v (.tup (bitsD m s))) :=
  run_ret rfl rfl (blt_ev (wl_cons (sq_of (bits_comp hs) rfl).w wl_nil) rfl) rfl
theorem lawBits_ok {C : Cxt} {m s : Nat} (hs : s ≤ 1000000) : DS.run C ⟨3, 2, (.cons (.ret eBits) .nil)⟩ [.int (m : Int), .int (s : Int)] = .ok (.fr (bitsD m s)) :=
  run_ret rfl rfl (bits_comp hs) rfl
theorem cmp_ne {x y : D} : cmpD .NotEq x y = (eqD x y).map (fun k => !k) := rfl
theorem and_ok {i j : Int} : binD .BitAnd (.int i) (.int j) = .ok (.v (.int (Builtin.bitAnd i j))) := rfl
theorem sortKey_ev {C : Cxt} {f : Nat} {e : IR} {σ σ1 : En} {ys : List D} {ks : List Int} (h : sq (ev C e σ) = .ok (.v (.lst ys), σ1)) (hk : keysD (C.fn f) ys = .ok ks) : ev C (.sortKey f e) σ = .ok (.fr ((ksort (ks.zip ys)).map (·.2)), σ1) := by
  simp only [ev, h, Out.bnd, Ar.view, hk]
/-- the test by the lowest 1 -/
theorem low_test {r o : Nat} (ho : o ≠ 0) : cmpD .NotEq (.int (Builtin.bitAnd (r : Int) (Builtin.bitAnd (o : Int) (-(o : Int))))) (.int 0) = some (r.testBit (lo o)) := by
  rw [cmp_ne, eqD_int, low_pow ho]
  have := and_pow r (lo o)
  cases h : r.testBit (lo o) with
  | true =>
    have : ¬ Builtin.bitAnd (r : Int) ((2 ^ Gf.lo o : Nat) : Int) = 0 := fun e => by
      rw [this.mp e] at h
      cases h
    rw [decide_eq_false this]
    rfl
  | false =>
    rw [decide_eq_true (this.mpr h)]
    rfl
theorem ne_test {r : Nat} : cmpD .NotEq (.int (r : Int)) (.int 0) = some (decide (r ≠ 0)) := by
  rw [cmp_ne, eqD_int]
  by_cases h : r = 0
  · subst h
    rfl
  · have : ¬ (r : Int) = 0 := by omega
    simp [h]
/-- reduced_masks -/
def bRed (j : Nat) : SRs := (.cons (.set 1 (.lst .nil)) (.cons (.for_ (.nm 2) .seq (.cons (.slot 0) .nil) (.cons (.setS 3 (.slot 2)) (.cons (.for_ (.nm 4) .seq (.cons (.bor 1) .nil) (.cons (.ife (.cmpT .NotEq (.bin .BitAnd (.slot 3) (.call j (.cons (.slot 4) .nil))) (.int 0)) (.cons (.setS 3 (.bin .BitXor (.slot 3) (.slot 4))) .nil) .nil) .nil)) (.cons (.ife (.cmpT .NotEq (.slot 3) (.int 0)) (.cons (.setS 5 (.call j (.cons (.slot 3) .nil))) (.cons (.set 1 (.comp (.nm 4) [4] .seq (.cons (.bor 1) .nil) (.bl true) (.ife (.cmpT .NotEq (.bin .BitAnd (.slot 4) (.slot 5)) (.int 0)) (.bin .BitXor (.slot 4) (.slot 3)) (.slot 4)))) (.cons (.app 1 (.slot 3)) .nil))) .nil) .nil)))) (.cons (.ret (.blt .tuple (.cons (.sortKey j (.slot 1)) .nil))) .nil)))
def sortLow (l : List Nat) : List Nat := (ksort ((l.map fun x => ((2 ^ Gf.lo x : Nat) : Int)).zip l)).map (·.2)
theorem x_setF {C : Cxt} {i : Nat} {e : IR} {σ σ1 : En} {ds : List D} (h : ev C e σ = .ok (.fr ds, σ1)) : ex C (.set i e) σ = .ok (.nx, σ1.set i (.own ds)) := by
  simp only [ex, h, Out.bnd]
theorem vv_ife {C : Cxt} {t a b : IR} {σ : En} {k : Bool} {d : D} (h : Tt C t σ k) (h1 : k = true → Vv C a σ d) (h2 : k = false → Vv C b σ d) : Vv C (.ife t a b) σ d := by
  have e : ev C (.ife t a b) σ = if k = true then sq (ev C a σ) else sq (ev C b σ) := by
    unfold Tt at h
    simp only [ev, h, Out.bnd]
  unfold Vv at *
  rw [e]
  cases k with
  | true => rw [if_pos rfl, sq_sq, h1 rfl]
  | false => rw [if_neg (by simp), sq_sq, h2 rfl]
theorem addRow_len {l : List Nat} {m : Nat} : (addRow l m).length ≤ l.length + 1 := by
  unfold addRow
  split
  · simp
  · omega
theorem kept_len : ∀ (ms l : List Nat), (ms.foldl addRow l).length ≤ l.length + ms.length
  | [], l => Nat.le_refl _
  | m :: ms, l => by
    have h1 := kept_len ms (addRow l m)
    have h2 := addRow_len (l := l) (m := m)
    show (ms.foldl addRow (addRow l m)).length ≤ _
    rw [List.length_cons]
    omega
theorem keys_ok {m : List D → Out Ar} (hj : ∀ n : Int, m [.int n] = .ok (.v (.int (Builtin.bitAnd n (-n))))) : ∀ l : List Nat, (∀ x ∈ l, x ≠ 0) → keysD m (iD l) = .ok (l.map fun x => ((2 ^ Gf.lo x : Nat) : Int))
  | [], _ => rfl
  | x :: l, h => by
    have ih := keys_ok hj l fun y hy => h y (List.mem_cons_of_mem _ hy)
    show (m [.int (x : Int)]).bnd _ = _
    rw [hj, low_pow (h x (List.mem_cons_self ..))]
    simp only [Out.bnd]
    rw [show keysD m (List.map (fun k : Nat => D.int (k : Int)) l) = keysD m (iD l) from rfl, ih]
    rfl
theorem zip_iD : ∀ (ks : List Int) (l : List Nat), ks.zip (iD l) = (ks.zip l).map fun p => (p.1, D.int (p.2 : Int))
  | [], _ => rfl
  | _ :: _, [] => rfl
  | k :: ks, x :: l => congrArg (_ :: ·) (zip_iD ks l)
theorem kins_map {α β : Type} (f : α → β) (k : Int) (a : α) : ∀ l : List (Int × α), (kins k a l).map (fun p => (p.1, f p.2)) = kins k (f a) (l.map fun p => (p.1, f p.2))
  | [] => rfl
  | q :: r => by
    unfold kins
    rw [List.map_cons]
    dsimp only
    split
    · rfl
    · rw [List.map_cons, kins_map f k a r]
theorem ksort_map {α β : Type} (f : α → β) : ∀ l : List (Int × α), (ksort l).map (fun p => (p.1, f p.2)) = ksort (l.map fun p => (p.1, f p.2))
  | [] => rfl
  | q :: r => by
    show (kins q.1 q.2 (ksort r)).map _ = kins q.1 (f q.2) (ksort (r.map _))
    rw [kins_map, ksort_map f r]
theorem sort_iD {ks : List Int} {l : List Nat} : (ksort (ks.zip (iD l))).map (·.2) = iD ((ksort (ks.zip l)).map (·.2)) := by
  rw [zip_iD, ← ksort_map (fun x : Nat => D.int (x : Int)), List.map_map, iD, List.map_map]
  rfl
theorem x_retE' {C : Cxt} {e : IR} {σ σ1 : En} {r : Ar} (h : ev C e σ = .ok (r, σ1)) (hb : r.isB = false) : ex C (.ret e) σ = .ok (.rt r, σ1) := by
  simp only [ex, h, Out.bnd, hb]
  rfl
theorem red_ok {C : Cxt} {j : Nat} (hj : ∀ n : Int, C.fn j [.int n] = .ok (.v (.int (Builtin.bitAnd n (-n))))) {t : D} {ms : List Nat} (ht : seqOf t = some (iD ms)) (hl : ms.length ≤ 1000000) : DS.run C ⟨6, 1, bRed j⟩ [t] = .ok (.v (.tup (iD (sortLow (kept ms))))) := Sat.eq <| by
  have rdk : ∀ i, Rd (kept (ms.take i)) := fun i => (kept_spec _).1
  have szk : ∀ i, (kept (ms.take i)).length ≤ 1000000 := fun i => by
    have := kept_len (ms.take i) []
    unfold kept
    simp at this
    omega
  refine run_sat rfl ?_
  refine exs_next (σ1 := [.val t, .own [], .un, .un, .un, .un]) rfl ?_
  refine exs_cons (for_sat (σ1 := [.val t, .own [], .un, .un, .un, .un]) (rs := [.v t]) (xs := iD ms) rfl (by simp [itD, seq1D, Ar.view, ht]) rfl
    (fun i σ => ∃ a b c d, Pl c ∧ σ = [.val t, .own (iD (kept (ms.take i))), a, b, c, d]) ⟨.un, .un, .un, .un, .inl rfl, rfl⟩ ?_ ?_)
  · rintro i x σ hx ⟨a, b, c, d, pc, rfl⟩
    obtain ⟨m, hm, rfl⟩ := iD_get hx
    obtain ⟨K, hK⟩ : ∃ K, K = kept (ms.take i) := ⟨_, rfl⟩
    have rd := rdk i
    have sz := szk i
    have hK1 : kept (ms.take (i + 1)) = addRow K m := by
      rw [take_snoc hm, hK]
      unfold kept
      rw [List.foldl_append]
      rfl
    rw [hK1]
    rw [← hK] at rd sz ⊢
    refine ⟨[.val t, .own (iD K), .val (.int (m : Int)), b, c, d], rfl, ?_⟩
    refine exs_next (σ1 := [.val t, .own (iD K), .val (.int (m : Int)), .val (.int (m : Int)), c, d]) (x_setS (vv_slot (i := 2) rfl)) ?_
    refine exs_cons (for_br (j := 1) (xs := iD K) (σ1 := [.val t, .own (iD K), .val (.int (m : Int)), .val (.int (m : Int)), c, d]) rfl rfl
      (fun n σ => ∃ c', Pl c' ∧ σ = [.val t, .lock (iD K), .val (.int (m : Int)), .val (.int ((restL (K.take n) m : Nat) : Int)), c', d]) ⟨c, pc, rfl⟩ ?_ ?_)
    · rintro n y σ hy ⟨c', _, rfl⟩
      obtain ⟨o, ho, rfl⟩ := iD_get hy
      have o0 : o ≠ 0 := rd.1 o (List.mem_of_getElem? ho)
      have er : restL (K.take (n + 1)) m = rest1 (restL (K.take n) m) o := by
        rw [take_snoc ho]
        unfold restL
        rw [List.foldl_append]
        rfl
      rw [er]
      obtain ⟨r, hr⟩ : ∃ r, r = restL (K.take n) m := ⟨_, rfl⟩
      rw [← hr]
      refine ⟨[.val t, .lock (iD K), .val (.int (m : Int)), .val (.int (r : Int)), .val (.int (o : Int)), d], rfl, exs_cons (x_ife (k := r.testBit (lo o)) (tt_cmp (vv_bin (vv_slot (i := 3) rfl).w (vv_call (vl_cons (vv_slot (i := 4) rfl) vl_nil) (hj _)).w and_ok).w vv_int.w (low_test (r := r) o0)) (fun h => ?_) fun h => ?_)⟩
      · refine exs_next (x_setS (vv_bin (vv_slot (i := 3) rfl).w (vv_slot (i := 4) rfl).w xor_ok)) (exs_nil (exs_nil ⟨.val (.int (o : Int)), .inr ⟨_, rfl⟩, ?_⟩))
        unfold rest1
        rw [if_pos h]
        rfl
      · refine exs_nil (exs_nil ⟨.val (.int (o : Int)), .inr ⟨_, rfl⟩, ?_⟩)
        unfold rest1
        rw [if_neg (by rw [h]; simp)]
    · rintro σ ⟨c', pc', rfl⟩
      have e0 : (iD K).length = K.length := by simp [iD]
      rw [e0, List.take_length]
      obtain ⟨r, hr⟩ : ∃ r, r = restL K m := ⟨_, rfl⟩
      rw [← hr]
      show Sat (exs C _ [.val t, .own (iD K), .val (.int (m : Int)), .val (.int (r : Int)), c', d]) _
      refine exs_cons (x_ife (k := decide (r ≠ 0)) (tt_cmp (vv_slot (i := 3) rfl).w vv_int.w ne_test) (fun h => ?_) fun h => ?_)
      · have r0 : r ≠ 0 := of_decide_eq_true h
        refine exs_next (x_setS (vv_call (vl_cons (vv_slot (i := 3) rfl) vl_nil) (hj _))) ?_
        show Sat (exs C _ [.val t, .own (iD K), .val (.int (m : Int)), .val (.int (r : Int)), c', .val (.int (Builtin.bitAnd (r : Int) (-(r : Int))))]) _
        have hcomp := comp_br (C := C) (t := .nm 4) (own := [4]) (es := .cons (.bor 1) .nil) (ifs := .bl true) (e := .ife (.cmpT .NotEq (.bin .BitAnd (.slot 4) (.slot 5)) (.int 0)) (.bin .BitXor (.slot 4) (.slot 3)) (.slot 4)) (j := 1) (xs := iD K)
          (σ := [.val t, .own (iD K), .val (.int (m : Int)), .val (.int (r : Int)), c', .val (.int (Builtin.bitAnd (r : Int) (-(r : Int))))]) (σ1 := [.val t, .own (iD K), .val (.int (m : Int)), .val (.int (r : Int)), c', .val (.int (Builtin.bitAnd (r : Int) (-(r : Int))))])
          (g := fun x => match x with | .int o => some (.int ((if o.toNat.testBit (lo r) then o.toNat ^^^ r else o.toNat : Nat) : Int)) | _ => none) rfl rfl (by rcases pc' with rfl | ⟨w, rfl⟩ <;> rfl) (fun x hx => by
            obtain ⟨o, _, rfl⟩ := List.mem_map.mp hx
            refine turn_some (τ1 := [.val t, .lock (iD K), .val (.int (m : Int)), .val (.int (r : Int)), .val (.int (o : Int)), .val (.int (Builtin.bitAnd (r : Int) (-(r : Int))))]) rfl tt_true (vv_ife (k := o.testBit (lo r)) (tt_cmp (vv_bin (vv_slot (i := 4) rfl).w (vv_slot (i := 5) rfl).w and_ok).w vv_int.w (low_test (r := o) r0)) (fun h => ?_) fun h => ?_)
            · rw [Int.toNat_natCast, if_pos h]
              exact vv_bin (vv_slot (i := 4) rfl).w (vv_slot (i := 3) rfl).w xor_ok
            · rw [Int.toNat_natCast, if_neg (by rw [h]; simp)]
              exact vv_slot (i := 4) rfl) (by
            refine Nat.le_trans (List.length_filterMap_le ..) ?_
            rw [e0]
            exact size_ok sz)
        have eg : (iD K).filterMap (fun x => match x with | .int o => some (D.int ((if o.toNat.testBit (lo r) then o.toNat ^^^ r else o.toNat : Nat) : Int)) | _ => none) = iD (K.map fun o => if o.testBit (lo r) then o ^^^ r else o) := by
          unfold iD
          rw [map_int (h := fun o : Nat => D.int ((if o.testBit (lo r) then o ^^^ r else o : Nat) : Int)) (fun o _ => by simp), List.map_map]
          rfl
        rw [eg] at hcomp
        refine exs_next (x_setF hcomp) ?_
        have e2 : (unlockAt (backE (([.val t, .own (iD K), .val (.int (m : Int)), .val (.int (r : Int)), c', .val (.int (Builtin.bitAnd (r : Int) (-(r : Int))))] : En).set 1 (.lock (iD K))) (wipeE (([.val t, .own (iD K), .val (.int (m : Int)), .val (.int (r : Int)), c', .val (.int (Builtin.bitAnd (r : Int) (-(r : Int))))] : En).set 1 (.lock (iD K))) [4]) [4]) 1).set 1 (.own (iD (K.map fun o => if o.testBit (lo r) then o ^^^ r else o))) = [.val t, .own (iD (K.map fun o => if o.testBit (lo r) then o ^^^ r else o)), .val (.int (m : Int)), .val (.int (r : Int)), c', .val (.int (Builtin.bitAnd (r : Int) (-(r : Int))))] := rfl
        rw [e2]
        refine exs_next (x_app (ds := iD (K.map fun o => if o.testBit (lo r) then o ^^^ r else o)) rfl (vv_slot (i := 3) rfl) (by
          unfold iD
          rw [List.length_map, List.length_map]
          exact Nat.lt_of_le_of_lt sz (by decide))) (exs_nil (exs_nil ⟨.val (.int (m : Int)), .val (.int (r : Int)), c', .val (.int (Builtin.bitAnd (r : Int) (-(r : Int)))), pc', ?_⟩))
        have ea : addRow K m = (K.map fun o => if o.testBit (lo r) then o ^^^ r else o) ++ [r] := by
          unfold addRow
          rw [← hr, if_pos r0]
        rw [ea]
        unfold iD
        rw [List.map_append]
        rfl
      · have r0 : r = 0 := by
          have := of_decide_eq_false h
          omega
        refine exs_nil (exs_nil ⟨.val (.int (m : Int)), .val (.int (r : Int)), c', d, pc', ?_⟩)
        have ea : addRow K m = K := by
          unfold addRow
          rw [← hr, if_neg (by omega)]
        rw [ea]
  · rintro σ ⟨a, b, c, d, pc, rfl⟩
    have e0 : (iD ms).length = ms.length := by simp [iD]
    rw [e0, List.take_length]
    have hs : ev C (.sortKey j (.slot 1)) [.val t, .own (iD (kept ms)), a, b, c, d] = .ok (.fr (iD (sortLow (kept ms))), [.val t, .val (.lst (iD (kept ms))), a, b, c, d]) := by
      have e1 : sq (ev C (.slot 1) [.val t, .own (iD (kept ms)), a, b, c, d]) = .ok (.v (.lst (iD (kept ms))), [.val t, .val (.lst (iD (kept ms))), a, b, c, d]) := rfl
      have := sortKey_ev (f := j) e1 (keys_ok hj (kept ms) (kept_spec ms).1.1)
      rw [sort_iD] at this
      exact this
    have hb : ev C (.blt .tuple (.cons (.sortKey j (.slot 1)) .nil)) [.val t, .own (iD (kept ms)), a, b, c, d] = .ok (.v (.tup (iD (sortLow (kept ms)))), [.val t, .val (.lst (iD (kept ms))), a, b, c, d]) := by
      have h1 : evs C (.cons (.sortKey j (.slot 1)) .nil) [.val t, .own (iD (kept ms)), a, b, c, d] = .ok ([.v (.lst (iD (sortLow (kept ms))))], [.val t, .val (.lst (iD (kept ms))), a, b, c, d]) := by
        rw [evs, hs]
        rfl
      rw [ev, h1]
      rfl
    exact exs_rt (x_retE' hb rfl) ⟨rfl, rfl⟩
end Bt
namespace Bt
open PySem PySem.Spec PyProof.Rows L2 DS Gf
theorem kins_perm {α : Type} (k : Int) (a : α) : ∀ l : List (Int × α), (kins k a l).Perm ((k, a) :: l)
  | [] => .refl _
  | q :: r => by
    unfold kins
    split
    · exact .refl _
    · exact ((kins_perm k a r).cons q).trans (.swap _ _ _)
theorem ksort_perm {α : Type} : ∀ l : List (Int × α), (ksort l).Perm l
  | [] => .refl _
  | q :: r => (kins_perm q.1 q.2 (ksort r)).trans ((ksort_perm r).cons q)
theorem zip_self_map {f : Nat → Int} : ∀ l : List Nat, (l.map f).zip l = l.map fun x => (f x, x)
  | [] => rfl
  | x :: l => congrArg (_ :: ·) (zip_self_map l)
theorem sortLow_perm (l : List Nat) : (sortLow l).Perm l := by
  unfold sortLow
  rw [zip_self_map]
  have := (ksort_perm (l.map fun x => (((2 ^ Gf.lo x : Nat) : Int), x))).map (·.2)
  rw [List.map_map] at this
  have e : l.map ((fun p : Int × Nat => p.2) ∘ fun x => (((2 ^ Gf.lo x : Nat) : Int), x)) = l := List.map_id' l
  rw [e] at this
  exact this
theorem sortLow_as {l : List Nat} (h : Gf.Rd l) : Gf.As (sortLow l) := by
  have hp := sortLow_perm l
  have hrd := h.perm hp.symm
  have hs : (sortLow l).Pairwise fun x y => Gf.lo x ≤ Gf.lo y := by
    unfold sortLow
    rw [zip_self_map, List.pairwise_map]
    refine List.Pairwise.imp_of_mem (fun {a b} ha hb hab => ?_) (ksort_sorted _)
    obtain ⟨x, _, rfl⟩ := List.mem_map.mp ((ksort_perm _).mem_iff.mp ha)
    obtain ⟨y, _, rfl⟩ := List.mem_map.mp ((ksort_perm _).mem_iff.mp hb)
    exact (Nat.pow_le_pow_iff_right (by decide)).mp (Int.ofNat_le.mp hab)
  refine (hs.and (List.Pairwise.imp_of_mem (fun {a b} ha hb hab => ?_) hrd.2 : (sortLow l).Pairwise fun x y => Gf.lo x ≠ Gf.lo y)).imp fun ⟨a, b⟩ => Nat.lt_of_le_of_ne a b
  intro e
  have := hab.1
  rw [e, lo_set (hrd.1 b hb)] at this
  cases this
/-- the reduced rows of a table's rows -/
def redS (ms : List Nat) : List Nat := sortLow (kept ms)
theorem redS_rd (ms : List Nat) : Gf.Rd (redS ms) := (kept_spec ms).1.perm (sortLow_perm _).symm
theorem redS_as (ms : List Nat) : Gf.As (redS ms) := sortLow_as (kept_spec ms).1
theorem redS_eqv (ms : List Nat) : Eqv (redS ms) ms := (Eqv.perm (sortLow_perm _)).trans (kept_spec ms).2
theorem redS_len (ms : List Nat) : (redS ms).length = rk ms := (sortLow_perm _).length_eq
theorem redS_same {ms ns : List Nat} (h : Eqv ms ns) : redS ms = redS ns := rd_unique (redS_rd ms) (redS_as ms) (redS_rd ns) (redS_as ns) (((redS_eqv ms).trans h).trans (redS_eqv ns).symm)
theorem lt_of_bits {n s : Nat} (h : ∀ i, s ≤ i → n.testBit i = false) : n < 2 ^ s := Nat.lt_of_not_le fun k => by
  have h0 : n ≠ 0 := fun e => by
    subst e
    have := Nat.two_pow_pos s
    omega
  have : s ≤ n.log2 := (Nat.le_log2 h0).mpr k
  have e := h _ this
  rw [log2_set h0] at e
  cases e
theorem Sp_lt {gs : List Nat} {s v : Nat} (h : ∀ g ∈ gs, g < 2 ^ s) (k : Sp gs v) : v < 2 ^ s := lt_of_bits fun i hi => Sp.bit (fun g hg => Nat.testBit_lt_two_pow (Nat.lt_of_lt_of_le (h g hg) (Nat.pow_le_pow_right (by decide) hi))) k
theorem redS_lt {ms : List Nat} {s : Nat} (h : ∀ m ∈ ms, m < 2 ^ s) : ∀ m ∈ redS ms, m < 2 ^ s := fun m hm => Sp_lt h ((redS_eqv ms m).mp (Sp.mem hm))
/-! ### tables -/
inductive All2 {α β : Type} (R : α → β → Prop) : List α → List β → Prop
  | nil : All2 R [] []
  | cons {a : α} {b : β} {l : List α} {m : List β} (h : R a b) (r : All2 R l m) : All2 R (a :: l) (b :: m)
theorem All2.length {α β : Type} {R : α → β → Prop} {l : List α} {m : List β} (h : All2 R l m) : l.length = m.length := by
  induction h with
  | nil => rfl
  | cons _ _ ih => simp [ih]
theorem All2.get {α β : Type} {R : α → β → Prop} {l : List α} {m : List β} (h : All2 R l m) : ∀ {i : Nat} {b : β}, m[i]? = some b → ∃ a, l[i]? = some a ∧ R a b := by
  induction h with
  | nil => intro i b hb; simp at hb
  | cons h r ih =>
    intro i b hb
    cases i with
    | zero => simp at hb; subst hb; exact ⟨_, rfl, h⟩
    | succ i => exact ih (by simpa using hb)
theorem All2.fm {α : Type} {R : α → D → Prop} {l : List α} {m : List D} {g : D → Option D} {h : α → D} (k : All2 R l m) (hg : ∀ a b, R a b → g b = some (h a)) : m.filterMap g = l.map h := by
  induction k with
  | nil => rfl
  | cons q r ih => rw [List.filterMap_cons, hg _ _ q, List.map_cons, ih]
def TabD (s : Nat) (ms : List Nat) (t : D) : Prop := ∃ ts, (t = .tup ts ∨ t = .lst ts) ∧ All2 (RowD s) ms ts
theorem TabD.seq {s : Nat} {ms : List Nat} {t : D} (h : TabD s ms t) : ∃ ts, seqOf t = some ts ∧ All2 (RowD s) ms ts := by
  obtain ⟨ts, rfl | rfl, h⟩ := h
  · exact ⟨ts, rfl, h⟩
  · exact ⟨ts, rfl, h⟩
theorem set_self {σ : En} {v : Nat} {x : Sl} (h : σ[v]? = some x) : σ.set v x = σ := by
  refine List.ext_getElem? fun i => ?_
  by_cases e : v = i
  · subst e
    rw [List.getElem?_set_self (by exact (List.getElem?_eq_some_iff.mp h).1), h]
  · rw [List.getElem?_set_ne e]
/-- [f(x) for x in xs] -/
theorem comp_call {C : Cxt} {v i : Nat} {σ : En} {t : D} {e : IR} {α : Type} {ts : List D} {l : List α} {R : α → D → Prop} {h : α → D} (ht : seqOf t = some ts) (hi : σ[i]? = some (.val t)) (hv : σ[v]? = some .un) (ha : All2 R l ts) (hl : l.length ≤ 1000000)
    (hf : ∀ a x, R a x → Vv C e (σ.set v (.val x)) (h a)) : ev C (.comp (.nm v) [v] .seq (.cons (.slot i) .nil) (.bl true) e) σ = .ok (.fr (l.map h), σ) := by
  have hvl := (List.getElem?_eq_some_iff.mp hv).1
  obtain ⟨g, hg⟩ : ∃ g : D → Option D, g = fun x => match sq (ev C e (σ.set v (.val x))) with | .ok (.v d, _) => some d | _ => none := ⟨_, rfl⟩
  have hgR : ∀ a x, R a x → g x = some (h a) := fun a x r => by
    have := hf a x r
    unfold Vv at this
    rw [hg]
    dsimp only
    rw [this]
  have e1 : wipeE σ [v] = σ := set_self hv
  have hfm : ts.filterMap g = l.map h := ha.fm hgR
  have key := comp_eq (C := C) (t := .nm v) (own := [v]) (k := .seq) (es := .cons (.slot i) .nil) (ifs := .bl true) (e := e) (σ := σ) (σ1 := σ) (rs := [.v t]) (xs := ts) (g := g) (vl_cons (vv_slot hi) vl_nil) (by simp [itD, seq1D, Ar.view, ht]) rfl (by simp [noOwn, hv]) (fun x hx => by
    obtain ⟨j, hj, ej⟩ := List.mem_iff_getElem.mp hx
    obtain ⟨a, _, r⟩ := ha.get (i := j) (b := x) (by rw [List.getElem?_eq_getElem hj, ej])
    rw [hgR a x r, e1]
    have := turn_some (t := .nm v) (own := [v]) (x := x) (τ := σ) (τ1 := σ.set v (.val x)) rfl tt_true (hf a x r)
    rw [this]
    have e2 : wipeE (σ.set v (.val x)) [v] = σ := by
      show (σ.set v (.val x)).set v .un = σ
      rw [List.set_set]
      exact set_self hv
    rw [e2]) (by
      rw [hfm, List.length_map]
      exact size_ok hl)
  rw [hfm, e1] at key
  have e3 : backE σ σ [v] = σ := by
    show σ.set v (σ.getD v .un) = σ
    refine set_self ?_
    rw [hv]
    simp [List.getD, hv]
  rw [e3] at key
  exact key
section
variable {C : Cxt} {jm jb jl jr jk : Nat} {s : Nat} {ms : List Nat} {t : D}
/-- rank -/
theorem rank_ok (hm : ∀ m t, RowD s m t → C.fn jm [t] = .ok (.v (.int (m : Int)))) (hk : ∀ ms : List Nat, ms.length ≤ 1000000 → C.fn jk [.lst (iD ms)] = .ok (.v (.int ((rk ms : Nat) : Int)))) (ht : TabD s ms t) (hl : ms.length ≤ 1000000) :
    DS.run C ⟨2, 1, (.cons (.ret (.call jk (.cons (.comp (.nm 1) [1] .seq (.cons (.slot 0) .nil) (.bl true) (.call jm (.cons (.slot 1) .nil))) .nil))) .nil)⟩ [t] = .ok (.v (.int ((rk ms : Nat) : Int))) := by
  obtain ⟨ts, h1, h2⟩ := ht.seq
  have hc := comp_call (C := C) (v := 1) (i := 0) (σ := [.val t, .un]) (e := .call jm (.cons (.slot 1) .nil)) (h := fun m : Nat => D.int (m : Int)) h1 rfl rfl h2 hl fun m x r => vv_call (vl_cons (vv_slot (i := 1) rfl) vl_nil) (hm m x r)
  exact run_ret rfl rfl (call_ev (vl_cons (sq_of hc rfl) vl_nil) (hk ms hl)) rfl
theorem maskRank_ok (hr : ∀ ms : List Nat, ms.length ≤ 1000000 → C.fn jr [.lst (iD ms)] = .ok (.v (.tup (iD (redS ms))))) (hl : ms.length ≤ 1000000) :
    DS.run C ⟨1, 1, (.cons (.ret (.blt .len (.cons (.call jr (.cons (.slot 0) .nil)) .nil))) .nil)⟩ [.lst (iD ms)] = .ok (.v (.int ((rk ms : Nat) : Int))) := by
  have e : ((iD (redS ms)).length : Int) = ((rk ms : Nat) : Int) := by
    rw [← redS_len]
    simp [iD]
  refine run_ret rfl rfl (blt_ev (wl_cons (vv_call (vl_cons (vv_slot (i := 0) rfl) vl_nil) (hr ms hl)).w wl_nil) ?_) rfl
  rw [← e]
  rfl
/-- added -/
def xsum (ms : List Nat) : Nat := ms.foldl (· ^^^ ·) 0
theorem added_ok (hm : ∀ m t, RowD s m t → C.fn jm [t] = .ok (.v (.int (m : Int)))) (hb : ∀ m s : Nat, s ≤ 1000000 → C.fn jb [.int (m : Int), .int (s : Int)] = .ok (.v (.tup (bitsD m s)))) (ht : TabD s ms t) {z : Nat} (hz : z ≤ 1000000) :
    DS.run C ⟨4, 2, (.cons (.setS 2 (.int 0)) (.cons (.for_ (.nm 3) .seq (.cons (.slot 0) .nil) (.cons (.setS 2 (.bin .BitXor (.slot 2) (.call jm (.cons (.slot 3) .nil)))) .nil)) (.cons (.ret (.call jb (.cons (.slot 2) (.cons (.slot 1) .nil)))) .nil)))⟩ [t, .int (z : Int)] = .ok (.v (.tup (bitsD (xsum ms) z))) := Sat.eq <| by
  obtain ⟨ts, h1, h2⟩ := ht.seq
  refine run_sat rfl ?_
  refine exs_next (σ1 := [.val t, .val (.int (z : Int)), .val (.int 0), .un]) rfl ?_
  refine exs_cons (for_sat (σ1 := [.val t, .val (.int (z : Int)), .val (.int 0), .un]) (rs := [.v t]) (xs := ts) rfl (by simp [itD, seq1D, Ar.view, h1]) rfl (fun i σ => ∃ w, σ = [.val t, .val (.int (z : Int)), .val (.int ((xsum (ms.take i) : Nat) : Int)), w]) ⟨.un, rfl⟩ ?_ ?_)
  · rintro i x σ hx ⟨w, rfl⟩
    obtain ⟨m, e1, r⟩ := h2.get hx
    refine ⟨_, rfl, exs_next (x_setS (vv_bin (vv_slot (i := 2) rfl).w (vv_call (vl_cons (vv_slot (i := 3) rfl) vl_nil) (hm m x r)).w xor_ok)) (exs_nil ⟨.val x, ?_⟩)⟩
    have : xsum (ms.take (i + 1)) = xsum (ms.take i) ^^^ m := by
      rw [take_snoc e1]
      unfold xsum
      rw [List.foldl_append]
      rfl
    rw [this]
    rfl
  · rintro σ ⟨w, rfl⟩
    rw [← h2.length, List.take_length]
    exact exs_rt (x_retE (call_ev (vl_cons (vv_slot (i := 2) rfl) (vl_cons (vv_slot (i := 1) rfl) vl_nil)) (hb _ z hz)) rfl) ⟨rfl, rfl⟩
/-- reduced -/
theorem reduced_ok (hm : ∀ m t, RowD s m t → C.fn jm [t] = .ok (.v (.int (m : Int)))) (hb : ∀ m s : Nat, s ≤ 1000000 → C.fn jb [.int (m : Int), .int (s : Int)] = .ok (.v (.tup (bitsD m s)))) (hr : ∀ ms : List Nat, ms.length ≤ 1000000 → C.fn jr [.lst (iD ms)] = .ok (.v (.tup (iD (redS ms))))) (ht : TabD s ms t) (hs : s ≤ 1000000) (hl : ms.length ≤ 1000000) :
    DS.run C ⟨5, 1, (.cons (.ife (.cmpT .Eq (.blt .len (.cons (.slot 0) .nil)) (.int 0)) (.cons (.ret (.tup .nil)) .nil) .nil) (.cons (.setS 1 (.blt .len (.cons (.ix (.slot 0) (.int 0)) .nil))) (.cons (.setS 2 (.call jr (.cons (.comp (.nm 3) [3] .seq (.cons (.slot 0) .nil) (.bl true) (.call jm (.cons (.slot 3) .nil))) .nil))) (.cons (.ret (.blt .tuple (.cons (.comp (.nm 4) [4] .seq (.cons (.slot 2) .nil) (.bl true) (.call jb (.cons (.slot 4) (.cons (.slot 1) .nil)))) .nil))) .nil))))⟩ [t] = .ok (.v (.tup ((redS ms).map fun m => D.tup (bitsD m s)))) := Sat.eq <| by
  obtain ⟨ts, h1, h2⟩ := ht.seq
  have hlen := h2.length
  refine run_sat rfl ?_
  have htest : Tt C (.cmpT .Eq (.blt .len (.cons (.slot 0) .nil)) (.int 0)) [.val t, .un, .un, .un, .un] (decide (ms.length = 0)) := by
    refine tt_cmp (vv_blt (r := .v (.int (ts.length : Int))) (wl_cons (vv_slot (i := 0) rfl).w wl_nil) (by simp [bltD, h1])).w vv_int.w ?_
    show eqD (.int (ts.length : Int)) (.int 0) = _
    rw [eqD_int, ← hlen]
    congr 1
    by_cases h : ms.length = 0
    · simp [h]
    · have : ¬ (ms.length : Int) = 0 := by omega
      simp [h]
  refine exs_cons (x_ife htest (fun h => ?_) fun h => ?_)
  · have h0 : ms = [] := List.eq_nil_of_length_eq_zero (of_decide_eq_true h)
    subst h0
    exact exs_rt (x_retE (tup_ev vl_nil (Nat.zero_le _)) rfl) ⟨rfl, rfl⟩
  · cases h2 with
    | nil => cases h
    | cons hr0 hrest =>
      rename_i m0 t0 ms' ts'
      refine exs_nil ?_
      have hix : Vv C (.ix (.slot 0) (.int 0)) [.val t, .un, .un, .un, .un] t0 := vv_ix (vv_slot (i := 0) rfl).w vv_int.w (by
        obtain ⟨us, rfl | rfl, hu⟩ := ht
        · cases h1
          exact atI_nat (j := 0) rfl
        · cases h1
          exact atI_nat (j := 0) rfl)
      have hsz : Vv C (.blt .len (.cons (.ix (.slot 0) (.int 0)) .nil)) [.val t, .un, .un, .un, .un] (.int (s : Int)) := vv_blt (r := .v (.int (s : Int))) (wl_cons hix.w wl_nil) (by
        have e : (bitsD m0 s).length = s := by simp [bitsD]
        simp [bltD, hr0.seq, e])
      refine exs_next (x_setS hsz) ?_
      show Sat (exs C _ [.val t, .val (.int (s : Int)), .un, .un, .un]) _
      have hc := comp_call (C := C) (v := 3) (i := 0) (σ := [.val t, .val (.int (s : Int)), .un, .un, .un]) (e := .call jm (.cons (.slot 3) .nil)) (h := fun m : Nat => D.int (m : Int)) h1 rfl rfl (All2.cons hr0 hrest) hl fun m x r => vv_call (vl_cons (vv_slot (i := 3) rfl) vl_nil) (hm m x r)
      refine exs_next (x_setS (vv_call (vl_cons (sq_of hc rfl) vl_nil) (hr _ hl))) ?_
      show Sat (exs C _ [.val t, .val (.int (s : Int)), .val (.tup (iD (redS (m0 :: ms')))), .un, .un]) _
      have hid : All2 (fun (m : Nat) (x : D) => x = .int (m : Int)) (redS (m0 :: ms')) (iD (redS (m0 :: ms'))) := by
        generalize redS (m0 :: ms') = l
        induction l with
        | nil => exact .nil
        | cons a l ih => exact .cons rfl ih
      have hrl : (redS (m0 :: ms')).length ≤ 1000000 := by
        have := kept_len (m0 :: ms') []
        rw [redS_len]
        unfold rk kept
        simp at this hl ⊢
        omega
      have hc2 := comp_call (C := C) (v := 4) (i := 2) (σ := [.val t, .val (.int (s : Int)), .val (.tup (iD (redS (m0 :: ms')))), .un, .un]) (e := .call jb (.cons (.slot 4) (.cons (.slot 1) .nil))) (h := fun m : Nat => D.tup (bitsD m s)) rfl rfl rfl hid hrl fun m x r => by
        subst r
        exact vv_call (vl_cons (vv_slot (i := 4) rfl) (vl_cons (vv_slot (i := 1) rfl) vl_nil)) (hb m s hs)
      exact exs_rt (x_retE (blt_ev (wl_cons (sq_of hc2 rfl).w wl_nil) rfl) rfl) ⟨rfl, rfl⟩
end
end Bt
namespace Bt
open PySem PySem.Spec PyProof.Rows L2 DS Gf
def prD (q : Nat × Nat) : D := .tup [.int (q.1 : Int), .int (q.2 : Int)]
def pD (l : List (Nat × Nat)) : List D := l.map prD
theorem pD_get {l : List (Nat × Nat)} {i : Nat} {x : D} (h : (pD l)[i]? = some x) : ∃ q, l[i]? = some q ∧ x = prD q := by
  unfold pD at h
  rw [List.getElem?_map] at h
  cases e : l[i]? with
  | none => rw [e] at h; cases h
  | some m => rw [e] at h; exact ⟨m, rfl, (Option.some.inj h).symm⟩
def bSum (j : Nat) : SRs := (.cons (.par [3, 4] (.cons (.slot 1) (.cons (.slot 2) .nil))) (.cons (.for_ (.tp [5, 6]) .seq (.cons (.slot 0) .nil) (.cons (.ife (.cmpT .NotEq (.bin .BitAnd (.slot 3) (.call j (.cons (.slot 5) .nil))) (.int 0)) (.cons (.par [3, 4] (.cons (.bin .BitXor (.slot 3) (.slot 5)) (.cons (.bin .BitXor (.slot 4) (.slot 6)) .nil))) .nil) .nil) .nil)) (.cons (.ret (.tup (.cons (.slot 3) (.cons (.slot 4) .nil)))) .nil)))
theorem sum_ok {C : Cxt} {j : Nat} (hj : ∀ n : Int, C.fn j [.int n] = .ok (.v (.int (Builtin.bitAnd n (-n))))) {l : List (Nat × Nat)} {x u : Nat} (h0 : ∀ q ∈ l, q.1 ≠ 0) :
    DS.run C ⟨7, 3, bSum j⟩ [.lst (pD l), .int (x : Int), .int (u : Int)] = .ok (.v (prD (sumWith l (x, u)))) := Sat.eq <| by
  refine run_sat rfl ?_
  refine exs_next (σ1 := [.val (.lst (pD l)), .val (.int (x : Int)), .val (.int (u : Int)), .val (.int (x : Int)), .val (.int (u : Int)), .un, .un]) (x_par2 (vl_cons (vv_slot (i := 1) rfl) (vl_cons (vv_slot (i := 2) rfl) vl_nil))) ?_
  refine exs_cons (for_sat (σ1 := [.val (.lst (pD l)), .val (.int (x : Int)), .val (.int (u : Int)), .val (.int (x : Int)), .val (.int (u : Int)), .un, .un]) (rs := [.v (.lst (pD l))]) (xs := pD l) rfl rfl rfl
    (fun i σ => ∃ a b z, z = sumWith (l.take i) (x, u) ∧ σ = [.val (.lst (pD l)), .val (.int (x : Int)), .val (.int (u : Int)), .val (.int (z.1 : Int)), .val (.int (z.2 : Int)), a, b]) ⟨.un, .un, (x, u), rfl, rfl⟩ ?_ ?_)
  · rintro i y σ hy ⟨a, b, z, hz, rfl⟩
    obtain ⟨q, hq, rfl⟩ := pD_get hy
    have q0 := h0 q (List.mem_of_getElem? hq)
    have e1 : sumWith (l.take (i + 1)) (x, u) = sw1 z q := by
      rw [take_snoc hq, hz]
      unfold sumWith
      rw [List.foldl_append]
      rfl
    refine ⟨[.val (.lst (pD l)), .val (.int (x : Int)), .val (.int (u : Int)), .val (.int (z.1 : Int)), .val (.int (z.2 : Int)), .val (.int (q.1 : Int)), .val (.int (q.2 : Int))], rfl, exs_cons (x_ife (k := z.1.testBit (Gf.lo q.1)) (tt_cmp (vv_bin (vv_slot (i := 3) rfl).w (vv_call (vl_cons (vv_slot (i := 5) rfl) vl_nil) (hj _)).w and_ok).w vv_int.w (low_test (r := z.1) q0)) (fun h => ?_) fun h => ?_)⟩
    · refine exs_next (x_par2 (vl_cons (vv_bin (vv_slot (i := 3) rfl).w (vv_slot (i := 5) rfl).w xor_ok) (vl_cons (vv_bin (vv_slot (i := 4) rfl).w (vv_slot (i := 6) rfl).w xor_ok) vl_nil))) (exs_nil (exs_nil ⟨.val (.int (q.1 : Int)), .val (.int (q.2 : Int)), sw1 z q, e1.symm, ?_⟩))
      unfold sw1
      rw [if_pos h]
      rfl
    · refine exs_nil (exs_nil ⟨.val (.int (q.1 : Int)), .val (.int (q.2 : Int)), sw1 z q, e1.symm, ?_⟩)
      unfold sw1
      rw [if_neg (by rw [h]; simp)]
  · rintro σ ⟨a, b, z, hz, rfl⟩
    have e0 : (pD l).length = l.length := by simp [pD]
    rw [e0, List.take_length] at hz
    refine exs_rt (x_retE (tup_ev (vl_cons (vv_slot (i := 3) rfl) (vl_cons (vv_slot (i := 4) rfl) vl_nil)) (show 2 ≤ sizeLine by decide)) rfl) ⟨rfl, ?_⟩
    rw [hz]
    rfl
theorem cmp_eq' {x y : D} : cmpD .Eq x y = eqD x y := rfl
/-- combination's kept rows -/
def cstep (K : List (Nat × Nat)) (m i : Nat) : List (Nat × Nat) := if (sumWith K (m, 2 ^ i)).1 ≠ 0 then K ++ [sumWith K (m, 2 ^ i)] else K
structure KInv (ms : List Nat) (i : Nat) (K : List (Nat × Nat)) : Prop where
  tr : Tr (K.map (·.1))
  tells : ∀ q ∈ K, q.1 = selX (fun i => ms.getD i 0) q.2 (List.range ms.length)
  eqv : Eqv (K.map (·.1)) (ms.take i)
  len : K.length ≤ i
theorem KInv.nz {ms : List Nat} {i : Nat} {K : List (Nat × Nat)} (h : KInv ms i K) : ∀ q ∈ K, q.1 ≠ 0 := fun q hq => h.tr.1 _ (List.mem_map_of_mem hq)
theorem restL_eqv {l : List Nat} {m : Nat} : (restL l m ≠ 0 → Eqv (l ++ [restL l m]) (l ++ [m])) ∧ (restL l m = 0 → Eqv l (l ++ [m])) := by
  have h1 := restL_sp l m
  refine ⟨fun _ => Eqv.of (fun g hg => ?_) fun g hg => ?_, fun h => Eqv.of (fun g hg => Sp.append_left (Sp.mem hg)) fun g hg => ?_⟩
  · rcases List.mem_append.mp hg with k | k
    · exact Sp.append_left (Sp.mem k)
    · rw [List.mem_singleton.mp k]
      have := (Sp.append_left (B := [m]) h1).xor (Sp.mem (gs := l ++ [m]) (g := m) (by simp))
      rw [x2, Nat.xor_self, Nat.zero_xor] at this
      exact this
  · rcases List.mem_append.mp hg with k | k
    · exact Sp.append_left (Sp.mem k)
    · rw [List.mem_singleton.mp k]
      have := (Sp.append_left (B := [restL l m]) h1).xor (Sp.mem (gs := l ++ [restL l m]) (g := restL l m) (by simp))
      rw [xl] at this
      exact this
  · rcases List.mem_append.mp hg with k | k
    · exact Sp.mem k
    · rw [List.mem_singleton.mp k]
      rw [h, Nat.xor_zero] at h1
      exact h1
theorem KInv.step {ms : List Nat} {i : Nat} {K : List (Nat × Nat)} {m : Nat} (h : KInv ms i K) (hm : ms[i]? = some m) : KInv ms (i + 1) (cstep K m i) := by
  have hi : i < ms.length := (List.getElem?_eq_some_iff.mp hm).1
  have e1 : (sumWith K (m, 2 ^ i)).1 = restL (K.map (·.1)) m := sumWith_fst K (m, 2 ^ i)
  have ht : Tells (fun i => ms.getD i 0) (List.range ms.length) 0 (sumWith K (m, 2 ^ i)) := sumWith_tells K _ h.tells (by
    show m = 0 ^^^ selX (fun i => ms.getD i 0) (2 ^ i) (List.range ms.length)
    rw [selX_two _ _ _ List.nodup_range, if_pos (List.mem_range.mpr hi), Nat.zero_xor]
    simp [List.getD, hm])
  obtain ⟨q1, q2⟩ := restL_eqv (l := K.map (·.1)) (m := m)
  rw [← e1] at q1 q2
  have e2 : Eqv (K.map (·.1) ++ [m]) (ms.take (i + 1)) := by
    rw [take_snoc hm]
    exact h.eqv.append [m]
  unfold cstep
  by_cases hz : (sumWith K (m, 2 ^ i)).1 ≠ 0
  · rw [if_pos hz]
    have hmap : (K ++ [sumWith K (m, 2 ^ i)]).map (·.1) = K.map (·.1) ++ [(sumWith K (m, 2 ^ i)).1] := by simp
    refine ⟨?_, fun q hq => ?_, by rw [hmap]; exact (q1 hz).trans e2, by rw [List.length_append]; exact Nat.succ_le_succ h.len⟩
    · rw [hmap]
      refine ⟨fun x hx => ?_, ?_⟩
      · rcases List.mem_append.mp hx with k | k
        · exact h.tr.1 x k
        · rw [List.mem_singleton.mp k]
          exact hz
      · rw [List.pairwise_append]
        refine ⟨h.tr.2, List.pairwise_singleton _ _, fun a ha b hb => ?_⟩
        rw [List.mem_singleton.mp hb, e1]
        exact restL_clear m h.tr a ha
    · rcases List.mem_append.mp hq with k | k
      · exact h.tells q k
      · rw [List.mem_singleton.mp k]
        have := (show (sumWith K (m, 2 ^ i)).1 = 0 ^^^ _ from ht)
        rwa [Nat.zero_xor] at this
  · rw [if_neg hz]
    have hz : (sumWith K (m, 2 ^ i)).1 = 0 := by omega
    exact ⟨h.tr, h.tells, (q2 hz).trans e2, Nat.le_succ_of_le h.len⟩
def bComb (js jm : Nat) : SRs := (.cons (.set 2 (.lst .nil)) (.cons (.for_ (.tp [3, 4]) .enum (.cons (.slot 0) .nil) (.cons (.unp [5, 6] (.call js (.cons (.bor 2) (.cons (.call jm (.cons (.slot 4) .nil)) (.cons (.bin .LShift (.int 1) (.slot 3)) .nil))))) (.cons (.ife (.cmpT .NotEq (.slot 5) (.int 0)) (.cons (.app 2 (.tup (.cons (.slot 5) (.cons (.slot 6) .nil)))) .nil) .nil) .nil))) (.cons (.unp [5, 6] (.call js (.cons (.slot 2) (.cons (.call jm (.cons (.slot 1) .nil)) (.cons (.int 0) .nil))))) (.cons (.ife (.cmpT .NotEq (.slot 5) (.int 0)) (.cons (.ret .non) .nil) .nil) (.cons (.ret (.blt .tuple (.cons (.comp (.nm 3) [3] .range1 (.cons (.blt .len (.cons (.slot 0) .nil)) .nil) (.cmpT .Eq (.bin .BitAnd (.bin .RShift (.slot 6) (.slot 3)) (.int 1)) (.int 1)) (.slot 3)) .nil))) .nil)))))
/-- combination -/
def Told (ms : List Nat) (x : Nat) (d : D) : Prop := (d = .non ∧ ¬ Sp ms x) ∨ ∃ w, d = .tup (iD ((List.range ms.length).filter fun k => w.testBit k)) ∧ x = selX (fun i => ms.getD i 0) w (List.range ms.length)
theorem fm_filter {l : List Nat} {p : Nat → Bool} {g : D → Option D} (h : ∀ k ∈ l, g (.int (k : Int)) = if p k then some (.int (k : Int)) else none) : (l.map fun k : Nat => D.int (k : Int)).filterMap g = iD (l.filter p) := by
  induction l with
  | nil => rfl
  | cons a l ih =>
    rw [List.map_cons, List.filterMap_cons, h a (List.mem_cons_self ..), List.filter_cons]
    have := ih fun k hk => h k (List.mem_cons_of_mem _ hk)
    by_cases q : p a = true
    · simp only [q, if_true, this]
      rfl
    · simp at q
      simp only [q, this]
      rfl
theorem comb_ok {C : Cxt} {js jm s : Nat} {ms : List Nat} {t row : D} {x : Nat} (hs : ∀ (l : List (Nat × Nat)) (x u : Nat), (∀ q ∈ l, q.1 ≠ 0) → C.fn js [.lst (pD l), .int (x : Int), .int (u : Int)] = .ok (.v (prD (sumWith l (x, u))))) (hm : ∀ m t, RowD s m t → C.fn jm [t] = .ok (.v (.int (m : Int))))
    (ht : TabD s ms t) (hr : RowD s x row) (hl : ms.length ≤ 1000000) : Sat (DS.run C ⟨7, 2, bComb js jm⟩ [t, row]) fun r => ∃ d, r = .v d ∧ Told ms x d := by
  obtain ⟨ts, h1, h2⟩ := ht.seq
  have hlen := h2.length
  refine run_sat rfl ?_
  refine exs_next (σ1 := [.val t, .val row, .own [], .un, .un, .un, .un]) rfl ?_
  refine exs_cons (for_sat (σ1 := [.val t, .val row, .own [], .un, .un, .un, .un]) (rs := [.v t]) (xs := enumD 0 ts) rfl (by simp [itD, seq1D, Ar.view, h1]) rfl
    (fun i σ => ∃ K a b c d, Pl a ∧ KInv ms i K ∧ σ = [.val t, .val row, .own (pD K), a, b, c, d]) ⟨[], .un, .un, .un, .un, .inl rfl, ⟨⟨fun x hx => (by cases hx), .nil⟩, fun q hq => (by cases hq), Eqv.refl _, Nat.le_refl _⟩, rfl⟩ ?_ ?_)
  · rintro i y σ hy ⟨K, a, b, c, d, pa, hK, rfl⟩
    rw [(enumD_eq ts 0).2 i, Nat.zero_add] at hy
    cases hb : ts[i]? with
    | none => rw [hb] at hy; cases hy
    | some ti =>
      rw [hb] at hy
      have hy : D.tup [.int (i : Int), ti] = y := Option.some.inj hy
      subst hy
      obtain ⟨m, hmi, r⟩ := h2.get hb
      have hi : i < ms.length := (List.getElem?_eq_some_iff.mp hmi).1
      refine ⟨[.val t, .val row, .own (pD K), .val (.int (i : Int)), .val ti, c, d], rfl, ?_⟩
      obtain ⟨z, hz⟩ : ∃ z, z = sumWith K (m, 2 ^ i) := ⟨_, rfl⟩
      have h2i : binD .LShift (.int 1) (.int (i : Int)) = .ok (.v (.int ((2 ^ i : Nat) : Int))) := by
        have := shl_ok (i := 1) (j := i) (by omega) (by decide)
        rw [Nat.one_mul] at this
        exact this
      have hcall : Vv C (.call js (.cons (.bor 2) (.cons (.call jm (.cons (.slot 4) .nil)) (.cons (.bin .LShift (.int 1) (.slot 3)) .nil)))) [.val t, .val row, .own (pD K), .val (.int (i : Int)), .val ti, c, d] (prD z) := by
        rw [hz]
        exact vv_callW (wl_cons (vw_own rfl) (wl_cons (vv_call (vl_cons (vv_slot (i := 4) rfl) vl_nil) (hm m ti r)).w (wl_cons (vv_bin vv_int.w (vv_slot (i := 3) rfl).w h2i).w wl_nil))) (hs K m (2 ^ i) hK.nz) rfl
      refine exs_next (x_unp hcall rfl) ?_
      show Sat (exs C _ [.val t, .val row, .own (pD K), .val (.int (i : Int)), .val ti, .val (.int (z.1 : Int)), .val (.int (z.2 : Int))]) _
      have hst := hK.step hmi
      refine exs_cons (x_ife (k := decide (z.1 ≠ 0)) (tt_cmp (vv_slot (i := 5) rfl).w vv_int.w ne_test) (fun h => ?_) fun h => ?_)
      · have z0 := of_decide_eq_true h
        refine exs_next (x_app (ds := pD K) rfl (vv_tup (vl_cons (vv_slot (i := 5) rfl) (vl_cons (vv_slot (i := 6) rfl) vl_nil)) (show 2 ≤ sizeLine by decide)) (by
          unfold pD
          rw [List.length_map]
          exact Nat.lt_of_le_of_lt hK.len (Nat.lt_of_lt_of_le hi (size_ok hl)))) (exs_nil (exs_nil ⟨cstep K m i, .val (.int (i : Int)), .val ti, .val (.int (z.1 : Int)), .val (.int (z.2 : Int)), .inr ⟨_, rfl⟩, hst, ?_⟩))
        unfold cstep
        rw [← hz, if_pos z0]
        unfold pD
        rw [List.map_append]
        rfl
      · have z0 : ¬ z.1 ≠ 0 := of_decide_eq_false h
        refine exs_nil (exs_nil ⟨cstep K m i, .val (.int (i : Int)), .val ti, .val (.int (z.1 : Int)), .val (.int (z.2 : Int)), .inr ⟨_, rfl⟩, hst, ?_⟩)
        unfold cstep
        rw [← hz, if_neg z0]
  · rintro σ ⟨K, a, b, c, d, pa, hK, rfl⟩
    rw [(enumD_eq ts 0).1, ← hlen] at hK
    have he : Eqv (K.map (·.1)) ms := by
      have := hK.eqv
      rwa [List.take_length] at this
    obtain ⟨z, hz⟩ : ∃ z, z = sumWith K (x, 0) := ⟨_, rfl⟩
    have hcall : sq (ev C (.call js (.cons (.slot 2) (.cons (.call jm (.cons (.slot 1) .nil)) (.cons (.int 0) .nil)))) [.val t, .val row, .own (pD K), a, b, c, d]) = .ok (.v (prD z), [.val t, .val row, .val (.lst (pD K)), a, b, c, d]) := by
      have e1 : sq (ev C (.slot 2) [.val t, .val row, .own (pD K), a, b, c, d]) = .ok (.v (.lst (pD K)), [.val t, .val row, .val (.lst (pD K)), a, b, c, d]) := rfl
      have e2 : VvL C (.cons (.call jm (.cons (.slot 1) .nil)) (.cons (.int 0) .nil)) [.val t, .val row, .val (.lst (pD K)), a, b, c, d] [.int (x : Int), .int ((0 : Nat) : Int)] := vl_cons (vv_call (vl_cons (vv_slot (i := 1) rfl) vl_nil) (hm x row hr)) (vl_cons vv_int vl_nil)
      unfold VvL at e2
      have e3 : evs C (.cons (.slot 2) (.cons (.call jm (.cons (.slot 1) .nil)) (.cons (.int 0) .nil))) [.val t, .val row, .own (pD K), a, b, c, d] = .ok ([.v (.lst (pD K)), .v (.int (x : Int)), .v (.int ((0 : Nat) : Int))], [.val t, .val row, .val (.lst (pD K)), a, b, c, d]) := by
        rw [evs, e1]
        simp only [Out.bnd]
        rw [e2]
        rfl
      rw [ev, e3]
      simp only [Out.bnd]
      have e4 := hs K x 0 hK.nz
      rw [show C.fn js (List.map Ar.view [.v (.lst (pD K)), .v (.int (x : Int)), .v (.int ((0 : Nat) : Int))]) = .ok (.v (prD (sumWith K (x, 0)))) from e4, hz]
      rfl
    have hun : ex C (.unp [5, 6] (.call js (.cons (.slot 2) (.cons (.call jm (.cons (.slot 1) .nil)) (.cons (.int 0) .nil))))) [.val t, .val row, .own (pD K), a, b, c, d] = .ok (.nx, [.val t, .val row, .val (.lst (pD K)), a, b, .val (.int (z.1 : Int)), .val (.int (z.2 : Int))]) := by
      rw [ex, hcall]
      rfl
    refine exs_next hun ?_
    have e1 : z.1 = restL (K.map (·.1)) x := by
      rw [hz]
      exact sumWith_fst K (x, 0)
    refine exs_cons (x_ife (k := decide (z.1 ≠ 0)) (tt_cmp (vv_slot (i := 5) rfl).w vv_int.w ne_test) (fun h => ?_) fun h => ?_)
    · have z0 := of_decide_eq_true h
      exact exs_rt rfl ⟨rfl, .non, rfl, .inl ⟨rfl, fun k => z0 (by rw [e1]; exact (restL_zero hK.tr).mpr ((he x).mpr k))⟩⟩
    · have z0 : z.1 = 0 := by
        have := of_decide_eq_false h
        omega
      refine exs_nil ?_
      have ht : Tells (fun i => ms.getD i 0) (List.range ms.length) x z := by
        rw [hz]
        exact sumWith_tells K _ hK.tells (by
          show x = x ^^^ selX _ 0 _
          rw [selX_zero, Nat.xor_zero])
      have hsum : x = selX (fun i => ms.getD i 0) z.2 (List.range ms.length) := by
        have e2 : z.1 = x ^^^ selX (fun i => ms.getD i 0) z.2 (List.range ms.length) := ht
        rw [z0] at e2
        have := congrArg (· ^^^ selX (fun i => ms.getD i 0) z.2 (List.range ms.length)) e2
        simp only [xl, Nat.zero_xor] at this
        exact this.symm
      obtain ⟨g, hg⟩ : ∃ g : D → Option D, g = fun x => match x with | .int k => if z.2.testBit k.toNat then some (.int k) else none | _ => none := ⟨_, rfl⟩
      have hfm : ((List.range ms.length).map fun k : Nat => D.int (k : Int)).filterMap g = iD ((List.range ms.length).filter fun k => z.2.testBit k) := fm_filter fun k _ => by
        rw [hg]
        simp
      have hc := comp_eq (C := C) (t := .nm 3) (own := [3]) (k := .range1) (es := .cons (.blt .len (.cons (.slot 0) .nil)) .nil) (ifs := .cmpT .Eq (.bin .BitAnd (.bin .RShift (.slot 6) (.slot 3)) (.int 1)) (.int 1)) (e := .slot 3)
        (σ := [.val t, .val row, .val (.lst (pD K)), a, b, .val (.int (z.1 : Int)), .val (.int (z.2 : Int))]) (σ1 := [.val t, .val row, .val (.lst (pD K)), a, b, .val (.int (z.1 : Int)), .val (.int (z.2 : Int))]) (rs := [.v (.int (ms.length : Int))]) (xs := (List.range ms.length).map fun k : Nat => D.int (k : Int)) (g := g)
        (vl_cons (vv_blt (r := .v (.int (ms.length : Int))) (wl_cons (vv_slot (i := 0) rfl).w wl_nil) (by simp [bltD, h1, hlen])) vl_nil) (range1_ok hl) rfl (by rcases pa with rfl | ⟨w, rfl⟩ <;> rfl) (fun x hx => by
          obtain ⟨k, _, rfl⟩ := List.mem_map.mp hx
          have htt : Tt C (.cmpT .Eq (.bin .BitAnd (.bin .RShift (.slot 6) (.slot 3)) (.int 1)) (.int 1)) [.val t, .val row, .val (.lst (pD K)), .val (.int (k : Int)), b, .val (.int (z.1 : Int)), .val (.int (z.2 : Int))] (z.2.testBit k) := tt_cmp (vv_bin (vv_bin (vv_slot (i := 6) rfl).w (vv_slot (i := 3) rfl).w shr_ok).w vv_int.w bit_ok).w vv_int.w (by
            rw [cmp_eq']
            simp only [Ar.view]
            rw [eqD_int]
            cases z.2.testBit k <;> rfl)
          rw [hg]
          simp only [Int.toNat_natCast]
          by_cases hbk : z.2.testBit k = true
          · rw [hbk] at htt
            rw [if_pos hbk]
            exact turn_some (τ1 := [.val t, .val row, .val (.lst (pD K)), .val (.int (k : Int)), b, .val (.int (z.1 : Int)), .val (.int (z.2 : Int))]) rfl htt (vv_slot (i := 3) rfl)
          · rw [if_neg hbk]
            simp at hbk
            rw [hbk] at htt
            exact turn_none (τ1 := [.val t, .val row, .val (.lst (pD K)), .val (.int (k : Int)), b, .val (.int (z.1 : Int)), .val (.int (z.2 : Int))]) rfl htt) (by
          rw [hfm]
          unfold iD
          rw [List.length_map]
          refine Nat.le_trans (List.length_filter_le ..) ?_
          rw [List.length_range]
          exact size_ok hl)
      rw [hfm] at hc
      have hc2 : ev C (.blt .tuple (.cons (.comp (.nm 3) [3] .range1 (.cons (.blt .len (.cons (.slot 0) .nil)) .nil) (.cmpT .Eq (.bin .BitAnd (.bin .RShift (.slot 6) (.slot 3)) (.int 1)) (.int 1)) (.slot 3)) .nil)) [.val t, .val row, .val (.lst (pD K)), a, b, .val (.int (z.1 : Int)), .val (.int (z.2 : Int))] = .ok (.v (.tup (iD ((List.range ms.length).filter fun k => z.2.testBit k))), [.val t, .val row, .val (.lst (pD K)), a, b, .val (.int (z.1 : Int)), .val (.int (z.2 : Int))]) := blt_ev (wl_cons (sq_of hc rfl).w wl_nil) rfl
      exact exs_rt (x_retE hc2 rfl) ⟨rfl, _, rfl, .inr ⟨z.2, rfl, hsum⟩⟩
end Bt
namespace LW
open PySem PySem.Spec PyProof.Rows L2 DS
def top (i : Nat) : Stmt := PySem.Challenge.pw_tiepress_k00_ranks_and_reduced_rows.main.body.getD i (.Pass ⟨0, 0, 0, 0⟩)
def G : List (Str × List Str) := [("low_bit", ["mask"]), ("_law_digits", ["_law_cell_here", "_law_sizes"]), ("_law_measures", ["_law_head"]), ("_law_row", ["_law_draw", "_law_own_rows", "_law_own_size"]), ("_law_cell", ["_law_script", "_law_k"]), ("_law_rows", ["_law_script", "_law_at", "_law_many", "_law_own_size"]), ("_law_wanted", ["_law_draw", "_law_own_rows", "_law_own_size"]), ("_law_mixed", ["_law_draw", "_law_made", "_law_own_rows"]), ("_law_bits", ["_law_mask", "_law_own_size"]), ("_law_dressed", ["_law_own_rows", "_law_own_size", "_law_dress"]), ("_law_rank", ["_law_own_rows"]), ("reduced_masks", ["masks"]), ("mask_of_bits", ["row"]), ("bits_of_mask", ["mask", "size"]), ("reduced", ["rows"]), ("_law_whole", ["_law_value"]), ("_law_is_number", ["_law_told", "_law_due"]), ("_law_mask_of", ["_law_told", "_law_own_size"]), ("sum_with", ["kept", "mask", "made"]), ("combination", ["rows", "row"]), ("_law_has", ["_law_mask", "_law_k"]), ("_law_first", ["_law_mask"]), ("_law_is_reduced", ["_law_told", "_law_own_rows", "_law_own_size", "_law_due"]), ("_law_is_sum", ["_law_told", "_law_own_rows", "_law_wanted_here"]), ("_law_is_table", ["_law_told", "_law_masks", "_law_own_size"]), ("added", ["rows", "size"]), ("mask_rank", ["masks"]), ("rank", ["rows"]), ("_law_second_holds", ["_law_second", "_law_other", "_law_own_size", "_law_masks", "_law_sought", "_law_wanted_here"]), ("_law_columns", ["_law_own_rows", "_law_own_size"]), ("law", ["_law_script"])]
def W : List (Nat × List Str × List Nat) := [(19, ["row", "rows"], [1, 0]), (25, ["size", "rows"], [1, 0]), (27, ["rows"], [0]), (14, ["rows"], [0])]
def fuel : Nat := 100000
def c0 : Cxt := ⟨fun _ _ => .bad, fuel, fun _ => [], fun _ _ => .bad⟩
/-- low_bit(mask): slots 0:mask -/
def d0 : Df := ⟨1, 1, (.cons (.ret (.bin .BitAnd (.slot 0) (.un .USub (.slot 0)))) .nil)⟩
def f0 : List D → Out Ar := run c0 d0
def c1 : Cxt := c0.ext 0 f0
abbrev st0 : Stmt := top 3
def N0 : List Str := ["mask"]
theorem sc0 : FnScope N0 ["mask"] (defScope st0) := ⟨rfl, rfl, rfl, by decide +kernel, by decide +kernel, by decide +kernel, by decide +kernel⟩
theorem ck0 : okSs ⟨G.take 0, W, 0⟩ ⟨N0, (defScope st0).names, (defScope st0).names⟩ d0.body (defBody st0) = true := by decide +kernel
/-- _law_digits(_law_cell_here, _law_sizes): slots 0:_law_cell_here 1:_law_sizes 2:_law_own_row 3:_law_rest 4:_law_seed 5:_law_k 6:_law_own_size 7:_law_twice -/
def d1 : Df := ⟨8, 2, (.cons (.set 2 (.lst .nil)) (.cons (.setS 3 (.blt .int (.cons (.slot 0) .nil))) (.cons (.ife (.cmpT .GtE (.slot 3) (.bin .Pow (.int 10) (.int 18))) (.cons (.setS 3 (.bin .Sub (.slot 3) (.bin .Pow (.int 10) (.int 18)))) (.cons (.for_ (.nm 6) .seq (.cons (.slot 1) .nil) (.cons (.app 2 (.bin .Mod (.blt .int (.cons (.slot 3) .nil)) (.slot 6))) (.cons (.setS 3 (.bin .FloorDiv (.blt .int (.cons (.slot 3) .nil)) (.slot 6))) .nil))) (.cons (.ret (.move 2)) .nil))) .nil) (.cons (.setS 4 (.bin .Mod (.blt .int (.cons (.slot 3) .nil)) (.int 2147483629))) (.cons (.for_ (.nm 5) .range1 (.cons (.blt .len (.cons (.slot 1) .nil)) .nil) (.cons (.setS 4 (.bin .Mod (.blt .int (.cons (.bin .Add (.bin .Add (.bin .Mult (.slot 4) (.int 48271)) (.bin .Mult (.int 974711) (.slot 5))) (.int 12345)) .nil)) (.int 2147483647))) (.cons (.setS 7 (.bin .Mod (.blt .int (.cons (.bin .Mult (.slot 4) (.bin .Add (.bin .FloorDiv (.slot 4) (.int 65537)) (.int 3))) .nil)) (.int 2147483629))) (.cons (.app 2 (.bin .Mod (.bin .FloorDiv (.slot 7) (.int 19)) (.ix (.slot 1) (.slot 5)))) .nil)))) (.cons (.ret (.move 2)) .nil))))))⟩
def f1 : List D → Out Ar := run c1 d1
def c2 : Cxt := c1.ext 1 f1
abbrev st1 : Stmt := top 14
def N1 : List Str := ["_law_cell_here", "_law_sizes", "_law_own_row", "_law_rest", "_law_seed", "_law_k", "_law_own_size", "_law_twice"]
theorem sc1 : FnScope N1 ["_law_cell_here", "_law_sizes"] (defScope st1) := ⟨rfl, rfl, rfl, by decide +kernel, by decide +kernel, by decide +kernel, by decide +kernel⟩
theorem ck1 : okSs ⟨G.take 1, W, 0⟩ ⟨N1, (defScope st1).names, (defScope st1).names⟩ d1.body (defBody st1) = true := by decide +kernel
/-- _law_measures(_law_head): slots 0:_law_head 1:_law_menu -/
def d2 : Df := ⟨2, 1, (.cons (.setS 1 (.lst (.cons (.int 0) (.cons (.int 1) (.cons (.int 2) (.cons (.int 2) (.cons (.int 3) (.cons (.int 3) (.cons (.int 3) (.cons (.int 4) (.cons (.int 4) (.cons (.int 4) (.cons (.int 5) (.cons (.int 5) (.cons (.int 6) (.cons (.int 6) (.cons (.int 7) (.cons (.int 8) .nil)))))))))))))))))) (.cons (.ife (.cmpT .Eq (.ix (.slot 0) (.int 0)) (.int 3)) (.cons (.ret (.tup (.cons (.ix (.slot 0) (.int 3)) (.cons (.ix (.slot 0) (.int 4)) .nil)))) .nil) .nil) (.cons (.ret (.tup (.cons (.ix (.slot 1) (.ix (.slot 0) (.int 1))) (.cons (.ix (.slot 1) (.ix (.slot 0) (.int 2))) .nil)))) .nil)))⟩
def f2 : List D → Out Ar := run c2 d2
def c3 : Cxt := c2.ext 2 f2
abbrev st2 : Stmt := top 20
def N2 : List Str := ["_law_head", "_law_menu"]
theorem sc2 : FnScope N2 ["_law_head"] (defScope st2) := ⟨rfl, rfl, rfl, by decide +kernel, by decide +kernel, by decide +kernel, by decide +kernel⟩
theorem ck2 : okSs ⟨G.take 2, W, 0⟩ ⟨N2, (defScope st2).names, (defScope st2).names⟩ d2.body (defBody st2) = true := by decide +kernel
/-- _law_row(_law_draw, _law_own_rows, _law_own_size): slots 0:_law_draw 1:_law_own_rows 2:_law_own_size 3:_law_mask 4:_law_k -/
def d3 : Df := ⟨5, 3, (.cons (.ife (.andT (.cons (.cmpT .Eq (.ix (.slot 0) (.int 0)) (.int 5)) (.cons (.cmpT .Gt (.blt .len (.cons (.slot 1) .nil)) (.int 0)) .nil))) (.cons (.ret (.ix (.slot 1) (.bin .Mod (.blt .int (.cons (.ix (.slot 0) (.int 1)) .nil)) (.blt .len (.cons (.slot 1) .nil))))) .nil) .nil) (.cons (.setS 3 (.int 0)) (.cons (.ife (.cmpT .Eq (.ix (.slot 0) (.int 0)) (.int 6)) (.cons (.for_ (.nm 4) .range1 (.cons (.blt .len (.cons (.slot 1) .nil)) .nil) (.cons (.ife (.cmpT .Eq (.ix (.slot 0) (.bin .Add (.int 2) (.slot 4))) (.int 1)) (.cons (.setS 3 (.bin .BitXor (.slot 3) (.ix (.slot 1) (.slot 4)))) .nil) .nil) .nil)) .nil) .nil) (.cons (.ife (.cmpT .Lt (.ix (.slot 0) (.int 0)) (.int 5)) (.cons (.for_ (.nm 4) .range1 (.cons (.slot 2) .nil) (.cons (.ife (.cmpT .Eq (.ix (.slot 0) (.bin .Add (.int 2) (.slot 4))) (.int 1)) (.cons (.setS 3 (.bin .Add (.slot 3) (.bin .LShift (.int 1) (.slot 4)))) .nil) .nil) .nil)) .nil) .nil) (.cons (.ret (.slot 3)) .nil)))))⟩
def f3 : List D → Out Ar := run c3 d3
def c4 : Cxt := c3.ext 3 f3
abbrev st3 : Stmt := top 21
def N3 : List Str := ["_law_draw", "_law_own_rows", "_law_own_size", "_law_mask", "_law_k"]
theorem sc3 : FnScope N3 ["_law_draw", "_law_own_rows", "_law_own_size"] (defScope st3) := ⟨rfl, rfl, rfl, by decide +kernel, by decide +kernel, by decide +kernel, by decide +kernel⟩
theorem ck3 : okSs ⟨G.take 3, W, 1⟩ ⟨N3, (defScope st3).names, (defScope st3).names⟩ d3.body (defBody st3) = true := by decide +kernel
/-- _law_cell(_law_script, _law_k): slots 0:_law_script 1:_law_k 2:_law_seed 3:_law_cell_here -/
def d4 : Df := ⟨4, 2, (.cons (.ife (.cmpT .Lt (.slot 1) (.blt .len (.cons (.slot 0) .nil))) (.cons (.ret (.bin .Add (.ix (.slot 0) (.slot 1)) (.bin .Mult (.int 1000122163) (.bin .Add (.slot 1) (.int 1))))) .nil) .nil) (.cons (.setS 2 (.int 2710)) (.cons (.for_ (.nm 3) .seq (.cons (.slot 0) .nil) (.cons (.setS 2 (.bin .Mod (.blt .int (.cons (.bin .Add (.bin .Mult (.slot 2) (.int 31)) (.bin .Mod (.blt .int (.cons (.slot 3) .nil)) (.int 1000003))) .nil)) (.int 1000003))) .nil)) (.cons (.ret (.bin .Mod (.blt .int (.cons (.bin .Mult (.bin .Mult (.bin .Add (.slot 2) (.int 7)) (.bin .Add (.slot 1) (.int 3))) (.int 69621)) .nil)) (.int 2147483647))) .nil))))⟩
def f4 : List D → Out Ar := run c4 d4
def c5 : Cxt := c4.ext 4 f4
abbrev st4 : Stmt := top 13
def N4 : List Str := ["_law_script", "_law_k", "_law_seed", "_law_cell_here"]
theorem sc4 : FnScope N4 ["_law_script", "_law_k"] (defScope st4) := ⟨rfl, rfl, rfl, by decide +kernel, by decide +kernel, by decide +kernel, by decide +kernel⟩
theorem ck4 : okSs ⟨G.take 4, W, 2⟩ ⟨N4, (defScope st4).names, (defScope st4).names⟩ d4.body (defBody st4) = true := by decide +kernel
/-- _law_rows(_law_script, _law_at, _law_many, _law_own_size): slots 0:_law_script 1:_law_at 2:_law_many 3:_law_own_size 4:_law_own_rows 5:_law_made 6:_law_k 7:_law_draw 8:_law_mask 9:_law_other 10:_law_i -/
def d5 : Df := ⟨11, 4, (.cons (.set 4 (.lst .nil)) (.cons (.set 5 (.lst .nil)) (.cons (.for_ (.nm 6) .range1 (.cons (.slot 2) .nil) (.cons (.setS 7 (.call 1 (.cons (.call 4 (.cons (.slot 0) (.cons (.bin .Add (.slot 1) (.slot 6)) .nil))) (.cons (.bin .Add (.bin .Add (.lst (.cons (.int 8) (.cons (.int 60) .nil))) (.bin .Mult (.lst (.cons (.int 2) .nil)) (.bin .Add (.slot 3) (.slot 2)))) (.bin .Mult (.lst (.cons (.int 2) .nil)) (.slot 2))) .nil)))) (.cons (.setS 8 (.call 3 (.cons (.slot 7) (.cons (.bor 4) (.cons (.slot 3) .nil))))) (.cons (.setS 9 (.slot 8)) (.cons (.for_ (.nm 10) .range1 (.cons (.slot 6) .nil) (.cons (.ife (.cmpT .Eq (.ix (.slot 7) (.bin .Add (.bin .Add (.bin .Add (.int 2) (.slot 3)) (.slot 2)) (.slot 10))) (.int 1)) (.cons (.setS 9 (.bin .BitXor (.slot 9) (.ix (.bor 4) (.slot 10)))) .nil) .nil) .nil)) (.cons (.app 4 (.slot 8)) (.cons (.app 5 (.slot 9)) .nil))))))) (.cons (.ret (.tup (.cons (.slot 4) (.cons (.slot 5) .nil)))) .nil))))⟩
def f5 : List D → Out Ar := run c5 d5
def c6 : Cxt := c5.ext 5 f5
abbrev st5 : Stmt := top 22
def N5 : List Str := ["_law_script", "_law_at", "_law_many", "_law_own_size", "_law_own_rows", "_law_made", "_law_k", "_law_draw", "_law_mask", "_law_other", "_law_i"]
theorem sc5 : FnScope N5 ["_law_script", "_law_at", "_law_many", "_law_own_size"] (defScope st5) := ⟨rfl, rfl, rfl, by decide +kernel, by decide +kernel, by decide +kernel, by decide +kernel⟩
theorem ck5 : okSs ⟨G.take 5, W, 3⟩ ⟨N5, (defScope st5).names, (defScope st5).names⟩ d5.body (defBody st5) = true := by decide +kernel
/-- _law_wanted(_law_draw, _law_own_rows, _law_own_size): slots 0:_law_draw 1:_law_own_rows 2:_law_own_size 3:_law_mask 4:_law_k -/
def d6 : Df := ⟨5, 3, (.cons (.setS 3 (.int 0)) (.cons (.ife (.cmpT .Eq (.ix (.slot 0) (.int 0)) (.int 3)) (.cons (.for_ (.nm 4) .range1 (.cons (.slot 2) .nil) (.cons (.ife (.cmpT .Eq (.ix (.slot 0) (.bin .Add (.int 2) (.slot 4))) (.int 1)) (.cons (.setS 3 (.bin .Add (.slot 3) (.bin .LShift (.int 1) (.slot 4)))) .nil) .nil) .nil)) (.cons (.ret (.slot 3)) .nil)) .nil) (.cons (.for_ (.nm 4) .range1 (.cons (.blt .len (.cons (.slot 1) .nil)) .nil) (.cons (.ife (.cmpT .Eq (.ix (.slot 0) (.bin .Add (.int 2) (.slot 4))) (.int 1)) (.cons (.setS 3 (.bin .BitXor (.slot 3) (.ix (.slot 1) (.slot 4)))) .nil) .nil) .nil)) (.cons (.ife (.andT (.cons (.cmpT .Eq (.ix (.slot 0) (.int 0)) (.int 2)) (.cons (.cmpT .Gt (.slot 2) (.int 0)) .nil))) (.cons (.setS 3 (.bin .BitXor (.slot 3) (.bin .LShift (.int 1) (.bin .Mod (.blt .int (.cons (.ix (.slot 0) (.int 1)) .nil)) (.slot 2))))) .nil) .nil) (.cons (.ret (.slot 3)) .nil)))))⟩
def f6 : List D → Out Ar := run c6 d6
def c7 : Cxt := c6.ext 6 f6
abbrev st6 : Stmt := top 25
def N6 : List Str := ["_law_draw", "_law_own_rows", "_law_own_size", "_law_mask", "_law_k"]
theorem sc6 : FnScope N6 ["_law_draw", "_law_own_rows", "_law_own_size"] (defScope st6) := ⟨rfl, rfl, rfl, by decide +kernel, by decide +kernel, by decide +kernel, by decide +kernel⟩
theorem ck6 : okSs ⟨G.take 6, W, 4⟩ ⟨N6, (defScope st6).names, (defScope st6).names⟩ d6.body (defBody st6) = true := by decide +kernel
/-- _law_mixed(_law_draw, _law_made, _law_own_rows): slots 0:_law_draw 1:_law_made 2:_law_own_rows 3:_law_more 4:_law_k 5:_law_cut 6:_law_order 7:_law_mask 8:_law_i 9:_law_one -/
def d7 : Df := ⟨10, 3, (.cons (.set 3 (.lst .nil)) (.cons (.for_ (.nm 4) .range1 (.cons (.ix (.slot 0) (.int 2)) .nil) (.cons (.setS 7 (.int 0)) (.cons (.for_ (.nm 8) .range1 (.cons (.blt .len (.cons (.slot 2) .nil)) .nil) (.cons (.ife (.cmpT .Eq (.ix (.slot 0) (.bin .Add (.bin .Add (.int 4) (.bin .Mult (.int 60) (.slot 4))) (.slot 8))) (.int 1)) (.cons (.setS 7 (.bin .BitXor (.slot 7) (.ix (.slot 2) (.slot 8)))) .nil) .nil) .nil)) (.cons (.app 3 (.slot 7)) .nil)))) (.cons (.ife (.cmpT .Gt (.blt .len (.cons (.slot 2) .nil)) (.int 20)) (.cons (.for_ (.nm 4) .range1 (.cons (.ix (.slot 0) (.int 184)) .nil) (.cons (.setS 9 (.ix (.slot 2) (.bin .Mod (.blt .int (.cons (.ix (.slot 0) (.bin .Add (.int 185) (.bin .Mult (.int 2) (.slot 4)))) .nil)) (.blt .len (.cons (.slot 2) .nil))))) (.cons (.app 3 (.bin .BitXor (.slot 9) (.ix (.slot 2) (.bin .Mod (.blt .int (.cons (.ix (.slot 0) (.bin .Add (.int 186) (.bin .Mult (.int 2) (.slot 4)))) .nil)) (.blt .len (.cons (.slot 2) .nil)))))) .nil))) .nil) .nil) (.cons (.setS 5 (.bin .Mod (.blt .int (.cons (.ix (.slot 0) (.int 0)) .nil)) (.bin .Add (.blt .len (.cons (.slot 1) .nil)) (.int 1)))) (.cons (.setS 6 (.bin .Add (.slice (.slot 1) (.slot 5) .non) (.slice (.slot 1) .non (.slot 5)))) (.cons (.ife (.cmpT .Eq (.ix (.slot 0) (.int 1)) (.int 1)) (.cons (.setS 6 (.comp (.nm 4) [4] .range1 (.cons (.blt .len (.cons (.slot 6) .nil)) .nil) (.bl true) (.ix (.slot 6) (.bin .Sub (.bin .Sub (.blt .len (.cons (.slot 6) .nil)) (.int 1)) (.slot 4))))) .nil) .nil) (.cons (.ife (.cmpT .Eq (.ix (.slot 0) (.int 3)) (.int 1)) (.cons (.ret (.bin .Add (.slot 3) (.slot 6))) .nil) .nil) (.cons (.ret (.bin .Add (.slot 6) (.slot 3))) .nil))))))))⟩
def f7 : List D → Out Ar := run c7 d7
def c8 : Cxt := c7.ext 7 f7
abbrev st7 : Stmt := top 23
def N7 : List Str := ["_law_draw", "_law_made", "_law_own_rows", "_law_more", "_law_k", "_law_cut", "_law_order", "_law_mask", "_law_i", "_law_one"]
theorem sc7 : FnScope N7 ["_law_draw", "_law_made", "_law_own_rows"] (defScope st7) := ⟨rfl, rfl, rfl, by decide +kernel, by decide +kernel, by decide +kernel, by decide +kernel⟩
theorem ck7 : okSs ⟨G.take 7, W, 5⟩ ⟨N7, (defScope st7).names, (defScope st7).names⟩ d7.body (defBody st7) = true := by decide +kernel
/-- _law_bits(_law_mask, _law_own_size): slots 0:_law_mask 1:_law_own_size 2:_law_k -/
def d8 : Df := ⟨3, 2, (.cons (.ret (.comp (.nm 2) [2] .range1 (.cons (.slot 1) .nil) (.bl true) (.bin .BitAnd (.bin .RShift (.slot 0) (.slot 2)) (.int 1)))) .nil)⟩
def f8 : List D → Out Ar := run c8 d8
def c9 : Cxt := c8.ext 8 f8
abbrev st8 : Stmt := top 17
def N8 : List Str := ["_law_mask", "_law_own_size", "_law_k"]
theorem sc8 : FnScope N8 ["_law_mask", "_law_own_size"] (defScope st8) := ⟨rfl, rfl, rfl, by decide +kernel, by decide +kernel, by decide +kernel, by decide +kernel⟩
theorem ck8 : okSs ⟨G.take 8, W, 6⟩ ⟨N8, (defScope st8).names, (defScope st8).names⟩ d8.body (defBody st8) = true := by decide +kernel
/-- _law_dressed(_law_own_rows, _law_own_size, _law_dress): slots 0:_law_own_rows 1:_law_own_size 2:_law_dress 3:_law_made 4:_law_mask -/
def d9 : Df := ⟨5, 3, (.cons (.set 3 (.lst .nil)) (.cons (.for_ (.nm 4) .seq (.cons (.slot 0) .nil) (.cons (.ife (.orT (.cons (.cmpT .Eq (.slot 2) (.int 1)) (.cons (.cmpT .Eq (.slot 2) (.int 3)) (.cons (.andT (.cons (.cmpT .GtE (.slot 2) (.int 4)) (.cons (.cmpT .Eq (.bin .Mod (.blt .len (.cons (.bor 3) .nil)) (.int 2)) (.int 1)) .nil))) .nil)))) (.cons (.app 3 (.call 8 (.cons (.slot 4) (.cons (.slot 1) .nil)))) .nil) (.cons (.app 3 (.blt .tuple (.cons (.call 8 (.cons (.slot 4) (.cons (.slot 1) .nil))) .nil))) .nil)) .nil)) (.cons (.ife (.orT (.cons (.cmpT .Eq (.slot 2) (.int 2)) (.cons (.cmpT .Eq (.slot 2) (.int 3)) (.cons (.cmpT .Eq (.slot 2) (.int 5)) .nil)))) (.cons (.ret (.move 3)) .nil) .nil) (.cons (.ret (.blt .tuple (.cons (.slot 3) .nil))) .nil))))⟩
def f9 : List D → Out Ar := run c9 d9
def c10 : Cxt := c9.ext 9 f9
abbrev st9 : Stmt := top 18
def N9 : List Str := ["_law_own_rows", "_law_own_size", "_law_dress", "_law_made", "_law_mask"]
theorem sc9 : FnScope N9 ["_law_own_rows", "_law_own_size", "_law_dress"] (defScope st9) := ⟨rfl, rfl, rfl, by decide +kernel, by decide +kernel, by decide +kernel, by decide +kernel⟩
theorem ck9 : okSs ⟨G.take 9, W, 7⟩ ⟨N9, (defScope st9).names, (defScope st9).names⟩ d9.body (defBody st9) = true := by decide +kernel
/-- _law_rank(_law_own_rows): slots 0:_law_own_rows 1:_law_kept 2:_law_own_row 3:_law_rest 4:_law_other -/
def d10 : Df := ⟨5, 1, (.cons (.setS 1 (.lst .nil)) (.cons (.for_ (.nm 2) .seq (.cons (.slot 0) .nil) (.cons (.setS 3 (.slot 2)) (.cons (.for_ (.nm 4) .seq (.cons (.slot 1) .nil) (.cons (.ife (.cmpT .Lt (.bin .BitXor (.slot 3) (.slot 4)) (.slot 3)) (.cons (.setS 3 (.bin .BitXor (.slot 3) (.slot 4))) .nil) .nil) .nil)) (.cons (.ife (.cmpT .Gt (.slot 3) (.int 0)) (.cons (.setS 1 (.sortRev (.bin .Add (.slot 1) (.lst (.cons (.slot 3) .nil))))) .nil) .nil) .nil)))) (.cons (.ret (.blt .len (.cons (.slot 1) .nil))) .nil)))⟩
def f10 : List D → Out Ar := run c10 d10
def c11 : Cxt := c10.ext 10 f10
abbrev st10 : Stmt := top 16
def N10 : List Str := ["_law_own_rows", "_law_kept", "_law_own_row", "_law_rest", "_law_other"]
theorem sc10 : FnScope N10 ["_law_own_rows"] (defScope st10) := ⟨rfl, rfl, rfl, by decide +kernel, by decide +kernel, by decide +kernel, by decide +kernel⟩
theorem ck10 : okSs ⟨G.take 10, W, 8⟩ ⟨N10, (defScope st10).names, (defScope st10).names⟩ d10.body (defBody st10) = true := by decide +kernel
/-- reduced_masks(masks): slots 0:masks 1:kept 2:mask 3:rest 4:other 5:low -/
def d11 : Df := ⟨6, 1, (.cons (.set 1 (.lst .nil)) (.cons (.for_ (.nm 2) .seq (.cons (.slot 0) .nil) (.cons (.setS 3 (.slot 2)) (.cons (.for_ (.nm 4) .seq (.cons (.bor 1) .nil) (.cons (.ife (.cmpT .NotEq (.bin .BitAnd (.slot 3) (.call 0 (.cons (.slot 4) .nil))) (.int 0)) (.cons (.setS 3 (.bin .BitXor (.slot 3) (.slot 4))) .nil) .nil) .nil)) (.cons (.ife (.cmpT .NotEq (.slot 3) (.int 0)) (.cons (.setS 5 (.call 0 (.cons (.slot 3) .nil))) (.cons (.set 1 (.comp (.nm 4) [4] .seq (.cons (.bor 1) .nil) (.bl true) (.ife (.cmpT .NotEq (.bin .BitAnd (.slot 4) (.slot 5)) (.int 0)) (.bin .BitXor (.slot 4) (.slot 3)) (.slot 4)))) (.cons (.app 1 (.slot 3)) .nil))) .nil) .nil)))) (.cons (.ret (.blt .tuple (.cons (.sortKey 0 (.slot 1)) .nil))) .nil)))⟩
def f11 : List D → Out Ar := run c11 d11
def c12 : Cxt := c11.ext 11 f11
abbrev st11 : Stmt := top 4
def N11 : List Str := ["masks", "kept", "mask", "rest", "other", "low"]
theorem sc11 : FnScope N11 ["masks"] (defScope st11) := ⟨rfl, rfl, rfl, by decide +kernel, by decide +kernel, by decide +kernel, by decide +kernel⟩
theorem ck11 : okSs ⟨G.take 11, W, 9⟩ ⟨N11, (defScope st11).names, (defScope st11).names⟩ d11.body (defBody st11) = true := by decide +kernel
/-- mask_of_bits(row): slots 0:row 1:mask 2:k 3:bit -/
def d12 : Df := ⟨4, 1, (.cons (.setS 1 (.int 0)) (.cons (.for_ (.tp [2, 3]) .enum (.cons (.slot 0) .nil) (.cons (.setS 1 (.bin .BitOr (.slot 1) (.bin .LShift (.slot 3) (.slot 2)))) .nil)) (.cons (.ret (.slot 1)) .nil)))⟩
def f12 : List D → Out Ar := run c12 d12
def c13 : Cxt := c12.ext 12 f12
abbrev st12 : Stmt := top 1
def N12 : List Str := ["row", "mask", "k", "bit"]
theorem sc12 : FnScope N12 ["row"] (defScope st12) := ⟨rfl, rfl, rfl, by decide +kernel, by decide +kernel, by decide +kernel, by decide +kernel⟩
theorem ck12 : okSs ⟨G.take 12, W, 10⟩ ⟨N12, (defScope st12).names, (defScope st12).names⟩ d12.body (defBody st12) = true := by decide +kernel
/-- bits_of_mask(mask, size): slots 0:mask 1:size 2:k -/
def d13 : Df := ⟨3, 2, (.cons (.ret (.blt .tuple (.cons (.comp (.nm 2) [2] .range1 (.cons (.slot 1) .nil) (.bl true) (.bin .BitAnd (.bin .RShift (.slot 0) (.slot 2)) (.int 1))) .nil))) .nil)⟩
def f13 : List D → Out Ar := run c13 d13
def c14 : Cxt := c13.ext 13 f13
abbrev st13 : Stmt := top 2
def N13 : List Str := ["mask", "size", "k"]
theorem sc13 : FnScope N13 ["mask", "size"] (defScope st13) := ⟨rfl, rfl, rfl, by decide +kernel, by decide +kernel, by decide +kernel, by decide +kernel⟩
theorem ck13 : okSs ⟨G.take 13, W, 11⟩ ⟨N13, (defScope st13).names, (defScope st13).names⟩ d13.body (defBody st13) = true := by decide +kernel
/-- reduced(rows): slots 0:rows 1:size 2:masks 3:row 4:mask -/
def d14 : Df := ⟨5, 1, (.cons (.ife (.cmpT .Eq (.blt .len (.cons (.slot 0) .nil)) (.int 0)) (.cons (.ret (.tup .nil)) .nil) .nil) (.cons (.setS 1 (.blt .len (.cons (.ix (.slot 0) (.int 0)) .nil))) (.cons (.setS 2 (.call 11 (.cons (.comp (.nm 3) [3] .seq (.cons (.slot 0) .nil) (.bl true) (.call 12 (.cons (.slot 3) .nil))) .nil))) (.cons (.ret (.blt .tuple (.cons (.comp (.nm 4) [4] .seq (.cons (.slot 2) .nil) (.bl true) (.call 13 (.cons (.slot 4) (.cons (.slot 1) .nil)))) .nil))) .nil))))⟩
def f14 : List D → Out Ar := run c14 d14
def c15 : Cxt := c14.ext 14 f14
abbrev st14 : Stmt := top 8
def N14 : List Str := ["rows", "size", "masks", "row", "mask"]
theorem sc14 : FnScope N14 ["rows"] (defScope st14) := ⟨rfl, rfl, rfl, by decide +kernel, by decide +kernel, by decide +kernel, by decide +kernel⟩
theorem ck14 : okSs ⟨G.take 14, W, 12⟩ ⟨N14, (defScope st14).names, (defScope st14).names⟩ d14.body (defBody st14) = true := by decide +kernel
/-- _law_whole(_law_value): slots 0:_law_value -/
def d15 : Df := ⟨1, 1, (.cons (.ret (.andE (.cons (.blt (.isi (.ty "int")) (.cons (.slot 0) .nil)) (.cons (.notE (.blt (.isi (.ty "bool")) (.cons (.slot 0) .nil))) .nil)))) .nil)⟩
def f15 : List D → Out Ar := run c15 d15
def c16 : Cxt := c15.ext 15 f15
abbrev st15 : Stmt := top 12
def N15 : List Str := ["_law_value"]
theorem sc15 : FnScope N15 ["_law_value"] (defScope st15) := ⟨rfl, rfl, rfl, by decide +kernel, by decide +kernel, by decide +kernel, by decide +kernel⟩
theorem ck15 : okSs ⟨G.take 15, W, 13⟩ ⟨N15, (defScope st15).names, (defScope st15).names⟩ d15.body (defBody st15) = true := by decide +kernel
/-- _law_is_number(_law_told, _law_due): slots 0:_law_told 1:_law_due -/
def d16 : Df := ⟨2, 2, (.cons (.ret (.andE (.cons (.call 15 (.cons (.slot 0) .nil)) (.cons (.cmp .Eq (.slot 0) (.slot 1)) .nil)))) .nil)⟩
def f16 : List D → Out Ar := run c16 d16
def c17 : Cxt := c16.ext 16 f16
abbrev st16 : Stmt := top 26
def N16 : List Str := ["_law_told", "_law_due"]
theorem sc16 : FnScope N16 ["_law_told", "_law_due"] (defScope st16) := ⟨rfl, rfl, rfl, by decide +kernel, by decide +kernel, by decide +kernel, by decide +kernel⟩
theorem ck16 : okSs ⟨G.take 16, W, 14⟩ ⟨N16, (defScope st16).names, (defScope st16).names⟩ d16.body (defBody st16) = true := by decide +kernel
/-- _law_mask_of(_law_told, _law_own_size): slots 0:_law_told 1:_law_own_size 2:_law_mask 3:_law_k -/
def d17 : Df := ⟨4, 2, (.cons (.ife (.orT (.cons (.notT (.tru (.blt (.isi (.ty "tuple")) (.cons (.slot 0) .nil)))) (.cons (.cmpT .NotEq (.blt .len (.cons (.slot 0) .nil)) (.slot 1)) .nil))) (.cons (.ret (.un .USub (.int 1))) .nil) .nil) (.cons (.setS 2 (.int 0)) (.cons (.for_ (.nm 3) .range1 (.cons (.slot 1) .nil) (.cons (.ife (.orT (.cons (.notT (.tru (.call 15 (.cons (.ix (.slot 0) (.slot 3)) .nil)))) (.cons (.cmpT .Lt (.ix (.slot 0) (.slot 3)) (.int 0)) (.cons (.cmpT .Gt (.ix (.slot 0) (.slot 3)) (.int 1)) .nil)))) (.cons (.ret (.un .USub (.int 1))) .nil) .nil) (.cons (.setS 2 (.bin .Add (.slot 2) (.bin .LShift (.ix (.slot 0) (.slot 3)) (.slot 3)))) .nil))) (.cons (.ret (.slot 2)) .nil))))⟩
def f17 : List D → Out Ar := run c17 d17
def c18 : Cxt := c17.ext 17 f17
abbrev st17 : Stmt := top 19
def N17 : List Str := ["_law_told", "_law_own_size", "_law_mask", "_law_k"]
theorem sc17 : FnScope N17 ["_law_told", "_law_own_size"] (defScope st17) := ⟨rfl, rfl, rfl, by decide +kernel, by decide +kernel, by decide +kernel, by decide +kernel⟩
theorem ck17 : okSs ⟨G.take 17, W, 15⟩ ⟨N17, (defScope st17).names, (defScope st17).names⟩ d17.body (defBody st17) = true := by decide +kernel
/-- sum_with(kept, mask, made): slots 0:kept 1:mask 2:made 3:rest 4:used 5:other 6:rows -/
def d18 : Df := ⟨7, 3, (.cons (.par [3, 4] (.cons (.slot 1) (.cons (.slot 2) .nil))) (.cons (.for_ (.tp [5, 6]) .seq (.cons (.slot 0) .nil) (.cons (.ife (.cmpT .NotEq (.bin .BitAnd (.slot 3) (.call 0 (.cons (.slot 5) .nil))) (.int 0)) (.cons (.par [3, 4] (.cons (.bin .BitXor (.slot 3) (.slot 5)) (.cons (.bin .BitXor (.slot 4) (.slot 6)) .nil))) .nil) .nil) .nil)) (.cons (.ret (.tup (.cons (.slot 3) (.cons (.slot 4) .nil)))) .nil)))⟩
def f18 : List D → Out Ar := run c18 d18
def c19 : Cxt := c18.ext 18 f18
abbrev st18 : Stmt := top 9
def N18 : List Str := ["kept", "mask", "made", "rest", "used", "other", "rows"]
theorem sc18 : FnScope N18 ["kept", "mask", "made"] (defScope st18) := ⟨rfl, rfl, rfl, by decide +kernel, by decide +kernel, by decide +kernel, by decide +kernel⟩
theorem ck18 : okSs ⟨G.take 18, W, 16⟩ ⟨N18, (defScope st18).names, (defScope st18).names⟩ d18.body (defBody st18) = true := by decide +kernel
/-- combination(rows, row): slots 0:rows 1:row 2:kept 3:k 4:bits 5:rest 6:used -/
def d19 : Df := ⟨7, 2, (.cons (.set 2 (.lst .nil)) (.cons (.for_ (.tp [3, 4]) .enum (.cons (.slot 0) .nil) (.cons (.unp [5, 6] (.call 18 (.cons (.bor 2) (.cons (.call 12 (.cons (.slot 4) .nil)) (.cons (.bin .LShift (.int 1) (.slot 3)) .nil))))) (.cons (.ife (.cmpT .NotEq (.slot 5) (.int 0)) (.cons (.app 2 (.tup (.cons (.slot 5) (.cons (.slot 6) .nil)))) .nil) .nil) .nil))) (.cons (.unp [5, 6] (.call 18 (.cons (.slot 2) (.cons (.call 12 (.cons (.slot 1) .nil)) (.cons (.int 0) .nil))))) (.cons (.ife (.cmpT .NotEq (.slot 5) (.int 0)) (.cons (.ret .non) .nil) .nil) (.cons (.ret (.blt .tuple (.cons (.comp (.nm 3) [3] .range1 (.cons (.blt .len (.cons (.slot 0) .nil)) .nil) (.cmpT .Eq (.bin .BitAnd (.bin .RShift (.slot 6) (.slot 3)) (.int 1)) (.int 1)) (.slot 3)) .nil))) .nil)))))⟩
def f19 : List D → Out Ar := run c19 d19
def c20 : Cxt := c19.ext 19 f19
abbrev st19 : Stmt := top 10
def N19 : List Str := ["rows", "row", "kept", "k", "bits", "rest", "used"]
theorem sc19 : FnScope N19 ["rows", "row"] (defScope st19) := ⟨rfl, rfl, rfl, by decide +kernel, by decide +kernel, by decide +kernel, by decide +kernel⟩
theorem ck19 : okSs ⟨G.take 19, W, 17⟩ ⟨N19, (defScope st19).names, (defScope st19).names⟩ d19.body (defBody st19) = true := by decide +kernel
/-- _law_has(_law_mask, _law_k): slots 0:_law_mask 1:_law_k -/
def d20 : Df := ⟨2, 2, (.cons (.ret (.cmp .Eq (.bin .BitAnd (.bin .RShift (.slot 0) (.slot 1)) (.int 1)) (.int 1))) .nil)⟩
def f20 : List D → Out Ar := run c20 d20
def c21 : Cxt := c20.ext 20 f20
abbrev st20 : Stmt := top 15
def N20 : List Str := ["_law_mask", "_law_k"]
theorem sc20 : FnScope N20 ["_law_mask", "_law_k"] (defScope st20) := ⟨rfl, rfl, rfl, by decide +kernel, by decide +kernel, by decide +kernel, by decide +kernel⟩
theorem ck20 : okSs ⟨G.take 20, W, 18⟩ ⟨N20, (defScope st20).names, (defScope st20).names⟩ d20.body (defBody st20) = true := by decide +kernel
/-- _law_first(_law_mask): slots 0:_law_mask 1:_law_k -/
def d21 : Df := ⟨2, 1, (.cons (.for_ (.nm 1) .range1 (.cons (.int 200) .nil) (.cons (.ife (.tru (.call 20 (.cons (.slot 0) (.cons (.slot 1) .nil)))) (.cons (.ret (.slot 1)) .nil) .nil) .nil)) (.cons (.ret (.int 200)) .nil))⟩
def f21 : List D → Out Ar := run c21 d21
def c22 : Cxt := c21.ext 21 f21
abbrev st21 : Stmt := top 28
def N21 : List Str := ["_law_mask", "_law_k"]
theorem sc21 : FnScope N21 ["_law_mask"] (defScope st21) := ⟨rfl, rfl, rfl, by decide +kernel, by decide +kernel, by decide +kernel, by decide +kernel⟩
theorem ck21 : okSs ⟨G.take 21, W, 19⟩ ⟨N21, (defScope st21).names, (defScope st21).names⟩ d21.body (defBody st21) = true := by decide +kernel
/-- _law_is_reduced(_law_told, _law_own_rows, _law_own_size, _law_due): slots 0:_law_told 1:_law_own_rows 2:_law_own_size 3:_law_due 4:_law_masks 5:_law_firsts 6:_law_bits_here 7:_law_i 8:_law_mask 9:_law_k 10:_law_rest -/
def d22 : Df := ⟨11, 4, (.cons (.ife (.orT (.cons (.notT (.tru (.blt (.isi (.ty "tuple")) (.cons (.slot 0) .nil)))) (.cons (.cmpT .NotEq (.blt .len (.cons (.slot 0) .nil)) (.slot 3)) .nil))) (.cons (.ret (.bl false)) .nil) .nil) (.cons (.set 4 (.lst .nil)) (.cons (.set 5 (.lst .nil)) (.cons (.for_ (.nm 6) .seq (.cons (.slot 0) .nil) (.cons (.setS 8 (.call 17 (.cons (.slot 6) (.cons (.slot 2) .nil)))) (.cons (.ife (.cmpT .LtE (.slot 8) (.int 0)) (.cons (.ret (.bl false)) .nil) .nil) (.cons (.ife (.andT (.cons (.cmpT .Gt (.blt .len (.cons (.bor 5) .nil)) (.int 0)) (.cons (.cmpT .LtE (.call 21 (.cons (.slot 8) .nil)) (.ix (.bor 5) (.bin .Sub (.blt .len (.cons (.bor 5) .nil)) (.int 1)))) .nil))) (.cons (.ret (.bl false)) .nil) .nil) (.cons (.app 4 (.slot 8)) (.cons (.app 5 (.call 21 (.cons (.slot 8) .nil))) .nil)))))) (.cons (.for_ (.nm 7) .range1 (.cons (.blt .len (.cons (.bor 4) .nil)) .nil) (.cons (.for_ (.nm 9) .range1 (.cons (.blt .len (.cons (.bor 4) .nil)) .nil) (.cons (.ife (.andT (.cons (.cmpT .NotEq (.slot 7) (.slot 9)) (.cons (.tru (.call 20 (.cons (.ix (.bor 4) (.slot 9)) (.cons (.ix (.bor 5) (.slot 7)) .nil)))) .nil))) (.cons (.ret (.bl false)) .nil) .nil) .nil)) .nil)) (.cons (.for_ (.nm 8) .seq (.cons (.slot 1) .nil) (.cons (.setS 10 (.slot 8)) (.cons (.for_ (.nm 7) .range1 (.cons (.blt .len (.cons (.bor 4) .nil)) .nil) (.cons (.ife (.tru (.call 20 (.cons (.slot 8) (.cons (.ix (.bor 5) (.slot 7)) .nil)))) (.cons (.setS 10 (.bin .BitXor (.slot 10) (.ix (.bor 4) (.slot 7)))) .nil) .nil) .nil)) (.cons (.ife (.cmpT .NotEq (.slot 10) (.int 0)) (.cons (.ret (.bl false)) .nil) .nil) .nil)))) (.cons (.ret (.bl true)) .nil)))))))⟩
def f22 : List D → Out Ar := run c22 d22
def c23 : Cxt := c22.ext 22 f22
abbrev st22 : Stmt := top 29
def N22 : List Str := ["_law_told", "_law_own_rows", "_law_own_size", "_law_due", "_law_masks", "_law_firsts", "_law_bits_here", "_law_i", "_law_mask", "_law_k", "_law_rest"]
theorem sc22 : FnScope N22 ["_law_told", "_law_own_rows", "_law_own_size", "_law_due"] (defScope st22) := ⟨rfl, rfl, rfl, by decide +kernel, by decide +kernel, by decide +kernel, by decide +kernel⟩
theorem ck22 : okSs ⟨G.take 22, W, 20⟩ ⟨N22, (defScope st22).names, (defScope st22).names⟩ d22.body (defBody st22) = true := by decide +kernel
/-- _law_is_sum(_law_told, _law_own_rows, _law_wanted_here): slots 0:_law_told 1:_law_own_rows 2:_law_wanted_here 3:_law_last 4:_law_total 5:_law_k -/
def d23 : Df := ⟨6, 3, (.cons (.ife (.cmpT .Is (.slot 0) .non) (.cons (.ret (.cmp .Gt (.call 10 (.cons (.bin .Add (.slot 1) (.lst (.cons (.slot 2) .nil))) .nil)) (.call 10 (.cons (.slot 1) .nil)))) .nil) .nil) (.cons (.ife (.notT (.tru (.blt (.isi (.ty "tuple")) (.cons (.slot 0) .nil)))) (.cons (.ret (.bl false)) .nil) .nil) (.cons (.setS 3 (.un .USub (.int 1))) (.cons (.setS 4 (.int 0)) (.cons (.for_ (.nm 5) .seq (.cons (.slot 0) .nil) (.cons (.ife (.orT (.cons (.notT (.tru (.call 15 (.cons (.slot 5) .nil)))) (.cons (.cmpT .LtE (.slot 5) (.slot 3)) (.cons (.cmpT .GtE (.slot 5) (.blt .len (.cons (.slot 1) .nil))) .nil)))) (.cons (.ret (.bl false)) .nil) .nil) (.cons (.setS 3 (.slot 5)) (.cons (.setS 4 (.bin .BitXor (.slot 4) (.ix (.slot 1) (.slot 5)))) .nil)))) (.cons (.ret (.cmp .Eq (.slot 4) (.slot 2))) .nil))))))⟩
def f23 : List D → Out Ar := run c23 d23
def c24 : Cxt := c23.ext 23 f23
abbrev st23 : Stmt := top 27
def N23 : List Str := ["_law_told", "_law_own_rows", "_law_wanted_here", "_law_last", "_law_total", "_law_k"]
theorem sc23 : FnScope N23 ["_law_told", "_law_own_rows", "_law_wanted_here"] (defScope st23) := ⟨rfl, rfl, rfl, by decide +kernel, by decide +kernel, by decide +kernel, by decide +kernel⟩
theorem ck23 : okSs ⟨G.take 23, W, 21⟩ ⟨N23, (defScope st23).names, (defScope st23).names⟩ d23.body (defBody st23) = true := by decide +kernel
/-- _law_is_table(_law_told, _law_masks, _law_own_size): slots 0:_law_told 1:_law_masks 2:_law_own_size 3:_law_bits_here -/
def d24 : Df := ⟨4, 3, (.cons (.ife (.notT (.tru (.blt (.isi (.ty "tuple")) (.cons (.slot 0) .nil)))) (.cons (.ret (.bl false)) .nil) .nil) (.cons (.ret (.cmp .Eq (.comp (.nm 3) [3] .seq (.cons (.slot 0) .nil) (.bl true) (.call 17 (.cons (.slot 3) (.cons (.slot 2) .nil)))) (.slot 1))) .nil))⟩
def f24 : List D → Out Ar := run c24 d24
def c25 : Cxt := c24.ext 24 f24
abbrev st24 : Stmt := top 30
def N24 : List Str := ["_law_told", "_law_masks", "_law_own_size", "_law_bits_here"]
theorem sc24 : FnScope N24 ["_law_told", "_law_masks", "_law_own_size"] (defScope st24) := ⟨rfl, rfl, rfl, by decide +kernel, by decide +kernel, by decide +kernel, by decide +kernel⟩
theorem ck24 : okSs ⟨G.take 24, W, 22⟩ ⟨N24, (defScope st24).names, (defScope st24).names⟩ d24.body (defBody st24) = true := by decide +kernel
/-- added(rows, size): slots 0:rows 1:size 2:total 3:row -/
def d25 : Df := ⟨4, 2, (.cons (.setS 2 (.int 0)) (.cons (.for_ (.nm 3) .seq (.cons (.slot 0) .nil) (.cons (.setS 2 (.bin .BitXor (.slot 2) (.call 12 (.cons (.slot 3) .nil)))) .nil)) (.cons (.ret (.call 13 (.cons (.slot 2) (.cons (.slot 1) .nil)))) .nil)))⟩
def f25 : List D → Out Ar := run c25 d25
def c26 : Cxt := c25.ext 25 f25
abbrev st25 : Stmt := top 6
def N25 : List Str := ["rows", "size", "total", "row"]
theorem sc25 : FnScope N25 ["rows", "size"] (defScope st25) := ⟨rfl, rfl, rfl, by decide +kernel, by decide +kernel, by decide +kernel, by decide +kernel⟩
theorem ck25 : okSs ⟨G.take 25, W, 23⟩ ⟨N25, (defScope st25).names, (defScope st25).names⟩ d25.body (defBody st25) = true := by decide +kernel
/-- mask_rank(masks): slots 0:masks -/
def d26 : Df := ⟨1, 1, (.cons (.ret (.blt .len (.cons (.call 11 (.cons (.slot 0) .nil)) .nil))) .nil)⟩
def f26 : List D → Out Ar := run c26 d26
def c27 : Cxt := c26.ext 26 f26
abbrev st26 : Stmt := top 5
def N26 : List Str := ["masks"]
theorem sc26 : FnScope N26 ["masks"] (defScope st26) := ⟨rfl, rfl, rfl, by decide +kernel, by decide +kernel, by decide +kernel, by decide +kernel⟩
theorem ck26 : okSs ⟨G.take 26, W, 24⟩ ⟨N26, (defScope st26).names, (defScope st26).names⟩ d26.body (defBody st26) = true := by decide +kernel
/-- rank(rows): slots 0:rows 1:row -/
def d27 : Df := ⟨2, 1, (.cons (.ret (.call 26 (.cons (.comp (.nm 1) [1] .seq (.cons (.slot 0) .nil) (.bl true) (.call 12 (.cons (.slot 1) .nil))) .nil))) .nil)⟩
def f27 : List D → Out Ar := run c27 d27
def c28 : Cxt := c27.ext 27 f27
abbrev st27 : Stmt := top 7
def N27 : List Str := ["rows", "row"]
theorem sc27 : FnScope N27 ["rows"] (defScope st27) := ⟨rfl, rfl, rfl, by decide +kernel, by decide +kernel, by decide +kernel, by decide +kernel⟩
theorem ck27 : okSs ⟨G.take 27, W, 25⟩ ⟨N27, (defScope st27).names, (defScope st27).names⟩ d27.body (defBody st27) = true := by decide +kernel
/-- _law_second_holds(_law_second, _law_other, _law_own_size, _law_masks, _law_sought, _law_wanted_here): slots 0:_law_second 1:_law_other 2:_law_own_size 3:_law_masks 4:_law_sought 5:_law_wanted_here 6:_law_total 7:_law_mask -/
def d28 : Df := ⟨8, 6, (.cons (.ife (.orT (.cons (.notT (.tru (.call 16 (.cons (.call 27 (.cons (.slot 0) .nil)) (.cons (.blt .len (.cons (.slot 3) .nil)) .nil))))) (.cons (.notT (.tru (.call 24 (.cons (.call 14 (.cons (.slot 0) .nil)) (.cons (.slot 3) (.cons (.slot 2) .nil)))))) .nil))) (.cons (.ret (.bl false)) .nil) .nil) (.cons (.setS 6 (.int 0)) (.cons (.for_ (.nm 7) .seq (.cons (.slot 1) .nil) (.cons (.setS 6 (.bin .BitXor (.slot 6) (.slot 7))) .nil)) (.cons (.ife (.cmpT .NotEq (.call 17 (.cons (.call 25 (.cons (.slot 0) (.cons (.slot 2) .nil))) (.cons (.slot 2) .nil))) (.slot 6)) (.cons (.ret (.bl false)) .nil) .nil) (.cons (.ret (.orE (.cons (.cmp .Eq (.blt .len (.cons (.slot 1) .nil)) (.int 0)) (.cons (.call 23 (.cons (.call 19 (.cons (.slot 0) (.cons (.slot 4) .nil))) (.cons (.slot 1) (.cons (.slot 5) .nil)))) .nil)))) .nil)))))⟩
def f28 : List D → Out Ar := run c28 d28
def c29 : Cxt := c28.ext 28 f28
abbrev st28 : Stmt := top 31
def N28 : List Str := ["_law_second", "_law_other", "_law_own_size", "_law_masks", "_law_sought", "_law_wanted_here", "_law_total", "_law_mask"]
theorem sc28 : FnScope N28 ["_law_second", "_law_other", "_law_own_size", "_law_masks", "_law_sought", "_law_wanted_here"] (defScope st28) := ⟨rfl, rfl, rfl, by decide +kernel, by decide +kernel, by decide +kernel, by decide +kernel⟩
theorem ck28 : okSs ⟨G.take 28, W, 26⟩ ⟨N28, (defScope st28).names, (defScope st28).names⟩ d28.body (defBody st28) = true := by decide +kernel
/-- _law_columns(_law_own_rows, _law_own_size): slots 0:_law_own_rows 1:_law_own_size 2:_law_columns_here 3:_law_k 4:_law_mask 5:_law_i -/
def d29 : Df := ⟨6, 2, (.cons (.set 2 (.lst .nil)) (.cons (.for_ (.nm 3) .range1 (.cons (.slot 1) .nil) (.cons (.setS 4 (.int 0)) (.cons (.for_ (.nm 5) .range1 (.cons (.blt .len (.cons (.slot 0) .nil)) .nil) (.cons (.ife (.tru (.call 20 (.cons (.ix (.slot 0) (.slot 5)) (.cons (.slot 3) .nil)))) (.cons (.setS 4 (.bin .Add (.slot 4) (.bin .LShift (.int 1) (.slot 5)))) .nil) .nil) .nil)) (.cons (.app 2 (.slot 4)) .nil)))) (.cons (.ret (.move 2)) .nil)))⟩
def f29 : List D → Out Ar := run c29 d29
def c30 : Cxt := c29.ext 29 f29
abbrev st29 : Stmt := top 24
def N29 : List Str := ["_law_own_rows", "_law_own_size", "_law_columns_here", "_law_k", "_law_mask", "_law_i"]
theorem sc29 : FnScope N29 ["_law_own_rows", "_law_own_size"] (defScope st29) := ⟨rfl, rfl, rfl, by decide +kernel, by decide +kernel, by decide +kernel, by decide +kernel⟩
theorem ck29 : okSs ⟨G.take 29, W, 27⟩ ⟨N29, (defScope st29).names, (defScope st29).names⟩ d29.body (defBody st29) = true := by decide +kernel
/-- law(_law_script): slots 0:_law_script 1:_law_head 2:_law_measures_here 3:_law_many 4:_law_own_size 5:_law_drawn 6:_law_own_rows 7:_law_wanted_here 8:_law_mixing 9:_law_other 10:_law_table 11:_law_sought 12:_law_second 13:_law_due 14:_law_total 15:_law_mask 16:_law_found 17:_law_first_here 18:_law_masks 19:_law_again 20:_law_bits_here -/
def d30 : Df := ⟨21, 1, (.cons (.setS 1 (.call 1 (.cons (.call 4 (.cons (.slot 0) (.cons (.int 0) .nil))) (.cons (.lst (.cons (.int 4) (.cons (.int 16) (.cons (.int 16) (.cons (.int 61) (.cons (.int 41) (.cons (.int 6) (.cons (.int 6) (.cons (.int 2) (.cons (.int 6) (.cons (.int 6) .nil))))))))))) .nil)))) (.cons (.setS 2 (.call 2 (.cons (.slot 1) .nil))) (.cons (.setS 3 (.ix (.slot 2) (.int 0))) (.cons (.setS 4 (.ix (.slot 2) (.int 1))) (.cons (.setS 5 (.call 5 (.cons (.slot 0) (.cons (.int 3) (.cons (.slot 3) (.cons (.slot 4) .nil)))))) (.cons (.setS 6 (.ix (.slot 5) (.int 0))) (.cons (.setS 7 (.call 6 (.cons (.call 1 (.cons (.call 4 (.cons (.slot 0) (.cons (.int 1) .nil))) (.cons (.bin .Add (.lst (.cons (.int 4) (.cons (.int 60) .nil))) (.bin .Mult (.lst (.cons (.int 2) .nil)) (.bin .Add (.slot 4) (.slot 3)))) .nil))) (.cons (.slot 6) (.cons (.slot 4) .nil))))) (.cons (.setS 8 (.bin .Add (.bin .Add (.bin .Add (.lst (.cons (.int 61) (.cons (.int 2) (.cons (.int 4) (.cons (.int 2) .nil))))) (.bin .Mult (.lst (.cons (.int 2) .nil)) (.int 180))) (.lst (.cons (.int 18) .nil))) (.bin .Mult (.lst (.cons (.int 61) .nil)) (.int 34)))) (.cons (.setS 9 (.call 7 (.cons (.call 1 (.cons (.call 4 (.cons (.slot 0) (.cons (.int 2) .nil))) (.cons (.slot 8) .nil))) (.cons (.ix (.slot 5) (.int 1)) (.cons (.slot 6) .nil))))) (.cons (.setS 10 (.call 9 (.cons (.slot 6) (.cons (.slot 4) (.cons (.ix (.slot 1) (.int 5)) .nil))))) (.cons (.setS 11 (.ix (.call 9 (.cons (.lst (.cons (.slot 7) .nil)) (.cons (.slot 4) (.cons (.ix (.slot 1) (.int 7)) .nil)))) (.int 0))) (.cons (.setS 12 (.call 9 (.cons (.slot 9) (.cons (.slot 4) (.cons (.ix (.slot 1) (.int 8)) .nil))))) (.cons (.setS 13 (.call 10 (.cons (.slot 6) .nil))) (.cons (.setS 14 (.int 0)) (.cons (.for_ (.nm 15) .seq (.cons (.slot 6) .nil) (.cons (.setS 14 (.bin .BitXor (.slot 14) (.slot 15))) .nil)) (.cons (.ife (.notT (.tru (.call 16 (.cons (.call 27 (.cons (.slot 10) .nil)) (.cons (.slot 13) .nil))))) (.cons (.ret (.bl false)) .nil) .nil) (.cons (.ife (.cmpT .LtE (.slot 3) (.int 40)) (.cons (.ife (.notT (.tru (.call 16 (.cons (.call 27 (.cons (.call 9 (.cons (.call 29 (.cons (.slot 6) (.cons (.slot 4) .nil))) (.cons (.slot 3) (.cons (.ix (.slot 1) (.int 6)) .nil)))) .nil)) (.cons (.slot 13) .nil))))) (.cons (.ret (.bl false)) .nil) .nil) .nil) .nil) (.cons (.ife (.cmpT .NotEq (.call 17 (.cons (.call 25 (.cons (.slot 10) (.cons (.slot 4) .nil))) (.cons (.slot 4) .nil))) (.slot 14)) (.cons (.ret (.bl false)) .nil) .nil) (.cons (.setS 16 .non) (.cons (.ife (.cmpT .Gt (.slot 3) (.int 0)) (.cons (.setS 16 (.call 19 (.cons (.slot 10) (.cons (.slot 11) .nil)))) (.cons (.ife (.orT (.cons (.notT (.tru (.call 23 (.cons (.slot 16) (.cons (.slot 6) (.cons (.slot 7) .nil)))))) (.cons (.cmpT .NotEq (.slot 11) (.ix (.call 9 (.cons (.lst (.cons (.slot 7) .nil)) (.cons (.slot 4) (.cons (.ix (.slot 1) (.int 7)) .nil)))) (.int 0))) .nil))) (.cons (.ret (.bl false)) .nil) .nil) .nil)) .nil) (.cons (.setS 17 (.call 14 (.cons (.slot 10) .nil))) (.cons (.ife (.notT (.tru (.call 22 (.cons (.slot 17) (.cons (.slot 6) (.cons (.slot 4) (.cons (.slot 13) .nil))))))) (.cons (.ret (.bl false)) .nil) .nil) (.cons (.setS 18 (.comp (.nm 20) [20] .seq (.cons (.slot 17) .nil) (.bl true) (.call 17 (.cons (.slot 20) (.cons (.slot 4) .nil))))) (.cons (.ife (.notT (.tru (.call 28 (.cons (.slot 12) (.cons (.slot 9) (.cons (.slot 4) (.cons (.slot 18) (.cons (.slot 11) (.cons (.slot 7) .nil))))))))) (.cons (.ret (.bl false)) .nil) .nil) (.cons (.ife (.notT (.tru (.call 24 (.cons (.call 14 (.cons (.call 9 (.cons (.slot 18) (.cons (.slot 4) (.cons (.ix (.slot 1) (.int 9)) .nil)))) .nil)) (.cons (.slot 18) (.cons (.slot 4) .nil)))))) (.cons (.ret (.bl false)) .nil) .nil) (.cons (.ife (.cmpT .Gt (.slot 3) (.int 0)) (.cons (.setS 19 (.callK 19 [1, 0] (.cons (.slot 11) (.cons (.slot 10) .nil)))) (.cons (.ife (.orT (.cons (.notT (.tru (.call 23 (.cons (.slot 19) (.cons (.slot 6) (.cons (.slot 7) .nil)))))) (.cons (.cmpT .NotEq (.slot 19) (.slot 16)) .nil))) (.cons (.ret (.bl false)) .nil) .nil) (.cons (.ife (.cmpT .NotEq (.slot 11) (.ix (.call 9 (.cons (.lst (.cons (.slot 7) .nil)) (.cons (.slot 4) (.cons (.ix (.slot 1) (.int 7)) .nil)))) (.int 0))) (.cons (.ret (.bl false)) .nil) .nil) .nil))) .nil) (.cons (.ife (.orT (.cons (.cmpT .NotEq (.call 17 (.cons (.callK 25 [1, 0] (.cons (.slot 4) (.cons (.slot 10) .nil))) (.cons (.slot 4) .nil))) (.slot 14)) (.cons (.notT (.tru (.call 16 (.cons (.callK 27 [0] (.cons (.slot 10) .nil)) (.cons (.slot 13) .nil))))) .nil))) (.cons (.ret (.bl false)) .nil) .nil) (.cons (.ife (.notT (.tru (.call 24 (.cons (.callK 14 [0] (.cons (.slot 10) .nil)) (.cons (.slot 18) (.cons (.slot 4) .nil)))))) (.cons (.ret (.bl false)) .nil) .nil) (.cons (.ret (.andE (.cons (.cmp .Eq (.slot 10) (.call 9 (.cons (.slot 6) (.cons (.slot 4) (.cons (.ix (.slot 1) (.int 5)) .nil))))) (.cons (.cmp .Eq (.slot 12) (.call 9 (.cons (.slot 9) (.cons (.slot 4) (.cons (.ix (.slot 1) (.int 8)) .nil))))) .nil)))) .nil)))))))))))))))))))))))))))))⟩
def f30 : List D → Out Ar := run c30 d30
def c31 : Cxt := c30.ext 30 f30
abbrev st30 : Stmt := top 32
def N30 : List Str := ["_law_script", "_law_head", "_law_measures_here", "_law_many", "_law_own_size", "_law_drawn", "_law_own_rows", "_law_wanted_here", "_law_mixing", "_law_other", "_law_table", "_law_sought", "_law_second", "_law_due", "_law_total", "_law_mask", "_law_found", "_law_first_here", "_law_masks", "_law_again", "_law_bits_here"]
theorem sc30 : FnScope N30 ["_law_script"] (defScope st30) := ⟨rfl, rfl, rfl, by decide +kernel, by decide +kernel, by decide +kernel, by decide +kernel⟩
theorem ck30 : okSs ⟨G.take 30, W, 28⟩ ⟨N30, (defScope st30).names, (defScope st30).names⟩ d30.body (defBody st30) = true := by decide +kernel
section
variable {P : Program} {w : World} {K : PySem.W.Frag} {mg : Str → Option Value} {base : Heap} {p : Par}
theorem all_ok (hK : K = p.K) (hmg : ∀ (x : Str) (v : Value), PySem.W.nsIn K mainGlobals x = some (some v) → mg x = some v) (hblt : ∀ x ∈ bltNames, mg x = none)
    (F0 : FactE K "low_bit" st0) (F1 : FactE K "_law_digits" st1) (F2 : FactE K "_law_measures" st2) (F3 : FactE K "_law_row" st3) (F4 : FactE K "_law_cell" st4) (F5 : FactE K "_law_rows" st5) (F6 : FactE K "_law_wanted" st6) (F7 : FactE K "_law_mixed" st7) (F8 : FactE K "_law_bits" st8) (F9 : FactE K "_law_dressed" st9) (F10 : FactE K "_law_rank" st10) (F11 : FactE K "reduced_masks" st11) (F12 : FactE K "mask_of_bits" st12) (F13 : FactE K "bits_of_mask" st13) (F14 : FactE K "reduced" st14) (F15 : FactE K "_law_whole" st15) (F16 : FactE K "_law_is_number" st16) (F17 : FactE K "_law_mask_of" st17) (F18 : FactE K "sum_with" st18) (F19 : FactE K "combination" st19) (F20 : FactE K "_law_has" st20) (F21 : FactE K "_law_first" st21) (F22 : FactE K "_law_is_reduced" st22) (F23 : FactE K "_law_is_sum" st23) (F24 : FactE K "_law_is_table" st24) (F25 : FactE K "added" st25) (F26 : FactE K "mask_rank" st26) (F27 : FactE K "rank" st27) (F28 : FactE K "_law_second_holds" st28) (F29 : FactE K "_law_columns" st29) {fa : Addr} {fd : FuncData} (FL : Fun K "law" "law" st30 fa fd) : FnOk P w K mg base CX0 31 fa fd ["_law_script"] (spD p 1 f30) := by
  have t0 : Tb P w K mg base p G W 0 c0 := Tb.zero
  have t1 : Tb P w K mg base p G W 1 c1 := t0.add hK hmg hblt rfl F0 sc0 rfl rfl ck0 (fun _ _ _ _ _ _ us hl => match us, hl with | [_], _ => rfl) (by rw [show W.filter (fun q => q.1 == 0) = [] from by decide +kernel]; intro q hq; cases hq)
  have t2 : Tb P w K mg base p G W 2 c2 := t1.add hK hmg hblt rfl F1 sc1 rfl rfl ck1 (fun _ _ _ _ _ _ us hl => match us, hl with | [_, _], _ => rfl) (by rw [show W.filter (fun q => q.1 == 1) = [] from by decide +kernel]; intro q hq; cases hq)
  have t3 : Tb P w K mg base p G W 3 c3 := t2.add hK hmg hblt rfl F2 sc2 rfl rfl ck2 (fun _ _ _ _ _ _ us hl => match us, hl with | [_], _ => rfl) (by rw [show W.filter (fun q => q.1 == 2) = [] from by decide +kernel]; intro q hq; cases hq)
  have t4 : Tb P w K mg base p G W 4 c4 := t3.add hK hmg hblt rfl F3 sc3 rfl rfl ck3 (fun _ _ _ _ _ _ us hl => match us, hl with | [_, _, _], _ => rfl) (by rw [show W.filter (fun q => q.1 == 3) = [] from by decide +kernel]; intro q hq; cases hq)
  have t5 : Tb P w K mg base p G W 5 c5 := t4.add hK hmg hblt rfl F4 sc4 rfl rfl ck4 (fun _ _ _ _ _ _ us hl => match us, hl with | [_, _], _ => rfl) (by rw [show W.filter (fun q => q.1 == 4) = [] from by decide +kernel]; intro q hq; cases hq)
  have t6 : Tb P w K mg base p G W 6 c6 := t5.add hK hmg hblt rfl F5 sc5 rfl rfl ck5 (fun _ _ _ _ _ _ us hl => match us, hl with | [_, _, _, _], _ => rfl) (by rw [show W.filter (fun q => q.1 == 5) = [] from by decide +kernel]; intro q hq; cases hq)
  have t7 : Tb P w K mg base p G W 7 c7 := t6.add hK hmg hblt rfl F6 sc6 rfl rfl ck6 (fun _ _ _ _ _ _ us hl => match us, hl with | [_, _, _], _ => rfl) (by rw [show W.filter (fun q => q.1 == 6) = [] from by decide +kernel]; intro q hq; cases hq)
  have t8 : Tb P w K mg base p G W 8 c8 := t7.add hK hmg hblt rfl F7 sc7 rfl rfl ck7 (fun _ _ _ _ _ _ us hl => match us, hl with | [_, _, _], _ => rfl) (by rw [show W.filter (fun q => q.1 == 7) = [] from by decide +kernel]; intro q hq; cases hq)
  have t9 : Tb P w K mg base p G W 9 c9 := t8.add hK hmg hblt rfl F8 sc8 rfl rfl ck8 (fun _ _ _ _ _ _ us hl => match us, hl with | [_, _], _ => rfl) (by rw [show W.filter (fun q => q.1 == 8) = [] from by decide +kernel]; intro q hq; cases hq)
  have t10 : Tb P w K mg base p G W 10 c10 := t9.add hK hmg hblt rfl F9 sc9 rfl rfl ck9 (fun _ _ _ _ _ _ us hl => match us, hl with | [_, _, _], _ => rfl) (by rw [show W.filter (fun q => q.1 == 9) = [] from by decide +kernel]; intro q hq; cases hq)
  have t11 : Tb P w K mg base p G W 11 c11 := t10.add hK hmg hblt rfl F10 sc10 rfl rfl ck10 (fun _ _ _ _ _ _ us hl => match us, hl with | [_], _ => rfl) (by rw [show W.filter (fun q => q.1 == 10) = [] from by decide +kernel]; intro q hq; cases hq)
  have t12 : Tb P w K mg base p G W 12 c12 := t11.add hK hmg hblt rfl F11 sc11 rfl rfl ck11 (fun _ _ _ _ _ _ us hl => match us, hl with | [_], _ => rfl) (by rw [show W.filter (fun q => q.1 == 11) = [] from by decide +kernel]; intro q hq; cases hq)
  have t13 : Tb P w K mg base p G W 13 c13 := t12.add hK hmg hblt rfl F12 sc12 rfl rfl ck12 (fun _ _ _ _ _ _ us hl => match us, hl with | [_], _ => rfl) (by rw [show W.filter (fun q => q.1 == 12) = [] from by decide +kernel]; intro q hq; cases hq)
  have t14 : Tb P w K mg base p G W 14 c14 := t13.add hK hmg hblt rfl F13 sc13 rfl rfl ck13 (fun _ _ _ _ _ _ us hl => match us, hl with | [_, _], _ => rfl) (by rw [show W.filter (fun q => q.1 == 13) = [] from by decide +kernel]; intro q hq; cases hq)
  have t15 : Tb P w K mg base p G W 15 c15 := t14.add hK hmg hblt rfl F14 sc14 rfl rfl ck14 (fun _ _ _ _ _ _ us hl => match us, hl with | [_], _ => rfl) (by rw [show W.filter (fun q => q.1 == 14) = ([(14, ["rows"], [0])] : List (Nat × List Str × List Nat)) from by decide +kernel]; intro q hq; simp only [List.mem_cons, List.not_mem_nil, or_false] at hq; subst hq; exact ⟨rfl, fun _ _ _ _ _ _ ws hl => match ws, hl with | [_], _ => rfl⟩)
  have t16 : Tb P w K mg base p G W 16 c16 := t15.add hK hmg hblt rfl F15 sc15 rfl rfl ck15 (fun _ _ _ _ _ _ us hl => match us, hl with | [_], _ => rfl) (by rw [show W.filter (fun q => q.1 == 15) = [] from by decide +kernel]; intro q hq; cases hq)
  have t17 : Tb P w K mg base p G W 17 c17 := t16.add hK hmg hblt rfl F16 sc16 rfl rfl ck16 (fun _ _ _ _ _ _ us hl => match us, hl with | [_, _], _ => rfl) (by rw [show W.filter (fun q => q.1 == 16) = [] from by decide +kernel]; intro q hq; cases hq)
  have t18 : Tb P w K mg base p G W 18 c18 := t17.add hK hmg hblt rfl F17 sc17 rfl rfl ck17 (fun _ _ _ _ _ _ us hl => match us, hl with | [_, _], _ => rfl) (by rw [show W.filter (fun q => q.1 == 17) = [] from by decide +kernel]; intro q hq; cases hq)
  have t19 : Tb P w K mg base p G W 19 c19 := t18.add hK hmg hblt rfl F18 sc18 rfl rfl ck18 (fun _ _ _ _ _ _ us hl => match us, hl with | [_, _, _], _ => rfl) (by rw [show W.filter (fun q => q.1 == 18) = [] from by decide +kernel]; intro q hq; cases hq)
  have t20 : Tb P w K mg base p G W 20 c20 := t19.add hK hmg hblt rfl F19 sc19 rfl rfl ck19 (fun _ _ _ _ _ _ us hl => match us, hl with | [_, _], _ => rfl) (by rw [show W.filter (fun q => q.1 == 19) = ([(19, ["row", "rows"], [1, 0])] : List (Nat × List Str × List Nat)) from by decide +kernel]; intro q hq; simp only [List.mem_cons, List.not_mem_nil, or_false] at hq; subst hq; exact ⟨rfl, fun _ _ _ _ _ _ ws hl => match ws, hl with | [_, _], _ => rfl⟩)
  have t21 : Tb P w K mg base p G W 21 c21 := t20.add hK hmg hblt rfl F20 sc20 rfl rfl ck20 (fun _ _ _ _ _ _ us hl => match us, hl with | [_, _], _ => rfl) (by rw [show W.filter (fun q => q.1 == 20) = [] from by decide +kernel]; intro q hq; cases hq)
  have t22 : Tb P w K mg base p G W 22 c22 := t21.add hK hmg hblt rfl F21 sc21 rfl rfl ck21 (fun _ _ _ _ _ _ us hl => match us, hl with | [_], _ => rfl) (by rw [show W.filter (fun q => q.1 == 21) = [] from by decide +kernel]; intro q hq; cases hq)
  have t23 : Tb P w K mg base p G W 23 c23 := t22.add hK hmg hblt rfl F22 sc22 rfl rfl ck22 (fun _ _ _ _ _ _ us hl => match us, hl with | [_, _, _, _], _ => rfl) (by rw [show W.filter (fun q => q.1 == 22) = [] from by decide +kernel]; intro q hq; cases hq)
  have t24 : Tb P w K mg base p G W 24 c24 := t23.add hK hmg hblt rfl F23 sc23 rfl rfl ck23 (fun _ _ _ _ _ _ us hl => match us, hl with | [_, _, _], _ => rfl) (by rw [show W.filter (fun q => q.1 == 23) = [] from by decide +kernel]; intro q hq; cases hq)
  have t25 : Tb P w K mg base p G W 25 c25 := t24.add hK hmg hblt rfl F24 sc24 rfl rfl ck24 (fun _ _ _ _ _ _ us hl => match us, hl with | [_, _, _], _ => rfl) (by rw [show W.filter (fun q => q.1 == 24) = [] from by decide +kernel]; intro q hq; cases hq)
  have t26 : Tb P w K mg base p G W 26 c26 := t25.add hK hmg hblt rfl F25 sc25 rfl rfl ck25 (fun _ _ _ _ _ _ us hl => match us, hl with | [_, _], _ => rfl) (by rw [show W.filter (fun q => q.1 == 25) = ([(25, ["size", "rows"], [1, 0])] : List (Nat × List Str × List Nat)) from by decide +kernel]; intro q hq; simp only [List.mem_cons, List.not_mem_nil, or_false] at hq; subst hq; exact ⟨rfl, fun _ _ _ _ _ _ ws hl => match ws, hl with | [_, _], _ => rfl⟩)
  have t27 : Tb P w K mg base p G W 27 c27 := t26.add hK hmg hblt rfl F26 sc26 rfl rfl ck26 (fun _ _ _ _ _ _ us hl => match us, hl with | [_], _ => rfl) (by rw [show W.filter (fun q => q.1 == 26) = [] from by decide +kernel]; intro q hq; cases hq)
  have t28 : Tb P w K mg base p G W 28 c28 := t27.add hK hmg hblt rfl F27 sc27 rfl rfl ck27 (fun _ _ _ _ _ _ us hl => match us, hl with | [_], _ => rfl) (by rw [show W.filter (fun q => q.1 == 27) = ([(27, ["rows"], [0])] : List (Nat × List Str × List Nat)) from by decide +kernel]; intro q hq; simp only [List.mem_cons, List.not_mem_nil, or_false] at hq; subst hq; exact ⟨rfl, fun _ _ _ _ _ _ ws hl => match ws, hl with | [_], _ => rfl⟩)
  have t29 : Tb P w K mg base p G W 29 c29 := t28.add hK hmg hblt rfl F28 sc28 rfl rfl ck28 (fun _ _ _ _ _ _ us hl => match us, hl with | [_, _, _, _, _, _], _ => rfl) (by rw [show W.filter (fun q => q.1 == 28) = [] from by decide +kernel]; intro q hq; cases hq)
  have t30 : Tb P w K mg base p G W 30 c30 := t29.add hK hmg hblt rfl F29 sc29 rfl rfl ck29 (fun _ _ _ _ _ _ us hl => match us, hl with | [_, _], _ => rfl) (by rw [show W.filter (fun q => q.1 == 29) = [] from by decide +kernel]; intro q hq; cases hq)
  exact t30.one hK hblt FL sc30 rfl rfl ck30
end
end LW
namespace LW
open PySem PySem.Spec PyProof.Rows L2 DS Gf Bt
theorem mul_okL {i j : Int} (h : -(2 ^ 64) < i ∧ i < 2 ^ 64) : binD .Mult (.int i) (.int j) = .ok (.v (.int (i * j))) := by
  show (if CMul i j then Out.ok (Ar.v (.int (i * j))) else .bad) = _
  rw [if_pos (show CMul i j from Or.inl h)]
theorem mul_okR {i j : Int} (h : -(2 ^ 64) < j ∧ j < 2 ^ 64) : binD .Mult (.int i) (.int j) = .ok (.v (.int (i * j))) := by
  show (if CMul i j then Out.ok (Ar.v (.int (i * j))) else .bad) = _
  rw [if_pos (show CMul i j from Or.inr h)]
theorem mod_okI {i j : Int} (h : 0 < j) : binD .Mod (.int i) (.int j) = .ok (.v (.int (i % j))) := by
  show (if 0 < j then Out.ok (Ar.v (.int (i % j))) else .bad) = _
  rw [if_pos h]
theorem div_okI {i j : Int} (h : 0 < j) (k : j < 1073741824) : binD .FloorDiv (.int i) (.int j) = .ok (.v (.int (i / j))) := by
  show (if CDiv i j then Out.ok (Ar.v (.int (i / j))) else .bad) = _
  rw [if_pos ⟨h, k⟩]
theorem add_okI {i j : Int} : binD .Add (.int i) (.int j) = .ok (.v (.int (i + j))) := rfl
theorem sub_okI {i j : Int} : binD .Sub (.int i) (.int j) = .ok (.v (.int (i - j))) := rfl
theorem pow18 : binD .Pow (.int 10) (.int 18) = .ok (.v (.int (10 ^ 18))) := by
  show (if CPow 10 18 then Out.ok (Ar.v (.int (10 ^ (18 : Int).toNat))) else .bad) = _
  rw [if_pos (by decide)]
  rfl
def jD (l : List Int) : List D := l.map D.int
theorem jD_get {l : List Int} {i : Nat} {x : D} (h : (jD l)[i]? = some x) : ∃ m, l[i]? = some m ∧ x = .int m := by
  unfold jD at h
  rw [List.getElem?_map] at h
  cases e : l[i]? with
  | none => rw [e] at h; cases h
  | some m => rw [e] at h; exact ⟨m, rfl, (Option.some.inj h).symm⟩
theorem jD_at {l : List Int} {i : Nat} {m : Int} (h : l[i]? = some m) : ixD (.lst (jD l)) (.int (i : Int)) = some (.int m) := by
  refine atI_nat ?_
  unfold jD
  rw [List.getElem?_map, h]
  rfl
theorem int_blt {C : Cxt} {e : IR} {σ : En} {i : Int} (h : Vw C e σ (.int i)) : Vv C (.blt .int (.cons e .nil)) σ (.int i) := vv_blt (r := .v (.int i)) (wl_cons h wl_nil) rfl
theorem len_blt {C : Cxt} {e : IR} {σ : En} {d : D} {xs : List D} {n : Nat} (h : Vw C e σ d) (hs : seqOf d = some xs) (hn : xs.length = n) : Vv C (.blt .len (.cons e .nil)) σ (.int (n : Int)) := vv_blt (r := .v (.int (n : Int))) (wl_cons h wl_nil) (by
  show (match seqOf d with | some ys => Out.ok (Ar.v (.int (ys.length : Int))) | none => _) = _
  rw [hs, ← hn])
/-- digits of sizes -/
def Dg (ds sz : List Int) : Prop := ds.length = sz.length ∧ ∀ (k : Nat) (d s : Int), ds[k]? = some d → sz[k]? = some s → 0 ≤ d ∧ d < s
theorem snoc_dg {ds sz : List Int} {i : Nat} {d s : Int} (hl : ds.length = i) (h : ∀ (k : Nat) (d s : Int), ds[k]? = some d → sz[k]? = some s → 0 ≤ d ∧ d < s) (hs : sz[i]? = some s) (hd : 0 ≤ d ∧ d < s) :
    ∀ (k : Nat) (d' s : Int), (ds ++ [d])[k]? = some d' → sz[k]? = some s → 0 ≤ d' ∧ d' < s := by
  intro k d' s' h1 h2
  by_cases hk : k < ds.length
  · rw [List.getElem?_append_left hk] at h1
    exact h k d' s' h1 h2
  · rw [List.getElem?_append_right (by omega)] at h1
    have hk2 : k - ds.length = 0 := by
      have := (List.getElem?_eq_some_iff.mp h1).1
      simp at this
      omega
    rw [hk2] at h1
    have e1 : d = d' := by simpa using h1
    have e2 : k = i := by omega
    subst e1 e2
    rw [hs] at h2
    cases h2
    exact hd
theorem digits_ok {C : Cxt} {n : Int} {sz : List Int} (hsz : ∀ s ∈ sz, 0 < s ∧ s < 1073741824) (hl : sz.length ≤ 1000000) : Sat (DS.run C d1 [.int n, .lst (jD sz)]) fun r => ∃ ds, r = .fr (jD ds) ∧ Dg ds sz := by
  refine run_sat rfl ?_
  refine exs_next (σ1 := [.val (.int n), .val (.lst (jD sz)), .own [], .un, .un, .un, .un, .un]) rfl ?_
  refine exs_next (σ1 := [.val (.int n), .val (.lst (jD sz)), .own [], .val (.int n), .un, .un, .un, .un]) (x_setS (int_blt (vv_slot (i := 0) rfl).w)) ?_
  have szl : (jD sz).length = sz.length := by simp [jD]
  have hpow : Vw C (.bin .Pow (.int 10) (.int 18)) [.val (.int n), .val (.lst (jD sz)), .own [], .val (.int n), .un, .un, .un, .un] (.int (10 ^ 18)) := (vv_bin vv_int.w vv_int.w pow18).w
  refine exs_cons (x_ife (k := decide ((10 : Int) ^ 18 ≤ n)) (tt_cmp (vv_slot (i := 3) rfl).w hpow rfl) (fun h => ?_) fun h => ?_)
  · refine exs_next (σ1 := [.val (.int n), .val (.lst (jD sz)), .own [], .val (.int (n - 10 ^ 18)), .un, .un, .un, .un]) (x_setS (vv_bin (vv_slot (i := 3) rfl).w hpow sub_okI)) ?_
    refine exs_cons (for_sat (σ1 := [.val (.int n), .val (.lst (jD sz)), .own [], .val (.int (n - 10 ^ 18)), .un, .un, .un, .un]) (rs := [.v (.lst (jD sz))]) (xs := jD sz) rfl rfl rfl
      (fun i σ => ∃ ds rest w, ds.length = i ∧ (∀ (k : Nat) (d s : Int), ds[k]? = some d → sz[k]? = some s → 0 ≤ d ∧ d < s) ∧ σ = [.val (.int n), .val (.lst (jD sz)), .own (jD ds), .val (.int rest), .un, .un, w, .un]) ⟨[], _, .un, rfl, fun k d s h => by simp at h, rfl⟩ ?_ ?_)
    · rintro i x σ hx ⟨ds, rest, w, hi, hd, rfl⟩
      obtain ⟨s, es, rfl⟩ := jD_get hx
      obtain ⟨s0, s1⟩ := hsz s (List.mem_of_getElem? es)
      have hil : i < sz.length := (List.getElem?_eq_some_iff.mp es).1
      refine ⟨[.val (.int n), .val (.lst (jD sz)), .own (jD ds), .val (.int rest), .un, .un, .val (.int s), .un], rfl, ?_⟩
      refine exs_next (x_app (ds := jD ds) rfl (vv_bin (int_blt (vv_slot (i := 3) rfl).w).w (vv_slot (i := 6) rfl).w (mod_okI s0)) (by
        simp only [jD, List.length_map]
        exact Nat.lt_of_lt_of_le (by omega) (size_ok hl))) ?_
      show Sat (exs C _ [.val (.int n), .val (.lst (jD sz)), .own (jD ds ++ [.int (rest % s)]), .val (.int rest), .un, .un, .val (.int s), .un]) _
      refine exs_next (x_setS (vv_bin (int_blt (vv_slot (i := 3) rfl).w).w (vv_slot (i := 6) rfl).w (div_okI s0 s1))) (exs_nil ⟨ds ++ [rest % s], rest / s, .val (.int s), by simp [hi], snoc_dg hi hd es ⟨Int.emod_nonneg _ (by omega), Int.emod_lt_of_pos _ s0⟩, ?_⟩)
      unfold jD
      rw [List.map_append]
      rfl
    · rintro σ ⟨ds, rest, w, hi, hd, rfl⟩
      rw [szl] at hi
      exact exs_rt rfl ⟨rfl, ds, rfl, hi, hd⟩
  · refine exs_nil ?_
    refine exs_next (σ1 := [.val (.int n), .val (.lst (jD sz)), .own [], .val (.int n), .val (.int (n % 2147483629)), .un, .un, .un]) (x_setS (vv_bin (int_blt (vv_slot (i := 3) rfl).w).w vv_int.w (mod_okI (by decide)))) ?_
    refine exs_cons (for_sat (σ1 := [.val (.int n), .val (.lst (jD sz)), .own [], .val (.int n), .val (.int (n % 2147483629)), .un, .un, .un]) (rs := [.v (.int (sz.length : Int))]) (xs := (List.range sz.length).map fun k : Nat => D.int (k : Int)) (vl_cons (len_blt (vv_slot (i := 1) rfl).w rfl szl) vl_nil) (range1_ok hl) rfl
      (fun i σ => ∃ ds seed w w7, ds.length = i ∧ 0 ≤ seed ∧ seed < 2147483647 ∧ (∀ (k : Nat) (d s : Int), ds[k]? = some d → sz[k]? = some s → 0 ≤ d ∧ d < s) ∧ σ = [.val (.int n), .val (.lst (jD sz)), .own (jD ds), .val (.int n), .val (.int seed), w, .un, w7]) ⟨[], _, .un, .un, rfl, Int.emod_nonneg _ (by decide), Int.lt_trans (Int.emod_lt_of_pos _ (by decide)) (by decide), fun k d s h => by simp at h, rfl⟩ ?_ ?_)
    · rintro i x σ hx ⟨ds, seed, w, w7, hi, sd0, sd1, hd, rfl⟩
      obtain ⟨hil, rfl⟩ := getI hx
      obtain ⟨s, es⟩ : ∃ s, sz[i]? = some s := ⟨_, List.getElem?_eq_getElem hil⟩
      obtain ⟨s0, s1⟩ := hsz s (List.mem_of_getElem? es)
      refine ⟨[.val (.int n), .val (.lst (jD sz)), .own (jD ds), .val (.int n), .val (.int seed), .val (.int (i : Int)), .un, w7], rfl, ?_⟩
      obtain ⟨sd, hsd⟩ : ∃ sd, sd = (seed * 48271 + 974711 * (i : Int) + 12345) % 2147483647 := ⟨_, rfl⟩
      have b0 : 0 ≤ sd := by rw [hsd]; exact Int.emod_nonneg _ (by decide)
      have b1 : sd < 2147483647 := by rw [hsd]; exact Int.emod_lt_of_pos _ (by decide)
      refine exs_next (σ1 := [.val (.int n), .val (.lst (jD sz)), .own (jD ds), .val (.int n), .val (.int sd), .val (.int (i : Int)), .un, w7]) (by
        rw [hsd]
        exact x_setS (vv_bin (int_blt (vv_bin (vv_bin (vv_bin (vv_slot (i := 4) rfl).w vv_int.w (mul_okR (by decide))).w (vv_bin vv_int.w (vv_slot (i := 5) rfl).w (mul_okL (by decide))).w add_okI).w vv_int.w add_okI).w).w vv_int.w (mod_okI (by decide)))) ?_
      refine exs_next (x_setS (vv_bin (int_blt (vv_bin (vv_slot (i := 4) rfl).w (vv_bin (vv_bin (vv_slot (i := 4) rfl).w vv_int.w (div_okI (by decide) (by decide))).w vv_int.w add_okI).w (mul_okL ⟨by omega, by omega⟩)).w).w vv_int.w (mod_okI (by decide)))) ?_
      obtain ⟨tw, htw⟩ : ∃ tw, tw = sd * (sd / 65537 + 3) % 2147483629 := ⟨_, rfl⟩
      show Sat (exs C _ [.val (.int n), .val (.lst (jD sz)), .own (jD ds), .val (.int n), .val (.int sd), .val (.int (i : Int)), .un, .val (.int (sd * (sd / 65537 + 3) % 2147483629))]) _
      rw [← htw]
      refine exs_next (x_app (ds := jD ds) rfl (vv_bin (vv_bin (vv_slot (i := 7) rfl).w vv_int.w (div_okI (by decide) (by decide))).w (vv_ix (vv_slot (i := 1) rfl).w (vv_slot (i := 5) rfl).w (jD_at es)).w (mod_okI s0)) (by
        simp only [jD, List.length_map]
        exact Nat.lt_of_lt_of_le (by omega) (size_ok hl))) (exs_nil ⟨ds ++ [tw / 19 % s], sd, .val (.int (i : Int)), .val (.int tw), by simp [hi], b0, b1, snoc_dg hi hd es ⟨Int.emod_nonneg _ (by omega), Int.emod_lt_of_pos _ s0⟩, ?_⟩)
      unfold jD
      rw [List.map_append]
      rfl
    · rintro σ ⟨ds, seed, w, w7, hi, _, _, hd, rfl⟩
      rw [List.length_map, List.length_range] at hi
      exact exs_rt rfl ⟨rfl, ds, rfl, hi, hd⟩
theorem cell_ok {C : Cxt} {ns : List Int} {k : Nat} : Sat (DS.run C d4 [.rol (jD ns), .int (k : Int)]) fun r => ∃ n, r = .v (.int n) := by
  refine run_sat rfl ?_
  have nl : (jD ns).length = ns.length := by simp [jD]
  refine exs_cons (x_ife (k := decide ((k : Int) < (ns.length : Int))) (tt_cmp (vv_slot (i := 1) rfl).w (len_blt (vv_slot (i := 0) rfl).w rfl nl).w rfl) (fun h => ?_) fun h => ?_)
  · have h := of_decide_eq_true h
    obtain ⟨m, em⟩ : ∃ m, ns[k]? = some m := ⟨_, List.getElem?_eq_getElem (by omega)⟩
    have hix : ixD (.rol (jD ns)) (.int (k : Int)) = some (.int m) := atI_nat (by
      unfold jD
      rw [List.getElem?_map, em]
      rfl)
    exact exs_rt (x_retE (bin_ev (vv_ix (vv_slot (i := 0) rfl).w (vv_slot (i := 1) rfl).w hix).w (vv_bin vv_int.w (vv_bin (vv_slot (i := 1) rfl).w vv_int.w add_okI).w (mul_okL (by decide))).w add_okI) rfl) ⟨rfl, _, rfl⟩
  · refine exs_nil ?_
    refine exs_next (σ1 := [.val (.rol (jD ns)), .val (.int (k : Int)), .val (.int 2710), .un]) rfl ?_
    refine exs_cons (for_sat (σ1 := [.val (.rol (jD ns)), .val (.int (k : Int)), .val (.int 2710), .un]) (rs := [.v (.rol (jD ns))]) (xs := jD ns) rfl rfl rfl
      (fun i σ => ∃ seed w, 0 ≤ seed ∧ seed < 1000003 ∧ σ = [.val (.rol (jD ns)), .val (.int (k : Int)), .val (.int seed), w]) ⟨2710, .un, by decide, by decide, rfl⟩ ?_ ?_)
    · rintro i x σ hx ⟨seed, w, s0, s1, rfl⟩
      obtain ⟨m, em, rfl⟩ := jD_get hx
      refine ⟨_, rfl, exs_next (x_setS (vv_bin (int_blt (vv_bin (vv_bin (vv_slot (i := 2) rfl).w vv_int.w (mul_okR (by decide))).w (vv_bin (int_blt (vv_slot (i := 3) rfl).w).w vv_int.w (mod_okI (by decide))).w add_okI).w).w vv_int.w (mod_okI (by decide)))) (exs_nil ⟨_, _, Int.emod_nonneg _ (by decide), Int.emod_lt_of_pos _ (by decide), rfl⟩)⟩
    · rintro σ ⟨seed, w, s0, s1, rfl⟩
      exact exs_rt (x_retE (bin_ev (int_blt (vv_bin (vv_bin (vv_bin (vv_slot (i := 2) rfl).w vv_int.w add_okI).w (vv_bin (vv_slot (i := 1) rfl).w vv_int.w add_okI).w (mul_okL ⟨by omega, by omega⟩)).w vv_int.w (mul_okR (by decide))).w).w vv_int.w (mod_okI (by decide))) rfl) ⟨rfl, _, rfl⟩
end LW
namespace LW
open PySem PySem.Spec PyProof.Rows L2 DS Gf Bt
theorem ix_ev {C : Cxt} {σ : En} {a b : IR} {x y d : D} (ha : Vw C a σ x) (hb : Vw C b σ y) (ho : ixD x y = some d) : ev C (.ix a b) σ = .ok (.v d, σ) := by
  obtain ⟨p, hp, rfl⟩ := ha
  obtain ⟨q, hq, rfl⟩ := hb
  simp only [ev, hp, Out.bnd, hq, ho, ob]
theorem exs_via {C : Cxt} {s : SR} {ss : SRs} {σ : En} {Q : Fl × En → Prop} (P : En → Prop) (h1 : Sat (ex C s σ) fun z => z.1 = .nx ∧ P z.2) (h2 : ∀ σ1, P σ1 → Sat (exs C ss σ1) Q) : Sat (exs C (.cons s ss) σ) Q := by
  obtain ⟨⟨f, σ1⟩, e, e1, p⟩ := h1
  cases (show f = .nx from e1)
  exact exs_next e (h2 σ1 p)
theorem Dg.at {ds sz : List Int} (h : Dg ds sz) {k : Nat} {s : Int} (hs : sz[k]? = some s) : ∃ d, ds[k]? = some d ∧ 0 ≤ d ∧ d < s := by
  have hk : k < ds.length := by
    rw [h.1]
    exact (List.getElem?_eq_some_iff.mp hs).1
  exact ⟨ds[k], List.getElem?_eq_getElem hk, h.2 k _ s (List.getElem?_eq_getElem hk) hs⟩
theorem eq_test {i j : Int} : cmpD .Eq (.int i) (.int j) = some (decide (i = j)) := by
  rw [cmp_eq', eqD_int]
theorem iD_at {l : List Nat} {i m : Nat} (h : l[i]? = some m) : ixD (.lst (iD l)) (.int (i : Int)) = some (.int (m : Int)) := by
  refine atI_nat ?_
  unfold iD
  rw [List.getElem?_map, h]
  rfl
def menu : List Int := [0, 1, 2, 2, 3, 3, 3, 4, 4, 4, 5, 5, 6, 6, 7, 8]
theorem menu_at {j : Nat} (h : j < 16) : ∃ m : Nat, menu[j]? = some (m : Int) ∧ m ≤ 8 := by
  have hj : j < menu.length := h
  have h1 : ∀ x ∈ menu, 0 ≤ x ∧ x ≤ 8 := by decide
  obtain ⟨a, b⟩ := h1 menu[j] (List.getElem_mem hj)
  refine ⟨menu[j].toNat, ?_, by omega⟩
  rw [List.getElem?_eq_getElem hj]
  congr 1
  omega
theorem measures_ok {C : Cxt} {head : List Int} (h : Dg head [4, 16, 16, 61, 41, 6, 6, 2, 6, 6]) : Sat (DS.run C d2 [.lst (jD head)]) fun r => ∃ many size : Nat, r = .v (.tup [.int (many : Int), .int (size : Int)]) ∧ many ≤ 60 ∧ size ≤ 40 := by
  obtain ⟨h0, e0, a0, b0⟩ := h.at (k := 0) rfl
  obtain ⟨h1, e1, a1, b1⟩ := h.at (k := 1) rfl
  obtain ⟨h2, e2, a2, b2⟩ := h.at (k := 2) rfl
  obtain ⟨h3, e3, a3, b3⟩ := h.at (k := 3) rfl
  obtain ⟨h4, e4, a4, b4⟩ := h.at (k := 4) rfl
  refine run_sat rfl ?_
  refine exs_next (σ1 := [.val (.lst (jD head)), .val (.lst (jD menu))]) rfl ?_
  have ix : ∀ (k : Nat) (x : Int), head[k]? = some x → Vv C (.ix (.slot 0) (.int (k : Int))) [.val (.lst (jD head)), .val (.lst (jD menu))] (.int x) := fun k x e => vv_ix (vv_slot (i := 0) rfl).w vv_int.w (jD_at e)
  refine exs_cons (x_ife (k := decide (h0 = 3)) (tt_cmp (ix 0 h0 e0).w vv_int.w eq_test) (fun _ => ?_) fun _ => ?_)
  · refine exs_rt (x_retE (tup_ev (vl_cons (ix 3 h3 e3) (vl_cons (ix 4 h4 e4) vl_nil)) (show 2 ≤ sizeLine by decide)) rfl) ⟨rfl, h3.toNat, h4.toNat, ?_, by omega, by omega⟩
    rw [Int.toNat_of_nonneg a3, Int.toNat_of_nonneg a4]
  · refine exs_nil ?_
    obtain ⟨m1, f1, g1⟩ := menu_at (j := h1.toNat) (by omega)
    obtain ⟨m2, f2, g2⟩ := menu_at (j := h2.toNat) (by omega)
    have i1 := jD_at f1
    have i2 := jD_at f2
    rw [Int.toNat_of_nonneg a1] at i1
    rw [Int.toNat_of_nonneg a2] at i2
    exact exs_rt (x_retE (tup_ev (vl_cons (vv_ix (vv_slot (i := 1) rfl).w (ix 1 h1 e1).w i1) (vl_cons (vv_ix (vv_slot (i := 1) rfl).w (ix 2 h2 e2).w i2) vl_nil)) (show 2 ≤ sizeLine by decide)) rfl) ⟨rfl, m1, m2, rfl, by omega, by omega⟩
theorem xor_lt2 {a b s : Nat} (ha : a < 2 ^ s) (hb : b < 2 ^ s) : a ^^^ b < 2 ^ s := Nat.xor_lt_two_pow ha hb
/-- a row drawn -/
theorem row_ok {C : Cxt} {draw : List Int} {rows : List Nat} {size n : Nat} (hd : 2 + n ≤ draw.length) (hn1 : rows.length ≤ n) (hn2 : size ≤ n) (hr : ∀ m ∈ rows, m < 2 ^ size) (hl : n ≤ 1000000) (hpos : ∀ d, draw[1]? = some d → 0 ≤ d) :
    Sat (DS.run C d3 [.lst (jD draw), .lst (iD rows), .int (size : Int)]) fun r => ∃ m : Nat, r = .v (.int (m : Int)) ∧ m < 2 ^ size := by
  have rl : (iD rows).length = rows.length := by simp [iD]
  obtain ⟨h0, e0⟩ : ∃ x, draw[0]? = some x := ⟨_, List.getElem?_eq_getElem (by omega)⟩
  obtain ⟨h1, e1⟩ : ∃ x, draw[1]? = some x := ⟨_, List.getElem?_eq_getElem (by omega)⟩
  have p1 := hpos h1 e1
  refine run_sat rfl ?_
  have ix : ∀ (k : Nat) (x : Int) (a b : Sl), draw[k]? = some x → Vv C (.ix (.slot 0) (.int (k : Int))) [.val (.lst (jD draw)), .val (.lst (iD rows)), .val (.int (size : Int)), a, b] (.int x) := fun k x a b e => vv_ix (vv_slot (i := 0) rfl).w vv_int.w (jD_at e)
  have ln : ∀ (a b : Sl), Vv C (.blt .len (.cons (.slot 1) .nil)) [.val (.lst (jD draw)), .val (.lst (iD rows)), .val (.int (size : Int)), a, b] (.int (rows.length : Int)) := fun a b => len_blt (vv_slot (i := 1) rfl).w rfl rl
  refine exs_cons (x_ife (k := decide (h0 = 5) && decide ((0 : Int) < (rows.length : Int))) (tt_and (tt_cmp (ix 0 h0 .un .un e0).w vv_int.w eq_test) fun _ => tt_and1 (tt_cmp (ln .un .un).w vv_int.w rfl)) (fun h => ?_) fun _ => ?_)
  · rw [Bool.and_eq_true] at h
    have hp := of_decide_eq_true h.2
    obtain ⟨j, hj⟩ : ∃ j : Nat, j = (h1 % (rows.length : Int)).toNat := ⟨_, rfl⟩
    have hj0 : 0 ≤ h1 % (rows.length : Int) := Int.emod_nonneg _ (by omega)
    have hjl : h1 % (rows.length : Int) < (rows.length : Int) := Int.emod_lt_of_pos _ hp
    obtain ⟨m, em⟩ : ∃ m, rows[j]? = some m := ⟨_, List.getElem?_eq_getElem (by omega)⟩
    have hix := iD_at em
    rw [hj, Int.toNat_of_nonneg hj0] at hix
    exact exs_rt (x_retE (ix_ev (vv_slot (i := 1) rfl).w (vv_bin (int_blt (ix 1 h1 .un .un e1).w).w (ln .un .un).w (mod_okI hp)).w hix) rfl) ⟨rfl, m, rfl, hr m (List.mem_of_getElem? em)⟩
  · refine exs_nil ?_
    refine exs_next (σ1 := [.val (.lst (jD draw)), .val (.lst (iD rows)), .val (.int (size : Int)), .val (.int ((0 : Nat) : Int)), .un]) rfl ?_
    refine exs_via (fun σ1 => ∃ (m : Nat) (w : Sl), σ1 = [.val (.lst (jD draw)), .val (.lst (iD rows)), .val (.int (size : Int)), .val (.int (m : Int)), w] ∧ m < 2 ^ size ∧ (h0 < 5 → m = 0)) (x_ife (k := decide (h0 = 6)) (tt_cmp (ix 0 h0 _ _ e0).w vv_int.w eq_test) (fun h => ?_) fun _ => exs_nil ⟨rfl, 0, .un, rfl, Nat.two_pow_pos _, fun _ => rfl⟩) ?_
    · have h6 := of_decide_eq_true h
      refine exs_cons (for_sat (σ1 := [.val (.lst (jD draw)), .val (.lst (iD rows)), .val (.int (size : Int)), .val (.int ((0 : Nat) : Int)), .un]) (rs := [.v (.int (rows.length : Int))]) (xs := (List.range rows.length).map fun k : Nat => D.int (k : Int)) (vl_cons (ln _ _) vl_nil) (range1_ok (by omega)) rfl
        (fun i σ => ∃ (m : Nat) (w : Sl), σ = [.val (.lst (jD draw)), .val (.lst (iD rows)), .val (.int (size : Int)), .val (.int (m : Int)), w] ∧ m < 2 ^ size) ⟨0, .un, rfl, Nat.two_pow_pos _⟩ ?_ ?_)
      · rintro i x σ hx ⟨m, w, rfl, hm⟩
        obtain ⟨hil, rfl⟩ := getI hx
        obtain ⟨dk, ek⟩ : ∃ x, draw[2 + i]? = some x := ⟨_, List.getElem?_eq_getElem (by omega)⟩
        obtain ⟨o, eo⟩ : ∃ x, rows[i]? = some x := ⟨_, List.getElem?_eq_getElem hil⟩
        refine ⟨[.val (.lst (jD draw)), .val (.lst (iD rows)), .val (.int (size : Int)), .val (.int (m : Int)), .val (.int (i : Int))], rfl, exs_cons (x_ife (k := decide (dk = 1)) (tt_cmp (vv_ix (vv_slot (i := 0) rfl).w (vv_bin vv_int.w (vv_slot (i := 4) rfl).w (add_ok (i := 2) (j := i))).w (jD_at ek)).w vv_int.w eq_test) (fun _ => ?_) fun _ => ?_)⟩
        · exact exs_next (x_setS (vv_bin (vv_slot (i := 3) rfl).w (vv_ix (vv_slot (i := 1) rfl).w (vv_slot (i := 4) rfl).w (iD_at eo)).w xor_ok)) (exs_nil (exs_nil ⟨_, _, rfl, xor_lt2 hm (hr o (List.mem_of_getElem? eo))⟩))
        · exact exs_nil (exs_nil ⟨_, _, rfl, hm⟩)
      · rintro σ ⟨m, w, rfl, hm⟩
        exact exs_nil ⟨rfl, m, w, rfl, hm, fun q => by omega⟩
    · rintro σ1 ⟨m, w, rfl, hm, hz⟩
      refine exs_via (fun σ1 => ∃ (m : Nat) (w : Sl), σ1 = [.val (.lst (jD draw)), .val (.lst (iD rows)), .val (.int (size : Int)), .val (.int (m : Int)), w] ∧ m < 2 ^ size) (x_ife (k := decide (h0 < 5)) (tt_cmp (ix 0 h0 _ _ e0).w vv_int.w rfl) (fun h => ?_) fun _ => exs_nil ⟨rfl, m, w, rfl, hm⟩) ?_
      · have h5 := of_decide_eq_true h
        have m0 := hz h5
        subst m0
        refine exs_cons (for_sat (σ1 := [.val (.lst (jD draw)), .val (.lst (iD rows)), .val (.int (size : Int)), .val (.int ((0 : Nat) : Int)), w]) (rs := [.v (.int (size : Int))]) (xs := (List.range size).map fun k : Nat => D.int (k : Int)) rfl (range1_ok (by omega)) rfl
          (fun i σ => ∃ (m : Nat) (w : Sl), σ = [.val (.lst (jD draw)), .val (.lst (iD rows)), .val (.int (size : Int)), .val (.int (m : Int)), w] ∧ m < 2 ^ i) ⟨0, w, rfl, by decide⟩ ?_ ?_)
        · rintro i x σ hx ⟨m, w, rfl, hm⟩
          obtain ⟨hil, rfl⟩ := getI hx
          obtain ⟨dk, ek⟩ : ∃ x, draw[2 + i]? = some x := ⟨_, List.getElem?_eq_getElem (by omega)⟩
          have hp2 : 2 ^ (i + 1) = 2 ^ i + 2 ^ i := by rw [Nat.pow_succ]; omega
          refine ⟨[.val (.lst (jD draw)), .val (.lst (iD rows)), .val (.int (size : Int)), .val (.int (m : Int)), .val (.int (i : Int))], rfl, exs_cons (x_ife (k := decide (dk = 1)) (tt_cmp (vv_ix (vv_slot (i := 0) rfl).w (vv_bin vv_int.w (vv_slot (i := 4) rfl).w (add_ok (i := 2) (j := i))).w (jD_at ek)).w vv_int.w eq_test) (fun _ => ?_) fun _ => ?_)⟩
          · exact exs_next (x_setS (vv_bin (vv_slot (i := 3) rfl).w (vv_bin vv_int.w (vv_slot (i := 4) rfl).w (shl_ok (i := 1) (j := i) (by omega) (by decide))).w add_ok)) (exs_nil (exs_nil ⟨_, _, rfl, by omega⟩))
          · exact exs_nil (exs_nil ⟨_, _, rfl, by omega⟩)
        · rintro σ ⟨m, w, rfl, hm⟩
          rw [List.length_map, List.length_range] at hm
          exact exs_nil ⟨rfl, m, w, rfl, hm⟩
      · rintro σ1 ⟨m, w, rfl, hm⟩
        exact exs_rt rfl ⟨rfl, m, rfl, hm⟩
end LW
namespace LW
open PySem PySem.Spec PyProof.Rows L2 DS Gf Bt
theorem cat_ok {a b : List Int} (h : a.length + b.length ≤ 1000000) : binD .Add (.lst (jD a)) (.lst (jD b)) = .ok (.fr (jD (a ++ b))) := by
  show (if (jD a).length + (jD b).length ≤ sizeLine then Out.ok (Ar.fr (jD a ++ jD b)) else .bad) = _
  rw [if_pos (by simp only [jD, List.length_map]; exact size_ok h)]
  unfold jD
  rw [List.map_append]
theorem rep_flat {α : Type} (x : α) : ∀ n : Nat, (List.replicate n [x]).flatten = List.replicate n x
  | 0 => rfl
  | n + 1 => by rw [List.replicate_succ, List.replicate_succ, List.flatten_cons, rep_flat x n]; rfl
theorem rep_ok {n : Nat} {x : Int} (h : n ≤ 1000000) : binD .Mult (.lst [.int x]) (.int (n : Int)) = .ok (.fr (jD (List.replicate n x))) := by
  simp only [binD]
  rw [if_pos ⟨by omega, by omega, by
    rw [Int.toNat_natCast]
    have := size_ok h
    simpa using this⟩, Int.toNat_natCast, rep_flat]
  unfold jD
  rw [List.map_replicate]
def szR (size many : Nat) : List Int := ([8, 60] ++ List.replicate (size + many) 2) ++ List.replicate many 2
theorem szR_len (size many : Nat) : (szR size many).length = 2 + (size + many) + many := by simp [szR]; omega
theorem szR_pos (size many : Nat) : ∀ s ∈ szR size many, 0 < s ∧ s < 1073741824 := by
  intro s hs
  unfold szR at hs
  rcases List.mem_append.mp hs with hs | hs
  · rcases List.mem_append.mp hs with hs | hs
    · simp at hs
      omega
    · rw [List.eq_of_mem_replicate hs]
      decide
  · rw [List.eq_of_mem_replicate hs]
    decide
theorem Dg.nn {ds sz : List Int} (h : Dg ds sz) {k : Nat} {d : Int} (hd : ds[k]? = some d) : 0 ≤ d := by
  have hk : k < sz.length := by
    rw [← h.1]
    exact (List.getElem?_eq_some_iff.mp hd).1
  exact (h.2 k d _ hd (List.getElem?_eq_getElem hk)).1
theorem append_at {α : Type} {l : List α} {a x : α} {k : Nat} (h : (l ++ [a])[k]? = some x) : (k < l.length ∧ l[k]? = some x) ∨ (k = l.length ∧ x = a) := by
  by_cases hk : k < l.length
  · rw [List.getElem?_append_left hk] at h
    exact .inl ⟨hk, h⟩
  · rw [List.getElem?_append_right (by omega)] at h
    have h1 := (List.getElem?_eq_some_iff.mp h).1
    simp at h1
    have e : k = l.length := by omega
    subst e
    simp at h
    exact .inr ⟨rfl, h.symm⟩
/-- what _law_rows draws -/
structure Drawn (size many : Nat) (own made : List Nat) : Prop where
  l1 : own.length = many
  l2 : made.length = many
  b1 : ∀ m ∈ own, m < 2 ^ size
  b2 : ∀ m ∈ made, m < 2 ^ size
  sp : ∀ (k a b : Nat), own[k]? = some a → made[k]? = some b → Sp (own.take k) (a ^^^ b)
theorem rows_ok {ns : List Int} {many size : Nat} (hm : many ≤ 60) (hs : size ≤ 40) : Sat (DS.run c5 d5 [.rol (jD ns), .int ((3 : Nat) : Int), .int (many : Int), .int (size : Int)]) fun r => ∃ own made, r = .v (.tup [.lst (iD own), .lst (iD made)]) ∧ Drawn size many own made := by
  refine run_sat rfl ?_
  refine exs_next (σ1 := [.val (.rol (jD ns)), .val (.int ((3 : Nat) : Int)), .val (.int (many : Int)), .val (.int (size : Int)), .own [], .un, .un, .un, .un, .un, .un]) rfl ?_
  refine exs_next (σ1 := [.val (.rol (jD ns)), .val (.int ((3 : Nat) : Int)), .val (.int (many : Int)), .val (.int (size : Int)), .own [], .own [], .un, .un, .un, .un, .un]) rfl ?_
  refine exs_cons (for_sat (σ1 := [.val (.rol (jD ns)), .val (.int ((3 : Nat) : Int)), .val (.int (many : Int)), .val (.int (size : Int)), .own [], .own [], .un, .un, .un, .un, .un]) (rs := [.v (.int (many : Int))]) (xs := (List.range many).map fun k : Nat => D.int (k : Int)) rfl (range1_ok (by omega)) rfl
    (fun i σ => i ≤ many ∧ ∃ own made a b c d e, Drawn size i own made ∧ σ = [.val (.rol (jD ns)), .val (.int ((3 : Nat) : Int)), .val (.int (many : Int)), .val (.int (size : Int)), .own (iD own), .own (iD made), a, b, c, d, e])
    ⟨Nat.zero_le _, [], [], .un, .un, .un, .un, .un, ⟨rfl, rfl, fun m h => (by cases h), fun m h => (by cases h), fun k a b h => by simp at h⟩, rfl⟩ ?_ ?_)
  · rintro i x σ hx ⟨_, own, made, a, b, c, d, e, hD, rfl⟩
    obtain ⟨hil, rfl⟩ := getI hx
    have ol : (iD own).length = own.length := by simp [iD]
    refine ⟨[.val (.rol (jD ns)), .val (.int ((3 : Nat) : Int)), .val (.int (many : Int)), .val (.int (size : Int)), .own (iD own), .own (iD made), .val (.int (i : Int)), b, c, d, e], rfl, ?_⟩
    obtain ⟨_, ec, n, rfl⟩ := cell_ok (C := c4) (ns := ns) (k := 3 + i)
    obtain ⟨_, ed, draw, rfl, hdg⟩ := digits_ok (C := c1) (n := n) (szR_pos size many) (by rw [szR_len]; omega)
    have dl : draw.length = 2 + (size + many) + many := by rw [hdg.1, szR_len]
    have ec : c5.fn 4 [.rol (jD ns), .int ((3 + i : Nat) : Int)] = .ok (.v (.int n)) := ec
    have ed : c5.fn 1 [.int n, .lst (jD (szR size many))] = .ok (.fr (jD draw)) := ed
    have v1 : Vv c5 (.call 4 (.cons (.slot 0) (.cons (.bin .Add (.slot 1) (.slot 6)) .nil))) [.val (.rol (jD ns)), .val (.int ((3 : Nat) : Int)), .val (.int (many : Int)), .val (.int (size : Int)), .own (iD own), .own (iD made), .val (.int (i : Int)), b, c, d, e] (.int n) := vv_call (vl_cons (vv_slot (i := 0) rfl) (vl_cons (vv_bin (vv_slot (i := 1) rfl).w (vv_slot (i := 6) rfl).w add_ok) vl_nil)) ec
    have w1 : Vv c5 (.lst (.cons (.int 8) (.cons (.int 60) .nil))) [.val (.rol (jD ns)), .val (.int ((3 : Nat) : Int)), .val (.int (many : Int)), .val (.int (size : Int)), .own (iD own), .own (iD made), .val (.int (i : Int)), b, c, d, e] (.lst (jD [8, 60])) := vv_lst (ds := jD [8, 60]) (vl_cons vv_int (vl_cons vv_int vl_nil)) (show 2 ≤ sizeLine by decide)
    have w2 : Vv c5 (.lst (.cons (.int 2) .nil)) [.val (.rol (jD ns)), .val (.int ((3 : Nat) : Int)), .val (.int (many : Int)), .val (.int (size : Int)), .own (iD own), .own (iD made), .val (.int (i : Int)), b, c, d, e] (.lst [.int 2]) := vv_lst (ds := [.int 2]) (vl_cons vv_int vl_nil) (show 1 ≤ sizeLine by decide)
    have w3 : Vv c5 (.bin .Add (.slot 3) (.slot 2)) [.val (.rol (jD ns)), .val (.int ((3 : Nat) : Int)), .val (.int (many : Int)), .val (.int (size : Int)), .own (iD own), .own (iD made), .val (.int (i : Int)), b, c, d, e] (.int ((size + many : Nat) : Int)) := vv_bin (vv_slot (i := 3) rfl).w (vv_slot (i := 2) rfl).w add_ok
    have w4 : Vv c5 (.bin .Mult (.lst (.cons (.int 2) .nil)) (.bin .Add (.slot 3) (.slot 2))) [.val (.rol (jD ns)), .val (.int ((3 : Nat) : Int)), .val (.int (many : Int)), .val (.int (size : Int)), .own (iD own), .own (iD made), .val (.int (i : Int)), b, c, d, e] (.lst (jD (List.replicate (size + many) 2))) := vv_bin (r := .fr (jD (List.replicate (size + many) 2))) w2.w w3.w (rep_ok (by omega))
    have w5 : Vv c5 (.bin .Mult (.lst (.cons (.int 2) .nil)) (.slot 2)) [.val (.rol (jD ns)), .val (.int ((3 : Nat) : Int)), .val (.int (many : Int)), .val (.int (size : Int)), .own (iD own), .own (iD made), .val (.int (i : Int)), b, c, d, e] (.lst (jD (List.replicate many 2))) := vv_bin (r := .fr (jD (List.replicate many 2))) w2.w (vv_slot (i := 2) rfl).w (rep_ok (by omega))
    have w6 : Vv c5 (.bin .Add (.lst (.cons (.int 8) (.cons (.int 60) .nil))) (.bin .Mult (.lst (.cons (.int 2) .nil)) (.bin .Add (.slot 3) (.slot 2)))) [.val (.rol (jD ns)), .val (.int ((3 : Nat) : Int)), .val (.int (many : Int)), .val (.int (size : Int)), .own (iD own), .own (iD made), .val (.int (i : Int)), b, c, d, e] (.lst (jD ([8, 60] ++ List.replicate (size + many) 2))) := vv_bin (r := .fr (jD ([8, 60] ++ List.replicate (size + many) 2))) w1.w w4.w (cat_ok (by simp; omega))
    have v2 : Vv c5 (.bin .Add (.bin .Add (.lst (.cons (.int 8) (.cons (.int 60) .nil))) (.bin .Mult (.lst (.cons (.int 2) .nil)) (.bin .Add (.slot 3) (.slot 2)))) (.bin .Mult (.lst (.cons (.int 2) .nil)) (.slot 2))) [.val (.rol (jD ns)), .val (.int ((3 : Nat) : Int)), .val (.int (many : Int)), .val (.int (size : Int)), .own (iD own), .own (iD made), .val (.int (i : Int)), b, c, d, e] (.lst (jD (szR size many))) := vv_bin (r := .fr (jD (szR size many))) w6.w w5.w (cat_ok (by simp; omega))
    refine exs_next (σ1 := [.val (.rol (jD ns)), .val (.int ((3 : Nat) : Int)), .val (.int (many : Int)), .val (.int (size : Int)), .own (iD own), .own (iD made), .val (.int (i : Int)), .val (.lst (jD draw)), c, d, e]) (x_setS (vv_call (f := 1) (vl_cons v1 (vl_cons v2 vl_nil)) ed)) ?_
    obtain ⟨_, er, m, rfl, hmb⟩ := row_ok (C := c3) (draw := draw) (rows := own) (size := size) (n := size + many) (by omega) (by rw [hD.l1]; omega) (by omega) hD.b1 (by omega) (fun d hd => hdg.nn hd)
    have er : c5.fn 3 [.lst (jD draw), .lst (iD own), .int (size : Int)] = .ok (.v (.int (m : Int))) := er
    refine exs_next (σ1 := [.val (.rol (jD ns)), .val (.int ((3 : Nat) : Int)), .val (.int (many : Int)), .val (.int (size : Int)), .own (iD own), .own (iD made), .val (.int (i : Int)), .val (.lst (jD draw)), .val (.int (m : Int)), d, e]) (x_setS (vv_callW (f := 3) (wl_cons (vv_slot (i := 7) rfl).w (wl_cons (vw_own rfl) (wl_cons (vv_slot (i := 3) rfl).w wl_nil))) er rfl)) ?_
    refine exs_next (σ1 := [.val (.rol (jD ns)), .val (.int ((3 : Nat) : Int)), .val (.int (many : Int)), .val (.int (size : Int)), .own (iD own), .own (iD made), .val (.int (i : Int)), .val (.lst (jD draw)), .val (.int (m : Int)), .val (.int (m : Int)), e]) (x_setS (vv_slot (i := 8) rfl)) ?_
    refine exs_via (fun σ => ∃ (o : Nat) (w : Sl), o < 2 ^ size ∧ Sp own (m ^^^ o) ∧ σ = [.val (.rol (jD ns)), .val (.int ((3 : Nat) : Int)), .val (.int (many : Int)), .val (.int (size : Int)), .own (iD own), .own (iD made), .val (.int (i : Int)), .val (.lst (jD draw)), .val (.int (m : Int)), .val (.int (o : Int)), w])
      (for_sat (σ1 := [.val (.rol (jD ns)), .val (.int ((3 : Nat) : Int)), .val (.int (many : Int)), .val (.int (size : Int)), .own (iD own), .own (iD made), .val (.int (i : Int)), .val (.lst (jD draw)), .val (.int (m : Int)), .val (.int (m : Int)), e]) (rs := [.v (.int (i : Int))]) (xs := (List.range i).map fun k : Nat => D.int (k : Int)) rfl (range1_ok (by omega)) rfl
        (fun _ σ => ∃ (o : Nat) (w : Sl), o < 2 ^ size ∧ Sp own (m ^^^ o) ∧ σ = [.val (.rol (jD ns)), .val (.int ((3 : Nat) : Int)), .val (.int (many : Int)), .val (.int (size : Int)), .own (iD own), .own (iD made), .val (.int (i : Int)), .val (.lst (jD draw)), .val (.int (m : Int)), .val (.int (o : Int)), w])
        ⟨m, e, hmb, by rw [Nat.xor_self]; exact Sp.zero _, rfl⟩ ?_ fun σ h => ⟨rfl, h⟩) ?_
    · rintro k y σ hy ⟨o, w, ob, osp, rfl⟩
      obtain ⟨hkl, rfl⟩ := getI hy
      obtain ⟨dk, ek⟩ : ∃ x, draw[2 + size + many + k]? = some x := ⟨_, List.getElem?_eq_getElem (by omega)⟩
      obtain ⟨q, eq⟩ : ∃ x, own[k]? = some x := ⟨_, List.getElem?_eq_getElem (by rw [hD.l1]; exact hkl)⟩
      have hq := List.mem_of_getElem? eq
      refine ⟨[.val (.rol (jD ns)), .val (.int ((3 : Nat) : Int)), .val (.int (many : Int)), .val (.int (size : Int)), .own (iD own), .own (iD made), .val (.int (i : Int)), .val (.lst (jD draw)), .val (.int (m : Int)), .val (.int (o : Int)), .val (.int (k : Int))], rfl, exs_cons (x_ife (k := decide (dk = 1)) (tt_cmp (vv_ix (vv_slot (i := 7) rfl).w (vv_bin (vv_bin (vv_bin vv_int.w (vv_slot (i := 3) rfl).w (add_ok (i := 2) (j := size))).w (vv_slot (i := 2) rfl).w (add_ok (i := 2 + size) (j := many))).w (vv_slot (i := 10) rfl).w (add_ok (i := 2 + size + many) (j := k))).w (jD_at ek)).w vv_int.w eq_test) (fun _ => ?_) fun _ => ?_)⟩
      · refine exs_next (x_setS (vv_bin (vv_slot (i := 9) rfl).w (vv_ix (vw_own (i := 4) rfl) (vv_slot (i := 10) rfl).w (iD_at eq)).w xor_ok)) (exs_nil (exs_nil ⟨o ^^^ q, .val (.int (k : Int)), xor_lt2 ob (hD.b1 q hq), ?_, rfl⟩))
        rw [← x1]
        exact osp.xor (Sp.mem hq)
      · exact exs_nil (exs_nil ⟨o, .val (.int (k : Int)), ob, osp, rfl⟩)
    · rintro σ1 ⟨o, w, ob, osp, rfl⟩
      have hml : made.length = i := hD.l2
      have hol : own.length = i := hD.l1
      refine exs_next (x_app (ds := iD own) rfl (vv_slot (i := 8) rfl) (by rw [ol, hol]; exact Nat.lt_of_le_of_lt (show i ≤ 60 by omega) (by decide))) ?_
      show Sat (exs c5 _ [.val (.rol (jD ns)), .val (.int ((3 : Nat) : Int)), .val (.int (many : Int)), .val (.int (size : Int)), .own (iD own ++ [.int (m : Int)]), .own (iD made), .val (.int (i : Int)), .val (.lst (jD draw)), .val (.int (m : Int)), .val (.int (o : Int)), w]) _
      refine exs_next (x_app (i := 5) (ds := iD made) rfl (vv_slot (i := 9) rfl) (by simp only [iD, List.length_map, hml]; exact Nat.lt_of_le_of_lt (show i ≤ 60 by omega) (by decide))) (exs_nil ⟨by omega, own ++ [m], made ++ [o], .val (.int (i : Int)), .val (.lst (jD draw)), .val (.int (m : Int)), .val (.int (o : Int)), w, ⟨by simp [hol], by simp [hml], fun z hz => ?_, fun z hz => ?_, fun k p q hp hq => ?_⟩, ?_⟩)
      · rcases List.mem_append.mp hz with k | k
        · exact hD.b1 z k
        · rw [List.mem_singleton.mp k]
          exact hmb
      · rcases List.mem_append.mp hz with k | k
        · exact hD.b2 z k
        · rw [List.mem_singleton.mp k]
          exact ob
      · rcases append_at hp with ⟨k1, k2⟩ | ⟨k1, k2⟩
        · rcases append_at hq with ⟨k3, k4⟩ | ⟨k3, k4⟩
          · rw [List.take_append_of_le_length (by omega)]
            exact hD.sp k p q k2 k4
          · omega
        · rcases append_at hq with ⟨k3, k4⟩ | ⟨k3, k4⟩
          · omega
          · subst k2 k4
            rw [k1, List.take_append_of_le_length (by omega), List.take_length]
            exact osp
      · unfold iD
        rw [List.map_append, List.map_append]
        rfl
  · rintro σ ⟨_, own, made, a, b, c, d, e, hD, rfl⟩
    rw [List.length_map, List.length_range] at hD
    exact exs_rt (σ1 := [.val (.rol (jD ns)), .val (.int ((3 : Nat) : Int)), .val (.int (many : Int)), .val (.int (size : Int)), .val (.lst (iD own)), .val (.lst (iD made)), a, b, c, d, e]) (r := .v (.tup [.lst (iD own), .lst (iD made)])) rfl ⟨rfl, own, made, rfl, hD⟩
end LW
namespace LW
open PySem PySem.Spec PyProof.Rows L2 DS Gf Bt
theorem has_ok {C : Cxt} {m k : Nat} : DS.run C d20 [.int (m : Int), .int (k : Int)] = .ok (.v (.bl (m.testBit k))) :=
  run_ret (σ := [.val (.int (m : Int)), .val (.int (k : Int))]) rfl rfl (cmp_ev (vv_bin (vv_bin (vv_slot (i := 0) rfl).w (vv_slot (i := 1) rfl).w shr_ok).w vv_int.w bit_ok).w vv_int.w (by
    rw [cmp_eq']
    simp only [Ar.view]
    rw [eqD_int]
    cases m.testBit k <;> rfl)) rfl
theorem whole_ok {C : Cxt} {n : Int} : DS.run C d15 [.int n] = .ok (.v (.bl true)) := rfl
theorem number_ok {C : Cxt} {a b : Int} (h15 : ∀ n, C.fn 15 [.int n] = .ok (.v (.bl true))) : DS.run C d16 [.int a, .int b] = .ok (.v (.bl (decide (a = b)))) := by
  have h1 : Vv C (.call 15 (.cons (.slot 0) .nil)) [.val (.int a), .val (.int b)] (.bl true) := vv_call (vl_cons (vv_slot (i := 0) rfl) vl_nil) (h15 a)
  have h2 : Vv C (.cmp .Eq (.slot 0) (.slot 1)) [.val (.int a), .val (.int b)] (.bl (decide (a = b))) := vv_cmp (vv_slot (i := 0) rfl).w (vv_slot (i := 1) rfl).w eq_test
  have h3 : sq (ev C (.andE (.cons (.call 15 (.cons (.slot 0) .nil)) (.cons (.cmp .Eq (.slot 0) (.slot 1)) .nil))) [.val (.int a), .val (.int b)]) = .ok (.v (.bl (decide (a = b))), [.val (.int a), .val (.int b)]) := vv_and h1 (fun _ => vv_and1 h2) fun h => by cases h
  have h4 : ev C (.andE (.cons (.call 15 (.cons (.slot 0) .nil)) (.cons (.cmp .Eq (.slot 0) (.slot 1)) .nil))) [.val (.int a), .val (.int b)] = .ok (.v (.bl (decide (a = b))), [.val (.int a), .val (.int b)]) := by
    unfold Vv at h1
    simp only [ev]
    rw [evAnd]
    rw [h1]
    simp only [Out.bnd, Ar.view, if_true]
    rw [evAnd]
    exact h2
  exact run_ret rfl rfl h4 rfl
/-- a table as the law passes it -/
theorem dressed_ok {C : Cxt} {rows : List Nat} {size : Nat} {dress : Int} (h8 : ∀ m s : Nat, s ≤ 1000000 → C.fn 8 [.int (m : Int), .int (s : Int)] = .ok (.fr (bitsD m s))) (hr : ∀ m ∈ rows, m < 2 ^ size) (hs : size ≤ 1000000) (hl : rows.length ≤ 1000000) :
    Sat (DS.run C d9 [.lst (iD rows), .int (size : Int), .int dress]) fun r => r.isB = false ∧ TabD size rows r.view := by
  have rl : (iD rows).length = rows.length := by simp [iD]
  refine run_sat rfl ?_
  refine exs_next (σ1 := [.val (.lst (iD rows)), .val (.int (size : Int)), .val (.int dress), .own [], .un]) rfl ?_
  refine exs_cons (for_sat (σ1 := [.val (.lst (iD rows)), .val (.int (size : Int)), .val (.int dress), .own [], .un]) (rs := [.v (.lst (iD rows))]) (xs := iD rows) rfl rfl rfl
    (fun i σ => ∃ ts w, All2 (RowD size) (rows.take i) ts ∧ σ = [.val (.lst (iD rows)), .val (.int (size : Int)), .val (.int dress), .own ts, w]) ⟨[], .un, .nil, rfl⟩ ?_ ?_)
  · rintro i x σ hx ⟨ts, w, ha, rfl⟩
    obtain ⟨m, em, rfl⟩ := iD_get hx
    have hil : i < rows.length := (List.getElem?_eq_some_iff.mp em).1
    have hmb := hr m (List.mem_of_getElem? em)
    have tl : ts.length ≤ 1000000 := by
      rw [← ha.length, List.length_take]
      omega
    have tl2 : ts.length < sizeLine := Nat.lt_of_lt_of_le (show ts.length < rows.length by rw [← ha.length, List.length_take]; omega) (size_ok hl)
    have hsn : ∀ t, RowD size m t → All2 (RowD size) (rows.take (i + 1)) (ts ++ [t]) := fun t ht => by
      rw [take_snoc em]
      have : ∀ (l : List Nat) (us : List D), All2 (RowD size) l us → All2 (RowD size) (l ++ [m]) (us ++ [t]) := fun l us h => by
        induction h with
        | nil => exact .cons ht .nil
        | cons a b ih => exact .cons a ih
      exact this _ _ ha
    have hc : Vv C (.call 8 (.cons (.slot 4) (.cons (.slot 1) .nil))) [.val (.lst (iD rows)), .val (.int (size : Int)), .val (.int dress), .own ts, .val (.int (m : Int))] (.lst (bitsD m size)) := vv_call (r := .fr (bitsD m size)) (vl_cons (vv_slot (i := 4) rfl) (vl_cons (vv_slot (i := 1) rfl) vl_nil)) (h8 m size hs)
    have hln : Vw C (.blt .len (.cons (.bor 3) .nil)) [.val (.lst (iD rows)), .val (.int (size : Int)), .val (.int dress), .own ts, .val (.int (m : Int))] (.int (ts.length : Int)) := (len_blt (vw_own (i := 3) (ds := ts) rfl) rfl rfl).w
    have htest : ∃ k, Tt C (.orT (.cons (.cmpT .Eq (.slot 2) (.int 1)) (.cons (.cmpT .Eq (.slot 2) (.int 3)) (.cons (.andT (.cons (.cmpT .GtE (.slot 2) (.int 4)) (.cons (.cmpT .Eq (.bin .Mod (.blt .len (.cons (.bor 3) .nil)) (.int 2)) (.int 1)) .nil))) .nil)))) [.val (.lst (iD rows)), .val (.int (size : Int)), .val (.int dress), .own ts, .val (.int (m : Int))] k :=
      ⟨_, tt_or (tt_cmp (vv_slot (i := 2) rfl).w vv_int.w eq_test) fun _ => tt_or (tt_cmp (vv_slot (i := 2) rfl).w vv_int.w eq_test) fun _ => tt_or1 (tt_and (l := decide ((ts.length : Int) % 2 = 1)) (tt_cmp (vv_slot (i := 2) rfl).w vv_int.w rfl) fun _ => tt_and1 (tt_cmp (vv_bin hln vv_int.w (mod_okI (by decide))).w vv_int.w eq_test))⟩
    obtain ⟨k, hk⟩ := htest
    refine ⟨[.val (.lst (iD rows)), .val (.int (size : Int)), .val (.int dress), .own ts, .val (.int (m : Int))], rfl, exs_cons (x_ife hk (fun _ => ?_) fun _ => ?_)⟩
    · exact exs_next (x_app (ds := ts) rfl hc tl2) (exs_nil (exs_nil ⟨_, _, hsn _ ⟨.inr rfl, hmb⟩, rfl⟩))
    · exact exs_next (x_app (ds := ts) rfl (vv_blt (r := .v (.tup (bitsD m size))) (wl_cons hc.w wl_nil) rfl) tl2) (exs_nil (exs_nil ⟨_, _, hsn _ ⟨.inl rfl, hmb⟩, rfl⟩))
  · rintro σ ⟨ts, w, ha, rfl⟩
    rw [rl, List.take_length] at ha
    have htest : ∃ k, Tt C (.orT (.cons (.cmpT .Eq (.slot 2) (.int 2)) (.cons (.cmpT .Eq (.slot 2) (.int 3)) (.cons (.cmpT .Eq (.slot 2) (.int 5)) .nil)))) [.val (.lst (iD rows)), .val (.int (size : Int)), .val (.int dress), .own ts, w] k :=
      ⟨_, tt_or (tt_cmp (vv_slot (i := 2) rfl).w vv_int.w eq_test) fun _ => tt_or (tt_cmp (vv_slot (i := 2) rfl).w vv_int.w eq_test) fun _ => tt_or1 (tt_cmp (vv_slot (i := 2) rfl).w vv_int.w eq_test)⟩
    obtain ⟨k, hk⟩ := htest
    refine exs_cons (x_ife hk (fun _ => ?_) fun _ => ?_)
    · exact exs_rt (r := .fr ts) (σ1 := [.val (.lst (iD rows)), .val (.int (size : Int)), .val (.int dress), .un, w]) rfl ⟨rfl, rfl, ts, .inr rfl, ha⟩
    · exact exs_nil (exs_rt (r := .v (.tup ts)) (σ1 := [.val (.lst (iD rows)), .val (.int (size : Int)), .val (.int dress), .val (.lst ts), w]) rfl ⟨rfl, rfl, ts, .inl rfl, ha⟩)
theorem ints_iD : ∀ l : List Nat, ints? (iD l) = some (l.map fun k : Nat => (k : Int))
  | [] => rfl
  | k :: l => by
    show (ints? (iD l)).map ((k : Int) :: ·) = _
    rw [ints_iD l]
    rfl
theorem sort_desc (l : List Nat) : ∃ l' : List Nat, ((isort (l.map fun k : Nat => (k : Int))).reverse.map D.int) = iD l' ∧ l'.Perm l ∧ l'.Pairwise fun x y => y ≤ x := by
  obtain ⟨r, hr⟩ : ∃ r, r = (isort (l.map fun k : Nat => (k : Int))).reverse := ⟨_, rfl⟩
  have hp : r.Perm (l.map fun k : Nat => (k : Int)) := by
    rw [hr]
    exact (List.reverse_perm _).trans (List.mergeSort_perm _ _)
  have hs : r.Pairwise fun x y => y ≤ x := by
    rw [hr, List.pairwise_reverse]
    have := List.pairwise_mergeSort (le := fun a b : Int => decide (a ≤ b)) (fun a b c h1 h2 => by simp at *; omega) (fun a b => by simp; omega) (l.map fun k : Nat => (k : Int))
    exact this.imp fun h => of_decide_eq_true h
  have hn : ∀ x ∈ r, 0 ≤ x := fun x hx => by
    obtain ⟨k, _, rfl⟩ := List.mem_map.mp (hp.mem_iff.mp hx)
    omega
  have hc : (r.map Int.toNat).map (fun k : Nat => (k : Int)) = r := by
    rw [List.map_map]
    refine (List.map_congr_left fun x hx => ?_).trans (List.map_id r)
    exact Int.toNat_of_nonneg (hn x hx)
  refine ⟨r.map Int.toNat, ?_, ?_, ?_⟩
  · rw [← hr]
    unfold iD
    rw [← hc]
    simp only [List.map_map]
    refine List.map_congr_left fun x hx => ?_
    simp
  · have := hp.map Int.toNat
    rw [List.map_map] at this
    refine this.trans (List.Perm.of_eq ?_)
    exact (List.map_congr_left fun x _ => by simp).trans (List.map_id l)
  · rw [List.pairwise_map]
    exact List.Pairwise.imp_of_mem (fun {a b} ha hb hab => by omega) hs
/-- the law's rank -/
theorem lrank_ok {C : Cxt} {rows : List Nat} (hl : rows.length ≤ 1000000) : DS.run C d10 [.lst (iD rows)] = .ok (.v (.int ((rk rows : Nat) : Int))) := Sat.eq <| by
  have rl : (iD rows).length = rows.length := by simp [iD]
  refine run_sat rfl ?_
  refine exs_next (σ1 := [.val (.lst (iD rows)), .val (.lst []), .un, .un, .un]) rfl ?_
  refine exs_cons (for_sat (σ1 := [.val (.lst (iD rows)), .val (.lst []), .un, .un, .un]) (rs := [.v (.lst (iD rows))]) (xs := iD rows) rfl rfl rfl
    (fun i σ => ∃ K a b c, Tp K ∧ Eqv K (rows.take i) ∧ K.length ≤ i ∧ σ = [.val (.lst (iD rows)), .val (.lst (iD K)), a, b, c]) ⟨[], .un, .un, .un, ⟨fun x h => (by cases h), .nil⟩, Eqv.refl _, Nat.le_refl _, rfl⟩ ?_ ?_)
  · rintro i x σ hx ⟨K, a, b, c, tp, eqv, kl, rfl⟩
    obtain ⟨m, em, rfl⟩ := iD_get hx
    have hil : i < rows.length := (List.getElem?_eq_some_iff.mp em).1
    refine ⟨[.val (.lst (iD rows)), .val (.lst (iD K)), .val (.int (m : Int)), b, c], rfl, ?_⟩
    refine exs_next (x_setS (vv_slot (i := 2) rfl)) ?_
    refine exs_cons (for_sat (σ1 := [.val (.lst (iD rows)), .val (.lst (iD K)), .val (.int (m : Int)), .val (.int (m : Int)), c]) (rs := [.v (.lst (iD K))]) (xs := iD K) rfl rfl rfl
      (fun n σ => ∃ w, σ = [.val (.lst (iD rows)), .val (.lst (iD K)), .val (.int (m : Int)), .val (.int ((lrRest (K.take n) m : Nat) : Int)), w]) ⟨c, rfl⟩ ?_ ?_)
    · rintro n y σ hy ⟨w, rfl⟩
      obtain ⟨o, eo, rfl⟩ := iD_get hy
      obtain ⟨r, hr⟩ : ∃ r, r = lrRest (K.take n) m := ⟨_, rfl⟩
      have e1 : lrRest (K.take (n + 1)) m = lr1 r o := by
        rw [take_snoc eo, hr]
        unfold lrRest
        rw [List.foldl_append]
        rfl
      rw [e1, ← hr]
      refine ⟨[.val (.lst (iD rows)), .val (.lst (iD K)), .val (.int (m : Int)), .val (.int (r : Int)), .val (.int (o : Int))], rfl, exs_cons (x_ife (k := decide (((r ^^^ o : Nat) : Int) < (r : Int))) (tt_cmp (vv_bin (vv_slot (i := 3) rfl).w (vv_slot (i := 4) rfl).w xor_ok).w (vv_slot (i := 3) rfl).w rfl) (fun h => ?_) fun h => ?_)⟩
      · have h := of_decide_eq_true h
        refine exs_next (x_setS (vv_bin (vv_slot (i := 3) rfl).w (vv_slot (i := 4) rfl).w xor_ok)) (exs_nil (exs_nil ⟨.val (.int (o : Int)), ?_⟩))
        unfold lr1
        rw [if_pos (by omega)]
        rfl
      · have h := of_decide_eq_false h
        refine exs_nil (exs_nil ⟨.val (.int (o : Int)), ?_⟩)
        unfold lr1
        rw [if_neg (by omega)]
    · rintro σ ⟨w, rfl⟩
      have e0 : (iD K).length = K.length := by simp [iD]
      rw [e0, List.take_length]
      obtain ⟨r, hr⟩ : ∃ r, r = lrRest K m := ⟨_, rfl⟩
      rw [← hr]
      have e2 : Eqv (K ++ [m]) (rows.take (i + 1)) := by
        rw [take_snoc em]
        exact eqv.append [m]
      refine exs_cons (x_ife (k := decide ((0 : Int) < (r : Int))) (tt_cmp (vv_slot (i := 3) rfl).w vv_int.w rfl) (fun h => ?_) fun h => ?_)
      · have h := of_decide_eq_true h
        obtain ⟨K', k1, k2, k3⟩ := sort_desc (K ++ [r])
        obtain ⟨t1, t2⟩ := lr_ok (m := m) tp (by rw [← hr]; omega) (by rw [← hr]; exact k2) k3
        have hcat : binD .Add (.lst (iD K)) (.lst [.int (r : Int)]) = .ok (.fr (iD (K ++ [r]))) := by
          show (if (iD K).length + 1 ≤ sizeLine then Out.ok (Ar.fr (iD K ++ [.int (r : Int)])) else .bad) = _
          rw [if_pos (by rw [e0]; exact size_ok (by omega))]
          unfold iD
          rw [List.map_append]
          rfl
        have hv : Vv C (.bin .Add (.slot 1) (.lst (.cons (.slot 3) .nil))) [.val (.lst (iD rows)), .val (.lst (iD K)), .val (.int (m : Int)), .val (.int (r : Int)), w] (.lst (iD (K ++ [r]))) := vv_bin (r := .fr (iD (K ++ [r]))) (vv_slot (i := 1) rfl).w (vv_lst (vl_cons (vv_slot (i := 3) rfl) vl_nil) (show 1 ≤ sizeLine by decide)).w hcat
        have hs : Vv C (.sortRev (.bin .Add (.slot 1) (.lst (.cons (.slot 3) .nil)))) [.val (.lst (iD rows)), .val (.lst (iD K)), .val (.int (m : Int)), .val (.int (r : Int)), w] (.lst (iD K')) := by
          refine sq_of (r := .fr (iD K')) ?_ rfl
          unfold Vv at hv
          rw [ev, hv]
          simp only [Out.bnd, Ar.view, ints_iD, k1]
        refine exs_next (x_setS hs) (exs_nil (exs_nil ⟨K', .val (.int (m : Int)), .val (.int (r : Int)), w, t1, t2.trans e2, ?_, rfl⟩))
        rw [k2.length_eq, List.length_append]
        exact Nat.succ_le_succ kl
      · have h := of_decide_eq_false h
        have r0 : lrRest K m = 0 := by omega
        exact exs_nil (exs_nil ⟨K, .val (.int (m : Int)), .val (.int (r : Int)), w, tp, (lr_no r0).trans e2, by omega, rfl⟩)
  · rintro σ ⟨K, a, b, c, tp, eqv, kl, rfl⟩
    rw [rl, List.take_length] at eqv
    have e1 := rk_tp tp eqv
    have e0 : (iD K).length = K.length := by simp [iD]
    have hv : ev C (.blt .len (.cons (.slot 1) .nil)) [.val (.lst (iD rows)), .val (.lst (iD K)), a, b, c] = .ok (.v (.int ((rk rows : Nat) : Int)), [.val (.lst (iD rows)), .val (.lst (iD K)), a, b, c]) := blt_ev (wl_cons (vv_slot (i := 1) rfl).w wl_nil) (by
      rw [← e1, ← e0]
      rfl)
    exact exs_rt (x_retE hv rfl) ⟨rfl, rfl⟩
end LW
namespace LW
open PySem PySem.Spec PyProof.Rows L2 DS Gf Bt
theorem ofBits_lt (f : Nat → Bool) (n : Nat) : ofBits f n < 2 ^ n := lt_of_bits fun i hi => by
  rw [ofBits_bit]
  have : ¬ i < n := by omega
  simp [this]
theorem xor_add {a i : Nat} (h : a < 2 ^ i) : a ^^^ 2 ^ i = a + 2 ^ i := by
  have h1 := xor_and a a (2 ^ i) (Nat.le_refl _)
  have h2 : a &&& 2 ^ i = 0 := Nat.eq_of_testBit_eq fun j => by
    rw [Nat.testBit_and, Nat.zero_testBit, Nat.testBit_two_pow]
    by_cases e : i = j
    · subst e
      rw [Nat.testBit_lt_two_pow h]
      rfl
    · simp [e]
  omega
theorem ofBits_succ (f : Nat → Bool) (n : Nat) : ofBits f (n + 1) = if f n then ofBits f n + 2 ^ n else ofBits f n := by
  rw [ofBits]
  split
  · rw [xor_add (ofBits_lt f n)]
  · rw [Nat.xor_zero]
def colsOf (rows : List Nat) (size : Nat) : List Nat := (List.range size).map fun k => ofBits (fun i => (rows.getD i 0).testBit k) rows.length
theorem cols_ok {C : Cxt} {rows : List Nat} {size : Nat} (h20 : ∀ m k : Nat, C.fn 20 [.int (m : Int), .int (k : Int)] = .ok (.v (.bl (m.testBit k)))) (hs : size ≤ 1000000) (hl : rows.length ≤ 1000000) : DS.run C d29 [.lst (iD rows), .int (size : Int)] = .ok (.fr (iD (colsOf rows size))) := Sat.eq <| by
  have rl : (iD rows).length = rows.length := by simp [iD]
  refine run_sat rfl ?_
  refine exs_next (σ1 := [.val (.lst (iD rows)), .val (.int (size : Int)), .own [], .un, .un, .un]) rfl ?_
  refine exs_cons (for_sat (σ1 := [.val (.lst (iD rows)), .val (.int (size : Int)), .own [], .un, .un, .un]) (rs := [.v (.int (size : Int))]) (xs := (List.range size).map fun k : Nat => D.int (k : Int)) rfl (range1_ok hs) rfl
    (fun i σ => ∃ a b c, i ≤ size ∧ σ = [.val (.lst (iD rows)), .val (.int (size : Int)), .own (iD (colsOf rows i)), a, b, c]) ⟨.un, .un, .un, Nat.zero_le _, rfl⟩ ?_ ?_)
  · rintro k x σ hx ⟨a, b, c, _, rfl⟩
    obtain ⟨hkl, rfl⟩ := getI hx
    obtain ⟨f, hf⟩ : ∃ f : Nat → Bool, f = fun i => (rows.getD i 0).testBit k := ⟨_, rfl⟩
    refine ⟨[.val (.lst (iD rows)), .val (.int (size : Int)), .own (iD (colsOf rows k)), .val (.int (k : Int)), b, c], rfl, ?_⟩
    refine exs_next (σ1 := [.val (.lst (iD rows)), .val (.int (size : Int)), .own (iD (colsOf rows k)), .val (.int (k : Int)), .val (.int ((ofBits f 0 : Nat) : Int)), c]) rfl ?_
    refine exs_cons (for_sat (σ1 := [.val (.lst (iD rows)), .val (.int (size : Int)), .own (iD (colsOf rows k)), .val (.int (k : Int)), .val (.int ((ofBits f 0 : Nat) : Int)), c]) (rs := [.v (.int (rows.length : Int))]) (xs := (List.range rows.length).map fun k : Nat => D.int (k : Int)) (vl_cons (len_blt (vv_slot (i := 0) rfl).w rfl rl) vl_nil) (range1_ok hl) rfl
      (fun i σ => ∃ c, σ = [.val (.lst (iD rows)), .val (.int (size : Int)), .own (iD (colsOf rows k)), .val (.int (k : Int)), .val (.int ((ofBits f i : Nat) : Int)), c]) ⟨c, rfl⟩ ?_ ?_)
    · rintro i y σ hy ⟨c, rfl⟩
      obtain ⟨hil, rfl⟩ := getI hy
      obtain ⟨o, eo⟩ : ∃ x, rows[i]? = some x := ⟨_, List.getElem?_eq_getElem hil⟩
      have ef : f i = o.testBit k := by
        rw [hf]
        simp [List.getD, eo]
      refine ⟨[.val (.lst (iD rows)), .val (.int (size : Int)), .own (iD (colsOf rows k)), .val (.int (k : Int)), .val (.int ((ofBits f i : Nat) : Int)), .val (.int (i : Int))], rfl, exs_cons (x_ife (k := o.testBit k) (tt_tru (vv_call (vl_cons (vv_ix (vv_slot (i := 0) rfl).w (vv_slot (i := 5) rfl).w (iD_at eo)) (vl_cons (vv_slot (i := 3) rfl) vl_nil)) (h20 o k)).w rfl) (fun h => ?_) fun h => ?_)⟩
      · refine exs_next (x_setS (vv_bin (vv_slot (i := 4) rfl).w (vv_bin vv_int.w (vv_slot (i := 5) rfl).w (shl_ok (i := 1) (j := i) (by omega) (by decide))).w add_ok)) (exs_nil (exs_nil ⟨.val (.int (i : Int)), ?_⟩))
        rw [ofBits_succ, ef, if_pos h, Nat.one_mul]
        rfl
      · refine exs_nil (exs_nil ⟨.val (.int (i : Int)), ?_⟩)
        rw [ofBits_succ, ef, if_neg (by rw [h]; simp)]
    · rintro σ ⟨c, rfl⟩
      rw [List.length_map, List.length_range]
      refine exs_next (x_app (ds := iD (colsOf rows k)) rfl (vv_slot (i := 4) rfl) (by
        simp only [iD, colsOf, List.length_map, List.length_range]
        exact Nat.lt_of_lt_of_le hkl (size_ok hs))) (exs_nil ⟨.val (.int (k : Int)), .val (.int ((ofBits f rows.length : Nat) : Int)), c, by omega, ?_⟩)
      have e : colsOf rows (k + 1) = colsOf rows k ++ [ofBits f rows.length] := by
        unfold colsOf
        rw [List.range_succ, List.map_append, hf]
        rfl
      rw [e]
      unfold iD
      rw [List.map_append]
      rfl
  · rintro σ ⟨a, b, c, _, rfl⟩
    rw [List.length_map, List.length_range]
    exact exs_rt rfl ⟨rfl, rfl⟩
theorem mod_step (m i : Nat) : m % 2 ^ i + (m.testBit i).toNat * 2 ^ i = m % 2 ^ (i + 1) := by
  rw [Nat.mod_pow_succ, Nat.testBit_eq_decide_div_mod_eq, Nat.mul_comm]
  by_cases h : m / 2 ^ i % 2 = 1
  · simp [h]
  · have : m / 2 ^ i % 2 = 0 := by omega
    simp [this]
/-- the mask that the law reads -/
theorem maskOf_ok {C : Cxt} {m s : Nat} (h15 : ∀ n, C.fn 15 [.int n] = .ok (.v (.bl true))) (hm : m < 2 ^ s) (hs : s ≤ 1000000) : DS.run C d17 [.tup (bitsD m s), .int (s : Int)] = .ok (.v (.int (m : Int))) := Sat.eq <| by
  have bl : (bitsD m s).length = s := by simp [bitsD]
  refine run_sat rfl ?_
  refine exs_cons (x_ife (k := false) (tt_or (k := false) (l := false) (tt_not (k := true) (tt_tru (vv_blt (r := .v (.bl true)) (wl_cons (vv_slot (i := 0) rfl).w wl_nil) rfl).w rfl)) fun _ => tt_or1 (tt_cmp (len_blt (vv_slot (i := 0) rfl).w rfl bl).w (vv_slot (i := 1) rfl).w (by
    rw [cmp_ne, eqD_int]
    simp))) (fun h => by cases h) fun _ => exs_nil ?_)
  refine exs_next (σ1 := [.val (.tup (bitsD m s)), .val (.int (s : Int)), .val (.int ((m % 2 ^ 0 : Nat) : Int)), .un]) (by
    rw [Nat.pow_zero, Nat.mod_one]
    rfl) ?_
  refine exs_cons (for_sat (σ1 := [.val (.tup (bitsD m s)), .val (.int (s : Int)), .val (.int ((m % 2 ^ 0 : Nat) : Int)), .un]) (rs := [.v (.int (s : Int))]) (xs := (List.range s).map fun k : Nat => D.int (k : Int)) rfl (range1_ok hs) rfl
    (fun i σ => ∃ c, σ = [.val (.tup (bitsD m s)), .val (.int (s : Int)), .val (.int ((m % 2 ^ i : Nat) : Int)), c]) ⟨.un, rfl⟩ ?_ ?_)
  · rintro i y σ hy ⟨c, rfl⟩
    obtain ⟨hil, rfl⟩ := getI hy
    have hix : Vv C (.ix (.slot 0) (.slot 3)) [.val (.tup (bitsD m s)), .val (.int (s : Int)), .val (.int ((m % 2 ^ i : Nat) : Int)), .val (.int (i : Int))] (.int (((m.testBit i).toNat : Nat) : Int)) := vv_ix (vv_slot (i := 0) rfl).w (vv_slot (i := 3) rfl).w (by
      refine atI_nat ?_
      unfold bitsD
      rw [List.getElem?_map, List.getElem?_range hil]
      rfl)
    refine ⟨[.val (.tup (bitsD m s)), .val (.int (s : Int)), .val (.int ((m % 2 ^ i : Nat) : Int)), .val (.int (i : Int))], rfl, exs_cons (x_ife (k := false) (tt_or (k := false) (l := false) (tt_not (k := true) (tt_tru (vv_call (vl_cons hix vl_nil) (h15 _)).w rfl)) fun _ => tt_or (k := false) (l := false) (tt_cmp hix.w vv_int.w (by
        show some (decide ((((m.testBit i).toNat : Nat) : Int) < 0)) = some false
        rw [decide_eq_false (by omega)])) fun _ => tt_or1 (tt_cmp hix.w vv_int.w (by
        show some (decide ((1 : Int) < (((m.testBit i).toNat : Nat) : Int))) = some false
        cases m.testBit i <;> rfl))) (fun h => by cases h) fun _ => exs_nil ?_)⟩
    refine exs_next (x_setS (vv_bin (vv_slot (i := 2) rfl).w (vv_bin hix.w (vv_slot (i := 3) rfl).w (shl_ok (i := (m.testBit i).toNat) (j := i) (by omega) (by cases m.testBit i <;> decide))).w add_ok)) (exs_nil ⟨.val (.int (i : Int)), ?_⟩)
    rw [mod_step]
    rfl
  · rintro σ ⟨c, rfl⟩
    rw [List.length_map, List.length_range, Nat.mod_eq_of_lt hm]
    exact exs_rt rfl ⟨rfl, rfl⟩
/-- the first 1 that the law finds -/
theorem first_ok {C : Cxt} {m : Nat} (h20 : ∀ m k : Nat, C.fn 20 [.int (m : Int), .int (k : Int)] = .ok (.v (.bl (m.testBit k)))) (h0 : m ≠ 0) (hb : Gf.lo m < 200) : DS.run C d21 [.int (m : Int)] = .ok (.v (.int ((Gf.lo m : Nat) : Int))) := Sat.eq <| by
  refine run_sat rfl ?_
  refine exs_cons (for_sat (σ1 := [.val (.int (m : Int)), .un]) (rs := [.v (.int ((200 : Nat) : Int))]) (xs := (List.range 200).map fun k : Nat => D.int (k : Int)) rfl (range1_ok (by decide)) rfl
    (fun i σ => i ≤ Gf.lo m ∧ ∃ c, σ = [.val (.int (m : Int)), c]) ⟨Nat.zero_le _, .un, rfl⟩ ?_ ?_)
  · rintro i y σ hy ⟨hi, c, rfl⟩
    obtain ⟨hil, rfl⟩ := getI hy
    refine ⟨[.val (.int (m : Int)), .val (.int (i : Int))], rfl, exs_cons (x_ife (k := m.testBit i) (tt_tru (vv_call (vl_cons (vv_slot (i := 0) rfl) (vl_cons (vv_slot (i := 1) rfl) vl_nil)) (h20 m i)).w rfl) (fun h => ?_) fun h => ?_)⟩
    · have e : Gf.lo m = i := Nat.le_antisymm (lo_le h) hi
      exact exs_rt rfl ⟨rfl, by rw [e]⟩
    · have : i ≠ Gf.lo m := fun e => by
        rw [e, lo_set h0] at h
        cases h
      exact exs_nil (exs_nil ⟨by omega, .val (.int (i : Int)), rfl⟩)
  · rintro σ ⟨hi, c, rfl⟩
    rw [List.length_map, List.length_range] at hi
    omega
end LW
namespace LW
open PySem PySem.Spec PyProof.Rows L2 DS Gf Bt
/-- the row that is looked for -/
theorem wanted_ok {C : Cxt} {draw : List Int} {rows : List Nat} {size n : Nat} (hd : 2 + n ≤ draw.length) (hn1 : rows.length ≤ n) (hn2 : size ≤ n) (hr : ∀ m ∈ rows, m < 2 ^ size) (hl : n ≤ 1000000) :
    Sat (DS.run C d6 [.lst (jD draw), .lst (iD rows), .int (size : Int)]) fun r => ∃ m : Nat, r = .v (.int (m : Int)) ∧ m < 2 ^ size := by
  have rl : (iD rows).length = rows.length := by simp [iD]
  obtain ⟨h0, e0⟩ : ∃ x, draw[0]? = some x := ⟨_, List.getElem?_eq_getElem (by omega)⟩
  obtain ⟨h1, e1⟩ : ∃ x, draw[1]? = some x := ⟨_, List.getElem?_eq_getElem (by omega)⟩
  refine run_sat rfl ?_
  have ix : ∀ (k : Nat) (x : Int) (a b : Sl), draw[k]? = some x → Vv C (.ix (.slot 0) (.int (k : Int))) [.val (.lst (jD draw)), .val (.lst (iD rows)), .val (.int (size : Int)), a, b] (.int x) := fun k x a b e => vv_ix (vv_slot (i := 0) rfl).w vv_int.w (jD_at e)
  refine exs_next (σ1 := [.val (.lst (jD draw)), .val (.lst (iD rows)), .val (.int (size : Int)), .val (.int ((0 : Nat) : Int)), .un]) rfl ?_
  refine exs_cons (x_ife (k := decide (h0 = 3)) (tt_cmp (ix 0 h0 _ _ e0).w vv_int.w eq_test) (fun _ => ?_) fun _ => exs_nil ?_)
  · refine exs_cons (for_sat (σ1 := [.val (.lst (jD draw)), .val (.lst (iD rows)), .val (.int (size : Int)), .val (.int ((0 : Nat) : Int)), .un]) (rs := [.v (.int (size : Int))]) (xs := (List.range size).map fun k : Nat => D.int (k : Int)) rfl (range1_ok (by omega)) rfl
      (fun i σ => ∃ (m : Nat) (w : Sl), σ = [.val (.lst (jD draw)), .val (.lst (iD rows)), .val (.int (size : Int)), .val (.int (m : Int)), w] ∧ m < 2 ^ i) ⟨0, .un, rfl, by decide⟩ ?_ ?_)
    · rintro i x σ hx ⟨m, w, rfl, hm⟩
      obtain ⟨hil, rfl⟩ := getI hx
      obtain ⟨dk, ek⟩ : ∃ x, draw[2 + i]? = some x := ⟨_, List.getElem?_eq_getElem (by omega)⟩
      have hp2 : 2 ^ (i + 1) = 2 ^ i + 2 ^ i := by rw [Nat.pow_succ]; omega
      refine ⟨[.val (.lst (jD draw)), .val (.lst (iD rows)), .val (.int (size : Int)), .val (.int (m : Int)), .val (.int (i : Int))], rfl, exs_cons (x_ife (k := decide (dk = 1)) (tt_cmp (vv_ix (vv_slot (i := 0) rfl).w (vv_bin vv_int.w (vv_slot (i := 4) rfl).w (add_ok (i := 2) (j := i))).w (jD_at ek)).w vv_int.w eq_test) (fun _ => ?_) fun _ => ?_)⟩
      · exact exs_next (x_setS (vv_bin (vv_slot (i := 3) rfl).w (vv_bin vv_int.w (vv_slot (i := 4) rfl).w (shl_ok (i := 1) (j := i) (by omega) (by decide))).w add_ok)) (exs_nil (exs_nil ⟨_, _, rfl, by omega⟩))
      · exact exs_nil (exs_nil ⟨_, _, rfl, by omega⟩)
    · rintro σ ⟨m, w, rfl, hm⟩
      rw [List.length_map, List.length_range] at hm
      exact exs_rt rfl ⟨rfl, m, rfl, hm⟩
  · refine exs_cons (for_sat (σ1 := [.val (.lst (jD draw)), .val (.lst (iD rows)), .val (.int (size : Int)), .val (.int ((0 : Nat) : Int)), .un]) (rs := [.v (.int (rows.length : Int))]) (xs := (List.range rows.length).map fun k : Nat => D.int (k : Int)) (vl_cons (len_blt (vv_slot (i := 1) rfl).w rfl rl) vl_nil) (range1_ok (by omega)) rfl
      (fun i σ => ∃ (m : Nat) (w : Sl), σ = [.val (.lst (jD draw)), .val (.lst (iD rows)), .val (.int (size : Int)), .val (.int (m : Int)), w] ∧ m < 2 ^ size) ⟨0, .un, rfl, Nat.two_pow_pos _⟩ ?_ ?_)
    · rintro i x σ hx ⟨m, w, rfl, hm⟩
      obtain ⟨hil, rfl⟩ := getI hx
      obtain ⟨dk, ek⟩ : ∃ x, draw[2 + i]? = some x := ⟨_, List.getElem?_eq_getElem (by omega)⟩
      obtain ⟨o, eo⟩ : ∃ x, rows[i]? = some x := ⟨_, List.getElem?_eq_getElem hil⟩
      refine ⟨[.val (.lst (jD draw)), .val (.lst (iD rows)), .val (.int (size : Int)), .val (.int (m : Int)), .val (.int (i : Int))], rfl, exs_cons (x_ife (k := decide (dk = 1)) (tt_cmp (vv_ix (vv_slot (i := 0) rfl).w (vv_bin vv_int.w (vv_slot (i := 4) rfl).w (add_ok (i := 2) (j := i))).w (jD_at ek)).w vv_int.w eq_test) (fun _ => ?_) fun _ => ?_)⟩
      · exact exs_next (x_setS (vv_bin (vv_slot (i := 3) rfl).w (vv_ix (vv_slot (i := 1) rfl).w (vv_slot (i := 4) rfl).w (iD_at eo)).w xor_ok)) (exs_nil (exs_nil ⟨_, _, rfl, xor_lt2 hm (hr o (List.mem_of_getElem? eo))⟩))
      · exact exs_nil (exs_nil ⟨_, _, rfl, hm⟩)
    · rintro σ ⟨m, w, rfl, hm⟩
      refine exs_cons (x_ife (k := decide (h0 = 2) && decide ((0 : Int) < (size : Int))) (tt_and (tt_cmp (ix 0 h0 _ _ e0).w vv_int.w eq_test) fun _ => tt_and1 (tt_cmp (vv_slot (i := 2) rfl).w vv_int.w rfl)) (fun h => ?_) fun _ => exs_nil (exs_rt rfl ⟨rfl, m, rfl, hm⟩))
      rw [Bool.and_eq_true] at h
      have hp := of_decide_eq_true h.2
      obtain ⟨j, hj⟩ : ∃ j : Nat, h1 % (size : Int) = (j : Int) := ⟨(h1 % (size : Int)).toNat, (Int.toNat_of_nonneg (Int.emod_nonneg _ (by omega))).symm⟩
      have hjl : h1 % (size : Int) < (size : Int) := Int.emod_lt_of_pos _ hp
      have hmod := mod_okI (i := h1) hp
      rw [hj] at hmod
      have v1 : Vv C (.bin .Mod (.blt .int (.cons (.ix (.slot 0) (.int 1)) .nil)) (.slot 2)) [.val (.lst (jD draw)), .val (.lst (iD rows)), .val (.int (size : Int)), .val (.int (m : Int)), w] (.int (j : Int)) := vv_bin (int_blt (ix 1 h1 _ _ e1).w).w (vv_slot (i := 2) rfl).w hmod
      have v2 : Vv C (.bin .LShift (.int 1) (.bin .Mod (.blt .int (.cons (.ix (.slot 0) (.int 1)) .nil)) (.slot 2))) [.val (.lst (jD draw)), .val (.lst (iD rows)), .val (.int (size : Int)), .val (.int (m : Int)), w] (.int ((1 * 2 ^ j : Nat) : Int)) := vv_bin vv_int.w v1.w (shl_ok (i := 1) (j := j) (by omega) (by decide))
      exact exs_next (x_setS (vv_bin (vv_slot (i := 3) rfl).w v2.w xor_ok)) (exs_nil (exs_rt rfl ⟨rfl, _, rfl, xor_lt2 hm (by
        rw [Nat.one_mul]
        exact Nat.pow_lt_pow_right (by decide) (by omega))⟩))
/-- lists of numbers against one another -/
theorem table_ok {C : Cxt} {ms ns : List Nat} {s : Nat} (h17 : ∀ m s : Nat, m < 2 ^ s → s ≤ 1000000 → C.fn 17 [.tup (bitsD m s), .int (s : Int)] = .ok (.v (.int (m : Int)))) (hm : ∀ m ∈ ms, m < 2 ^ s) (hs : s ≤ 1000000) (hl : ms.length ≤ 1000000) :
    DS.run C d24 [.tup (ms.map fun m => D.tup (bitsD m s)), .lst (iD ns), .int (s : Int)] = .ok (.v (.bl (decide (ms = ns)))) := Sat.eq <| by
  refine run_sat rfl ?_
  refine exs_cons (x_ife (k := false) (tt_not (k := true) (tt_tru (vv_blt (r := .v (.bl true)) (wl_cons (vv_slot (i := 0) rfl).w wl_nil) rfl).w rfl)) (fun h => by cases h) fun _ => exs_nil ?_)
  have ha : All2 (fun (m : Nat) (x : D) => m < 2 ^ s ∧ x = .tup (bitsD m s)) ms (ms.map fun m => D.tup (bitsD m s)) := by
    clear hl
    induction ms with
    | nil => exact .nil
    | cons a l ih => exact .cons ⟨hm a (List.mem_cons_self ..), rfl⟩ (ih fun m h => hm m (List.mem_cons_of_mem _ h))
  have hc := comp_call (C := C) (v := 3) (i := 0) (σ := [.val (.tup (ms.map fun m => D.tup (bitsD m s))), .val (.lst (iD ns)), .val (.int (s : Int)), .un]) (e := .call 17 (.cons (.slot 3) (.cons (.slot 2) .nil))) (h := fun m : Nat => D.int (m : Int)) rfl rfl rfl ha hl fun m x ⟨r1, r2⟩ => by
    subst r2
    exact vv_call (vl_cons (vv_slot (i := 3) rfl) (vl_cons (vv_slot (i := 2) rfl) vl_nil)) (h17 m s r1 hs)
  have hcmp : cmpD .Eq (.lst (ms.map fun m : Nat => D.int (m : Int))) (.lst (iD ns)) = some (decide (ms = ns)) := by
    have e1 : (ms.map fun m : Nat => D.int (m : Int)) = (ms.map fun m : Nat => (m : Int)).map D.int := by rw [List.map_map]; rfl
    have e2 : iD ns = (ns.map fun m : Nat => (m : Int)).map D.int := by unfold iD; rw [List.map_map]; rfl
    rw [cmp_eq', e1, e2, eqD_ints]
    congr 1
    have : ((ms.map fun m : Nat => (m : Int)) = ns.map fun m : Nat => (m : Int)) ↔ ms = ns := ⟨fun h => by
      have := congrArg (List.map Int.toNat) h
      simpa [List.map_map, Function.comp_def] using this, fun h => by rw [h]⟩
    by_cases q : ms = ns
    · rw [decide_eq_true q, decide_eq_true (this.mpr q)]
    · rw [decide_eq_false q, decide_eq_false fun z => q (this.mp z)]
  exact exs_rt (x_retE (cmp_ev (sq_of hc rfl).w (vv_slot (i := 1) rfl).w hcmp) rfl) ⟨rfl, rfl⟩
end LW
namespace LW
open PySem PySem.Spec PyProof.Rows L2 DS Gf Bt
def selL (R : Nat → Nat) (l : List Nat) : Nat := l.foldr (fun k acc => R k ^^^ acc) 0
theorem selX_filter (R : Nat → Nat) (w : Nat) : ∀ ks : List Nat, selX R w ks = selL R (ks.filter fun k => w.testBit k)
  | [] => rfl
  | k :: ks => by
    rw [selX, selX_filter R w ks, List.filter_cons]
    by_cases h : w.testBit k = true
    · rw [if_pos h, if_pos h]
      rfl
    · rw [if_neg h, if_neg h, Nat.zero_xor]
theorem cat1 {rows : List Nat} {x : Nat} (hl : rows.length ≤ 100000) : binD .Add (.lst (iD rows)) (.lst [.int (x : Int)]) = .ok (.fr (iD (rows ++ [x]))) := by
  have e0 : (iD rows).length = rows.length := by simp [iD]
  show (if (iD rows).length + 1 ≤ sizeLine then Out.ok (Ar.fr (iD rows ++ [.int (x : Int)])) else .bad) = _
  rw [if_pos (by rw [e0]; exact size_ok (by omega))]
  unfold iD
  rw [List.map_append]
  rfl
/-- what combination tells is right -/
theorem isSum_ok {C : Cxt} {rows : List Nat} {x : Nat} {d : D} (h10 : ∀ rows : List Nat, rows.length ≤ 1000000 → C.fn 10 [.lst (iD rows)] = .ok (.v (.int ((rk rows : Nat) : Int)))) (h15 : ∀ n, C.fn 15 [.int n] = .ok (.v (.bl true))) (ht : Told rows x d) (hl : rows.length ≤ 100000) :
    DS.run C d23 [d, .lst (iD rows), .int (x : Int)] = .ok (.v (.bl true)) := Sat.eq <| by
  have rl : (iD rows).length = rows.length := by simp [iD]
  refine run_sat rfl ?_
  rcases ht with ⟨rfl, hns⟩ | ⟨w, rfl, hx⟩
  · refine exs_cons (x_ife (k := true) (tt_cmp (vv_slot (i := 0) rfl).w vv_non.w rfl) (fun _ => ?_) fun h => by cases h)
    have hmore := rk_more hns
    have v1 : Vv C (.bin .Add (.slot 1) (.lst (.cons (.slot 2) .nil))) [.val .non, .val (.lst (iD rows)), .val (.int (x : Int)), .un, .un, .un] (.lst (iD (rows ++ [x]))) := vv_bin (r := .fr (iD (rows ++ [x]))) (vv_slot (i := 1) rfl).w (vv_lst (vl_cons (vv_slot (i := 2) rfl) vl_nil) (show 1 ≤ sizeLine by decide)).w (cat1 hl)
    have v2 := vv_call (vl_cons v1 vl_nil) (h10 (rows ++ [x]) (by simp; omega))
    have v3 := vv_call (C := C) (f := 10) (σ := [.val .non, .val (.lst (iD rows)), .val (.int (x : Int)), .un, .un, .un]) (vl_cons (vv_slot (i := 1) rfl) vl_nil) (h10 rows (by omega))
    refine exs_rt (x_retE (cmp_ev v2.w v3.w (k := true) ?_) rfl) ⟨rfl, rfl⟩
    show some (decide (((rk rows : Nat) : Int) < ((rk (rows ++ [x]) : Nat) : Int))) = some true
    rw [decide_eq_true (by omega)]
  · obtain ⟨l, el⟩ : ∃ l, l = (List.range rows.length).filter fun k => w.testBit k := ⟨_, rfl⟩
    have hlr : ∀ k ∈ l, k < rows.length := fun k hk => by
      rw [el] at hk
      exact List.mem_range.mp (List.mem_filter.mp hk).1
    have hpw : l.Pairwise (· < ·) := by
      rw [el]
      exact List.Pairwise.filter _ List.pairwise_lt_range
    rw [selX_filter, ← el] at hx
    rw [← el]
    obtain ⟨R, hR⟩ : ∃ R : Nat → Nat, R = fun i => rows.getD i 0 := ⟨_, rfl⟩
    rw [← hR] at hx
    refine exs_cons (x_ife (k := false) (tt_cmp (vv_slot (i := 0) rfl).w vv_non.w rfl) (fun h => by cases h) fun _ => exs_nil ?_)
    refine exs_cons (x_ife (k := false) (tt_not (k := true) (tt_tru (vv_blt (r := .v (.bl true)) (wl_cons (vv_slot (i := 0) rfl).w wl_nil) rfl).w rfl)) (fun h => by cases h) fun _ => exs_nil ?_)
    refine exs_next (σ1 := [.val (.tup (iD l)), .val (.lst (iD rows)), .val (.int (x : Int)), .val (.int (-1)), .un, .un]) rfl ?_
    refine exs_next (σ1 := [.val (.tup (iD l)), .val (.lst (iD rows)), .val (.int (x : Int)), .val (.int (-1)), .val (.int ((0 : Nat) : Int)), .un]) rfl ?_
    refine exs_cons (for_sat (σ1 := [.val (.tup (iD l)), .val (.lst (iD rows)), .val (.int (x : Int)), .val (.int (-1)), .val (.int ((0 : Nat) : Int)), .un]) (rs := [.v (.tup (iD l))]) (xs := iD l) rfl rfl rfl
      (fun i σ => ∃ (last : Int) (tot : Nat) (c : Sl), σ = [.val (.tup (iD l)), .val (.lst (iD rows)), .val (.int (x : Int)), .val (.int last), .val (.int (tot : Int)), c] ∧ tot ^^^ selL R (l.drop i) = selL R l ∧ ∀ j k : Nat, i ≤ j → l[j]? = some k → last < (k : Int)) ⟨-1, 0, .un, rfl, by simp, fun j k _ _ => by omega⟩ ?_ ?_)
    · rintro i y σ hy ⟨last, tot, c, rfl, htot, hlast⟩
      obtain ⟨k, ek, rfl⟩ := iD_get hy
      have hk := hlr k (List.mem_of_getElem? ek)
      obtain ⟨o, eo⟩ : ∃ o, rows[k]? = some o := ⟨_, List.getElem?_eq_getElem hk⟩
      have eR : R k = o := by
        rw [hR]
        simp [List.getD, eo]
      have h1 := hlast i k (Nat.le_refl _) ek
      have hil : i < l.length := (List.getElem?_eq_some_iff.mp ek).1
      refine ⟨[.val (.tup (iD l)), .val (.lst (iD rows)), .val (.int (x : Int)), .val (.int last), .val (.int (tot : Int)), .val (.int (k : Int))], rfl, exs_cons (x_ife (k := false) (tt_or (k := false) (l := false) (tt_not (k := true) (tt_tru (vv_call (vl_cons (vv_slot (i := 5) rfl) vl_nil) (h15 _)).w rfl)) fun _ => tt_or (k := false) (l := false) (tt_cmp (vv_slot (i := 5) rfl).w (vv_slot (i := 3) rfl).w (by
          show some (decide ((k : Int) ≤ last)) = some false
          rw [decide_eq_false (by omega)])) fun _ => tt_or1 (tt_cmp (vv_slot (i := 5) rfl).w (len_blt (vv_slot (i := 1) rfl).w rfl rl).w (by
          show some (decide ((rows.length : Int) ≤ (k : Int))) = some false
          rw [decide_eq_false (by omega)]))) (fun h => by cases h) fun _ => exs_nil ?_)⟩
      refine exs_next (x_setS (vv_slot (i := 5) rfl)) ?_
      refine exs_next (x_setS (vv_bin (vv_slot (i := 4) rfl).w (vv_ix (vv_slot (i := 1) rfl).w (vv_slot (i := 5) rfl).w (iD_at eo)).w xor_ok)) (exs_nil ⟨(k : Int), tot ^^^ o, .val (.int (k : Int)), rfl, ?_, fun j q hj hq => ?_⟩)
      · rw [List.drop_eq_getElem_cons hil] at htot
        have e1 : l[i] = k := by
          have := List.getElem?_eq_getElem hil
          rw [ek] at this
          exact (Option.some.inj this).symm
        rw [e1] at htot
        rw [← htot, x1]
        show tot ^^^ (o ^^^ selL R (l.drop (i + 1))) = tot ^^^ (R k ^^^ selL R (l.drop (i + 1)))
        rw [eR]
      · have hjl : j < l.length := (List.getElem?_eq_some_iff.mp hq).1
        have h2 := List.pairwise_iff_getElem.mp hpw i j hil hjl (by omega)
        have e1 : l[i] = k := by
          have := List.getElem?_eq_getElem hil
          rw [ek] at this
          exact (Option.some.inj this).symm
        have e2 : l[j] = q := by
          have := List.getElem?_eq_getElem hjl
          rw [hq] at this
          exact (Option.some.inj this).symm
        omega
    · rintro σ ⟨last, tot, c, rfl, htot, _⟩
      have e0 : (iD l).length = l.length := by simp [iD]
      rw [e0, List.drop_length] at htot
      have e1 : tot = x := by
        rw [hx, ← htot]
        show tot = tot ^^^ 0
        rw [Nat.xor_zero]
      subst e1
      refine exs_rt (x_retE (cmp_ev (vv_slot (i := 4) rfl).w (vv_slot (i := 2) rfl).w (k := true) ?_) rfl) ⟨rfl, rfl⟩
      rw [eq_test, decide_eq_true rfl]
end LW
namespace LW
open PySem PySem.Spec PyProof.Rows L2 DS Gf Bt
def szM : List Int := (([61, 2, 4, 2] ++ List.replicate 180 2) ++ [18]) ++ List.replicate 34 61
theorem szM_at1 {k : Nat} (h : k < 180) : szM[4 + k]? = some 2 := by
  have : 4 + k < 184 := by omega
  have e : ∀ j : Fin 184, 4 ≤ j.val → szM[j.val]? = some 2 := by decide
  exact e ⟨4 + k, this⟩ (by simp)
theorem szM_at2 {k : Nat} (h : k < 34) : szM[185 + k]? = some 61 := by
  have : 185 + k < 219 := by omega
  have e : ∀ j : Fin 219, 185 ≤ j.val → szM[j.val]? = some 61 := by decide
  exact e ⟨185 + k, this⟩ (by simp)
theorem mul_okN {i j : Nat} (h : i < 2 ^ 64) : binD .Mult (.int (i : Int)) (.int (j : Int)) = .ok (.v (.int ((i * j : Nat) : Int))) := by
  rw [mul_okL ⟨by omega, by omega⟩]
  push_cast
  rfl
/-- what _law_mixed makes -/
structure Mixed (rows made other : List Nat) : Prop where
  inn : ∀ x ∈ other, Sp rows x ∨ x ∈ made
  all : ∀ x ∈ made, x ∈ other
  len : other.length ≤ 1000
theorem mixed_ok {C : Cxt} {draw : List Int} {rows made : List Nat} (hd : Dg draw szM) (hl : rows.length ≤ 60) (hl2 : made.length ≤ 60) : Sat (DS.run C d7 [.lst (jD draw), .lst (iD made), .lst (iD rows)]) fun r => ∃ other, r = .fr (iD other) ∧ Mixed rows made other := by
  have rl : (iD rows).length = rows.length := by simp [iD]
  have ml : (iD made).length = made.length := by simp [iD]
  obtain ⟨h0, e0, a0, b0⟩ := hd.at (k := 0) (s := 61) (by decide)
  obtain ⟨h1, e1, a1, b1⟩ := hd.at (k := 1) (s := 2) (by decide)
  obtain ⟨h2, e2, a2, b2⟩ := hd.at (k := 2) (s := 4) (by decide)
  obtain ⟨h3, e3, a3, b3⟩ := hd.at (k := 3) (s := 2) (by decide)
  obtain ⟨h184, e184, a184, b184⟩ := hd.at (k := 184) (s := 18) (by decide)
  obtain ⟨n2, rfl⟩ : ∃ n : Nat, h2 = (n : Int) := ⟨h2.toNat, (Int.toNat_of_nonneg a2).symm⟩
  obtain ⟨n4, rfl⟩ : ∃ n : Nat, h184 = (n : Int) := ⟨h184.toNat, (Int.toNat_of_nonneg a184).symm⟩
  refine run_sat rfl ?_
  refine exs_next (σ1 := [.val (.lst (jD draw)), .val (.lst (iD made)), .val (.lst (iD rows)), .own [], .un, .un, .un, .un, .un, .un]) rfl ?_
  have ix : ∀ (k : Nat) (x : Int) (r : En), draw[k]? = some x → Vv C (.ix (.slot 0) (.int (k : Int))) (.val (.lst (jD draw)) :: r) (.int x) := fun k x r e => vv_ix (vv_slot (i := 0) rfl).w vv_int.w (jD_at e)
  -- sums
  refine exs_via (fun σ => ∃ more a b c, (∀ x ∈ more, Sp rows x) ∧ more.length ≤ 3 ∧ Pl a ∧ σ = [.val (.lst (jD draw)), .val (.lst (iD made)), .val (.lst (iD rows)), .own (iD more), a, .un, .un, b, c, .un])
    (for_sat (σ1 := [.val (.lst (jD draw)), .val (.lst (iD made)), .val (.lst (iD rows)), .own [], .un, .un, .un, .un, .un, .un]) (rs := [.v (.int (n2 : Int))]) (xs := (List.range n2).map fun k : Nat => D.int (k : Int)) (vl_cons (ix 2 _ _ e2) vl_nil) (range1_ok (by omega)) rfl
      (fun i σ => ∃ more a b c, (∀ x ∈ more, Sp rows x) ∧ more.length = i ∧ Pl a ∧ σ = [.val (.lst (jD draw)), .val (.lst (iD made)), .val (.lst (iD rows)), .own (iD more), a, .un, .un, b, c, .un]) ⟨[], .un, .un, .un, fun x h => (by cases h), rfl, .inl rfl, rfl⟩ ?_ fun σ ⟨more, a, b, c, h1, h2, h3, h4⟩ => ⟨rfl, more, a, b, c, h1, by rw [h2, List.length_map, List.length_range]; omega, h3, h4⟩) ?_
  · rintro k y σ hy ⟨more, a, b, c, hsp, hml, _, rfl⟩
    obtain ⟨hkl, rfl⟩ := getI hy
    refine ⟨[.val (.lst (jD draw)), .val (.lst (iD made)), .val (.lst (iD rows)), .own (iD more), .val (.int (k : Int)), .un, .un, b, c, .un], rfl, ?_⟩
    refine exs_next (σ1 := [.val (.lst (jD draw)), .val (.lst (iD made)), .val (.lst (iD rows)), .own (iD more), .val (.int (k : Int)), .un, .un, .val (.int ((0 : Nat) : Int)), c, .un]) rfl ?_
    refine exs_cons (for_sat (σ1 := [.val (.lst (jD draw)), .val (.lst (iD made)), .val (.lst (iD rows)), .own (iD more), .val (.int (k : Int)), .un, .un, .val (.int ((0 : Nat) : Int)), c, .un]) (rs := [.v (.int (rows.length : Int))]) (xs := (List.range rows.length).map fun k : Nat => D.int (k : Int)) (vl_cons (len_blt (vv_slot (i := 2) rfl).w rfl rl) vl_nil) (range1_ok (by omega)) rfl
      (fun _ σ => ∃ m c, Sp rows m ∧ σ = [.val (.lst (jD draw)), .val (.lst (iD made)), .val (.lst (iD rows)), .own (iD more), .val (.int (k : Int)), .un, .un, .val (.int (m : Int)), c, .un]) ⟨0, c, Sp.zero _, rfl⟩ ?_ ?_)
    · rintro i z σ hz ⟨m, c, hm, rfl⟩
      obtain ⟨hil, rfl⟩ := getI hz
      obtain ⟨o, eo⟩ : ∃ o, rows[i]? = some o := ⟨_, List.getElem?_eq_getElem hil⟩
      obtain ⟨dk, ek, _, _⟩ := hd.at (k := 4 + (60 * k + i)) (szM_at1 (by omega))
      have ek : draw[4 + 60 * k + i]? = some dk := by rw [Nat.add_assoc]; exact ek
      refine ⟨[.val (.lst (jD draw)), .val (.lst (iD made)), .val (.lst (iD rows)), .own (iD more), .val (.int (k : Int)), .un, .un, .val (.int (m : Int)), .val (.int (i : Int)), .un], rfl, exs_cons (x_ife (k := decide (dk = 1)) (tt_cmp (vv_ix (vv_slot (i := 0) rfl).w (vv_bin (vv_bin vv_int.w (vv_bin vv_int.w (vv_slot (i := 4) rfl).w (mul_okN (i := 60) (j := k) (by decide))).w (add_ok (i := 4) (j := 60 * k))).w (vv_slot (i := 8) rfl).w (add_ok (i := 4 + 60 * k) (j := i))).w (jD_at ek)).w vv_int.w eq_test) (fun _ => ?_) fun _ => ?_)⟩
      · exact exs_next (x_setS (vv_bin (vv_slot (i := 7) rfl).w (vv_ix (vv_slot (i := 2) rfl).w (vv_slot (i := 8) rfl).w (iD_at eo)).w xor_ok)) (exs_nil (exs_nil ⟨_, .val (.int (i : Int)), hm.xor (Sp.mem (List.mem_of_getElem? eo)), rfl⟩))
      · exact exs_nil (exs_nil ⟨_, .val (.int (i : Int)), hm, rfl⟩)
    · rintro σ ⟨m, c, hm, rfl⟩
      refine exs_next (x_app (ds := iD more) rfl (vv_slot (i := 7) rfl) (by simp only [iD, List.length_map, hml]; exact Nat.lt_of_le_of_lt (show k ≤ 3 by omega) (by decide))) (exs_nil ⟨more ++ [m], .val (.int (k : Int)), .val (.int (m : Int)), c, fun x hx => ?_, by simp [hml], .inr ⟨_, rfl⟩, ?_⟩)
      · rcases List.mem_append.mp hx with q | q
        · exact hsp x q
        · rw [List.mem_singleton.mp q]
          exact hm
      · unfold iD
        rw [List.map_append]
        rfl
  · rintro σ1 ⟨more, a, b, c, hsp, hml, pla, rfl⟩
    -- sums of two rows
    refine exs_via (fun σ => ∃ more a b c d, (∀ x ∈ more, Sp rows x) ∧ more.length ≤ 30 ∧ Pl a ∧ σ = [.val (.lst (jD draw)), .val (.lst (iD made)), .val (.lst (iD rows)), .own (iD more), a, .un, .un, b, c, d])
      (x_ife (k := decide ((20 : Int) < (rows.length : Int))) (tt_cmp (len_blt (vv_slot (i := 2) rfl).w rfl rl).w vv_int.w rfl) (fun h => ?_) fun _ => exs_nil ⟨rfl, more, a, b, c, .un, hsp, by omega, pla, rfl⟩) ?_
    · have h20 := of_decide_eq_true h
      refine exs_cons (for_sat (σ1 := [.val (.lst (jD draw)), .val (.lst (iD made)), .val (.lst (iD rows)), .own (iD more), a, .un, .un, b, c, .un]) (rs := [.v (.int (n4 : Int))]) (xs := (List.range n4).map fun k : Nat => D.int (k : Int)) (vl_cons (ix 184 _ _ e184) vl_nil) (range1_ok (by omega)) rfl
        (fun i σ => ∃ more a d, (∀ x ∈ more, Sp rows x) ∧ more.length ≤ 3 + i ∧ Pl a ∧ σ = [.val (.lst (jD draw)), .val (.lst (iD made)), .val (.lst (iD rows)), .own (iD more), a, .un, .un, b, c, d]) ⟨more, a, .un, hsp, by omega, pla, rfl⟩ ?_ ?_)
      · rintro k y σ hy ⟨more, a, d, hsp, hml, _, rfl⟩
        obtain ⟨hkl, rfl⟩ := getI hy
        refine ⟨[.val (.lst (jD draw)), .val (.lst (iD made)), .val (.lst (iD rows)), .own (iD more), .val (.int (k : Int)), .un, .un, b, c, d], rfl, ?_⟩
        have pick : ∀ (off : Nat) (r : En) (hoff : off + 2 * k < 219) (hof2 : 185 ≤ off), (r[2]? = some (.val (.int (k : Int)))) → True := fun _ _ _ _ _ => trivial
        have one : ∀ (off : Nat) (d : Sl), 185 ≤ off → off ≤ 186 → ∃ o : Nat, o ∈ rows ∧ Vv C (.ix (.slot 2) (.bin .Mod (.blt .int (.cons (.ix (.slot 0) (.bin .Add (.int (off : Int)) (.bin .Mult (.int 2) (.slot 4)))) .nil)) (.blt .len (.cons (.slot 2) .nil)))) [.val (.lst (jD draw)), .val (.lst (iD made)), .val (.lst (iD rows)), .own (iD more), .val (.int (k : Int)), .un, .un, b, c, d] (.int (o : Int)) := fun off d q1 q2 => by
          obtain ⟨dk, ek, dk0, _⟩ := hd.at (k := 185 + (off + 2 * k - 185)) (szM_at2 (by omega))
          have ek : draw[off + 2 * k]? = some dk := by
            have e : 185 + (off + 2 * k - 185) = off + 2 * k := by omega
            rw [e] at ek
            exact ek
          obtain ⟨j, hj⟩ : ∃ j : Nat, dk % (rows.length : Int) = (j : Int) := ⟨(dk % (rows.length : Int)).toNat, (Int.toNat_of_nonneg (Int.emod_nonneg _ (by omega))).symm⟩
          have hjl : dk % (rows.length : Int) < (rows.length : Int) := Int.emod_lt_of_pos _ (by omega)
          obtain ⟨o, eo⟩ : ∃ o, rows[j]? = some o := ⟨_, List.getElem?_eq_getElem (by omega)⟩
          have hmod := mod_okI (i := dk) (j := (rows.length : Int)) (by omega)
          rw [hj] at hmod
          have v0 : Vv C (.ix (.slot 0) (.bin .Add (.int (off : Int)) (.bin .Mult (.int 2) (.slot 4)))) [.val (.lst (jD draw)), .val (.lst (iD made)), .val (.lst (iD rows)), .own (iD more), .val (.int (k : Int)), .un, .un, b, c, d] (.int dk) := vv_ix (vv_slot (i := 0) rfl).w (vv_bin vv_int.w (vv_bin vv_int.w (vv_slot (i := 4) rfl).w (mul_okN (i := 2) (j := k) (by decide))).w (add_ok (i := off) (j := 2 * k))).w (jD_at ek)
          exact ⟨o, List.mem_of_getElem? eo, vv_ix (vv_slot (i := 2) rfl).w (vv_bin (r := .v (.int (j : Int))) (int_blt v0.w).w (len_blt (vv_slot (i := 2) rfl).w rfl rl).w hmod).w (iD_at eo)⟩
        obtain ⟨o1, m1, v1⟩ := one 185 d (by decide) (by decide)
        obtain ⟨o2, m2, v2⟩ := one 186 (.val (.int (o1 : Int))) (by decide) (by decide)
        refine exs_next (x_setS v1) ?_
        refine exs_next (x_app (ds := iD more) rfl (vv_bin (vv_slot (i := 9) rfl).w v2.w xor_ok) (by simp only [iD, List.length_map]; exact Nat.lt_of_le_of_lt (show more.length ≤ 30 by omega) (by decide))) (exs_nil ⟨more ++ [o1 ^^^ o2], .val (.int (k : Int)), .val (.int (o1 : Int)), fun x hx => ?_, by simp; omega, .inr ⟨_, rfl⟩, ?_⟩)
        · rcases List.mem_append.mp hx with q | q
          · exact hsp x q
          · rw [List.mem_singleton.mp q]
            exact (Sp.mem m1).xor (Sp.mem m2)
        · unfold iD
          rw [List.map_append]
          rfl
      · rintro σ ⟨more, a, d, hsp, hml, pa, rfl⟩
        rw [List.length_map, List.length_range] at hml
        exact exs_nil ⟨rfl, more, a, b, c, d, hsp, by omega, pa, rfl⟩
    · rintro σ1 ⟨more, a, b, c, d, hsp, hml, pla, rfl⟩
      obtain ⟨j, hj⟩ : ∃ j : Nat, h0 % ((made.length + 1 : Nat) : Int) = (j : Int) := ⟨(h0 % ((made.length + 1 : Nat) : Int)).toNat, (Int.toNat_of_nonneg (Int.emod_nonneg _ (by omega))).symm⟩
      have hjl : h0 % ((made.length + 1 : Nat) : Int) < ((made.length + 1 : Nat) : Int) := Int.emod_lt_of_pos _ (by omega)
      have hmod := mod_okI (i := h0) (j := ((made.length + 1 : Nat) : Int)) (by omega)
      rw [hj] at hmod hjl
      have hjm : j ≤ made.length := by omega
      refine exs_next (σ1 := [.val (.lst (jD draw)), .val (.lst (iD made)), .val (.lst (iD rows)), .own (iD more), a, .val (.int (j : Int)), .un, b, c, d]) (x_setS (d := .int (j : Int)) (vv_bin (r := .v (.int (j : Int))) (int_blt (ix 0 h0 _ e0).w).w (vv_bin (len_blt (vv_slot (i := 1) rfl).w rfl ml).w vv_int.w (add_ok (i := made.length) (j := 1))).w hmod)) ?_
      obtain ⟨order, hord⟩ : ∃ order, order = made.drop j ++ made.take j := ⟨_, rfl⟩
      have olen : order.length = made.length := by rw [hord]; simp; omega
      have omem : ∀ x, x ∈ order ↔ x ∈ made := fun x => by
        rw [hord, List.mem_append, or_comm, ← List.mem_append, List.take_append_drop]
      have sl1 : sliceD (.lst (iD made)) (some (some (j : Int))) (some none) = .ok (.fr (iD (made.drop j))) := by
        have : DS.cutD (iD made) (some (j : Int)) none = iD (made.drop j) := by
          unfold DS.cutD
          rw [HT.sIx_nat, HT.sIx_none, ml, Nat.min_eq_left hjm]
          unfold iD
          rw [← List.map_drop, List.take_of_length_le (by simp)]
        rw [← this]
        rfl
      have sl2 : sliceD (.lst (iD made)) (some none) (some (some (j : Int))) = .ok (.fr (iD (made.take j))) := by
        have : DS.cutD (iD made) none (some (j : Int)) = iD (made.take j) := by
          unfold DS.cutD
          rw [HT.sIx_none, HT.sIx_nat, ml, Nat.min_eq_left hjm]
          unfold iD
          rw [List.drop_zero, Nat.sub_zero, ← List.map_take]
        rw [← this]
        rfl
      have v1 : Vv C (.slice (.slot 1) (.slot 5) .non) [.val (.lst (jD draw)), .val (.lst (iD made)), .val (.lst (iD rows)), .own (iD more), a, .val (.int (j : Int)), .un, b, c, d] (.lst (iD (made.drop j))) := by
        refine sq_of (r := .fr (iD (made.drop j))) ?_ rfl
        have : ev C (.slice (.slot 1) (.slot 5) .non) [.val (.lst (jD draw)), .val (.lst (iD made)), .val (.lst (iD rows)), .own (iD more), a, .val (.int (j : Int)), .un, b, c, d] = (sliceD (.lst (iD made)) (some (some (j : Int))) (some none)).bnd fun r => .ok (r, [.val (.lst (jD draw)), .val (.lst (iD made)), .val (.lst (iD rows)), .own (iD more), a, .val (.int (j : Int)), .un, b, c, d]) := rfl
        rw [this, sl1]
      have v2 : Vv C (.slice (.slot 1) .non (.slot 5)) [.val (.lst (jD draw)), .val (.lst (iD made)), .val (.lst (iD rows)), .own (iD more), a, .val (.int (j : Int)), .un, b, c, d] (.lst (iD (made.take j))) := by
        refine sq_of (r := .fr (iD (made.take j))) ?_ rfl
        have : ev C (.slice (.slot 1) .non (.slot 5)) [.val (.lst (jD draw)), .val (.lst (iD made)), .val (.lst (iD rows)), .own (iD more), a, .val (.int (j : Int)), .un, b, c, d] = (sliceD (.lst (iD made)) (some none) (some (some (j : Int)))).bnd fun r => .ok (r, [.val (.lst (jD draw)), .val (.lst (iD made)), .val (.lst (iD rows)), .own (iD more), a, .val (.int (j : Int)), .un, b, c, d]) := rfl
        rw [this, sl2]
      have catN : ∀ {p q : List Nat}, p.length + q.length ≤ 1000 → binD .Add (.lst (iD p)) (.lst (iD q)) = .ok (.fr (iD (p ++ q))) := fun {p q} h => by
        show (if (iD p).length + (iD q).length ≤ sizeLine then Out.ok (Ar.fr (iD p ++ iD q)) else .bad) = _
        rw [if_pos (by simp only [iD, List.length_map]; exact size_ok (by omega))]
        unfold iD
        rw [List.map_append]
      refine exs_next (σ1 := [.val (.lst (jD draw)), .val (.lst (iD made)), .val (.lst (iD rows)), .own (iD more), a, .val (.int (j : Int)), .val (.lst (iD order)), b, c, d]) (by
        rw [hord]
        exact x_setS (d := .lst (iD (made.drop j ++ made.take j))) (vv_bin (r := .fr (iD (made.drop j ++ made.take j))) v1.w v2.w (catN (by simp; omega)))) ?_
      refine exs_via (fun σ => ∃ order, (∀ x, x ∈ order ↔ x ∈ made) ∧ order.length ≤ 60 ∧ σ = [.val (.lst (jD draw)), .val (.lst (iD made)), .val (.lst (iD rows)), .own (iD more), a, .val (.int (j : Int)), .val (.lst (iD order)), b, c, d])
        (x_ife (k := decide (h1 = 1)) (tt_cmp (ix 1 h1 _ e1).w vv_int.w eq_test) (fun _ => ?_) fun _ => exs_nil ⟨rfl, order, omem, by omega, rfl⟩) ?_
      · have oD : (iD order).length = order.length := by simp [iD]
        obtain ⟨g, hg⟩ : ∃ g : D → Option D, g = fun x => match x with | .int k => some (.int ((order.getD (order.length - 1 - k.toNat) 0 : Nat) : Int)) | _ => none := ⟨_, rfl⟩
        have hfm : ((List.range order.length).map fun k : Nat => D.int (k : Int)).filterMap g = iD ((List.range order.length).map fun k => order.getD (order.length - 1 - k) 0) := by
          rw [map_int (h := fun k : Nat => D.int ((order.getD (order.length - 1 - k) 0 : Nat) : Int)) (fun k _ => by rw [hg]; simp)]
          unfold iD
          rw [List.map_map]
          rfl
        have hc := comp_eq (C := C) (t := .nm 4) (own := [4]) (k := .range1) (es := .cons (.blt .len (.cons (.slot 6) .nil)) .nil) (ifs := .bl true) (e := .ix (.slot 6) (.bin .Sub (.bin .Sub (.blt .len (.cons (.slot 6) .nil)) (.int 1)) (.slot 4)))
          (σ := [.val (.lst (jD draw)), .val (.lst (iD made)), .val (.lst (iD rows)), .own (iD more), a, .val (.int (j : Int)), .val (.lst (iD order)), b, c, d]) (σ1 := [.val (.lst (jD draw)), .val (.lst (iD made)), .val (.lst (iD rows)), .own (iD more), a, .val (.int (j : Int)), .val (.lst (iD order)), b, c, d]) (rs := [.v (.int (order.length : Int))]) (xs := (List.range order.length).map fun k : Nat => D.int (k : Int)) (g := g)
          (vl_cons (len_blt (vv_slot (i := 6) rfl).w rfl oD) vl_nil) (range1_ok (by omega)) rfl (by rcases pla with rfl | ⟨w, rfl⟩ <;> rfl) (fun x hx => by
            obtain ⟨k, hk, rfl⟩ := List.mem_map.mp hx
            have hkl := List.mem_range.mp hk
            obtain ⟨o, eo⟩ : ∃ o, order[order.length - 1 - k]? = some o := ⟨_, List.getElem?_eq_getElem (by omega)⟩
            have hsub : binD .Sub (.int ((order.length : Int) - 1)) (.int (k : Int)) = .ok (.v (.int ((order.length - 1 - k : Nat) : Int))) := by
              rw [sub_okI]
              congr 3
              omega
            have hv : Vv C (.ix (.slot 6) (.bin .Sub (.bin .Sub (.blt .len (.cons (.slot 6) .nil)) (.int 1)) (.slot 4))) [.val (.lst (jD draw)), .val (.lst (iD made)), .val (.lst (iD rows)), .own (iD more), .val (.int (k : Int)), .val (.int (j : Int)), .val (.lst (iD order)), b, c, d] (.int (o : Int)) := vv_ix (vv_slot (i := 6) rfl).w (vv_bin (r := .v (.int ((order.length - 1 - k : Nat) : Int))) (vv_bin (len_blt (vv_slot (i := 6) rfl).w rfl oD).w vv_int.w sub_okI).w (vv_slot (i := 4) rfl).w hsub).w (iD_at eo)
            have eg : g (.int (k : Int)) = some (.int (o : Int)) := by
              rw [hg]
              simp [List.getD, eo]
            rw [eg]
            exact turn_some (τ1 := [.val (.lst (jD draw)), .val (.lst (iD made)), .val (.lst (iD rows)), .own (iD more), .val (.int (k : Int)), .val (.int (j : Int)), .val (.lst (iD order)), b, c, d]) rfl tt_true hv) (by
            rw [hfm]
            simp only [iD, List.length_map, List.length_range]
            exact size_ok (by omega))
        rw [hfm] at hc
        refine exs_next (x_setS (sq_of hc rfl)) (exs_nil ⟨rfl, _, fun x => ?_, ?_, rfl⟩)
        · rw [← omem]
          constructor
          · intro hx
            obtain ⟨k, hk, rfl⟩ := List.mem_map.mp hx
            have hkl := List.mem_range.mp hk
            rw [getD_at 0 (show order.length - 1 - k < order.length by omega)]
            exact List.getElem_mem _
          · intro hx
            obtain ⟨q, hq, rfl⟩ := List.mem_iff_getElem.mp hx
            refine List.mem_map.mpr ⟨order.length - 1 - q, List.mem_range.mpr (by omega), ?_⟩
            have e : order.length - 1 - (order.length - 1 - q) = q := by omega
            rw [e, getD_at 0 hq]
        · simp
          omega
      · rintro σ1 ⟨order, om, ol, rfl⟩
        refine exs_cons (x_ife (k := decide (h3 = 1)) (tt_cmp (ix 3 h3 _ e3).w vv_int.w eq_test) (fun _ => ?_) fun _ => exs_nil ?_)
        · have he : ev C (.bin .Add (.slot 3) (.slot 6)) [.val (.lst (jD draw)), .val (.lst (iD made)), .val (.lst (iD rows)), .own (iD more), a, .val (.int (j : Int)), .val (.lst (iD order)), b, c, d] = .ok (.fr (iD (more ++ order)), [.val (.lst (jD draw)), .val (.lst (iD made)), .val (.lst (iD rows)), .val (.lst (iD more)), a, .val (.int (j : Int)), .val (.lst (iD order)), b, c, d]) := by
            have : ev C (.bin .Add (.slot 3) (.slot 6)) [.val (.lst (jD draw)), .val (.lst (iD made)), .val (.lst (iD rows)), .own (iD more), a, .val (.int (j : Int)), .val (.lst (iD order)), b, c, d] = (binD .Add (.lst (iD more)) (.lst (iD order))).bnd fun r => .ok (r, [.val (.lst (jD draw)), .val (.lst (iD made)), .val (.lst (iD rows)), .val (.lst (iD more)), a, .val (.int (j : Int)), .val (.lst (iD order)), b, c, d]) := rfl
            rw [this, catN (by omega)]
          exact exs_rt (x_retE' he rfl) ⟨rfl, _, rfl, ⟨fun x hx => (List.mem_append.mp hx).elim (fun q => .inl (hsp x q)) fun q => .inr ((om x).mp q), fun x hx => List.mem_append_right _ ((om x).mpr hx), by simp; omega⟩⟩
        · have he : ev C (.bin .Add (.slot 6) (.slot 3)) [.val (.lst (jD draw)), .val (.lst (iD made)), .val (.lst (iD rows)), .own (iD more), a, .val (.int (j : Int)), .val (.lst (iD order)), b, c, d] = .ok (.fr (iD (order ++ more)), [.val (.lst (jD draw)), .val (.lst (iD made)), .val (.lst (iD rows)), .val (.lst (iD more)), a, .val (.int (j : Int)), .val (.lst (iD order)), b, c, d]) := by
            have : ev C (.bin .Add (.slot 6) (.slot 3)) [.val (.lst (jD draw)), .val (.lst (iD made)), .val (.lst (iD rows)), .own (iD more), a, .val (.int (j : Int)), .val (.lst (iD order)), b, c, d] = (binD .Add (.lst (iD order)) (.lst (iD more))).bnd fun r => .ok (r, [.val (.lst (jD draw)), .val (.lst (iD made)), .val (.lst (iD rows)), .val (.lst (iD more)), a, .val (.int (j : Int)), .val (.lst (iD order)), b, c, d]) := rfl
            rw [this, catN (by omega)]
          exact exs_rt (x_retE' he rfl) ⟨rfl, _, rfl, ⟨fun x hx => (List.mem_append.mp hx).elim (fun q => .inr ((om x).mp q)) fun q => .inl (hsp x q), fun x hx => List.mem_append_left _ ((om x).mpr hx), by simp; omega⟩⟩
end LW
namespace LW
open PySem PySem.Spec PyProof.Rows L2 DS Gf Bt
def wo (m : Nat) (l : List Nat) (r : Nat) : Nat := l.foldl (fun r x => if m.testBit (Gf.lo x) then r ^^^ x else r) r
theorem wo_sp (m : Nat) : ∀ (l : List Nat) (r : Nat), Sp l (r ^^^ wo m l r)
  | [], r => Nat.xor_self r
  | o :: l, r => by
    have ih := wo_sp m l (if m.testBit (Gf.lo o) then r ^^^ o else r)
    show Sp l (r ^^^ wo m l (if m.testBit (Gf.lo o) then r ^^^ o else r)) ∨ Sp l ((r ^^^ wo m l (if m.testBit (Gf.lo o) then r ^^^ o else r)) ^^^ o)
    split at ih
    · rename_i h
      rw [if_pos h]
      rw [x2] at ih
      exact .inr ih
    · rename_i h
      rw [if_neg h]
      exact .inl ih
theorem wo_keep {m i : Nat} : ∀ (l : List Nat) (r : Nat), (∀ x ∈ l, x.testBit i = false) → (wo m l r).testBit i = r.testBit i
  | [], r, _ => rfl
  | o :: l, r, h => by
    show (wo m l (if m.testBit (Gf.lo o) then r ^^^ o else r)).testBit i = _
    rw [wo_keep l _ fun x hx => h x (List.mem_cons_of_mem _ hx)]
    split
    · rw [Nat.testBit_xor, h o (List.mem_cons_self ..), Bool.xor_false]
    · rfl
theorem wo_bit {m : Nat} : ∀ {l : List Nat} (r y : Nat), Gf.Rd l → y ∈ l → (wo m l r).testBit (Gf.lo y) = (r.testBit (Gf.lo y) ^^ m.testBit (Gf.lo y))
  | [], r, y, _, hy => by cases hy
  | o :: l, r, y, h, hy => by
    have h3 := (List.pairwise_cons.mp h.2).1
    show (wo m l (if m.testBit (Gf.lo o) then r ^^^ o else r)).testBit (Gf.lo y) = _
    rcases List.mem_cons.mp hy with e | hy
    · subst e
      rw [wo_keep l _ fun x hx => (h3 x hx).1]
      split
      · rename_i k
        rw [Nat.testBit_xor, lo_set (h.1 y (List.mem_cons_self ..)), k]
      · rename_i k
        simp at k
        rw [k, Bool.xor_false]
    · rw [wo_bit _ y h.tail hy]
      split
      · rw [Nat.testBit_xor, (h3 y hy).2, Bool.xor_false]
      · rfl
theorem wo_zero {l : List Nat} {m : Nat} (h : Gf.Rd l) (k : Sp l m) : wo m l m = 0 := by
  refine h.tr.clear_zero ?_ fun y hy => ?_
  · have := (wo_sp m l m).xor k
    rw [x2, Nat.xor_self, Nat.zero_xor] at this
    exact this
  · rw [wo_bit m y h hy, Bool.xor_self]
theorem reduced_is {C : Cxt} {rows : List Nat} {s : Nat} (h17 : ∀ m s : Nat, m < 2 ^ s → s ≤ 1000000 → C.fn 17 [.tup (bitsD m s), .int (s : Int)] = .ok (.v (.int (m : Int)))) (h20 : ∀ m k : Nat, C.fn 20 [.int (m : Int), .int (k : Int)] = .ok (.v (.bl (m.testBit k)))) (h21 : ∀ m : Nat, m ≠ 0 → Gf.lo m < 200 → C.fn 21 [.int (m : Int)] = .ok (.v (.int ((Gf.lo m : Nat) : Int))))
    (hr : ∀ m ∈ rows, m < 2 ^ s) (hs : s ≤ 40) (hl : rows.length ≤ 60) : DS.run C d22 [.tup ((redS rows).map fun m => D.tup (bitsD m s)), .lst (iD rows), .int (s : Int), .int ((rk rows : Nat) : Int)] = .ok (.v (.bl true)) := Sat.eq <| by
  have len0 := redS_len rows
  have lt0 := redS_lt hr
  have rd0 := redS_rd rows
  have as0 := redS_as rows
  have ev0 := redS_eqv rows
  obtain ⟨ms, hms⟩ : ∃ ms, ms = redS rows := ⟨_, rfl⟩
  rw [← hms] at len0 lt0 rd0 as0 ev0 ⊢
  rw [← len0]
  obtain ⟨t, ht⟩ : ∃ t, t = D.tup (ms.map fun m => D.tup (bitsD m s)) := ⟨_, rfl⟩
  have tseq : seqOf t = some (ms.map fun m => D.tup (bitsD m s)) := by rw [ht]; rfl
  have tlen : (ms.map fun m => D.tup (bitsD m s)).length = ms.length := by simp
  have mlen : ms.length ≤ 60 := by
    have := kept_len rows []
    rw [len0]
    unfold rk kept
    simp at this
    omega
  have lo40 : ∀ m ∈ ms, Gf.lo m < 200 := fun m hm => by
    have h1 := lo_set (rd0.1 m hm)
    have h2 := lt0 m hm
    by_cases h : Gf.lo m < s
    · omega
    · rw [Nat.testBit_lt_two_pow (Nat.lt_of_lt_of_le h2 (Nat.pow_le_pow_right (by decide) (by omega)))] at h1
      cases h1
  rw [← ht]
  refine run_sat rfl ?_
  refine exs_cons (x_ife (k := false) (tt_or (k := false) (l := false) (tt_not (k := true) (tt_tru (vv_blt (r := .v (.bl true)) (wl_cons (vv_slot (i := 0) rfl).w wl_nil) (by rw [ht]; rfl)).w rfl)) fun _ => tt_or1 (tt_cmp (len_blt (vv_slot (i := 0) rfl).w tseq tlen).w (vv_slot (i := 3) rfl).w (by
    rw [cmp_ne, eqD_int]
    simp))) (fun h => by cases h) fun _ => exs_nil ?_)
  refine exs_next (σ1 := [.val t, .val (.lst (iD rows)), .val (.int (s : Int)), .val (.int (ms.length : Int)), .own [], .un, .un, .un, .un, .un, .un]) rfl ?_
  refine exs_next (σ1 := [.val t, .val (.lst (iD rows)), .val (.int (s : Int)), .val (.int (ms.length : Int)), .own [], .own [], .un, .un, .un, .un, .un]) rfl ?_
  refine exs_cons (for_sat (σ1 := [.val t, .val (.lst (iD rows)), .val (.int (s : Int)), .val (.int (ms.length : Int)), .own [], .own [], .un, .un, .un, .un, .un]) (rs := [.v t]) (xs := ms.map fun m => D.tup (bitsD m s)) rfl (by simp [itD, seq1D, Ar.view, tseq]) rfl
    (fun i σ => i ≤ ms.length ∧ ∃ a b, σ = [.val t, .val (.lst (iD rows)), .val (.int (s : Int)), .val (.int (ms.length : Int)), .own (iD (ms.take i)), .own (iD ((ms.take i).map Gf.lo)), a, .un, b, .un, .un]) ⟨Nat.zero_le _, .un, .un, rfl⟩ ?_ ?_)
  · rintro i x σ hx ⟨hile, a, b, rfl⟩
    rw [List.getElem?_map] at hx
    obtain ⟨m, em⟩ : ∃ m, ms[i]? = some m := by
      cases e : ms[i]? with
      | none => rw [e] at hx; cases hx
      | some m => exact ⟨m, rfl⟩
    rw [em] at hx
    have hx : D.tup (bitsD m s) = x := Option.some.inj hx
    subst hx
    have hmem := List.mem_of_getElem? em
    have hil : i < ms.length := (List.getElem?_eq_some_iff.mp em).1
    have m0 := rd0.1 m hmem
    have tl : (iD ((ms.take i).map Gf.lo)).length = i := by simp [iD]; omega
    have tl2 : (iD (ms.take i)).length = i := by simp [iD]; omega
    refine ⟨[.val t, .val (.lst (iD rows)), .val (.int (s : Int)), .val (.int (ms.length : Int)), .own (iD (ms.take i)), .own (iD ((ms.take i).map Gf.lo)), .val (.tup (bitsD m s)), .un, b, .un, .un], rfl, ?_⟩
    refine exs_next (x_setS (vv_call (vl_cons (vv_slot (i := 6) rfl) (vl_cons (vv_slot (i := 2) rfl) vl_nil)) (h17 m s (lt0 m hmem) (by omega)))) ?_
    show Sat (exs C _ [.val t, .val (.lst (iD rows)), .val (.int (s : Int)), .val (.int (ms.length : Int)), .own (iD (ms.take i)), .own (iD ((ms.take i).map Gf.lo)), .val (.tup (bitsD m s)), .un, .val (.int (m : Int)), .un, .un]) _
    refine exs_cons (x_ife (k := false) (tt_cmp (vv_slot (i := 8) rfl).w vv_int.w (by
      show some (decide ((m : Int) ≤ 0)) = some false
      rw [decide_eq_false (by omega)])) (fun h => by cases h) fun _ => exs_nil ?_)
    have hfirst : Vv C (.call 21 (.cons (.slot 8) .nil)) [.val t, .val (.lst (iD rows)), .val (.int (s : Int)), .val (.int (ms.length : Int)), .own (iD (ms.take i)), .own (iD ((ms.take i).map Gf.lo)), .val (.tup (bitsD m s)), .un, .val (.int (m : Int)), .un, .un] (.int ((Gf.lo m : Nat) : Int)) := vv_call (vl_cons (vv_slot (i := 8) rfl) vl_nil) (h21 m m0 (lo40 m hmem))
    have hln : Vv C (.blt .len (.cons (.bor 5) .nil)) [.val t, .val (.lst (iD rows)), .val (.int (s : Int)), .val (.int (ms.length : Int)), .own (iD (ms.take i)), .own (iD ((ms.take i).map Gf.lo)), .val (.tup (bitsD m s)), .un, .val (.int (m : Int)), .un, .un] (.int (i : Int)) := len_blt (vw_own (i := 5) rfl) rfl tl
    have htest : Tt C (.andT (.cons (.cmpT .Gt (.blt .len (.cons (.bor 5) .nil)) (.int 0)) (.cons (.cmpT .LtE (.call 21 (.cons (.slot 8) .nil)) (.ix (.bor 5) (.bin .Sub (.blt .len (.cons (.bor 5) .nil)) (.int 1)))) .nil))) [.val t, .val (.lst (iD rows)), .val (.int (s : Int)), .val (.int (ms.length : Int)), .own (iD (ms.take i)), .own (iD ((ms.take i).map Gf.lo)), .val (.tup (bitsD m s)), .un, .val (.int (m : Int)), .un, .un] (decide ((0 : Int) < (i : Int)) && false) := tt_and (l := false) (tt_cmp hln.w vv_int.w rfl) fun hp => tt_and1 (by
      have hp := of_decide_eq_true hp
      obtain ⟨q, eq⟩ : ∃ q, ms[i - 1]? = some q := ⟨_, List.getElem?_eq_getElem (by omega)⟩
      have hsub : binD .Sub (.int (i : Int)) (.int 1) = .ok (.v (.int ((i - 1 : Nat) : Int))) := by
        rw [sub_okI]
        congr 3
        omega
      have hix : ((ms.take i).map Gf.lo)[i - 1]? = some (Gf.lo q) := by
        rw [List.getElem?_map, List.getElem?_take, if_pos (by omega), eq]
        rfl
      refine tt_cmp hfirst.w (vv_ix (vw_own (i := 5) rfl) (vv_bin (r := .v (.int ((i - 1 : Nat) : Int))) hln.w vv_int.w hsub).w (iD_at hix)).w ?_
      have hlt := List.pairwise_iff_getElem.mp as0 (i - 1) i (by omega) hil (by omega)
      have e1 : ms[i - 1] = q := by
        have := List.getElem?_eq_getElem (l := ms) (i := i - 1) (by omega)
        rw [eq] at this
        exact (Option.some.inj this).symm
      have e2 : ms[i] = m := by
        have := List.getElem?_eq_getElem hil
        rw [em] at this
        exact (Option.some.inj this).symm
      rw [e1, e2] at hlt
      show some (decide (((Gf.lo m : Nat) : Int) ≤ ((Gf.lo q : Nat) : Int))) = some false
      rw [decide_eq_false (by omega)])
    rw [Bool.and_false] at htest
    refine exs_cons (x_ife htest (fun h => by cases h) fun _ => exs_nil ?_)
    refine exs_next (x_app (ds := iD (ms.take i)) rfl (vv_slot (i := 8) rfl) (by rw [tl2]; exact Nat.lt_of_le_of_lt (show i ≤ 60 by omega) (by decide))) ?_
    have hfirst2 : Vv C (.call 21 (.cons (.slot 8) .nil)) [.val t, .val (.lst (iD rows)), .val (.int (s : Int)), .val (.int (ms.length : Int)), .own (iD (ms.take i) ++ [.int (m : Int)]), .own (iD ((ms.take i).map Gf.lo)), .val (.tup (bitsD m s)), .un, .val (.int (m : Int)), .un, .un] (.int ((Gf.lo m : Nat) : Int)) := vv_call (vl_cons (vv_slot (i := 8) rfl) vl_nil) (h21 m m0 (lo40 m hmem))
    refine exs_next (x_app (i := 5) (ds := iD ((ms.take i).map Gf.lo)) rfl hfirst2 (by rw [tl]; exact Nat.lt_of_le_of_lt (show i ≤ 60 by omega) (by decide))) (exs_nil ⟨by omega, .val (.tup (bitsD m s)), .val (.int (m : Int)), ?_⟩)
    rw [take_snoc em]
    unfold iD
    simp only [List.map_append]
    rfl
  · rintro σ ⟨_, a, b, rfl⟩
    rw [tlen, List.take_length]
    have ml : (iD ms).length = ms.length := by simp [iD]
    have loat : ∀ {i m : Nat}, ms[i]? = some m → (ms.map Gf.lo)[i]? = some (Gf.lo m) := fun e => by rw [List.getElem?_map, e]; rfl
    refine exs_via (fun σ => ∃ b7 b9, σ = [.val t, .val (.lst (iD rows)), .val (.int (s : Int)), .val (.int (ms.length : Int)), .own (iD ms), .own (iD (ms.map Gf.lo)), a, b7, b, b9, .un])
      (for_sat (σ1 := [.val t, .val (.lst (iD rows)), .val (.int (s : Int)), .val (.int (ms.length : Int)), .own (iD ms), .own (iD (ms.map Gf.lo)), a, .un, b, .un, .un]) (rs := [.v (.int (ms.length : Int))]) (xs := (List.range ms.length).map fun k : Nat => D.int (k : Int)) (vl_cons (len_blt (vw_own (i := 4) rfl) rfl ml) vl_nil) (range1_ok (by omega)) rfl
        (fun _ σ => ∃ b7 b9, σ = [.val t, .val (.lst (iD rows)), .val (.int (s : Int)), .val (.int (ms.length : Int)), .own (iD ms), .own (iD (ms.map Gf.lo)), a, b7, b, b9, .un]) ⟨.un, .un, rfl⟩ ?_ fun σ h => ⟨rfl, h⟩) ?_
    · rintro i y σ hy ⟨b7, b9, rfl⟩
      obtain ⟨hil, rfl⟩ := getI hy
      obtain ⟨p, ep⟩ : ∃ p, ms[i]? = some p := ⟨_, List.getElem?_eq_getElem hil⟩
      refine ⟨[.val t, .val (.lst (iD rows)), .val (.int (s : Int)), .val (.int (ms.length : Int)), .own (iD ms), .own (iD (ms.map Gf.lo)), a, .val (.int (i : Int)), b, b9, .un], rfl, ?_⟩
      refine exs_cons (for_sat (σ1 := [.val t, .val (.lst (iD rows)), .val (.int (s : Int)), .val (.int (ms.length : Int)), .own (iD ms), .own (iD (ms.map Gf.lo)), a, .val (.int (i : Int)), b, b9, .un]) (rs := [.v (.int (ms.length : Int))]) (xs := (List.range ms.length).map fun k : Nat => D.int (k : Int)) (vl_cons (len_blt (vw_own (i := 4) rfl) rfl ml) vl_nil) (range1_ok (by omega)) rfl
        (fun _ σ => ∃ b9, σ = [.val t, .val (.lst (iD rows)), .val (.int (s : Int)), .val (.int (ms.length : Int)), .own (iD ms), .own (iD (ms.map Gf.lo)), a, .val (.int (i : Int)), b, b9, .un]) ⟨b9, rfl⟩ ?_ ?_)
      · rintro k z σ hz ⟨b9, rfl⟩
        obtain ⟨hkl, rfl⟩ := getI hz
        obtain ⟨q, eq⟩ : ∃ q, ms[k]? = some q := ⟨_, List.getElem?_eq_getElem hkl⟩
        refine ⟨[.val t, .val (.lst (iD rows)), .val (.int (s : Int)), .val (.int (ms.length : Int)), .own (iD ms), .own (iD (ms.map Gf.lo)), a, .val (.int (i : Int)), b, .val (.int (k : Int)), .un], rfl, ?_⟩
        have hne : cmpD .NotEq (.int (i : Int)) (.int (k : Int)) = some (!decide ((i : Int) = (k : Int))) := by
          rw [cmp_ne, eqD_int]
          rfl
        have hbit : i ≠ k → q.testBit (Gf.lo p) = false := fun hik => by
          have g1 : ms[i] = p := by
            have := List.getElem?_eq_getElem hil
            rw [ep] at this
            exact (Option.some.inj this).symm
          have g2 : ms[k] = q := by
            have := List.getElem?_eq_getElem hkl
            rw [eq] at this
            exact (Option.some.inj this).symm
          rcases Nat.lt_or_gt_of_ne hik with hlt | hlt
          · have := (List.pairwise_iff_getElem.mp rd0.2 i k hil hkl hlt).1
            rwa [g1, g2] at this
          · have := (List.pairwise_iff_getElem.mp rd0.2 k i hkl hil hlt).2
            rwa [g1, g2] at this
        refine exs_cons (x_ife (k := (!decide ((i : Int) = (k : Int))) && q.testBit (Gf.lo p)) (tt_and (tt_cmp (vv_slot (i := 7) rfl).w (vv_slot (i := 9) rfl).w hne) fun _ => tt_and1 (tt_tru (vv_call (vl_cons (vv_ix (vw_own (i := 4) rfl) (vv_slot (i := 9) rfl).w (iD_at eq)) (vl_cons (vv_ix (vw_own (i := 5) rfl) (vv_slot (i := 7) rfl).w (iD_at (loat ep))) vl_nil)) (h20 q (Gf.lo p))).w rfl)) (fun h => ?_) fun _ => exs_nil (exs_nil ⟨.val (.int (k : Int)), rfl⟩))
        exfalso
        rw [Bool.and_eq_true, Bool.not_eq_true'] at h
        have h1 := of_decide_eq_false h.1
        rw [hbit (by omega)] at h
        cases h.2
      · rintro σ ⟨b9, rfl⟩
        exact exs_nil ⟨.val (.int (i : Int)), b9, rfl⟩
    · rintro σ1 ⟨b7, b9, rfl⟩
      refine exs_cons (for_sat (σ1 := [.val t, .val (.lst (iD rows)), .val (.int (s : Int)), .val (.int (ms.length : Int)), .own (iD ms), .own (iD (ms.map Gf.lo)), a, b7, b, b9, .un]) (rs := [.v (.lst (iD rows))]) (xs := iD rows) rfl rfl rfl
        (fun _ σ => ∃ b7 b8 b10, σ = [.val t, .val (.lst (iD rows)), .val (.int (s : Int)), .val (.int (ms.length : Int)), .own (iD ms), .own (iD (ms.map Gf.lo)), a, b7, b8, b9, b10]) ⟨b7, b, .un, rfl⟩ ?_ ?_)
      · rintro i y σ hy ⟨b7, b8, b10, rfl⟩
        obtain ⟨m, em, rfl⟩ := iD_get hy
        have hsp : Sp ms m := (ev0 m).mpr (Sp.mem (List.mem_of_getElem? em))
        refine ⟨[.val t, .val (.lst (iD rows)), .val (.int (s : Int)), .val (.int (ms.length : Int)), .own (iD ms), .own (iD (ms.map Gf.lo)), a, b7, .val (.int (m : Int)), b9, b10], rfl, ?_⟩
        refine exs_next (x_setS (vv_slot (i := 8) rfl)) ?_
        refine exs_via (fun σ => ∃ b7, σ = [.val t, .val (.lst (iD rows)), .val (.int (s : Int)), .val (.int (ms.length : Int)), .own (iD ms), .own (iD (ms.map Gf.lo)), a, b7, .val (.int (m : Int)), b9, .val (.int ((0 : Nat) : Int))])
          (for_sat (σ1 := [.val t, .val (.lst (iD rows)), .val (.int (s : Int)), .val (.int (ms.length : Int)), .own (iD ms), .own (iD (ms.map Gf.lo)), a, b7, .val (.int (m : Int)), b9, .val (.int (m : Int))]) (rs := [.v (.int (ms.length : Int))]) (xs := (List.range ms.length).map fun k : Nat => D.int (k : Int)) (vl_cons (len_blt (vw_own (i := 4) rfl) rfl ml) vl_nil) (range1_ok (by omega)) rfl
            (fun k σ => ∃ b7, σ = [.val t, .val (.lst (iD rows)), .val (.int (s : Int)), .val (.int (ms.length : Int)), .own (iD ms), .own (iD (ms.map Gf.lo)), a, b7, .val (.int (m : Int)), b9, .val (.int ((wo m (ms.take k) m : Nat) : Int))]) ⟨b7, rfl⟩ ?_ fun σ ⟨b7, h⟩ => ⟨rfl, b7, by
              rw [List.length_map, List.length_range, List.take_length, wo_zero rd0 hsp] at h
              exact h⟩) ?_
        · rintro k z σ hz ⟨b7, rfl⟩
          obtain ⟨hkl, rfl⟩ := getI hz
          obtain ⟨q, eq⟩ : ∃ q, ms[k]? = some q := ⟨_, List.getElem?_eq_getElem hkl⟩
          obtain ⟨r, hr'⟩ : ∃ r, r = wo m (ms.take k) m := ⟨_, rfl⟩
          have e1 : wo m (ms.take (k + 1)) m = if m.testBit (Gf.lo q) then r ^^^ q else r := by
            rw [take_snoc eq, hr']
            unfold wo
            rw [List.foldl_append]
            rfl
          rw [e1, ← hr']
          refine ⟨[.val t, .val (.lst (iD rows)), .val (.int (s : Int)), .val (.int (ms.length : Int)), .own (iD ms), .own (iD (ms.map Gf.lo)), a, .val (.int (k : Int)), .val (.int (m : Int)), b9, .val (.int (r : Int))], rfl, exs_cons (x_ife (k := m.testBit (Gf.lo q)) (tt_tru (vv_call (vl_cons (vv_slot (i := 8) rfl) (vl_cons (vv_ix (vw_own (i := 5) rfl) (vv_slot (i := 7) rfl).w (iD_at (loat eq))) vl_nil)) (h20 m (Gf.lo q))).w rfl) (fun h => ?_) fun h => ?_)⟩
          · refine exs_next (x_setS (vv_bin (vv_slot (i := 10) rfl).w (vv_ix (vw_own (i := 4) rfl) (vv_slot (i := 7) rfl).w (iD_at eq)).w xor_ok)) (exs_nil (exs_nil ⟨.val (.int (k : Int)), ?_⟩))
            rw [if_pos h]
            rfl
          · refine exs_nil (exs_nil ⟨.val (.int (k : Int)), ?_⟩)
            rw [if_neg (by rw [h]; simp)]
        · rintro σ1 ⟨b7, rfl⟩
          exact exs_cons (x_ife (k := false) (tt_cmp (vv_slot (i := 10) rfl).w vv_int.w (by rw [ne_test]; rfl)) (fun h => by cases h) fun _ => exs_nil (exs_nil ⟨b7, .val (.int (m : Int)), .val (.int ((0 : Nat) : Int)), rfl⟩))
      · rintro σ ⟨b7, b8, b10, rfl⟩
        exact exs_rt rfl ⟨rfl, rfl⟩
end LW
namespace LW
open PySem PySem.Spec PyProof.Rows L2 DS Gf Bt
theorem or_ev {C : Cxt} {σ : En} {a b : IR} {k : Bool} {d : D} (h : Vv C a σ (.bl k)) (h2 : k = false → Vv C b σ d) (h3 : k = true → d = .bl true) : ev C (.orE (.cons a (.cons b .nil))) σ = .ok (.v d, σ) := by
  unfold Vv at h
  simp only [ev]
  rw [evOr, h]
  simp only [Out.bnd, Ar.view]
  cases k with
  | true => rw [h3 rfl]; rfl
  | false =>
    have := h2 rfl
    unfold Vv at this
    simp only [Bool.false_eq_true, if_false]
    rw [evOr]
    exact this
theorem and_ev {C : Cxt} {σ : En} {a b : IR} {k : Bool} {d : D} (h : Vv C a σ (.bl k)) (h2 : k = true → Vv C b σ d) (h3 : k = false → d = .bl false) : ev C (.andE (.cons a (.cons b .nil))) σ = .ok (.v d, σ) := by
  unfold Vv at h
  simp only [ev]
  rw [evAnd, h]
  simp only [Out.bnd, Ar.view]
  cases k with
  | true =>
    have := h2 rfl
    unfold Vv at this
    simp only [if_true]
    rw [evAnd]
    exact this
  | false => rw [h3 rfl]; rfl
/-! the defs by number -/
theorem g0 (n : Int) : f0 [.int n] = .ok (.v (.int (Builtin.bitAnd n (-n)))) := rfl
theorem g8 (m s : Nat) (hs : s ≤ 1000000) : f8 [.int (m : Int), .int (s : Int)] = .ok (.fr (bitsD m s)) := lawBits_ok hs
theorem g10 (rows : List Nat) (h : rows.length ≤ 1000000) : f10 [.lst (iD rows)] = .ok (.v (.int ((rk rows : Nat) : Int))) := lrank_ok h
theorem g11 (ms : List Nat) (h : ms.length ≤ 1000000) : f11 [.lst (iD ms)] = .ok (.v (.tup (iD (redS ms)))) := red_ok (C := c11) (j := 0) (fun n => g0 n) rfl h
theorem g12 {s : Nat} (hs : s ≤ 1000000) (m : Nat) (t : D) (h : RowD s m t) : f12 [t] = .ok (.v (.int (m : Int))) := mask_ok (C := c12) h.seq h.2 hs
theorem g13 (m s : Nat) (hs : s ≤ 1000000) : f13 [.int (m : Int), .int (s : Int)] = .ok (.v (.tup (bitsD m s))) := bitsOf_ok (C := c13) hs
theorem e14_13 : c14.fn 13 = f13 := rfl
theorem e25_13 : c25.fn 13 = f13 := rfl
theorem g14 {s : Nat} {ms : List Nat} {t : D} (ht : TabD s ms t) (hs : s ≤ 1000000) (hl : ms.length ≤ 1000000) : f14 [t] = .ok (.v (.tup ((redS ms).map fun m => D.tup (bitsD m s)))) := reduced_ok (C := c14) (jm := 12) (jb := 13) (jr := 11) (fun m t h => g12 hs m t h) (fun m s h => by rw [e14_13]; exact g13 m s h) (fun ms h => g11 ms h) ht hs hl
theorem g15 (n : Int) : f15 [.int n] = .ok (.v (.bl true)) := rfl
theorem g16 (a b : Int) : f16 [.int a, .int b] = .ok (.v (.bl (decide (a = b)))) := number_ok (C := c16) fun n => g15 n
theorem g17 (m s : Nat) (h : m < 2 ^ s) (hs : s ≤ 1000000) : f17 [.tup (bitsD m s), .int (s : Int)] = .ok (.v (.int (m : Int))) := maskOf_ok (C := c17) (fun n => g15 n) h hs
theorem g18 (l : List (Nat × Nat)) (x u : Nat) (h : ∀ q ∈ l, q.1 ≠ 0) : f18 [.lst (pD l), .int (x : Int), .int (u : Int)] = .ok (.v (prD (sumWith l (x, u)))) := sum_ok (C := c18) (j := 0) (fun n => g0 n) h
theorem g19 {s : Nat} {ms : List Nat} {t row : D} {x : Nat} (ht : TabD s ms t) (hr : RowD s x row) (hs : s ≤ 1000000) (hl : ms.length ≤ 1000000) : ∃ d, f19 [t, row] = .ok (.v d) ∧ Told ms x d := by
  obtain ⟨_, e, d, rfl, h⟩ := comb_ok (C := c19) (js := 18) (jm := 12) (fun l x u h => g18 l x u h) (fun m t h => g12 hs m t h) ht hr hl
  exact ⟨d, e, h⟩
theorem g20 (m k : Nat) : f20 [.int (m : Int), .int (k : Int)] = .ok (.v (.bl (m.testBit k))) := has_ok
theorem g21 (m : Nat) (h : m ≠ 0) (k : Gf.lo m < 200) : f21 [.int (m : Int)] = .ok (.v (.int ((Gf.lo m : Nat) : Int))) := first_ok (C := c21) (fun m k => g20 m k) h k
theorem g22 {rows : List Nat} {s : Nat} (hr : ∀ m ∈ rows, m < 2 ^ s) (hs : s ≤ 40) (hl : rows.length ≤ 60) : f22 [.tup ((redS rows).map fun m => D.tup (bitsD m s)), .lst (iD rows), .int (s : Int), .int ((rk rows : Nat) : Int)] = .ok (.v (.bl true)) := reduced_is (C := c22) (fun m s h k => g17 m s h k) (fun m k => g20 m k) (fun m h k => g21 m h k) hr hs hl
theorem g23 {rows : List Nat} {x : Nat} {d : D} (ht : Told rows x d) (hl : rows.length ≤ 100000) : f23 [d, .lst (iD rows), .int (x : Int)] = .ok (.v (.bl true)) := isSum_ok (C := c23) (fun r h => g10 r h) (fun n => g15 n) ht hl
theorem g24 {ms ns : List Nat} {s : Nat} (hm : ∀ m ∈ ms, m < 2 ^ s) (hs : s ≤ 1000000) (hl : ms.length ≤ 1000000) : f24 [.tup (ms.map fun m => D.tup (bitsD m s)), .lst (iD ns), .int (s : Int)] = .ok (.v (.bl (decide (ms = ns)))) := table_ok (C := c24) (fun m s h k => g17 m s h k) hm hs hl
theorem g25 {s : Nat} {ms : List Nat} {t : D} (ht : TabD s ms t) (hs : s ≤ 1000000) : f25 [t, .int (s : Int)] = .ok (.v (.tup (bitsD (xsum ms) s))) := added_ok (C := c25) (jm := 12) (jb := 13) (fun m t h => g12 hs m t h) (fun m s h => by rw [e25_13]; exact g13 m s h) ht hs
theorem g26 (ms : List Nat) (h : ms.length ≤ 1000000) : f26 [.lst (iD ms)] = .ok (.v (.int ((rk ms : Nat) : Int))) := maskRank_ok (C := c26) (jr := 11) (fun ms h => g11 ms h) h
theorem g27 {s : Nat} {ms : List Nat} {t : D} (ht : TabD s ms t) (hs : s ≤ 1000000) (hl : ms.length ≤ 1000000) : f27 [t] = .ok (.v (.int ((rk ms : Nat) : Int))) := rank_ok (C := c27) (jm := 12) (jk := 26) (fun m t h => g12 hs m t h) (fun ms h => g26 ms h) ht hl
theorem g29 (rows : List Nat) (s : Nat) (hs : s ≤ 1000000) (hl : rows.length ≤ 1000000) : f29 [.lst (iD rows), .int (s : Int)] = .ok (.fr (iD (colsOf rows s))) := cols_ok (C := c29) (fun m k => g20 m k) hs hl
theorem xsum_lt {ms : List Nat} {s : Nat} (h : ∀ m ∈ ms, m < 2 ^ s) : xsum ms < 2 ^ s := by
  have : ∀ (l : List Nat) (r : Nat), (∀ m ∈ l, m < 2 ^ s) → r < 2 ^ s → l.foldl (· ^^^ ·) r < 2 ^ s := by
    intro l
    induction l with
    | nil => exact fun r _ h => h
    | cons a l ih => exact fun r h1 h2 => ih _ (fun m hm => h1 m (List.mem_cons_of_mem _ hm)) (xor_lt2 h2 (h1 a (List.mem_cons_self ..)))
  exact this ms 0 h (Nat.two_pow_pos _)
theorem redS_le (ms : List Nat) : (redS ms).length ≤ ms.length := by
  rw [redS_len]
  have := kept_len ms []
  unfold rk kept
  simpa using this
/-- the second table -/
theorem second_ok {other : List Nat} {s x : Nat} {sec sought : D} (ht : TabD s other sec) (ho : ∀ m ∈ other, m < 2 ^ s) (hr : RowD s x sought) (hs : s ≤ 40) (hl : other.length ≤ 1000) : f28 [sec, .lst (iD other), .int (s : Int), .lst (iD (redS other)), sought, .int (x : Int)] = .ok (.v (.bl true)) := Sat.eq <| by
  have ol : (iD other).length = other.length := by simp [iD]
  have rl : (iD (redS other)).length = rk other := by rw [← redS_len]; simp [iD]
  obtain ⟨σ, hσ⟩ : ∃ σ : En, σ = [.val sec, .val (.lst (iD other)), .val (.int (s : Int)), .val (.lst (iD (redS other))), .val sought, .val (.int (x : Int)), .un, .un] := ⟨_, rfl⟩
  refine run_sat rfl ?_
  have e27 : c28.fn 27 [sec] = .ok (.v (.int ((rk other : Nat) : Int))) := g27 ht (by omega) (by omega)
  have e16 : c28.fn 16 [.int ((rk other : Nat) : Int), .int ((rk other : Nat) : Int)] = .ok (.v (.bl true)) := by
    have := g16 ((rk other : Nat) : Int) ((rk other : Nat) : Int)
    rw [decide_eq_true rfl] at this
    exact this
  have e14 : c28.fn 14 [sec] = .ok (.v (.tup ((redS other).map fun m => D.tup (bitsD m s)))) := g14 ht (by omega) (by omega)
  have e24 : c28.fn 24 [.tup ((redS other).map fun m => D.tup (bitsD m s)), .lst (iD (redS other)), .int (s : Int)] = .ok (.v (.bl true)) := by
    have := g24 (ns := redS other) (redS_lt ho) (s := s) (by omega) (by have := redS_le other; omega)
    rw [decide_eq_true rfl] at this
    exact this
  have e25 : c28.fn 25 [sec, .int (s : Int)] = .ok (.v (.tup (bitsD (xsum other) s))) := g25 ht (by omega)
  have e17 : c28.fn 17 [.tup (bitsD (xsum other) s), .int (s : Int)] = .ok (.v (.int ((xsum other : Nat) : Int))) := g17 _ _ (xsum_lt ho) (by omega)
  refine exs_cons (x_ife (k := false) (tt_or (k := false) (l := false) (tt_not (k := true) (tt_tru (vv_call (vl_cons (vv_call (vl_cons (vv_slot (i := 0) rfl) vl_nil) e27) (vl_cons (len_blt (vv_slot (i := 3) rfl).w rfl rl) vl_nil)) e16).w rfl)) fun _ => tt_or1 (tt_not (k := true) (tt_tru (vv_call (vl_cons (vv_call (vl_cons (vv_slot (i := 0) rfl) vl_nil) e14) (vl_cons (vv_slot (i := 3) rfl) (vl_cons (vv_slot (i := 2) rfl) vl_nil))) e24).w rfl))) (fun h => by cases h) fun _ => exs_nil ?_)
  refine exs_next (σ1 := [.val sec, .val (.lst (iD other)), .val (.int (s : Int)), .val (.lst (iD (redS other))), .val sought, .val (.int (x : Int)), .val (.int ((0 : Nat) : Int)), .un]) rfl ?_
  refine exs_cons (for_sat (σ1 := [.val sec, .val (.lst (iD other)), .val (.int (s : Int)), .val (.lst (iD (redS other))), .val sought, .val (.int (x : Int)), .val (.int ((0 : Nat) : Int)), .un]) (rs := [.v (.lst (iD other))]) (xs := iD other) rfl rfl rfl
    (fun i σ => ∃ w, σ = [.val sec, .val (.lst (iD other)), .val (.int (s : Int)), .val (.lst (iD (redS other))), .val sought, .val (.int (x : Int)), .val (.int ((xsum (other.take i) : Nat) : Int)), w]) ⟨.un, rfl⟩ ?_ ?_)
  · rintro i y σ hy ⟨w, rfl⟩
    obtain ⟨m, em, rfl⟩ := iD_get hy
    refine ⟨_, rfl, exs_next (x_setS (vv_bin (vv_slot (i := 6) rfl).w (vv_slot (i := 7) rfl).w xor_ok)) (exs_nil ⟨.val (.int (m : Int)), ?_⟩)⟩
    have : xsum (other.take (i + 1)) = xsum (other.take i) ^^^ m := by
      rw [take_snoc em]
      unfold xsum
      rw [List.foldl_append]
      rfl
    rw [this]
    rfl
  · rintro σ ⟨w, rfl⟩
    rw [ol, List.take_length]
    refine exs_cons (x_ife (k := false) (tt_cmp (vv_call (vl_cons (vv_call (vl_cons (vv_slot (i := 0) rfl) (vl_cons (vv_slot (i := 2) rfl) vl_nil)) e25) (vl_cons (vv_slot (i := 2) rfl) vl_nil)) e17).w (vv_slot (i := 6) rfl).w (by
      simp only [Ar.view]
      rw [cmp_ne, eqD_int]
      simp)) (fun h => by cases h) fun _ => exs_nil ?_)
    obtain ⟨d, e19, htold⟩ := g19 ht hr (by omega) (by omega)
    have e19 : c28.fn 19 [sec, sought] = .ok (.v d) := e19
    have e23 : c28.fn 23 [d, .lst (iD other), .int (x : Int)] = .ok (.v (.bl true)) := g23 htold (by omega)
    exact exs_rt (x_retE (or_ev (d := .bl true) (k := decide ((other.length : Int) = 0)) (vv_cmp (len_blt (vv_slot (i := 1) rfl).w rfl ol).w vv_int.w eq_test) (fun _ => vv_call (vl_cons (vv_call (vl_cons (vv_slot (i := 0) rfl) (vl_cons (vv_slot (i := 4) rfl) vl_nil)) e19) (vl_cons (vv_slot (i := 1) rfl) (vl_cons (vv_slot (i := 5) rfl) vl_nil))) e23) fun _ => rfl) rfl) ⟨rfl, rfl⟩
end LW
namespace LW
open PySem PySem.Spec PyProof.Rows L2 DS Gf Bt
def szH : List Int := [4, 16, 16, 61, 41, 6, 6, 2, 6, 6]
def szW (n : Nat) : List Int := [4, 60] ++ List.replicate n 2
theorem e30_1 : c30.fn 1 = f1 := rfl
theorem e30_2 : c30.fn 2 = f2 := rfl
theorem e30_4 : c30.fn 4 = f4 := rfl
theorem e30_5 : c30.fn 5 = f5 := rfl
theorem e30_6 : c30.fn 6 = f6 := rfl
theorem e30_7 : c30.fn 7 = f7 := rfl
theorem e30_9 : c30.fn 9 = f9 := rfl
theorem e30_10 : c30.fn 10 = f10 := rfl
theorem cellE (ns : List Int) (k : Nat) : ∃ n, c30.fn 4 [.rol (jD ns), .int (k : Int)] = .ok (.v (.int n)) := by
  obtain ⟨_, e, n, rfl⟩ := cell_ok (C := c4) (ns := ns) (k := k)
  exact ⟨n, by rw [e30_4]; exact e⟩
theorem digE (n : Int) {sz : List Int} (h : ∀ s ∈ sz, 0 < s ∧ s < 1073741824) (hl : sz.length ≤ 1000000) : ∃ ds, c30.fn 1 [.int n, .lst (jD sz)] = .ok (.fr (jD ds)) ∧ Dg ds sz := by
  obtain ⟨_, e, ds, rfl, hd⟩ := digits_ok (C := c1) (n := n) h hl
  exact ⟨ds, by rw [e30_1]; exact e, hd⟩
theorem e9_8 : c9.fn 8 = f8 := rfl
theorem dressE {rows : List Nat} {size : Nat} (dress : Int) (hr : ∀ m ∈ rows, m < 2 ^ size) (hs : size ≤ 1000000) (hl : rows.length ≤ 1000000) : ∃ r : Ar, c30.fn 9 [.lst (iD rows), .int (size : Int), .int dress] = .ok r ∧ r.isB = false ∧ TabD size rows r.view := by
  obtain ⟨r, e, h⟩ := dressed_ok (C := c9) (dress := dress) (fun m s h => by rw [e9_8]; exact g8 m s h) hr hs hl
  exact ⟨r, by rw [e30_9]; exact e, h⟩
theorem drawn_eqv {size many : Nat} {own made : List Nat} (h : Drawn size many own made) : Eqv made own := by
  have hown : ∀ (k a : Nat), own[k]? = some a → Sp made a := by
    intro k
    induction k using Nat.strongRecOn with
    | ind k ih =>
      intro a ha
      have hk : k < made.length := by rw [h.l2, ← h.l1]; exact (List.getElem?_eq_some_iff.mp ha).1
      obtain ⟨b, hb⟩ : ∃ b, made[k]? = some b := ⟨_, List.getElem?_eq_getElem hk⟩
      have hs := h.sp k a b ha hb
      have hs2 : Sp made (a ^^^ b) := Sp.sub (fun g hg => by
        obtain ⟨j, hj, ej⟩ := List.mem_iff_getElem.mp hg
        have hjk : j < k := by
          rw [List.length_take] at hj
          omega
        refine ih j hjk g ?_
        have := List.getElem?_eq_getElem hj
        rw [ej, List.getElem?_take, if_pos hjk] at this
        exact this) hs
      have := hs2.xor (Sp.mem (List.mem_of_getElem? hb))
      rwa [xl] at this
  refine Eqv.of (fun g hg => ?_) fun g hg => ?_
  · obtain ⟨k, hk, ek⟩ := List.mem_iff_getElem.mp hg
    have hb : made[k]? = some g := by rw [List.getElem?_eq_getElem hk, ek]
    obtain ⟨a, ha⟩ : ∃ a, own[k]? = some a := ⟨_, List.getElem?_eq_getElem (by rw [h.l1, ← h.l2]; exact hk)⟩
    have hs := h.sp k a g ha hb
    have h1 : Sp own (a ^^^ g) := Sp.sub (fun x hx => Sp.mem (List.mem_of_mem_take hx)) hs
    have := h1.xor (Sp.mem (List.mem_of_getElem? ha))
    rw [x2, Nat.xor_self, Nat.zero_xor] at this
    exact this
  · obtain ⟨k, hk, ek⟩ := List.mem_iff_getElem.mp hg
    exact hown k g (by rw [List.getElem?_eq_getElem hk, ek])
theorem mixed_eqv {rows made other : List Nat} (h : Mixed rows made other) (e : Eqv made rows) : Eqv other rows := Eqv.of (fun g hg => (h.inn g hg).elim id fun k => (e g).mp (Sp.mem k)) fun g hg => Sp.sub (fun x hx => Sp.mem (h.all x hx)) ((e g).mpr (Sp.mem hg))
theorem szH_pos : ∀ s ∈ szH, 0 < s ∧ s < 1073741824 := by decide
theorem szM_pos : ∀ s ∈ szM, 0 < s ∧ s < 1073741824 := by decide
theorem szW_pos (n : Nat) : ∀ s ∈ szW n, 0 < s ∧ s < 1073741824 := by
  intro s hs
  unfold szW at hs
  rcases List.mem_append.mp hs with hs | hs
  · simp at hs
    omega
  · rw [List.eq_of_mem_replicate hs]
    decide
end LW
namespace LW
open PySem PySem.Spec PyProof.Rows L2 DS Gf Bt
theorem callK_ev {C : Cxt} {f : Nat} {perm : List Nat} {es : IRs} {σ : En} {ds : List D} {r : Ar} (hs : VvL C es σ ds) (h : C.fn f (perm.map fun j => ds.getD j .non) = .ok r) : ev C (.callK f perm es) σ = .ok (r, σ) := by
  unfold VvL at hs
  simp only [ev, hs, Out.bnd, view_v, h, noB_v]
  simp
theorem vv_callK {C : Cxt} {f : Nat} {perm : List Nat} {es : IRs} {σ : En} {ds : List D} {r : Ar} (hs : VvL C es σ ds) (h : C.fn f (perm.map fun j => ds.getD j .non) = .ok r) (hr : r.isB = false := by rfl) : Vv C (.callK f perm es) σ r.view := sq_of (callK_ev hs h) hr
theorem v_szH {C : Cxt} {σ : En} : Vv C (.lst (.cons (.int 4) (.cons (.int 16) (.cons (.int 16) (.cons (.int 61) (.cons (.int 41) (.cons (.int 6) (.cons (.int 6) (.cons (.int 2) (.cons (.int 6) (.cons (.int 6) .nil))))))))))) σ (.lst (jD szH)) := vv_lst (ds := jD szH) rfl (show 10 ≤ sizeLine by decide)
theorem v_szW {C : Cxt} {σ : En} {many size : Nat} {a b : IR} (ha : Vv C a σ (.int (size : Int))) (hb : Vv C b σ (.int (many : Int))) (h : size + many ≤ 1000) : Vv C (.bin .Add (.lst (.cons (.int 4) (.cons (.int 60) .nil))) (.bin .Mult (.lst (.cons (.int 2) .nil)) (.bin .Add a b))) σ (.lst (jD (szW (size + many)))) := by
  have w1 : Vv C (.lst (.cons (.int 4) (.cons (.int 60) .nil))) σ (.lst (jD [4, 60])) := vv_lst (ds := jD [4, 60]) rfl (show 2 ≤ sizeLine by decide)
  have w2 : Vv C (.lst (.cons (.int 2) .nil)) σ (.lst [.int 2]) := vv_lst (ds := [.int 2]) rfl (show 1 ≤ sizeLine by decide)
  have w3 : Vv C (.bin .Add a b) σ (.int ((size + many : Nat) : Int)) := vv_bin ha.w hb.w add_ok
  have w4 : Vv C (.bin .Mult (.lst (.cons (.int 2) .nil)) (.bin .Add a b)) σ (.lst (jD (List.replicate (size + many) 2))) := vv_bin (r := .fr (jD (List.replicate (size + many) 2))) w2.w w3.w (rep_ok (by omega))
  exact vv_bin (r := .fr (jD (szW (size + many)))) w1.w w4.w (cat_ok (by simp; omega))
theorem v_szM {C : Cxt} {σ : En} : Vv C (.bin .Add (.bin .Add (.bin .Add (.lst (.cons (.int 61) (.cons (.int 2) (.cons (.int 4) (.cons (.int 2) .nil))))) (.bin .Mult (.lst (.cons (.int 2) .nil)) (.int 180))) (.lst (.cons (.int 18) .nil))) (.bin .Mult (.lst (.cons (.int 61) .nil)) (.int 34))) σ (.lst (jD szM)) := by
  have w1 : Vv C (.lst (.cons (.int 61) (.cons (.int 2) (.cons (.int 4) (.cons (.int 2) .nil))))) σ (.lst (jD [61, 2, 4, 2])) := vv_lst (ds := jD [61, 2, 4, 2]) rfl (show 4 ≤ sizeLine by decide)
  have w2 : Vv C (.lst (.cons (.int 2) .nil)) σ (.lst [.int 2]) := vv_lst (ds := [.int 2]) rfl (show 1 ≤ sizeLine by decide)
  have w3 : Vv C (.bin .Mult (.lst (.cons (.int 2) .nil)) (.int 180)) σ (.lst (jD (List.replicate 180 2))) := vv_bin (r := .fr (jD (List.replicate 180 2))) w2.w vv_int.w (rep_ok (n := 180) (by decide))
  have w4 : Vv C (.lst (.cons (.int 18) .nil)) σ (.lst (jD [18])) := vv_lst (ds := jD [18]) rfl (show 1 ≤ sizeLine by decide)
  have w5 : Vv C (.lst (.cons (.int 61) .nil)) σ (.lst [.int 61]) := vv_lst (ds := [.int 61]) rfl (show 1 ≤ sizeLine by decide)
  have w6 : Vv C (.bin .Mult (.lst (.cons (.int 61) .nil)) (.int 34)) σ (.lst (jD (List.replicate 34 61))) := vv_bin (r := .fr (jD (List.replicate 34 61))) w5.w vv_int.w (rep_ok (n := 34) (by decide))
  have w7 : Vv C (.bin .Add (.lst (.cons (.int 61) (.cons (.int 2) (.cons (.int 4) (.cons (.int 2) .nil))))) (.bin .Mult (.lst (.cons (.int 2) .nil)) (.int 180))) σ (.lst (jD ([61, 2, 4, 2] ++ List.replicate 180 2))) := vv_bin (r := .fr (jD ([61, 2, 4, 2] ++ List.replicate 180 2))) w1.w w3.w (cat_ok (by simp))
  have w8 := vv_bin (r := .fr (jD (([61, 2, 4, 2] ++ List.replicate 180 2) ++ [18]))) w7.w w4.w (cat_ok (by simp))
  exact vv_bin (r := .fr (jD szM)) w8.w w6.w (cat_ok (by simp))
end LW
namespace LW
open PySem PySem.Spec PyProof.Rows L2 DS Gf Bt
theorem e30_14 : c30.fn 14 = f14 := rfl
theorem e30_16 : c30.fn 16 = f16 := rfl
theorem e30_17 : c30.fn 17 = f17 := rfl
theorem e30_19 : c30.fn 19 = f19 := rfl
theorem e30_22 : c30.fn 22 = f22 := rfl
theorem e30_23 : c30.fn 23 = f23 := rfl
theorem e30_24 : c30.fn 24 = f24 := rfl
theorem e30_25 : c30.fn 25 = f25 := rfl
theorem e30_27 : c30.fn 27 = f27 := rfl
theorem e30_28 : c30.fn 28 = f28 := rfl
theorem e30_29 : c30.fn 29 = f29 := rfl
theorem ixT {xs : List D} {j : Nat} {d : D} (h : xs[j]? = some d) : ixD (.tup xs) (.int (j : Int)) = some d := atI_nat h
theorem law_ok (ns : List Int) : f30 [.rol (jD ns)] = .ok (.v (.bl true)) := Sat.eq <| by
  obtain ⟨n0, c0⟩ := cellE ns 0
  obtain ⟨n1, c1'⟩ := cellE ns 1
  obtain ⟨n2, c2'⟩ := cellE ns 2
  obtain ⟨head, dh1, dh⟩ := digE n0 szH_pos (by decide)
  obtain ⟨_, em, many, size, rfl, hm, hs⟩ := measures_ok (C := c2) dh
  have em : c30.fn 2 [.lst (jD head)] = .ok (.v (.tup [.int (many : Int), .int (size : Int)])) := by rw [e30_2]; exact em
  obtain ⟨_, er, own, made, rfl, hD⟩ := rows_ok (ns := ns) hm hs
  have er : c30.fn 5 [.rol (jD ns), .int 3, .int (many : Int), .int (size : Int)] = .ok (.v (.tup [.lst (iD own), .lst (iD made)])) := by rw [e30_5]; exact er
  obtain ⟨dw, dw1, dw2⟩ := digE n1 (szW_pos (size + many)) (by simp [szW]; omega)
  have dwl : dw.length = 2 + (size + many) := by rw [dw2.1]; simp [szW]; omega
  obtain ⟨_, ew, x, rfl, hx⟩ := wanted_ok (C := c6) (draw := dw) (rows := own) (size := size) (n := size + many) (by omega) (by rw [hD.l1]; omega) (by omega) hD.b1 (by omega)
  have ew : c30.fn 6 [.lst (jD dw), .lst (iD own), .int (size : Int)] = .ok (.v (.int (x : Int))) := by rw [e30_6]; exact ew
  obtain ⟨dm, dm1, dm2⟩ := digE n2 szM_pos (by decide)
  obtain ⟨_, eo, other, rfl, hM⟩ := mixed_ok (C := c7) (rows := own) (made := made) dm2 (by rw [hD.l1]; exact hm) (by rw [hD.l2]; exact hm)
  have eo : c30.fn 7 [.lst (jD dm), .lst (iD made), .lst (iD own)] = .ok (.fr (iD other)) := by rw [e30_7]; exact eo
  have eqv : Eqv other own := mixed_eqv hM (drawn_eqv hD)
  have ob : ∀ m ∈ other, m < 2 ^ size := fun m hmm => Sp_lt hD.b1 ((eqv m).mp (Sp.mem hmm))
  obtain ⟨h5, q5, _, _⟩ := dh.at (k := 5) rfl
  obtain ⟨h6, q6, _, _⟩ := dh.at (k := 6) rfl
  obtain ⟨h7, q7, _, _⟩ := dh.at (k := 7) rfl
  obtain ⟨h8, q8, _, _⟩ := dh.at (k := 8) rfl
  obtain ⟨h9, q9, _, _⟩ := dh.at (k := 9) rfl
  have hol : own.length ≤ 60 := by rw [hD.l1]; exact hm
  obtain ⟨tb, etb, tbB, tbT⟩ := dressE h5 hD.b1 (by omega) (by omega)
  obtain ⟨sg, esg, sgB, sgT⟩ := dressE (rows := [x]) (size := size) h7 (fun m hh => by rw [List.mem_singleton.mp hh]; exact hx) (by omega) (by simp)
  obtain ⟨sc, esc, scB, scT⟩ := dressE h8 ob (by omega) (by have := hM.len; omega)
  obtain ⟨so, eso, soR⟩ : ∃ so, ixD sg.view (.int 0) = some so ∧ RowD size x so := by
    obtain ⟨ts, hts | hts, ha⟩ := sgT
    · cases ha with
      | cons a r =>
        rw [hts]
        exact ⟨_, atI_nat (j := 0) rfl, a⟩
    · cases ha with
      | cons a r =>
        rw [hts]
        exact ⟨_, atI_nat (j := 0) rfl, a⟩
  refine run_sat rfl ?_
  refine exs_next (σ1 := [.val (.rol (jD ns)), .val (.lst (jD head)), .un, .un, .un, .un, .un, .un, .un, .un, .un, .un, .un, .un, .un, .un, .un, .un, .un, .un, .un]) (x_setS (vv_call (vl_cons (vv_call (vl_cons (vv_slot (i := 0) rfl) (vl_cons vv_int vl_nil)) c0) (vl_cons v_szH vl_nil)) dh1)) ?_
  refine exs_next (σ1 := [.val (.rol (jD ns)), .val (.lst (jD head)), .val (.tup [.int (many : Int), .int (size : Int)]), .un, .un, .un, .un, .un, .un, .un, .un, .un, .un, .un, .un, .un, .un, .un, .un, .un, .un]) (x_setS (vv_call (vl_cons (vv_slot (i := 1) rfl) vl_nil) em)) ?_
  refine exs_next (σ1 := [.val (.rol (jD ns)), .val (.lst (jD head)), .val (.tup [.int (many : Int), .int (size : Int)]), .val (.int (many : Int)), .un, .un, .un, .un, .un, .un, .un, .un, .un, .un, .un, .un, .un, .un, .un, .un, .un]) (x_setS (vv_ix (vv_slot (i := 2) rfl).w vv_int.w (ixT (xs := [.int (many : Int), .int (size : Int)]) (j := 0) rfl))) ?_
  refine exs_next (σ1 := [.val (.rol (jD ns)), .val (.lst (jD head)), .val (.tup [.int (many : Int), .int (size : Int)]), .val (.int (many : Int)), .val (.int (size : Int)), .un, .un, .un, .un, .un, .un, .un, .un, .un, .un, .un, .un, .un, .un, .un, .un]) (x_setS (vv_ix (vv_slot (i := 2) rfl).w vv_int.w (ixT (xs := [.int (many : Int), .int (size : Int)]) (j := 1) rfl))) ?_
  refine exs_next (σ1 := [.val (.rol (jD ns)), .val (.lst (jD head)), .val (.tup [.int (many : Int), .int (size : Int)]), .val (.int (many : Int)), .val (.int (size : Int)), .val (.tup [.lst (iD own), .lst (iD made)]), .un, .un, .un, .un, .un, .un, .un, .un, .un, .un, .un, .un, .un, .un, .un]) (x_setS (vv_call (vl_cons (vv_slot (i := 0) rfl) (vl_cons vv_int (vl_cons (vv_slot (i := 3) rfl) (vl_cons (vv_slot (i := 4) rfl) vl_nil)))) er)) ?_
  refine exs_next (σ1 := [.val (.rol (jD ns)), .val (.lst (jD head)), .val (.tup [.int (many : Int), .int (size : Int)]), .val (.int (many : Int)), .val (.int (size : Int)), .val (.tup [.lst (iD own), .lst (iD made)]), .val (.lst (iD own)), .un, .un, .un, .un, .un, .un, .un, .un, .un, .un, .un, .un, .un, .un]) (x_setS (vv_ix (vv_slot (i := 5) rfl).w vv_int.w (ixT (xs := [.lst (iD own), .lst (iD made)]) (j := 0) rfl))) ?_
  refine exs_next (σ1 := [.val (.rol (jD ns)), .val (.lst (jD head)), .val (.tup [.int (many : Int), .int (size : Int)]), .val (.int (many : Int)), .val (.int (size : Int)), .val (.tup [.lst (iD own), .lst (iD made)]), .val (.lst (iD own)), .val (.int (x : Int)), .un, .un, .un, .un, .un, .un, .un, .un, .un, .un, .un, .un, .un]) (x_setS (vv_call (vl_cons (vv_call (vl_cons (vv_call (vl_cons (vv_slot (i := 0) rfl) (vl_cons vv_int vl_nil)) c1') (vl_cons (v_szW (vv_slot (i := 4) rfl) (vv_slot (i := 3) rfl) (by omega)) vl_nil)) dw1) (vl_cons (vv_slot (i := 6) rfl) (vl_cons (vv_slot (i := 4) rfl) vl_nil))) ew)) ?_
  refine exs_next (σ1 := [.val (.rol (jD ns)), .val (.lst (jD head)), .val (.tup [.int (many : Int), .int (size : Int)]), .val (.int (many : Int)), .val (.int (size : Int)), .val (.tup [.lst (iD own), .lst (iD made)]), .val (.lst (iD own)), .val (.int (x : Int)), .val (.lst (jD szM)), .un, .un, .un, .un, .un, .un, .un, .un, .un, .un, .un, .un]) (x_setS (v_szM)) ?_
  refine exs_next (σ1 := [.val (.rol (jD ns)), .val (.lst (jD head)), .val (.tup [.int (many : Int), .int (size : Int)]), .val (.int (many : Int)), .val (.int (size : Int)), .val (.tup [.lst (iD own), .lst (iD made)]), .val (.lst (iD own)), .val (.int (x : Int)), .val (.lst (jD szM)), .val (.lst (iD other)), .un, .un, .un, .un, .un, .un, .un, .un, .un, .un, .un]) (x_setS (vv_call (vl_cons (vv_call (vl_cons (vv_call (vl_cons (vv_slot (i := 0) rfl) (vl_cons vv_int vl_nil)) c2') (vl_cons (vv_slot (i := 8) rfl) vl_nil)) dm1) (vl_cons (vv_ix (vv_slot (i := 5) rfl).w vv_int.w (ixT (xs := [.lst (iD own), .lst (iD made)]) (j := 1) rfl)) (vl_cons (vv_slot (i := 6) rfl) vl_nil))) eo)) ?_
  refine exs_next (σ1 := [.val (.rol (jD ns)), .val (.lst (jD head)), .val (.tup [.int (many : Int), .int (size : Int)]), .val (.int (many : Int)), .val (.int (size : Int)), .val (.tup [.lst (iD own), .lst (iD made)]), .val (.lst (iD own)), .val (.int (x : Int)), .val (.lst (jD szM)), .val (.lst (iD other)), .val (tb.view), .un, .un, .un, .un, .un, .un, .un, .un, .un, .un]) (x_setS (vv_call (vl_cons (vv_slot (i := 6) rfl) (vl_cons (vv_slot (i := 4) rfl) (vl_cons (vv_ix (vv_slot (i := 1) rfl).w vv_int.w (jD_at (i := 5) q5)) vl_nil))) etb tbB)) ?_
  refine exs_next (σ1 := [.val (.rol (jD ns)), .val (.lst (jD head)), .val (.tup [.int (many : Int), .int (size : Int)]), .val (.int (many : Int)), .val (.int (size : Int)), .val (.tup [.lst (iD own), .lst (iD made)]), .val (.lst (iD own)), .val (.int (x : Int)), .val (.lst (jD szM)), .val (.lst (iD other)), .val (tb.view), .val (so), .un, .un, .un, .un, .un, .un, .un, .un, .un]) (x_setS (vv_ix (vv_call (vl_cons (vv_lst (ds := iD [x]) (vl_cons (vv_slot (i := 7) rfl) vl_nil) (show 1 ≤ sizeLine by decide)) (vl_cons (vv_slot (i := 4) rfl) (vl_cons (vv_ix (vv_slot (i := 1) rfl).w vv_int.w (jD_at (i := 7) q7)) vl_nil))) esg sgB).w vv_int.w eso)) ?_
  refine exs_next (σ1 := [.val (.rol (jD ns)), .val (.lst (jD head)), .val (.tup [.int (many : Int), .int (size : Int)]), .val (.int (many : Int)), .val (.int (size : Int)), .val (.tup [.lst (iD own), .lst (iD made)]), .val (.lst (iD own)), .val (.int (x : Int)), .val (.lst (jD szM)), .val (.lst (iD other)), .val (tb.view), .val (so), .val (sc.view), .un, .un, .un, .un, .un, .un, .un, .un]) (x_setS (vv_call (vl_cons (vv_slot (i := 9) rfl) (vl_cons (vv_slot (i := 4) rfl) (vl_cons (vv_ix (vv_slot (i := 1) rfl).w vv_int.w (jD_at (i := 8) q8)) vl_nil))) esc scB)) ?_
  have e10 : c30.fn 10 [.lst (iD own)] = .ok (.v (.int ((rk own : Nat) : Int))) := by rw [e30_10]; exact g10 own (by omega)
  refine exs_next (σ1 := [.val (.rol (jD ns)), .val (.lst (jD head)), .val (.tup [.int (many : Int), .int (size : Int)]), .val (.int (many : Int)), .val (.int (size : Int)), .val (.tup [.lst (iD own), .lst (iD made)]), .val (.lst (iD own)), .val (.int (x : Int)), .val (.lst (jD szM)), .val (.lst (iD other)), .val (tb.view), .val (so), .val (sc.view), .val (.int ((rk own : Nat) : Int)), .un, .un, .un, .un, .un, .un, .un]) (x_setS (vv_call (vl_cons (vv_slot (i := 6) rfl) vl_nil) e10)) ?_
  refine exs_next (σ1 := [.val (.rol (jD ns)), .val (.lst (jD head)), .val (.tup [.int (many : Int), .int (size : Int)]), .val (.int (many : Int)), .val (.int (size : Int)), .val (.tup [.lst (iD own), .lst (iD made)]), .val (.lst (iD own)), .val (.int (x : Int)), .val (.lst (jD szM)), .val (.lst (iD other)), .val (tb.view), .val (so), .val (sc.view), .val (.int ((rk own : Nat) : Int)), .val (.int ((0 : Nat) : Int)), .un, .un, .un, .un, .un, .un]) rfl ?_
  refine exs_via (fun σ => ∃ w, σ = [.val (.rol (jD ns)), .val (.lst (jD head)), .val (.tup [.int (many : Int), .int (size : Int)]), .val (.int (many : Int)), .val (.int (size : Int)), .val (.tup [.lst (iD own), .lst (iD made)]), .val (.lst (iD own)), .val (.int (x : Int)), .val (.lst (jD szM)), .val (.lst (iD other)), .val (tb.view), .val (so), .val (sc.view), .val (.int ((rk own : Nat) : Int)), .val (.int ((xsum own : Nat) : Int)), w, .un, .un, .un, .un, .un]) (for_sat (σ1 := [.val (.rol (jD ns)), .val (.lst (jD head)), .val (.tup [.int (many : Int), .int (size : Int)]), .val (.int (many : Int)), .val (.int (size : Int)), .val (.tup [.lst (iD own), .lst (iD made)]), .val (.lst (iD own)), .val (.int (x : Int)), .val (.lst (jD szM)), .val (.lst (iD other)), .val (tb.view), .val (so), .val (sc.view), .val (.int ((rk own : Nat) : Int)), .val (.int ((0 : Nat) : Int)), .un, .un, .un, .un, .un, .un]) (rs := [.v (.lst (iD own))]) (xs := iD own) rfl rfl rfl (fun i σ => ∃ w, σ = [.val (.rol (jD ns)), .val (.lst (jD head)), .val (.tup [.int (many : Int), .int (size : Int)]), .val (.int (many : Int)), .val (.int (size : Int)), .val (.tup [.lst (iD own), .lst (iD made)]), .val (.lst (iD own)), .val (.int (x : Int)), .val (.lst (jD szM)), .val (.lst (iD other)), .val (tb.view), .val (so), .val (sc.view), .val (.int ((rk own : Nat) : Int)), .val (.int ((xsum (own.take i) : Nat) : Int)), w, .un, .un, .un, .un, .un]) ⟨.un, rfl⟩ ?_ fun σ ⟨w, h⟩ => ⟨rfl, w, by
    have e : (iD own).length = own.length := by simp [iD]
    rw [e, List.take_length] at h
    exact h⟩) ?_
  · rintro i y σ hy ⟨w, rfl⟩
    obtain ⟨m, em', rfl⟩ := iD_get hy
    refine ⟨_, rfl, exs_next (x_setS (vv_bin (vv_slot (i := 14) rfl).w (vv_slot (i := 15) rfl).w xor_ok)) (exs_nil ⟨.val (.int (m : Int)), ?_⟩)⟩
    have : xsum (own.take (i + 1)) = xsum (own.take i) ^^^ m := by
      rw [take_snoc em']
      unfold xsum
      rw [List.foldl_append]
      rfl
    rw [this]
    rfl
  rintro σ ⟨w, rfl⟩
  have e27 : c30.fn 27 [tb.view] = .ok (.v (.int ((rk own : Nat) : Int))) := by rw [e30_27]; exact g27 tbT (by omega) (by omega)
  have e16 : c30.fn 16 [.int ((rk own : Nat) : Int), .int ((rk own : Nat) : Int)] = .ok (.v (.bl true)) := by
    rw [e30_16]
    have := g16 ((rk own : Nat) : Int) ((rk own : Nat) : Int)
    rw [decide_eq_true rfl] at this
    exact this
  refine exs_cons (x_ife (k := false) (tt_not (k := true) (tt_tru ((vv_call (f := 16) (vl_cons (vv_call (f := 27) (vl_cons (vv_slot (i := 10) rfl) vl_nil) e27) (vl_cons (vv_slot (i := 13) rfl) vl_nil)) e16)).w rfl)) (fun h => by cases h) fun _ => exs_nil ?_)
  have e29 : c30.fn 29 [.lst (iD own), .int (size : Int)] = .ok (.fr (iD (colsOf own size))) := by rw [e30_29]; exact g29 own size (by omega) (by omega)
  obtain ⟨cd, ecd, cdB, cdT⟩ := dressE (rows := colsOf own size) (size := many) h6 (fun m hh => by
    obtain ⟨k, _, rfl⟩ := List.mem_map.mp hh
    have := ofBits_lt (fun i => (own.getD i 0).testBit k) own.length
    have e2 : 2 ^ own.length = 2 ^ many := by rw [hD.l1]
    rw [e2] at this
    exact this) (by omega) (by simp [colsOf]; omega)
  have hrk : rk (colsOf own size) = rk own := rk_cols (R := own) (C := colsOf own size) (fun m hh => by simpa [colsOf] using hD.b1 m hh) fun k hk => by
    have hk2 : k < size := by simpa [colsOf] using hk
    simp [colsOf, List.getD, hk2]
  have e27c : c30.fn 27 [cd.view] = .ok (.v (.int ((rk own : Nat) : Int))) := by
    rw [e30_27]
    have := g27 cdT (by omega) (by simp [colsOf]; omega)
    rw [hrk] at this
    exact this
  refine exs_via (fun σ => σ = [.val (.rol (jD ns)), .val (.lst (jD head)), .val (.tup [.int (many : Int), .int (size : Int)]), .val (.int (many : Int)), .val (.int (size : Int)), .val (.tup [.lst (iD own), .lst (iD made)]), .val (.lst (iD own)), .val (.int (x : Int)), .val (.lst (jD szM)), .val (.lst (iD other)), .val (tb.view), .val (so), .val (sc.view), .val (.int ((rk own : Nat) : Int)), .val (.int ((xsum own : Nat) : Int)), w, .un, .un, .un, .un, .un]) (x_ife (k := decide ((many : Int) ≤ 40)) (tt_cmp (vv_slot (i := 3) rfl).w vv_int.w rfl) (fun _ => exs_cons (x_ife (k := false) (tt_not (k := true) (tt_tru ((vv_call (f := 16) (vl_cons (vv_call (f := 27) (vl_cons (vv_call (f := 9) (vl_cons (vv_call (f := 29) (vl_cons (vv_slot (i := 6) rfl) (vl_cons (vv_slot (i := 4) rfl) vl_nil)) e29) (vl_cons (vv_slot (i := 3) rfl) (vl_cons (vv_ix (vv_slot (i := 1) rfl).w vv_int.w (jD_at (i := 6) q6)) vl_nil))) ecd cdB) vl_nil) e27c) (vl_cons (vv_slot (i := 13) rfl) vl_nil)) e16)).w rfl)) (fun h => by cases h) fun _ => exs_nil (exs_nil ⟨rfl, rfl⟩))) fun _ => exs_nil ⟨rfl, rfl⟩) ?_
  rintro σ rfl
  have e25 : c30.fn 25 [tb.view, .int (size : Int)] = .ok (.v (.tup (bitsD (xsum own) size))) := by rw [e30_25]; exact g25 tbT (by omega)
  have e17 : c30.fn 17 [.tup (bitsD (xsum own) size), .int (size : Int)] = .ok (.v (.int ((xsum own : Nat) : Int))) := by rw [e30_17]; exact g17 _ _ (xsum_lt hD.b1) (by omega)
  have hnx : cmpD .NotEq (.int ((xsum own : Nat) : Int)) (.int ((xsum own : Nat) : Int)) = some false := by
    rw [cmp_ne, eqD_int]
    simp
  obtain ⟨d, e19, htold⟩ := g19 tbT soR (by omega) (by omega)
  have e19 : c30.fn 19 [tb.view, so] = .ok (.v d) := by rw [e30_19]; exact e19
  have e23 : c30.fn 23 [d, .lst (iD own), .int (x : Int)] = .ok (.v (.bl true)) := by rw [e30_23]; exact g23 htold (by omega)
  have hso : cmpD .NotEq so so = some false := by
    have hn : Nst 1 so := .inr ⟨bitsD x size, soR.1, fun y hy => by
      obtain ⟨k, _, rfl⟩ := List.mem_map.mp hy
      exact ⟨_, rfl⟩⟩
    rw [cmp_ne, eqD_self hn (by decide)]
    rfl
  have hdd : cmpD .NotEq d d = some false := by
    rw [cmp_ne]
    rcases htold with ⟨rfl, _⟩ | ⟨w, rfl, _⟩
    · rfl
    · rw [eqD_self (n := 1) (.inr ⟨_, .inl rfl, fun y hy => by
        obtain ⟨k, _, rfl⟩ := List.mem_map.mp hy
        exact ⟨_, rfl⟩⟩) (by decide)]
      rfl
  refine exs_cons (x_ife (k := false) (tt_cmp (vv_call (f := 17) (vl_cons (vv_call (f := 25) (vl_cons (vv_slot (i := 10) rfl) (vl_cons (vv_slot (i := 4) rfl) vl_nil)) e25) (vl_cons (vv_slot (i := 4) rfl) vl_nil)) e17).w (vv_slot (i := 14) rfl).w hnx) (fun h => by cases h) fun _ => exs_nil ?_)
  refine exs_next (σ1 := [.val (.rol (jD ns)), .val (.lst (jD head)), .val (.tup [.int (many : Int), .int (size : Int)]), .val (.int (many : Int)), .val (.int (size : Int)), .val (.tup [.lst (iD own), .lst (iD made)]), .val (.lst (iD own)), .val (.int (x : Int)), .val (.lst (jD szM)), .val (.lst (iD other)), .val (tb.view), .val (so), .val (sc.view), .val (.int ((rk own : Nat) : Int)), .val (.int ((xsum own : Nat) : Int)), w, .val (.non), .un, .un, .un, .un]) (x_setS (vv_non)) ?_
  refine exs_via (fun σ => ∃ v16, (0 < many → v16 = d) ∧ σ = [.val (.rol (jD ns)), .val (.lst (jD head)), .val (.tup [.int (many : Int), .int (size : Int)]), .val (.int (many : Int)), .val (.int (size : Int)), .val (.tup [.lst (iD own), .lst (iD made)]), .val (.lst (iD own)), .val (.int (x : Int)), .val (.lst (jD szM)), .val (.lst (iD other)), .val (tb.view), .val (so), .val (sc.view), .val (.int ((rk own : Nat) : Int)), .val (.int ((xsum own : Nat) : Int)), w, .val (v16), .un, .un, .un, .un]) (x_ife (k := decide ((0 : Int) < (many : Int))) (tt_cmp (vv_slot (i := 3) rfl).w vv_int.w rfl) (fun _ => exs_next (x_setS (vv_call (vl_cons (vv_slot (i := 10) rfl) (vl_cons (vv_slot (i := 11) rfl) vl_nil)) e19)) (exs_cons (x_ife (k := false) (tt_or (k := false) (l := false) (tt_not (k := true) (tt_tru ((vv_call (f := 23) (vl_cons (vv_slot (i := 16) rfl) (vl_cons (vv_slot (i := 6) rfl) (vl_cons (vv_slot (i := 7) rfl) vl_nil))) e23)).w rfl)) fun _ => tt_or1 (tt_cmp (vv_slot (i := 11) rfl).w (vv_ix (vv_call (vl_cons (vv_lst (ds := iD [x]) (vl_cons (vv_slot (i := 7) rfl) vl_nil) (show 1 ≤ sizeLine by decide)) (vl_cons (vv_slot (i := 4) rfl) (vl_cons (vv_ix (vv_slot (i := 1) rfl).w vv_int.w (jD_at (i := 7) q7)) vl_nil))) esg sgB).w vv_int.w eso).w hso)) (fun h => by cases h) fun _ => exs_nil (exs_nil ⟨rfl, d, fun _ => rfl, rfl⟩)))) fun h => exs_nil ⟨rfl, .non, fun q => by have := of_decide_eq_false h; omega, rfl⟩) ?_
  rintro σ ⟨v16, h16, rfl⟩
  have e14 : c30.fn 14 [tb.view] = .ok (.v (.tup ((redS own).map fun m => D.tup (bitsD m size)))) := by rw [e30_14]; exact g14 tbT (by omega) (by omega)
  have e22 : c30.fn 22 [.tup ((redS own).map fun m => D.tup (bitsD m size)), .lst (iD own), .int (size : Int), .int ((rk own : Nat) : Int)] = .ok (.v (.bl true)) := by rw [e30_22]; exact g22 hD.b1 hs hol
  have hrl := redS_le own
  have hro : redS other = redS own := redS_same eqv
  have e28 : c30.fn 28 [sc.view, .lst (iD other), .int (size : Int), .lst (iD (redS own)), so, .int (x : Int)] = .ok (.v (.bl true)) := by
    rw [e30_28, ← hro]
    exact second_ok scT ob soR hs hM.len
  have e24 : c30.fn 24 [.tup ((redS own).map fun m => D.tup (bitsD m size)), .lst (iD (redS own)), .int (size : Int)] = .ok (.v (.bl true)) := by
    rw [e30_24]
    have := g24 (ns := redS own) (redS_lt hD.b1) (s := size) (by omega) (by omega)
    rw [decide_eq_true rfl] at this
    exact this
  obtain ⟨rd, erd, rdB, rdT⟩ := dressE (rows := redS own) (size := size) h9 (redS_lt hD.b1) (by omega) (by omega)
  have e14r : c30.fn 14 [rd.view] = .ok (.v (.tup ((redS own).map fun m => D.tup (bitsD m size)))) := by
    rw [e30_14]
    have := g14 rdT (by omega) (by omega)
    rw [redS_same (redS_eqv own)] at this
    exact this
  have tabSelf : ∀ {s : Nat} {ms : List Nat} {t : D}, TabD s ms t → eqD t t = some true := fun {s ms t} ⟨ts, h1, h2⟩ => eqD_self (n := 2) (.inr ⟨ts, h1, fun y hy => by
    obtain ⟨j, hj, ej⟩ := List.mem_iff_getElem.mp hy
    obtain ⟨a, _, r⟩ := h2.get (i := j) (b := y) (by rw [List.getElem?_eq_getElem hj, ej])
    exact .inr ⟨bitsD a s, r.1, fun z hz => by
      obtain ⟨k, _, rfl⟩ := List.mem_map.mp hz
      exact ⟨_, rfl⟩⟩⟩) (by decide)
  refine exs_next (σ1 := [.val (.rol (jD ns)), .val (.lst (jD head)), .val (.tup [.int (many : Int), .int (size : Int)]), .val (.int (many : Int)), .val (.int (size : Int)), .val (.tup [.lst (iD own), .lst (iD made)]), .val (.lst (iD own)), .val (.int (x : Int)), .val (.lst (jD szM)), .val (.lst (iD other)), .val (tb.view), .val (so), .val (sc.view), .val (.int ((rk own : Nat) : Int)), .val (.int ((xsum own : Nat) : Int)), w, .val (v16), .val (.tup ((redS own).map fun m => D.tup (bitsD m size))), .un, .un, .un]) (x_setS (vv_call (vl_cons (vv_slot (i := 10) rfl) vl_nil) e14)) ?_
  refine exs_cons (x_ife (k := false) (tt_not (k := true) (tt_tru ((vv_call (f := 22) (vl_cons (vv_slot (i := 17) rfl) (vl_cons (vv_slot (i := 6) rfl) (vl_cons (vv_slot (i := 4) rfl) (vl_cons (vv_slot (i := 13) rfl) vl_nil)))) e22)).w rfl)) (fun h => by cases h) fun _ => exs_nil ?_)
  have hcomp := comp_call (C := c30) (v := 20) (i := 17) (σ := [.val (.rol (jD ns)), .val (.lst (jD head)), .val (.tup [.int (many : Int), .int (size : Int)]), .val (.int (many : Int)), .val (.int (size : Int)), .val (.tup [.lst (iD own), .lst (iD made)]), .val (.lst (iD own)), .val (.int (x : Int)), .val (.lst (jD szM)), .val (.lst (iD other)), .val (tb.view), .val (so), .val (sc.view), .val (.int ((rk own : Nat) : Int)), .val (.int ((xsum own : Nat) : Int)), w, .val (v16), .val (.tup ((redS own).map fun m => D.tup (bitsD m size))), .un, .un, .un]) (t := .tup ((redS own).map fun m => D.tup (bitsD m size))) (ts := (redS own).map fun m => D.tup (bitsD m size)) (l := redS own) (R := fun (m : Nat) (x : D) => m < 2 ^ size ∧ x = .tup (bitsD m size)) (e := .call 17 (.cons (.slot 20) (.cons (.slot 4) .nil))) (h := fun m : Nat => D.int (m : Int)) rfl rfl rfl (by
    have h1 := redS_lt hD.b1
    generalize redS own = l at h1 ⊢
    induction l with
    | nil => exact .nil
    | cons a l ih => exact .cons ⟨h1 a (List.mem_cons_self ..), rfl⟩ (ih fun m hm => h1 m (List.mem_cons_of_mem _ hm))) (by omega) fun m y ⟨r1, r2⟩ => by
    subst r2
    exact vv_call (f := 17) (r := .v (.int (m : Int))) (vl_cons (vv_slot (i := 20) rfl) (vl_cons (vv_slot (i := 4) rfl) vl_nil)) (by rw [e30_17]; exact g17 m size r1 (by omega))
  refine exs_next (σ1 := [.val (.rol (jD ns)), .val (.lst (jD head)), .val (.tup [.int (many : Int), .int (size : Int)]), .val (.int (many : Int)), .val (.int (size : Int)), .val (.tup [.lst (iD own), .lst (iD made)]), .val (.lst (iD own)), .val (.int (x : Int)), .val (.lst (jD szM)), .val (.lst (iD other)), .val (tb.view), .val (so), .val (sc.view), .val (.int ((rk own : Nat) : Int)), .val (.int ((xsum own : Nat) : Int)), w, .val (v16), .val (.tup ((redS own).map fun m => D.tup (bitsD m size))), .val (.lst (iD (redS own))), .un, .un]) (x_setS (sq_of hcomp rfl)) ?_
  refine exs_cons (x_ife (k := false) (tt_not (k := true) (tt_tru ((vv_call (f := 28) (vl_cons (vv_slot (i := 12) rfl) (vl_cons (vv_slot (i := 9) rfl) (vl_cons (vv_slot (i := 4) rfl) (vl_cons (vv_slot (i := 18) rfl) (vl_cons (vv_slot (i := 11) rfl) (vl_cons (vv_slot (i := 7) rfl) vl_nil)))))) e28)).w rfl)) (fun h => by cases h) fun _ => exs_nil ?_)
  refine exs_cons (x_ife (k := false) (tt_not (k := true) (tt_tru ((vv_call (f := 24) (vl_cons (vv_call (f := 14) (vl_cons (vv_call (f := 9) (vl_cons (vv_slot (i := 18) rfl) (vl_cons (vv_slot (i := 4) rfl) (vl_cons (vv_ix (vv_slot (i := 1) rfl).w vv_int.w (jD_at (i := 9) q9)) vl_nil))) erd rdB) vl_nil) e14r) (vl_cons (vv_slot (i := 18) rfl) (vl_cons (vv_slot (i := 4) rfl) vl_nil))) e24)).w rfl)) (fun h => by cases h) fun _ => exs_nil ?_)
  refine exs_via (fun σ => ∃ v19, σ = [.val (.rol (jD ns)), .val (.lst (jD head)), .val (.tup [.int (many : Int), .int (size : Int)]), .val (.int (many : Int)), .val (.int (size : Int)), .val (.tup [.lst (iD own), .lst (iD made)]), .val (.lst (iD own)), .val (.int (x : Int)), .val (.lst (jD szM)), .val (.lst (iD other)), .val (tb.view), .val (so), .val (sc.view), .val (.int ((rk own : Nat) : Int)), .val (.int ((xsum own : Nat) : Int)), w, .val (v16), .val (.tup ((redS own).map fun m => D.tup (bitsD m size))), .val (.lst (iD (redS own))), v19, .un]) (x_ife (k := decide ((0 : Int) < (many : Int))) (tt_cmp (vv_slot (i := 3) rfl).w vv_int.w rfl) (fun hmp => exs_next (x_setS (vv_callK (vl_cons (vv_slot (i := 11) rfl) (vl_cons (vv_slot (i := 10) rfl) vl_nil)) e19)) (exs_cons (x_ife (k := false) (tt_or (k := false) (l := false) (tt_not (k := true) (tt_tru ((vv_call (f := 23) (vl_cons (vv_slot (i := 19) rfl) (vl_cons (vv_slot (i := 6) rfl) (vl_cons (vv_slot (i := 7) rfl) vl_nil))) e23)).w rfl)) fun _ => tt_or1 (tt_cmp (vv_slot (i := 19) rfl).w (vv_slot (i := 16) rfl).w (by rw [h16 (by have := of_decide_eq_true hmp; omega)]; exact hdd))) (fun h => by cases h) fun _ => exs_nil (exs_cons (x_ife (k := false) (tt_cmp (vv_slot (i := 11) rfl).w (vv_ix (vv_call (vl_cons (vv_lst (ds := iD [x]) (vl_cons (vv_slot (i := 7) rfl) vl_nil) (show 1 ≤ sizeLine by decide)) (vl_cons (vv_slot (i := 4) rfl) (vl_cons (vv_ix (vv_slot (i := 1) rfl).w vv_int.w (jD_at (i := 7) q7)) vl_nil))) esg sgB).w vv_int.w eso).w hso) (fun h => by cases h) fun _ => exs_nil (exs_nil ⟨rfl, .val d, rfl⟩)))))) fun _ => exs_nil ⟨rfl, .un, rfl⟩) ?_
  rintro σ ⟨v19, rfl⟩
  refine exs_cons (x_ife (k := false) (tt_or (k := false) (l := false) (tt_cmp (vv_call (f := 17) (vl_cons (vv_callK (f := 25) (perm := [1, 0]) (ds := [.int (size : Int), tb.view]) (r := .v (.tup (bitsD (xsum own) size))) (vl_cons (vv_slot (i := 4) rfl) (vl_cons (vv_slot (i := 10) rfl) vl_nil)) e25) (vl_cons (vv_slot (i := 4) rfl) vl_nil)) e17).w (vv_slot (i := 14) rfl).w hnx) fun _ => tt_or1 (tt_not (k := true) (tt_tru ((vv_call (f := 16) (vl_cons (vv_callK (f := 27) (perm := [0]) (ds := [tb.view]) (r := .v (.int ((rk own : Nat) : Int))) (vl_cons (vv_slot (i := 10) rfl) vl_nil) e27) (vl_cons (vv_slot (i := 13) rfl) vl_nil)) e16)).w rfl))) (fun h => by cases h) fun _ => exs_nil ?_)
  refine exs_cons (x_ife (k := false) (tt_not (k := true) (tt_tru ((vv_call (f := 24) (vl_cons (vv_callK (f := 14) (perm := [0]) (ds := [tb.view]) (r := .v (.tup ((redS own).map fun m => D.tup (bitsD m size)))) (vl_cons (vv_slot (i := 10) rfl) vl_nil) e14) (vl_cons (vv_slot (i := 18) rfl) (vl_cons (vv_slot (i := 4) rfl) vl_nil))) e24)).w rfl)) (fun h => by cases h) fun _ => exs_nil ?_)
  exact exs_rt (x_retE (and_ev (k := true) (d := .bl true) (vv_cmp (vv_slot (i := 10) rfl).w (vv_call (f := 9) (vl_cons (vv_slot (i := 6) rfl) (vl_cons (vv_slot (i := 4) rfl) (vl_cons (vv_ix (vv_slot (i := 1) rfl).w vv_int.w (jD_at (i := 5) q5)) vl_nil))) etb tbB).w (tabSelf tbT)) (fun _ => vv_cmp (vv_slot (i := 12) rfl).w (vv_call (f := 9) (vl_cons (vv_slot (i := 9) rfl) (vl_cons (vv_slot (i := 4) rfl) (vl_cons (vv_ix (vv_slot (i := 1) rfl).w vv_int.w (jD_at (i := 8) q8)) vl_nil))) esc scB).w (tabSelf scT)) fun h => by cases h) rfl) ⟨rfl, rfl⟩
end LW
namespace LW
open PySem PySem.Spec PyProof.Rows L2 DS
theorem all_mk {l : PySem.W.OpenLaw} {w : World} {K : PySem.W.Frag} {h : Heap} {mg : Str → Option Value} {fa : Addr} (X : K.In h) (Gh : h.Ns mainGlobals mg) (hfa : mg "law" = some (.ref fa)) (hm : ∀ ns : List Int, ns.length ≤ 63 → (∀ z ∈ ns, Builtin.Int.intBits z ≤ 1048576) → f30 [.rol (ns.map .int)] = .ok (.v (.bl true)))
    (F0 : FactE K "low_bit" st0) (F1 : FactE K "_law_digits" st1) (F2 : FactE K "_law_measures" st2) (F3 : FactE K "_law_row" st3) (F4 : FactE K "_law_cell" st4) (F5 : FactE K "_law_rows" st5) (F6 : FactE K "_law_wanted" st6) (F7 : FactE K "_law_mixed" st7) (F8 : FactE K "_law_bits" st8) (F9 : FactE K "_law_dressed" st9) (F10 : FactE K "_law_rank" st10) (F11 : FactE K "reduced_masks" st11) (F12 : FactE K "mask_of_bits" st12) (F13 : FactE K "bits_of_mask" st13) (F14 : FactE K "reduced" st14) (F15 : FactE K "_law_whole" st15) (F16 : FactE K "_law_is_number" st16) (F17 : FactE K "_law_mask_of" st17) (F18 : FactE K "sum_with" st18) (F19 : FactE K "combination" st19) (F20 : FactE K "_law_has" st20) (F21 : FactE K "_law_first" st21) (F22 : FactE K "_law_is_reduced" st22) (F23 : FactE K "_law_is_sum" st23) (F24 : FactE K "_law_is_table" st24) (F25 : FactE K "added" st25) (F26 : FactE K "mask_rank" st26) (F27 : FactE K "rank" st27) (F28 : FactE K "_law_second_holds" st28) (F29 : FactE K "_law_columns" st29) (F30 : FactE K "law" st30)
    (z0 : PySem.W.nsIn K mainGlobals "len" = some none) (z1 : PySem.W.nsIn K mainGlobals "int" = some none) (z2 : PySem.W.nsIn K mainGlobals "tuple" = some none) (z3 : PySem.W.nsIn K mainGlobals "list" = some none) (z4 : PySem.W.nsIn K mainGlobals "sorted" = some none) (z5 : PySem.W.nsIn K mainGlobals "sum" = some none) (z6 : PySem.W.nsIn K mainGlobals "max" = some none) (z7 : PySem.W.nsIn K mainGlobals "min" = some none) (z8 : PySem.W.nsIn K mainGlobals "abs" = some none) (z9 : PySem.W.nsIn K mainGlobals "any" = some none) (z10 : PySem.W.nsIn K mainGlobals "all" = some none) (z11 : PySem.W.nsIn K mainGlobals "isinstance" = some none) (z12 : PySem.W.nsIn K mainGlobals "range" = some none) (z13 : PySem.W.nsIn K mainGlobals "enumerate" = some none) (z14 : PySem.W.nsIn K mainGlobals "zip" = some none) (z15 : PySem.W.nsIn K mainGlobals "bool" = some none) (z16 : PySem.W.nsIn K mainGlobals "str" = some none) :
    ∃ fd : FuncData, (∀ (s : Shared) (u : Value), BindsTo s fd ⟨[u], []⟩ [("_law_script", u)]) ∧ ∀ base : Heap, K.In base → base.Ns mainGlobals mg → FnOk l.prog w K mg base CX0 31 fa fd ["_law_script"] (spLaw K fun ns => ∀ z ∈ ns, Builtin.Int.intBits z ≤ 1048576) := by
  have hmg : ∀ (x : Str) (v : Value), PySem.W.nsIn K mainGlobals x = some (some v) → mg x = some v := fun x v e => PySem.W.mg_of X Gh e
  have hblt : ∀ x ∈ bltNames, mg x = none := by
    intro x hx
    unfold bltNames at hx
    simp only [List.mem_cons, List.not_mem_nil, or_false] at hx
    rcases hx with rfl | rfl | rfl | rfl | rfl | rfl | rfl | rfl | rfl | rfl | rfl | rfl | rfl | rfl | rfl | rfl | rfl
    · exact PySem.W.mg_none_of X Gh z0
    · exact PySem.W.mg_none_of X Gh z1
    · exact PySem.W.mg_none_of X Gh z2
    · exact PySem.W.mg_none_of X Gh z3
    · exact PySem.W.mg_none_of X Gh z4
    · exact PySem.W.mg_none_of X Gh z5
    · exact PySem.W.mg_none_of X Gh z6
    · exact PySem.W.mg_none_of X Gh z7
    · exact PySem.W.mg_none_of X Gh z8
    · exact PySem.W.mg_none_of X Gh z9
    · exact PySem.W.mg_none_of X Gh z10
    · exact PySem.W.mg_none_of X Gh z11
    · exact PySem.W.mg_none_of X Gh z12
    · exact PySem.W.mg_none_of X Gh z13
    · exact PySem.W.mg_none_of X Gh z14
    · exact PySem.W.mg_none_of X Gh z15
    · exact PySem.W.mg_none_of X Gh z16
  obtain ⟨fL, fdL, hL, FL⟩ := F30
  have eL := hmg _ _ hL
  rw [hfa] at eL
  cases eL
  refine ⟨fdL, fun s u => ?_, fun base _ _ => ?_⟩
  · obtain ⟨oc, od, kV, doc, pm, an, cdv, ct, osl, rfl, lk, hcd⟩ := FL.ex
    exact .of_eq rfl
  · have h1 := all_ok (P := l.prog) (w := w) (base := base) (p := ⟨K, fun _ => 0, fun _ => []⟩) rfl hmg hblt F0 F1 F2 F3 F4 F5 F6 F7 F8 F9 F10 F11 F12 F13 F14 F15 F16 F17 F18 F19 F20 F21 F22 F23 F24 F25 F26 F27 F28 F29 FL
    exact h1.imp (spLaw_of (p := ⟨K, fun _ => 0, fun _ => []⟩) rfl hm)
theorem walk {l : PySem.W.OpenLaw} {q : Program} {loose : List Str} {XP : (Str → Option Value) → Heap → Prop} {YP : World → Heap → Prop} {d : DefRec} {K : Params → PySem.W.Frag} (hn : l.most = some 63) (hdf : d.params.defaults = [])
    (hY : ∀ (w : World) (h : Heap), YP w h → (K w.params).In h)
    (F : ∀ (w : World) (mg : Str → Option Value) (fa : Addr) (h : Heap), (K w.params).In h → h.Ns mainGlobals mg → mg d.name = some (.ref fa) →
      ∃ fd : FuncData, (∀ (s : Shared) (u : Value), BindsTo s fd ⟨[u], []⟩ [("_law_script", u)]) ∧ ∀ base : Heap, (K w.params).In base → base.Ns mainGlobals mg → FnOk l.prog w (K w.params) mg base CX0 31 fa fd ["_law_script"] (spLaw (K w.params) fun ns => ∀ z ∈ ns, Builtin.Int.intBits z ≤ 1048576)) :
    PySem.W.WalkO q loose XP YP l.row.toRowW d [] (fun f vs => PySem.call f vs) := walk_D hn hdf ⟨rfl, by decide, by decide⟩ hY F
end LW
open PySem PySem.W PyProof.Rows in
set_option maxRecDepth 100000 in
set_option maxHeartbeats 0 in
theorem PySem.Challenge.cw_tiepress_k00_ranks_and_reduced_rows_holds : PySem.Challenge.rw_tiepress_k00_ranks_and_reduced_rows.Holds := by
  w_on; o_law; k_head; (case hw => w_witness2)
  k_fill
  refine LW.walk (l := PySem.Challenge.rw_tiepress_k00_ranks_and_reduced_rows) rfl rfl (fun w h Y => PySem.W.kIn_of Y) ?F
  case F =>
    intro w mg fa h KX G hmg
    refine' LW.all_mk KX G hmg (fun ns _ _ => LW.law_ok ns) (DS.factE ?a0 ?l0 ?c0 ?k0) (DS.factE ?a1 ?l1 ?c1 ?k1) (DS.factE ?a2 ?l2 ?c2 ?k2) (DS.factE ?a3 ?l3 ?c3 ?k3) (DS.factE ?a4 ?l4 ?c4 ?k4) (DS.factE ?a5 ?l5 ?c5 ?k5) (DS.factE ?a6 ?l6 ?c6 ?k6) (DS.factE ?a7 ?l7 ?c7 ?k7) (DS.factE ?a8 ?l8 ?c8 ?k8) (DS.factE ?a9 ?l9 ?c9 ?k9) (DS.factE ?a10 ?l10 ?c10 ?k10) (DS.factE ?a11 ?l11 ?c11 ?k11) (DS.factE ?a12 ?l12 ?c12 ?k12) (DS.factE ?a13 ?l13 ?c13 ?k13) (DS.factE ?a14 ?l14 ?c14 ?k14) (DS.factE ?a15 ?l15 ?c15 ?k15) (DS.factE ?a16 ?l16 ?c16 ?k16) (DS.factE ?a17 ?l17 ?c17 ?k17) (DS.factE ?a18 ?l18 ?c18 ?k18) (DS.factE ?a19 ?l19 ?c19 ?k19) (DS.factE ?a20 ?l20 ?c20 ?k20) (DS.factE ?a21 ?l21 ?c21 ?k21) (DS.factE ?a22 ?l22 ?c22 ?k22) (DS.factE ?a23 ?l23 ?c23 ?k23) (DS.factE ?a24 ?l24 ?c24 ?k24) (DS.factE ?a25 ?l25 ?c25 ?k25) (DS.factE ?a26 ?l26 ?c26 ?k26) (DS.factE ?a27 ?l27 ?c27 ?k27) (DS.factE ?a28 ?l28 ?c28 ?k28) (DS.factE ?a29 ?l29 ?c29 ?k29) (DS.factE ?a30 ?l30 ?c30 ?k30) ?z0 ?z1 ?z2 ?z3 ?z4 ?z5 ?z6 ?z7 ?z8 ?z9 ?z10 ?z11 ?z12 ?z13 ?z14 ?z15 ?z16
    (case a0 => k_is)
    (case l0 => k_is)
    (case c0 => k_is)
    (case k0 => k_is)
    (case a1 => k_is)
    (case l1 => k_is)
    (case c1 => k_is)
    (case k1 => k_is)
    (case a2 => k_is)
    (case l2 => k_is)
    (case c2 => k_is)
    (case k2 => k_is)
    (case a3 => k_is)
    (case l3 => k_is)
    (case c3 => k_is)
    (case k3 => k_is)
    (case a4 => k_is)
    (case l4 => k_is)
    (case c4 => k_is)
    (case k4 => k_is)
    (case a5 => k_is)
    (case l5 => k_is)
    (case c5 => k_is)
    (case k5 => k_is)
    (case a6 => k_is)
    (case l6 => k_is)
    (case c6 => k_is)
    (case k6 => k_is)
    (case a7 => k_is)
    (case l7 => k_is)
    (case c7 => k_is)
    (case k7 => k_is)
    (case a8 => k_is)
    (case l8 => k_is)
    (case c8 => k_is)
    (case k8 => k_is)
    (case a9 => k_is)
    (case l9 => k_is)
    (case c9 => k_is)
    (case k9 => k_is)
    (case a10 => k_is)
    (case l10 => k_is)
    (case c10 => k_is)
    (case k10 => k_is)
    (case a11 => k_is)
    (case l11 => k_is)
    (case c11 => k_is)
    (case k11 => k_is)
    (case a12 => k_is)
    (case l12 => k_is)
    (case c12 => k_is)
    (case k12 => k_is)
    (case a13 => k_is)
    (case l13 => k_is)
    (case c13 => k_is)
    (case k13 => k_is)
    (case a14 => k_is)
    (case l14 => k_is)
    (case c14 => k_is)
    (case k14 => k_is)
    (case a15 => k_is)
    (case l15 => k_is)
    (case c15 => k_is)
    (case k15 => k_is)
    (case a16 => k_is)
    (case l16 => k_is)
    (case c16 => k_is)
    (case k16 => k_is)
    (case a17 => k_is)
    (case l17 => k_is)
    (case c17 => k_is)
    (case k17 => k_is)
    (case a18 => k_is)
    (case l18 => k_is)
    (case c18 => k_is)
    (case k18 => k_is)
    (case a19 => k_is)
    (case l19 => k_is)
    (case c19 => k_is)
    (case k19 => k_is)
    (case a20 => k_is)
    (case l20 => k_is)
    (case c20 => k_is)
    (case k20 => k_is)
    (case a21 => k_is)
    (case l21 => k_is)
    (case c21 => k_is)
    (case k21 => k_is)
    (case a22 => k_is)
    (case l22 => k_is)
    (case c22 => k_is)
    (case k22 => k_is)
    (case a23 => k_is)
    (case l23 => k_is)
    (case c23 => k_is)
    (case k23 => k_is)
    (case a24 => k_is)
    (case l24 => k_is)
    (case c24 => k_is)
    (case k24 => k_is)
    (case a25 => k_is)
    (case l25 => k_is)
    (case c25 => k_is)
    (case k25 => k_is)
    (case a26 => k_is)
    (case l26 => k_is)
    (case c26 => k_is)
    (case k26 => k_is)
    (case a27 => k_is)
    (case l27 => k_is)
    (case c27 => k_is)
    (case k27 => k_is)
    (case a28 => k_is)
    (case l28 => k_is)
    (case c28 => k_is)
    (case k28 => k_is)
    (case a29 => k_is)
    (case l29 => k_is)
    (case c29 => k_is)
    (case k29 => k_is)
    (case a30 => k_is)
    (case l30 => k_is)
    (case c30 => k_is)
    (case k30 => k_is)
    (case z0 => k_is)
    (case z1 => k_is)
    (case z2 => k_is)
    (case z3 => k_is)
    (case z4 => k_is)
    (case z5 => k_is)
    (case z6 => k_is)
    (case z7 => k_is)
    (case z8 => k_is)
    (case z9 => k_is)
    (case z10 => k_is)
    (case z11 => k_is)
    (case z12 => k_is)
    (case z13 => k_is)
    (case z14 => k_is)
    (case z15 => k_is)
    (case z16 => k_is)
