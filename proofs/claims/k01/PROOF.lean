import PyProof.Rows.All
import Wide.All
import OpenK.AllK
import Wide.FinOn
import KE.LtData
import HandS.ForMost
import HandS.Walk
import HandS.Deep
import HandS.Wide
import HandS.HeadHook1
import HandS.HeadHook2
import HandS.Defaults
import HandS.TupMul
import HandS.More
import HandS.TupAny
import HandS.SlotsOwn
import PyProof.InstNe
import HandS.IsInst
import KE.DataCmp
import KE.GoesEnum
import HandS.Zip
import HandS.Rev
import HandS.NoneIn
import HandS.Style
import HandS.Conv
import HandS.HeadWalk
import HandS.Strs
import HandS.Exc
import HandS.Head0
import HandS.Head1
import HandS.Head2
import HandS.HeadEnd
import HandS.DeepEq
import KE.KStateDown
import OpenK.KOwn
import PySem.Challenge.RW_countstell_k01_whole_lots_that_tell_and
set_option Elab.async false
set_option linter.all false
set_option maxRecDepth 100000
set_option maxHeartbeats 2000000
/-! TDa: data as trees, the store of what changes, the operations on them. -/
namespace TD
open PySem

/-- a value: what never changes is a tree; what changes stands in a cell of the store -/
inductive D where
  | non | bl (b : Bool) | int (i : Int) | str (x : Str)
  | tup (xs : List D) | lst (xs : List D) | ref (k : Nat) | ins (c : Nat) (vs : List D)
  deriving Inhabited

inductive Cell where
  | lst (xs : List D)
  | lck (xs : List D)
  | ins (c : Nat) (fs : List (Nat × D))
  | dic (kvs : List (D × D))
  deriving Inhabited
abbrev Store := List Cell
abbrev Sl := List (Option D)

inductive Res (α : Type) where
  | ok (a : α) (S : Store)
  | exc (x : D) (S : Store)
  | bad
  deriving Inhabited

@[inline] def Res.bind {α β : Type} (r : Res α) (f : α → Store → Res β) : Res β := match r with
  | .ok a S => f a S
  | .exc x S => .exc x S
  | .bad => .bad
@[simp] theorem Res.bind_ok {α β : Type} (a : α) (S : Store) (f : α → Store → Res β) : (Res.ok a S).bind f = f a S := id rfl
@[simp] theorem Res.bind_exc {α β : Type} (x : D) (S : Store) (f : α → Store → Res β) : (Res.exc x S).bind f = .exc x S := rfl
@[simp] theorem Res.bind_bad {α β : Type} (f : α → Store → Res β) : (Res.bad : Res α).bind f = .bad := rfl
theorem Res.bind_eq_ok {α β : Type} {r : Res α} {f : α → Store → Res β} {b : β} {S : Store} (h : r.bind f = .ok b S) : ∃ a S1, r = .ok a S1 ∧ f a S1 = .ok b S := by
  cases r with
  | ok a S1 => exact ⟨a, S1, rfl, h⟩
  | exc x S1 => cases h
  | bad => cases h
/-- a value that may be missing -/
def Res.of {α : Type} (o : Option α) (S : Store) : Res α := match o with
  | some a => .ok a S
  | none => .bad
@[simp] theorem Res.of_some {α : Type} (a : α) (S : Store) : Res.of (some a) S = .ok a S := rfl
@[simp] theorem Res.of_none {α : Type} (S : Store) : Res.of (none : Option α) S = .bad := rfl
theorem Res.of_eq_ok {α : Type} {o : Option α} {S S' : Store} {a : α} (h : Res.of o S = .ok a S') : o = some a ∧ S' = S := by
  cases o with
  | none => cases h
  | some b => cases h; exact ⟨rfl, rfl⟩

/-! ### references within -/
mutual
/-- every cell that is named within is below b -/
def D.lo (b : Nat) : D → Bool
  | .ref k => Nat.blt k b
  | .tup xs => D.loL b xs
  | .lst xs => D.loL b xs
  | .ins _ xs => D.loL b xs
  | _ => true
def D.loL (b : Nat) : List D → Bool
  | [] => true
  | x :: xs => D.lo b x && D.loL b xs
end
abbrev D.pure (d : D) : Bool := d.lo 0
def Cell.lo (b : Nat) : Cell → Bool
  | .lst xs => D.loL b xs
  | .lck xs => D.loL b xs
  | .ins _ fs => D.loL b (fs.map (·.2))
  | .dic kvs => D.loL b (kvs.map (·.1)) && D.loL b (kvs.map (·.2))
theorem loL_iff {b : Nat} : ∀ {xs : List D}, D.loL b xs = true ↔ ∀ x ∈ xs, x.lo b = true
  | [] => by simp [D.loL]
  | x :: xs => by
    have ih := loL_iff (b := b) (xs := xs)
    simp [D.loL, ih]
mutual
theorem lo_mono {a b : Nat} (h : a ≤ b) : ∀ (d : D), d.lo a = true → d.lo b = true
  | .ref k, e => by
    have e' : k < a := by simpa [D.lo, Nat.blt_eq] using e
    simp only [D.lo, Nat.blt_eq]; omega
  | .tup xs, e => by simp only [D.lo] at e ⊢; exact loL_mono h xs e
  | .lst xs, e => by simp only [D.lo] at e ⊢; exact loL_mono h xs e
  | .ins _ xs, e => by simp only [D.lo] at e ⊢; exact loL_mono h xs e
  | .non, _ => rfl
  | .bl _, _ => rfl
  | .int _, _ => rfl
  | .str _, _ => rfl
theorem loL_mono {a b : Nat} (h : a ≤ b) : ∀ (xs : List D), D.loL a xs = true → D.loL b xs = true
  | [], _ => rfl
  | x :: xs, e => by
    simp only [D.loL, Bool.and_eq_true] at e ⊢
    exact ⟨lo_mono h x e.1, loL_mono h xs e.2⟩
end

/-! ### plain data -/
mutual
def D.dat : D → Option PyData
  | .non => some .none
  | .bl b => some (.bool b)
  | .int i => some (.int i)
  | .str x => some (.str x)
  | .tup xs => (D.datL xs).map .tuple
  | .lst xs => (D.datL xs).map .list
  | .ref _ => none
  | .ins _ _ => none
def D.datL : List D → Option (List PyData)
  | [] => some []
  | x :: xs => match D.dat x, D.datL xs with
    | some p, some ps => some (p :: ps)
    | _, _ => none
end
/-- one step through a cell -/
def view (S : Store) : D → D
  | .ref k => match S[k]? with
    | some (.lst xs) => .lst xs
    | some (.lck xs) => .lst xs
    | _ => .ref k
  | d => d
/-- the plain data that a value is -/
def datS (S : Store) (d : D) : Option PyData := (view S d).dat
def shp (p : PyData) : Bool := SeqAt.shaped p
def eqD (S : Store) (a b : D) : Option Bool := match datS S a, datS S b with
  | some p, some q => if shp p = true ∧ shp q = true then some (PyData.eqv p q) else none
  | _, _ => none
def ltD (S : Store) (a b : D) : Option Bool := match a, b with
  | .int i, .int j => some (decide (i < j))
  | .str x, .str y => some (decide (x.cps.toList < y.cps.toList))
  | .tup _, .tup _ => (match a.dat, b.dat with
    | some p, some q => if PySem.W.alike p q = true ∧ p.depth ≤ 64 ∧ q.depth ≤ 64 then some (PySem.W.dataLt p q) else none
    | _, _ => none)
  | _, _ => none

/-! ### sequences -/
def seqL (S : Store) : D → Option (List D)
  | .lst xs => some xs
  | .ref k => match S[k]? with
    | some (.lst xs) => some xs
    | some (.lck xs) => some xs
    | _ => none
  | _ => none
def seqA (S : Store) : D → Option (List D)
  | .tup xs => some xs
  | d => seqL S d
/-- x in d -/
def inD (S : Store) (x d : D) : Option Bool := match d with
  | .str z => (match x with
    | .str y => some (!(Builtin.Str.occurrences z y 0 z.length 1).isEmpty)
    | _ => none)
  | _ => match seqA S d, datS S x with
    | some xs, some p => (match D.datL xs with
      | some ps => if shp p = true ∧ ps.all shp = true then some (ps.any fun z => PyData.eqv z p) else none
      | none => none)
    | _, _ => none

/-! ### arithmetic -/
inductive BOp where | add | sub | mul | fdiv | mod | pow | band | bor | bxor
  deriving DecidableEq
def mulOk (i j : Int) : Bool := decide (-(2 ^ 64) < i ∧ i < 2 ^ 64) || decide (-(2 ^ 64) < j ∧ j < 2 ^ 64) || decide (i.natAbs.log2 + j.natAbs.log2 < 1000000)
def divOk (j : Int) : Bool := decide (j ≠ 0 ∧ j.natAbs.log2 < 9000)
def powOk (i j : Int) : Bool := decide (0 ≤ j ∧ j ≤ 1000000 ∧ i.natAbs < 2 ^ 64)
def arith (op : BOp) (i j : Int) : Option Int := match op with
  | .add => some (i + j)
  | .sub => some (i - j)
  | .mul => if mulOk i j then some (i * j) else none
  | .fdiv => if divOk j then some (i.fdiv j) else none
  | .mod => if decide (j ≠ 0) then some (i.fmod j) else none
  | .pow => if powOk i j then some (i ^ j.toNat) else none
  | _ => none

/-! ### the slots -/
def getS (σ : Sl) (i : Nat) : Option D := (σ[i]?).join
def wipeD (σ : Sl) : List Nat → Sl
  | [] => σ
  | v :: vs => (wipeD σ vs).set v none

end TD

set_option Elab.async false
set_option linter.all false
set_option maxRecDepth 100000
set_option maxHeartbeats 2000000
/-! TDb: the small language and what its texts do. -/
namespace TD
open PySem
open L2 (V)

inductive COp where | eq | ne | lt | le | gt | ge | isin | notin
  deriving DecidableEq
inductive BF where | len | abs | int | all | any | sum | tuple | list | str | range | lenset | tuprange | min | max | sorted
  deriving DecidableEq
inductive BM where | append | extend | pop | insert | index | get | join | partition | split
  deriving DecidableEq
inductive ItK where | val | range | enum | zip | rev
  deriving DecidableEq
/-- a class that isinstance asks: a built-in one, one of the text -/
inductive Ty where | bi (t : String) | own (c : Nat)
  deriving DecidableEq
inductive Tg where | nm (i : Nat) | nil | cons (t r : Tg)
  deriving DecidableEq

inductive E where
  | var (i : Nat) | lit (v : V) | glob (g : Nat)
  | bin (mu : Bool) (op : BOp) (a b : E) | neg (a : E) | inv (a : E)
  | cmp (op : COp) (a b : E) | chn (o p : COp) (a b c : E) | isc (ng : Bool) (a : E) (v : V)
  | and (a b : E) | or (a b : E) | not (a : E) | ite (c a b : E)
  | call (f : Nat) (as : E) | make (c : Nat) (as : E) | meth (o : E) (m : Nat) (as : E)
  | bf (f : BF) (mu : Bool) (as : E) | bm (o : E) (m : BM) (as : E) | isi (a : E) (ts : List Ty)
  | fld (o : E) (f : Nat) | idx (o i : E) | sl (mu : Bool) (o lo hi : E)
  | tup (as : E) | lst (mu : Bool) (as : E)
  | nil | cons (a r : E) | om
  | comp (mu : Bool) (own : List (Str × Nat)) (elt : E) (t : Tg) (k : ItK) (src cs : E)
  | comp2 (mu : Bool) (own : List (Str × Nat)) (vs1 : List Nat) (elt : E) (t : Tg) (k : ItK) (src cs : E) (t1 : Tg) (k1 : ItK) (src1 cs1 : E)

/-- a block: nil, or a statement and the rest -/
inductive Sx where
  | nil | cons (s r : Sx)
  | pass | asg (t : Tg) (e : E) | asgF (o : E) (f : Nat) (e : E) | asgI (o i e : E)
  | asg2 (o1 i1 o2 i2 e : E)
  | asgP (is : List Nat) (as : E)
  | aug (i : Nat) (op : BOp) (e : E) | augF (o : E) (f : Nat) (op : BOp) (e : E)
  | expr (e : E) | ret (e : E) | retN
  | iff (c : E) (a b : Sx) | loop (t : Tg) (k : ItK) (src : E) (b : Sx) | whil (c : E) (b : Sx)
  | brk | cnt
  | never

structure ClsI where
  name : Str
  attrs : List Nat
  meths : List (Nat × Nat)
  mutb : Bool := false
structure FnI where
  at_ : Str × Option Str
  np : Nat
  names : List Str
  body : Sx
  keep : Bool := false
  dfl : List V := []
/-- cls: none stands at a number that this text has no class for -/
structure Prog where
  fns : List FnI
  cls : List (Option ClsI)
  nm : List Str
  globs : List (Str × D)
def Prog.cl (P : Prog) (c : Nat) : Option ClsI := (P.cls[c]?).join
structure Cn where
  Φ : Nat → Nat → List D → Store → Res D
  P : Prog
  base : Nat
  W : Nat

inductive Fl where | nx (σ : Sl) | rt (d : D) | bk (σ : Sl) | ct (σ : Sl)

/-- more than any sequence holds -/
def szl : Nat := 16777216
def ofV : V → D
  | .bl b => .bl b
  | .int i => .int i
  | .str x => .str x
  | _ => .non
def newL (mu : Bool) (xs : List D) (S : Store) : Res D := if Nat.ble xs.length szl then (if mu then .ok (.ref S.length) (S ++ [.lst xs]) else .ok (.lst xs) S) else .bad
def newT (xs : List D) (S : Store) : Res D := if Nat.ble xs.length szl then .ok (.tup xs) S else .bad

/-! ### the text's own classes -/
/-- the names that operators ask -/
def dunders : List Str := ["__init__", "__eq__", "__lt__", "__le__", "__gt__", "__ge__", "__len__", "__contains__", "__and__", "__or__", "__sub__", "__xor__", "__invert__", "__add__", "__mul__", "__floordiv__", "__mod__", "__neg__", "__pow__", "__getitem__", "__setitem__"]
def BOp.dun : BOp → Nat
  | .add => 13 | .sub => 10 | .mul => 14 | .fdiv => 15 | .mod => 16 | .pow => 18 | .band => 8 | .bor => 9 | .bxor => 11
def COp.dun : COp → Nat
  | .eq => 1 | .ne => 1 | .lt => 2 | .le => 3 | .gt => 4 | .ge => 5 | _ => 7
def clsOf (S : Store) : D → Option Nat
  | .ins c _ => some c
  | .ref k => match S[k]? with
    | some (.ins c _) => some c
    | _ => none
  | _ => none
def Prog.meth (P : Prog) (c m : Nat) : Option Nat := match P.cl c with
  | some ci => ci.meths.lookup m
  | none => none
/-- the method m of d's class -/
def dunOf (c : Cn) (S : Store) (d : D) (m : Nat) : Option Nat := match clsOf S d with
  | some k => c.P.meth k m
  | none => none
def fieldOf (P : Prog) (S : Store) (d : D) (f : Nat) : Option D := match d with
  | .ins c vs => (match P.cl c with
    | some ci => (ci.attrs.zip vs).lookup f
    | none => none)
  | .ref k => (match S[k]? with
    | some (.ins _ fs) => fs.lookup f
    | _ => none)
  | _ => none

/-! ### operations -/
def opBin (c : Cn) (mu : Bool) (op : BOp) (a b : D) (S : Store) : Res D := match clsOf S a with
  | some k => (match c.P.meth k op.dun with
    | some f => if clsOf S b = some k then c.Φ c.base f [a, b] S else .bad
    | none => .bad)
  | none => match a, b with
    | .int i, .int j => Res.of ((arith op i j).map .int) S
    | .str x, .str y => if op = .add ∧ x.length + y.length ≤ szl then .ok (.str (x ++ y)) S else .bad
    | .tup xs, .tup ys => if op = .add then newT (xs ++ ys) S else .bad
    | .tup xs, .int n => if op = .mul ∧ (0 ≤ n ∧ n ≤ 1000) ∧ 1 ≤ xs.length ∧ xs.length ≤ 1000 then .ok (.tup (List.replicate n.toNat xs).flatten) S else .bad
    | a, .int n => (match op, seqL S a with
      | .mul, some xs => if (0 ≤ n ∧ n ≤ 1000) ∧ xs.length ≤ 1000 then newL mu (List.replicate n.toNat xs).flatten S else .bad
      | _, _ => .bad)
    | a, b => match op, seqL S a, seqL S b with
      | .add, some xs, some ys => newL mu (xs ++ ys) S
      | _, _, _ => .bad
def boolR (r : Res D) (f : Bool → Bool) : Res D := r.bind fun d S => match d with
  | .bl b => .ok (.bl (f b)) S
  | _ => .bad
/-- a > b, for tuples -/
def gtD (a b : D) : Option Bool := match a, b with
  | .tup _, .tup _ => (match a.dat, b.dat with
    | some p, some q => if PySem.W.alike p q = true ∧ p.depth ≤ 64 ∧ q.depth ≤ 64 then some (PySem.W.dataLt q p) else none
    | _, _ => none)
  | _, _ => none
def opCmp (c : Cn) (op : COp) (a b : D) (S : Store) : Res D := match op with
  | .isin => (match dunOf c S b 7 with
    | some f => boolR (c.Φ c.base f [b, a] S) id
    | none => Res.of ((inD S a b).map .bl) S)
  | .notin => (match dunOf c S b 7 with
    | some f => boolR (c.Φ c.base f [b, a] S) not
    | none => Res.of ((inD S a b).map fun x => .bl (!x)) S)
  | .eq => (match clsOf S a with
    | some k => (match c.P.meth k 1 with
      | some f => boolR (c.Φ c.base f [a, b] S) id
      | none => .bad)
    | none => Res.of ((eqD S a b).map .bl) S)
  | .ne => (match clsOf S a with
    | some k => (match c.P.meth k 1 with
      | some f => if clsOf S b = some k then boolR (c.Φ c.base f [a, b] S) not else .bad
      | none => .bad)
    | none => Res.of ((eqD S a b).map fun x => .bl (!x)) S)
  | op => (match clsOf S a with
    | some k => (match c.P.meth k op.dun with
      | some f => boolR (c.Φ c.base f [a, b] S) id
      | none => .bad)
    | none => match a, b with
      | .int i, .int j => .ok (.bl (match op with
        | .lt => decide (i < j)
        | .le => decide (i ≤ j)
        | .gt => decide (j < i)
        | _ => decide (j ≤ i))) S
      | a, b => if op = .lt then Res.of ((ltD S a b).map .bl) S else if op = .gt then Res.of ((gtD a b).map .bl) S else .bad)
def tyOf (S : Store) : D → Option Ty
  | .non => some (.bi "NoneType")
  | .bl _ => some (.bi "bool")
  | .int _ => some (.bi "int")
  | .str _ => some (.bi "str")
  | .tup _ => some (.bi "tuple")
  | .lst _ => some (.bi "list")
  | .ins c _ => some (.own c)
  | .ref k => match S[k]? with
    | some (.lst _) => some (.bi "list")
    | some (.lck _) => some (.bi "list")
    | some (.ins c _) => some (.own c)
    | some (.dic _) => some (.bi "dict")
    | none => none
def isTy : Ty → Ty → Bool
  | .bi "bool", .bi "int" => true
  | a, b => decide (a = b)
def boolsOf : List D → Option (List Bool)
  | [] => some []
  | .bl b :: r => (boolsOf r).map (b :: ·)
  | _ => none
def intsOf : List D → Option (List Int)
  | [] => some []
  | .int i :: r => (intsOf r).map (i :: ·)
  | _ => none
def strsOf : List D → Option (List Str)
  | [] => some []
  | .str x :: r => (strsOf r).map (x :: ·)
  | _ => none
/-- the texts without those met before -/
def stepS (σ : List Str) (v : Str) : List Str := if σ.any (· == v) then σ else σ ++ [v]
def metS (xs : List Str) : List Str := xs.foldl stepS []
def rangeL (a b : Int) : List D := (List.range (b - a).toNat).map fun (i : Nat) => D.int (a + (i : Int))
def rgOk (a b : Int) : Bool := decide (-(2 ^ 62) ≤ a ∧ a < 2 ^ 62 ∧ -(2 ^ 62) ≤ b ∧ b < 2 ^ 62) && Nat.ble (b - a).toNat szl
def opBf (c : Cn) (f : BF) (mu : Bool) (as : List D) (S : Store) : Res D := match f, as with
  | .len, [d] => (match dunOf c S d 6 with
    | some g => (c.Φ c.base g [d] S).bind fun r S1 => match r with
      | .int i => if decide (0 ≤ i ∧ i < 2 ^ 62) then .ok (.int i) S1 else .bad
      | _ => .bad
    | none => match d with
      | .str x => if Nat.ble x.length szl then .ok (.int x.length) S else .bad
      | d => Res.of ((seqA S d).map fun xs => .int xs.length) S)
  | .abs, [.int i] => .ok (.int (if i < 0 then -i else i)) S
  | .int, [.int i] => .ok (.int i) S
  | .int, [.bl b] => .ok (.int (if b then 1 else 0)) S
  | .all, [d] => Res.of (((seqL S d).bind boolsOf).map fun bs => .bl (bs.all id)) S
  | .any, [d] => Res.of (((seqL S d).bind boolsOf).map fun bs => .bl (bs.any id)) S
  | .sum, [d] => Res.of (((seqL S d).bind intsOf).map fun ns => .int ns.sum) S
  | .tuple, [d] => Res.of ((seqA S d).map .tup) S
  | .list, [d] => (match seqA S d with
    | some xs => newL mu xs S
    | none => .bad)
  | .range, [.int b] => if rgOk 0 b then newL mu (rangeL 0 b) S else .bad
  | .range, [.int a, .int b] => if rgOk a b then newL mu (rangeL a b) S else .bad
  | .tuprange, [.int b] => if rgOk 0 b then newT (rangeL 0 b) S else .bad
  | .lenset, [d] => (match (seqA S d).bind strsOf with
    | some xs => if Nat.ble xs.length 4000 then .ok (.int (metS xs).length) S else .bad
    | none => .bad)
  | _, _ => .bad
/-- a value may be written into the cell k: the cell is the frame's own, or nothing stands in the value -/
def wrOk (c : Cn) (k : Nat) (d : D) : Bool := Nat.ble c.base k || d.pure
def ixOf (n : Nat) (i : Int) : Option Nat := L2.ixN n i
def setI (c : Cn) (o i v : D) (S : Store) : Res Unit := match o, i with
  | .ref k, .int j => (match S[k]? with
    | some (.lst xs) => (match ixOf xs.length j with
      | some n => if wrOk c k v then .ok () (S.set k (.lst (xs.set n v))) else .bad
      | none => .bad)
    | _ => .bad)
  | _, _ => .bad
def putP (f : Nat) (v : D) : List (Nat × D) → List (Nat × D)
  | [] => [(f, v)]
  | (g, x) :: r => if g = f then (g, v) :: r else (g, x) :: putP f v r
def hasA (P : Prog) (cl f : Nat) : Bool := match P.cl cl with
  | some ci => ci.attrs.contains f
  | none => false
def setF (c : Cn) (o : D) (f : Nat) (v : D) (S : Store) : Res Unit := match o with
  | .ref k => (match S[k]? with
    | some (.ins cl fs) => if wrOk c k v && Nat.blt fs.length 900 && hasA c.P cl f then .ok () (S.set k (.ins cl (putP f v fs))) else .bad
    | _ => .bad)
  | _ => .bad
def opIdx (c : Cn) (o i : D) (S : Store) : Res D := match o, i with
  | .str x, .int j => if Nat.ble x.length szl then Res.of (((ixOf x.length j).bind fun n => x.cps[n]?).map fun ch => .str ⟨#[ch]⟩) S else .bad
  | o, .int j => (match seqA S o with
    | some xs => Res.of ((ixOf xs.length j).bind fun n => xs[n]?) S
    | none => .bad)
  | _, _ => .bad
/-- a slice -/
def cutL {α : Type} (xs : List α) (lo hi : Option Int) : List α := (xs.drop (HT.sIx xs.length 0 lo)).take (HT.sIx xs.length xs.length hi - HT.sIx xs.length 0 lo)
def partOf : E → D → Option (Option Int)
  | .om, _ => some none
  | _, .int i => some (some i)
  | _, _ => none
def opSl (mu : Bool) (o : D) (lo hi : Option (Option Int)) (S : Store) : Res D := match lo, hi with
  | some l, some h => (match o with
    | .tup xs => .ok (.tup (cutL xs l h)) S
    | .str x => if Nat.ble x.length szl then .ok (.str (L2.cutS x l h)) S else .bad
    | o => (match seqL S o with
      | some xs => newL mu (cutL xs l h) S
      | none => .bad))
  | _, _ => .bad
def notRef (k : Nat) : D → Bool
  | .ref j => !(Nat.beq j k)
  | _ => true
def opBm (c : Cn) (o : D) (m : BM) (as : List D) (S : Store) : Res D := match o with
  | .ref k => (match S[k]? with
    | some (.lst xs) => (match m, as with
      | .append, [v] => if wrOk c k v && Nat.blt xs.length szl then .ok .non (S.set k (.lst (xs ++ [v]))) else .bad
      | .extend, [v] => (match seqL S v with
        | some ys => if ys.all (wrOk c k) && Nat.ble (xs.length + ys.length) szl && notRef k v then .ok .non (S.set k (.lst (xs ++ ys))) else .bad
        | none => .bad)
      | .pop, [] => (match xs.getLast? with
        | some v => .ok v (S.set k (.lst xs.dropLast))
        | none => .bad)
      | .pop, [.int i] => (match ixOf xs.length i with
        | some n => (match xs[n]? with
          | some v => .ok v (S.set k (.lst (xs.eraseIdx n)))
          | none => .bad)
        | none => .bad)
      | .insert, [.int i, v] => if decide (0 ≤ i ∧ i < 2 ^ 62) && wrOk c k v && Nat.blt xs.length szl then .ok .non (S.set k (.lst (xs.take i.toNat ++ [v] ++ xs.drop i.toNat))) else .bad
      | _, _ => .bad)
    | _ => .bad)
  | _ => .bad
/-- what a method of a built-in type is asked of -/
def recvT (S : Store) (m : BM) (d : D) : Bool := match d with
  | .ref k => (match S[k]? with
    | some (.lst _) => true
    | some (.lck _) => true
    | _ => false)
  | _ => false
/-- what a loop goes through -/
def itemsOf (k : ItK) (as : List D) (S : Store) : Option (List D) := match k, as with
  | .val, [.str x] => some (x.cps.toList.map fun ch => .str ⟨#[ch]⟩)
  | .val, [d] => seqA S d
  | .range, [.int b] => if rgOk 0 b then some (rangeL 0 b) else none
  | .range, [.int a, .int b] => if rgOk a b then some (rangeL a b) else none
  | .range, [.int a, .int b, .int st] => if decide (0 < st ∧ st < 1073741824) && rgOk a b && Builtin.Range.small a b st then some ((List.range (Builtin.Range.rangeSize a b st).toNat).map fun (i : Nat) => D.int (a + (i : Int) * st)) else none
  | .enum, [d] => (seqA S d).map fun xs => xs.mapIdx fun i x => .tup [.int i, x]
  | .zip, [a, b] => (match a, b with
    | .tup xs, .tup ys => some (List.zipWith (fun x y => .tup [x, y]) xs ys)
    | a, b => (match seqA S a, seqA S b with
      | some xs, some ys => some (List.zipWith (fun x y => .tup [x, y]) xs ys)
      | _, _ => none))
  | .rev, [d] => (seqA S d).map List.reverse
  | _, _ => none
/-- the cells that a loop reads are locked meanwhile -/
def lockS (S : Store) : List Nat → Store
  | [] => S
  | k :: r => match S[k]? with
    | some (.lst xs) => lockS (S.set k (.lck xs)) r
    | _ => lockS S r
/-- those of the cells that stand open now -/
def openS (S : Store) : List Nat → List Nat
  | [] => []
  | k :: r => match S[k]? with
    | some (.lst _) => k :: openS S r
    | _ => openS S r
def unlockS (S : Store) : List Nat → Store
  | [] => S
  | k :: r => match S[k]? with
    | some (.lck xs) => unlockS (S.set k (.lst xs)) r
    | _ => unlockS S r
def within {α : Type} (S : Store) (ks : List Nat) (f : Store → Res α) : Res α := match f (lockS S ks) with
  | .ok a S' => .ok a (unlockS S' (openS S ks))
  | .exc x S' => .exc x (unlockS S' (openS S ks))
  | .bad => .bad
def refsOf : List D → List Nat
  | [] => []
  | .ref k :: r => k :: refsOf r
  | _ :: r => refsOf r

/-! ### targets -/
def bindT : Tg → D → Sl → Option Sl
  | .nm i, d, σ => some (σ.set i (some d))
  | .cons t r, .tup (x :: xs), σ => (bindT t x σ).bind fun σ' => bindT r (.tup xs) σ'
  | .cons t r, .lst (x :: xs), σ => (bindT t x σ).bind fun σ' => bindT r (.tup xs) σ'
  | .nil, .tup [], σ => some σ
  | _, _, _ => none
def argsOf : D → List D
  | .tup xs => xs
  | _ => []

/-! ### loops -/
def forL (f : D → Sl → Store → Res Fl) : List D → Sl → Store → Res Fl
  | [], σ, S => .ok (.nx σ) S
  | x :: xs, σ, S => (f x σ S).bind fun fl S1 => match fl with
    | .nx σ' => forL f xs σ' S1
    | .ct σ' => forL f xs σ' S1
    | .bk σ' => .ok (.nx σ') S1
    | .rt d => .ok (.rt d) S1
def whileL (c : Sl → Store → Res Bool) (f : Sl → Store → Res Fl) : Nat → Sl → Store → Res Fl
  | 0, _, _ => .bad
  | n + 1, σ, S => (c σ S).bind fun b S0 => if b then (f σ S0).bind fun fl S1 => match fl with
    | .nx σ' => whileL c f n σ' S1
    | .ct σ' => whileL c f n σ' S1
    | .bk σ' => .ok (.nx σ') S1
    | .rt d => .ok (.rt d) S1
    else .ok (.nx σ) S0
/-- a comprehension's list: f gives an item's element, or none where a test drops it -/
def compL (f : D → Store → Res (List D)) : List D → Store → Res (List D)
  | [], S => .ok [] S
  | x :: xs, S => (f x S).bind fun ys S1 => (compL f xs S1).bind fun zs S2 => .ok (ys ++ zs) S2
/-- a value that is True or False -/
def isB {α : Type} (r : Res D) (f : Bool → Store → Res α) : Res α := r.bind fun d S => match d with
  | .bl b => f b S
  | _ => .bad
/-- nothing raises within a comprehension -/
def noExc {α : Type} (r : Res α) : Res α := match r with
  | .exc _ _ => .bad
  | r => r

/-- a comprehension's tests: nothing, or one -/
def tst (r : Res D) : Res Bool := r.bind fun t S => match t with
  | .tup [] => .ok true S
  | .tup [.bl b] => .ok b S
  | _ => .bad
abbrev Ev := Sl → Store → Res D
/-- one turn of a comprehension -/
def turnB (t : Tg) (cs elt : Ev) (σ : Sl) (x : D) (S : Store) : Res (List D) := match bindT t x σ with
  | none => .bad
  | some σ' => (tst (cs σ' S)).bind fun b S3 => if b then (elt σ' S3).bind fun y S4 => .ok [y] S4 else .ok [] S3
def compB (mu : Bool) (own : List (Str × Nat)) (t : Tg) (k : ItK) (src cs elt : Ev) (σ : Sl) (S : Store) : Res D := (src σ S).bind fun as S1 => match itemsOf k (argsOf as) S1 with
  | none => .bad
  | some items => noExc ((within S1 (refsOf (argsOf as)) (compL (turnB t cs elt (wipeD σ (own.map (·.2)))) items)).bind fun ys S5 => newL mu ys S5)
def turn2B (vs1 : List Nat) (t : Tg) (cs : Ev) (t1 : Tg) (k1 : ItK) (src1 cs1 elt : Ev) (σ : Sl) (x : D) (S : Store) : Res (List D) := match bindT t x σ with
  | none => .bad
  | some σ' => (tst (cs σ' S)).bind fun b S3 => if b then (src1 σ' S3).bind fun as1 S4 => match itemsOf k1 (argsOf as1) S4 with
      | none => .bad
      | some items1 => within S4 (refsOf (argsOf as1)) (compL (turnB t1 cs1 elt (wipeD σ' vs1)) items1)
    else .ok [] S3
def comp2B (mu : Bool) (own : List (Str × Nat)) (vs1 : List Nat) (t : Tg) (k : ItK) (src cs : Ev) (t1 : Tg) (k1 : ItK) (src1 cs1 elt : Ev) (σ : Sl) (S : Store) : Res D := (src σ S).bind fun as S1 => match itemsOf k (argsOf as) S1 with
  | none => .bad
  | some items => noExc ((within S1 (refsOf (argsOf as)) (compL (turn2B vs1 t cs t1 k1 src1 cs1 elt (wipeD σ (own.map (·.2)))) items)).bind fun ys S5 => newL mu ys S5)
/-- the arguments with the defaults that fill up -/
def full (P : Prog) (f : Nat) (as : List D) : List D := match P.fns[f]? with
  | some fd => as ++ (fd.dfl.drop (as.length + fd.dfl.length - fd.np)).map ofV
  | none => as

/-! ### expressions -/
def negB (c : Cn) (x : D) (S1 : Store) : Res D := match x with
  | .int i => .ok (.int (-i)) S1
  | x => (match dunOf c S1 x 17 with
    | some f => c.Φ c.base f [x] S1
    | none => .bad)
def invB (c : Cn) (x : D) (S1 : Store) : Res D := match dunOf c S1 x 12 with
  | some f => c.Φ c.base f [x] S1
  | none => .bad
def iscB (ng : Bool) (v : V) (x : D) (S1 : Store) : Res D := match x, v with
  | .non, .non => .ok (.bl (!ng)) S1
  | _, .non => .ok (.bl ng) S1
  | .bl p, .bl q => .ok (.bl (ng != (p == q))) S1
  | .non, .bl _ => .ok (.bl ng) S1
  | _, _ => .bad
def methB (c : Cn) (m : Nat) (x : D) (S1 : Store) (xs : D) (S2 : Store) : Res D := match dunOf c S1 x m with
  | some f => c.Φ c.base f (full c.P f (x :: argsOf xs)) S2
  | none => .bad
def bmB (c : Cn) (m : BM) (x : D) (S1 : Store) (xs : D) (S2 : Store) : Res D := if recvT S1 m x then opBm c x m (argsOf xs) S2 else .bad
/-- a new instance: its cell, __init__; then it is a tree, unless its class is one that changes -/
def mkB (c : Cn) (k : Nat) (as : List D) (S : Store) : Res D := match c.P.cl k, c.P.meth k 0 with
  | some ci, some f => (match c.P.fns[f]? with
    | some fd => if fd.keep && !ci.mutb then .bad else if !ci.mutb && as.all D.pure then (c.Φ 0 f (full c.P f (.ref 0 :: as)) [.ins k []]).bind fun r S1 => match r, S1 with
        | .non, [.ins k' fs] => if decide (fs.map (·.1) = ci.attrs ∧ k' = k) && D.loL 0 (fs.map (·.2)) then .ok (.ins k (fs.map (·.2))) S else .bad
        | _, _ => .bad
      else (c.Φ c.base f (full c.P f (.ref S.length :: as)) (S ++ [.ins k []])).bind fun r S1 => match r with
      | .non => if ci.mutb then .ok (.ref S.length) S1 else (match S1[S.length]? with
        | some (.ins k' fs) => if decide (fs.map (·.1) = ci.attrs ∧ S1.length = S.length + 1 ∧ k' = k) && D.loL S.length (fs.map (·.2)) then .ok (.ins k (fs.map (·.2))) (S1.take S.length) else .bad
        | _ => .bad)
      | _ => .bad
    | none => .bad)
  | _, _ => .bad


def ev (c : Cn) : E → Sl → Store → Res D
  | .var i, σ, S => Res.of (getS σ i) S
  | .lit v, _, S => .ok (ofV v) S
  | .glob g, _, S => Res.of ((c.P.globs[g]?).map fun p => p.2) S
  | .bin mu op a b, σ, S => (ev c a σ S).bind fun x S1 => (ev c b σ S1).bind fun y S2 => opBin c mu op x y S2
  | .neg a, σ, S => (ev c a σ S).bind fun x S1 => negB c x S1
  | .inv a, σ, S => (ev c a σ S).bind fun x S1 => invB c x S1
  | .cmp op a b, σ, S => (ev c a σ S).bind fun x S1 => (ev c b σ S1).bind fun y S2 => opCmp c op x y S2
  | .chn o p a b d, σ, S => (ev c a σ S).bind fun x S1 => (ev c b σ S1).bind fun y S2 => isB (opCmp c o x y S2) fun r S3 => if r then (ev c d σ S3).bind fun z S4 => opCmp c p y z S4 else .ok (.bl false) S3
  | .isc ng a v, σ, S => (ev c a σ S).bind fun x S1 => iscB ng v x S1
  | .and a b, σ, S => isB (ev c a σ S) fun r S1 => if r then ev c b σ S1 else .ok (.bl false) S1
  | .or a b, σ, S => isB (ev c a σ S) fun r S1 => if r then .ok (.bl true) S1 else ev c b σ S1
  | .not a, σ, S => isB (ev c a σ S) fun r S1 => .ok (.bl (!r)) S1
  | .ite t a b, σ, S => isB (ev c t σ S) fun r S1 => if r then ev c a σ S1 else ev c b σ S1
  | .call f as, σ, S => (ev c as σ S).bind fun xs S1 => c.Φ c.base f (full c.P f (argsOf xs)) S1
  | .make k as, σ, S => (ev c as σ S).bind fun xs S1 => mkB c k (argsOf xs) S1
  | .meth o m as, σ, S => (ev c o σ S).bind fun x S1 => (ev c as σ S1).bind fun xs S2 => methB c m x S1 xs S2
  | .bf f mu as, σ, S => (ev c as σ S).bind fun xs S1 => opBf c f mu (argsOf xs) S1
  | .bm o m as, σ, S => (ev c o σ S).bind fun x S1 => (ev c as σ S1).bind fun xs S2 => bmB c m x S1 xs S2
  | .isi a ts, σ, S => (ev c a σ S).bind fun x S1 => Res.of ((tyOf S1 x).map fun t => .bl (ts.any (isTy t))) S1
  | .fld o f, σ, S => (ev c o σ S).bind fun x S1 => Res.of (fieldOf c.P S1 x f) S1
  | .idx o i, σ, S => (ev c o σ S).bind fun x S1 => (ev c i σ S1).bind fun y S2 => opIdx c x y S2
  | .sl mu o lo hi, σ, S => (ev c o σ S).bind fun x S1 => (ev c lo σ S1).bind fun l S2 => (ev c hi σ S2).bind fun h S3 => opSl mu x (partOf lo l) (partOf hi h) S3
  | .tup as, σ, S => (ev c as σ S).bind fun xs S1 => newT (argsOf xs) S1
  | .lst mu as, σ, S => (ev c as σ S).bind fun xs S1 => newL mu (argsOf xs) S1
  | .nil, _, S => .ok (.tup []) S
  | .cons a r, σ, S => (ev c a σ S).bind fun x S1 => (ev c r σ S1).bind fun xs S2 => .ok (.tup (x :: argsOf xs)) S2
  | .om, _, S => .ok .non S
  | .comp mu own elt t k src cs, σ, S => compB mu own t k (ev c src) (ev c cs) (ev c elt) σ S
  | .comp2 mu own vs1 elt t k src cs t1 k1 src1 cs1, σ, S => comp2B mu own vs1 t k (ev c src) (ev c cs) t1 k1 (ev c src1) (ev c cs1) (ev c elt) σ S
/-! ### statements -/
def putAll : List Nat → List D → Sl → Option Sl
  | [], [], σ => some σ
  | i :: is, d :: ds, σ => putAll is ds (σ.set i (some d))
  | _, _, _ => none
def loopF (t : Tg) (body : Sl → Store → Res Fl) (x : D) (σ' : Sl) (S2 : Store) : Res Fl := match bindT t x σ' with
  | none => .bad
  | some σ2 => body σ2 S2
def exec (c : Cn) : Sx → Sl → Store → Res Fl
  | .nil, σ, S => .ok (.nx σ) S
  | .cons s r, σ, S => (exec c s σ S).bind fun fl S1 => match fl with
    | .nx σ' => exec c r σ' S1
    | fl => .ok fl S1
  | .pass, σ, S => .ok (.nx σ) S
  | .asg t e, σ, S => (ev c e σ S).bind fun d S1 => Res.of ((bindT t d σ).map .nx) S1
  | .asgF o f e, σ, S => (ev c e σ S).bind fun d S1 => (ev c o σ S1).bind fun x S2 => (setF c x f d S2).bind fun _ S3 => .ok (.nx σ) S3
  | .asgI o i e, σ, S => (ev c e σ S).bind fun d S1 => (ev c o σ S1).bind fun x S2 => (ev c i σ S2).bind fun y S3 => (setI c x y d S3).bind fun _ S4 => .ok (.nx σ) S4
  | .asg2 o1 i1 o2 i2 e, σ, S => (ev c e σ S).bind fun d S1 => match d with
    | .tup [u, v] => (ev c o1 σ S1).bind fun x S2 => (ev c i1 σ S2).bind fun y S3 => (setI c x y u S3).bind fun _ S4 =>
      (ev c o2 σ S4).bind fun x S5 => (ev c i2 σ S5).bind fun y S6 => (setI c x y v S6).bind fun _ S7 => .ok (.nx σ) S7
    | _ => .bad
  | .asgP is as, σ, S => (ev c as σ S).bind fun d S1 => Res.of ((putAll is (argsOf d) σ).map .nx) S1
  | .aug i op e, σ, S => (Res.of (getS σ i) S).bind fun x S0 => (ev c e σ S0).bind fun y S1 => (match x, y with
    | .int p, .int q => Res.of ((arith op p q).map D.int) S1
    | _, _ => .bad).bind fun z S2 => .ok (.nx (σ.set i (some z))) S2
  | .augF o f op e, σ, S => (ev c o σ S).bind fun x S0 => (Res.of (fieldOf c.P S0 x f) S0).bind fun u S1 => (ev c e σ S1).bind fun y S2 => (match u, y with
    | .int p, .int q => Res.of ((arith op p q).map D.int) S2
    | _, _ => .bad).bind fun z S3 => (setF c x f z S3).bind fun _ S4 => .ok (.nx σ) S4
  | .expr e, σ, S => (ev c e σ S).bind fun _ S1 => .ok (.nx σ) S1
  | .ret e, σ, S => (ev c e σ S).bind fun d S1 => .ok (.rt d) S1
  | .retN, σ, S => .ok (.rt .non) S
  | .iff t a b, σ, S => isB (ev c t σ S) fun r S1 => if r then exec c a σ S1 else exec c b σ S1
  | .loop t k src b, σ, S => (ev c src σ S).bind fun as S1 => match itemsOf k (argsOf as) S1 with
    | none => .bad
    | some items => within S1 (refsOf (argsOf as)) (forL (loopF t (exec c b)) items σ)
  | .whil t b, σ, S => whileL (fun σ' S1 => isB (ev c t σ' S1) fun r S2 => .ok r S2) (exec c b) c.W σ S
  | .brk, σ, S => .ok (.bk σ) S
  | .cnt, σ, S => .ok (.ct σ) S
  | .never, _, _ => .bad

/-! ### a def's call -/
/-- what leaves a frame is a tree but for the cells that stood ahead of it -/
def frz (P : Prog) (S : Store) (b : Nat) : Nat → D → Option D
  | 0, _ => none
  | n + 1, d => if d.lo b then some d else match d with
    | .ref k => (match S[k]? with
      | some (.lst ds) => (ds.mapM (frz P S b n)).map .lst
      | some (.ins c fs) => (match P.cl c with
        | some ci => if fs.map (·.1) = ci.attrs then ((fs.map (·.2)).mapM (frz P S b n)).map (.ins c) else none
        | none => none)
      | _ => none)
    | .tup ds => (ds.mapM (frz P S b n)).map .tup
    | .lst ds => (ds.mapM (frz P S b n)).map .lst
    | .ins c ds => (ds.mapM (frz P S b n)).map (.ins c)
    | d => some d
def leave (P : Prog) (keep : Bool) (b : Nat) (d : D) (S : Store) : Res D := if keep then .ok d S else match frz P S b 64 d with
  | some d' => .ok d' (S.take b)
  | none => .bad
def start (fd : FnI) (as : List D) : Sl := as.map some ++ List.replicate (fd.names.length - as.length) none
def run (P : Prog) (W : Nat) (Φ : Nat → Nat → List D → Store → Res D) (b : Nat) (fd : FnI) (as : List D) (S : Store) : Res D :=
  if as.length = fd.np then if !fd.keep && as.all D.pure then (match exec ⟨Φ, P, 0, W⟩ fd.body (start fd as) [] with
    | .ok (.rt d) S1 => Res.of (frz P S1 0 64 d) S
    | .ok (.nx _) _ => .ok .non S
    | _ => .bad)
  else (match exec ⟨Φ, P, if fd.keep then b else S.length, W⟩ fd.body (start fd as) S with
    | .ok (.rt d) S1 => leave P fd.keep S.length d S1
    | .ok (.nx _) S1 => leave P fd.keep S.length .non S1
    | _ => .bad) else .bad
def callF (P : Prog) (W : Nat) : Nat → Nat → Nat → List D → Store → Res D
  | 0, _, _, _, _ => .bad
  | n + 1, b, f, as, S => match P.fns[f]? with
    | some fd => run P W (callF P W n) b fd as S
    | none => .bad

end TD

set_option Elab.async false
set_option linter.all false
set_option maxRecDepth 100000
set_option maxHeartbeats 2000000
set_option autoImplicit false
/-! TDc: how trees and cells lie in the heap. -/
namespace TD
open PySem PySem.Spec PyProof.Rows L2

structure Gh where
  ρ : List Addr
  fz : Addr → Prop
  pn : Addr → Prop
def clsA (P : Prog) (K : PySem.W.Frag) (c : Nat) : Addr := match P.cl c with
  | some ci => He.ga K ci.name
  | none => 0
def Prog.nmOf (P : Prog) (i : Nat) : Str := P.nm.getD i Str.empty
/-- a list that nobody changes -/
def LstF (G : Gh) (H : Hp) (a : Addr) (xs : List V) : Prop := (G.fz a ∧ H a = some (.lst xs)) ∨ ∃ o, H a = some (.frz o (.lst xs))
theorem LstF.rd {G : Gh} {H : Hp} {a : Addr} {xs : List V} (h : LstF G H a xs) : Rd H a (.lst xs) := by
  rcases h with ⟨_, h⟩ | ⟨o, h⟩
  · exact .inl h
  · exact .inr ⟨o, h⟩
theorem LstF.sq {G : Gh} {H : Hp} {a : Addr} {xs : List V} {K : PySem.W.Frag} (h : LstF G H a xs) : SqL K H a xs := by
  rcases h with ⟨_, h⟩ | ⟨o, h⟩
  · exact .inl (.inl h)
  · exact .inl (.inr ⟨o, h⟩)
mutual
inductive Rep (P : Prog) (K : PySem.W.Frag) (G : Gh) (H : Hp) : V → D → Prop
  | non : Rep P K G H .non .non
  | bl (b : Bool) : Rep P K G H (.bl b) (.bl b)
  | int (i : Int) : Rep P K G H (.int i) (.int i)
  | str (x : Str) : Rep P K G H (.str x) (.str x)
  | tup {a : Addr} {xs : List V} {ds : List D} : SqT K H a xs → xs.length ≤ szl → RepL P K G H xs ds → Rep P K G H (.ref a) (.tup ds)
  | lst {a : Addr} {xs : List V} {ds : List D} : LstF G H a xs → xs.length ≤ szl → RepL P K G H xs ds → Rep P K G H (.ref a) (.lst ds)
  | ref {a : Addr} {k : Nat} : G.ρ[k]? = some a → Rep P K G H (.ref a) (.ref k)
  | ins {a : Addr} {c : Nat} {ci : ClsI} {dx : Addr} {fs : List (Str × V)} {ds : List D} : G.fz a → H a = some (.ins (clsA P K c) dx fs) → P.cl c = some ci → fs.map (·.1) = ci.attrs.map P.nmOf →
      RepL P K G H (fs.map (·.2)) ds → Rep P K G H (.ref a) (.ins c ds)
inductive RepL (P : Prog) (K : PySem.W.Frag) (G : Gh) (H : Hp) : List V → List D → Prop
  | nil : RepL P K G H [] []
  | cons {v : V} {d : D} {vs : List V} {ds : List D} : Rep P K G H v d → RepL P K G H vs ds → RepL P K G H (v :: vs) (d :: ds)
end
/-- what stands stays -/
structure Ext (G : Gh) (H : Hp) (G' : Gh) (H' : Hp) : Prop where
  pre : ∃ r, G'.ρ = G.ρ ++ r
  fz : ∀ a, G.fz a → G'.fz a
  same : ∀ a, G.fz a → H' a = H a
  pn : ∀ a, G.pn a → G'.pn a ∧ H' a = H a
  tup : ∀ a xs, H a = some (.tup xs) → H' a = some (.tup xs)
  frz : ∀ a o u, H a = some (.frz o u) → H' a = some (.frz o u)
theorem Ext.refl {G : Gh} {H : Hp} : Ext G H G H := ⟨⟨[], by simp⟩, fun _ h => h, fun _ _ => rfl, fun _ h => ⟨h, rfl⟩, fun _ _ h => h, fun _ _ _ h => h⟩
theorem Ext.trans {G G' G2 : Gh} {H H' H2 : Hp} (a : Ext G H G' H') (b : Ext G' H' G2 H2) : Ext G H G2 H2 := by
  obtain ⟨r, e⟩ := a.pre
  obtain ⟨r2, e2⟩ := b.pre
  exact ⟨⟨r ++ r2, by rw [e2, e, List.append_assoc]⟩, fun x h => b.fz x (a.fz x h), fun x h => (b.same x (a.fz x h)).trans (a.same x h), fun x h => ⟨(b.pn x (a.pn x h).1).1, (b.pn x (a.pn x h).1).2.trans (a.pn x h).2⟩, fun x xs h => b.tup x xs (a.tup x xs h), fun x o u h => b.frz x o u (a.frz x o u h)⟩
theorem Ext.at_ {G G' : Gh} {H H' : Hp} (e : Ext G H G' H') {k : Nat} {a : Addr} (h : G.ρ[k]? = some a) : G'.ρ[k]? = some a := by
  obtain ⟨r, e⟩ := e.pre
  rw [e, List.getElem?_append_left (List.getElem?_eq_some_iff.mp h).1]
  exact h
theorem SqT.ext {K : PySem.W.Frag} {G G' : Gh} {H H' : Hp} (e : Ext G H G' H') {a : Addr} {xs : List V} (h : SqT K H a xs) : SqT K H' a xs := by
  rcases h with (h | ⟨o, h⟩) | h
  · exact .inl (.inl (e.tup _ _ h))
  · exact .inl (.inr ⟨o, e.frz _ _ _ h⟩)
  · exact .inr h
theorem LstF.ext {G G' : Gh} {H H' : Hp} (e : Ext G H G' H') {a : Addr} {xs : List V} (h : LstF G H a xs) : LstF G' H' a xs := by
  rcases h with ⟨f, h⟩ | ⟨o, h⟩
  · exact .inl ⟨e.fz _ f, (e.same _ f).trans h⟩
  · exact .inr ⟨o, e.frz _ _ _ h⟩
section
variable {P : Prog} {K : PySem.W.Frag} {G G' : Gh} {H H' : Hp}
mutual
theorem Rep.ext (e : Ext G H G' H') : ∀ {v : V} {d : D}, Rep P K G H v d → Rep P K G' H' v d
  | _, _, .non => .non
  | _, _, .bl b => .bl b
  | _, _, .int i => .int i
  | _, _, .str x => .str x
  | _, _, .tup s l r => .tup (SqT.ext e s) l (RepL.ext e r)
  | _, _, .lst s l r => .lst (LstF.ext e s) l (RepL.ext e r)
  | _, _, .ref h => .ref (e.at_ h)
  | _, _, .ins f h c a r => .ins (e.fz _ f) ((e.same _ f).trans h) c a (RepL.ext e r)
theorem RepL.ext (e : Ext G H G' H') : ∀ {vs : List V} {ds : List D}, RepL P K G H vs ds → RepL P K G' H' vs ds
  | _, _, .nil => .nil
  | _, _, .cons r t => .cons (Rep.ext e r) (RepL.ext e t)
end
theorem RepL.length : ∀ {vs : List V} {ds : List D}, RepL P K G H vs ds → vs.length = ds.length
  | _, _, .nil => rfl
  | _, _, .cons _ t => by simp [RepL.length t]
theorem RepL.get : ∀ {vs : List V} {ds : List D} {i : Nat} {d : D}, RepL P K G H vs ds → ds[i]? = some d → ∃ v, vs[i]? = some v ∧ Rep P K G H v d
  | _, _, _, _, .nil, e => by simp at e
  | _, _, 0, d, .cons r _, e => by simp at e; subst e; exact ⟨_, rfl, r⟩
  | _, _, i + 1, d, .cons _ t, e => by
    obtain ⟨v, h1, h2⟩ := RepL.get (i := i) (d := d) t (by simpa using e)
    exact ⟨v, by simpa using h1, h2⟩
theorem RepL.getV : ∀ {vs : List V} {ds : List D} {i : Nat} {v : V}, RepL P K G H vs ds → vs[i]? = some v → ∃ d, ds[i]? = some d ∧ Rep P K G H v d
  | _, _, _, _, .nil, e => by simp at e
  | _, _, 0, v, .cons r _, e => by simp at e; subst e; exact ⟨_, rfl, r⟩
  | _, _, i + 1, v, .cons _ t, e => by
    obtain ⟨d, h1, h2⟩ := RepL.getV (i := i) (v := v) t (by simpa using e)
    exact ⟨d, by simpa using h1, h2⟩
theorem RepL.append : ∀ {vs ws : List V} {ds es : List D}, RepL P K G H vs ds → RepL P K G H ws es → RepL P K G H (vs ++ ws) (ds ++ es)
  | _, _, _, _, .nil, s => s
  | _, _, _, _, .cons r t, s => .cons r (RepL.append t s)
theorem RepL.take : ∀ {vs : List V} {ds : List D} (n : Nat), RepL P K G H vs ds → RepL P K G H (vs.take n) (ds.take n)
  | _, _, 0, _ => .nil
  | _, _, _ + 1, .nil => .nil
  | _, _, n + 1, .cons r t => .cons r (RepL.take n t)
theorem RepL.drop : ∀ {vs : List V} {ds : List D} (n : Nat), RepL P K G H vs ds → RepL P K G H (vs.drop n) (ds.drop n)
  | _, _, 0, r => r
  | _, _, _ + 1, .nil => .nil
  | _, _, n + 1, .cons _ t => RepL.drop n t
theorem RepL.set : ∀ {vs : List V} {ds : List D} (n : Nat) {v : V} {d : D}, RepL P K G H vs ds → Rep P K G H v d → RepL P K G H (vs.set n v) (ds.set n d)
  | _, _, _, _, _, .nil, _ => .nil
  | _, _, 0, _, _, .cons _ t, q => .cons q t
  | _, _, n + 1, _, _, .cons r t, q => .cons r (RepL.set n t q)
theorem RepL.eraseIdx : ∀ {vs : List V} {ds : List D} (n : Nat), RepL P K G H vs ds → RepL P K G H (vs.eraseIdx n) (ds.eraseIdx n)
  | _, _, _, .nil => .nil
  | _, _, 0, .cons _ t => t
  | _, _, n + 1, .cons r t => .cons r (RepL.eraseIdx n t)
theorem RepL.dropLast {vs : List V} {ds : List D} (r : RepL P K G H vs ds) : RepL P K G H vs.dropLast ds.dropLast := by
  rw [List.dropLast_eq_take, List.dropLast_eq_take, r.length]
  exact r.take _
theorem RepL.reverse : ∀ {vs : List V} {ds : List D}, RepL P K G H vs ds → RepL P K G H vs.reverse ds.reverse
  | _, _, .nil => .nil
  | _, _, .cons r t => by
    rw [List.reverse_cons, List.reverse_cons]
    exact RepL.append (RepL.reverse t) (.cons r .nil)

/-! ### what a value names stands -/
mutual
theorem Rep.lo : ∀ {v : V} {d : D}, Rep P K G H v d → d.lo G.ρ.length = true
  | _, _, .non => rfl
  | _, _, .bl _ => rfl
  | _, _, .int _ => rfl
  | _, _, .str _ => rfl
  | _, _, .tup _ _ r => by simp only [D.lo]; exact RepL.lo r
  | _, _, .lst _ _ r => by simp only [D.lo]; exact RepL.lo r
  | _, _, .ref h => by simp only [D.lo, Nat.blt_eq]; exact (List.getElem?_eq_some_iff.mp h).1
  | _, _, .ins _ _ _ _ r => by simp only [D.lo]; exact RepL.lo r
theorem RepL.lo : ∀ {vs : List V} {ds : List D}, RepL P K G H vs ds → D.loL G.ρ.length ds = true
  | _, _, .nil => rfl
  | _, _, .cons r t => by simp only [D.loL, Bool.and_eq_true]; exact ⟨Rep.lo r, RepL.lo t⟩
end
mutual
/-- a value that names none of the later cells stands without them -/
theorem Rep.cut {b : Nat} (hr : ∀ k a, k < b → G.ρ[k]? = some a → G'.ρ[k]? = some a) (hf : ∀ a, G.fz a → G'.fz a) : ∀ {v : V} {d : D}, Rep P K G H v d → d.lo b = true → Rep P K G' H v d
  | _, _, .non, _ => .non
  | _, _, .bl b, _ => .bl b
  | _, _, .int i, _ => .int i
  | _, _, .str x, _ => .str x
  | _, _, .tup s l r, e => .tup s l (RepL.cut hr hf r (by simpa only [D.lo] using e))
  | _, _, .lst s l r, e => .lst (by rcases s with ⟨f, q⟩ | q; exact .inl ⟨hf _ f, q⟩; exact .inr q) l (RepL.cut hr hf r (by simpa only [D.lo] using e))
  | _, _, .ref h, e => .ref (hr _ _ (by simpa only [D.lo, Nat.blt_eq] using e) h)
  | _, _, .ins f h c a r, e => .ins (hf _ f) h c a (RepL.cut hr hf r (by simpa only [D.lo] using e))
theorem RepL.cut {b : Nat} (hr : ∀ k a, k < b → G.ρ[k]? = some a → G'.ρ[k]? = some a) (hf : ∀ a, G.fz a → G'.fz a) : ∀ {vs : List V} {ds : List D}, RepL P K G H vs ds → D.loL b ds = true → RepL P K G' H vs ds
  | _, _, .nil, _ => .nil
  | _, _, .cons r t, e => by
    simp only [D.loL, Bool.and_eq_true] at e
    exact .cons (Rep.cut hr hf r e.1) (RepL.cut hr hf t e.2)
end
end

/-- without what is kept apart -/
def Gh.loose (G : Gh) : Gh := { G with pn := fun _ => False }
section
variable {P : Prog} {K : PySem.W.Frag} {G G' : Gh} {H H' : Hp}
theorem Rep.loose {v : V} {d : D} (r : Rep P K G H v d) : Rep P K G.loose H v d := Rep.cut (G := G) (G' := G.loose) (b := G.ρ.length) (fun _ _ _ e => e) (fun _ h => h) r r.lo
theorem Rep.tight {v : V} {d : D} (r : Rep P K G.loose H v d) : Rep P K G H v d := Rep.cut (G := G.loose) (G' := G) (b := G.ρ.length) (fun _ _ _ e => e) (fun _ h => h) r r.lo
theorem RepL.loose {v : List V} {d : List D} (r : RepL P K G H v d) : RepL P K G.loose H v d := RepL.cut (G := G) (G' := G.loose) (b := G.ρ.length) (fun _ _ _ e => e) (fun _ h => h) r r.lo
theorem RepL.tight {v : List V} {d : List D} (r : RepL P K G.loose H v d) : RepL P K G H v d := RepL.cut (G := G.loose) (G' := G) (b := G.ρ.length) (fun _ _ _ e => e) (fun _ h => h) r r.lo
theorem Ext.loose (e : Ext G H G' H') : Ext G.loose H G'.loose H' := ⟨e.pre, e.fz, e.same, fun _ h => h.elim, e.tup, e.frz⟩
end

/-! ### cells -/
def CellR (P : Prog) (K : PySem.W.Frag) (G : Gh) (H : Hp) (a : Addr) : Cell → Prop
  | .lst ds => ∃ vs, H a = some (.lst vs) ∧ vs.length ≤ szl ∧ RepL P K G H vs ds
  | .lck ds => ∃ vs, H a = some (.lst vs) ∧ vs.length ≤ szl ∧ RepL P K G H vs ds
  | .ins c fs => ∃ dx fv, H a = some (.ins (clsA P K c) dx fv) ∧ fv.map (·.1) = fs.map (fun p => P.nmOf p.1) ∧ RepL P K G H (fv.map (·.2)) (fs.map (·.2)) ∧ ∃ ci, P.cl c = some ci ∧ (∀ p ∈ fs, p.1 ∈ ci.attrs) ∧ fs.length ≤ 900
  | .dic _ => False
structure Sim (P : Prog) (K : PySem.W.Frag) (bs : List Nat) (G : Gh) (S : Store) (H : Hp) : Prop where
  len : G.ρ.length = S.length
  nd : G.ρ.Nodup
  nf : ∀ a ∈ G.ρ, ¬ G.fz a
  cell : ∀ (k : Nat) (a : Addr) (c : Cell), G.ρ[k]? = some a → S[k]? = some c → CellR P K G H a c
  fzs : ∀ a, G.fz a → ∃ o, H a = some o
  pns : ∀ a, G.pn a → (∃ o, H a = some o) ∧ ¬ G.fz a ∧ a ∉ G.ρ
  lv : ∀ b ∈ bs, b ≤ S.length ∧ ∀ (k : Nat) (c : Cell), k < b → S[k]? = some c → c.lo b = true
/-- locked cells stay -/
def SX (S S' : Store) : Prop := ∀ (k : Nat) (xs : List D), S[k]? = some (Cell.lck xs) → S'[k]? = some (Cell.lck xs)
theorem SX.refl {S : Store} : SX S S := fun _ _ h => h
theorem SX.trans {S S' S2 : Store} (a : SX S S') (b : SX S' S2) : SX S S2 := fun k xs h => b k xs (a k xs h)
theorem CellR.some {P : Prog} {K : PySem.W.Frag} {G : Gh} {H : Hp} {a : Addr} {c : Cell} (h : CellR P K G H a c) : ∃ o, H a = some o ∧ Mut (some o) := by
  cases c with
  | lst ds => obtain ⟨vs, h, _⟩ := h; exact ⟨_, h, trivial⟩
  | lck ds => obtain ⟨vs, h, _⟩ := h; exact ⟨_, h, trivial⟩
  | ins c fs => obtain ⟨dx, fv, h, _⟩ := h; exact ⟨_, h, trivial⟩
  | dic _ => exact h.elim
theorem CellR.ext {P : Prog} {K : PySem.W.Frag} {G G' : Gh} {H H' : Hp} {a : Addr} {c : Cell} (e : Ext G H G' H') (ha : H' a = H a) (h : CellR P K G H a c) : CellR P K G' H' a c := by
  cases c with
  | lst ds => obtain ⟨vs, h, l, r⟩ := h; exact ⟨vs, ha.trans h, l, r.ext e⟩
  | lck ds => obtain ⟨vs, h, l, r⟩ := h; exact ⟨vs, ha.trans h, l, r.ext e⟩
  | ins c fs => obtain ⟨dx, fv, h, n, r, q⟩ := h; exact ⟨dx, fv, ha.trans h, n, r.ext e, q⟩
  | dic _ => exact h.elim
theorem CellR.lo {P : Prog} {K : PySem.W.Frag} {G : Gh} {H : Hp} {a : Addr} {c : Cell} (h : CellR P K G H a c) : c.lo G.ρ.length = true := by
  cases c with
  | lst ds => obtain ⟨vs, h, l, r⟩ := h; exact r.lo
  | lck ds => obtain ⟨vs, h, l, r⟩ := h; exact r.lo
  | ins c fs => obtain ⟨dx, fv, h, n, r, q⟩ := h; exact r.lo
  | dic _ => exact h.elim

section
variable {P : Prog} {K : PySem.W.Frag} {bs : List Nat} {G : Gh} {S : Store} {H : Hp}
theorem Sim.at_ (sm : Sim P K bs G S H) {k : Nat} {c : Cell} (h : S[k]? = some c) : ∃ a, G.ρ[k]? = some a ∧ CellR P K G H a c := by
  have hk := (List.getElem?_eq_some_iff.mp h).1
  have e : G.ρ[k]? = some (G.ρ[k]'(by rw [sm.len]; exact hk)) := List.getElem?_eq_getElem _
  exact ⟨_, e, sm.cell k _ c e h⟩
theorem Sim.there (sm : Sim P K bs G S H) {a : Addr} (h : a ∈ G.ρ) : ∃ o, H a = some o ∧ Mut (some o) := by
  obtain ⟨k, hk, e⟩ := List.mem_iff_getElem.mp h
  have e1 : G.ρ[k]? = some a := by rw [List.getElem?_eq_getElem hk, e]
  have hs : k < S.length := by rw [← sm.len]; exact hk
  exact (sm.cell k a _ e1 (List.getElem?_eq_getElem hs)).some
/-- a fresh object is laid and tracked -/
theorem Ext.fresh (sm : Sim P K bs G S H) {p : Addr} {o : HO} (hp : H p = none) : Ext G H G (upd H p o) := by
  refine ⟨⟨[], by simp⟩, fun _ h => h, fun a h => upd_ne ?_, fun a h => ⟨h, upd_ne ?_⟩, fun a xs h => ?_, fun a ob u h => ?_⟩
  · obtain ⟨o', e⟩ := sm.fzs a h; exact ne_of_none e hp
  · obtain ⟨⟨o', e⟩, _⟩ := sm.pns a h; exact ne_of_none e hp
  · rw [upd_ne (ne_of_none h hp)]; exact h
  · rw [upd_ne (ne_of_none h hp)]; exact h
theorem Sim.fresh (sm : Sim P K bs G S H) {p : Addr} {o : HO} (hp : H p = none) : Sim P K bs G S (upd H p o) := by
  have e := Ext.fresh (o := o) sm hp
  refine ⟨sm.len, sm.nd, sm.nf, fun k a c h1 h2 => ?_, fun a h => ?_, fun a h => ?_, sm.lv⟩
  · have h3 := sm.cell k a c h1 h2
    obtain ⟨o', q, _⟩ := h3.some
    exact h3.ext e (upd_ne (ne_of_none q hp))
  · obtain ⟨o', q⟩ := sm.fzs a h
    exact ⟨o', by rw [upd_ne (ne_of_none q hp)]; exact q⟩
  · obtain ⟨⟨o', q⟩, r⟩ := sm.pns a h
    exact ⟨⟨o', by rw [upd_ne (ne_of_none q hp)]; exact q⟩, r⟩
/-- .. and frozen -/
def Gh.frost (G : Gh) (p : Addr) : Gh := { G with fz := fun a => a = p ∨ G.fz a }
theorem Ext.frost (sm : Sim P K bs G S H) {p : Addr} {o : HO} (hp : H p = none) : Ext G H (G.frost p) (upd H p o) := by
  have e := Ext.fresh (o := o) sm hp
  exact ⟨⟨[], by simp [Gh.frost]⟩, fun _ h => .inr h, e.same, e.pn, e.tup, e.frz⟩
theorem Sim.frost (sm : Sim P K bs G S H) {p : Addr} {o : HO} (hp : H p = none) : Sim P K bs (G.frost p) S (upd H p o) := by
  have e := Ext.frost (o := o) sm hp
  refine ⟨sm.len, sm.nd, fun a ha => ?_, fun k a c h1 h2 => ?_, fun a h => ?_, fun a h => ?_, sm.lv⟩
  · rintro (rfl | h)
    · obtain ⟨o', q, _⟩ := sm.there ha
      rw [hp] at q; cases q
    · exact sm.nf a ha h
  · have h3 := sm.cell k a c h1 h2
    obtain ⟨o', q, _⟩ := h3.some
    exact h3.ext e (upd_ne (ne_of_none q hp))
  · rcases h with rfl | h
    · exact ⟨o, upd_same⟩
    · obtain ⟨o', q⟩ := sm.fzs a h
      exact ⟨o', by rw [upd_ne (ne_of_none q hp)]; exact q⟩
  · obtain ⟨⟨o', q⟩, r1, r2⟩ := sm.pns a h
    refine ⟨⟨o', by rw [upd_ne (ne_of_none q hp)]; exact q⟩, ?_, r2⟩
    rintro (rfl | z)
    · rw [hp] at q; cases q
    · exact r1 z
/-- .. as a new cell -/
def Gh.more (G : Gh) (p : Addr) : Gh := { G with ρ := G.ρ ++ [p] }
theorem Ext.more (sm : Sim P K bs G S H) {p : Addr} {o : HO} (hp : H p = none) : Ext G H (G.more p) (upd H p o) := by
  have e := Ext.fresh (o := o) sm hp
  exact ⟨⟨[p], rfl⟩, fun _ h => h, e.same, e.pn, e.tup, e.frz⟩
theorem Sim.more (sm : Sim P K bs G S H) {p : Addr} {o : HO} {c : Cell} (hp : H p = none) (hc : CellR P K (G.more p) (upd H p o) p c) : Sim P K bs (G.more p) (S ++ [c]) (upd H p o) := by
  have e := Ext.more (o := o) sm hp
  refine ⟨by simp [Gh.more, sm.len], ?_, fun a ha h => ?_, fun k a c' h1 h2 => ?_, fun a h => ?_, fun a h => ?_, fun b hb => ?_⟩
  · show (G.ρ ++ [p]).Nodup
    rw [List.nodup_append]
    refine ⟨sm.nd, by simp, fun a ha b hb => ?_⟩
    have hb' : b = p := by simpa using hb
    subst hb'
    obtain ⟨o', q, _⟩ := sm.there ha
    exact ne_of_none q hp
  · have ha' : a ∈ G.ρ ∨ a = p := by simpa [Gh.more] using ha
    rcases ha' with ha | rfl
    · exact sm.nf a ha h
    · obtain ⟨o', q⟩ := sm.fzs a h
      rw [hp] at q; cases q
  · by_cases hk : k < S.length
    · have h1' : G.ρ[k]? = some a := by
        have : (G.ρ ++ [p])[k]? = some a := h1
        rwa [List.getElem?_append_left (by rw [sm.len]; exact hk)] at this
      rw [List.getElem?_append_left hk] at h2
      have h3 := sm.cell k a c' h1' h2
      obtain ⟨o', q, _⟩ := h3.some
      exact h3.ext e (upd_ne (ne_of_none q hp))
    · have hk2 : k = S.length := by
        have := (List.getElem?_eq_some_iff.mp h2).1
        simp at this; omega
      subst hk2
      have h1' : (G.ρ ++ [p])[G.ρ.length]? = some a := by rw [sm.len]; exact h1
      rw [List.getElem?_concat_length] at h1' h2
      cases h1'; cases h2
      exact hc
  · obtain ⟨o', q⟩ := sm.fzs a h
    exact ⟨o', by rw [upd_ne (ne_of_none q hp)]; exact q⟩
  · obtain ⟨⟨o', q⟩, r1, r2⟩ := sm.pns a h
    refine ⟨⟨o', by rw [upd_ne (ne_of_none q hp)]; exact q⟩, r1, fun z => ?_⟩
    have z' : a ∈ G.ρ ∨ a = p := by simpa [Gh.more] using z
    rcases z' with z | rfl
    · exact r2 z
    · rw [hp] at q; cases q
  · obtain ⟨h1, h2⟩ := sm.lv b hb
    refine ⟨by simp; omega, fun k c' hk e => h2 k c' hk ?_⟩
    rwa [List.getElem?_append_left (by omega)] at e
theorem SX.more {S : Store} {c : Cell} : SX S (S ++ [c]) := fun k xs h => by
  rw [List.getElem?_append_left (List.getElem?_eq_some_iff.mp h).1]; exact h
/-- a cell is written -/
theorem Sim.write (sm : Sim P K bs G S H) {k : Nat} {a : Addr} {c : Cell} {o : HO} (ha : G.ρ[k]? = some a) (hm : Mut (some o)) (hc : CellR P K G (upd H a o) a c) (hl : ∀ b ∈ bs, k < b → c.lo b = true) :
    Ext G H G (upd H a o) ∧ Sim P K bs G (S.set k c) (upd H a o) := by
  have ma : a ∈ G.ρ := List.mem_of_getElem? ha
  obtain ⟨o1, q1, m1⟩ := sm.there ma
  have e : Ext G H G (upd H a o) := by
    refine ⟨⟨[], by simp⟩, fun _ h => h, fun x h => upd_ne fun z => ?_, fun x h => ⟨h, upd_ne fun z => ?_⟩, fun x xs h => ?_, fun x ob u h => ?_⟩
    · subst z; exact sm.nf x ma h
    · subst z; exact (sm.pns x h).2.2 ma
    · rw [upd_ne]; exact h
      rintro rfl
      rw [q1] at h; cases h; exact m1
    · rw [upd_ne]; exact h
      rintro rfl
      rw [q1] at h; cases h; exact m1
  refine ⟨e, by simp [sm.len], sm.nd, sm.nf, fun j x c' h1 h2 => ?_, fun x h => ?_, fun x h => ?_, fun b hb => ?_⟩
  · by_cases hj : j = k
    · subst hj
      rw [ha] at h1; cases h1
      rw [List.getElem?_set_self (by rw [← sm.len]; exact (List.getElem?_eq_some_iff.mp ha).1)] at h2
      cases h2; exact hc
    · rw [List.getElem?_set_ne (Ne.symm hj)] at h2
      refine (sm.cell j x c' h1 h2).ext e (upd_ne fun z => ?_)
      subst z
      exact hj (nodup_ixA sm.nd h1 ha)
  · obtain ⟨o', q⟩ := sm.fzs x h
    refine ⟨o', ?_⟩
    rw [upd_ne fun z => ?_]; exact q
    subst z; exact sm.nf x ma h
  · obtain ⟨⟨o', q⟩, r1, r2⟩ := sm.pns x h
    refine ⟨⟨o', ?_⟩, r1, r2⟩
    rw [upd_ne fun z => ?_]; exact q
    subst z; exact r2 ma
  · obtain ⟨h1, h2⟩ := sm.lv b hb
    refine ⟨by simpa using h1, fun j c' hj e' => ?_⟩
    by_cases hjk : j = k
    · subst hjk
      rw [List.getElem?_set_self (by omega)] at e'
      cases e'; exact hl b hb hj
    · rw [List.getElem?_set_ne (Ne.symm hjk)] at e'
      exact h2 j c' hj e'
where
  nodup_ixA {N : List Addr} (hN : N.Nodup) {i j : Nat} {x : Addr} (a : N[i]? = some x) (b : N[j]? = some x) : i = j := by
    obtain ⟨h1, e1⟩ := List.getElem?_eq_some_iff.mp a
    obtain ⟨h2, e2⟩ := List.getElem?_eq_some_iff.mp b
    exact (List.getElem_inj hN).mp (e1.trans e2.symm)
theorem SX.set {S : Store} {k : Nat} {c c0 : Cell} (h0 : S[k]? = some c0) (hn : ∀ xs, c0 ≠ .lck xs) : SX S (S.set k c) := fun j xs h => by
  by_cases hj : j = k
  · subst hj; rw [h0] at h; cases h; exact absurd rfl (hn xs)
  · rw [List.getElem?_set_ne (Ne.symm hj)]; exact h
end

/-! ### the slots -/
def StR (P : Prog) (K : PySem.W.Frag) (G : Gh) (H : Hp) (σ : Sl) (σL : L2.St) : Prop := σ.length = σL.length ∧ ∀ (i : Nat) (d : D), σ[i]? = some (some d) → ∃ v, σL[i]? = some (some v) ∧ Rep P K G H v d
theorem StR.ext {P : Prog} {K : PySem.W.Frag} {G G' : Gh} {H H' : Hp} {σ : Sl} {σL : L2.St} (e : Ext G H G' H') (h : StR P K G H σ σL) : StR P K G' H' σ σL :=
  ⟨h.1, fun i d q => let ⟨v, a, b⟩ := h.2 i d q; ⟨v, a, b.ext e⟩⟩
theorem StR.set {P : Prog} {K : PySem.W.Frag} {G : Gh} {H : Hp} {σ : Sl} {σL : L2.St} (h : StR P K G H σ σL) {i : Nat} {v : V} {d : D} (r : Rep P K G H v d) : StR P K G H (σ.set i (some d)) (σL.set i (some v)) := by
  refine ⟨by simp [h.1], fun j e q => ?_⟩
  by_cases hj : i = j
  · subst hj
    by_cases hl : i < σ.length
    · rw [List.getElem?_set_self hl] at q
      cases q
      exact ⟨v, by rw [List.getElem?_set_self (by rw [← h.1]; exact hl)], r⟩
    · rw [List.getElem?_eq_none (by simpa using hl)] at q; cases q
  · rw [List.getElem?_set_ne hj] at q ⊢
    exact h.2 j e q
theorem StR.setN {P : Prog} {K : PySem.W.Frag} {G : Gh} {H : Hp} {σ : Sl} {σL : L2.St} (h : StR P K G H σ σL) (i : Nat) : StR P K G H (σ.set i none) (σL.set i none) := by
  refine ⟨by simp [h.1], fun j e q => ?_⟩
  by_cases hj : i = j
  · subst hj
    by_cases hl : i < σ.length
    · rw [List.getElem?_set_self hl] at q; cases q
    · rw [List.getElem?_eq_none (by simpa using hl)] at q; cases q
  · rw [List.getElem?_set_ne hj] at q ⊢
    exact h.2 j e q
theorem StR.wipe {P : Prog} {K : PySem.W.Frag} {G : Gh} {H : Hp} {σ : Sl} {σL : L2.St} (h : StR P K G H σ σL) : ∀ vs : List Nat, StR P K G H (wipeD σ vs) (wipe σL vs)
  | [] => h
  | v :: vs => (StR.wipe h vs).setN v

end TD

set_option Elab.async false
set_option linter.all false
set_option maxRecDepth 100000
set_option maxHeartbeats 2000000
set_option autoImplicit false
/-! TDm: a text of the small language stands for a text of the program. -/
namespace TD
open PySem PySem.Spec PyProof.Rows L2

structure MC where
  P : Prog
  N : List Str
  sc : Scope
  fn : Str → Bool
inductive Px where | one (e : Expr) | many (es : List Expr)
inductive Sy where | one (s : Stmt) | many (ss : List Stmt)

def kindB (m : MC) (x : Str) : Option NameKind := m.sc.names.lookup x
def visB (m : MC) (x : Str) : Bool := match kindB m x with
  | some .local => true
  | some .cell => true
  | some .free => true
  | _ => false
def locB (m : MC) (x : Str) : Bool := match kindB m x with
  | some .local => true
  | some .cell => m.fn x
  | _ => false
def glB (m : MC) (x : Str) : Bool := match kindB m x with
  | some .globalImplicit => true
  | _ => false
def plainB (x : Str) : Bool := !(x == ("__debug__" : Str)) && !(x == ("__classdict__" : Str)) && !(x == ("__name__" : Str))
def notStar : Expr → Bool
  | .Starred _ _ => false
  | _ => true
/-- nothing of super() -/
def noSuper : Expr → Bool
  | .Call (.Name id _) [] [] _ => !(id == ("super" : Str))
  | _ => true
def opOf : BOp → Operator
  | .add => .Add | .sub => .Sub | .mul => .Mult | .fdiv => .FloorDiv | .mod => .Mod | .pow => .Pow | .band => .BitAnd | .bor => .BitOr | .bxor => .BitXor
def copOf : COp → CmpOp
  | .eq => .Eq | .ne => .NotEq | .lt => .Lt | .le => .LtE | .gt => .Gt | .ge => .GtE | .isin => .In | .notin => .NotIn
def opB : Operator → Operator → Bool
  | .Add, .Add => true | .Sub, .Sub => true | .Mult, .Mult => true | .FloorDiv, .FloorDiv => true | .Mod, .Mod => true | .Pow, .Pow => true
  | .BitAnd, .BitAnd => true | .BitOr, .BitOr => true | .BitXor, .BitXor => true
  | _, _ => false
theorem opB_eq {a b : Operator} (h : opB a b = true) : a = b := by cases a <;> cases b <;> first | rfl | cases h
def copB : CmpOp → CmpOp → Bool
  | .Eq, .Eq => true | .NotEq, .NotEq => true | .Lt, .Lt => true | .LtE, .LtE => true | .Gt, .Gt => true | .GtE, .GtE => true | .In, .In => true | .NotIn, .NotIn => true
  | .Is, .Is => true | .IsNot, .IsNot => true
  | _, _ => false
theorem copB_eq {a b : CmpOp} (h : copB a b = true) : a = b := by cases a <;> cases b <;> first | rfl | cases h
def litB : V → Const → Bool
  | .non, .none => true
  | .bl b, .bool c => b == c
  | .int i, .int j => decide (i = j)
  | .str x, .str y => decide (x = y)
  | _, _ => false
def nameIs (e : Expr) (x : Str) : Bool := match e with
  | .Name y _ => decide (y = x)
  | _ => false
def BF.nm : BF → Str
  | .len => "len" | .abs => "abs" | .int => "int" | .all => "all" | .any => "any" | .sum => "sum" | .tuple => "tuple" | .list => "list" | .str => "str" | .range => "range" | .lenset => "len" | .tuprange => "tuple" | .min => "min" | .max => "max" | .sorted => "sorted"
def BM.nm : BM → Str
  | .append => "append" | .extend => "extend" | .pop => "pop" | .insert => "insert" | .index => "index" | .get => "get" | .join => "join" | .partition => "partition" | .split => "split"
def Ty.nm (P : Prog) : Ty → Str
  | .bi t => Str.ofString t
  | .own c => match P.cl c with
    | some ci => ci.name
    | none => ""
def tyB (m : MC) (t : Ty) (e : Expr) : Bool := match e with
  | .Name x _ => decide (x = t.nm m.P) && glB m x && plainB x && (match t with
    | .own c => (m.P.cl c).isSome
    | .bi t => ["int", "bool", "str", "tuple", "list"].contains t)
  | _ => false
def tysB (m : MC) : List Ty → List Expr → Bool
  | [], [] => true
  | t :: ts, e :: es => tyB m t e && tysB m ts es
  | _, _ => false
/-- what a walked expression is made of -/
def itPx (m : MC) (k : ItK) (iter : Expr) : Option (List Expr) := match k, iter with
  | .val, e => some [e]
  | .range, .Call (.Name x _) as [] _ => if decide (x = ("range" : Str)) && glB m x then some as else none
  | .enum, .Call (.Name x _) [a] [] _ => if decide (x = ("enumerate" : Str)) && glB m x then some [a] else none
  | .zip, .Call (.Name x _) [a, b] [] _ => if decide (x = ("zip" : Str)) && glB m x then some [a, b] else none
  | .rev, .Call (.Name x _) [a] [] _ => if decide (x = ("reversed" : Str)) && glB m x then some [a] else none
  | _, _ => none
/-- enumerate and zip want a target of several names -/
def tgB : ItK → Expr → Bool
  | .enum, .Tuple _ _ _ => true
  | .zip, .Tuple _ _ _ => true
  | .enum, _ => false
  | .zip, _ => false
  | _, _ => true
def tgInB : Tg → List Nat → Bool
  | .nm i, ws => ws.contains i
  | .nil, _ => true
  | .cons t r, ws => tgInB t ws && tgInB r ws
def notSet : Expr → Bool
  | .Set _ _ _ => false
  | _ => true
def mtT (m : MC) : Tg → Px → Bool
  | .nm i, .one (.Name x _) => decide (m.N[i]? = some x) && locB m x
  | .nil, .one (.Tuple [] _ _) => true
  | .cons t r, .one (.Tuple (e :: es) _ _) => notStar e && mtT m t (.one e) && mtT m r (.many es)
  | .nil, .many [] => true
  | .cons t r, .many (e :: es) => notStar e && mtT m t (.one e) && mtT m r (.many es)
  | _, _ => false
/-- the block of a comprehension -/
def blkM (m : MC) (scope : Scope) : MC := { m with sc := relS scope m.sc, fn := fun x => scope.names.lookup x == some .cell }
def mt (m : MC) : E → Px → Bool
  | .var i, .one (.Name x _) => decide (m.N[i]? = some x) && visB m x && plainB x
  | .lit v, .one (.Constant c _ _) => litB v c
  | .glob g, .one (.Name x _) => (match m.P.globs[g]? with
    | some (y, _) => decide (y = x)
    | none => false) && glB m x && plainB x
  | .bin _ op a b, .one (.BinOp l o r _) => opB (opOf op) o && mt m a (.one l) && mt m b (.one r)
  | .neg a, .one (.UnaryOp .USub x _) => mt m a (.one x)
  | .inv a, .one (.UnaryOp .Invert x _) => mt m a (.one x)
  | .not a, .one (.UnaryOp .Not x _) => mt m a (.one x)
  | .cmp op a b, .one (.Compare l [o] [r] _) => copB (copOf op) o && !behindInMarks o r && mt m a (.one l) && mt m b (.one r)
  | .chn o1 o2 a b d, .one (.Compare l [p1, p2] [x, r] _) => copB (copOf o1) p1 && copB (copOf o2) p2 && !behindInMarks p2 r && mt m a (.one l) && mt m b (.one x) && mt m d (.one r)
  | .isc ng a v, .one (.Compare l [o] [.Constant c _ _] _) => copB (if ng then .IsNot else .Is) o && litB v c && mt m a (.one l)
  | .and a b, .one (.BoolOp .And (x :: y :: r) pos) => mt m a (.one x) && (match r with
    | [] => mt m b (.one y)
    | _ :: _ => mt m b (.one (.BoolOp .And (y :: r) pos)))
  | .or a b, .one (.BoolOp .Or (x :: y :: r) pos) => mt m a (.one x) && (match r with
    | [] => mt m b (.one y)
    | _ :: _ => mt m b (.one (.BoolOp .Or (y :: r) pos)))
  | .ite t a b, .one (.IfExp c x y _) => mt m t (.one c) && mt m a (.one x) && mt m b (.one y)
  | .call f as, .one (.Call (.Name x _) args [] _) => (match m.P.fns[f]? with
    | some fd => decide (fd.at_ = (x, none))
    | none => false) && glB m x && plainB x && mt m as (.many args)
  | .make c as, .one (.Call (.Name x _) args [] _) => (match m.P.cl c with
    | some ci => decide (ci.name = x)
    | none => false) && glB m x && plainB x && mt m as (.many args)
  | .meth o n as, .one (.Call (.Attribute e x apos) args [] pos) => decide (m.P.nm[n]? = some x) && noSuper e && (apos.endLine == pos.line) && decide (args.length < 20) && mt m o (.one e) && mt m as (.many args)
  | .bm o k as, .one (.Call (.Attribute e x apos) args [] pos) => decide (k.nm = x) && noSuper e && (apos.endLine == pos.line) && decide (args.length < 20) && mt m o (.one e) && mt m as (.many args)
  | .bf k _ as, .one (.Call (.Name x _) args [] _) => (match k with
    | .lenset => (match args with
      | [.Call (.Name y _) args2 [] _] => decide (x = ("len" : Str)) && glB m x && decide (y = ("set" : Str)) && glB m y && mt m as (.many args2)
      | _ => false)
    | .range => (match args with
      | [.Call (.Name y _) args2 [] _] => decide (x = ("list" : Str)) && glB m x && decide (y = ("range" : Str)) && glB m y && mt m as (.many args2)
      | _ => false)
    | .tuprange => (match args with
      | [.Call (.Name y _) args2 [] _] => decide (x = ("tuple" : Str)) && glB m x && decide (y = ("range" : Str)) && glB m y && mt m as (.many args2)
      | _ => false)
    | k => decide (k.nm = x) && glB m x && mt m as (.many args))
  | .isi a ts, .one (.Call (.Name x _) [e, t] [] _) => decide (x = ("isinstance" : Str)) && glB m x && mt m a (.one e) && (match t with
    | .Tuple es _ _ => tysB m ts es && decide (ts.length ≤ 100)
    | t => tysB m ts [t])
  | .fld o f, .one (.Attribute e x _) => decide (m.P.nm[f]? = some x) && noSuper e && mt m o (.one e)
  | .idx o i, .one (.Subscript e s _) => (match s with
    | .Slice _ _ _ _ => false
    | s => mt m i (.one s)) && mt m o (.one e)
  | .sl _ o lo hi, .one (.Subscript e (.Slice l h none _) _) => mt m o (.one e) && (match l with
    | none => (match lo with
      | .om => true
      | _ => false)
    | some l => mt m lo (.one l)) && (match h with
    | none => (match hi with
      | .om => true
      | _ => false)
    | some h => mt m hi (.one h))
  | .tup as, .one (.Tuple es _ _) => mt m as (.many es)
  | .lst _ as, .one (.List es _) => mt m as (.many es)
  | .nil, .many [] => true
  | .cons a r, .many (e :: es) => notStar e && mt m a (.one e) && mt m r (.many es)
  | .comp _ own elt t k src cs, .one (.ListComp e [⟨tg, it, ifs, asy⟩] scope _) => decide (asy = 0) && blkC m.N m.sc scope own && (match itPx m k it with
    | some es => mt m src (.many es)
    | none => false) && tgB k tg && notSet it && mtT (blkM m scope) t (.one tg) && tgInB t (own.map (·.2)) && decide (ifs.length ≤ 1) && mt (blkM m scope) cs (.many ifs) && mt (blkM m scope) elt (.one e)
  | .comp2 _ own vs1 elt t k src cs t1 k1 src1 cs1, .one (.ListComp e [⟨tg, it, ifs, asy⟩, ⟨tg1, it1, ifs1, asy1⟩] scope _) => decide (asy = 0) && decide (asy1 = 0) && blkC m.N m.sc scope own && (match itPx m k it with
    | some es => mt m src (.many es)
    | none => false) && tgB k tg && notSet it && mtT (blkM m scope) t (.one tg) && tgInB t (own.map (·.2)) && decide (ifs.length ≤ 1) && mt (blkM m scope) cs (.many ifs) &&
    (match itPx (blkM m scope) k1 it1 with
    | some es => mt (blkM m scope) src1 (.many es)
    | none => false) && tgB k1 tg1 && notSet it1 && mtT (blkM m scope) t1 (.one tg1) && tgInB t1 vs1 && decide (ifs1.length ≤ 1) && mt (blkM m scope) cs1 (.many ifs1) && vs1.all (fun i => (own.map (·.2)).contains i) && mt (blkM m scope) elt (.one e)
  | _, _ => false

/-- the value of a plain assignment: no comprehension, or one -/
def isComp : Expr → Bool
  | .ListComp _ _ _ _ => true
  | .SetComp _ _ _ _ => true
  | .DictComp _ _ _ _ _ => true
  | _ => false
def namesOf (m : MC) : List Nat → List Expr → Option (List Str)
  | [], [] => some []
  | i :: is, .Name x _ :: es => if decide (m.N[i]? = some x) && locB m x then (namesOf m is es).map (x :: ·) else none
  | _, _ => none
/-- the stores of a, b = x, y: turned round (some), from the left (none), or not told -/
def swapB (m : MC) (ts vs : List Expr) : Option (Option (List Str)) :=
  if !(ts.length == 2 || ts.length == 3) || vs.length != ts.length then some none
  else if vs.any (fun | .Starred .. => true | _ => false) then some none
  else
    let line := (ts.head?.map (·.pos.line)).getD 0
    let names := ts.filterMap fun
      | .Name id pos => if m.sc.names.lookup id == some .local && pos.line == line then some id else none
      | _ => none
    if names.length != ts.length || names.eraseDups.length != names.length then some none
    else if vs.all (foldedForSure 8) then some none
    else if vs.all (constantsAlone 8) then none
    else some (some names)
def mtS (m : MC) : Sx → Sy → Bool
  | .never, _ => true
  | .nil, .many [] => true
  | .cons s r, .many (x :: xs) => mtS m s (.one x) && mtS m r (.many xs)
  | .pass, .one (.Pass _) => true
  | .brk, .one (.Break _) => true
  | .cnt, .one (.Continue _) => true
  | .asg t e, .one (.Assign [tg] v pos) => (match tg with
    | .Name _ _ => true
    | .Tuple _ _ _ => (match v with
      | .Tuple _ _ _ => false
      | _ => true)
    | _ => false) && mtT m t (.one tg) && mt m e (.one v)
  | .asgP is as, .one (.Assign [.Tuple ts _ _] (.Tuple vs _ _) _) => mt m as (.many vs) && (match namesOf m is ts with
    | some ns => decide (ns.Nodup) && decide (vs.length = ts.length) && decide (vs.length ≤ 100) && (match swapB m ts vs with
      | some none => true
      | some (some ys) => decide (ys = ns) && decide (ts.length = 2 ∨ ts.length = 3) && ns.all fun x => m.sc.names.lookup x == some .local
      | none => false)
    | none => false)
  | .asgF o f e, .one (.Assign [.Attribute x n _] v _) => decide (m.P.nm[f]? = some n) && mt m o (.one x) && mt m e (.one v)
  | .asgI o i e, .one (.Assign [.Subscript x s _] v _) => (match s with
    | .Slice _ _ _ _ => false
    | _ => true) && mt m o (.one x) && mt m i (.one s) && mt m e (.one v)
  | .asg2 o1 i1 o2 i2 e, .one (.Assign [.Tuple [.Subscript x1 s1 _, .Subscript x2 s2 _] _ _] (.Tuple vs k p) _) => (match s1, s2 with
    | .Slice _ _ _ _, _ => false
    | _, .Slice _ _ _ _ => false
    | _, _ => true) && mt m o1 (.one x1) && mt m i1 (.one s1) && mt m o2 (.one x2) && mt m i2 (.one s2) && mt m e (.one (.Tuple vs k p))
  | .aug i op e, .one (.AugAssign (.Name x _) o v _) => decide (op = .add ∨ op = .sub) && decide (m.N[i]? = some x) && locB m x && opB (opOf op) o && mt m e (.one v)
  | .expr e, .one (.Expr v _) => !isComp v && mt m e (.one v)
  | .ret e, .one (.Return (some v) _) => mt m e (.one v)
  | .retN, .one (.Return none _) => true
  | .iff c a b, .one (.If t x y _) => mt m c (.one t) && mtS m a (.many x) && mtS m b (.many y)
  | .loop t k src b, .one (.For tg it x [] _) => (match itPx m k it with
    | some es => mt m src (.many es)
    | none => false) && tgB k tg && notSet it && mtT m t (.one tg) && mtS m b (.many x)
  | .whil c b, .one (.While t x [] _) => mt m c (.one t) && mtS m b (.many x)
  | _, _ => false

end TD

set_option Elab.async false
set_option linter.all false
set_option maxRecDepth 100000
set_option maxHeartbeats 4000000
/-! TDj: a tuple once, and no times. -/
namespace TD
open PySem PySem.Spec PyProof.Rows
open L2 (V Hp XK VK Inv Cx upd OpR SqT Rd Vals)
theorem tuple_mul1 (l : Addr) (items : Array Value) (n : Nat) (dd : Option Addr) (sl : Array (Option Value)) (u : Tok) :
    Meets (Builtin.«tuple.__mul__» ⟨[.ref l, .int 1 u], []⟩) (fun _ R s => s.heap.get? l = some { cls := .type "tuple", dict := dd, data := .seq items n, slots := sl } ∧ R (.ok (.ret (Value.ref l))) s) :=
  .of_wp fun prog w A R s h => by
    obtain ⟨hp, g, d, tk, os⟩ := s
    obtain ⟨hl, h⟩ := h
    have f1 := AutoSeq1.idx_int
    have c0 : (decide ((1 : Int) < -(2 ^ 63)) || decide ((1 : Int) ≥ 2 ^ 63)) = false := by decide
    have c1 : (items.isEmpty || (1 : Int) == 1) = true := by simp
    wp_walk using wpAny_loadPart' hl
    repeat (first
      | (refine wpAny_ite_false (decide_eq_false (by rw [c0]; exact Bool.false_ne_true)) ?_; wp_walk using wpAny_loadPart' hl)
      | (refine wpAny_ite_true (decide_eq_true c1) ?_; wp_walk using wpAny_loadPart' hl))
    exact ⟨_, rfl, h⟩
theorem tuple_mul0 (l : Addr) (items : Array Value) (n : Nat) (dd : Option Addr) (sl : Array (Option Value)) (u : Tok) (hi : items.isEmpty = false) :
    Meets (Builtin.«tuple.__mul__» ⟨[.ref l, .int 0 u], []⟩) (fun _ R s => s.heap.get? l = some { cls := .type "tuple", dict := dd, data := .seq items n, slots := sl } ∧
      R (.ok (.ret (Value.ref s.heap.objs.size))) { s with heap := s.heap.push { cls := Value.type "tuple", data := Data.seq #[] }, toks := s.toks }) :=
  .of_wp fun prog w A R s h => by
    obtain ⟨hp, g, d, tk, os⟩ := s
    obtain ⟨hl, h⟩ := h
    have f1 := AutoSeq1.idx_int
    have c0 : (decide ((0 : Int) < -(2 ^ 63)) || decide ((0 : Int) ≥ 2 ^ 63)) = false := by decide
    have c1 : (items.isEmpty || (0 : Int) == 1) = false := by rw [hi]; decide
    have c2 : (decide ((0 : Int) ≤ 0) || items.isEmpty) = true := by simp
    wp_walk using wpAny_loadPart' hl
    repeat (first
      | (refine wpAny_ite_false (decide_eq_false (by rw [c0]; exact Bool.false_ne_true)) ?_; wp_walk using wpAny_loadPart' hl)
      | (refine wpAny_ite_false (decide_eq_false (by rw [c1]; exact Bool.false_ne_true)) ?_; wp_walk using wpAny_loadPart' hl)
      | (refine wpAny_ite_true (decide_eq_true c2) ?_; wp_walk using wpAny_loadPart' hl))
    exact ⟨_, rfl, h⟩
section
variable {X : Cx}
theorem op_repT1 : OpR X (binaryOp .Mult) (fun x y H Q => ∃ l xs, x = .ref l ∧ y = .int 1 ∧ SqT X.K H l xs ∧ Q (.ref l) H) := by
  intro pins s σ H x y v u Q I rx ry h
  obtain ⟨l, xs, rfl, rfl, hT, q⟩ := h
  cases rx
  obtain ⟨t, rfl⟩ := ry
  obtain ⟨its, r, ⟨⟨cls, dd, data, sl⟩, ho, hc, n, hd⟩, hs⟩ := I.tuple hT
  simp only at hc hd
  subst hc hd
  exact wpAny_binaryOp_repeat_ref (T := "tuple") (U := "int") (by decide) ⟨_, ho, rfl⟩ (fun s' => typeIs_int s' 1 t) L2.noFill_tuple_mul PySem.F.fills_int_mul PySem.F.slot_int_rmul L2.repeat_tuple PySem.F.slot_int_index.lookup
    (call_meets PySem.F.slot_int_rmul (typeIs_int s 1 t) PySem.F.entry_int_rmul (PySem.F.args_int_rmul_2 _ _) (L2.int_rmul_tuple 1 t l its.toArray n dd sl)
      ⟨ho, rfl, ⟨_, ho, rfl⟩, call_meets PySem.F.slot_tuple_mul ⟨_, ho, rfl⟩ PySem.F.entry_tuple_mul (PySem.F.args_tuple_mul_2 _ _) (tuple_mul1 l its.toArray n dd sl t) ⟨ho, .ref l, _, I, rfl, q⟩⟩)
theorem op_repT0 : OpR X (binaryOp .Mult) (fun x y H Q => ∃ l xs, x = .ref l ∧ y = .int 0 ∧ SqT X.K H l xs ∧ xs ≠ [] ∧ ∀ p, H p = none → Q (.ref p) (upd H p (.tup []))) := by
  intro pins s σ H x y v u Q I rx ry h
  obtain ⟨l, xs, rfl, rfl, hT, hne, q⟩ := h
  cases rx
  obtain ⟨t, rfl⟩ := ry
  obtain ⟨its, r, ⟨⟨cls, dd, data, sl⟩, ho, hc, n, hd⟩, hs⟩ := I.tuple hT
  simp only at hc hd
  subst hc hd
  have hle : its.length = xs.length := r.length.symm
  have hi : its.toArray.isEmpty = false := by
    cases its with
    | nil => exact absurd (List.eq_nil_of_length_eq_zero hle.symm) hne
    | cons a b => rfl
  refine wpAny_binaryOp_repeat_ref (T := "tuple") (U := "int") (by decide) ⟨_, ho, rfl⟩ (fun s' => typeIs_int s' 0 t) L2.noFill_tuple_mul PySem.F.fills_int_mul PySem.F.slot_int_rmul L2.repeat_tuple PySem.F.slot_int_index.lookup
    (call_meets PySem.F.slot_int_rmul (typeIs_int s 0 t) PySem.F.entry_int_rmul (PySem.F.args_int_rmul_2 _ _) (L2.int_rmul_tuple 0 t l its.toArray n dd sl)
      ⟨ho, rfl, ⟨_, ho, rfl⟩, call_meets PySem.F.slot_tuple_mul ⟨_, ho, rfl⟩ PySem.F.entry_tuple_mul (PySem.F.args_tuple_mul_2 _ _) (tuple_mul0 l its.toArray n dd sl t hi) ⟨ho, ?_⟩⟩)
  refine ⟨.ref s.heap.objs.size, _, I.laid (t' := s.toks) (o := .tup []) (fun b ob q => Heap.get?_push_of_some _ q) (Nat.le_refl _) ?_, rfl, q _ (I.hok.fresh (Nat.le_refl _))⟩
  exact ⟨Nat.zero_le _, _, Paired.nil, IsTup.new _ _⟩
end
end TD

set_option Elab.async false
set_option linter.all false
set_option maxRecDepth 100000
set_option maxHeartbeats 2000000
set_option autoImplicit false
/-! TDo: the operations, by values. -/
namespace TD
open PySem PySem.Spec PyProof.Rows L2
open PySem.W (Looks)

theorem szl_eq : szl = sizeLine := by rw [sizeLine_eq]; rfl

/-- what is wanted of a value -/
def Fin (P : Prog) (K : PySem.W.Frag) (bs : List Nat) (G : Gh) (H : Hp) (S : Store) (d : D) (S' : Store) (Q : VK) : Prop :=
  ∀ (v : V) (G' : Gh) (H' : Hp), Ext G H G' H' → SX S S' → Sim P K bs G' S' H' → Rep P K G' H' v d → Q v H'
section
variable {P : Prog} {K : PySem.W.Frag} {bs : List Nat} {G : Gh} {H : Hp} {S S' : Store} {d : D} {Q : VK}
theorem Fin.here (f : Fin P K bs G H S d S Q) (sm : Sim P K bs G S H) {v : V} (r : Rep P K G H v d) : Q v H := f v G H .refl .refl sm r
theorem Fin.after (f : Fin P K bs G H S d S' Q) {G1 : Gh} {H1 : Hp} {S1 : Store} (e : Ext G H G1 H1) (x : SX S S1) : Fin P K bs G1 H1 S1 d S' Q :=
  fun v G' H' e' x' sm r => f v G' H' (e.trans e') (x.trans x') sm r
/-- a new list -/
theorem newL_fin {mu : Bool} {ds : List D} {vs : List V} (e : newL mu ds S = .ok d S') (f : Fin P K bs G H S d S' Q) (sm : Sim P K bs G S H) (r : RepL P K G H vs ds) :
    vs.length ≤ sizeLine ∧ ∀ p, H p = none → Q (.ref p) (upd H p (.lst vs)) := by
  unfold newL at e
  split at e
  · rename_i hl
    have hl' : vs.length ≤ szl := by rw [r.length]; exact Nat.le_of_ble_eq_true hl
    refine ⟨by rw [← szl_eq]; exact hl', fun p hp => ?_⟩
    cases mu with
    | true =>
      simp only [if_true] at e
      cases e
      have e1 := Ext.more (o := .lst vs) sm hp
      refine f _ (G.more p) _ e1 SX.more (sm.more hp ⟨vs, upd_same, hl', r.ext e1⟩) (.ref ?_)
      show (G.ρ ++ [p])[S.length]? = some p
      rw [← sm.len, List.getElem?_concat_length]
    | false =>
      simp only [Bool.false_eq_true, if_false] at e
      cases e
      have e1 := Ext.frost (o := .lst vs) sm hp
      exact f _ (G.frost p) _ e1 .refl (sm.frost hp) (.lst (.inl ⟨.inl rfl, upd_same⟩) hl' (r.ext e1))
  · cases e
/-- a new tuple -/
theorem newT_fin {ds : List D} {vs : List V} (e : newT ds S = .ok d S') (f : Fin P K bs G H S d S' Q) (sm : Sim P K bs G S H) (r : RepL P K G H vs ds) :
    vs.length ≤ sizeLine ∧ ∀ p, H p = none → Q (.ref p) (upd H p (.tup vs)) := by
  unfold newT at e
  split at e
  · rename_i hl
    cases e
    have hl' : vs.length ≤ szl := by rw [r.length]; exact Nat.le_of_ble_eq_true hl
    refine ⟨by rw [← szl_eq]; exact hl', fun p hp => ?_⟩
    have e1 := Ext.fresh (o := .tup vs) sm hp
    exact f _ G _ e1 .refl (sm.fresh hp) (.tup (.inl (.inl upd_same)) hl' (r.ext e1))
  · cases e

/-! ### reading sequences -/
theorem seqL_rep {a : D} {v : V} {xs : List D} (sm : Sim P K bs G S H) (r : Rep P K G H v a) (e : seqL S a = some xs) : ∃ p vs, v = .ref p ∧ Rd H p (.lst vs) ∧ vs.length ≤ szl ∧ RepL P K G H vs xs := by
  cases r with
  | lst s l r => simp only [seqL] at e; cases e; exact ⟨_, _, rfl, s.rd, l, r⟩
  | @ref p k h =>
    simp only [seqL] at e
    split at e
    · rename_i ys q
      cases e
      obtain ⟨vs, q1, q2, q3⟩ := sm.cell k p _ h q
      exact ⟨p, vs, rfl, .inl q1, q2, q3⟩
    · rename_i ys q
      cases e
      obtain ⟨vs, q1, q2, q3⟩ := sm.cell k p _ h q
      exact ⟨p, vs, rfl, .inl q1, q2, q3⟩
    · cases e
  | _ => simp [seqL] at e
theorem seqA_rep {a : D} {v : V} {xs : List D} (sm : Sim P K bs G S H) (r : Rep P K G H v a) (e : seqA S a = some xs) : ∃ p vs, v = .ref p ∧ (SqL K H p vs ∨ SqT K H p vs) ∧ vs.length ≤ szl ∧ RepL P K G H vs xs := by
  cases r with
  | tup s l r => simp only [seqA] at e; cases e; exact ⟨_, _, rfl, .inr s, l, r⟩
  | lst s l r => simp only [seqA, seqL] at e; cases e; exact ⟨_, _, rfl, .inl s.sq, l, r⟩
  | ref h =>
    obtain ⟨p, vs, h1, h2, h3⟩ := seqL_rep sm (.ref h) (by simpa [seqA] using e)
    exact ⟨p, vs, h1, .inl (.inl h2), h3⟩
  | _ => simp [seqA, seqL] at e

/-! ### plain data -/
mutual
theorem dat_rep : ∀ {a : D} {v : V} {p : PyData}, Rep P K G H v a → a.dat = some p → L2.Dp K H v p
  | _, _, _, .non, e => by simp [D.dat] at e; subst e; exact .non
  | _, _, _, .bl b, e => by simp [D.dat] at e; subst e; exact .bl b
  | _, _, _, .int i, e => by simp [D.dat] at e; subst e; exact .int i
  | _, _, _, .str x, e => by simp [D.dat] at e; subst e; exact .str x
  | _, _, _, .tup s l r, e => by
    simp only [D.dat, Option.map_eq_some_iff] at e
    obtain ⟨ps, e1, rfl⟩ := e
    exact .tup s (datL_rep r e1)
  | _, _, _, .lst s l r, e => by
    simp only [D.dat, Option.map_eq_some_iff] at e
    obtain ⟨ps, e1, rfl⟩ := e
    exact .lst s.sq (datL_rep r e1)
  | _, _, _, .ref h, e => by simp [D.dat] at e
  | _, _, _, .ins _ _ _ _ _, e => by simp [D.dat] at e
theorem datL_rep : ∀ {xs : List D} {vs : List V} {ps : List PyData}, RepL P K G H vs xs → D.datL xs = some ps → L2.DpAll K H vs ps
  | _, _, _, .nil, e => by simp [D.datL] at e; subst e; exact .nil
  | _, _, _, .cons r t, e => by
    simp only [D.datL] at e
    split at e
    · rename_i p ps h1 h2
      cases e
      exact .cons (dat_rep r h1) (datL_rep t h2)
    · cases e
end
theorem datS_rep {a : D} {v : V} {p : PyData} (sm : Sim P K bs G S H) (r : Rep P K G H v a) (e : datS S a = some p) : L2.Dp K H v p := by
  unfold datS view at e
  split at e
  · rename_i k
    split at e
    · rename_i xs q
      cases r with
      | ref h =>
        obtain ⟨vs, q1, q2, q3⟩ := sm.cell k _ _ h q
        simp only [D.dat, Option.map_eq_some_iff] at e
        obtain ⟨ps, e1, rfl⟩ := e
        exact .lst (SqL.of q1) (datL_rep q3 e1)
    · rename_i xs q
      cases r with
      | ref h =>
        obtain ⟨vs, q1, q2, q3⟩ := sm.cell k _ _ h q
        simp only [D.dat, Option.map_eq_some_iff] at e
        obtain ⟨ps, e1, rfl⟩ := e
        exact .lst (SqL.of q1) (datL_rep q3 e1)
    · simp [D.dat] at e
  · exact dat_rep r e

/-! ### instances -/
theorem nm_inj (hn : P.nm.Nodup) {i j : Nat} (hi : i < P.nm.length) (hj : j < P.nm.length) (e : P.nmOf i = P.nmOf j) : i = j := by
  unfold Prog.nmOf at e
  rw [List.getD_eq_getElem?_getD, List.getD_eq_getElem?_getD, List.getElem?_eq_getElem hi, List.getElem?_eq_getElem hj] at e
  exact (List.getElem_inj hn).mp e
theorem look_nm (hn : P.nm.Nodup) {f : Nat} (hf : f < P.nm.length) : ∀ {l : List (Nat × D)} {fv : List (Str × V)}, fv.map (·.1) = l.map (fun p => P.nmOf p.1) → RepL P K G H (fv.map (·.2)) (l.map (·.2)) → (∀ p ∈ l, p.1 < P.nm.length) →
    (∀ d, l.lookup f = some d → ∃ v, fv.lookup (P.nmOf f) = some v ∧ Rep P K G H v d) ∧ (l.lookup f = none → fv.lookup (P.nmOf f) = none)
  | [], [], _, _, _ => ⟨fun d h => by simp at h, fun _ => rfl⟩
  | [], _ :: _, e, _, _ => by simp at e
  | _ :: _, [], e, _, _ => by simp at e
  | (g, x) :: l, (n, y) :: fv, e, r, hl => by
    simp only [List.map_cons, List.cons.injEq] at e r
    cases r with
    | cons r1 r2 =>
      have ih := look_nm hn hf (l := l) (fv := fv) e.2 r2 fun p hp => hl p (List.mem_cons_of_mem _ hp)
      by_cases hg : f = g
      · subst hg
        have e1 : (P.nmOf f == n) = true := beq_iff_eq.mpr e.1.symm
        simp only [List.lookup, beq_self_eq_true, e1]
        exact ⟨fun d h => by cases h; exact ⟨y, rfl, r1⟩, fun h => by cases h⟩
      · have hb : (f == g) = false := beq_eq_false_iff_ne.mpr hg
        have e1 : (P.nmOf f == n) = false := beq_eq_false_iff_ne.mpr fun z => hg (nm_inj hn hf (hl _ List.mem_cons_self) (z.trans e.1))
        simp only [List.lookup, hb, e1]
        exact ih
theorem zip_maps {α β : Type} : ∀ {xs : List α} {ys : List β}, xs.length = ys.length → (xs.zip ys).map (·.1) = xs ∧ (xs.zip ys).map (·.2) = ys
  | [], [], _ => ⟨rfl, rfl⟩
  | [], _ :: _, h => by simp at h
  | _ :: _, [], h => by simp at h
  | x :: xs, y :: ys, h => by
    obtain ⟨h1, h2⟩ := zip_maps (xs := xs) (ys := ys) (by simpa using h)
    simp [h1, h2]

/-! ### the facts of the text -/
/-- what the written part says of a class -/
structure ClsF (P : Prog) (K : PySem.W.Frag) (mg : Str → Option Value) (c : Nat) (ci : ClsI) : Prop where
  glob : mg ci.name = some (.ref (clsA P K c))
  keep : PySem.W.keepIn K (.ref (clsA P K c)) = true
  cls : Cls K (clsA P K c)
  mkr : ∀ f fd, P.meth c 0 = some f → P.fns[f]? = some fd → Mk K (clsA P K c) (He.fAd K fd.at_)
  noat : ∀ a ∈ ci.attrs, a < P.nm.length ∧ NoAttr K (clsA P K c) (P.nmOf a)
  meth : ∀ m f, P.meth c m = some f → m < P.nm.length ∧ m ∉ ci.attrs ∧ ∃ fd, P.fns[f]? = some fd ∧ Meth K (clsA P K c) (P.nmOf m) (He.fAd K fd.at_)
  first : PySem.W.selfFirst K (clsA P K c) = true
  ca : PySem.W.findIn K (.ref (clsA P K c)) "__class__" = some (some (.builtin "object.__class__"))
  cn : PySem.W.specialIn K (.builtin "object.__class__") "__get__" = some (some (.builtin "getset_descriptor.__get__"))
  ct : PySem.W.takesIn K (.builtin "object.__class__") = some true
  cm : PySem.W.mroIn K (clsA P K c) (.type "object") = some true
  few : ci.attrs.length ≤ 900
  ne : ∀ f fd, P.meth c 1 = some f → P.fns[f]? = some fd → ∀ (h : Heap) (x dx : Addr), K.In h → h.get? x = some (PySem.W.instObj (clsA P K c) dx) → h.OwnEqNoNe x (clsA P K c) (He.fAd K fd.at_) "object" [.type "object"]
/-- a tracked instance of the class c, frozen or a cell -/
theorem inst_rep {a : D} {v : V} {c : Nat} (sm : Sim P K bs G S H) (r : Rep P K G H v a) (e : clsOf S a = some c) :
    ∃ (p dx : Addr) (fv : List (Str × V)) (l : List (Nat × D)) (ci : ClsI), v = .ref p ∧ H p = some (.ins (clsA P K c) dx fv) ∧ P.cl c = some ci ∧ fv.map (·.1) = l.map (fun q => P.nmOf q.1) ∧ RepL P K G H (fv.map (·.2)) (l.map (·.2)) ∧ (∀ q ∈ l, q.1 ∈ ci.attrs) ∧ ∀ f, fieldOf P S a f = l.lookup f := by
  cases r with
  | ins hf h hc ha r =>
    rename_i p c' ci dx fs ds
    simp only [clsOf] at e
    cases e
    have hl : ci.attrs.length = ds.length := by
      have h1 := congrArg List.length ha
      have h2 := r.length
      simp only [List.length_map] at h1 h2
      omega
    obtain ⟨z1, z2⟩ := zip_maps hl
    refine ⟨p, dx, fs, ci.attrs.zip ds, ci, rfl, h, hc, ?_, by rw [z2]; exact r, fun q hq => (List.of_mem_zip hq).1, fun f => ?_⟩
    · rw [ha]
      conv => lhs; rw [← z1]
      rw [List.map_map]
      rfl
    · simp [fieldOf, hc]
  | @ref p k h =>
    simp only [clsOf] at e
    split at e
    · rename_i c' fs q
      cases e
      obtain ⟨dx, fv, q1, q2, q3, ci, q4, q5, q6⟩ := sm.cell k p _ h q
      exact ⟨p, dx, fv, fs, ci, rfl, q1, q4, q2, q3, q5, fun f => by simp [fieldOf, q]⟩
    · cases e
  | _ => simp [clsOf] at e

/-! ### the context of a text that runs -/
/-- what a def does, by the oracle -/
def spF (P : Prog) (K : PySem.W.Frag) (Φ : Nat → Nat → List D → Store → Res D) (f np : Nat) (kp : Bool) : Sp := fun vs H Q _ => vs.length = np ∧ ∃ bs b G S as d S', (∀ b' ∈ bs, b' ≤ if kp then b else S.length) ∧ b ≤ S.length ∧ Sim P K bs G S H ∧ RepL P K G H vs as ∧
  Φ b f as S = .ok d S' ∧ Fin P K bs G H S d S' Q
/-- the built-in names that texts use -/
def bnames : List Str := ["len", "abs", "int", "all", "any", "sum", "tuple", "list", "range", "set", "min", "max", "sorted", "str", "bool", "isinstance", "enumerate", "zip", "reversed", "dict"]
/-- a class as a value -/
def tyV (P : Prog) (K : PySem.W.Frag) : Ty → Value
  | .bi t => .type t
  | .own c => .ref (clsA P K c)
def tyNames : List String := ["NoneType", "bool", "int", "str", "tuple", "list"]
def tyOk (P : Prog) : Ty → Bool
  | .bi t => tyNames.contains t
  | .own c => (P.cl c).isSome
/-- a tuple of ints in the written part -/
def TupK (K : PySem.W.Frag) (a : Addr) (xs : List V) : Prop := ∃ (o : Obj) (its : Array Value) (n : Nat), K.lookup a = some o ∧ o.cls = .type "tuple" ∧ o.data = .seq its n ∧ its.size ≤ sizeLine ∧ Vals xs its.toList
/-- what a module's name may stand for -/
def GlR (K : PySem.W.Frag) (v : V) (d : D) : Prop := (∃ i, v = .int i ∧ d = .int i) ∨ (∃ z, v = .str z ∧ d = .str z) ∨ ∃ (a : Addr) (is : List Int), v = .ref a ∧ d = .tup (is.map D.int) ∧ is.length ≤ szl ∧ TupK K a (is.map V.int)
theorem repL_ints {P : Prog} {K : PySem.W.Frag} {G : Gh} {H : Hp} : ∀ is : List Int, RepL P K G H (is.map V.int) (is.map D.int)
  | [] => .nil
  | i :: is => .cons (.int i) (repL_ints is)
theorem GlR.rep {P : Prog} {K : PySem.W.Frag} {G : Gh} {H : Hp} {v : V} {d : D} (h : GlR K v d) : Rep P K G H v d := by
  rcases h with ⟨i, rfl, rfl⟩ | ⟨z, rfl, rfl⟩ | ⟨a, is, rfl, rfl, hl, t⟩
  · exact .int i
  · exact .str z
  · exact .tup (.inr t) (by rw [List.length_map]; exact hl) (repL_ints is)
structure Gd (X : Cx) (c : Cn) (bs : List Nat) (k : Nat) : Prop where
  calm : X.calm = true
  nd : X.N.Nodup
  room : Room (k + 3) X.A
  hbs : ∀ b ∈ bs, b ≤ c.base
  nmd : c.P.nm.Nodup
  bn : ∀ x ∈ bnames, X.mg x = none
  fn : ∀ (f : Nat) (fd : FnI), c.P.fns[f]? = some fd → ∃ fdat, FnOk X.prog X.w X.K X.mg X.base CX0 k (He.fAd X.K fd.at_) fdat (fd.names.take fd.np) (spF c.P X.K c.Φ f fd.np fd.keep) ∧ PySem.W.keepIn X.K (.ref (He.fAd X.K fd.at_)) = true ∧
    (∀ m, m ≤ fd.dfl.length → ∃ ds, Vals (fd.dfl.drop (fd.dfl.length - m)) ds ∧ Binds X.K fdat (fd.names.take fd.np) ds) ∧ (∀ x, fd.at_ = (x, none) → X.mg x = some (.ref (He.fAd X.K fd.at_))) ∧ (∀ v ∈ fd.dfl, ∃ b, v = .non ∨ v = .bl b ∨ ∃ i, v = .int i)
  cl : ∀ (i : Nat) (ci : ClsI), c.P.cl i = some ci → ClsF c.P X.K X.mg i ci
  dun : c.P.nm.take dunders.length = dunders
  ln : ∀ (b f : Nat) (as : List D) (S S' : Store) (d : D) (fd : FnI), c.P.fns[f]? = some fd → c.Φ b f as S = .ok d S' → as.length = fd.np
  nf : ∀ (i : Nat) (ci : ClsI) (t : Ty), c.P.cl i = some ci → tyOk c.P t = true → PySem.W.notFirst X.K (clsA c.P X.K i) (tyV c.P X.K t) = true
  gl : ∀ (g : Nat) (x : Str) (d : D), c.P.globs[g]? = some (x, d) → ∃ u v, X.mg x = some u ∧ RelV v u ∧ GlR X.K v d
  kit : ∀ t t', tyOk c.P t = true → tyOk c.P t' = true → PySem.W.kitOne X.K (tyV c.P X.K t) (tyV c.P X.K t') = some (isTy t t')
end

section
variable {X : Cx} {c : Cn} {bs : List Nat} {k : Nat} {pins : List (Addr × Obj)} {σ : L2.St} {H : Hp} {s : Shared} {Q : VK}
/-- what is wanted of a call by the oracle -/
def CallW (c : Cn) (K : PySem.W.Frag) (bs : List Nat) (f : Nat) (vs : List V) (H : Hp) (Q : VK) : Prop := ∃ G S as d S', Sim c.P K bs G S H ∧ c.base ≤ S.length ∧ RepL c.P K G H vs as ∧ c.Φ c.base f as S = .ok d S' ∧ Fin c.P K bs G H S d S' Q
/-- .. where more of the store may be told to stay below -/
def CallX (c : Cn) (K : PySem.W.Frag) (f : Nat) (fd : FnI) (vs : List V) (H : Hp) (Q : VK) : Prop := ∃ bs' G S as d S', (∀ b' ∈ bs', b' ≤ if fd.keep then c.base else S.length) ∧ Sim c.P K bs' G S H ∧ c.base ≤ S.length ∧ RepL c.P K G H vs as ∧ c.Φ c.base f as S = .ok d S' ∧ Fin c.P K bs' G H S d S' Q
theorem CallW.x {fd : FnI} {f : Nat} {vs : List V} (gd : Gd X c bs k) (h : CallW c X.K bs f vs H Q) : CallX c X.K f fd vs H Q := by
  obtain ⟨G, S, as, d, S', sm, hbl, hr, e, fin⟩ := h
  refine ⟨bs, G, S, as, d, S', fun b hb => ?_, sm, hbl, hr, e, fin⟩
  have := gd.hbs b hb
  split <;> omega
theorem call_codeX (gd : Gd X c bs k) {A : Around} (hA : A = X.A ∨ A = X.A.in1) {f : Nat} {fd : FnI} (hf : c.P.fns[f]? = some fd) {us : List Value} {vs : List V} (I : Inv X pins σ H s) (r : Vals vs us) (h : CallX c X.K f fd vs H Q) :
    wpAny (model X.prog X.w) A (call (.ref (He.fAd X.K fd.at_)) us) (EP X pins σ Q) X.xe s := by
  obtain ⟨fdat, F, hk, hd, _⟩ := gd.fn f fd hf
  obtain ⟨ds, hds, hb⟩ := hd 0 (Nat.zero_le _)
  have hn : ds = [] := by
    have := hds.length
    simp only [Nat.sub_zero, List.drop_length, List.length_nil] at this
    exact List.length_eq_zero_iff.mp this.symm
  subst hn
  obtain ⟨bs', G, S, as, d, S', h5, sm, hbl, hr, e, fin⟩ := h
  have hl : vs.length = fd.np := by rw [hr.length]; exact gd.ln _ _ _ _ _ _ _ hf e
  have hb' : ∀ b' ∈ bs', b' ≤ if fd.keep then c.base else S.length := h5
  have sp : spF c.P X.K c.Φ f fd.np fd.keep vs H Q E0 := ⟨hl, bs', c.base, G, S, as, d, S', hb', hbl, sm, hr, e, fin⟩
  have hlen : (us ++ []).length = (fd.names.take fd.np).length := by
    rw [List.append_nil, ← r.length]
    exact F.len _ _ _ _ sp
  have bnd := hb s us I.kIn hlen
  rw [List.append_nil] at bnd
  have room : Room k A := by
    rcases hA with rfl | rfl
    · exact gd.room.mono (by omega)
    · exact (Room.in1 (k := k + 2) gd.room).mono (by omega)
  have e0 : Env0 X.prog X.w X.K X.mg X.base A X.stack s H := by
    rcases hA with rfl | rfl
    · exact I.env0
    · exact I.env0.in1
  refine wpAny_call (codeAny_mono (F.run A X.stack s H ⟨us, []⟩ us vs Q E0 room e0 bnd r sp) fun r s' hq => ?_)
  cases r with
  | error e => exact hq.elim
  | ok fl =>
    cases fl with
    | ret u => exact I.after hq
    | next => exact False.elim hq
    | brk => exact False.elim hq
    | cont => exact False.elim hq
theorem call_code (gd : Gd X c bs k) {A : Around} (hA : A = X.A ∨ A = X.A.in1) {f : Nat} {fd : FnI} (hf : c.P.fns[f]? = some fd) {us : List Value} {vs : List V} (I : Inv X pins σ H s) (r : Vals vs us) (h : CallW c X.K bs f vs H Q) :
    wpAny (model X.prog X.w) A (call (.ref (He.fAd X.K fd.at_)) us) (EP X pins σ Q) X.xe s := call_codeX gd hA hf I r (h.x gd)
theorem call_ok (gd : Gd X c bs k) {f : Nat} {fd : FnI} (hf : c.P.fns[f]? = some fd) {us : List Value} {vs : List V} (I : Inv X pins σ H s) (r : Vals vs us) (h : CallW c X.K bs f vs H Q) :
    wpAny (model X.prog X.w) X.A (call (.ref (He.fAd X.K fd.at_)) us) (EP X pins σ Q) X.xe s := call_code gd (.inl rfl) hf I r h

/-! ### types -/
theorem ty_rep (gd : Gd X c bs k) {G : Gh} {S : Store} (sm : Sim c.P X.K bs G S H) {v : V} {a : D} {t : Ty} (r : Rep c.P X.K G H v a) (e : tyOf S a = some t) : TyX X.K H v (tyV c.P X.K t) ∧ tyOk c.P t = true := by
  have cls : ∀ i ci, c.P.cl i = some ci → ∀ p dx fv, H p = some (.ins (clsA c.P X.K i) dx fv) → TyX X.K H (.ref p) (.ref (clsA c.P X.K i)) := fun i ci hi p dx fv hp => by
    have F := gd.cl i ci hi
    exact .base (.ins hp F.cls F.ca F.cn F.ct F.cm)
  cases r with
  | non => cases e; exact ⟨.base .non, rfl⟩
  | bl b => cases e; exact ⟨.base (.bl b), rfl⟩
  | int i => cases e; exact ⟨.base (.int i), rfl⟩
  | str x => cases e; exact ⟨.base (.str x), rfl⟩
  | tup h l r =>
    cases e
    refine ⟨?_, rfl⟩
    rcases h with (h | ⟨o, h⟩) | ⟨o, its, n, h, hc, _⟩
    · exact .base (.tup h)
    · exact .fTuple h
    · exact .kTuple h hc
  | lst h l r =>
    cases e
    refine ⟨?_, rfl⟩
    rcases h with ⟨_, h⟩ | ⟨o, h⟩
    · exact .base (.lst h)
    · exact .base (.frz h)
  | @ref p j h =>
    simp only [tyOf] at e
    split at e
    · rename_i xs q
      cases e
      obtain ⟨vs, q1, _⟩ := sm.cell j p _ h q
      exact ⟨.base (.lst q1), rfl⟩
    · rename_i xs q
      cases e
      obtain ⟨vs, q1, _⟩ := sm.cell j p _ h q
      exact ⟨.base (.lst q1), rfl⟩
    · rename_i i fs q
      cases e
      obtain ⟨dx, fv, q1, _, _, ci, q2, _⟩ := sm.cell j p _ h q
      exact ⟨cls i ci q2 p dx fv q1, by simp [tyOk, q2]⟩
    · rename_i kvs q
      exact (sm.cell j p _ h q).elim
    · cases e
  | ins hf h hc ha r => cases e; exact ⟨cls _ _ hc _ _ _ h, by simp [tyOk, hc]⟩
theorem looks_ty {t : Value} {v : V} {u : Value} (I : Inv X pins σ H s) (r : RelV v u) (h : TyX X.K H v t) : Looks (model X.prog X.w) s.heap (typeOf u) t := by
  obtain ⟨P, Z, p, _⟩ := kit_of I r h
  exact Z.ty _ _ I.kIn p

/-! ### own operators -/
theorem dun_at (gd : Gd X c bs k) {m : Nat} {d : Str} (h : dunders[m]? = some d) : c.P.nmOf m = d := by
  have hm := (List.getElem?_eq_some_iff.mp h).1
  have e := gd.dun
  unfold Prog.nmOf
  rw [← e] at h
  rw [List.getElem?_take_of_lt hm] at h
  rw [List.getD_eq_getElem?_getD, h] <;> rfl
/-- what a method's name leads to -/
theorem meth_of (gd : Gd X c bs k) {G : Gh} {S : Store} (sm : Sim c.P X.K bs G S H) {v : V} {a : D} {i m f : Nat} (r : Rep c.P X.K G H v a) (e : clsOf S a = some i) (hm : c.P.meth i m = some f) :
    ∃ (p dx : Addr) (fv : List (Str × V)) (fd : FnI) (ci : ClsI), v = .ref p ∧ H p = some (.ins (clsA c.P X.K i) dx fv) ∧ c.P.cl i = some ci ∧ c.P.fns[f]? = some fd ∧ Meth X.K (clsA c.P X.K i) (c.P.nmOf m) (He.fAd X.K fd.at_) ∧ fv.lookup (c.P.nmOf m) = none ∧ Cls X.K (clsA c.P X.K i) := by
  obtain ⟨p, dx, fv, l, ci, rfl, h1, h2, h3, h4, h5, _⟩ := inst_rep sm r e
  have F := gd.cl i ci h2
  obtain ⟨m1, m2, fd, m3, m4⟩ := F.meth m f hm
  refine ⟨p, dx, fv, fd, ci, rfl, h1, h2, m3, m4, ?_, F.cls⟩
  refine (look_nm gd.nmd m1 h3 h4 fun q hq => (F.noat _ (h5 q hq)).1).2 ?_
  rw [List.lookup_eq_none_iff]
  intro q hq
  have hne : m ≠ q.1 := fun z => m2 (z ▸ h5 q hq)
  simpa using hne
theorem clsOf_ty {S : Store} {a : D} {i : Nat} (e : clsOf S a = some i) : tyOf S a = some (.own i) := by
  cases a with
  | ins j vs => cases e; rfl
  | ref j =>
    simp only [clsOf] at e
    split at e
    · rename_i j' fs q; cases e; simp [tyOf, q]
    · cases e
  | _ => simp [clsOf] at e
theorem inst_at {C dx p : Addr} {fv : List (Str × V)} (I : Inv X pins σ H s) (h : H p = some (.ins C dx fv)) : ∃ od, PySem.W.InstAt s.heap p (PySem.W.instObj C dx) C (some od) ∧ s.heap.get? p = some (PySem.W.instObj C dx) := by
  obtain ⟨mA, O, _⟩ := ins_get I.hok h
  obtain ⟨od, J, _⟩ := O.look
  exact ⟨od, J, O.obj⟩
theorem cmpback_ep {v : Value} {s' : Shared} (h : EP X pins σ Q v s') : PySem.W.CmpBack (EP X pins σ Q) v s' := by
  obtain ⟨z, H', I', rz, q⟩ := h
  exact SlX.cmpback rz ⟨z, H', I', rz, q⟩
/-- a op b, both of one class -/
theorem own_bin (gd : Gd X c bs k) {G : Gh} {S S' : Store} {op : BOp} {x y : V} {v u : Value} {a b d : D} {i f : Nat} (I : Inv X pins σ H s) (rx : RelV x v) (ry : RelV y u) (sm : Sim c.P X.K bs G S H) (hbl : c.base ≤ S.length) (ra : Rep c.P X.K G H x a) (rb : Rep c.P X.K G H y b)
    (ea : clsOf S a = some i) (eb : clsOf S b = some i) (hm : c.P.meth i op.dun = some f) (e : c.Φ c.base f [a, b] S = .ok d S') (fin : Fin c.P X.K bs G H S d S' Q) : wpAny (model X.prog X.w) X.A (binaryOp (opOf op) v u) (EP X pins σ Q) X.xe s := by
  obtain ⟨p, dx, fv, fd, ci, rfl, h1, h2, h3, M, _, _⟩ := meth_of gd sm ra ea hm
  cases (show v = Value.ref p from rx)
  obtain ⟨od, J, _⟩ := inst_at I h1
  obtain ⟨m, hF⟩ := I.fr
  have T := (ty_rep gd sm rb (clsOf_ty eb)).1
  have nm : c.P.nmOf op.dun = PySem.dunder (opOf op).info.2 := by
    cases op <;> exact dun_at gd (by rfl)
  refine PySem.W.binop_K hF I.ok.mod.kin J (looks_ty I ry T) (gd.cl i ci h2).first (by rw [← nm]; exact M.at_) M.fn ?_
  exact wpAny_mono (call_ok gd h3 (vs := [.ref p, y]) I (.cons rfl (.cons ry .nil)) ⟨G, S, [a, b], d, S', sm, hbl, .cons ra (.cons rb .nil), e, fin⟩) (fun w s' z => cmpback_ep z) fun _ _ x => x
/-- a comparison by the left one's def -/
theorem own_cmp (gd : Gd X c bs k) {G : Gh} {S S' : Store} {op : CmpOp} {n : Nat} {x y : V} {v u : Value} {a b d : D} {i f : Nat} {t : Ty} (I : Inv X pins σ H s) (rx : RelV x v) (ry : RelV y u) (sm : Sim c.P X.K bs G S H) (hbl : c.base ≤ S.length) (ra : Rep c.P X.K G H x a) (rb : Rep c.P X.K G H y b)
    (ea : clsOf S a = some i) (et : tyOf S b = some t) (hm : c.P.meth i n = some f) (hop : ∀ a b, compareOp op a b = richCompare op a b) (hn : dunders[n]? = some (cmpInfo op).2.1) (e : c.Φ c.base f [a, b] S = .ok d S') (fin : Fin c.P X.K bs G H S d S' Q) :
    wpAny (model X.prog X.w) X.A (compareOp op v u) (EP X pins σ Q) X.xe s := by
  obtain ⟨p, dx, fv, fd, ci, rfl, h1, h2, h3, M, _, _⟩ := meth_of gd sm ra ea hm
  cases (show v = Value.ref p from rx)
  obtain ⟨od, J, _⟩ := inst_at I h1
  obtain ⟨m, hF⟩ := I.fr
  obtain ⟨T, tk⟩ := ty_rep gd sm rb et
  have nm := dun_at gd hn
  rw [hop]
  refine PySem.W.cmp_K (op := op) (tb := tyV c.P X.K t) gd.room.units0 hF I.ok.mod.kin J (looks_ty I ry T) (gd.nf i ci t h2 tk) (by rw [← nm]; exact M.at_) M.fn ?_
  exact wpAny_mono (call_ok gd h3 (vs := [.ref p, y]) I (.cons rfl (.cons ry .nil)) ⟨G, S, [a, b], d, S', sm, hbl, .cons ra (.cons rb .nil), e, fin⟩) (fun w s' z => cmpback_ep z) fun _ _ x => x
/-- a != b, both of one class that says == alone -/
theorem own_ne (gd : Gd X c bs k) {G : Gh} {S S' : Store} {x y : V} {v u : Value} {a b : D} {r : Bool} {i f : Nat} (I : Inv X pins σ H s) (rx : RelV x v) (ry : RelV y u) (sm : Sim c.P X.K bs G S H) (hbl : c.base ≤ S.length) (ra : Rep c.P X.K G H x a) (rb : Rep c.P X.K G H y b)
    (ea : clsOf S a = some i) (eb : clsOf S b = some i) (hm : c.P.meth i 1 = some f) (e : c.Φ c.base f [a, b] S = .ok (.bl r) S') (fin : Fin c.P X.K bs G H S (.bl (!r)) S' Q) :
    wpAny (model X.prog X.w) X.A (compareOp .NotEq v u) (EP X pins σ Q) X.xe s := by
  obtain ⟨p, dx, fv, fd, ci, rfl, h1, h2, h3, M, _, _⟩ := meth_of gd sm ra ea hm
  obtain ⟨p', dx', fv', l', ci', rfl, h1', _⟩ := inst_rep sm rb eb
  cases (show v = Value.ref p from rx)
  cases (show u = Value.ref p' from ry)
  obtain ⟨od, J, g1⟩ := inst_at I h1
  obtain ⟨od', J', g2⟩ := inst_at I h1'
  have hu : X.A.units + 1 < cLine := by have := gd.room.units; omega
  have O := (gd.cl i ci h2).ne f fd hm h3 s.heap p dx I.kIn g1
  refine PySem.compareOp_ne_ownEq PySem.F.cmp_object O g2 rfl hu ?_
  refine wpAny_mono (call_code gd (.inr rfl) h3 (vs := [.ref p, .ref p']) (Q := fun w H' => ∃ q, w = .bl q ∧ Q (.bl (!q)) H') I (.cons rfl (.cons rfl .nil)) ⟨G, S, [a, b], .bl r, S', sm, hbl, .cons ra (.cons rb .nil), e, fun w G' H' e' x' sm' r' => ?_⟩) (fun w s' z => ?_) fun _ _ x => x
  · cases r' with
    | bl q => exact ⟨r, rfl, fin _ G' H' e' x' sm' (.bl _)⟩
  · obtain ⟨z', H', I', rz, q, rfl, hq⟩ := z
    cases (show w = Value.bool q from rz)
    exact ⟨q, rfl, .bl (!q), H', I', rfl, hq⟩
end
end TD
namespace TD
open PySem PySem.Spec PyProof.Rows L2
open PySem.W (Looks)
/-! ### operators on values -/
def W2 (c : Cn) (K : PySem.W.Frag) (bs : List Nat) (g : D → D → Store → Res D) : R2 := fun x y H Q => ∃ G S a b d S', Sim c.P K bs G S H ∧ c.base ≤ S.length ∧ Rep c.P K G H x a ∧ Rep c.P K G H y b ∧ g a b S = .ok d S' ∧ Fin c.P K bs G H S d S' Q
section
variable {X : Cx} {c : Cn} {bs : List Nat} {k : Nat} {pins : List (Addr × Obj)} {σ : L2.St} {H : Hp} {s : Shared} {Q : VK}
theorem map_ok {α : Type} {f : α → D} {o : Option α} {S S' : Store} {d : D} (h : Res.of (o.map f) S = .ok d S') : ∃ a, o = some a ∧ f a = d ∧ S' = S := by
  obtain ⟨e, rfl⟩ := Res.of_eq_ok h
  obtain ⟨a, e1, e2⟩ := Option.map_eq_some_iff.mp e
  exact ⟨a, e1, e2, rfl⟩
theorem mul_ok' {i j : Int} (h : mulOk i j = true) : IntMulOk i j := by
  unfold mulOk at h
  simp only [Bool.or_eq_true, decide_eq_true_eq] at h
  rcases h with (h | h) | h
  · exact L2.CMul.ok (.inl h)
  · exact L2.CMul.ok (.inr h)
  · exact L2.CMulW.ok h
theorem op_mulAny : OpR X (binaryOp .Mult) (rI (fun i j => mulOk i j = true) fun i j => .int (i * j)) := opI fun _ _ _ _ _ _ _ hc q => mul_int q (mul_ok' hc)
theorem op_fdivAny : OpR X (binaryOp .FloorDiv) (rI (fun _ j => divOk j = true) fun i j => .int (i.fdiv j)) := opI fun i j _ _ _ _ _ hc q => by
  unfold divOk at hc
  obtain ⟨h1, h2⟩ := of_decide_eq_true hc
  exact floordiv_int h1 q (.inl (PyProof.noPylong_of_log2 h2))
theorem rep_int {P : Prog} {K : PySem.W.Frag} {G : Gh} {v : V} {i : Int} (r : Rep P K G H v (.int i)) : v = .int i := by cases r; rfl
theorem rep_str {P : Prog} {K : PySem.W.Frag} {G : Gh} {v : V} {x : Str} (r : Rep P K G H v (.str x)) : v = .str x := by cases r; rfl
theorem rep_bl {P : Prog} {K : PySem.W.Frag} {G : Gh} {v : V} {b : Bool} (r : Rep P K G H v (.bl b)) : v = .bl b := by cases r; rfl
theorem arith_ok {op : BOp} {i j n : Int} (h : arith op i j = some n) {pins : List (Addr × Obj)} {v u : Value} (I : Inv X pins σ H s) (rx : RelV (.int i) v) (ry : RelV (.int j) u) (q : Q (.int n) H) :
    wpAny (model X.prog X.w) X.A (binaryOp (opOf op) v u) (EP X pins σ Q) X.xe s := by
  cases op with
  | add => cases h; exact L2.op_add pins s σ H _ _ v u Q I rx ry ⟨i, j, rfl, rfl, q⟩
  | sub => cases h; exact L2.op_sub pins s σ H _ _ v u Q I rx ry ⟨i, j, rfl, rfl, q⟩
  | mul =>
    simp only [arith] at h
    split at h
    · rename_i hm; cases h; exact op_mulAny pins s σ H _ _ v u Q I rx ry ⟨i, j, rfl, rfl, hm, q⟩
    · cases h
  | fdiv =>
    simp only [arith] at h
    split at h
    · rename_i hm; cases h; exact op_fdivAny pins s σ H _ _ v u Q I rx ry ⟨i, j, rfl, rfl, hm, q⟩
    · cases h
  | mod =>
    simp only [arith] at h
    split at h
    · rename_i hm; cases h; exact L2.op_modN pins s σ H _ _ v u Q I rx ry ⟨i, j, rfl, rfl, of_decide_eq_true hm, q⟩
    · cases h
  | pow =>
    simp only [arith] at h
    split at h
    · rename_i hm; cases h; exact L2.op_pow pins s σ H _ _ v u Q I rx ry ⟨i, j, rfl, rfl, (show L2.CPow i j from of_decide_eq_true (p := 0 ≤ j ∧ j ≤ 1000000 ∧ i.natAbs < 2 ^ 64) hm), q⟩
    · cases h
  | band => cases h
  | bor => cases h
  | bxor => cases h

theorem Inv.lstR {l : Addr} {xs : List V} (I : Inv X pins σ H s) (h : Rd H l (.lst xs)) : xs.length ≤ sizeLine ∧ ∃ (its : List Value) (n : Nat), Vals xs its ∧ xs.length = its.length ∧ s.heap.get? l = some { cls := .type "list", data := .seq its.toArray n } := by
  obtain ⟨z, its, n, r, e⟩ := h.ok I.hok
  exact ⟨z, its, n, r, r.length, e⟩
theorem op_catR : OpR X (binaryOp .Add) (fun x y H Q => ∃ l b xs zs, x = .ref l ∧ y = .ref b ∧ Rd H l (.lst xs) ∧ Rd H b (.lst zs) ∧ xs.length + zs.length ≤ sizeLine ∧ ∀ p, H p = none → Q (.ref p) (upd H p (.lst (xs ++ zs)))) := by
  intro pins s σ H x y v u Q I rx ry h
  obtain ⟨l, b, xs, zs, rfl, rfl, hH, hB, hz, q⟩ := h
  cases rx
  cases ry
  obtain ⟨z, its, n, r, hl, e⟩ := Inv.lstR I hH
  obtain ⟨z2, its2, n2, r2, hl2, e2⟩ := Inv.lstR I hB
  refine PySem.P.add_list e e2 ?_ (by rw [List.size_toArray, List.size_toArray]; omega)
  have ea : its.toArray ++ its2.toArray = (its ++ its2).toArray := by simp
  rw [ea]
  exact ⟨.ref _, _, I.lnew (t' := s.toks) (r.append r2) (by rw [List.length_append]; omega), rfl, q _ I.fresh⟩
theorem op_repR : OpR X (binaryOp .Mult) (fun x y H Q => ∃ l k xs, x = .ref l ∧ y = .int k ∧ Rd H l (.lst xs) ∧ -(2 ^ 63) ≤ k ∧ k < 2 ^ 63 ∧ xs.length * k.toNat ≤ sizeLine ∧ ∀ p, H p = none → Q (.ref p) (upd H p (.lst (List.replicate k.toNat xs).flatten))) := by
  intro pins s σ H x y v u Q I rx ry h
  obtain ⟨l, k, xs, rfl, rfl, hH, h1, h2, hz, q⟩ := h
  cases rx
  obtain ⟨t, rfl⟩ := ry
  obtain ⟨z, its, n, r, hl, e⟩ := Inv.lstR I hH
  have hlen : its.toArray.size * k.toNat ≤ sizeLine := by rw [List.size_toArray, ← hl]; exact hz
  have hcap : ¬ its.toArray.size * k.toNat > (2 ^ 63 - 1) / 8 := by
    have : (sizeLine : Nat) ≤ (2 ^ 63 - 1) / 8 := by decide
    omega
  have hfit : ¬ (!Builtin.List.listFitsIndex k) = true := by
    rw [fitsIndex_both h1 h2]
    exact Bool.false_ne_true
  have hlong : ¬ Builtin.List.listTooLong (its.toArray.size * k.toNat) = true := by
    rw [L2.notLongL hlen]
    exact Bool.false_ne_true
  have hnew : List.foldl (fun x1 x2 => x1 ++ x2) #[] (List.replicate (if its.toArray.isEmpty = true then 0 else k.toNat) its.toArray) = (List.replicate k.toNat its).flatten.toArray := by
    have f0 : ∀ m : Nat, List.foldl (fun x1 x2 => x1 ++ x2) #[] (List.replicate m its.toArray) = (List.replicate m its).flatten.toArray := fun m => by
      have := L2.foldl_rep its m []
      rw [List.nil_append] at this
      exact this
    rw [f0]
    cases its with
    | nil => simp
    | cons a r' => rw [if_neg (by simp)]
  refine wpAny_binaryOp_repeat_ref (T := "list") (U := "int") (by decide) ⟨_, e, rfl⟩ (fun s' => typeIs_int s' k t) PySem.noFill_list_mul PySem.F.fills_int_mul PySem.F.slot_int_rmul PySem.repeat_list PySem.F.slot_int_index.lookup
    (call_meets PySem.F.slot_int_rmul (typeIs_int s k t) PySem.F.entry_int_rmul (PySem.F.args_int_rmul_2 _ _) (PySem.int___rmul___int_list k t l its.toArray n)
      ⟨e, rfl, ⟨_, e, rfl⟩, call_meets PySem.F.slot_list_mul ⟨_, e, rfl⟩ PySem.F.entry_list_mul (PySem.F.args_list_mul_2 _ _) (AutoListH.list___mul___list_int_3 l its.toArray n k t hfit hcap hlong) ⟨e, ?_⟩⟩)
  rw [hnew]
  exact ⟨.ref _, _, I.lnew (t' := s.toks) (r.rep k.toNat) (by rw [PyProof.Rows.lm_len_rep_flat, Nat.mul_comm]; exact hz), rfl, q _ I.fresh⟩
theorem newL_len {mu : Bool} {ds : List D} {S S' : Store} {d : D} (e : newL mu ds S = .ok d S') : ds.length ≤ szl := by
  unfold newL at e
  split at e
  · rename_i h; exact Nat.le_of_ble_eq_true h
  · cases e
theorem newT_len {ds : List D} {S S' : Store} {d : D} (e : newT ds S = .ok d S') : ds.length ≤ szl := by
  unfold newT at e
  split at e
  · rename_i h; exact Nat.le_of_ble_eq_true h
  · cases e
theorem repT {P : Prog} {K : PySem.W.Frag} {G : Gh} {v : V} {xs : List D} (r : Rep P K G H v (.tup xs)) : ∃ a vs, v = .ref a ∧ SqT K H a vs ∧ vs.length ≤ szl ∧ RepL P K G H vs xs := by
  cases r with
  | tup a b c => exact ⟨_, _, rfl, a, b, c⟩
theorem repL_nil {P : Prog} {K : PySem.W.Frag} {G : Gh} {vs : List V} {xs : List D} (r : RepL P K G H vs xs) : vs = [] ↔ xs = [] := by
  cases r <;> simp
theorem rep_flat {P : Prog} {K : PySem.W.Frag} {G : Gh} {vs : List V} {xs : List D} (r : RepL P K G H vs xs) : ∀ n : Nat, RepL P K G H (List.replicate n vs).flatten (List.replicate n xs).flatten
  | 0 => .nil
  | n + 1 => by
    rw [List.replicate_succ, List.replicate_succ, List.flatten_cons, List.flatten_cons]
    exact r.append (rep_flat r n)
/-- a op b -/
theorem opBin_ok (gd : Gd X c bs k) (mu : Bool) (op : BOp) : OpR X (binaryOp (opOf op)) (W2 c X.K bs (opBin c mu op)) := by
  intro pins s σ H x y v u Q I rx ry h
  obtain ⟨G, S, a, b, d, S', sm, hbl, ra, rb, e, fin⟩ := h
  unfold opBin at e
  split at e
  · rename_i i ea
    split at e
    · rename_i f hm
      split at e
      · rename_i eb
        exact own_bin gd I rx ry sm hbl ra rb ea eb hm e fin
      · cases e
    · cases e
  · split at e
    · -- ints
      rename_i i j _
      obtain ⟨n, e1, rfl, rfl⟩ := map_ok e
      obtain rfl := rep_int ra
      obtain rfl := rep_int rb
      exact arith_ok e1 I rx ry (fin.here sm (.int n))
    · -- texts
      rename_i p q _
      split at e
      · rename_i hc
        cases e
        obtain ⟨rfl, hl⟩ := hc
        obtain rfl := rep_str ra
        obtain rfl := rep_str rb
        exact L2.op_add_str pins s σ H _ _ v u Q I rx ry ⟨p, q, rfl, rfl, by rw [← szl_eq]; exact hl, fin.here sm (.str _)⟩
      · cases e
    · -- tuples
      rename_i xs ys _
      split at e
      · rename_i hc
        subst hc
        obtain ⟨p, vs, rfl, t1, l1, r1⟩ := repT ra
        obtain ⟨p', vs', rfl, t2, l2, r2⟩ := repT rb
        have hz := newT_len e
        rw [List.length_append] at hz
        have hz' : vs.length + vs'.length ≤ sizeLine := by rw [r1.length, r2.length, ← szl_eq]; exact hz
        have e' := e
        unfold newT at e'
        split at e'
        · cases e'
          refine L2.op_catA pins s σ H _ _ v u Q I rx ry ⟨p, p', vs, vs', rfl, rfl, t1, t2, hz', fun h0 => ?_, fun _ h0 => ?_, fun _ _ q hq => ?_⟩
          · have hx : xs = [] := (repL_nil r1).mp h0
            subst hx
            exact fin.here sm (by simpa using rb)
          · have hx : ys = [] := (repL_nil r2).mp h0
            subst hx
            exact fin.here sm (by simpa using ra)
          · exact (newT_fin e fin sm (r1.append r2)).2 q hq
        · cases e'
      · cases e
    · -- tuple times int
      rename_i xs n _
      split at e
      · rename_i hc
        obtain ⟨rfl, ⟨h2, h3⟩, h4, h5⟩ := hc
        cases e
        obtain ⟨p, vs, rfl, t1, l1, r1⟩ := repT ra
        obtain rfl := rep_int rb
        have hl := r1.length
        have fl : ∀ m : Nat, (List.replicate m vs).flatten.length = m * vs.length := fun m => by
          rw [List.length_flatten, List.map_replicate, List.sum_replicate_nat]
        have hne : vs ≠ [] := fun z => by subst z; simp at hl; omega
        have fr : ∀ q, H q = none → Q (.ref q) (upd H q (.tup (List.replicate n.toNat vs).flatten)) := fun q hq => by
          have e1 := Ext.fresh (o := .tup (List.replicate n.toNat vs).flatten) sm hq
          refine fin _ G _ e1 .refl (sm.fresh hq) (.tup (.inl (.inl upd_same)) ?_ ((rep_flat r1 n.toNat).ext e1))
          rw [fl]
          have a1 : n.toNat ≤ 1000 := by omega
          have a2 : vs.length ≤ 1000 := by omega
          have := Nat.mul_le_mul a1 a2
          unfold szl; omega
        rcases (show n = 0 ∨ n = 1 ∨ 2 ≤ n by omega) with rfl | rfl | h2
        · exact op_repT0 pins s σ H _ _ v u Q I rx ry ⟨p, vs, rfl, rfl, t1, hne, fr⟩
        · have e1 : (List.replicate (1 : Int).toNat xs).flatten = xs := by simp
          exact op_repT1 pins s σ H _ _ v u Q I rx ry ⟨p, vs, rfl, rfl, t1, by rw [e1] at fin; exact fin.here sm ra⟩
        · exact L2.op_repT pins s σ H _ _ v u Q I rx ry ⟨p, n, vs, rfl, rfl, t1, hne, h2, h3, by omega, fr⟩
      · cases e
    · -- a list times an int
      rename_i n _ _
      split at e
      · rename_i xs e1
        split at e
        · rename_i hc
          obtain ⟨⟨h2, h3⟩, h4⟩ := hc
          obtain ⟨p, vs, rfl, h1, l1, r1⟩ := seqL_rep sm ra e1
          obtain rfl := rep_int rb
          have hl := r1.length
          have a1 : vs.length * n.toNat ≤ 1000 * 1000 := Nat.mul_le_mul (by omega) (by omega)
          refine op_repR pins s σ H _ _ v u Q I rx ry ⟨p, n, vs, rfl, rfl, h1, by omega, by omega, by rw [← szl_eq]; unfold szl; omega, fun q hq => (newL_fin e fin sm (rep_flat r1 n.toNat)).2 q hq⟩
        · cases e
      · cases e
    · -- lists
      split at e
      · rename_i xs ys e1 e2
        obtain ⟨p, vs, rfl, h1, l1, r1⟩ := seqL_rep sm ra e1
        obtain ⟨p', vs', rfl, h2, l2, r2⟩ := seqL_rep sm rb e2
        have hz := newL_len e
        rw [List.length_append] at hz
        have hz' : vs.length + vs'.length ≤ sizeLine := by rw [r1.length, r2.length, ← szl_eq]; exact hz
        exact op_catR pins s σ H _ _ v u Q I rx ry ⟨p, p', vs, vs', rfl, rfl, h1, h2, hz', fun q hq => (newL_fin e fin sm (r1.append r2)).2 q hq⟩
      · cases e
end
end TD

set_option Elab.async false
set_option linter.all false
set_option maxRecDepth 100000
set_option maxHeartbeats 2000000
set_option autoImplicit false
/-! TDp: comparisons and built-ins by values. -/
namespace TD
open PySem PySem.Spec PyProof.Rows L2
open PySem.W (Looks)
section
variable {X : Cx} {c : Cn} {bs : List Nat} {k : Nat} {pins : List (Addr × Obj)} {σ : L2.St} {H : Hp} {s : Shared} {Q : VK}
theorem canLay_all : ∀ {ps : List PyData}, ps.all shp = true → PyData.canLayAll0 ps = true
  | [], _ => by simp [PyData.canLayAll0]
  | p :: ps, h => by
    simp only [List.all_cons, Bool.and_eq_true] at h
    simp only [PyData.canLayAll0, Bool.and_eq_true]
    exact ⟨SeqAt.canLay_of_shaped h.1, canLay_all h.2⟩
theorem room_in {A : Around} {d : PyData} {n : Nat} (hd : shp d = true) (hu : A.units + 65 < cLine) : A.units + 1 + min n d.depth < cLine := by
  have h1 := SeqAt.depth_of_shaped hd
  have h2 : min n d.depth ≤ d.depth := Nat.min_le_right _ _
  omega
theorem units65 {j : Nat} {A : Around} (r : Room j A) : A.units + 65 < cLine := by have := r.un; omega
theorem bool_ok {r : Res D} {f : Bool → Bool} {d : D} {S : Store} (h : boolR r f = .ok d S) : ∃ b, r = .ok (.bl b) S ∧ d = .bl (f b) := by
  unfold boolR at h
  obtain ⟨a, S1, e1, e2⟩ := Res.bind_eq_ok h
  split at e2
  · cases e2; exact ⟨_, e1, rfl⟩
  · cases e2
/-- x in y by y's own def -/
theorem own_in (gd : Gd X c bs k) (ng : Bool) {G : Gh} {S S' : Store} {x y : V} {v u : Value} {a b : D} {r : Bool} {f : Nat} (I : Inv X pins σ H s) (rx : RelV x v) (ry : RelV y u) (sm : Sim c.P X.K bs G S H) (hbl : c.base ≤ S.length) (ra : Rep c.P X.K G H x a) (rb : Rep c.P X.K G H y b)
    (hm : dunOf c S b 7 = some f) (e : c.Φ c.base f [b, a] S = .ok (.bl r) S') (fin : Fin c.P X.K bs G H S (.bl (ng != r)) S' Q) :
    wpAny (model X.prog X.w) X.A (compareOp (if ng then .NotIn else .In) v u) (EP X pins σ Q) X.xe s := by
  unfold dunOf at hm
  split at hm
  · rename_i i eb
    obtain ⟨p, dx, fv, fd, ci, rfl, h1, h2, h3, M, _, _⟩ := meth_of gd sm rb eb hm
    cases (show u = Value.ref p from ry)
    obtain ⟨od, J, _⟩ := inst_at I h1
    obtain ⟨m, hF⟩ := I.fr
    have nm : c.P.nmOf 7 = "__contains__" := dun_at gd (by rfl)
    have run := call_ok gd h3 (us := [.ref p, v]) (vs := [.ref p, x]) (Q := fun w H' => ∃ q, w = .bl q ∧ Q (.bl (ng != q)) H') I (.cons rfl (.cons rx .nil)) ⟨G, S, [b, a], .bl r, S', sm, hbl, .cons rb (.cons ra .nil), e, fun w G' H' e' x' sm' r' => by
      cases r' with
      | bl q => exact ⟨r, rfl, fin _ G' H' e' x' sm' (.bl _)⟩⟩
    cases ng with
    | false =>
      refine PySem.W.in_K hF I.ok.mod.kin J (by rw [← nm]; exact M.at_) M.fn (wpAny_mono run (fun w s' z => ?_) fun _ _ x => x)
      obtain ⟨z', H', I', rz, q, rfl, hq⟩ := z
      cases (show w = Value.bool q from rz)
      refine wpAny_truthy_bool ⟨.bl q, H', I', rfl, ?_⟩
      cases q <;> exact hq
    | true =>
      refine PySem.W.notIn_K hF I.ok.mod.kin J (by rw [← nm]; exact M.at_) M.fn (wpAny_mono run (fun w s' z => ?_) fun _ _ x => x)
      obtain ⟨z', H', I', rz, q, rfl, hq⟩ := z
      cases (show w = Value.bool q from rz)
      refine wpAny_truthy_bool ⟨.bl (!q), H', I', rfl, ?_⟩
      cases q <;> exact hq
  · cases hm
/-- x in y, y data -/
theorem in_ok (gd : Gd X c bs k) (ng : Bool) {G : Gh} {S : Store} {x y : V} {v u : Value} {a b : D} {r : Bool} (I : Inv X pins σ H s) (rx : RelV x v) (ry : RelV y u) (sm : Sim c.P X.K bs G S H) (ra : Rep c.P X.K G H x a) (rb : Rep c.P X.K G H y b)
    (e : inD S a b = some r) (q : Q (.bl (ng != r)) H) : wpAny (model X.prog X.w) X.A (compareOp (if ng then .NotIn else .In) v u) (EP X pins σ Q) X.xe s := by
  unfold inD at e
  split at e
  · -- a text
    split at e
    · cases e
      obtain rfl := rep_str ra
      obtain rfl := rep_str rb
      cases ng with
      | false => exact L2.op_in_str pins s σ H _ _ v u Q I rx ry ⟨_, _, rfl, rfl, by simpa using q⟩
      | true => exact L2.op_notin_str pins s σ H _ _ v u Q I rx ry ⟨_, _, rfl, rfl, by simpa using q⟩
    · cases e
  · split at e
    · rename_i xs p e1 e2
      split at e
      · rename_i ps e3
        split at e
        · rename_i hc
          obtain ⟨hp, hps⟩ := hc
          cases e
          have hu := units65 gd.room
          obtain ⟨bs', r1⟩ := L2.Dp.reads I p x v (datS_rep sm ra e2) rx
          obtain ⟨pa, vs, rfl, hs, hl, rl⟩ := seqA_rep sm rb e1
          have dl := datL_rep rl e3
          rcases hs with hs | hs
          · obtain ⟨as, r2⟩ := L2.Dp.reads I (.list ps) (.ref pa) u (.lst hs dl) ry
            cases ng with
            | false => exact SeqAt.in_list_reads r2 r1 (canLay_all hps) (SeqAt.canLay_of_shaped hp) (room_in hp hu) ⟨.bl _, H, I, rfl, by simpa using q⟩
            | true => exact SeqAt.notIn_list_reads r2 r1 (canLay_all hps) (SeqAt.canLay_of_shaped hp) (room_in hp hu) ⟨.bl _, H, I, rfl, by simpa using q⟩
          · obtain ⟨as, r2⟩ := L2.Dp.reads I (.tuple ps) (.ref pa) u (.tup hs dl) ry
            cases ng with
            | false => exact SeqAt.in_tuple_reads r2 r1 (canLay_all hps) (SeqAt.canLay_of_shaped hp) (room_in hp hu) ⟨.bl _, H, I, rfl, by simpa using q⟩
            | true => exact SeqAt.notIn_tuple_reads r2 r1 (canLay_all hps) (SeqAt.canLay_of_shaped hp) (room_in hp hu) ⟨.bl _, H, I, rfl, by simpa using q⟩
        · cases e
      · cases e
    · cases e
theorem eq_ok (gd : Gd X c bs k) (ng : Bool) {G : Gh} {S : Store} {x y : V} {v u : Value} {a b : D} {r : Bool} (I : Inv X pins σ H s) (rx : RelV x v) (ry : RelV y u) (sm : Sim c.P X.K bs G S H) (ra : Rep c.P X.K G H x a) (rb : Rep c.P X.K G H y b)
    (e : eqD S a b = some r) (q : Q (.bl (ng != r)) H) : wpAny (model X.prog X.w) X.A (compareOp (if ng then .NotEq else .Eq) v u) (EP X pins σ Q) X.xe s := by
  unfold eqD at e
  split at e
  · rename_i p p' e1 e2
    split at e
    · rename_i hc
      cases e
      cases ng with
      | false => exact L2.op_eqD gd.room.units pins s σ H _ _ v u Q I rx ry ⟨p, p', datS_rep sm ra e1, datS_rep sm rb e2, hc.1, hc.2, by simpa using q⟩
      | true => exact L2.op_neD gd.room.units pins s σ H _ _ v u Q I rx ry ⟨p, p', datS_rep sm ra e1, datS_rep sm rb e2, hc.1, hc.2, by simpa using q⟩
    · cases e
  · cases e
theorem lt_ok (gd : Gd X c bs k) {G : Gh} {S : Store} {x y : V} {v u : Value} {a b : D} {r : Bool} (I : Inv X pins σ H s) (rx : RelV x v) (ry : RelV y u) (ra : Rep c.P X.K G H x a) (rb : Rep c.P X.K G H y b)
    (e : ltD S a b = some r) (q : Q (.bl r) H) : wpAny (model X.prog X.w) X.A (compareOp .Lt v u) (EP X pins σ Q) X.xe s := by
  unfold ltD at e
  split at e
  · cases e
    obtain rfl := rep_int ra
    obtain rfl := rep_int rb
    exact L2.op_lt pins s σ H _ _ v u Q I rx ry ⟨_, _, rfl, rfl, q⟩
  · cases e
    obtain rfl := rep_str ra
    obtain rfl := rep_str rb
    exact L2.op_lt_str pins s σ H _ _ v u Q I rx ry ⟨_, _, rfl, rfl, q⟩
  · split at e
    · rename_i p p' e1 e2
      split at e
      · rename_i hc
        cases e
        obtain ⟨as, r1⟩ := L2.Dp.reads I p x v (dat_rep ra e1) rx
        obtain ⟨bs', r2⟩ := L2.Dp.reads I p' y u (dat_rep rb e2) ry
        have hu := gd.room.units
        have hn : p ≠ .none := by
          rintro rfl
          simp [D.dat] at e1
        have hm : min p.depth p'.depth ≤ p.depth := Nat.min_le_left _ _
        exact PySem.W.rcLt_alike p p' X.A s v u as bs' r1 r2 hc.1 hn (by have := hc.2.1; omega) X.prog X.w X.xe _ ⟨.bl _, H, I, rfl, q⟩
      · cases e
    · cases e
  · cases e
theorem gt_ok (gd : Gd X c bs k) {G : Gh} {x y : V} {v u : Value} {a b : D} {r : Bool} (I : Inv X pins σ H s) (rx : RelV x v) (ry : RelV y u) (ra : Rep c.P X.K G H x a) (rb : Rep c.P X.K G H y b)
    (e : gtD a b = some r) (q : Q (.bl r) H) : wpAny (model X.prog X.w) X.A (compareOp .Gt v u) (EP X pins σ Q) X.xe s := by
  unfold gtD at e
  split at e
  · split at e
    · rename_i p p' e1 e2
      split at e
      · rename_i hc
        cases e
        obtain ⟨as, r1⟩ := L2.Dp.reads I p x v (dat_rep ra e1) rx
        obtain ⟨bs', r2⟩ := L2.Dp.reads I p' y u (dat_rep rb e2) ry
        have hu := gd.room.units
        have hn : p ≠ .none := by
          rintro rfl
          simp [D.dat] at e1
        have hm : min p.depth p'.depth ≤ p.depth := Nat.min_le_left _ _
        exact PySem.W.rcGt_alike p p' X.A s v u as bs' r1 r2 hc.1 hn (by have := hc.2.1; omega) X.prog X.w X.xe _ ⟨.bl _, H, I, rfl, q⟩
      · cases e
    · cases e
  · cases e
theorem opCmp_ok (gd : Gd X c bs k) (op : COp) : OpR X (compareOp (copOf op)) (W2 c X.K bs (opCmp c op)) := by
  intro pins s σ H x y v u Q I rx ry h
  obtain ⟨G, S, a, b, d, S', sm, hbl, ra, rb, e, fin⟩ := h
  have ord : ∀ (n : Nat), dunders[n]? = some (cmpInfo (copOf op)).2.1 → (∀ a b, compareOp (copOf op) a b = richCompare (copOf op) a b) → ∀ i f t r, clsOf S a = some i → tyOf S b = some t → c.P.meth i n = some f → c.Φ c.base f [a, b] S = .ok (.bl r) S' → d = .bl r →
      wpAny (model X.prog X.w) X.A (compareOp (copOf op) v u) (EP X pins σ Q) X.xe s := fun n hn hop i f t r ea et hm e' hd => by
    subst hd
    exact own_cmp gd I rx ry sm hbl ra rb ea et hm hop hn e' fin
  have tyB : ∀ i, clsOf S a = some i → ∃ t, tyOf S b = some t := fun i _ => by
    cases rb with
    | @ref p j h =>
      simp only [tyOf]
      have hj : j < S.length := by rw [← sm.len]; exact (List.getElem?_eq_some_iff.mp h).1
      rw [List.getElem?_eq_getElem hj]
      cases S[j] <;> exact ⟨_, rfl⟩
    | _ => exact ⟨_, rfl⟩
  cases op with
  | isin =>
    simp only [opCmp] at e
    split at e
    · rename_i f hm
      obtain ⟨r, e1, rfl⟩ := bool_ok e
      exact own_in gd false I rx ry sm hbl ra rb hm e1 (by simpa using fin)
    · obtain ⟨r, e1, rfl, rfl⟩ := map_ok e
      exact in_ok gd false I rx ry sm ra rb e1 (by simpa using fin.here sm (.bl r))
  | notin =>
    simp only [opCmp] at e
    split at e
    · rename_i f hm
      obtain ⟨r, e1, rfl⟩ := bool_ok e
      exact own_in gd true I rx ry sm hbl ra rb hm e1 (by simpa using fin)
    · obtain ⟨r, e1, rfl, rfl⟩ := map_ok e
      exact in_ok gd true I rx ry sm ra rb e1 (by simpa using fin.here sm (.bl _))
  | eq =>
    simp only [opCmp] at e
    split at e
    · rename_i i ea
      split at e
      · rename_i f hm
        obtain ⟨r, e1, rfl⟩ := bool_ok e
        obtain ⟨t, et⟩ := tyB i ea
        exact ord 1 rfl (fun _ _ => rfl) i f t r ea et hm e1 rfl
      · cases e
    · obtain ⟨r, e1, rfl, rfl⟩ := map_ok e
      exact eq_ok gd false I rx ry sm ra rb e1 (by simpa using fin.here sm (.bl r))
  | ne =>
    simp only [opCmp] at e
    split at e
    · rename_i i ea
      split at e
      · rename_i f hm
        split at e
        · rename_i eb
          obtain ⟨r, e1, rfl⟩ := bool_ok e
          exact own_ne gd I rx ry sm hbl ra rb ea eb hm e1 fin
        · cases e
      · cases e
    · obtain ⟨r, e1, rfl, rfl⟩ := map_ok e
      exact eq_ok gd true I rx ry sm ra rb e1 (by simpa using fin.here sm (.bl _))
  | lt =>
    simp only [opCmp] at e
    split at e
    · rename_i i ea
      split at e
      · rename_i f hm
        obtain ⟨r, e1, rfl⟩ := bool_ok e
        obtain ⟨t, et⟩ := tyB i ea
        exact ord 2 rfl (fun _ _ => rfl) i f t r ea et hm e1 rfl
      · cases e
    · split at e
      · cases e
        obtain rfl := rep_int ra
        obtain rfl := rep_int rb
        exact L2.op_lt pins s σ H _ _ v u Q I rx ry ⟨_, _, rfl, rfl, fin.here sm (.bl _)⟩
      · obtain ⟨r, e1, rfl, rfl⟩ := map_ok e
        exact lt_ok gd I rx ry ra rb e1 (fin.here sm (.bl r))
  | le =>
    simp only [opCmp] at e
    split at e
    · rename_i i ea
      split at e
      · rename_i f hm
        obtain ⟨r, e1, rfl⟩ := bool_ok e
        obtain ⟨t, et⟩ := tyB i ea
        exact ord 3 rfl (fun _ _ => rfl) i f t r ea et hm e1 rfl
      · cases e
    · split at e
      · cases e
        obtain rfl := rep_int ra
        obtain rfl := rep_int rb
        exact L2.op_le pins s σ H _ _ v u Q I rx ry ⟨_, _, rfl, rfl, fin.here sm (.bl _)⟩
      · simp at e
  | gt =>
    simp only [opCmp] at e
    split at e
    · rename_i i ea
      split at e
      · rename_i f hm
        obtain ⟨r, e1, rfl⟩ := bool_ok e
        obtain ⟨t, et⟩ := tyB i ea
        exact ord 4 rfl (fun _ _ => rfl) i f t r ea et hm e1 rfl
      · cases e
    · split at e
      · cases e
        obtain rfl := rep_int ra
        obtain rfl := rep_int rb
        exact L2.op_gt pins s σ H _ _ v u Q I rx ry ⟨_, _, rfl, rfl, fin.here sm (.bl _)⟩
      · obtain ⟨r, e1, rfl, rfl⟩ := map_ok (by simpa using e)
        exact gt_ok gd I rx ry ra rb e1 (fin.here sm (.bl r))
  | ge =>
    simp only [opCmp] at e
    split at e
    · rename_i i ea
      split at e
      · rename_i f hm
        obtain ⟨r, e1, rfl⟩ := bool_ok e
        obtain ⟨t, et⟩ := tyB i ea
        exact ord 5 rfl (fun _ _ => rfl) i f t r ea et hm e1 rfl
      · cases e
    · split at e
      · cases e
        obtain rfl := rep_int ra
        obtain rfl := rep_int rb
        exact L2.op_ge pins s σ H _ _ v u Q I rx ry ⟨_, _, rfl, rfl, fin.here sm (.bl _)⟩
      · simp at e

/-! ### built-in functions -/
def WA (c : Cn) (K : PySem.W.Frag) (bs : List Nat) (g : List D → Store → Res D) : List V → Hp → VK → Prop := fun vs H Q => ∃ G S as d S', Sim c.P K bs G S H ∧ c.base ≤ S.length ∧ RepL c.P K G H vs as ∧ g as S = .ok d S' ∧ Fin c.P K bs G H S d S' Q
theorem repL1 {P : Prog} {K : PySem.W.Frag} {G : Gh} {vs : List V} {a : D} (r : RepL P K G H vs [a]) : ∃ v, vs = [v] ∧ Rep P K G H v a := by
  cases r with
  | cons r t => cases t; exact ⟨_, rfl, r⟩
theorem repL2 {P : Prog} {K : PySem.W.Frag} {G : Gh} {vs : List V} {a b : D} (r : RepL P K G H vs [a, b]) : ∃ v w, vs = [v, w] ∧ Rep P K G H v a ∧ Rep P K G H w b := by
  cases r with
  | cons r t =>
    obtain ⟨w, rfl, r2⟩ := repL1 t
    exact ⟨_, _, rfl, r, r2⟩
theorem bools_rep {P : Prog} {K : PySem.W.Frag} {G : Gh} : ∀ {vs : List V} {xs : List D} {bs : List Bool}, RepL P K G H vs xs → boolsOf xs = some bs → vs = bs.map V.bl
  | _, _, _, .nil, e => by cases e; rfl
  | _, _, _, .cons r t, e => by
    cases r with
    | bl b =>
      simp only [boolsOf, Option.map_eq_some_iff] at e
      obtain ⟨bs', e1, rfl⟩ := e
      rw [bools_rep t e1] <;> rfl
    | _ => simp [boolsOf] at e
theorem ints_rep {P : Prog} {K : PySem.W.Frag} {G : Gh} : ∀ {vs : List V} {xs : List D} {ns : List Int}, RepL P K G H vs xs → intsOf xs = some ns → vs = ns.map V.int
  | _, _, _, .nil, e => by cases e; rfl
  | _, _, _, .cons r t, e => by
    cases r with
    | int b =>
      simp only [intsOf, Option.map_eq_some_iff] at e
      obtain ⟨bs', e1, rfl⟩ := e
      rw [ints_rep t e1] <;> rfl
    | _ => simp [intsOf] at e
theorem strs_rep {P : Prog} {K : PySem.W.Frag} {G : Gh} : ∀ {vs : List V} {xs : List D} {ns : List Str}, RepL P K G H vs xs → strsOf xs = some ns → vs = ns.map V.str
  | _, _, _, .nil, e => by cases e; rfl
  | _, _, _, .cons r t, e => by
    cases r with
    | str b =>
      simp only [strsOf, Option.map_eq_some_iff] at e
      obtain ⟨bs', e1, rfl⟩ := e
      rw [strs_rep t e1] <;> rfl
    | _ => simp [strsOf] at e
theorem len_ok (gd : Gd X c bs k) (mu : Bool) : CallR X (.builtin "len") (WA c X.K bs (opBf c .len mu)) := by
  intro pins s σ H xs us Q I r h
  obtain ⟨G, S, as, d, S', sm, hbl, ra, e, fin⟩ := h
  simp only [opBf] at e
  match as, ra, e with
  | [a], ra, e =>
    obtain ⟨v, rfl, rv⟩ := repL1 ra
    obtain ⟨u, rfl, ru⟩ := L2.vals1 r
    simp only at e
    split at e
    · rename_i f hm
      obtain ⟨d1, S1, e1, e2⟩ := Res.bind_eq_ok e
      unfold dunOf at hm
      split at hm
      · rename_i i eb
        obtain ⟨p, dx, fv, fd, ci, rfl, h1, h2, h3, M, _, _⟩ := meth_of gd sm rv eb hm
        cases (show u = Value.ref p from ru)
        obtain ⟨od, J, _⟩ := inst_at I h1
        obtain ⟨m, hF⟩ := I.fr
        have nm : c.P.nmOf 6 = "__len__" := dun_at gd (by rfl)
        split at e2
        · rename_i n
          split at e2
          · rename_i hn
            cases e2
            have hn' := of_decide_eq_true hn
            refine PySem.W.len_K hF I.ok.mod.kin J (by rw [← nm]; exact M.at_) M.fn (wpAny_mono (call_code gd (.inr rfl) h3 (us := [.ref p]) (vs := [.ref p]) (Q := fun w H' => w = .int n ∧ Q (.int n) H') I (.cons rfl .nil) ⟨G, S, [a], .int n, S', sm, hbl, .cons rv .nil, e1, fun w G' H' e' x' sm' r' => ?_⟩) (fun w s' z => ?_) fun _ _ x => x)
            · obtain rfl := rep_int r'
              exact ⟨rfl, fin _ G' H' e' x' sm' (.int n)⟩
            · obtain ⟨z', H', I', rz, rfl, hq⟩ := z
              obtain ⟨t, rfl⟩ := (show ∃ t, w = Value.int n t from rz)
              exact ⟨⟨hn'.1, by omega⟩, .int n, H', I'.tok _, ⟨_, rfl⟩, hq⟩
          · cases e2
        · cases e2
      · cases hm
    · split at e
      · rename_i x _
        split at e
        · rename_i hl
          cases e
          obtain rfl := rep_str rv
          exact L2.call_len pins s σ H _ _ Q I r ⟨_, x.length, rfl, ⟨by rw [← szl_eq]; exact Nat.le_of_ble_eq_true hl, rfl⟩, fin.here sm (.int _)⟩
        · cases e
      · obtain ⟨ys, e1, rfl, rfl⟩ := map_ok e
        obtain ⟨p, vs, rfl, hs, hl, rl⟩ := seqA_rep sm rv e1
        have hle := rl.length
        refine L2.call_len pins s σ H _ _ Q I r ⟨_, vs.length, rfl, ?_, by rw [hle]; exact fin.here sm (.int _)⟩
        rcases hs with hs | hs
        · exact .inl ⟨vs, hs, rfl⟩
        · exact .inr ⟨vs, hs, rfl⟩
  | [], _, e => cases e
  | _ :: _ :: _, _, e => cases e
/-- a function of one value -/
theorem one_ok {id : Value} {g : List D → Store → Res D} (h0 : ∀ S, g [] S = .bad) (h2 : ∀ a b r S, g (a :: b :: r) S = .bad)
    (h1 : ∀ (pins : List (Addr × Obj)) (s : Shared) (σ : L2.St) (H : Hp) (v : V) (u : Value) (Q : VK) G S a d S', Inv X pins σ H s → RelV v u → Sim c.P X.K bs G S H → c.base ≤ S.length → Rep c.P X.K G H v a → g [a] S = .ok d S' → Fin c.P X.K bs G H S d S' Q → wpAny (model X.prog X.w) X.A (call id [u]) (EP X pins σ Q) X.xe s) :
    CallR X id (WA c X.K bs g) := by
  intro pins s σ H xs us Q I r h
  obtain ⟨G, S, as, d, S', sm, hbl, ra, e, fin⟩ := h
  match as, ra, e with
  | [a], ra, e =>
    obtain ⟨v, rfl, rv⟩ := repL1 ra
    obtain ⟨u, rfl, ru⟩ := L2.vals1 r
    exact h1 pins s σ H v u Q G S a d S' I ru sm hbl rv e fin
  | [], _, e => rw [h0] at e; cases e
  | a :: b :: r, _, e => rw [h2] at e; cases e
theorem vals_one {v : V} {u : Value} (r : RelV v u) : Vals [v] [u] := .cons r .nil
theorem abs_ok (mu : Bool) : CallR X (.builtin "abs") (WA c X.K bs (opBf c .abs mu)) := by
  refine one_ok (fun _ => rfl) (fun a _ _ _ => by cases a <;> rfl) fun pins s σ H v u Q G S a d S' I ru sm hbl rv e fin => ?_
  cases rv with
  | int i =>
    cases e
    exact L2.call_abs pins s σ H _ _ Q I (vals_one ru) ⟨i, rfl, fin.here sm (.int _)⟩
  | _ => cases e
theorem int_ok (mu : Bool) : CallR X (.type "int") (WA c X.K bs (opBf c .int mu)) := by
  refine one_ok (fun _ => rfl) (fun a _ _ _ => by cases a <;> rfl) fun pins s σ H v u Q G S a d S' I ru sm hbl rv e fin => ?_
  cases rv with
  | int i =>
    cases e
    exact L2.call_int1 pins s σ H _ _ Q I (vals_one ru) (.inl ⟨i, rfl, fin.here sm (.int _)⟩)
  | bl b =>
    cases e
    exact L2.call_int1 pins s σ H _ _ Q I (vals_one ru) (.inr ⟨b, rfl, fin.here sm (.int _)⟩)
  | _ => cases e
theorem all_ok (gd : Gd X c bs k) (mu : Bool) : CallR X (.builtin "all") (WA c X.K bs (opBf c .all mu)) := by
  refine one_ok (fun _ => rfl) (fun _ _ _ _ => rfl) fun pins s σ H v u Q G S a d S' I ru sm hbl rv e fin => ?_
  obtain ⟨qs, e1, rfl, rfl⟩ := map_ok e
  obtain ⟨ys, e2, e3⟩ := Option.bind_eq_some_iff.mp e1
  obtain ⟨p, vs, rfl, hs, hl, rl⟩ := seqL_rep sm rv e2
  obtain rfl := bools_rep rl e3
  exact L2.cr_all gd.calm pins s σ H _ _ Q I (vals_one ru) ⟨p, qs, rfl, .inl hs, fin.here sm (.bl _)⟩
theorem any_ok (gd : Gd X c bs k) (mu : Bool) : CallR X (.builtin "any") (WA c X.K bs (opBf c .any mu)) := by
  refine one_ok (fun _ => rfl) (fun _ _ _ _ => rfl) fun pins s σ H v u Q G S a d S' I ru sm hbl rv e fin => ?_
  obtain ⟨qs, e1, rfl, rfl⟩ := map_ok e
  obtain ⟨ys, e2, e3⟩ := Option.bind_eq_some_iff.mp e1
  obtain ⟨p, vs, rfl, hs, hl, rl⟩ := seqL_rep sm rv e2
  obtain rfl := bools_rep rl e3
  exact L2.cr_any gd.calm pins s σ H _ _ Q I (vals_one ru) ⟨p, qs, rfl, .inl hs, fin.here sm (.bl _)⟩
theorem sum_ok (gd : Gd X c bs k) (mu : Bool) : CallR X (.builtin "sum") (WA c X.K bs (opBf c .sum mu)) := by
  refine one_ok (fun _ => rfl) (fun _ _ _ _ => rfl) fun pins s σ H v u Q G S a d S' I ru sm hbl rv e fin => ?_
  obtain ⟨qs, e1, rfl, rfl⟩ := map_ok e
  obtain ⟨ys, e2, e3⟩ := Option.bind_eq_some_iff.mp e1
  obtain ⟨p, vs, rfl, hs, hl, rl⟩ := seqL_rep sm rv e2
  obtain rfl := ints_rep rl e3
  exact L2.cr_sum gd.calm pins s σ H _ _ Q I (vals_one ru) ⟨p, qs, rfl, .inl hs, fin.here sm (.int _)⟩
theorem tuple_ok (mu : Bool) : CallR X (.type "tuple") (WA c X.K bs (opBf c .tuple mu)) := by
  refine one_ok (fun _ => rfl) (fun _ _ _ _ => rfl) fun pins s σ H v u Q G S a d S' I ru sm hbl rv e fin => ?_
  obtain ⟨ys, e1, rfl, rfl⟩ := map_ok e
  obtain ⟨p, vs, rfl, hs, hl, rl⟩ := seqA_rep sm rv e1
  refine L2.call_tuple_of pins s σ H _ _ Q I (vals_one ru) ⟨p, vs, rfl, ?_⟩
  rcases hs with hs | hs
  · refine .inl ⟨hs, fun q hq => ?_⟩
    have e1 := Ext.fresh (o := .tup vs) sm hq
    exact fin _ G _ e1 .refl (sm.fresh hq) (.tup (.inl (.inl upd_same)) hl (rl.ext e1))
  · exact .inr ⟨hs, fin.here sm (.tup hs hl rl)⟩
theorem list_ok (mu : Bool) : CallR X (.type "list") (WA c X.K bs (opBf c .list mu)) := by
  refine one_ok (fun _ => rfl) (fun _ _ _ _ => rfl) fun pins s σ H v u Q G S a d S' I ru sm hbl rv e fin => ?_
  simp only [opBf] at e
  split at e
  · rename_i ys e1
    obtain ⟨p, vs, rfl, hs, hl, rl⟩ := seqA_rep sm rv e1
    exact L2.call_list_of pins s σ H _ _ Q I (vals_one ru) ⟨p, vs, rfl, hs, (newL_fin e fin sm rl).2⟩
  · cases e
/-- isinstance -/
theorem isi_ok (gd : Gd X c bs k) {G : Gh} {S : Store} {v : V} {a : D} {t : Ty} {ts : List Ty} (sm : Sim c.P X.K bs G S H) (r : Rep c.P X.K G H v a) (e : tyOf S a = some t) (hts : ts.all (tyOk c.P) = true) :
    TyX X.K H v (tyV c.P X.K t) ∧ PySem.W.kitAny X.K (tyV c.P X.K t) (ts.map (tyV c.P X.K)) = some (ts.any (isTy t)) := by
  obtain ⟨h1, h2⟩ := ty_rep gd sm r e
  refine ⟨h1, ?_⟩
  induction ts with
  | nil => rfl
  | cons t' ts ih =>
    simp only [List.all_cons, Bool.and_eq_true] at hts
    have h3 := gd.kit t t' h2 hts.1
    simp only [List.map_cons, PySem.W.kitAny, h3]
    cases q : isTy t t' with
    | true => simp [q]
    | false => simpa [q] using ih hts.2
/-- an item -/
theorem idx_ok : IxR X (W2 c X.K bs (opIdx c)) := by
  intro value slice pins s σ H x y v u Q I rx ry h hs
  obtain ⟨G, S, a, b, d, S', sm, hbl, ra, rb, e, fin⟩ := h
  unfold opIdx at e
  split at e
  · rename_i z j
    split at e
    · rename_i hl
      obtain ⟨ch, e1, rfl, rfl⟩ := map_ok e
      obtain ⟨n, e2, e3⟩ := Option.bind_eq_some_iff.mp e1
      obtain rfl := rep_str ra
      obtain rfl := rep_int rb
      refine L2.ix_str value slice pins s σ H _ _ v u Q I rx ry ⟨z, j, ch, rfl, rfl, by rw [← szl_eq]; exact Nat.le_of_ble_eq_true hl, ?_, fin.here sm (.str _)⟩ hs
      unfold atI
      rw [Array.length_toList]
      have e2' : ixN z.cps.size j = some n := e2
      rw [e2']
      simpa using e3
    · cases e
  · rename_i o j _
    split at e
    · rename_i xs e0
      obtain ⟨e1, rfl⟩ := Res.of_eq_ok e
      obtain ⟨n, e2, e3⟩ := Option.bind_eq_some_iff.mp e1
      obtain rfl := rep_int rb
      obtain ⟨p, vs, rfl, hq, hl, rl⟩ := seqA_rep sm ra e0
      obtain ⟨w, hw, rw'⟩ := rl.get e3
      have at_ : atI vs j = some w := by
        unfold atI
        rw [rl.length]
        have e2' : ixN xs.length j = some n := e2
        rw [e2']
        exact hw
      rcases hq with hq | hq
      · exact L2.ix_list value slice pins s σ H _ _ v u Q I rx ry ⟨p, vs, j, w, rfl, rfl, hq, at_, fin.here sm rw'⟩ hs
      · exact L2.ix_tup value slice pins s σ H _ _ v u Q I rx ry ⟨p, vs, j, w, rfl, rfl, hq, at_, fin.here sm rw'⟩ hs
    · cases e
  · cases e
theorem RepL.cut' {P : Prog} {K : PySem.W.Frag} {G : Gh} {vs : List V} {xs : List D} (r : RepL P K G H vs xs) (lo hi : Option Int) : RepL P K G H (cutV vs lo hi) (cutL xs lo hi) := by
  unfold cutV cutL
  rw [r.length]
  exact (r.drop _).take _
/-- a slice -/
theorem sl_ok (mu : Bool) : SlR X (fun x lo hi H Q => ∃ G S a d S', Sim c.P X.K bs G S H ∧ c.base ≤ S.length ∧ Rep c.P X.K G H x a ∧ opSl mu a (some lo) (some hi) S = .ok d S' ∧ Fin c.P X.K bs G H S d S' Q) := by
  intro pins s σ H x v vl vu lo hi sl Q I rx hs pl pu h
  obtain ⟨G, S, a, d, S', sm, hbl, ra, e, fin⟩ := h
  simp only [opSl] at e
  split at e
  · rename_i xs
    cases e
    obtain ⟨p, vs, rfl, hq, hl, rl⟩ := repT ra
    refine L2.sl_tupA pins s σ H _ v vl vu lo hi sl Q I rx hs pl pu ⟨p, vs, rfl, hq, fun hw => ?_, fun _ q hq' => ?_⟩
    · have e1 : cutL xs lo hi = xs := by
        have e2 := hw
        rw [rl.length] at e2
        unfold cutL
        rw [e2.1, e2.2]
        simp
      rw [e1] at fin
      exact fin.here sm ra
    · have e1 := Ext.fresh (o := .tup (cutV vs lo hi)) sm hq'
      exact fin _ G _ e1 .refl (sm.fresh hq') (.tup (.inl (.inl upd_same)) (Nat.le_trans (cutV_length _ _ _) hl) ((RepL.cut' rl lo hi).ext e1))
  · rename_i z
    split at e
    · rename_i hl
      cases e
      obtain rfl := rep_str ra
      exact L2.sl_str pins s σ H _ v vl vu lo hi sl Q I rx hs pl pu ⟨z, rfl, by rw [← szl_eq]; exact Nat.le_of_ble_eq_true hl, fin.here sm (.str _)⟩
    · cases e
  · split at e
    · rename_i xs e0
      obtain ⟨p, vs, rfl, hq, hl, rl⟩ := seqL_rep sm ra e0
      exact L2.sl_list pins s σ H _ v vl vu lo hi sl Q I rx hs pl pu ⟨p, vs, rfl, .inl hq, (newL_fin e fin sm (RepL.cut' rl lo hi)).2⟩
    · cases e
end
end TD

set_option Elab.async false
set_option linter.all false
set_option maxRecDepth 100000
set_option maxHeartbeats 2000000
set_option autoImplicit false
/-! TDq: cells written, fields, methods of lists, new instances. -/
namespace TD
open PySem PySem.Spec PyProof.Rows L2
open PySem.W (Looks)
/-- what is wanted behind a store -/
def FinU (P : Prog) (K : PySem.W.Frag) (bs : List Nat) (G : Gh) (H : Hp) (S S' : Store) (R : Hp → Prop) : Prop :=
  ∀ (G' : Gh) (H' : Hp), Ext G H G' H' → SX S S' → Sim P K bs G' S' H' → R H'
section
variable {X : Cx} {c : Cn} {bs : List Nat} {k : Nat} {pins : List (Addr × Obj)} {σ : L2.St} {H : Hp} {s : Shared} {Q : VK}
theorem loL_set {b n : Nat} {xs : List D} {d : D} (h : D.loL b xs = true) (hd : d.lo b = true) : D.loL b (xs.set n d) = true := by
  rw [loL_iff] at h ⊢
  intro x hx
  rcases List.mem_or_eq_of_mem_set hx with q | rfl
  · exact h x q
  · exact hd
theorem loL_append {b : Nat} {xs ys : List D} (h : D.loL b xs = true) (h2 : D.loL b ys = true) : D.loL b (xs ++ ys) = true := by
  rw [loL_iff] at h h2 ⊢
  intro x hx
  rcases List.mem_append.mp hx with q | q
  · exact h x q
  · exact h2 x q
theorem loL_sub {b : Nat} {xs ys : List D} (h : D.loL b xs = true) (hs : ∀ x ∈ ys, x ∈ xs) : D.loL b ys = true := by
  rw [loL_iff] at h ⊢
  exact fun x hx => h x (hs x hx)
theorem wr_lo {k b : Nat} {d : D} (h : wrOk c k d = true) (hb : b ≤ c.base) (hk : k < b) : d.lo b = true := by
  unfold wrOk at h
  simp only [Bool.or_eq_true] at h
  rcases h with h | h
  · have := Nat.le_of_ble_eq_true h; omega
  · exact lo_mono (Nat.zero_le _) d h
/-- the list of a cell is changed -/
theorem cell_write (gd : Gd X c bs k) {G : Gh} {S : Store} {j : Nat} {p : Addr} {xs ys : List D} {ws : List V} (sm : Sim c.P X.K bs G S H) (hp : G.ρ[j]? = some p) (hS : S[j]? = some (.lst xs)) (hl : ws.length ≤ szl)
    (r : ∀ G' H', Ext G H G' H' → RepL c.P X.K G' H' ws ys) (lo : ∀ b, b ≤ c.base → j < b → D.loL b xs = true → D.loL b ys = true) : Ext G H G (upd H p (.lst ws)) ∧ Sim c.P X.K bs G (S.set j (.lst ys)) (upd H p (.lst ws)) ∧ SX S (S.set j (.lst ys)) := by
  have ma : p ∈ G.ρ := List.mem_of_getElem? hp
  have ee : Ext G H G (upd H p (.lst ws)) := by
    obtain ⟨o1, q1, m1⟩ := sm.there ma
    refine ⟨⟨[], by simp⟩, fun _ h => h, fun x h => upd_ne fun z => ?_, fun x h => ⟨h, upd_ne fun z => ?_⟩, fun x xs h => ?_, fun x ob u h => ?_⟩
    · subst z; exact sm.nf x ma h
    · subst z; exact (sm.pns x h).2.2 ma
    · rw [upd_ne]; exact h
      rintro rfl; rw [q1] at h; cases h; exact m1
    · rw [upd_ne]; exact h
      rintro rfl; rw [q1] at h; cases h; exact m1
  obtain ⟨w1, w2⟩ := sm.write (c := .lst ys) (o := .lst ws) hp trivial ⟨ws, upd_same, hl, r _ _ ee⟩ fun b hb hj => lo b (gd.hbs b hb) hj ((sm.lv b hb).2 j _ hj hS)
  exact ⟨w1, w2, SX.set hS fun _ z => by cases z⟩
/-- o[i] = v -/
theorem setI_ok (gd : Gd X c bs k) : PSet X (fun o i v H R => ∃ G S a b d S', Sim c.P X.K bs G S H ∧ Rep c.P X.K G H o a ∧ Rep c.P X.K G H i b ∧ Rep c.P X.K G H v d ∧ setI c a b d S = .ok () S' ∧ FinU c.P X.K bs G H S S' R) := by
  intro pins s σ H o i v ov iv u R I ro ri rv h
  obtain ⟨G, S, a, b, d, S', sm, ra, rb, rd, e, fin⟩ := h
  unfold setI at e
  split at e
  · rename_i j n
    split at e
    · rename_i xs hS
      split at e
      · rename_i m hm
        split at e
        · rename_i hw
          cases e
          obtain rfl := rep_int rb
          cases ra with
          | @ref p _ hp =>
            obtain ⟨vs, q1, q2, q3⟩ := sm.cell j p _ hp hS
            obtain ⟨e1, w1, x1⟩ := cell_write gd (ys := xs.set m d) (ws := vs.set m v) sm hp hS (by simpa using q2) (fun G' H' e' => (q3.ext e').set m (rd.ext e')) fun b hb hj hx => loL_set hx (wr_lo hw hb hj)
            refine L2.set_list pins s σ H _ _ _ ov iv u R I ro ri rv ⟨p, vs, n, m, rfl, rfl, q1, ?_, fin G _ e1 x1 w1⟩
            rw [q3.length]; exact hm
        · cases e
      · cases e
    · cases e
  · cases e
/-! ### methods of lists -/
theorem mt_ok {id : String} {m : BM} (gd : Gd X c bs k)
    (h : ∀ (pins : List (Addr × Obj)) (s : Shared) (σ : L2.St) (H : Hp) (vs : List V) (us : List Value) (Q : VK) G S as d S' j p xs, Inv X pins σ H s → Vals vs us → Sim c.P X.K bs G S H → c.base ≤ S.length → RepL c.P X.K G H vs as → G.ρ[j]? = some p → S[j]? = some (Cell.lst xs) → opBm c (.ref j) m as S = .ok d S' → Fin c.P X.K bs G H S d S' Q →
      wpAny (model X.prog X.w) X.A (call (.builtin id) (.ref p :: us)) (EP X pins σ Q) X.xe s) :
    MtR X id (fun x xs H Q => ∃ G S a as d S', Sim c.P X.K bs G S H ∧ c.base ≤ S.length ∧ Rep c.P X.K G H x a ∧ RepL c.P X.K G H xs as ∧ opBm c a m as S = .ok d S' ∧ Fin c.P X.K bs G H S d S' Q) := by
  intro pins s σ H x xs v us Q I rx rs q
  obtain ⟨G, S, a, as, d, S', sm, hbl, ra, rs', e, fin⟩ := q
  cases ra with
  | @ref p j hp =>
    cases (show v = Value.ref p from rx)
    have e' := e
    simp only [opBm] at e'
    split at e'
    · rename_i ys hS
      exact h pins s σ H xs us Q G S as d S' j p ys I rs sm hbl rs' hp hS e fin
    · cases e'
  | _ => cases e
theorem append_ok (gd : Gd X c bs k) : MtR X "list.append" (fun x xs H Q => ∃ G S a as d S', Sim c.P X.K bs G S H ∧ c.base ≤ S.length ∧ Rep c.P X.K G H x a ∧ RepL c.P X.K G H xs as ∧ opBm c a .append as S = .ok d S' ∧ Fin c.P X.K bs G H S d S' Q) := by
  refine mt_ok gd fun pins s σ H vs us Q G S as d S' j p xs I rs sm hbl ras hp hS e fin => ?_
  match as, ras, e with
  | [v], ras, e =>
    simp only [opBm, hS] at e
    split at e
    · rename_i hc
      cases e
      simp only [Bool.and_eq_true] at hc
      obtain ⟨hw, hl⟩ := hc
      have hl' : xs.length < szl := by simpa [Nat.blt_eq] using hl
      obtain ⟨w, rfl, rw'⟩ := repL1 ras
      obtain ⟨ws, q1, q2, q3⟩ := sm.cell j p _ hp hS
      obtain ⟨e1, w1, x1⟩ := cell_write gd (ys := xs ++ [v]) (ws := ws ++ [w]) sm hp hS (by rw [List.length_append, q3.length]; simp; omega) (fun G' H' e' => (q3.ext e').append (.cons (rw'.ext e') .nil)) fun b hb hj hx => loL_append hx (by simp [D.loL, wr_lo hw hb hj])
      exact L2.mt_append pins s σ H (.ref p) _ _ us Q I rfl rs ⟨p, ws, w, rfl, rfl, q1, by rw [q3.length, ← szl_eq]; exact hl', fin .non G _ e1 x1 w1 .non⟩
    · cases e
  | [], _, e => simp [opBm, hS] at e
  | a :: b :: r, _, e => simp [opBm, hS] at e
theorem pop_ok (gd : Gd X c bs k) : MtR X "list.pop" (fun x xs H Q => ∃ G S a as d S', Sim c.P X.K bs G S H ∧ c.base ≤ S.length ∧ Rep c.P X.K G H x a ∧ RepL c.P X.K G H xs as ∧ opBm c a .pop as S = .ok d S' ∧ Fin c.P X.K bs G H S d S' Q) := by
  refine mt_ok gd fun pins s σ H vs us Q G S as d S' j p xs I rs sm hbl ras hp hS e fin => ?_
  obtain ⟨ws, q1, q2, q3⟩ := sm.cell j p _ hp hS
  match as, ras, e with
  | [], ras, e =>
    cases ras
    simp only [opBm, hS] at e
    split at e
    · rename_i v hv
      cases e
      have hv' : xs[xs.length - 1]? = some d := by rw [← List.getLast?_eq_getElem?]; exact hv
      obtain ⟨w, hw, rw'⟩ := q3.get hv'
      obtain ⟨e1, w1, x1⟩ := cell_write gd (ys := xs.dropLast) (ws := ws.dropLast) sm hp hS (by rw [List.length_dropLast]; omega) (fun G' H' e' => (q3.ext e').dropLast) fun b hb hj hx => loL_sub hx fun x hx => List.dropLast_subset _ hx
      exact L2.mt_pop pins s σ H (.ref p) _ _ us Q I rfl rs ⟨p, ws, w, rfl, rfl, q1, by rw [q3.length]; exact hw, fin w G _ e1 x1 w1 (rw'.ext e1)⟩
    · cases e
  | [i], ras, e =>
    obtain ⟨v0, rfl, rv0⟩ := repL1 ras
    cases rv0 with
    | int n =>
      simp only [opBm, hS] at e
      split at e
      · rename_i m hm
        split at e
        · rename_i v hv
          cases e
          obtain ⟨w, hw, rw'⟩ := q3.get hv
          obtain ⟨e1, w1, x1⟩ := cell_write gd (ys := xs.eraseIdx m) (ws := ws.eraseIdx m) sm hp hS (by have := List.length_eraseIdx_le ws m; omega) (fun G' H' e' => (q3.ext e').eraseIdx m) fun b hb hj hx => loL_sub hx fun x hx => List.mem_of_mem_eraseIdx hx
          obtain ⟨z1, z2, z3, z4⟩ := ixN_seq (n := xs.length) hm
          have zl : xs.length ≤ szl := by rw [← q3.length]; exact q2
          have zs : szl = 16777216 := rfl
          exact L2.mt_popAt pins s σ H (.ref p) _ _ us Q I rfl rs ⟨p, ws, n, m, w, rfl, rfl, q1, by omega, by omega, by rw [q3.length]; exact z1, hw, fin w G _ e1 x1 w1 (rw'.ext e1)⟩
        · cases e
      · cases e
    | _ => simp [opBm, hS] at e
  | a :: b :: r, _, e => simp [opBm, hS] at e
theorem extend_rule : MtR X "list.extend" (fun x vs H Q => ∃ l b xs zs, x = .ref l ∧ vs = [.ref b] ∧ H l = some (.lst xs) ∧ Rd H b (.lst zs) ∧ xs.length + zs.length ≤ sizeLine ∧ Q .non (upd H l (.lst (xs ++ zs)))) := by
  intro pins s σ H x vs v us Q I rx rv h
  obtain ⟨l, b, xs, zs, rfl, rfl, hH, hB, hz, q⟩ := h
  obtain ⟨u, rfl, ru⟩ := L2.vals1 rv
  cases (show v = Value.ref l from rx)
  cases (show u = Value.ref b from ru)
  obtain ⟨z1, i1, n1, r1, l1, g1⟩ := Inv.lstR I (.inl hH)
  obtain ⟨z2, i2, n2, r2, l2, g2⟩ := Inv.lstR I hB
  have small : i1.toArray.size + i2.toArray.size ≤ sizeLine := by simp only [List.size_toArray]; omega
  have nolong : ¬ (!i1.toArray.isEmpty && Builtin.List.listTooLong (i1.toArray.size + i2.toArray.size)) = true := by
    rw [L2.notLongL small, Bool.and_false]; simp
  refine call_meets PySem.F.slot_list_extend ⟨_, g1, rfl⟩ PySem.F.entry_list_extend (PySem.F.args_list_extend_2 _ _) (AutoSeq1.list_extend_list_list_0 l i1.toArray n1 b i2.toArray n2 nolong (by simp only [List.size_toArray]; omega) (by omega)) ⟨g1, g2, ?_⟩
  exact ⟨.non, _, I.lset (its' := i1 ++ i2) hH g1 (by simp) (r1.append r2) (by rw [List.length_append]; omega), rfl, q⟩
theorem extend_ok (gd : Gd X c bs k) : MtR X "list.extend" (fun x xs H Q => ∃ G S a as d S', Sim c.P X.K bs G S H ∧ c.base ≤ S.length ∧ Rep c.P X.K G H x a ∧ RepL c.P X.K G H xs as ∧ opBm c a .extend as S = .ok d S' ∧ Fin c.P X.K bs G H S d S' Q) := by
  refine mt_ok gd fun pins s σ H vs us Q G S as d S' j p xs I rs sm hbl ras hp hS e fin => ?_
  obtain ⟨ws, q1, q2, q3⟩ := sm.cell j p _ hp hS
  match as, ras, e with
  | [v], ras, e =>
    obtain ⟨w, rfl, rw'⟩ := repL1 ras
    simp only [opBm, hS] at e
    split at e
    · rename_i ys hy
      split at e
      · rename_i hc
        cases e
        simp only [Bool.and_eq_true] at hc
        obtain ⟨⟨h1, h2⟩, h3⟩ := hc
        have h2' : xs.length + ys.length ≤ szl := Nat.le_of_ble_eq_true h2
        obtain ⟨b, zs, rfl, hb, hl, rl⟩ := seqL_rep sm rw' hy
        obtain ⟨e1, w1, x1⟩ := cell_write gd (ys := xs ++ ys) (ws := ws ++ zs) sm hp hS (by rw [List.length_append, q3.length, rl.length]; exact h2') (fun G' H' e' => (q3.ext e').append (rl.ext e')) fun b hb hj hx => loL_append hx (by
          rw [loL_iff]; intro y hy; exact wr_lo (List.all_eq_true.mp h1 y hy) hb hj)
        exact extend_rule pins s σ H (.ref p) _ _ us Q I rfl rs ⟨p, b, ws, zs, rfl, rfl, q1, hb, by rw [q3.length, rl.length, ← szl_eq]; exact h2', fin .non G _ e1 x1 w1 .non⟩
      · cases e
    · cases e
  | [], _, e => simp [opBm, hS] at e
  | a :: b :: r, _, e => simp [opBm, hS] at e
theorem insert_ok (gd : Gd X c bs k) : MtR X "list.insert" (fun x xs H Q => ∃ G S a as d S', Sim c.P X.K bs G S H ∧ c.base ≤ S.length ∧ Rep c.P X.K G H x a ∧ RepL c.P X.K G H xs as ∧ opBm c a .insert as S = .ok d S' ∧ Fin c.P X.K bs G H S d S' Q) := by
  refine mt_ok gd fun pins s σ H vs us Q G S as d S' j p xs I rs sm hbl ras hp hS e fin => ?_
  obtain ⟨ws, q1, q2, q3⟩ := sm.cell j p _ hp hS
  match as, ras, e with
  | [i, v], ras, e =>
    obtain ⟨v0, w, rfl, rv0, rw'⟩ := repL2 ras
    cases rv0 with
    | int n =>
      simp only [opBm, hS] at e
      split at e
      · rename_i hc
        cases e
        simp only [Bool.and_eq_true, decide_eq_true_eq] at hc
        obtain ⟨⟨⟨h0, h1⟩, hw⟩, hl⟩ := hc
        have hl' : xs.length < szl := by simpa [Nat.blt_eq] using hl
        obtain ⟨e1, w1, x1⟩ := cell_write gd (ys := xs.take n.toNat ++ [v] ++ xs.drop n.toNat) (ws := ws.take n.toNat ++ [w] ++ ws.drop n.toNat) sm hp hS (by
            simp only [List.length_append, List.length_take, List.length_drop, List.length_singleton]
            have := q3.length; omega) (fun G' H' e' => ((q3.ext e').take _).append (.cons (rw'.ext e') .nil) |>.append ((q3.ext e').drop _)) fun b hb hj hx => loL_append (loL_append (loL_sub hx fun x hx => List.mem_of_mem_take hx) (by simp [D.loL, wr_lo hw hb hj])) (loL_sub hx fun x hx => List.mem_of_mem_drop hx)
        exact L2.mt_insert pins s σ H (.ref p) _ _ us Q I rfl rs ⟨p, ws, n, w, rfl, rfl, q1, by rw [q3.length, ← szl_eq]; exact hl', h0, by omega, fin .non G _ e1 x1 w1 .non⟩
      · cases e
    | _ => simp [opBm, hS] at e
  | [], _, e => simp [opBm, hS] at e
  | [a], _, e => simp [opBm, hS] at e
  | a :: b :: d0 :: r, _, e =>
    cases a <;> simp [opBm, hS] at e
end
end TD

set_option Elab.async false
set_option linter.all false
set_option maxRecDepth 100000
set_option maxHeartbeats 2000000
set_option autoImplicit false
/-! TDr: fields, cells that leave the store, new instances. -/
namespace TD
open PySem PySem.Spec PyProof.Rows L2
open PySem.W (Looks)
section
variable {P : Prog} {K : PySem.W.Frag} {bs : List Nat} {G G' : Gh} {H : Hp} {S : Store}
theorem fieldOf_cls {d : D} {f : Nat} {x : D} (e : fieldOf P S d f = some x) : ∃ i, clsOf S d = some i := by
  cases d with
  | ins i vs => exact ⟨i, rfl⟩
  | ref j =>
    simp only [fieldOf] at e
    split at e
    · rename_i i fs q; exact ⟨i, by simp [clsOf, q]⟩
    · cases e
  | _ => simp [fieldOf] at e
theorem lookup_mem {α : Type} {f : Nat} {x : α} : ∀ {l : List (Nat × α)}, l.lookup f = some x → (f, x) ∈ l
  | [], h => by cases h
  | (g, y) :: r, h => by
    by_cases e : f = g
    · subst e
      simp only [List.lookup, beq_self_eq_true] at h
      cases h; exact List.mem_cons_self
    · have hb : (f == g) = false := beq_eq_false_iff_ne.mpr e
      simp only [List.lookup, hb] at h
      exact List.mem_cons_of_mem _ (lookup_mem h)
/-- the cells from b on leave the store: they stand as they are -/
def Gh.trunc (G : Gh) (b : Nat) : Gh := { ρ := G.ρ.take b, fz := fun a => G.fz a ∨ ∃ j, b ≤ j ∧ G.ρ[j]? = some a, pn := G.pn }
theorem at_inj (sm : Sim P K bs G S H) {i j : Nat} {a : Addr} (h1 : G.ρ[i]? = some a) (h2 : G.ρ[j]? = some a) : i = j := by
  obtain ⟨l1, e1⟩ := List.getElem?_eq_some_iff.mp h1
  obtain ⟨l2, e2⟩ := List.getElem?_eq_some_iff.mp h2
  exact (List.getElem_inj sm.nd).mp (e1.trans e2.symm)
theorem Rep.trunc {b : Nat} {v : V} {d : D} (r : Rep P K G H v d) (h : d.lo b = true) : Rep P K (G.trunc b) H v d :=
  r.cut (G' := G.trunc b) (fun k a hk e => by
    show (G.ρ.take b)[k]? = some a
    rw [List.getElem?_take_of_lt hk]; exact e) (fun a h => .inl h) h
theorem RepL.trunc {b : Nat} {v : List V} {d : List D} (r : RepL P K G H v d) (h : D.loL b d = true) : RepL P K (G.trunc b) H v d :=
  r.cut (G' := G.trunc b) (fun k a hk e => by
    show (G.ρ.take b)[k]? = some a
    rw [List.getElem?_take_of_lt hk]; exact e) (fun a h => .inl h) h
theorem Sim.trunc (sm : Sim P K bs G S H) {b : Nat} (hb : b ∈ bs) : Sim P K (bs.filter fun x => Nat.ble x b) (G.trunc b) (S.take b) H := by
  obtain ⟨h1, h2⟩ := sm.lv b hb
  have old : ∀ {k : Nat} {a : Addr}, (G.trunc b).ρ[k]? = some a → k < b ∧ G.ρ[k]? = some a := fun {k a} e => by
    have e' : (G.ρ.take b)[k]? = some a := e
    have hk : k < b := by
      have := (List.getElem?_eq_some_iff.mp e').1
      rw [List.length_take] at this; omega
    rw [List.getElem?_take_of_lt hk] at e'
    exact ⟨hk, e'⟩
  refine ⟨by simp [Gh.trunc, sm.len], ?_, fun a ha => ?_, fun k a c e1 e2 => ?_, fun a h => ?_, fun a h => ?_, fun b' hb' => ?_⟩
  · exact sm.nd.sublist (List.take_sublist _ _)
  · obtain ⟨k, hk, e⟩ := List.mem_iff_getElem.mp ha
    have e1 : (G.trunc b).ρ[k]? = some a := by rw [List.getElem?_eq_getElem hk, e]
    obtain ⟨l1, l2⟩ := old e1
    rintro (z | ⟨j, hj, z⟩)
    · exact sm.nf a (List.mem_of_getElem? l2) z
    · have := at_inj sm l2 z; omega
  · obtain ⟨l1, l2⟩ := old e1
    rw [List.getElem?_take_of_lt l1] at e2
    have lo := h2 k c l1 e2
    have r := sm.cell k a c l2 e2
    cases c with
    | lst ds => obtain ⟨vs, q1, q2, q3⟩ := r; exact ⟨vs, q1, q2, q3.trunc lo⟩
    | lck ds => obtain ⟨vs, q1, q2, q3⟩ := r; exact ⟨vs, q1, q2, q3.trunc lo⟩
    | ins i fs => obtain ⟨dx, fv, q1, q2, q3, q4⟩ := r; exact ⟨dx, fv, q1, q2, q3.trunc lo, q4⟩
    | dic _ => exact r.elim
  · rcases h with h | ⟨j, _, h⟩
    · exact sm.fzs a h
    · obtain ⟨o, q, _⟩ := sm.there (List.mem_of_getElem? h)
      exact ⟨o, q⟩
  · obtain ⟨q1, q2, q3⟩ := sm.pns a h
    refine ⟨q1, ?_, fun z => q3 (List.mem_of_mem_take z)⟩
    rintro (z | ⟨j, _, z⟩)
    · exact q2 z
    · exact q3 (List.mem_of_getElem? z)
  · obtain ⟨m1, m2⟩ := List.mem_filter.mp hb'
    have m2' := Nat.le_of_ble_eq_true m2
    obtain ⟨l1, l2⟩ := sm.lv b' m1
    refine ⟨by rw [List.length_take]; omega, fun k c hk e => l2 k c hk ?_⟩
    rw [List.getElem?_take_of_lt (by omega)] at e
    exact e
theorem Sim.sub {bs' : List Nat} (sm : Sim P K bs G S H) (h : ∀ b ∈ bs', b ∈ bs) : Sim P K bs' G S H := ⟨sm.len, sm.nd, sm.nf, sm.cell, sm.fzs, sm.pns, fun b hb => sm.lv b (h b hb)⟩
/-- all that stands now is below -/
theorem Sim.here (sm : Sim P K bs G S H) : Sim P K (S.length :: bs) G S H := by
  refine ⟨sm.len, sm.nd, sm.nf, sm.cell, sm.fzs, sm.pns, fun b hb => ?_⟩
  rcases List.mem_cons.mp hb with rfl | hb
  · refine ⟨Nat.le_refl _, fun k c hk e => ?_⟩
    obtain ⟨a, _, r⟩ := sm.at_ e
    rw [← sm.len]; exact r.lo
  · exact sm.lv b hb
theorem Ext.trunc {G1 : Gh} {H1 : Hp} (e : Ext G H G1 H1) (len : G.ρ.length = S.length) : Ext G H (G1.trunc S.length) H1 := by
  obtain ⟨r, hr⟩ := e.pre
  refine ⟨⟨[], ?_⟩, fun a h => .inl (e.fz a h), e.same, e.pn, e.tup, e.frz⟩
  show G1.ρ.take S.length = _
  rw [hr, ← len]; simp
theorem SX.take {S1 : Store} (x : SX S S1) : SX S (S1.take S.length) := fun k xs h => by
  have hk := (List.getElem?_eq_some_iff.mp h).1
  rw [List.getElem?_take_of_lt hk]; exact x k xs h
theorem Ext.le {G1 : Gh} {H1 : Hp} {S1 : Store} {bs' : List Nat} (e : Ext G H G1 H1) (sm : Sim P K bs G S H) (sm1 : Sim P K bs' G1 S1 H1) : S.length ≤ S1.length := by
  obtain ⟨r, hr⟩ := e.pre
  rw [← sm.len, ← sm1.len, hr]; simp
mutual
/-- what left the store -/
theorem frz_rep (sm : Sim P K bs G S H) {b : Nat} : ∀ {n : Nat} {v : V} {d d' : D}, frz P S b n d = some d' → Rep P K G H v d → Rep P K (G.trunc b) H v d'
  | 0, _, _, _, e, _ => by cases e
  | n + 1, v, d, d', e, r => by
    unfold frz at e
    split at e
    · rename_i h; cases e; exact r.trunc h
    · rename_i hnl
      cases r with
      | non => cases e; exact .non
      | bl b => cases e; exact .bl b
      | int i => cases e; exact .int i
      | str x => cases e; exact .str x
      | tup s l r =>
        simp only [Option.map_eq_some_iff] at e
        obtain ⟨ds, e1, rfl⟩ := e
        exact .tup s l (frzL_rep sm (n := n) _ e1 r)
      | lst s l r =>
        simp only [Option.map_eq_some_iff] at e
        obtain ⟨ds, e1, rfl⟩ := e
        exact .lst (by rcases s with ⟨f, q⟩ | q; exact .inl ⟨.inl f, q⟩; exact .inr q) l (frzL_rep sm (n := n) _ e1 r)
      | ins f h c a r =>
        simp only [Option.map_eq_some_iff] at e
        obtain ⟨ds, e1, rfl⟩ := e
        exact .ins (.inl f) h c a (frzL_rep sm (n := n) _ e1 r)
      | @ref p k h =>
        have hk : b ≤ k := by
          simp only [D.lo, Bool.not_eq_true] at hnl
          refine Nat.le_of_not_lt fun z => ?_
          rw [Nat.blt_eq.mpr z] at hnl
          cases hnl
        have fz : (G.trunc b).fz p := .inr ⟨k, hk, h⟩
        simp only at e
        split at e
        · rename_i ds q
          simp only [Option.map_eq_some_iff] at e
          obtain ⟨ds', e1, rfl⟩ := e
          obtain ⟨vs, q1, q2, q3⟩ := sm.cell k p _ h q
          exact .lst (.inl ⟨fz, q1⟩) q2 (frzL_rep sm (n := n) _ e1 q3)
        · rename_i i fs q
          split at e
          · rename_i ci hci
            split at e
            · rename_i hat
              simp only [Option.map_eq_some_iff] at e
              obtain ⟨ds', e1, rfl⟩ := e
              obtain ⟨dx, fv, q1, q2, q3, _⟩ := sm.cell k p _ h q
              refine .ins fz q1 hci ?_ (frzL_rep sm (n := n) _ e1 q3)
              rw [q2, ← hat, List.map_map]; rfl
            · cases e
          · cases e
        · cases e
theorem frzL_rep (sm : Sim P K bs G S H) {b : Nat} : ∀ {n : Nat} {vs : List V} (ds : List D) {ds' : List D}, ds.mapM (frz P S b n) = some ds' → RepL P K G H vs ds → RepL P K (G.trunc b) H vs ds'
  | _, _, [], _, e, r => by
    simp only [List.mapM_nil] at e
    cases e; cases r; exact .nil
  | n, _, d :: ds, _, e, r => by
    cases r with
    | cons r t =>
      rw [List.mapM_cons] at e
      obtain ⟨x, e1, e⟩ := Option.bind_eq_some_iff.mp e
      obtain ⟨xs, e2, e⟩ := Option.bind_eq_some_iff.mp e
      cases e
      exact .cons (frz_rep sm e1 r) (frzL_rep sm ds e2 t)
end
end
/-! ### a call that needs none of the cells -/
section
variable {P : Prog} {K : PySem.W.Frag} {bs : List Nat} {G G' : Gh} {H H' : Hp} {S S1 : Store}
def Gh.off (G : Gh) : Gh := ⟨[], G.fz, fun a => G.pn a ∨ a ∈ G.ρ⟩
def Gh.back (G G' : Gh) : Gh := ⟨G.ρ, (G'.trunc 0).fz, G.pn⟩
theorem Sim.off (sm : Sim P K bs G S H) : Sim P K [0] G.off [] H := by
  refine ⟨rfl, List.nodup_nil, (fun a ha => absurd ha (by simp [Gh.off])), (fun k a c h1 => absurd h1 (by simp [Gh.off])), sm.fzs, fun a h => ?_, fun b hb => ?_⟩
  · rcases h with h | h
    · obtain ⟨q1, q2, _⟩ := sm.pns a h
      exact ⟨q1, q2, by simp [Gh.off]⟩
    · obtain ⟨o, q, _⟩ := sm.there h
      exact ⟨⟨o, q⟩, sm.nf a h, by simp [Gh.off]⟩
  · have : b = 0 := by simpa using hb
    subst this
    exact ⟨Nat.le_refl _, fun k c hk => by omega⟩
theorem all_pure {as : List D} (h : as.all D.pure = true) : D.loL 0 as = true := loL_iff.mpr fun x hx => List.all_eq_true.mp h x hx
theorem RepL.off {vs : List V} {as : List D} (r : RepL P K G H vs as) (h : D.loL 0 as = true) : RepL P K G.off H vs as := RepL.cut (G := G) (G' := G.off) (b := 0) (fun k a hk => absurd hk (Nat.not_lt_zero _)) (fun a h => h) r h
theorem Sim.back (sm : Sim P K bs G S H) (e : Ext G.off H G' H') (sm1 : Sim P K [0] G' S1 H') : Ext G H (G.back G') H' ∧ Sim P K bs (G.back G') S H' := by
  have off : ∀ a, G.pn a ∨ a ∈ G.ρ → (¬ G'.fz a ∧ a ∉ G'.ρ) ∧ H' a = H a := fun a h => by
    obtain ⟨q1, q2⟩ := e.pn a h
    exact ⟨(sm1.pns a q1).2, q2⟩
  have nofz : ∀ a, G.pn a ∨ a ∈ G.ρ → ¬ (G'.trunc 0).fz a := fun a h z => by
    rcases z with z | ⟨j, _, z⟩
    · exact (off a h).1.1 z
    · exact (off a h).1.2 (List.mem_of_getElem? z)
  have ee : Ext G H (G.back G') H' := ⟨⟨[], by simp [Gh.back]⟩, fun a h => .inl (e.fz a h), e.same, fun a h => ⟨h, (off a (.inl h)).2⟩, e.tup, e.frz⟩
  refine ⟨ee, sm.len, sm.nd, fun a h => nofz a (.inr h), fun k a c h1 h2 => ?_, fun a h => ?_, fun a h => ?_, sm.lv⟩
  · exact (sm.cell k a c h1 h2).ext ee (off a (.inr (List.mem_of_getElem? h1))).2
  · rcases h with h | ⟨j, _, h⟩
    · exact sm1.fzs a h
    · obtain ⟨o, q, _⟩ := sm1.there (List.mem_of_getElem? h)
      exact ⟨o, q⟩
  · obtain ⟨⟨o, q⟩, _, q3⟩ := sm.pns a h
    exact ⟨⟨o, by rw [(off a (.inl h)).2]; exact q⟩, nofz a (.inl h), q3⟩
theorem Rep.back {v : V} {d : D} (r : Rep P K (G'.trunc 0) H' v d) : Rep P K (G.back G') H' v d := Rep.cut (G := G'.trunc 0) (G' := G.back G') (b := 0) (fun k a hk => absurd hk (Nat.not_lt_zero _)) (fun a h => h) r (by
  have := r.lo
  simpa [Gh.trunc] using this)
end
section
variable {X : Cx} {c : Cn} {bs : List Nat} {k : Nat} {pins : List (Addr × Obj)} {σ : L2.St} {H : Hp} {s : Shared} {Q : VK}
/-- a field -/
theorem fld_rep (gd : Gd X c bs k) {G : Gh} {S : Store} {v : V} {a d : D} {f : Nat} {n : Str} (sm : Sim c.P X.K bs G S H) (r : Rep c.P X.K G H v a) (e : fieldOf c.P S a f = some d) (hn : c.P.nm[f]? = some n) :
    ∃ p C dx fs w, v = .ref p ∧ H p = some (.ins C dx fs) ∧ Cls X.K C ∧ NoAttr X.K C n ∧ fs.lookup n = some w ∧ Rep c.P X.K G H w d := by
  obtain ⟨i, ei⟩ := fieldOf_cls e
  obtain ⟨p, dx, fv, l, ci, rfl, h1, h2, h3, h4, h5, h6⟩ := inst_rep sm r ei
  have F := gd.cl i ci h2
  have nm : c.P.nmOf f = n := by unfold Prog.nmOf; rw [List.getD_eq_getElem?_getD, hn]; rfl
  rw [h6] at e
  have hf : f ∈ ci.attrs := h5 _ (lookup_mem e)
  have hfl : f < c.P.nm.length := (List.getElem?_eq_some_iff.mp hn).1
  obtain ⟨w, e1, rw'⟩ := (look_nm gd.nmd hfl h3 h4 fun q hq => (F.noat _ (h5 q hq)).1).1 d e
  rw [nm] at e1
  exact ⟨p, _, dx, fv, w, rfl, h1, F.cls, by rw [← nm]; exact (F.noat f hf).2, e1, rw'⟩
theorem putP_len (f : Nat) (d : D) : ∀ l : List (Nat × D), (putP f d l).length ≤ l.length + 1
  | [] => by simp [putP]
  | (g, x) :: r => by
    unfold putP
    split
    · simp
    · simp only [List.length_cons]; have := putP_len f d r; omega
theorem putP_mem {f : Nat} {d : D} : ∀ {l : List (Nat × D)} {q : Nat × D}, q ∈ putP f d l → q = (f, d) ∨ q ∈ l
  | [], q, h => by simp [putP] at h; exact .inl h
  | (g, x) :: r, q, h => by
    unfold putP at h
    split at h
    · rename_i hg
      subst hg
      rcases List.mem_cons.mp h with h | h
      · exact .inl h
      · exact .inr (List.mem_cons_of_mem _ h)
    · rcases List.mem_cons.mp h with h | h
      · exact .inr (h ▸ List.mem_cons_self)
      · rcases putP_mem h with h | h
        · exact .inl h
        · exact .inr (List.mem_cons_of_mem _ h)
theorem putP_rep {P : Prog} {K : PySem.W.Frag} {G : Gh} {f : Nat} {v : V} {d : D} (hn : P.nm.Nodup) (hf : f < P.nm.length) (r : Rep P K G H v d) : ∀ {l : List (Nat × D)} {fv : List (Str × V)}, fv.map (·.1) = l.map (fun p => P.nmOf p.1) → RepL P K G H (fv.map (·.2)) (l.map (·.2)) → (∀ p ∈ l, p.1 < P.nm.length) →
    (putF (P.nmOf f) v fv).map (·.1) = (putP f d l).map (fun p => P.nmOf p.1) ∧ RepL P K G H ((putF (P.nmOf f) v fv).map (·.2)) ((putP f d l).map (·.2))
  | [], [], _, _, _ => ⟨rfl, .cons r .nil⟩
  | [], _ :: _, e, _, _ => by simp at e
  | _ :: _, [], e, _, _ => by simp at e
  | (g, x) :: l, (n, y) :: fv, e, rr, hl => by
    simp only [List.map_cons, List.cons.injEq] at e rr
    obtain ⟨e0, e⟩ := e
    cases rr with
    | cons r1 r2 =>
      obtain ⟨i1, i2⟩ := putP_rep hn hf r (l := l) (fv := fv) e r2 fun p hp => hl p (List.mem_cons_of_mem _ hp)
      by_cases hg : g = f
      · subst hg
        have : n = P.nmOf g := e0
        simp only [putF, putP, this, if_true, List.map_cons]
        exact ⟨by rw [e], .cons r r2⟩
      · have hne : n ≠ P.nmOf f := fun z => hg (nm_inj hn (hl _ List.mem_cons_self) hf (e0.symm.trans z))
        simp only [putF, putP, if_neg hg, if_neg hne, List.map_cons]
        exact ⟨by rw [i1, e0], .cons r1 i2⟩
/-- a field is written -/
theorem setF_rep (gd : Gd X c bs k) {G : Gh} {S S' : Store} {v w : V} {a d : D} {f : Nat} {n : Str} (sm : Sim c.P X.K bs G S H) (r : Rep c.P X.K G H v a) (rd : Rep c.P X.K G H w d) (e : setF c a f d S = .ok () S') (hn : c.P.nm[f]? = some n) :
    ∃ p C dx fs, v = .ref p ∧ H p = some (.ins C dx fs) ∧ Cls X.K C ∧ NoAttr X.K C n ∧ fs.length < 1000 ∧ Ext G H G (upd H p (.ins C dx (putF n w fs))) ∧ Sim c.P X.K bs G S' (upd H p (.ins C dx (putF n w fs))) ∧ SX S S' := by
  unfold setF at e
  split at e
  · rename_i j
    split at e
    · rename_i cl fs hS
      split at e
      · rename_i hc
        cases e
        simp only [Bool.and_eq_true] at hc
        obtain ⟨⟨hw, hl⟩, hat⟩ := hc
        cases r with
        | @ref p _ hp =>
          obtain ⟨dx, fv, q1, q2, q3, ci, q4, q5, q6⟩ := sm.cell j p _ hp hS
          unfold hasA at hat
          rw [q4] at hat
          have hf : f ∈ ci.attrs := by simpa using hat
          have F := gd.cl cl ci q4
          have nm : c.P.nmOf f = n := by unfold Prog.nmOf; rw [List.getD_eq_getElem?_getD, hn]; rfl
          have hl' : fs.length < 900 := by simpa [Nat.blt_eq] using hl
          have len : fv.length = fs.length := by have := congrArg List.length q2; simpa using this
          have nl : ∀ q ∈ fs, q.1 < c.P.nm.length := fun q hq => (F.noat _ (q5 q hq)).1
          have ma : p ∈ G.ρ := List.mem_of_getElem? hp
          have ee : Ext G H G (upd H p (.ins (clsA c.P X.K cl) dx (putF n w fv))) := by
            obtain ⟨o1, z1, m1⟩ := sm.there ma
            refine ⟨⟨[], by simp⟩, fun _ h => h, fun x h => upd_ne fun z => ?_, fun x h => ⟨h, upd_ne fun z => ?_⟩, fun x xs h => ?_, fun x ob u h => ?_⟩
            · subst z; exact sm.nf x ma h
            · subst z; exact (sm.pns x h).2.2 ma
            · rw [upd_ne]; exact h
              rintro rfl; rw [z1] at h; cases h; exact m1
            · rw [upd_ne]; exact h
              rintro rfl; rw [z1] at h; cases h; exact m1
          obtain ⟨z1, z2⟩ := putP_rep (d := d) gd.nmd (F.noat f hf).1 (rd.ext ee) q2 (q3.ext ee) nl
          rw [nm] at z1 z2
          obtain ⟨w1, w2⟩ := sm.write (c := .ins cl (putP f d fs)) (o := .ins (clsA c.P X.K cl) dx (putF n w fv)) hp trivial ⟨dx, _, upd_same, z1, z2, ci, q4, fun q hq => by
              rcases putP_mem hq with h | h
              · rw [h]; exact hf
              · exact q5 q h, by have := putP_len f d fs; omega⟩ fun b hb hj => by
            have h0 := (sm.lv b hb).2 j _ hj hS
            simp only [Cell.lo] at h0 ⊢
            rw [loL_iff] at h0 ⊢
            intro x hx
            obtain ⟨q, hq, rfl⟩ := List.mem_map.mp hx
            rcases putP_mem hq with h | h
            · rw [h]; exact wr_lo hw (gd.hbs b hb) hj
            · exact h0 _ (List.mem_map_of_mem (f := Prod.snd) h)
          exact ⟨p, _, dx, fv, rfl, q1, F.cls, by rw [← nm]; exact (F.noat f hf).2, by omega, w1, w2, SX.set hS fun _ z => by cases z⟩
      · cases e
    · cases e
  · cases e
end
end TD

set_option Elab.async false
set_option linter.all false
set_option maxRecDepth 100000
set_option maxHeartbeats 2000000
set_option autoImplicit false
/-! TDs: calls with defaults, new instances. -/
namespace TD
open PySem PySem.Spec PyProof.Rows L2
open PySem.W (Looks)
section
variable {X : Cx} {c : Cn} {bs : List Nat} {k : Nat} {pins : List (Addr × Obj)} {σ : L2.St} {H : Hp} {s : Shared} {Q : VK}
theorem ofV_rep {P : Prog} {K : PySem.W.Frag} {G : Gh} : ∀ {vs : List V}, (∀ v ∈ vs, ∃ b, v = .non ∨ v = .bl b ∨ ∃ i, v = .int i) → RepL P K G H vs (vs.map ofV)
  | [], _ => .nil
  | v :: vs, h => by
    refine .cons ?_ (ofV_rep fun w hw => h w (List.mem_cons_of_mem _ hw))
    obtain ⟨b, h | h | ⟨i, h⟩⟩ := h v List.mem_cons_self
    · subst h; exact .non
    · subst h; exact .bl b
    · subst h; exact .int i
theorem passes0 {E : XK} : Passes CX0 X E := fun _ _ _ _ _ _ _ z => z.elim
/-- the written arguments, then the defaults -/
theorem full_ok (gd : Gd X c bs k) {G : Gh} {f b : Nat} {fd : FnI} {vs : List V} {as : List D} {S S' : Store} {d : D} (hf : c.P.fns[f]? = some fd) (r : RepL c.P X.K G H vs as) (e : c.Φ b f (full c.P f as) S = .ok d S') :
    ∃ fdat dvs ds, FnOk X.prog X.w X.K X.mg X.base CX0 k (He.fAd X.K fd.at_) fdat (fd.names.take fd.np) (spF c.P X.K c.Φ f fd.np fd.keep) ∧ Vals dvs ds ∧ Binds X.K fdat (fd.names.take fd.np) ds ∧ RepL c.P X.K G H (vs ++ dvs) (full c.P f as) ∧ (full c.P f as).length = fd.np := by
  obtain ⟨fdat, F, hk, hd, _, hv⟩ := gd.fn f fd hf
  have hl := gd.ln _ _ _ _ _ _ _ hf e
  have ef : full c.P f as = as ++ (fd.dfl.drop (as.length + fd.dfl.length - fd.np)).map ofV := by unfold full; rw [hf]
  have hl2 := hl
  rw [ef] at hl2
  simp only [List.length_append, List.length_map, List.length_drop] at hl2
  obtain ⟨ds, hds, hb⟩ := hd (fd.np - as.length) (by omega)
  have hi : fd.dfl.length - (fd.np - as.length) = as.length + fd.dfl.length - fd.np := by omega
  rw [hi] at hds
  refine ⟨fdat, _, ds, F, hds, hb, ?_, hl⟩
  rw [ef]
  exact r.append (ofV_rep fun v hv' => hv v (List.mem_of_mem_drop hv'))
theorem callD_ok (gd : Gd X c bs k) {G : Gh} {f : Nat} {fd : FnI} {vs : List V} {us : List Value} {as : List D} {S S' : Store} {d : D} (hf : c.P.fns[f]? = some fd) (I : Inv X pins σ H s) (r : Vals vs us) (sm : Sim c.P X.K bs G S H) (hbl : c.base ≤ S.length) (ra : RepL c.P X.K G H vs as)
    (e : c.Φ c.base f (full c.P f as) S = .ok d S') (fin : Fin c.P X.K bs G H S d S' Q) : wpAny (model X.prog X.w) X.A (call (.ref (He.fAd X.K fd.at_)) us) (EP X pins σ Q) X.xe s := by
  obtain ⟨fdat, dvs, ds, F, hd, hb, rf, hl⟩ := full_ok gd hf ra e
  refine run_fn (E := E0) F (gd.room.mono (by omega)) hb hd passes0 I r ⟨by rw [rf.length, hl], bs, c.base, G, S, _, d, S', fun b' hb' => ?_, hbl, sm, rf, e, fin⟩
  have := gd.hbs b' hb'
  split <;> omega
theorem SX.sub {S S1 : Store} {x : Cell} (h : SX (S ++ [x]) S1) : SX S S1 := SX.more.trans h
/-- C(..) -/
theorem make_ok (gd : Gd X c bs k) {G : Gh} {i : Nat} {ci : ClsI} {vs : List V} {us : List Value} {as : List D} {S S' : Store} {d : D} (hc : c.P.cl i = some ci) (I : Inv X pins σ H s) (r : Vals vs us) (sm : Sim c.P X.K bs G S H) (hbl : c.base ≤ S.length) (ra : RepL c.P X.K G H vs as)
    (e : mkB c i as S = .ok d S') (fin : Fin c.P X.K bs G H S d S' Q) : wpAny (model X.prog X.w) X.A (call (.ref (clsA c.P X.K i)) us) (EP X pins σ Q) X.xe s := by
  unfold mkB at e
  rw [hc] at e
  split at e
  · rename_i ci' f e1 hm
    cases e1
    split at e
    · rename_i fd hf
      split at e
      · cases e
      · rename_i hkeep
        split at e
        · rename_i hpure
          simp only [Bool.and_eq_true] at hpure
          obtain ⟨hmu, hpa⟩ := hpure
          have hmu : ci.mutb = false := by simpa using hmu
          have hk : fd.keep = false := by
            cases hk : fd.keep with
            | false => rfl
            | true => rw [hk] at hkeep; simp [hmu] at hkeep
          obtain ⟨r0, S1, er, e⟩ := Res.bind_eq_ok e
          split at e
          · rename_i k' fs
            split at e
            · rename_i hcond
              cases e
              simp only [Bool.and_eq_true, decide_eq_true_eq] at hcond
              obtain ⟨⟨hat, hkk⟩, hlo⟩ := hcond
              subst hkk
              have F0 := gd.cl k' ci hc
              have M := F0.mkr f fd hm hf
              obtain ⟨fdat, F, hk', hd, _, hv⟩ := gd.fn f fd hf
              have hl := gd.ln _ _ _ _ _ _ _ hf er
              have ef : full c.P f (.ref 0 :: as) = (.ref 0 :: as) ++ (fd.dfl.drop ((D.ref 0 :: as).length + fd.dfl.length - fd.np)).map ofV := by unfold full; rw [hf]
              have hl2 := hl
              rw [ef] at hl2
              simp only [List.length_append, List.length_map, List.length_drop, List.length_cons] at hl2
              obtain ⟨ds, hds, hb⟩ := hd (fd.np - (as.length + 1)) (by omega)
              have hi : fd.dfl.length - (fd.np - (as.length + 1)) = (as.length + 1) + fd.dfl.length - fd.np := by omega
              rw [hi] at hds
              refine run_make (E := E0) M F (gd.room.mono (by omega)) hb hds passes0 I r fun x dx hx hdx hne => ?_
              have s0 := sm.off
              have e1 := Ext.fresh (o := .own x) s0 hdx
              have s1 := s0.fresh (o := .own x) hdx
              have hx' : (upd H dx (.own x)) x = none := by rw [upd_ne hne.symm]; exact hx
              have e2 := Ext.more (o := .ins (clsA c.P X.K k') dx []) s1 hx'
              have cr : CellR c.P X.K (G.off.more x) (upd (upd H dx (.own x)) x (.ins (clsA c.P X.K k') dx [])) x (.ins k' []) := ⟨dx, [], upd_same, rfl, .nil, ci, hc, (fun p hp => absurd hp (by simp)), Nat.zero_le _⟩
              have s2 := s1.more hx' cr
              have ex := e1.trans e2
              have px0 : (G.off.more x).ρ[0]? = some x := rfl
              have rl : RepL c.P X.K (G.off.more x) (upd (upd H dx (.own x)) x (.ins (clsA c.P X.K k') dx [])) (.ref x :: (vs ++ fd.dfl.drop (as.length + 1 + fd.dfl.length - fd.np))) (full c.P f (.ref 0 :: as)) := by
                rw [ef]
                exact .cons (.ref px0) (((ra.off (all_pure hpa)).ext ex).append (ofV_rep fun v hv' => hv v (List.mem_of_mem_drop hv')))
              refine ⟨by rw [rl.length, hl], [0], 0, G.off.more x, [.ins k' []], _, _, _, fun b' hb' => ?_, Nat.zero_le _, s2, rl, er, fun v G2 H2 e3 x3 sm3 r3 => ?_⟩
              · have : b' = 0 := by simpa using hb'
                subst this
                split <;> exact Nat.zero_le _
              · cases r3
                refine ⟨rfl, ?_⟩
                have px : G2.ρ[0]? = some x := e3.at_ px0
                obtain ⟨dx2, fv, q1, q2, q3, _⟩ := sm3.cell 0 x _ px rfl
                obtain ⟨b1, b2⟩ := sm.back (ex.trans e3) sm3
                refine fin (.ref x) (G.back G2) H2 b1 .refl b2 (Rep.back (.ins (.inr ⟨0, Nat.le_refl _, px⟩) q1 hc ?_ (q3.trunc hlo)))
                rw [q2, ← hat, List.map_map]; rfl
            · cases e
          · cases e
        obtain ⟨r0, S1, er, e⟩ := Res.bind_eq_ok e
        split at e
        · have F0 := gd.cl i ci hc
          have M := F0.mkr f fd hm hf
          -- the state that __init__ meets
          have atNew : ∀ x dx : Addr, H x = none → H dx = none → dx ≠ x → ∃ bs', (∀ b' ∈ bs, b' ∈ bs') ∧ (∀ b' ∈ bs', b' ≤ if fd.keep then c.base else (S ++ [Cell.ins i []]).length) ∧ (fd.keep = false → S.length ∈ bs') ∧
              Sim c.P X.K bs' (G.more x) (S ++ [.ins i []]) (upd (upd H dx (.own x)) x (.ins (clsA c.P X.K i) dx [])) ∧ Ext G H (G.more x) (upd (upd H dx (.own x)) x (.ins (clsA c.P X.K i) dx [])) := fun x dx hx hdx hne => by
            have e1 := Ext.fresh (o := .own x) sm hdx
            have s1 := sm.fresh (o := .own x) hdx
            have hx' : (upd H dx (.own x)) x = none := by rw [upd_ne hne.symm]; exact hx
            have e2 := Ext.more (o := .ins (clsA c.P X.K i) dx []) s1 hx'
            have cr : CellR c.P X.K (G.more x) (upd (upd H dx (.own x)) x (.ins (clsA c.P X.K i) dx [])) x (.ins i []) := ⟨dx, [], upd_same, rfl, .nil, ci, hc, (fun p hp => absurd hp (by simp)), Nat.zero_le _⟩
            cases hk : fd.keep with
            | true => exact ⟨bs, fun _ h => h, (fun b' hb' => by simpa using gd.hbs b' hb'), (fun z => by cases z), s1.more hx' cr, e1.trans e2⟩
            | false =>
              refine ⟨S.length :: bs, fun _ h => List.mem_cons_of_mem _ h, fun b' hb' => ?_, fun _ => List.mem_cons_self, s1.here.more hx' cr, e1.trans e2⟩
              simp only [Bool.false_eq_true, if_false, List.length_append, List.length_singleton]
              rcases List.mem_cons.mp hb' with z | z
              · omega
              · have := gd.hbs b' z; omega
          have rin : ∀ x dx : Addr, ∀ (e : Ext G H (G.more x) (upd (upd H dx (.own x)) x (.ins (clsA c.P X.K i) dx []))), RepL c.P X.K (G.more x) (upd (upd H dx (.own x)) x (.ins (clsA c.P X.K i) dx [])) (.ref x :: vs) (.ref S.length :: as) := fun x dx e => by
            refine .cons (.ref ?_) (ra.ext e)
            show (G.ρ ++ [x])[S.length]? = some x
            rw [← sm.len, List.getElem?_concat_length]
          -- the defaults do not hang on the heap
          have full0 : ∃ fdat dvs ds, FnOk X.prog X.w X.K X.mg X.base CX0 k (He.fAd X.K fd.at_) fdat (fd.names.take fd.np) (spF c.P X.K c.Φ f fd.np fd.keep) ∧ Vals dvs ds ∧ Binds X.K fdat (fd.names.take fd.np) ds ∧
              (∀ G' H', RepL c.P X.K G' H' (.ref 0 :: vs) (.ref S.length :: as) ∨ True → RepL c.P X.K G' H' vs as → RepL c.P X.K G' H' (vs ++ dvs) ((full c.P f (.ref S.length :: as)).tail)) ∧ (full c.P f (.ref S.length :: as)).length = fd.np ∧ ∃ t, full c.P f (.ref S.length :: as) = .ref S.length :: t := by
            obtain ⟨fdat, F, hk, hd, _, hv⟩ := gd.fn f fd hf
            have hl := gd.ln _ _ _ _ _ _ _ hf er
            have ef : full c.P f (.ref S.length :: as) = (.ref S.length :: as) ++ (fd.dfl.drop ((D.ref S.length :: as).length + fd.dfl.length - fd.np)).map ofV := by unfold full; rw [hf]
            have hl2 := hl
            rw [ef] at hl2
            simp only [List.length_append, List.length_map, List.length_drop, List.length_cons] at hl2
            obtain ⟨ds, hds, hb⟩ := hd (fd.np - (as.length + 1)) (by omega)
            have hi : fd.dfl.length - (fd.np - (as.length + 1)) = (as.length + 1) + fd.dfl.length - fd.np := by omega
            rw [hi] at hds
            refine ⟨fdat, _, ds, F, hds, hb, fun G' H' _ r' => ?_, hl, _, by rw [ef]; rfl⟩
            rw [ef]
            exact r'.append (ofV_rep fun v hv' => hv v (List.mem_of_mem_drop hv'))
          obtain ⟨fdat, dvs, ds, F, hds, hb, hfull, hlen, t, ht⟩ := full0
          refine run_make (E := E0) M F (gd.room.mono (by omega)) hb hds passes0 I r fun x dx hx hdx hne => ?_
          obtain ⟨bs', hsub, hlow, hin, sm', ex⟩ := atNew x dx hx hdx hne
          have rl : RepL c.P X.K (G.more x) (upd (upd H dx (.own x)) x (.ins (clsA c.P X.K i) dx [])) (.ref x :: (vs ++ dvs)) (full c.P f (.ref S.length :: as)) := by
            have := hfull (G.more x) _ (.inr trivial) (ra.ext ex)
            rw [ht] at this ⊢
            refine .cons (.ref ?_) this
            show (G.ρ ++ [x])[S.length]? = some x
            rw [← sm.len, List.getElem?_concat_length]
          refine ⟨by rw [rl.length, hlen], bs', c.base, G.more x, S ++ [.ins i []], _, _, S1, hlow, by simp; omega, sm', rl, er, fun v G2 H2 e2 x2 sm2 r2 => ?_⟩
          cases r2
          refine ⟨rfl, ?_⟩
          have px : G2.ρ[S.length]? = some x := e2.at_ (by
            show (G.ρ ++ [x])[S.length]? = some x
            rw [← sm.len, List.getElem?_concat_length])
          split at e
          · rename_i hmu
            cases e
            exact fin _ G2 H2 (ex.trans e2) (SX.sub x2) (sm2.sub hsub) (.ref px)
          · rename_i hmu
            have hk : fd.keep = false := by
              cases hk : fd.keep with
              | false => rfl
              | true => rw [hk] at hkeep; simp [hmu] at hkeep
            split at e
            · rename_i k' fs hS1
              split at e
              · rename_i hcond
                cases e
                simp only [Bool.and_eq_true, decide_eq_true_eq] at hcond
                obtain ⟨⟨hat, hln, hkk⟩, hlo⟩ := hcond
                subst hkk
                have hb := hin hk
                obtain ⟨dx2, fv, q1, q2, q3, _⟩ := sm2.cell S.length x _ px hS1
                have tr := sm2.trunc hb
                refine fin (.ref x) (G2.trunc S.length) H2 ((ex.trans e2).trunc sm.len) ((SX.sub x2).take) (tr.sub fun b' hb' => List.mem_filter.mpr ⟨hsub b' hb', ?_⟩) (.ins (.inr ⟨S.length, Nat.le_refl _, px⟩) q1 hc ?_ (q3.trunc hlo))
                · have h1 := (sm.lv b' hb').1
                  exact Nat.ble_eq_true_of_le h1
                · rw [q2, ← hat, List.map_map]; rfl
              · cases e
            · cases e
        · cases e
    · cases e
  · cases e
end
end TD

set_option Elab.async false
set_option linter.all false
set_option maxRecDepth 100000
set_option maxHeartbeats 4000000
set_option autoImplicit false
/-! TDk: enumerate(tuple). -/
namespace TD
open PySem PySem.Spec PyProof.Rows L2
open AutoSeq1 (wpAny_loadPart')
theorem enum_tuple_new (t : Addr) (items : Array Value) (n : Nat) (dct : Option Addr) (sl : Array (Option Value)) :
    Meets (Builtin.«enumerate.__new__» ⟨[.type "enumerate", .ref t], []⟩) (fun _ R s => s.heap.get? t = some { cls := .type "tuple", dict := dct, data := .seq items n, slots := sl } ∧
      R (.ok (.ret (.ref (s.heap.push { cls := .type "tuple_iterator", data := .fields #[.ref t, .int 0 0] }).objs.size)))
        { s with heap := (s.heap.push { cls := .type "tuple_iterator", data := .fields #[.ref t, .int 0 0] }).push { cls := .type "enumerate", data := .fields #[.none, .bool false, .ref s.heap.objs.size, rawInt 0, .none, .none] } }) :=
  .of_wp fun prog w A R s h => by
    obtain ⟨hp, g, d, tk, os⟩ := s
    obtain ⟨hl, h⟩ := h
    have sub := sub_enumerate
    have it : ∀ {A' : Around} {E : Value → Shared → Prop} {Q : Value → Shared → Prop}, Q (.ref hp.objs.size) ⟨hp.push { cls := .type "tuple_iterator", data := .fields #[.ref t, .int 0 0] }, g, d, tk, os⟩ → wpAny (model prog w) A' (pyIter (.ref t)) Q E ⟨hp, g, d, tk, os⟩ :=
      fun q => wpAny_pyIter_tuple (s := ⟨hp, g, d, tk, os⟩) (items := items) ⟨_, hl, rfl, n, rfl⟩ q
    wp_walk using wpAny_loadPart' hl
    refine wpAny_stack_any fun st => wpAny_pure ?_
    split
    · rename_i c _ _ _ _ _
      cases (c == Value.type "enumerate")
      · wp_walk using wpAny_loadPart' hl, it
        exact ⟨_, rfl, h⟩
      · wp_walk using wpAny_loadPart' hl, it
        exact ⟨_, rfl, h⟩
    · wp_walk using wpAny_loadPart' hl, it
      exact ⟨_, rfl, h⟩
section
variable {prog : Program} {w : World} {A : Around} {E : Value → Shared → Prop} {s : Shared}
theorem call_enum_tuple {t : Addr} {items : Array Value} {Q : Value → Shared → Prop} (hT : s.heap.IsTuple t items)
    (h : ∀ h', IsEnum h' (s.heap.objs.size + 1) s.heap.objs.size 0 .none → h'.IsTupleIter s.heap.objs.size t 0 → h'.objs.size = s.heap.objs.size + 2 → (∀ b o, s.heap.get? b = some o → h'.get? b = some o) → Q (.ref (s.heap.objs.size + 1)) { s with heap := h' }) :
    wpAny (model prog w) A (call (.type "enumerate") [.ref t]) Q E s := by
  obtain ⟨⟨c, dct, dt, sl⟩, hl, hc, n, hd⟩ := hT
  simp only at hc hd
  subst hc hd
  refine callType_new F.called_enumerate (by decide) (F.typeCall_enumerate_1 _) (F.newCall_enumerate_1 _) (fun obj => F.args_object_init_2 obj _) F.entry_enumerate_new (enum_tuple_new t items n dct sl) ⟨hl, ?_⟩
  have hz : (s.heap.push { cls := .type "tuple_iterator", data := .fields #[.ref t, .int 0 0] }).objs.size = s.heap.objs.size + 1 := Heap.size_push ..
  show _ ∧ _
  rw [hz]
  have he : IsEnum ((s.heap.push { cls := .type "tuple_iterator", data := .fields #[.ref t, .int 0 0] }).push { cls := .type "enumerate", data := .fields #[.none, .bool false, .ref s.heap.objs.size, rawInt 0, .none, .none] }) (s.heap.objs.size + 1) s.heap.objs.size 0 .none := by
    have := Heap.get?_push_size (s.heap.push { cls := .type "tuple_iterator", data := .fields #[.ref t, .int 0 0] }) (o := { cls := .type "enumerate", data := .fields #[.none, .bool false, .ref s.heap.objs.size, rawInt 0, .none, .none] }) rfl
    rw [hz] at this; exact this
  exact ⟨⟨_, he, rfl⟩, h _ he ⟨_, Heap.get?_push_of_some _ (Heap.get?_push_size _ rfl), rfl, rfl⟩ (by rw [Heap.size_push, hz]) fun b o x => Heap.get?_push_of_some _ (Heap.get?_push_of_some _ x)⟩
end
/-- the tuple at a, each item in a new pair -/
def Itet (K : PySem.W.Frag) (a : Addr) : It :=
  ⟨fun i H => ∃ (xs : List V) (x : V), SqT K H a xs ∧ xs[i]? = some x, fun i H v H' => ∃ T x, v = .ref T ∧ H T = none ∧ H' = upd H T (.tup [.int (i : Nat), x]) ∧ ∀ xs, SqT K H a xs → xs[i]? = some x, fun i H => ∃ xs : List V, SqT K H a xs ∧ xs.length = i⟩
theorem turn_enumT {P : Program} {w : World} {K : PySem.W.Frag} {elts : List Expr} {kk : Nat} {tpos : Pos} (a e it : Addr) (ha : a ≠ it) :
    Turn P w K (.Tuple elts kk tpos) (Itet K a) [e, it] e (fun i h => (∃ old, IsEnum h e it ((i : Nat) : Int) old) ∧ h.IsTupleIter it a i ∧ e ≠ it ∧ e ≠ a) where
  mem := by simp
  obj := fun i h st b hb => by
    obtain ⟨⟨old, he⟩, ⟨o, ho, hc, hd⟩, _⟩ := st
    have z : b = e ∨ b = it := by simpa using hb
    rcases z with rfl | rfl
    · exact ⟨_, he, fun v q => nomatch q⟩
    · exact ⟨o, ho, fun v q => by rw [hd] at q; cases q⟩
  keep := fun i h h' st k => by
    obtain ⟨⟨old, he⟩, hi, hne⟩ := st
    exact ⟨⟨old, k e (by simp) _ he⟩, hi.at fun o q => k it (by simp) o q, hne⟩
  item := by
    intro X hP hw hK hc i pins s σ H E I hf st hg
    subst hP hw hK
    obtain ⟨⟨old, he⟩, hit, hne, hna⟩ := st
    obtain ⟨xs, x, hq, hx⟩ := hg
    obtain ⟨its, rv, p, hz⟩ := I.tuple hq
    obtain ⟨u, hu, ru⟩ := rv.get hx
    have hel : e < s.heap.objs.size := Heap.lt_size he
    have hil : it < s.heap.objs.size := by obtain ⟨_, q, _⟩ := hit; exact Heap.lt_size q
    have hlt : i < its.toArray.size := by
      have := (List.getElem?_eq_some_iff.mp hu).1
      simpa using this
    have D := Draws.tuple (prog := X.prog) (w := X.w) (A := X.A.in1) (I.ok.hd hc) it a ha its.toArray
    refine wpAny_pyNext_enum_itemC D he ⟨hit, p⟩ hlt hne (by simp; exact ⟨hne, hna⟩) fun z h' tk hz' ho st' hT hsz hk => ?_
    have hzu : z = u := by
      have h1 : its.toArray[i]? = some u := by simpa using hu
      have h2 : its.toArray[i]? = some z := hz'
      rw [h1] at h2
      exact (Option.some.inj h2).symm
    subst hzu
    refine ⟨_, rfl, wpAny_letOwnedTupleGo_enum (s := { s with heap := h', toks := tk + 1 }) ho fun h'' he' sb => ?_⟩
    have hT2 : h''.get? s.heap.objs.size = some { cls := .type "tuple", data := .seq #[.int i tk, z] } := (sb.2 _ (Nat.ne_of_gt hel)).trans hT
    have new : ObjOk X.prog X.w (upd H s.heap.objs.size (.tup [.int (i : Nat), x])) h'' s.heap.objs.size (.tup [.int (i : Nat), x]) :=
      ⟨by show 2 ≤ sizeLine; decide, [.int i tk, z], .cons ⟨_, rfl⟩ (.cons ru .nil), ⟨_, hT2, rfl, _, rfl⟩⟩
    have I1 : Inv X pins σ (upd H s.heap.objs.size (.tup [.int (i : Nat), x])) { s with heap := h'', toks := tk + 1 } :=
      I.turnedNew (ch := [e, it]) (fun b ob hb q => (sb.2 b (fun z => hb (by simp [z]))).trans (hk b ob (fun z => hb (by simp [z])) (fun z => hb (by simp [z])) q)) hf (Nat.le_refl _) new
    refine ⟨.ref s.heap.objs.size, _, I1, rfl, ⟨_, x, rfl, I.hok.fresh (Nat.le_refl _), rfl, fun ys hy => by rw [I.tuple_inj hy hq]; exact hx⟩, ⟨⟨z, ?_⟩, st'.1.at fun o q => (sb.2 it (Ne.symm hne)).trans q, hne, hna⟩, fun b hb => ?_⟩
    · have e1 : ((i + 1 : Nat) : Int) = (i : Int) + 1 := by omega
      rw [e1]; exact he'
    · have hb' : b < s.heap.objs.size := by
        have z : b = e ∨ b = it := by simpa using hb
        rcases z with rfl | rfl
        · exact hel
        · exact hil
      rw [upd_ne (Nat.ne_of_lt hb')]
      exact (hf b hb).1
  done := by
    intro X hP hw hK hc i pins s σ H E I hf st hg
    subst hP hw hK
    obtain ⟨⟨old, he⟩, hit, hne, hna⟩ := st
    obtain ⟨xs, hq, hx⟩ := hg
    obtain ⟨its, rv, p, hz⟩ := I.tuple hq
    obtain ⟨f0, f1, f2, f3, f4, f5⟩ := hf it (by simp)
    have hl := rv.length
    have hn : its.toArray.size = i := by simp; omega
    have D := Draws.tuple (prog := X.prog) (w := X.w) (A := X.A.in1) (I.ok.hd hc) it a ha its.toArray
    exact wpAny_pyNext_enum_endD D he (by rw [hn]; exact ⟨hit, p⟩) fun h' eb => ⟨rfl, I.turned (t' := s.toks) (fun b o hb q => eb b o hb q) f0 f1 f3 f4 f5⟩
  self := fun A i s Q E st h => let ⟨⟨_, he⟩, _⟩ := st; wpAny_pyIter_enum he h
end TD

set_option Elab.async false
set_option linter.all false
set_option maxRecDepth 100000
set_option maxHeartbeats 4000000
set_option autoImplicit false
/-! TDn: zip of lists and tuples in any mix. -/
namespace TD
open PySem PySem.Spec PyProof.Rows L2
/-- a tuple (true) or a list -/
def SqX (t : Bool) (K : PySem.W.Frag) (H : Hp) (a : Addr) (xs : List V) : Prop := if t then SqT K H a xs else SqL K H a xs
def IsX (t : Bool) (h : Heap) (a : Addr) (its : Array Value) : Prop := if t then h.IsTuple a its else h.IsList a its
def IterX (t : Bool) (h : Heap) (it a : Addr) (i : Nat) : Prop := if t then h.IsTupleIter it a i else h.IsListIter it a i
section
variable {X : Cx} {pins : List (Addr × Obj)} {σ : L2.St} {H : Hp} {s : Shared}
theorem sqX_is {t : Bool} {a : Addr} {xs : List V} (I : Inv X pins σ H s) (h : SqX t X.K H a xs) : ∃ its : List Value, Vals xs its ∧ IsX t s.heap a its.toArray := by
  cases t
  · obtain ⟨its, r, p, _⟩ := I.list h
    exact ⟨its, r, p.isList⟩
  · obtain ⟨its, r, p, _⟩ := I.tuple h
    exact ⟨its, r, p⟩
theorem sqX_inj {t : Bool} {a : Addr} {xs ys : List V} (I : Inv X pins σ H s) (h : SqX t X.K H a xs) (h' : SqX t X.K H a ys) : xs = ys := by
  cases t
  · exact I.list_inj h h'
  · exact I.tuple_inj h h'
end
theorem isX_lt {t : Bool} {h : Heap} {a : Addr} {its : Array Value} (p : IsX t h a its) : a < h.objs.size := by
  cases t
  · obtain ⟨o, ho, _⟩ := p; exact Heap.lt_size ho
  · obtain ⟨o, ho, _⟩ := p; exact Heap.lt_size ho
theorem iterX_get {t : Bool} {h : Heap} {it a : Addr} {i : Nat} (p : IterX t h it a i) : ∃ o, h.get? it = some o ∧ ∀ v, o.data ≠ .cell v := by
  cases t <;> (obtain ⟨o, e, _, d⟩ := p; exact ⟨o, e, fun v q => by rw [d] at q; cases q⟩)
theorem IterX.at {t : Bool} {h h' : Heap} {it a : Addr} {i : Nat} (p : IterX t h it a i) (k : ∀ o, h.get? it = some o → h'.get? it = some o) : IterX t h' it a i := by
  cases t
  · exact Heap.IsListIter.at (show h.IsListIter it a i from p) k
  · exact Heap.IsTupleIter.at (show h.IsTupleIter it a i from p) k
/-- what an iterator of either kind draws -/
theorem drawX {prog : Program} {w : World} {A : Around} (hh : A.handled = none) (t : Bool) (it a : Addr) (hne : a ≠ it) (its : Array Value) :
    Draws prog w A it [it, a] its.size (fun i v => its[i]? = some v) (fun i h => IterX t h it a i ∧ IsX t h a its) := by
  cases t
  · exact Draws.list hh it a hne its
  · exact Draws.tuple hh it a hne its
def ItzX (t t' : Bool) (K : PySem.W.Frag) (a b : Addr) : It :=
  ⟨fun i H => ∃ (xs ys : List V) (x y : V), SqX t K H a xs ∧ SqX t' K H b ys ∧ xs[i]? = some x ∧ ys[i]? = some y,
    fun i H v H' => ∃ T x y, v = .ref T ∧ H T = none ∧ H' = upd H T (.tup [x, y]) ∧ (∀ xs, SqX t K H a xs → xs[i]? = some x) ∧ ∀ ys, SqX t' K H b ys → ys[i]? = some y,
    fun i H => ∃ xs ys : List V, SqX t K H a xs ∧ SqX t' K H b ys ∧ i ≤ xs.length ∧ i ≤ ys.length ∧ (i = xs.length ∨ i = ys.length)⟩
theorem turn_zipX {P : Program} {w : World} {K : PySem.W.Frag} {elts : List Expr} {kk : Nat} {tpos : Pos} (t t' : Bool) {a b z TI TO i1 i2 : Addr} (S : ZipSep2 z TI TO i1 i2 [i1, a] [i2, b]) (na : a ≠ i1) (nb : b ≠ i2) :
    Turn P w K (.Tuple elts kk tpos) (ItzX t t' K a b) [z, TI, TO, i1, i2] z (fun i h => IsZip h z TI TO .none ∧ IsTupOf2 h TI (.ref i1) (.ref i2) ∧ (∃ x y, IsTupOf2 h TO x y) ∧ IterX t h i1 a i ∧ IterX t' h i2 b i) where
  mem := by simp
  obj := fun i h st c hc => by
    obtain ⟨hz, hTI, ⟨x, y, hTO⟩, s1, s2⟩ := st
    simp only [List.mem_cons, List.not_mem_nil, or_false] at hc
    rcases hc with rfl | rfl | rfl | rfl | rfl
    · exact ⟨_, hz, fun v q => nomatch q⟩
    · exact ⟨_, hTI, fun v q => nomatch q⟩
    · exact ⟨_, hTO, fun v q => nomatch q⟩
    · exact iterX_get s1
    · exact iterX_get s2
  keep := fun i h h' st k => by
    obtain ⟨hz, hTI, ⟨x, y, hTO⟩, s1, s2⟩ := st
    exact ⟨k z (by simp) _ hz, k TI (by simp) _ hTI, ⟨x, y, k TO (by simp) _ hTO⟩, s1.at fun o q => k i1 (by simp) o q, s2.at fun o q => k i2 (by simp) o q⟩
  item := by
    intro X hP hw hK hc i pins s σ H E I hf st hg
    subst hP hw hK
    obtain ⟨hz, hTI, ⟨x0, y0, hTO⟩, s1, s2⟩ := st
    obtain ⟨xs, ys, x, y, qx, qy, ex, ey⟩ := hg
    obtain ⟨j1, r1, p1⟩ := sqX_is I qx
    obtain ⟨j2, r2, p2⟩ := sqX_is I qy
    obtain ⟨u, eu, ru⟩ := r1.get ex
    obtain ⟨u2, eu2, ru2⟩ := r2.get ey
    have zl : z < s.heap.objs.size := Heap.lt_size hz
    have D1 := drawX (prog := X.prog) (w := X.w) (A := X.A.in1) (I.ok.hd hc) t i1 a na j1.toArray
    have D2 := drawX (prog := X.prog) (w := X.w) (A := X.A.in1) (I.ok.hd hc) t' i2 b nb j2.toArray
    have lt1 : i < j1.toArray.size := by
      have := (List.getElem?_eq_some_iff.mp eu).1
      simpa using this
    have lt2 : i < j2.toArray.size := by
      have := (List.getElem?_eq_some_iff.mp eu2).1
      simpa using this
    refine wpAny_pyNext_zipD2_item S D1 D2 hz hTI hTO ⟨s1, p1⟩ ⟨s2, p2⟩ lt1 lt2 fun v1 v2 g tk w1 w2 gz gTO g1 g2 gT gsz gk => ?_
    have e1 : v1 = u := Option.some.inj (w1.symm.trans (by simpa using eu))
    have e2 : v2 = u2 := Option.some.inj (w2.symm.trans (by simpa using eu2))
    subst e1; subst e2
    refine ⟨_, rfl, wpAny_letOwnedTupleGo_zip (s := { s with heap := g, toks := tk }) gz fun g' gz' sb => ?_⟩
    have nT : g'.get? s.heap.objs.size = some { cls := .type "tuple", data := .seq #[v1, v2] } := (sb.2 _ (Nat.ne_of_gt zl)).trans gT
    have neu : ObjOk X.prog X.w (upd H s.heap.objs.size (.tup [x, y])) g' s.heap.objs.size (.tup [x, y]) :=
      ⟨(show 2 ≤ sizeLine by decide), [v1, v2], .cons ru (.cons ru2 .nil), ⟨_, nT, rfl, _, rfl⟩⟩
    have J : Inv X pins σ (upd H s.heap.objs.size (.tup [x, y])) { s with heap := g', toks := tk } :=
      I.turnedNew (ch := [z, TI, TO, i1, i2]) (fun c o hb q => (sb.2 c (fun m => hb (by simp [m]))).trans (gk c o (fun m => hb (by simp [m])) (fun m => hb (by simp [m])) (fun m => hb (by simp [m])) (fun m => hb (by simp [m])) q)) hf (Nat.le_refl _) neu
    refine ⟨.ref s.heap.objs.size, _, J, rfl, ⟨_, x, y, rfl, I.hok.fresh (Nat.le_refl _), rfl, fun l hl => by rw [sqX_inj I hl qx]; exact ex, fun l hl => by rw [sqX_inj I hl qy]; exact ey⟩, ⟨gz', (sb.2 _ S.TIz).trans (gk _ _ S.TIz S.TITO S.TIi1 S.TIi2 hTI), ⟨v1, v2, (sb.2 _ S.TOz).trans gTO⟩, ?_, ?_⟩, fun c hcm => ?_⟩
    · exact g1.1.at fun o q => (sb.2 i1 (fun m => S.zf1 (m ▸ by simp))).trans q
    · exact g2.1.at fun o q => (sb.2 i2 (fun m => S.zf2 (m ▸ by simp))).trans q
    · have lt : c < s.heap.objs.size := by
        simp only [List.mem_cons, List.not_mem_nil, or_false] at hcm
        rcases hcm with rfl | rfl | rfl | rfl | rfl
        · exact zl
        · exact Heap.lt_size hTI
        · exact Heap.lt_size hTO
        · obtain ⟨o, q, _⟩ := iterX_get s1; exact Heap.lt_size q
        · obtain ⟨o, q, _⟩ := iterX_get s2; exact Heap.lt_size q
      rw [upd_ne (Nat.ne_of_lt lt)]
      exact (hf c hcm).1
  done := by
    intro X hP hw hK hc i pins s σ H E I hf st hg
    subst hP hw hK
    obtain ⟨hz, hTI, ⟨x0, y0, hTO⟩, s1, s2⟩ := st
    obtain ⟨xs, ys, qx, qy, l1, l2, le⟩ := hg
    obtain ⟨j1, r1, p1⟩ := sqX_is I qx
    obtain ⟨j2, r2, p2⟩ := sqX_is I qy
    have m1 := r1.length
    have m2 := r2.length
    have D1 := drawX (prog := X.prog) (w := X.w) (A := X.A.in1) (I.ok.hd hc) t i1 a na j1.toArray
    have D2 := drawX (prog := X.prog) (w := X.w) (A := X.A.in1) (I.ok.hd hc) t' i2 b nb j2.toArray
    exact wpAny_pyNext_zipD2_end S D1 D2 hz hTI hTO ⟨s1, p1⟩ ⟨s2, p2⟩ (by simp; omega) (by simp; omega) (by simp; omega) fun g tk gk => ⟨rfl, I.turnedL (t' := tk) (ch := [z, TI, TO, i1, i2]) (fun c o hb q =>
      gk c o (fun m => hb (by simp [m])) (fun m => hb (by simp [m])) (fun m => hb (by simp [m])) (fun m => hb (by simp [m])) q) hf⟩
  self := fun A i s Q E st h => wpAny_pyIter_zip st.1 h
def objX (t : Bool) (a : Addr) : Obj := if t then { cls := .type "tuple_iterator", data := .fields #[.ref a, .int 0 0] } else { cls := .type "list_iterator", data := .fields #[.ref a, .int 0 0] }
theorem beginsX (t : Bool) (a : Addr) (its : Array Value) : Begins (.ref a) (objX t a) fun h => IsX t h a its := by
  cases t
  · exact begins_list a its
  · exact begins_tuple a its
theorem iterX_new {t : Bool} {h : Heap} {it a : Addr} (e : h.get? it = some (objX t a)) : IterX t h it a 0 := by
  cases t
  · exact ⟨_, e, rfl, rfl⟩
  · exact ⟨_, e, rfl, rfl⟩
def iZipX (K : PySem.W.Frag) (ta : TA) : TI := fun σ H R => ta σ H fun vs H1 => ∃ t t' a b xs ys, vs = [.ref a, .ref b] ∧ SqX t K H1 a xs ∧ SqX t' K H1 b ys ∧ R (ItzX t t' K a b) H1
theorem pi_zipX {X : Cx} {e e2 : Expr} {ta : TA} {p pos tpos : Pos} {elts : List Expr} {kk : Nat} (hg : Gl X "zip") (hm : X.mg "zip" = none) (ha : PA X [e, e2] ta)
    (hs : starEach [e, e2] X.env = (false, eval e X.env) :: starEach [e2] X.env := by rfl) (hpl : (backTo pos (starEach [e2] X.env)).any (·.1) = false := by rfl) :
    PI X (.Tuple elts kk tpos) (.Call (.Name "zip" p) [e, e2] [] pos) (iZipX X.K ta) := by
  constructor
  intro pins s σ H R I h
  refine Call_ (ld_blt I hg hm PyProof.Rows.boot_zip (PyProof.Rows.callWith_type1 (thn (ha.run pos pins s σ H _ I h) fun us s1 ⟨vs, H1, I1, r1, t, t', a, b, xs, ys, ex, qx, qy, q⟩ => ?_) hs hpl))
  subst ex
  obtain ⟨u, u', rfl, ru, ru'⟩ := L2.vals2 r1
  cases (show u = Value.ref a from ru)
  cases (show u' = Value.ref b from ru')
  obtain ⟨j1, r1, p1⟩ := sqX_is I1 qx
  obtain ⟨j2, r2, p2⟩ := sqX_is I1 qy
  have l1 := isX_lt p1
  have l2 := isX_lt p2
  refine zip_begins2 (beginsX t a j1.toArray) (beginsX t' b j2.toArray) p1 p2 fun g gz gTI gTO g1 g2 gsz gk => wpAny_pyIter_zip gz ?_
  have S := zip_sep2 (N := s1.heap.objs.size) (fp1 := [a]) (fp2 := [b]) (fun c hc => by rw [List.mem_singleton.mp hc]; exact l1) (fun c hc => by rw [List.mem_singleton.mp hc]; exact l2)
  have T := turn_zipX (P := X.prog) (w := X.w) (K := X.K) (elts := elts) (kk := kk) (tpos := tpos) t t' S (Nat.ne_of_lt l1) (Nat.ne_of_lt (Nat.lt_succ_of_lt l2))
  have I2 : Inv X pins σ H1 { s1 with heap := g } := I1.kept (t' := s1.toks) gk
  have fr : ∀ c, c ∈ [s1.heap.objs.size + 4, s1.heap.objs.size + 2, s1.heap.objs.size + 3, s1.heap.objs.size, s1.heap.objs.size + 1] → FpOk X pins H1 c := fun c hcm => by
    have le : s1.heap.objs.size ≤ c := by
      rcases List.mem_cons.mp hcm with rfl | hcm
      · exact Nat.le_add_right _ _
      · rcases List.mem_cons.mp hcm with rfl | hcm
        · exact Nat.le_add_right _ _
        · rcases List.mem_cons.mp hcm with rfl | hcm
          · exact Nat.le_add_right _ _
          · rcases List.mem_cons.mp hcm with rfl | hcm
            · exact Nat.le_refl _
            · rw [List.mem_singleton.mp hcm]; exact Nat.le_add_right _ _
    exact I1.fpOk le (I1.hok.fresh le)
  exact ⟨s1.heap.objs.size + 4, _, _, _, H1, rfl, I2, T, ⟨gz, gTI, ⟨_, _, gTO⟩, iterX_new g1, iterX_new g2⟩, fr, q⟩
end TD

set_option Elab.async false
set_option linter.all false
set_option maxRecDepth 100000
set_option maxHeartbeats 2000000
set_option autoImplicit false
/-! TDt: what loops go through; locked cells. -/
namespace TD
open PySem PySem.Spec PyProof.Rows L2
section
variable {P : Prog} {K : PySem.W.Frag} {bs : List Nat} {G G' : Gh} {H : Hp} {S : Store}
/-- the same store but for locks -/
structure StEq (S S' : Store) : Prop where
  len : S'.length = S.length
  al : ∀ (j : Nat) (c : Cell), S[j]? = some c → S'[j]? = some c ∨ ∃ xs, (c = .lst xs ∧ S'[j]? = some (.lck xs)) ∨ (c = .lck xs ∧ S'[j]? = some (.lst xs))
theorem StEq.refl : StEq S S := ⟨rfl, fun _ _ h => .inl h⟩
theorem StEq.trans {S' S2 : Store} (a : StEq S S') (b : StEq S' S2) : StEq S S2 := by
  refine ⟨b.len.trans a.len, fun j c h => ?_⟩
  rcases a.al j c h with q | ⟨xs, ⟨e0, q⟩ | ⟨e0, q⟩⟩
  · exact b.al j c q
  · subst e0
    rcases b.al j _ q with r | ⟨ys, ⟨e, r⟩ | ⟨e, r⟩⟩
    · exact .inr ⟨xs, .inl ⟨rfl, r⟩⟩
    · cases e
    · cases e; exact .inl r
  · subst e0
    rcases b.al j _ q with r | ⟨ys, ⟨e, r⟩ | ⟨e, r⟩⟩
    · exact .inr ⟨xs, .inr ⟨rfl, r⟩⟩
    · cases e; exact .inl r
    · cases e
theorem StEq.set {k : Nat} {c c' : Cell} {xs : List D} (h : S[k]? = some c) (hc : (c = .lst xs ∧ c' = .lck xs) ∨ (c = .lck xs ∧ c' = .lst xs)) : StEq S (S.set k c') := by
  refine ⟨by simp, fun j d hd => ?_⟩
  by_cases hj : j = k
  · subst hj
    rw [h] at hd; cases hd
    have hl := (List.getElem?_eq_some_iff.mp h).1
    rw [List.getElem?_set_self hl]
    rcases hc with ⟨rfl, rfl⟩ | ⟨rfl, rfl⟩
    · exact .inr ⟨xs, .inl ⟨rfl, rfl⟩⟩
    · exact .inr ⟨xs, .inr ⟨rfl, rfl⟩⟩
  · rw [List.getElem?_set_ne (Ne.symm hj)]
    exact .inl hd
theorem lockS_eq : ∀ (ks : List Nat) (S : Store), StEq S (lockS S ks)
  | [], S => .refl
  | k :: r, S => by
    unfold lockS
    split
    · rename_i xs h; exact (StEq.set h (.inl ⟨rfl, rfl⟩)).trans (lockS_eq r _)
    · exact lockS_eq r S
theorem unlockS_eq : ∀ (ks : List Nat) (S : Store), StEq S (unlockS S ks)
  | [], S => .refl
  | k :: r, S => by
    unfold unlockS
    split
    · rename_i xs h; exact (StEq.set h (.inr ⟨rfl, rfl⟩)).trans (unlockS_eq r _)
    · exact unlockS_eq r S
theorem Sim.alike {S' : Store} (sm : Sim P K bs G S H) (e : StEq S S') : Sim P K bs G S' H := by
  have back : ∀ (k : Nat) (c' : Cell), S'[k]? = some c' → ∃ c, S[k]? = some c ∧ (c' = c ∨ ∃ xs, (c = .lst xs ∧ c' = .lck xs) ∨ (c = .lck xs ∧ c' = .lst xs)) := fun k c' h => by
    have hl : k < S.length := by rw [← e.len]; exact (List.getElem?_eq_some_iff.mp h).1
    have h0 : S[k]? = some S[k] := List.getElem?_eq_getElem hl
    refine ⟨S[k], h0, ?_⟩
    rcases e.al k _ h0 with q | ⟨xs, ⟨e1, q⟩ | ⟨e1, q⟩⟩
    · rw [q] at h; cases h; exact .inl rfl
    · rw [q] at h; cases h; exact .inr ⟨xs, .inl ⟨e1, rfl⟩⟩
    · rw [q] at h; cases h; exact .inr ⟨xs, .inr ⟨e1, rfl⟩⟩
  refine ⟨by rw [e.len]; exact sm.len, sm.nd, sm.nf, fun k a c' h1 h2 => ?_, sm.fzs, sm.pns, fun b hb => ?_⟩
  · obtain ⟨c, h0, rfl | ⟨xs, ⟨rfl, rfl⟩ | ⟨rfl, rfl⟩⟩⟩ := back k c' h2
    · exact sm.cell k a _ h1 h0
    · exact sm.cell k a (.lst xs) h1 h0
    · exact sm.cell k a (.lck xs) h1 h0
  · obtain ⟨l1, l2⟩ := sm.lv b hb
    refine ⟨by rw [e.len]; exact l1, fun k c' hk h2 => ?_⟩
    obtain ⟨c, h0, rfl | ⟨xs, ⟨rfl, rfl⟩ | ⟨rfl, rfl⟩⟩⟩ := back k c' h2
    · exact l2 k _ hk h0
    · exact l2 k (.lst xs) hk h0
    · exact l2 k (.lck xs) hk h0
theorem SX.lock : ∀ (ks : List Nat) (S : Store), SX S (lockS S ks)
  | [], S => .refl
  | k :: r, S => by
    unfold lockS
    split
    · rename_i xs h; exact (SX.set h fun _ z => by cases z).trans (SX.lock r _)
    · exact SX.lock r S
theorem unlock_keeps {j : Nat} {xs : List D} : ∀ {ks : List Nat} {S : Store}, j ∉ ks → S[j]? = some (.lck xs) → (unlockS S ks)[j]? = some (.lck xs)
  | [], S, _, h => h
  | k :: r, S, hj, h => by
    simp only [List.mem_cons, not_or] at hj
    unfold unlockS
    split
    · exact unlock_keeps hj.2 (by rw [List.getElem?_set_ne (Ne.symm hj.1)]; exact h)
    · exact unlock_keeps hj.2 h
theorem openS_lst {j : Nat} : ∀ {ks : List Nat}, j ∈ openS S ks → ∃ xs, S[j]? = some (.lst xs)
  | [], h => by cases h
  | k :: r, h => by
    unfold openS at h
    split at h
    · rename_i xs q
      rcases List.mem_cons.mp h with rfl | h
      · exact ⟨xs, q⟩
      · exact openS_lst h
    · exact openS_lst h
theorem SX.within {ks : List Nat} {S1 : Store} (x : SX (lockS S ks) S1) : SX S (unlockS S1 (openS S ks)) := fun j xs h =>
  unlock_keeps (fun z => by
    obtain ⟨ys, q⟩ := openS_lst z
    rw [h] at q; cases q) (x j xs (SX.lock ks S j xs h))
/-- what is named is locked -/
theorem lock_at {k : Nat} {xs : List D} : ∀ {ks : List Nat} {S : Store}, k ∈ ks → seqL S (.ref k) = some xs → (lockS S ks)[k]? = some (.lck xs)
  | [], _, h, _ => by cases h
  | j :: r, S, h, e => by
    have at0 : S[k]? = some (.lst xs) ∨ S[k]? = some (.lck xs) := by
      simp only [seqL] at e
      split at e
      · rename_i ys q; cases e; exact .inl q
      · rename_i ys q; cases e; exact .inr q
      · cases e
    by_cases hj : k = j
    · subst hj
      unfold lockS
      rcases at0 with q | q
      · rw [q]
        exact SX.lock r _ k xs (by rw [List.getElem?_set_self (List.getElem?_eq_some_iff.mp q).1])
      · rw [q]
        exact SX.lock r S k xs q
    · have hk : k ∈ r := (List.mem_cons.mp h).resolve_left hj
      unfold lockS
      split
      · rename_i ys q
        exact lock_at hk (by simp only [seqL, List.getElem?_set_ne (Ne.symm hj)]; simpa only [seqL] using e)
      · exact lock_at hk e
/-- J goes through ds -/
structure Goes (P : Prog) (K : PySem.W.Frag) (bs : List Nat) (J : It) (G : Gh) (H : Hp) (S : Store) (ds : List D) : Prop where
  step : ∀ (i : Nat) (d : D) (G' : Gh) (H' : Hp) (S' : Store), ds[i]? = some d → Ext G.loose H G'.loose H' → SX S S' → Sim P K bs G' S' H' → J.go i H' ∧ ∀ x H2, J.yld i H' x H2 → ∃ G2, Ext G' H' G2 H2 ∧ Sim P K bs G2 S' H2 ∧ Rep P K G2 H2 x d
  stop : ∀ (G' : Gh) (H' : Hp) (S' : Store), Ext G.loose H G'.loose H' → SX S S' → Sim P K bs G' S' H' → J.stop ds.length H'
/-- a list that is read by a loop -/
def RdL (P : Prog) (K : PySem.W.Frag) (bs : List Nat) (a : Addr) (G : Gh) (H : Hp) (S : Store) (ds : List D) : Prop := ∀ (G' : Gh) (H' : Hp) (S' : Store), Ext G.loose H G'.loose H' → SX S S' → Sim P K bs G' S' H' → ∃ vs, SqL K H' a vs ∧ RepL P K G' H' vs ds
def RdT (P : Prog) (K : PySem.W.Frag) (bs : List Nat) (a : Addr) (G : Gh) (H : Hp) (S : Store) (ds : List D) : Prop := ∀ (G' : Gh) (H' : Hp) (S' : Store), Ext G.loose H G'.loose H' → SX S S' → Sim P K bs G' S' H' → ∃ vs, SqT K H' a vs ∧ RepL P K G' H' vs ds
theorem rdL_of {v : V} {d : D} {xs : List D} {ks : List Nat} (r : Rep P K G H v d) (e : seqL S d = some xs) (hk : ∀ k, d = .ref k → k ∈ ks) : ∃ a, v = .ref a ∧ RdL P K bs a G H (lockS S ks) xs := by
  cases r with
  | lst s l r =>
    simp only [seqL] at e; cases e
    exact ⟨_, rfl, fun G' H' S' e' x' sm' => ⟨_, LstF.sq (G := G'.loose) (LstF.ext e' s), (RepL.ext e' r.loose).tight⟩⟩
  | @ref p k h =>
    have q := lock_at (hk k rfl) e
    refine ⟨p, rfl, fun G' H' S' e' x' sm' => ?_⟩
    obtain ⟨vs, q1, q2, q3⟩ := sm'.cell k p _ (Ext.at_ (G := G.loose) (G' := G'.loose) e' h) (x' k xs q)
    exact ⟨vs, .inl (.inl q1), q3⟩
  | _ => simp [seqL] at e
theorem rdT_of {v : V} {xs : List D} {S : Store} (r : Rep P K G H v (.tup xs)) : ∃ a, v = .ref a ∧ RdT P K bs a G H S xs := by
  cases r with
  | tup s l r => exact ⟨_, rfl, fun G' H' S' e' x' sm' => ⟨_, SqT.ext e' s, (RepL.ext e' r.loose).tight⟩⟩
theorem goes_list {a : Addr} {ds : List D} (h : RdL P K bs a G H S ds) : Goes P K bs (Itl K a) G H S ds := by
  refine ⟨fun i d G' H' S' e x y sm => ?_, fun G' H' S' x y sm => ?_⟩
  · obtain ⟨vs, q, r⟩ := h G' H' S' x y sm
    obtain ⟨v, ev, rv⟩ := r.get e
    refine ⟨⟨vs, v, q, ev⟩, fun z H2 hy => ?_⟩
    obtain ⟨rfl, hy⟩ := hy
    have := hy vs q
    rw [ev] at this; cases this
    exact ⟨G', .refl, sm, rv⟩
  · obtain ⟨vs, q, r⟩ := h G' H' S' x y sm
    exact ⟨vs, q, by rw [r.length]; exact Nat.le_refl _⟩
theorem goes_tup {a : Addr} {ds : List D} (h : RdT P K bs a G H S ds) : Goes P K bs (Itt K a) G H S ds := by
  refine ⟨fun i d G' H' S' e x y sm => ?_, fun G' H' S' x y sm => ?_⟩
  · obtain ⟨vs, q, r⟩ := h G' H' S' x y sm
    obtain ⟨v, ev, rv⟩ := r.get e
    refine ⟨⟨vs, v, q, ev⟩, fun z H2 hy => ?_⟩
    obtain ⟨rfl, hy⟩ := hy
    have := hy vs q
    rw [ev] at this; cases this
    exact ⟨G', .refl, sm, rv⟩
  · obtain ⟨vs, q, r⟩ := h G' H' S' x y sm
    exact ⟨vs, q, by rw [r.length]; exact Nat.le_refl _⟩
theorem goes_str {z : Str} : Goes P K bs (Its z) G H S (z.cps.toList.map fun ch => .str ⟨#[ch]⟩) := by
  refine ⟨fun i d G' H' S' e x y sm => ?_, fun G' H' S' x y sm => ?_⟩
  · rw [List.getElem?_map] at e
    obtain ⟨ch, e1, rfl⟩ := Option.map_eq_some_iff.mp e
    have e2 : z.cps[i]? = some ch := by rw [← Array.getElem?_toList]; exact e1
    have hi : i < z.cps.size := (Array.getElem?_eq_some_iff.mp e2).1
    refine ⟨hi, fun v H2 hy => ?_⟩
    obtain ⟨rfl, ch', e3, rfl⟩ := hy
    rw [e2] at e3; cases e3
    exact ⟨G', .refl, sm, .str _⟩
  · show z.cps.size ≤ _
    simp
theorem goes_range {lo : Int} {n : Nat} : Goes P K bs (Itr lo n) G H S ((List.range n).map fun (i : Nat) => D.int (lo + (i : Int))) := by
  refine ⟨fun i d G' H' S' e x y sm => ?_, fun G' H' S' x y sm => ?_⟩
  · rw [List.getElem?_map] at e
    obtain ⟨j, e1, rfl⟩ := Option.map_eq_some_iff.mp e
    obtain ⟨hi, e2⟩ := List.getElem?_eq_some_iff.mp e1
    rw [List.length_range] at hi
    rw [List.getElem_range] at e2
    subst e2
    refine ⟨hi, fun v H2 hy => ?_⟩
    obtain ⟨rfl, rfl⟩ := hy
    exact ⟨G', .refl, sm, .int _⟩
  · show n ≤ _
    simp
theorem goes_rangeC {lo c : Int} {n : Nat} : Goes P K bs (Itc lo c n) G H S ((List.range n).map fun (i : Nat) => D.int (lo + (i : Int) * c)) := by
  refine ⟨fun i d G' H' S' e x y sm => ?_, fun G' H' S' x y sm => ?_⟩
  · rw [List.getElem?_map] at e
    obtain ⟨j, e1, rfl⟩ := Option.map_eq_some_iff.mp e
    obtain ⟨hi, e2⟩ := List.getElem?_eq_some_iff.mp e1
    rw [List.length_range] at hi
    rw [List.getElem_range] at e2
    subst e2
    refine ⟨hi, fun v H2 hy => ?_⟩
    obtain ⟨rfl, rfl⟩ := hy
    exact ⟨G', .refl, sm, .int _⟩
  · show n ≤ _
    simp
/-- a new pair -/
theorem pair_new {G' : Gh} {H' : Hp} {S' : Store} {T : Addr} {x y : V} {d e : D} (sm : Sim P K bs G' S' H') (hT : H' T = none) (rx : Rep P K G' H' x d) (ry : Rep P K G' H' y e) :
    ∃ G2, Ext G' H' G2 (upd H' T (.tup [x, y])) ∧ Sim P K bs G2 S' (upd H' T (.tup [x, y])) ∧ Rep P K G2 (upd H' T (.tup [x, y])) (.ref T) (.tup [d, e]) := by
  have e1 := Ext.fresh (o := .tup [x, y]) sm hT
  exact ⟨G', e1, sm.fresh hT, .tup (.inl (.inl upd_same)) (by simp [szl]) (.cons (rx.ext e1) (.cons (ry.ext e1) .nil))⟩
theorem goes_enum {a : Addr} {ds : List D} (h : RdL P K bs a G H S ds) : Goes P K bs (Ite K a) G H S (ds.mapIdx fun i x => .tup [.int i, x]) := by
  refine ⟨fun i d G' H' S' e x y sm => ?_, fun G' H' S' x y sm => ?_⟩
  · rw [List.getElem?_mapIdx] at e
    obtain ⟨d0, e0, rfl⟩ := Option.map_eq_some_iff.mp e
    obtain ⟨vs, q, r⟩ := h G' H' S' x y sm
    obtain ⟨v, ev, rv⟩ := r.get e0
    refine ⟨⟨vs, v, q, ev⟩, fun z H2 hy => ?_⟩
    obtain ⟨T, x', rfl, hT, rfl, hy⟩ := hy
    have := hy vs q
    rw [ev] at this; cases this
    exact pair_new sm hT (.int _) rv
  · obtain ⟨vs, q, r⟩ := h G' H' S' x y sm
    exact ⟨vs, q, by rw [r.length, List.length_mapIdx]; exact Nat.le_refl _⟩
theorem goes_enumT {a : Addr} {ds : List D} (h : RdT P K bs a G H S ds) : Goes P K bs (Itet K a) G H S (ds.mapIdx fun i x => .tup [.int i, x]) := by
  refine ⟨fun i d G' H' S' e x y sm => ?_, fun G' H' S' x y sm => ?_⟩
  · rw [List.getElem?_mapIdx] at e
    obtain ⟨d0, e0, rfl⟩ := Option.map_eq_some_iff.mp e
    obtain ⟨vs, q, r⟩ := h G' H' S' x y sm
    obtain ⟨v, ev, rv⟩ := r.get e0
    refine ⟨⟨vs, v, q, ev⟩, fun z H2 hy => ?_⟩
    obtain ⟨T, x', rfl, hT, rfl, hy⟩ := hy
    have := hy vs q
    rw [ev] at this; cases this
    exact pair_new sm hT (.int _) rv
  · obtain ⟨vs, q, r⟩ := h G' H' S' x y sm
    exact ⟨vs, q, by rw [r.length, List.length_mapIdx]⟩
theorem zipWith_get {α β γ : Type} {f : α → β → γ} {xs : List α} {ys : List β} {i : Nat} {z : γ} (e : (List.zipWith f xs ys)[i]? = some z) : ∃ x y, xs[i]? = some x ∧ ys[i]? = some y ∧ z = f x y := by
  rw [List.getElem?_zipWith] at e
  split at e
  · rename_i a b h1 h2; cases e; exact ⟨_, _, h1, h2, rfl⟩
  · cases e
/-- a list or a tuple that stands -/
def RdX (t : Bool) (P : Prog) (K : PySem.W.Frag) (bs : List Nat) (a : Addr) (G : Gh) (H : Hp) (S : Store) (ds : List D) : Prop := ∀ (G' : Gh) (H' : Hp) (S' : Store), Ext G.loose H G'.loose H' → SX S S' → Sim P K bs G' S' H' → ∃ vs, SqX t K H' a vs ∧ RepL P K G' H' vs ds
theorem rdX_of {v : V} {d : D} {xs : List D} {ks : List Nat} (sm : Sim P K bs G S H) (r : Rep P K G H v d) (e : seqA S d = some xs) (hk : ∀ k, d = .ref k → k ∈ ks) : ∃ t a vs, v = .ref a ∧ SqX t K H a vs ∧ RdX t P K bs a G H (lockS S ks) xs := by
  cases d with
  | tup ys =>
    simp only [seqA] at e; cases e
    obtain ⟨a, rfl, h⟩ := rdT_of (bs := bs) (S := lockS S ks) r
    obtain ⟨p, vs, z, s, _⟩ := repT r
    cases z
    exact ⟨true, a, vs, rfl, s, h⟩
  | lst ys =>
    have e : seqL S (.lst ys) = some xs := e
    obtain ⟨a, rfl, h⟩ := rdL_of (bs := bs) r e hk
    obtain ⟨p, vs, z, s, _⟩ := seqL_rep sm r e
    cases z
    exact ⟨false, a, vs, rfl, .inl s, h⟩
  | ref k =>
    have e : seqL S (.ref k) = some xs := e
    obtain ⟨a, rfl, h⟩ := rdL_of (bs := bs) r e hk
    obtain ⟨p, vs, z, s, _⟩ := seqL_rep sm r e
    cases z
    exact ⟨false, a, vs, rfl, .inl s, h⟩
  | _ => simp [seqA, seqL] at e
theorem goes_zipX {t t' : Bool} {a b : Addr} {ds es : List D} (h : RdX t P K bs a G H S ds) (h' : RdX t' P K bs b G H S es) : Goes P K bs (ItzX t t' K a b) G H S (List.zipWith (fun x y => .tup [x, y]) ds es) := by
  refine ⟨fun i d G' H' S' e x y sm => ?_, fun G' H' S' x y sm => ?_⟩
  · obtain ⟨d1, d2, e1, e2, rfl⟩ := zipWith_get e
    obtain ⟨vs, q, r⟩ := h G' H' S' x y sm
    obtain ⟨v, ev, rv⟩ := r.get e1
    obtain ⟨ws, q', r'⟩ := h' G' H' S' x y sm
    obtain ⟨w, ew, rw'⟩ := r'.get e2
    refine ⟨⟨vs, ws, v, w, q, q', ev, ew⟩, fun z H2 hy => ?_⟩
    obtain ⟨T, x', y', rfl, hT, rfl, hy, hy'⟩ := hy
    have t1 := hy vs q
    rw [ev] at t1; cases t1
    have t2 := hy' ws q'
    rw [ew] at t2; cases t2
    exact pair_new sm hT rv rw'
  · obtain ⟨vs, q, r⟩ := h G' H' S' x y sm
    obtain ⟨ws, q', r'⟩ := h' G' H' S' x y sm
    refine ⟨vs, ws, q, q', ?_⟩
    rw [r.length, r'.length, List.length_zipWith]; omega
theorem rev_get {α : Type} {xs : List α} {i : Nat} {d : α} (e : xs.reverse[i]? = some d) : i < xs.length ∧ xs[xs.length - 1 - i]? = some d := by
  have hi : i < xs.length := by
    have := (List.getElem?_eq_some_iff.mp e).1
    simpa using this
  rw [List.getElem?_reverse hi] at e
  exact ⟨hi, e⟩
theorem goes_rev {a : Addr} {ds : List D} (h : RdL P K bs a G H S ds) : Goes P K bs (Itv K a ds.length) G H S ds.reverse := by
  refine ⟨fun i d G' H' S' e x y sm => ?_, fun G' H' S' x y sm => ?_⟩
  · obtain ⟨hi, e⟩ := rev_get e
    obtain ⟨vs, q, r⟩ := h G' H' S' x y sm
    obtain ⟨v, ev, rv⟩ := r.get e
    refine ⟨⟨hi, vs, v, q, ev⟩, fun z H2 hy => ?_⟩
    obtain ⟨rfl, hy⟩ := hy
    have := hy vs q
    rw [ev] at this; cases this
    exact ⟨G', .refl, sm, rv⟩
  · show ds.length ≤ _
    simp
theorem goes_revT {a : Addr} {ds : List D} (h : RdT P K bs a G H S ds) : Goes P K bs (RT.ItvT K a ds.length) G H S ds.reverse := by
  refine ⟨fun i d G' H' S' e x y sm => ?_, fun G' H' S' x y sm => ?_⟩
  · obtain ⟨hi, e⟩ := rev_get e
    obtain ⟨vs, q, r⟩ := h G' H' S' x y sm
    obtain ⟨v, ev, rv⟩ := r.get e
    refine ⟨⟨hi, vs, v, q, ev⟩, fun z H2 hy => ?_⟩
    obtain ⟨rfl, hy⟩ := hy
    have := hy vs q
    rw [ev] at this; cases this
    exact ⟨G', .refl, sm, rv⟩
  · show ds.length ≤ _
    simp
end
end TD

set_option Elab.async false
set_option linter.all false
set_option maxRecDepth 100000
set_option maxHeartbeats 2000000
set_option autoImplicit false
/-! TDu: stores to targets; the iterators of a for. -/
namespace TD
open PySem PySem.Spec PyProof.Rows L2
/-! ### forms of expressions -/
theorem star_cons {e : Expr} {es : List Expr} {env : Env} (h : notStar e = true) : starEach (e :: es) env = (false, eval e env) :: starEach es env := by
  cases e <;> first | rfl | cases h
theorem star_all {env : Env} {pos : Pos} : ∀ {es : List Expr}, es.all notStar = true → (backTo pos (starEach es env)).any (·.1) = false
  | [], _ => rfl
  | e :: es, h => by
    simp only [List.all_cons, Bool.and_eq_true] at h
    rw [star_cons h.1]
    show (false || (backTo pos (starEach es env)).any (·.1)) = false
    rw [star_all h.2]; rfl
theorem star_flags {env : Env} {pos : Pos} : ∀ {es : List Expr}, es.all notStar = true → (backTo pos (starEach es env)).all (fun x => !x.1) = true
  | [], _ => rfl
  | e :: es, h => by
    simp only [List.all_cons, Bool.and_eq_true] at h
    rw [star_cons h.1]
    show (!false && (backTo pos (starEach es env)).all (fun x => !x.1)) = true
    rw [star_flags h.2]; rfl
theorem folded_ok {e : Expr} {env : Env} (h : notSet e = true) (x : Value) : foldedSetIterable e env x = pure x := by
  cases e <;> first | rfl | cases h
theorem base_ok {e : Expr} {f : Str} {env : Env} {whole : Sem Value} (h : noSuper e = true) : attributeBase e f env whole = whole := by
  unfold attributeBase
  split
  · rename_i id p pos
    have h' : (id == ("super" : Str)) = false := by simpa [noSuper] using h
    have h2 : (id != ("super" : Str)) = true := by simp [bne, h']
    simp only [h2, Bool.true_or, if_true]
    try rfl
  · rfl
theorem asg_cons {e : Expr} {es : List Expr} {env : Env} (h : notStar e = true) : assignEach (e :: es) env = (false, assign e env) :: assignEach es env := by
  cases e <;> first | rfl | cases h
theorem asg_len {env : Env} : ∀ {es : List Expr}, es.all notStar = true → (assignEach es env).length = es.length ∧ (assignEach es env).findIdx? (·.1) = none
  | [], _ => ⟨rfl, rfl⟩
  | e :: es, h => by
    simp only [List.all_cons, Bool.and_eq_true] at h
    obtain ⟨h1, h2⟩ := asg_len (env := env) h.2
    rw [asg_cons h.1]
    exact ⟨by simp [h1], by simp [List.findIdx?_cons, h2]⟩
/-- where a text runs -/
structure En (X : Cx) (m : MC) : Prop where
  N : X.N = m.N
  sc : X.env.scope = m.sc
  fn : X.fn = m.fn
section
variable {X : Cx} {m : MC} {x : Str}
theorem En.vis (en : En X m) (h : visB m x = true) : Vis X.env.scope x := by
  unfold Vis
  rw [en.sc]
  unfold visB kindB at h
  split at h
  · rename_i q; exact .inl q
  · rename_i q; exact .inr (.inl q)
  · rename_i q; exact .inr (.inr q)
  · cases h
theorem En.loc (en : En X m) (h : locB m x = true) : L2.Loc X.env.scope x ∧ (X.fn x = true ∨ X.env.scope.names.lookup x = some .local) := by
  unfold L2.Loc
  rw [en.sc, en.fn]
  unfold locB kindB at h
  split at h
  · rename_i q; exact ⟨.inl q, .inr q⟩
  · rename_i q; exact ⟨.inr q, .inl h⟩
  · cases h
theorem En.gl (en : En X m) (h : glB m x = true) : Gl X x := by
  show X.env.scope.names.lookup x = some .globalImplicit
  rw [en.sc]
  unfold glB kindB at h
  split at h
  · rename_i q; exact q
  · cases h
theorem plain_ok (h : plainB x = true) : (x == ("__debug__" : Str)) = false ∧ (x == ("__classdict__" : Str)) = false ∧ x ≠ "__name__" := by
  unfold plainB at h
  simp only [Bool.and_eq_true, Bool.not_eq_true'] at h
  exact ⟨h.1.1, h.1.2, fun z => by rw [z] at h; simp at h⟩
end
/-! ### stores -/
theorem mtT_star {m : MC} : ∀ {t : Tg} {es : List Expr}, mtT m t (.many es) = true → es.all notStar = true
  | .nil, [], _ => rfl
  | .cons t r, e :: es, h => by
    simp only [mtT, Bool.and_eq_true] at h
    simp only [List.all_cons, Bool.and_eq_true]
    exact ⟨h.1.1, mtT_star h.2⟩
  | .nm _, es, h => by cases es <;> simp [mtT] at h
  | .nil, _ :: _, h => by simp [mtT] at h
  | .cons _ _, [], h => by simp [mtT] at h
theorem bind_len {m : MC} : ∀ {t : Tg} {es : List Expr} {ds : List D} {σ σ' : Sl}, mtT m t (.many es) = true → bindT t (.tup ds) σ = some σ' → ds.length = es.length
  | .nil, [], ds, σ, σ', _, e => by
    cases ds with
    | nil => rfl
    | cons a b => simp [bindT] at e
  | .cons t r, e0 :: es, ds, σ, σ', h, e => by
    simp only [mtT, Bool.and_eq_true] at h
    cases ds with
    | nil => simp [bindT] at e
    | cons a b =>
      simp only [bindT] at e
      obtain ⟨σ1, e1, e2⟩ := Option.bind_eq_some_iff.mp e
      simp [bind_len h.2 e2]
  | .nm _, es, _, _, _, h, _ => by cases es <;> simp [mtT] at h
  | .nil, _ :: _, _, _, _, h, _ => by simp [mtT] at h
  | .cons _ _, [], _, _, _, h, _ => by simp [mtT] at h
section
variable {P : Prog} {K : PySem.W.Frag}
theorem wipe_in {σ : L2.St} {i : Nat} {v : Option V} : ∀ {ws : List Nat}, i ∈ ws → wipe (σ.set i v) ws = wipe σ ws
  | w :: ws, h => by
    unfold wipe
    by_cases hw : i ∈ ws
    · rw [wipe_in hw]
    · have e : i = w := by rcases List.mem_cons.mp h with h | h; exact h; exact (hw h).elim
      subst e
      have : wipe (σ.set i v) ws = (wipe σ ws).set i v := by
        clear h
        induction ws with
        | nil => rfl
        | cons x xs ih =>
          simp only [List.mem_cons, not_or] at hw
          unfold wipe
          rw [ih hw.2, List.set_comm _ _ hw.1]
      rw [this, List.set_set]
  | [], h => by cases h
def gT (P : Prog) (K : PySem.W.Frag) (t : Tg) : TG := fun v σL H Q => ∃ G σ d σ', StR P K G H σ σL ∧ Rep P K G H v d ∧ bindT t d σ = some σ' ∧ ∀ σL', StR P K G H σ' σL' → (∀ ws, tgInB t ws = true → wipe σL' ws = wipe σL ws) → Q σL' H
def gTs (P : Prog) (K : PySem.W.Frag) (t : Tg) : TGs := fun vs σL H Q => ∃ G σ ds σ', StR P K G H σ σL ∧ RepL P K G H vs ds ∧ bindT t (.tup ds) σ = some σ' ∧ ∀ σL', StR P K G H σ' σL' → (∀ ws, tgInB t ws = true → wipe σL' ws = wipe σL ws) → Q σL' H
theorem PG.mono {X : Cx} {e : Expr} {g g' : TG} (h : PG X e g) (hm : ∀ v σ H Q, g' v σ H Q → g v σ H Q) : PG X e g' := ⟨fun pins s σ H v u Q I r q => h.run pins s σ H v u Q I r (hm _ _ _ _ q)⟩
theorem PGs.mono {X : Cx} {e : List Expr} {g g' : TGs} (h : PGs X e g) (hm : ∀ v σ H Q, g' v σ H Q → g v σ H Q) : PGs X e g' := ⟨fun pins s σ H v u Q I r q => h.run pins s σ H v u Q I r (hm _ _ _ _ q)⟩
theorem PG.or {X : Cx} {e : Expr} {g g' : TG} (h : PG X e g) (h' : PG X e g') : PG X e (fun v σ H Q => g v σ H Q ∨ g' v σ H Q) := ⟨fun pins s σ H v u Q I r q => q.elim (fun q => h.run pins s σ H v u Q I r q) (fun q => h'.run pins s σ H v u Q I r q)⟩
theorem tg_ok {X : Cx} {m : MC} (en : En X m) (hc : X.calm = true) (nd : X.N.Nodup) : ∀ (t : Tg), (∀ e, mtT m t (.one e) = true → PG X e (gT P X.K t)) ∧ (∀ es, mtT m t (.many es) = true → PGs X es (gTs P X.K t))
  | .nm i => by
    refine ⟨fun e h => ?_, fun es h => by cases es <;> simp [mtT] at h⟩
    cases e with
    | Name x pos =>
      simp only [mtT, Bool.and_eq_true, decide_eq_true_eq] at h
      obtain ⟨l1, l2⟩ := en.loc h.2
      refine PG.mono (pg_name nd (by rw [en.N]; exact h.1) l1 l2) fun v σ H Q q => ?_
      obtain ⟨G, σ0, d, σ', st, r, e, k⟩ := q
      simp only [bindT] at e
      cases e
      exact k _ (st.set r) fun ws h => wipe_in (by simpa [tgInB] using h)
    | _ => simp [mtT] at h
  | .nil => by
    refine ⟨fun e h => ?_, fun es h => ?_⟩
    · cases e with
      | Tuple es k pos =>
        cases es with
        | nil =>
          refine PG.mono (pg_tup (n := 0) hc pgs_nil rfl rfl) fun v σ H Q q => ?_
          obtain ⟨G, σ0, d, σ', st, r, e, k⟩ := q
          cases r with
          | tup s l r =>
            rename_i a xs ds
            cases ds with
            | nil =>
              simp only [bindT] at e
              cases e
              cases r
              exact ⟨a, [], rfl, s, rfl, rfl, k _ st fun _ _ => rfl⟩
            | cons _ _ => simp [bindT] at e
          | _ => simp [bindT] at e
        | cons _ _ => simp [mtT] at h
      | _ => simp [mtT] at h
    · cases es with
      | nil =>
        refine PGs.mono pgs_nil fun v σ H Q q => ?_
        obtain ⟨G, σ0, ds, σ', st, r, e, k⟩ := q
        cases ds with
        | nil =>
          simp only [bindT] at e
          cases e; cases r
          exact ⟨rfl, k _ st fun _ _ => rfl⟩
        | cons _ _ => simp [bindT] at e
      | cons _ _ => simp [mtT] at h
  | .cons t r => by
    have i1 := tg_ok en hc nd t
    have i2 := tg_ok en hc nd r
    have many : ∀ es, mtT m (.cons t r) (.many es) = true → PGs X es (gTs P X.K (.cons t r)) := fun es h => by
      cases es with
      | nil => simp [mtT] at h
      | cons e es =>
        simp only [mtT, Bool.and_eq_true] at h
        refine PGs.mono (pgs_cons (i1.1 e h.1.2) (i2.2 es h.2) (by rw [asg_cons h.1.1]; rfl)) fun vs σ H Q q => ?_
        obtain ⟨G, σ0, ds, σ', st, rr, e, k⟩ := q
        cases ds with
        | nil => simp [bindT] at e
        | cons d ds =>
          cases rr with
          | cons r1 r2 =>
            simp only [bindT] at e
            obtain ⟨σ1, e1, e2⟩ := Option.bind_eq_some_iff.mp e
            exact ⟨_, _, rfl, G, σ0, d, σ1, st, r1, e1, fun σL' st' w1 => ⟨G, σ1, ds, σ', st', r2, e2, fun σL2 st2 w2 => k σL2 st2 fun ws h => by
              simp only [tgInB, Bool.and_eq_true] at h
              rw [w2 ws h.2, w1 ws h.1]⟩⟩
    refine ⟨fun e h => ?_, many⟩
    cases e with
    | Tuple es k pos =>
      cases es with
      | nil => simp [mtT] at h
      | cons e es =>
        have hm : mtT m (.cons t r) (.many (e :: es)) = true := by simpa only [mtT] using h
        obtain ⟨a1, a2⟩ := asg_len (env := X.env) (mtT_star hm)
        refine PG.mono (PG.or (pg_tup hc (many _ hm) a1 a2) (pg_unl hc (many _ hm) a1 a2)) fun v σ H Q q => ?_
        obtain ⟨G, σ0, d, σ', st, rr, e1, k⟩ := q
        cases rr with
        | tup s l r1 => exact .inl ⟨_, _, rfl, s, by rw [r1.length]; exact bind_len hm e1, G, σ0, _, σ', st, r1, e1, k⟩
        | lst s l r1 =>
          rename_i a xs ds
          have e2 : bindT (.cons t r) (.tup ds) σ0 = some σ' := by
            cases ds with
            | nil => simp [bindT] at e1
            | cons d ds => simpa only [bindT] using e1
          exact .inr ⟨_, _, rfl, s.sq, by rw [r1.length]; exact bind_len hm e2, G, σ0, _, σ', st, r1, e2, k⟩
        | _ => simp [bindT] at e1
    | _ => simp [mtT] at h
end
/-! ### iterators -/
def upT (ta : TA) : TA := fun σ H Q => ∃ Q0, ta σ H Q0 ∧ ∀ vs H', Q0 vs H' → Q vs H'
def upE (te : TE) : TE := fun σ H Q => ∃ Q0, te σ H Q0 ∧ ∀ v H', Q0 v H' → Q v H'
section
variable {X : Cx} {c : Cn} {bs : List Nat} {k : Nat} {m : MC}
theorem pa_up {es : List Expr} {ta : TA} (h : PA X es ta) : PA X es (upT ta) := ⟨fun pos pins s σ H Q I q => by
  obtain ⟨Q0, q1, q2⟩ := q
  exact thn (h.run pos pins s σ H Q0 I q1) fun us s' ⟨vs, H', I', r, z⟩ => ⟨vs, H', I', r, q2 _ _ z⟩⟩
theorem pe_up {e : Expr} {te : TE} (h : PE X e te) : PE X e (upE te) := ⟨fun pins s σ H Q I q => by
  obtain ⟨Q0, q1, q2⟩ := q
  exact thn (h.run pins s σ H Q0 I q1) fun us s' ⟨vs, H', I', r, z⟩ => ⟨vs, H', I', r, q2 _ _ z⟩⟩
theorem PI.mono {tg it : Expr} {wi wi' : TI} (h : PI X tg it wi) (hm : ∀ σ H R, wi' σ H R → wi σ H R) : PI X tg it wi' := ⟨fun pins s σ H R I q => h.run pins s σ H R I (hm _ _ _ q)⟩
/-- a value that is walked: a list, a tuple, a text -/
def iVal (K : PySem.W.Frag) (te : TE) : TI := fun σ H R => te σ H fun x H1 => (∃ a, x = .ref a ∧ (∃ xs, SqL K H1 a xs) ∧ R (Itl K a) H1) ∨ (∃ a, x = .ref a ∧ (∃ xs, SqT K H1 a xs) ∧ R (Itt K a) H1) ∨ ∃ z, x = .str z ∧ R (Its z) H1
theorem pi_val {tg e : Expr} {te : TE} (he : PE X e te) : PI X tg e (iVal X.K te) := by
  constructor
  intro pins s σ H R I h
  apply thn (he.run pins s σ H _ I h)
  rintro v s1 ⟨x, H1, I1, r1, q⟩
  rcases q with ⟨a, rfl, ⟨xs, hq⟩, q⟩ | ⟨a, rfl, ⟨xs, hq⟩, q⟩ | ⟨z, rfl, q⟩
  · cases r1
    obtain ⟨its, rv, p, hz⟩ := I1.list hq
    exact wpAny_pyIter_list p.isList (pi_one (tk := s1.toks) I1 _ (turn_list a _) ⟨_, Heap.get?_push_size _ rfl, rfl, rfl⟩ q)
  · cases r1
    obtain ⟨its, rv, p, hz⟩ := I1.tuple hq
    exact wpAny_pyIter_tuple (show s1.heap.IsTuple a its.toArray from p) (pi_one (tk := s1.toks) I1 _ (turn_tuple a _) ⟨_, Heap.get?_push_size _ rfl, rfl, rfl⟩ q)
  · obtain ⟨t, rfl⟩ := r1
    cases ha : z.cps.all (· < 128) with
    | false => exact wpAny_pyIter_wide ha (pi_one (tk := s1.toks) I1 _ (turn_str _ z t "str_iterator" (.inr rfl)) ⟨_, Heap.get?_push_size _ rfl, rfl, rfl⟩ q)
    | true => exact wpAny_pyIter_ascii ha (pi_one (tk := s1.toks) I1 _ (turn_str _ z t "str_ascii_iterator" (.inl rfl)) ⟨_, Heap.get?_push_size _ rfl, rfl, rfl⟩ q)
/-- by values -/
def WD (c : Cn) (K : PySem.W.Frag) (bs : List Nat) (it : ItK) (vs : List V) (H : Hp) (R : It → Hp → Prop) : Prop := ∃ G S as items, Sim c.P K bs G S H ∧ RepL c.P K G H vs as ∧ itemsOf it as S = some items ∧ ∀ J, Goes c.P K bs J G H (lockS S (refsOf as)) items → R J H
theorem refs_mem {k : Nat} : ∀ {as : List D}, D.ref k ∈ as → k ∈ refsOf as
  | a :: as, h => by
    rcases List.mem_cons.mp h with rfl | h
    · exact List.mem_cons_self
    · have := refs_mem h
      cases a <;> first | exact this | exact List.mem_cons_of_mem _ this
theorem args1 {vs : List V} {us : List V} : True := trivial
theorem pi_kind_val (gd : Gd X c bs k) {tg e : Expr} {te : TE} (he : PE X e te) : PI X tg e (fun σ H R => te σ H fun v H1 => WD c X.K bs .val [v] H1 R) := by
  refine PI.mono (pi_val (pe_up he)) fun σ H R q => ⟨_, q, fun v H1 w => ?_⟩
  obtain ⟨G, S, as, items, sm, ra, e1, hR⟩ := w
  match as, ra with
  | [d], ra =>
    cases ra with
    | cons rv t =>
      cases rv with
      | str z =>
        simp only [itemsOf] at e1
        cases e1
        exact .inr (.inr ⟨z, rfl, hR _ goes_str⟩)
      | @tup a xs ds s l r =>
        simp only [itemsOf, seqA] at e1
        obtain ⟨a', e2, h⟩ := rdT_of (bs := bs) (S := lockS S (refsOf [D.tup ds])) (Rep.tup s l r)
        cases e2
        cases e1
        exact .inr (.inl ⟨a, rfl, ⟨xs, s⟩, hR _ (goes_tup h)⟩)
      | @lst a xs ds s l r =>
        simp only [itemsOf, seqA] at e1
        obtain ⟨a', e2, h⟩ := rdL_of (bs := bs) (ks := refsOf [D.lst ds]) (Rep.lst s l r) e1 fun k z => by cases z
        cases e2
        exact .inl ⟨a, rfl, ⟨xs, s.sq⟩, hR _ (goes_list h)⟩
      | @ref a j hj =>
        simp only [itemsOf, seqA] at e1
        obtain ⟨a', e2, h⟩ := rdL_of (bs := bs) (ks := refsOf [D.ref j]) (Rep.ref hj) e1 fun k z => by cases z; exact refs_mem (by simp)
        cases e2
        obtain ⟨p, vs, e3, q1, _⟩ := seqL_rep sm (Rep.ref hj) e1
        cases e3
        exact .inl ⟨a, rfl, ⟨vs, .inl q1⟩, hR _ (goes_list h)⟩
      | _ => simp [itemsOf, seqA, seqL] at e1
theorem rg_ok {a b : Int} (h : rgOk a b = true) : -(2 ^ 62) ≤ a ∧ a < 2 ^ 62 ∧ -(2 ^ 62) ≤ b ∧ b < 2 ^ 62 := by
  unfold rgOk at h
  simp only [Bool.and_eq_true, decide_eq_true_eq] at h
  exact h.1
/-- range(..) -/
theorem pi_kind_range (gd : Gd X c bs k) {tg : Expr} {es : List Expr} {p pos : Pos} {ta : TA} (hg : Gl X "range") (hs : es.all notStar = true) (ha : PA X es ta) (hn : es.length = 1 ∨ es.length = 2 ∨ es.length = 3) :
    PI X tg (.Call (.Name "range" p) es [] pos) (fun σ H R => ta σ H fun vs H1 => vs.length = es.length ∧ WD c X.K bs .range vs H1 R) := by
  have hm := gd.bn "range" (by simp [bnames])
  match es, hs, ha, hn with
  | [a], hs, ha, _ =>
    simp only [List.all_cons, Bool.and_eq_true] at hs
    refine PI.mono (pi_range1 hg hm (pa_up ha) (by rw [star_cons hs.1]; rfl)) fun σ H R q => ⟨_, q, fun vs H1 w => ?_⟩
    obtain ⟨hl, G, S, as, items, sm, ra, e1, hR⟩ := w
    have hl2 := ra.length
    rw [hl] at hl2
    match as, ra, hl2 with
    | [d], ra, _ =>
      cases ra with
      | cons rv t =>
        cases t
        cases rv with
        | int b =>
          simp only [itemsOf] at e1
          split at e1
          · rename_i hr
            cases e1
            obtain ⟨_, _, h1, h2⟩ := rg_ok hr
            refine ⟨b, rfl, h1, h2, hR _ ?_⟩
            have := goes_range (P := c.P) (K := X.K) (bs := bs) (G := G) (H := H1) (S := lockS S (refsOf [D.int b])) (lo := 0) (n := b.toNat)
            unfold rangeL
            simpa using this
          · cases e1
        | _ => simp [itemsOf] at e1
  | [a, b], hs, ha, _ =>
    simp only [List.all_cons, Bool.and_eq_true] at hs
    refine PI.mono (pi_range2 hg hm (pa_up ha) (by rw [star_cons hs.1, star_cons hs.2.1]; rfl) (by rw [star_cons hs.2.1]; rfl)) fun σ H R q => ⟨_, q, fun vs H1 w => ?_⟩
    obtain ⟨hl, G, S, as, items, sm, ra, e1, hR⟩ := w
    have hl2 := ra.length
    rw [hl] at hl2
    match as, ra, hl2 with
    | [d, d2], ra, _ =>
      obtain ⟨v, w, rfl, r1, r2⟩ := repL2 ra
      cases r1 with
      | int i =>
        cases r2 with
        | int j =>
          simp only [itemsOf] at e1
          split at e1
          · rename_i hr
            cases e1
            exact ⟨i, j, rfl, rg_ok hr, hR _ goes_range⟩
          · cases e1
        | _ => simp [itemsOf] at e1
      | _ => cases r2 <;> simp [itemsOf] at e1
  | [a, b, e], hs, ha, _ =>
    simp only [List.all_cons, Bool.and_eq_true] at hs
    refine PI.mono (pi_range3 hg hm (pa_up ha) (by rw [star_cons hs.1]) (star_all (by simp [hs.2.1, hs.2.2.1]))) fun σ H R q => ⟨_, q, fun vs H1 w => ?_⟩
    obtain ⟨hl, G, S, as, items, sm, ra, e1, hR⟩ := w
    have hl2 := ra.length
    rw [hl] at hl2
    match as, ra, hl2 with
    | [d, d2, d3], ra, _ =>
      cases ra with
      | cons r1 ra =>
        obtain ⟨v, w, rfl, r2, r3⟩ := repL2 ra
        cases r1 with
        | int i =>
          cases r2 with
          | int j =>
            cases r3 with
            | int st =>
              simp only [itemsOf] at e1
              split at e1
              · rename_i hr
                cases e1
                simp only [Bool.and_eq_true, decide_eq_true_eq] at hr
                obtain ⟨⟨⟨h0, h1⟩, h2⟩, h3⟩ := hr
                have hpos : 0 ≤ Builtin.Range.rangeSize i j st := by
                  unfold Builtin.Range.rangeSize
                  rw [if_pos h0]
                  split
                  · have := Int.ediv_nonneg (a := j - i - 1) (b := st) (by omega) (by omega); omega
                  · exact Int.le_refl _
                exact ⟨i, j, st, _, rfl, ⟨by omega, by omega, h3, (Int.toNat_of_nonneg hpos).symm⟩, hR _ goes_rangeC⟩
              · cases e1
            | _ => simp [itemsOf] at e1
          | _ => cases r3 <;> simp [itemsOf] at e1
        | _ => cases r2 <;> cases r3 <;> simp [itemsOf] at e1
/-- enumerate of a list or a tuple -/
def iEnumA (K : PySem.W.Frag) (ta : TA) : TI := fun σ H R => ta σ H fun vs H1 => ∃ a xs, vs = [.ref a] ∧ ((SqL K H1 a xs ∧ R (Ite K a) H1) ∨ (SqT K H1 a xs ∧ R (Itet K a) H1))
theorem pi_enumA {e : Expr} {ta : TA} {p pos tpos : Pos} {elts : List Expr} {kk : Nat} (hg : Gl X "enumerate") (hm : X.mg "enumerate" = none) (ha : PA X [e] ta) (hs : starEach [e] X.env = [(false, eval e X.env)]) :
    PI X (.Tuple elts kk tpos) (.Call (.Name "enumerate" p) [e] [] pos) (iEnumA X.K ta) := by
  constructor
  intro pins s σ H R I h
  refine Call_ (ld_blt I hg hm boot_enumerate (PyProof.Rows.callWith_type1 (thn (ha.run pos pins s σ H _ I h) fun us s1 ⟨vs, H1, I1, r1, a, xs, ex, q⟩ => ?_) hs rfl))
  subst ex
  obtain ⟨u, rfl, ru⟩ := L2.vals1 r1
  cases (show u = Value.ref a from ru)
  have two : ∀ b, b ∈ [s1.heap.objs.size + 1, s1.heap.objs.size] → FpOk X pins H1 b := fun b hb => by
    have z : b = s1.heap.objs.size + 1 ∨ b = s1.heap.objs.size := by simpa using hb
    have hle : s1.heap.objs.size ≤ b := by
      rcases z with z | z
      · rw [z]; exact Nat.le_succ _
      · rw [z]; exact Nat.le_refl _
    exact I1.fpOk hle (I1.hok.fresh hle)
  rcases q with ⟨hq, q⟩ | ⟨hq, q⟩
  · obtain ⟨its, rv, p', hz⟩ := I1.list hq
    refine call_enumerate_list p'.isList fun h' he hit hsz hk => wpAny_pyIter_enum he ?_
    exact ⟨s1.heap.objs.size + 1, _, _, _, H1, rfl, I1.kept (t' := s1.toks) hk, turn_enum a (s1.heap.objs.size + 1) s1.heap.objs.size, ⟨⟨.none, he⟩, hit, Nat.succ_ne_self _⟩, two, q⟩
  · obtain ⟨its, rv, p', hz⟩ := I1.tuple hq
    have lt : a < s1.heap.objs.size := by obtain ⟨o, ho, _⟩ := id p'; exact Heap.lt_size ho
    refine call_enum_tuple (show s1.heap.IsTuple a its.toArray from p') fun h' he hit hsz hk => wpAny_pyIter_enum he ?_
    exact ⟨s1.heap.objs.size + 1, _, _, _, H1, rfl, I1.kept (t' := s1.toks) hk, turn_enumT a (s1.heap.objs.size + 1) s1.heap.objs.size (Nat.ne_of_lt lt), ⟨⟨.none, he⟩, hit, Nat.succ_ne_self _, Nat.ne_of_gt (Nat.lt_succ_of_lt lt)⟩, two, q⟩
/-- enumerate(..) -/
theorem pi_kind_enum (gd : Gd X c bs k) {e : Expr} {elts : List Expr} {kk : Nat} {tpos p pos : Pos} {ta : TA} (hg : Gl X "enumerate") (hs : notStar e = true) (ha : PA X [e] ta) :
    PI X (.Tuple elts kk tpos) (.Call (.Name "enumerate" p) [e] [] pos) (fun σ H R => ta σ H fun vs H1 => WD c X.K bs .enum vs H1 R) := by
  have hm := gd.bn "enumerate" (by simp [bnames])
  refine PI.mono (pi_enumA hg hm (pa_up ha) (by rw [star_cons hs]; rfl)) fun σ H R q => ⟨_, q, fun vs H1 w => ?_⟩
  obtain ⟨G, S, as, items, sm, ra, e1, hR⟩ := w
  match as, ra, e1 with
  | [d], ra, e1 =>
    obtain ⟨v, rfl, rv⟩ := repL1 ra
    simp only [itemsOf, Option.map_eq_some_iff] at e1
    obtain ⟨xs, e2, rfl⟩ := e1
    cases rv with
    | tup s l r =>
      simp only [seqA] at e2; cases e2
      obtain ⟨a', z, h⟩ := rdT_of (bs := bs) (S := lockS S (refsOf [D.tup xs])) (Rep.tup s l r)
      cases z
      exact ⟨_, _, rfl, .inr ⟨s, hR _ (goes_enumT h)⟩⟩
    | lst s l r =>
      simp only [seqA] at e2
      obtain ⟨a', z, h⟩ := rdL_of (bs := bs) (ks := refsOf [D.lst _]) (Rep.lst s l r) e2 fun k z => by cases z
      cases z
      exact ⟨_, _, rfl, .inl ⟨s.sq, hR _ (goes_enum h)⟩⟩
    | @ref a j hj =>
      simp only [seqA] at e2
      obtain ⟨a', z, h⟩ := rdL_of (bs := bs) (ks := refsOf [D.ref j]) (Rep.ref hj) e2 fun k z => by cases z; exact refs_mem (by simp)
      cases z
      obtain ⟨p, vs, e3, q1, _⟩ := seqL_rep sm (Rep.ref hj) e2
      cases e3
      exact ⟨a, vs, rfl, .inl ⟨.inl q1, hR _ (goes_enum h)⟩⟩
    | _ => simp [seqA, seqL] at e2
  | [], _, e1 => simp [itemsOf] at e1
  | a :: b :: r, _, e1 => cases a <;> simp [itemsOf] at e1
/-- zip(.., ..) -/
theorem pi_kind_zip (gd : Gd X c bs k) {e e2 : Expr} {elts : List Expr} {kk : Nat} {tpos p pos : Pos} {ta : TA} (hg : Gl X "zip") (hs : notStar e = true) (hs2 : notStar e2 = true) (ha : PA X [e, e2] ta) :
    PI X (.Tuple elts kk tpos) (.Call (.Name "zip" p) [e, e2] [] pos) (fun σ H R => ta σ H fun vs H1 => WD c X.K bs .zip vs H1 R) := by
  have hm := gd.bn "zip" (by simp [bnames])
  refine PI.mono (pi_zipX hg hm (pa_up ha) (by rw [star_cons hs]) (star_all (by simp [hs2]))) fun σ H R q => ⟨_, q, fun vs H1 w => ?_⟩
  obtain ⟨G, S, as, items, sm, ra, e1, hR⟩ := w
  match as, ra, e1 with
  | [d, d'], ra, e1 =>
    obtain ⟨v, v', rfl, rv, rv'⟩ := repL2 ra
    have key : ∃ xs ys, seqA S d = some xs ∧ seqA S d' = some ys ∧ items = List.zipWith (fun x y => .tup [x, y]) xs ys := by
      simp only [itemsOf] at e1
      split at e1
      · cases e1; exact ⟨_, _, rfl, rfl, rfl⟩
      · split at e1
        · rename_i xs ys e2 e3; cases e1; exact ⟨xs, ys, e2, e3, rfl⟩
        · cases e1
    obtain ⟨xs, ys, e2, e3, rfl⟩ := key
    obtain ⟨t, a, ws, rfl, s1, h⟩ := rdX_of (ks := refsOf [d, d']) sm rv e2 fun k z => by cases z; exact refs_mem (by simp)
    obtain ⟨t', b, ws', rfl, s2, h'⟩ := rdX_of (ks := refsOf [d, d']) sm rv' e3 fun k z => by cases z; exact refs_mem (by simp)
    exact ⟨t, t', a, b, ws, ws', rfl, s1, s2, hR _ (goes_zipX h h')⟩
  | [], _, e1 => simp [itemsOf] at e1
  | [a], _, e1 => simp [itemsOf] at e1
  | a :: b :: z :: r, _, e1 => cases a <;> simp [itemsOf] at e1
/-- reversed(..) -/
theorem pi_kind_rev (gd : Gd X c bs k) {tg e : Expr} {p pos : Pos} {te : TE} (hg : Gl X "reversed") (hs : notStar e = true) (he : PE X e te) :
    PI X tg (.Call (.Name "reversed" p) [e] [] pos) (fun σ H R => te σ H fun v H1 => WD c X.K bs .rev [v] H1 R) := by
  have hm := gd.bn "reversed" (by simp [bnames])
  refine PI.mono (RT.pi_revA hg hm (pe_up he) (by rw [star_cons hs])) fun σ H R q => ⟨_, q, fun v H1 w => ?_⟩
  obtain ⟨G, S, as, items, sm, ra, e1, hR⟩ := w
  match as, ra with
  | [d], ra =>
    cases ra with
    | cons rv t =>
      simp only [itemsOf, Option.map_eq_some_iff] at e1
      obtain ⟨xs, e2, rfl⟩ := e1
      cases rv with
      | tup s l r =>
        simp only [seqA] at e2; cases e2
        have rl := r.length
        obtain ⟨a', z, h⟩ := rdT_of (bs := bs) (S := lockS S (refsOf [D.tup xs])) (Rep.tup s l r)
        cases z
        exact ⟨_, _, rfl, .inr ⟨s, by rw [rl]; exact hR _ (goes_revT h)⟩⟩
      | lst s l r =>
        simp only [seqA] at e2
        obtain ⟨a', z, h⟩ := rdL_of (bs := bs) (ks := refsOf [D.lst _]) (Rep.lst s l r) e2 fun k z => by cases z
        cases z
        simp only [seqL] at e2; cases e2
        have rl := r.length
        exact ⟨_, _, rfl, .inl ⟨s.sq, by rw [rl]; exact hR _ (goes_rev h)⟩⟩
      | @ref a j hj =>
        simp only [seqA] at e2
        obtain ⟨a', z, h⟩ := rdL_of (bs := bs) (ks := refsOf [D.ref j]) (Rep.ref hj) e2 fun k z => by cases z; exact refs_mem (by simp)
        cases z
        obtain ⟨p, vs, e3, q1, _, rl⟩ := seqL_rep sm (Rep.ref hj) e2
        cases e3
        exact ⟨a, vs, rfl, .inl ⟨.inl q1, by rw [rl.length]; exact hR _ (goes_rev h)⟩⟩
      | _ => simp [seqA, seqL] at e2
end
end TD

set_option Elab.async false
set_option linter.all false
set_option maxRecDepth 100000
set_option maxHeartbeats 2000000
set_option autoImplicit false
/-! TDv: expressions. -/
namespace TD
open PySem PySem.Spec PyProof.Rows L2
section
variable {X : Cx} {c : Cn} {bs : List Nat} {k : Nat} {m : MC}
def TE_ (c : Cn) (K : PySem.W.Frag) (bs : List Nat) (e : E) : TE := fun σL H Q => ∃ G σ S d S', StR c.P K G H σ σL ∧ Sim c.P K bs G S H ∧ c.base ≤ S.length ∧ ev c e σ S = .ok d S' ∧ Fin c.P K bs G H S d S' Q
def TT_ (c : Cn) (K : PySem.W.Frag) (bs : List Nat) (e : E) : TT := fun σL H Q => ∃ G σ S b S', StR c.P K G H σ σL ∧ Sim c.P K bs G S H ∧ c.base ≤ S.length ∧ ev c e σ S = .ok (.bl b) S' ∧ FinU c.P K bs G H S S' (Q b)
def TA_ (c : Cn) (K : PySem.W.Frag) (bs : List Nat) (e : E) : TA := fun σL H Q => ∃ G σ S ds S', StR c.P K G H σ σL ∧ Sim c.P K bs G S H ∧ c.base ≤ S.length ∧ ev c e σ S = .ok (.tup ds) S' ∧ ∀ vs G' H', Ext G H G' H' → SX S S' → Sim c.P K bs G' S' H' → RepL c.P K G' H' vs ds → Q vs H'
inductive LsOk (X : Cx) (c : Cn) (bs : List Nat) : E → List Expr → Prop
  | nil : LsOk X c bs .nil []
  | cons {a s : E} {x : Expr} {r : List Expr} : notStar x = true → PE X x (TE_ c X.K bs a) → PT X x (TT_ c X.K bs a) → LsOk X c bs s r → LsOk X c bs (.cons a s) (x :: r)
theorem PE.mono {e : Expr} {t t' : TE} (h : PE X e t) (hm : ∀ σ H Q, t' σ H Q → t σ H Q) : PE X e t' := ⟨fun pins s σ H Q I q => h.run pins s σ H Q I (hm _ _ _ q)⟩
theorem PT.mono {e : Expr} {t t' : TT} (h : PT X e t) (hm : ∀ σ H Q, t' σ H Q → t σ H Q) : PT X e t' := ⟨fun pins s σ H Q I q => h.run pins s σ H Q I (hm _ _ _ q)⟩
theorem PA.mono {e : List Expr} {t t' : TA} (h : PA X e t) (hm : ∀ σ H Q, t' σ H Q → t σ H Q) : PA X e t' := ⟨fun pos pins s σ H Q I q => h.run pos pins s σ H Q I (hm _ _ _ q)⟩
theorem LsOk.star {e : E} {es : List Expr} (h : LsOk X c bs e es) : es.all notStar = true := by
  induction h with
  | nil => rfl
  | cons h1 _ _ _ ih => simp [h1, ih]
theorem ev_cons {a r : E} {σ : Sl} {S S' : Store} {d : D} (e : ev c (.cons a r) σ S = .ok d S') : ∃ x S1 xs, ev c a σ S = .ok x S1 ∧ ev c r σ S1 = .ok xs S' ∧ d = .tup (x :: argsOf xs) := by
  simp only [ev] at e
  obtain ⟨x, S1, e1, e⟩ := Res.bind_eq_ok e
  obtain ⟨xs, S2, e2, e⟩ := Res.bind_eq_ok e
  cases e
  exact ⟨x, S1, xs, e1, e2, rfl⟩
theorem LsOk.tup {e : E} {es : List Expr} (h : LsOk X c bs e es) : ∀ {σ : Sl} {S S' : Store} {d : D}, ev c e σ S = .ok d S' → ∃ ds, d = .tup ds ∧ ds.length = es.length := by
  induction h with
  | nil => intro σ S S' d e; simp only [ev] at e; cases e; exact ⟨[], rfl, rfl⟩
  | cons _ _ _ _ ih =>
    intro σ S S' d e
    obtain ⟨x, S1, xs, _, e2, rfl⟩ := ev_cons e
    obtain ⟨ds, rfl, hl⟩ := ih e2
    exact ⟨_, rfl, by simp [argsOf, hl]⟩
theorem LsOk.pa {e : E} {es : List Expr} (h : LsOk X c bs e es) : PA X es (TA_ c X.K bs e) := by
  induction h with
  | nil =>
    refine PA.mono pa_nil fun σ H Q q => ?_
    obtain ⟨G, σ0, S, ds, S', st, sm, hb, e, fin⟩ := q
    simp only [ev] at e
    cases e
    exact fin [] G H .refl .refl sm .nil
  | cons h1 h2 h3 h4 ih =>
    refine PA.mono (pa_cons h2 ih (star_cons h1)) fun σ H Q q => ?_
    · obtain ⟨G, σ0, S, ds, S', st, sm, hb, e, fin⟩ := q
      obtain ⟨x, S1, xs, e1, e2, e3⟩ := ev_cons e
      obtain ⟨ys, rfl, _⟩ := h4.tup e2
      cases e3
      refine ⟨G, σ0, S, x, S1, st, sm, hb, e1, fun v G1 H1 ex x1 sm1 r1 => ⟨G1, σ0, S1, ys, S', st.ext ex, sm1, Nat.le_trans hb (ex.le sm sm1), e2, fun vs G2 H2 ex2 x2 sm2 r2 => ?_⟩⟩
      exact fin _ G2 H2 (ex.trans ex2) (x1.trans x2) sm2 (.cons (r1.ext ex2) r2)
/-- a test that asks its value -/
theorem pt_of {x : Expr} {e : E} (h : PE X x (TE_ c X.K bs e)) (he : ∀ whole, isTrue x X.env whole = (do let v ← whole; standAt x.pos; holding [v] (truthy v))) : PT X x (TT_ c X.K bs e) :=
  PT.mono (pt_val h he) fun σ H Q q => by
    obtain ⟨G, σ0, S, b, S', st, sm, hb, e1, fin⟩ := q
    exact ⟨G, σ0, S, _, S', st, sm, hb, e1, fun v G' H' ex x1 sm1 r1 => by cases r1; exact ⟨b, rfl, fin G' H' ex x1 sm1⟩⟩
theorem v_var (gd : Gd X c bs k) (en : En X m) {i : Nat} {x : Str} {pos : Pos} (h : mt m (.var i) (.one (.Name x pos)) = true) : PE X (.Name x pos) (TE_ c X.K bs (.var i)) := by
  simp only [mt, Bool.and_eq_true, decide_eq_true_eq] at h
  obtain ⟨⟨h1, h2⟩, h3⟩ := h
  obtain ⟨p1, p2, _⟩ := plain_ok h3
  refine PE.mono (pe_var (by rw [en.N]; exact h1) (en.vis h2) p1 p2) fun σ H Q q => ?_
  obtain ⟨G, σ0, S, d, S', st, sm, hb, e, fin⟩ := q
  simp only [ev] at e
  obtain ⟨e1, rfl⟩ := Res.of_eq_ok e
  have e2 : σ0[i]? = some (some d) := by
    unfold getS at e1
    cases q : σ0[i]? with
    | none => rw [q] at e1; cases e1
    | some o => rw [q] at e1; simp at e1; rw [e1]
  obtain ⟨v, e3, r⟩ := st.2 i d e2
  exact ⟨v, e3, fin.here sm r⟩
theorem v_lit {v : V} {cc : Const} {j} {pos : Pos} (h : litB v cc = true) : PE X (.Constant cc j pos) (TE_ c X.K bs (.lit v)) := by
  cases v <;> cases cc <;> simp only [litB, beq_iff_eq, decide_eq_true_eq] at h <;> try cases h
  · exact PE.mono pe_non fun σ H Q q => by
      obtain ⟨G, σ0, S, d, S', st, sm, hb, e, fin⟩ := q
      simp only [ev, ofV] at e; cases e; exact fin.here sm .non
  · exact PE.mono pe_bl fun σ H Q q => by
      obtain ⟨G, σ0, S, d, S', st, sm, hb, e, fin⟩ := q
      simp only [ev, ofV] at e; cases e; exact fin.here sm (.bl _)
  · exact PE.mono pe_int fun σ H Q q => by
      obtain ⟨G, σ0, S, d, S', st, sm, hb, e, fin⟩ := q
      simp only [ev, ofV] at e; cases e; exact fin.here sm (.int _)
  · exact PE.mono pe_str fun σ H Q q => by
      obtain ⟨G, σ0, S, d, S', st, sm, hb, e, fin⟩ := q
      simp only [ev, ofV] at e; cases e; exact fin.here sm (.str _)
theorem v_glob (gd : Gd X c bs k) (en : En X m) (hP : m.P = c.P) {g : Nat} {x : Str} {pos : Pos} (h : mt m (.glob g) (.one (.Name x pos)) = true) : PE X (.Name x pos) (TE_ c X.K bs (.glob g)) := by
  simp only [mt, Bool.and_eq_true] at h
  obtain ⟨⟨h1, h2⟩, h3⟩ := h
  rw [hP] at h1
  split at h1
  · rename_i y v hg
    have hy : y = x := of_decide_eq_true h1
    subst hy
    obtain ⟨u, v', e1, r, hv⟩ := gd.gl g y v hg
    refine PE.mono (pe_glob (en.gl h2) e1 r (plain_ok h3).1) fun σ H Q q => ?_
    obtain ⟨G, σ0, S, d, S', st, sm, hb, e, fin⟩ := q
    simp only [ev, hg, Option.map_some] at e
    cases e
    exact fin.here sm hv.rep
  · cases h1
/-- two values -/
theorem two_ok {a b : E} {g : D → D → Store → Res D} {σ0 : Sl} {S S' : Store} {d : D} {G : Gh} {σ : L2.St} {H : Hp} {Q : VK} (st : StR c.P X.K G H σ0 σ) (sm : Sim c.P X.K bs G S H) (hb : c.base ≤ S.length)
    (e : ((ev c a σ0 S).bind fun x S1 => (ev c b σ0 S1).bind fun y S2 => g x y S2) = .ok d S') (fin : Fin c.P X.K bs G H S d S' Q) : tOp (W2 c X.K bs g) (TE_ c X.K bs a) (TE_ c X.K bs b) σ H Q := by
  obtain ⟨x, S1, e1, e⟩ := Res.bind_eq_ok e
  obtain ⟨y, S2, e2, e3⟩ := Res.bind_eq_ok e
  refine ⟨G, σ0, S, x, S1, st, sm, hb, e1, fun v G1 H1 ex x1 sm1 r1 => ⟨G1, σ0, S1, y, S2, st.ext ex, sm1, Nat.le_trans hb (ex.le sm sm1), e2, fun w G2 H2 ex2 x2 sm2 r2 => ?_⟩⟩
  exact ⟨G2, S2, x, y, d, S', sm2, Nat.le_trans hb ((ex.trans ex2).le sm sm2), r1.ext ex2, r2, e3, fin.after (ex.trans ex2) (x1.trans x2)⟩
theorem v_bin (gd : Gd X c bs k) {mu : Bool} {op : BOp} {a b : E} {x y : Expr} {pos : Pos} (ha : PE X x (TE_ c X.K bs a)) (hb : PE X y (TE_ c X.K bs b)) : PE X (.BinOp x (opOf op) y pos) (TE_ c X.K bs (.bin mu op a b)) :=
  PE.mono (pe_op (opBin_ok gd mu op) ha hb) fun σ H Q q => by
    obtain ⟨G, σ0, S, d, S', st, sm, hb, e, fin⟩ := q
    simp only [ev] at e
    exact two_ok st sm hb e fin
theorem v_cmp (gd : Gd X c bs k) {op : COp} {a b : E} {x y : Expr} {pos : Pos} (ha : PE X x (TE_ c X.K bs a)) (hb : PE X y (TE_ c X.K bs b)) (hm : behindInMarks (copOf op) y = false) :
    PE X (.Compare x [copOf op] [y] pos) (TE_ c X.K bs (.cmp op a b)) ∧ PT X (.Compare x [copOf op] [y] pos) (TT_ c X.K bs (.cmp op a b)) := by
  constructor
  · exact PE.mono (pe_cmpR (opCmp_ok gd op) ha hb hm) fun σ H Q q => by
      obtain ⟨G, σ0, S, d, S', st, sm, hb, e, fin⟩ := q
      simp only [ev] at e
      exact two_ok st sm hb e fin
  · exact PT.mono (pt_cmpR (opCmp_ok gd op) ha hb hm) fun σ H Q q => by
      obtain ⟨G, σ0, S, b, S', st, sm, hb, e, fin⟩ := q
      simp only [ev] at e
      exact two_ok st sm hb e fun v G' H' ex x1 sm1 r1 => by cases r1; exact ⟨b, rfl, fin G' H' ex x1 sm1⟩
theorem isB_ok {α : Type} {r : Res D} {f : Bool → Store → Res α} {a : α} {S : Store} (h : isB r f = .ok a S) : ∃ b S1, r = .ok (.bl b) S1 ∧ f b S1 = .ok a S := by
  unfold isB at h
  obtain ⟨d, S1, e1, e2⟩ := Res.bind_eq_ok h
  split at e2
  · exact ⟨_, S1, e1, e2⟩
  · cases e2
theorem chn_ok (gd : Gd X c bs k) {o p : COp} {a b d0 : E} {σ0 : Sl} {S S' : Store} {d : D} {G : Gh} {σ : L2.St} {H : Hp} {Q : VK} (st : StR c.P X.K G H σ0 σ) (sm : Sim c.P X.K bs G S H) (hb : c.base ≤ S.length)
    (e : ev c (.chn o p a b d0) σ0 S = .ok d S') (fin : Fin c.P X.K bs G H S d S' Q) : tChain (W2 c X.K bs (opCmp c o)) (W2 c X.K bs (opCmp c p)) (TE_ c X.K bs a) (TE_ c X.K bs b) (TE_ c X.K bs d0) σ H Q := by
  simp only [ev] at e
  obtain ⟨x, S1, e1, e⟩ := Res.bind_eq_ok e
  obtain ⟨y, S2, e2, e⟩ := Res.bind_eq_ok e
  obtain ⟨r, S3, e3, e⟩ := isB_ok e
  refine ⟨G, σ0, S, x, S1, st, sm, hb, e1, fun v G1 H1 ex x1 sm1 r1 => ⟨G1, σ0, S1, y, S2, st.ext ex, sm1, Nat.le_trans hb (ex.le sm sm1), e2, fun w G2 H2 ex2 x2 sm2 r2 => ?_⟩⟩
  have b2 := Nat.le_trans hb ((ex.trans ex2).le sm sm2)
  refine ⟨G2, S2, x, y, _, S3, sm2, b2, r1.ext ex2, r2, e3, fun z G3 H3 ex3 x3 sm3 r3 => ?_⟩
  cases r3
  refine ⟨r, rfl, ?_⟩
  cases r with
  | false =>
    simp only [Bool.false_eq_true, if_false] at e ⊢
    cases e
    exact fin _ G3 H3 ((ex.trans ex2).trans ex3) ((x1.trans x2).trans x3) sm3 (.bl _)
  | true =>
    simp only [if_true] at e ⊢
    obtain ⟨z, S4, e4, e5⟩ := Res.bind_eq_ok e
    have b3 := Nat.le_trans hb (((ex.trans ex2).trans ex3).le sm sm3)
    refine ⟨G3, σ0, S3, z, S4, ((st.ext ex).ext ex2).ext ex3, sm3, b3, e4, fun u G4 H4 ex4 x4 sm4 r4 => ?_⟩
    have E4 := ((ex.trans ex2).trans ex3).trans ex4
    exact ⟨G4, S4, y, z, d, S', sm4, Nat.le_trans hb (E4.le sm sm4), (r2.ext ex3).ext ex4, r4, e5, fin.after E4 (((x1.trans x2).trans x3).trans x4)⟩
theorem v_chn (gd : Gd X c bs k) {o p : COp} {a b d0 : E} {x y z : Expr} {pos : Pos} (ha : PE X x (TE_ c X.K bs a)) (hb : PE X y (TE_ c X.K bs b)) (hd : PE X z (TE_ c X.K bs d0)) (hm : behindInMarks (copOf p) z = false) :
    PE X (.Compare x [copOf o, copOf p] [y, z] pos) (TE_ c X.K bs (.chn o p a b d0)) ∧ PT X (.Compare x [copOf o, copOf p] [y, z] pos) (TT_ c X.K bs (.chn o p a b d0)) := by
  have hm' : lastMarks [copOf o, copOf p] [y, z] = false := hm
  constructor
  · exact PE.mono (pe_chain (opCmp_ok gd o) (opCmp_ok gd p) ha hb hd hm') fun σ H Q q => by
      obtain ⟨G, σ0, S, d, S', st, sm, hb, e, fin⟩ := q
      exact chn_ok gd st sm hb e fin
  · exact PT.mono (pt_chain (opCmp_ok gd o) (opCmp_ok gd p) ha hb hd hm') fun σ H Q q => by
      obtain ⟨G, σ0, S, b, S', st, sm, hb, e, fin⟩ := q
      exact chn_ok gd st sm hb e fun v G' H' ex x1 sm1 r1 => by cases r1; exact ⟨b, rfl, fin G' H' ex x1 sm1⟩
/-- a bool or None is True, is False -/
theorem op_isX (ng : Bool) : OpR X (compareOp (if ng then .IsNot else .Is)) (fun x y H Q => ∃ b, y = .bl b ∧ ((∃ a, x = .bl a ∧ Q (.bl (ng != (a == b))) H) ∨ (x = .non ∧ Q (.bl ng) H))) := by
  intro pins s σ H x y v u Q I rx ry h
  obtain ⟨b, rfl, h⟩ := h
  cases (show u = Value.bool b from ry)
  rcases h with ⟨a, rfl, q⟩ | ⟨rfl, q⟩
  · cases (show v = Value.bool a from rx)
    cases ng with
    | false => exact L2.op_isBl pins s σ H _ _ _ _ Q I rx ry ⟨a, b, rfl, rfl, by simpa [Bool.beq_eq_decide_eq] using q⟩
    | true => exact L2.op_notBl pins s σ H _ _ _ _ Q I rx ry ⟨a, b, rfl, rfl, by simpa [Bool.beq_eq_decide_eq] using q⟩
  · cases (show v = Value.none from rx)
    cases ng with
    | false => exact wpAny_is_other rfl (fun z => by cases z) ⟨.bl false, H, I, rfl, q⟩
    | true => exact wpAny_isNot_other rfl (fun z => by cases z) ⟨.bl true, H, I, rfl, q⟩
theorem rep_non {P : Prog} {K : PySem.W.Frag} {G : Gh} {H : Hp} {v : V} {d : D} (r : Rep P K G H v d) : decide (v = .non) = (match d with
    | .non => true
    | _ => false) := by
  cases r <;> simp
theorem isc_ok {ng : Bool} {a : E} {σ0 : Sl} {S S' : Store} {d : D} {G : Gh} {σ : L2.St} {H : Hp} {Q : VK} (st : StR c.P X.K G H σ0 σ) (sm : Sim c.P X.K bs G S H) (hb : c.base ≤ S.length)
    (e : ev c (.isc ng a .non) σ0 S = .ok d S') (fin : Fin c.P X.K bs G H S d S' Q) : TE_ c X.K bs a σ H fun v H1 => Q (.bl (ng != decide (v = .non))) H1 := by
  simp only [ev] at e
  obtain ⟨x, S1, e1, e⟩ := Res.bind_eq_ok e
  refine ⟨G, σ0, S, x, S1, st, sm, hb, e1, fun v G1 H1 ex x1 sm1 r1 => ?_⟩
  show Q (.bl (ng != decide (v = .non))) H1
  rw [rep_non r1]
  cases x <;> simp only [iscB] at e <;> cases e <;> simpa using fin _ G1 H1 ex x1 sm1 (.bl _)
theorem isb_ok {ng b : Bool} {a : E} {σ0 : Sl} {S S' : Store} {d : D} {G : Gh} {σ : L2.St} {H : Hp} {Q : VK} (st : StR c.P X.K G H σ0 σ) (sm : Sim c.P X.K bs G S H) (hb : c.base ≤ S.length)
    (e : ev c (.isc ng a (.bl b)) σ0 S = .ok d S') (fin : Fin c.P X.K bs G H S d S' Q) : tOp (fun x y H Q => ∃ b, y = .bl b ∧ ((∃ a, x = .bl a ∧ Q (.bl (ng != (a == b))) H) ∨ (x = .non ∧ Q (.bl ng) H))) (TE_ c X.K bs a) (tC (.bl b)) σ H Q := by
  simp only [ev] at e
  obtain ⟨x, S1, e1, e⟩ := Res.bind_eq_ok e
  refine ⟨G, σ0, S, x, S1, st, sm, hb, e1, fun v G1 H1 ex x1 sm1 r1 => ⟨b, rfl, ?_⟩⟩
  cases x <;> simp only [iscB] at e <;> cases e
  · cases r1; exact .inr ⟨rfl, fin _ G1 H1 ex x1 sm1 (.bl _)⟩
  · cases r1; exact .inl ⟨_, rfl, fin _ G1 H1 ex x1 sm1 (.bl _)⟩
theorem v_isc {ng : Bool} {a : E} {v : V} {x : Expr} {cc : Const} {j} {p pos : Pos} (ha : PE X x (TE_ c X.K bs a)) (hv : litB v cc = true) :
    PE X (.Compare x [if ng then .IsNot else .Is] [.Constant cc j p] pos) (TE_ c X.K bs (.isc ng a v)) ∧ PT X (.Compare x [if ng then .IsNot else .Is] [.Constant cc j p] pos) (TT_ c X.K bs (.isc ng a v)) := by
  have vac : ∀ {σ0 S d S'}, (∀ b, v ≠ .bl b) → v ≠ .non → ev c (.isc ng a v) σ0 S = .ok d S' → False := fun {σ0 S d S'} h1 h2 e => by
    simp only [ev] at e
    obtain ⟨x, S1, e1, e⟩ := Res.bind_eq_ok e
    cases v with
    | non => exact h2 rfl
    | bl b => exact h1 b rfl
    | _ => cases x <;> simp [iscB] at e
  cases v with
  | non =>
    cases cc <;> simp only [litB] at hv <;> try cases hv
    cases ng with
    | false =>
      refine ⟨PE.mono (pe_cmp (pc_isN ha)) fun σ H Q q => ?_, PT.mono (pt_cmp (pc_isN ha)) fun σ H Q q => ?_⟩
      · obtain ⟨G, σ0, S, d, S', st, sm, hb, e, fin⟩ := q
        have := isc_ok st sm hb e fin
        simpa [tIsN] using this
      · obtain ⟨G, σ0, S, b, S', st, sm, hb, e, fin⟩ := q
        have := isc_ok (Q := fun x H1 => ∃ c, x = .bl c ∧ Q c H1) st sm hb e fun v G' H' ex x1 sm1 r1 => by cases r1; exact ⟨b, rfl, fin G' H' ex x1 sm1⟩
        simpa [tIsN, tB] using this
    | true =>
      refine ⟨PE.mono (pe_cmp (pc_notN ha)) fun σ H Q q => ?_, PT.mono (pt_cmp (pc_notN ha)) fun σ H Q q => ?_⟩
      · obtain ⟨G, σ0, S, d, S', st, sm, hb, e, fin⟩ := q
        have := isc_ok st sm hb e fin
        simpa [tNotN] using this
      · obtain ⟨G, σ0, S, b, S', st, sm, hb, e, fin⟩ := q
        have := isc_ok (Q := fun x H1 => ∃ c, x = .bl c ∧ Q c H1) st sm hb e fun v G' H' ex x1 sm1 r1 => by cases r1; exact ⟨b, rfl, fin G' H' ex x1 sm1⟩
        simpa [tNotN, tB] using this
  | bl b =>
    cases cc <;> simp only [litB, beq_iff_eq] at hv <;> try cases hv
    have nb : behindInMarks (if ng then .IsNot else .Is) (.Constant (.bool b) j p) = false := rfl
    refine ⟨PE.mono (pe_cmpR (op_isX ng) ha pe_bl nb) fun σ H Q q => ?_, PT.mono (pt_cmpR (op_isX ng) ha pe_bl nb) fun σ H Q q => ?_⟩
    · obtain ⟨G, σ0, S, d, S', st, sm, hb, e, fin⟩ := q
      exact isb_ok st sm hb e fin
    · obtain ⟨G, σ0, S, b', S', st, sm, hb, e, fin⟩ := q
      exact isb_ok st sm hb e fun v G' H' ex x1 sm1 r1 => by cases r1; exact ⟨b', rfl, fin G' H' ex x1 sm1⟩
  | _ =>
    refine ⟨⟨fun pins s σ H Q I q => ?_⟩, ⟨fun pins s σ H Q I q => ?_⟩⟩
    · obtain ⟨G, σ0, S, d, S', st, sm, hb, e, fin⟩ := q
      exact (vac (fun b z => by cases z) (fun z => by cases z) e).elim
    · obtain ⟨G, σ0, S, d, S', st, sm, hb, e, fin⟩ := q
      exact (vac (fun b z => by cases z) (fun z => by cases z) e).elim
end
end TD

set_option Elab.async false
set_option linter.all false
set_option maxRecDepth 100000
set_option maxHeartbeats 2000000
set_option autoImplicit false
/-! TDw: expressions: tests, calls, reads. -/
namespace TD
open PySem PySem.Spec PyProof.Rows L2
section
variable {X : Cx} {c : Cn} {bs : List Nat} {k : Nat} {m : MC}
/-! ### and, or, not, if else -/
theorem pw_of_pt {op : PySem.BoolOp} {vs : List Expr} {pos : Pos} {t : TT} (h : PT X (.BoolOp op vs pos) t) : PW X (.BoolOp op vs pos) t := ⟨fun whole pins s σ H Q I q => h.run pins s σ H Q I q⟩
theorem and_te {a b : E} {σ0 : Sl} {S S' : Store} {d : D} {G : Gh} {σ : L2.St} {H : Hp} {Q : VK} (st : StR c.P X.K G H σ0 σ) (sm : Sim c.P X.K bs G S H) (hb : c.base ≤ S.length) (e : ev c (.and a b) σ0 S = .ok d S') (fin : Fin c.P X.K bs G H S d S' Q) :
    tAndV (TE_ c X.K bs a) (TE_ c X.K bs b) σ H Q := by
  simp only [ev] at e
  obtain ⟨r, S1, e1, e2⟩ := isB_ok e
  refine ⟨G, σ0, S, _, S1, st, sm, hb, e1, fun v G1 H1 ex x1 sm1 r1 => ?_⟩
  cases r1
  refine ⟨r, rfl, ?_⟩
  cases r with
  | true =>
    simp only [if_true] at e2 ⊢
    exact ⟨G1, σ0, S1, d, S', st.ext ex, sm1, Nat.le_trans hb (ex.le sm sm1), e2, fin.after ex x1⟩
  | false =>
    simp only [Bool.false_eq_true, if_false] at e2 ⊢
    cases e2
    exact fin _ G1 H1 ex x1 sm1 (.bl _)
theorem or_te {a b : E} {σ0 : Sl} {S S' : Store} {d : D} {G : Gh} {σ : L2.St} {H : Hp} {Q : VK} (st : StR c.P X.K G H σ0 σ) (sm : Sim c.P X.K bs G S H) (hb : c.base ≤ S.length) (e : ev c (.or a b) σ0 S = .ok d S') (fin : Fin c.P X.K bs G H S d S' Q) :
    tOrV (TE_ c X.K bs a) (TE_ c X.K bs b) σ H Q := by
  simp only [ev] at e
  obtain ⟨r, S1, e1, e2⟩ := isB_ok e
  refine ⟨G, σ0, S, _, S1, st, sm, hb, e1, fun v G1 H1 ex x1 sm1 r1 => ?_⟩
  cases r1
  refine ⟨r, rfl, ?_⟩
  cases r with
  | false =>
    simp only [Bool.false_eq_true, if_false] at e2 ⊢
    exact ⟨G1, σ0, S1, d, S', st.ext ex, sm1, Nat.le_trans hb (ex.le sm sm1), e2, fin.after ex x1⟩
  | true =>
    simp only [if_true] at e2 ⊢
    cases e2
    exact fin _ G1 H1 ex x1 sm1 (.bl _)
theorem and_tt {a b : E} {σ0 : Sl} {S S' : Store} {q : Bool} {G : Gh} {σ : L2.St} {H : Hp} {Q : Bool → Hp → Prop} (st : StR c.P X.K G H σ0 σ) (sm : Sim c.P X.K bs G S H) (hb : c.base ≤ S.length) (e : ev c (.and a b) σ0 S = .ok (.bl q) S') (fin : FinU c.P X.K bs G H S S' (Q q)) :
    tAnd (TT_ c X.K bs a) (TT_ c X.K bs b) σ H Q := by
  simp only [ev] at e
  obtain ⟨r, S1, e1, e2⟩ := isB_ok e
  refine ⟨G, σ0, S, _, S1, st, sm, hb, e1, fun G1 H1 ex x1 sm1 => ?_⟩
  cases r with
  | true =>
    simp only [if_true] at e2 ⊢
    exact ⟨G1, σ0, S1, q, S', st.ext ex, sm1, Nat.le_trans hb (ex.le sm sm1), e2, fun G2 H2 ex2 x2 sm2 => fin G2 H2 (ex.trans ex2) (x1.trans x2) sm2⟩
  | false =>
    simp only [Bool.false_eq_true, if_false] at e2 ⊢
    cases e2
    exact fin G1 H1 ex x1 sm1
theorem or_tt {a b : E} {σ0 : Sl} {S S' : Store} {q : Bool} {G : Gh} {σ : L2.St} {H : Hp} {Q : Bool → Hp → Prop} (st : StR c.P X.K G H σ0 σ) (sm : Sim c.P X.K bs G S H) (hb : c.base ≤ S.length) (e : ev c (.or a b) σ0 S = .ok (.bl q) S') (fin : FinU c.P X.K bs G H S S' (Q q)) :
    tOr (TT_ c X.K bs a) (TT_ c X.K bs b) σ H Q := by
  simp only [ev] at e
  obtain ⟨r, S1, e1, e2⟩ := isB_ok e
  refine ⟨G, σ0, S, _, S1, st, sm, hb, e1, fun G1 H1 ex x1 sm1 => ?_⟩
  cases r with
  | false =>
    simp only [Bool.false_eq_true, if_false] at e2 ⊢
    exact ⟨G1, σ0, S1, q, S', st.ext ex, sm1, Nat.le_trans hb (ex.le sm sm1), e2, fun G2 H2 ex2 x2 sm2 => fin G2 H2 (ex.trans ex2) (x1.trans x2) sm2⟩
  | true =>
    simp only [if_true] at e2 ⊢
    cases e2
    exact fin G1 H1 ex x1 sm1
theorem v_and {a b : E} {x y : Expr} {r : List Expr} {pos : Pos} (ha : PE X x (TE_ c X.K bs a)) (ha' : PT X x (TT_ c X.K bs a)) (hb : PE X (.BoolOp .And (y :: r) pos) (TE_ c X.K bs b)) (hb' : PT X (.BoolOp .And (y :: r) pos) (TT_ c X.K bs b)) :
    PE X (.BoolOp .And (x :: y :: r) pos) (TE_ c X.K bs (.and a b)) ∧ PT X (.BoolOp .And (x :: y :: r) pos) (TT_ c X.K bs (.and a b)) :=
  ⟨PE.mono (pe_and ha hb) fun σ H Q q => by
    obtain ⟨G, σ0, S, d, S', st, sm, hb, e, fin⟩ := q
    exact and_te st sm hb e fin,
   PT.mono (pw_and ha' (pw_of_pt hb')).pt fun σ H Q q => by
    obtain ⟨G, σ0, S, d, S', st, sm, hb, e, fin⟩ := q
    exact and_tt st sm hb e fin⟩
theorem v_or {a b : E} {x y : Expr} {r : List Expr} {pos : Pos} (ha : PE X x (TE_ c X.K bs a)) (ha' : PT X x (TT_ c X.K bs a)) (hb : PE X (.BoolOp .Or (y :: r) pos) (TE_ c X.K bs b)) (hb' : PT X (.BoolOp .Or (y :: r) pos) (TT_ c X.K bs b)) :
    PE X (.BoolOp .Or (x :: y :: r) pos) (TE_ c X.K bs (.or a b)) ∧ PT X (.BoolOp .Or (x :: y :: r) pos) (TT_ c X.K bs (.or a b)) :=
  ⟨PE.mono (pe_or ha hb) fun σ H Q q => by
    obtain ⟨G, σ0, S, d, S', st, sm, hb, e, fin⟩ := q
    exact or_te st sm hb e fin,
   PT.mono (pw_or ha' (pw_of_pt hb')).pt fun σ H Q q => by
    obtain ⟨G, σ0, S, d, S', st, sm, hb, e, fin⟩ := q
    exact or_tt st sm hb e fin⟩
theorem v_not {a : E} {x : Expr} {pos : Pos} (ha : PE X x (TE_ c X.K bs a)) (ha' : PT X x (TT_ c X.K bs a)) : PE X (.UnaryOp .Not x pos) (TE_ c X.K bs (.not a)) ∧ PT X (.UnaryOp .Not x pos) (TT_ c X.K bs (.not a)) := by
  constructor
  · refine PE.mono (pe_not ha) fun σ H Q q => ?_
    obtain ⟨G, σ0, S, d, S', st, sm, hb, e, fin⟩ := q
    simp only [ev] at e
    obtain ⟨r, S1, e1, e2⟩ := isB_ok e
    cases e2
    refine ⟨G, σ0, S, _, S', st, sm, hb, e1, fun v G1 H1 ex x1 sm1 r1 => ?_⟩
    cases r1
    exact ⟨r, rfl, fin _ G1 H1 ex x1 sm1 (.bl _)⟩
  · refine PT.mono (pt_not ha') fun σ H Q q => ?_
    obtain ⟨G, σ0, S, b, S', st, sm, hb, e, fin⟩ := q
    simp only [ev] at e
    obtain ⟨r, S1, e1, e2⟩ := isB_ok e
    cases e2
    exact ⟨G, σ0, S, r, S', st, sm, hb, e1, fun G1 H1 ex x1 sm1 => fin G1 H1 ex x1 sm1⟩
theorem v_ite {t a b : E} {w x y : Expr} {pos : Pos} (ht : PT X w (TT_ c X.K bs t)) (ha : PE X x (TE_ c X.K bs a)) (ha' : PT X x (TT_ c X.K bs a)) (hb : PE X y (TE_ c X.K bs b)) (hb' : PT X y (TT_ c X.K bs b)) :
    PE X (.IfExp w x y pos) (TE_ c X.K bs (.ite t a b)) ∧ PT X (.IfExp w x y pos) (TT_ c X.K bs (.ite t a b)) := by
  constructor
  · refine PE.mono (pe_ifExp ht ha hb) fun σ H Q q => ?_
    obtain ⟨G, σ0, S, d, S', st, sm, hb, e, fin⟩ := q
    simp only [ev] at e
    obtain ⟨r, S1, e1, e2⟩ := isB_ok e
    refine ⟨G, σ0, S, r, S1, st, sm, hb, e1, fun G1 H1 ex x1 sm1 => ?_⟩
    have b1 := Nat.le_trans hb (ex.le sm sm1)
    cases r with
    | true =>
      simp only [if_true] at e2 ⊢
      exact ⟨G1, σ0, S1, d, S', st.ext ex, sm1, b1, e2, fin.after ex x1⟩
    | false =>
      simp only [Bool.false_eq_true, if_false] at e2 ⊢
      exact ⟨G1, σ0, S1, d, S', st.ext ex, sm1, b1, e2, fin.after ex x1⟩
  · refine ⟨fun pins s σ H Q I q => ?_⟩
    obtain ⟨G, σ0, S, d, S', st, sm, hb0, e, fin⟩ := q
    simp only [ev] at e
    obtain ⟨r, S1, e1, e2⟩ := isB_ok e
    refine isTrue_IfExp (thn (ht.run pins s σ H (fun b H1 => b = r ∧ ∃ G1, Ext G H G1 H1 ∧ SX S S1 ∧ Sim c.P X.K bs G1 S1 H1) I ⟨G, σ0, S, r, S1, st, sm, hb0, e1, fun G1 H1 ex x1 sm1 => ⟨rfl, G1, ex, x1, sm1⟩⟩) fun b s1 ⟨H1, I1, hbr, G1, ex, x1, sm1⟩ => ?_)
    subst hbr
    have b1 := Nat.le_trans hb0 (ex.le sm sm1)
    have fin2 : FinU c.P X.K bs G1 H1 S1 S' (Q d) := fun G2 H2 ex2 x2 sm2 => fin G2 H2 (ex.trans ex2) (x1.trans x2) sm2
    cases b with
    | true =>
      simp only [if_true] at e2 ⊢
      exact ha'.run pins s1 σ H1 Q I1 ⟨G1, σ0, S1, d, S', st.ext ex, sm1, b1, e2, fin2⟩
    | false =>
      simp only [Bool.false_eq_true, if_false] at e2 ⊢
      exact hb'.run pins s1 σ H1 Q I1 ⟨G1, σ0, S1, d, S', st.ext ex, sm1, b1, e2, fin2⟩
/-! ### - and ~ -/
def W1 (c : Cn) (K : PySem.W.Frag) (bs : List Nat) (g : D → Store → Res D) : V → Hp → VK → Prop := fun x H Q => ∃ G S a d S', Sim c.P K bs G S H ∧ c.base ≤ S.length ∧ Rep c.P K G H x a ∧ g a S = .ok d S' ∧ Fin c.P K bs G H S d S' Q
theorem own_un (gd : Gd X c bs k) {n f : Nat} {op : UnaryOp} {pins : List (Addr × Obj)} {s : Shared} {σ : L2.St} {H : Hp} {x : V} {v : Value} {Q : VK} {G : Gh} {S S' : Store} {a d : D} (I : Inv X pins σ H s) (rx : RelV x v) (sm : Sim c.P X.K bs G S H) (hbl : c.base ≤ S.length) (ra : Rep c.P X.K G H x a)
    (hm : dunOf c S a n = some f) (e : c.Φ c.base f [a] S = .ok d S') (fin : Fin c.P X.K bs G H S d S' Q)
    (hop : ∀ (p C g : Addr) (ox : Obj) (od : Option Obj), PySem.W.InstAt s.heap p ox C od → PySem.W.findIn X.K (.ref C) (c.P.nmOf n) = some (some (.ref g)) → PySem.W.isFn X.K (.ref g) = true → wpAny (model X.prog X.w) X.A (call (.ref g) [.ref p]) (EP X pins σ Q) X.xe s → wpAny (model X.prog X.w) X.A (unaryOp op (.ref p)) (EP X pins σ Q) X.xe s) :
    wpAny (model X.prog X.w) X.A (unaryOp op v) (EP X pins σ Q) X.xe s := by
  unfold dunOf at hm
  split at hm
  · rename_i i ea
    obtain ⟨p, dx, fv, fd, ci, rfl, h1, h2, h3, M, _, _⟩ := meth_of gd sm ra ea hm
    cases (show v = Value.ref p from rx)
    obtain ⟨od, J, _⟩ := inst_at I h1
    exact hop p _ _ _ _ J M.at_ M.fn (call_ok gd h3 (vs := [.ref p]) I (.cons rfl .nil) ⟨G, S, [a], d, S', sm, hbl, .cons ra .nil, e, fin⟩)
  · cases hm
theorem neg_ok (gd : Gd X c bs k) : UnR X (unaryOp .USub) (W1 c X.K bs (negB c)) := by
  intro pins s σ H x v Q I rx h
  obtain ⟨G, S, a, d, S', sm, hbl, ra, e, fin⟩ := h
  unfold negB at e
  split at e
  · cases e
    obtain rfl := rep_int ra
    exact un_neg pins s σ H _ v Q I rx ⟨_, rfl, fin.here sm (.int _)⟩
  · split at e
    · rename_i f hm
      obtain ⟨m, hF⟩ := I.fr
      have nm : c.P.nmOf 17 = "__neg__" := dun_at gd (by rfl)
      exact own_un gd I rx sm hbl ra hm e fin fun p C g ox od J h1 h2 h3 => PySem.W.ksp_neg hF I.ok.mod.kin J (by rw [← nm]; exact h1) h2 h3
    · cases e
theorem inv_ok (gd : Gd X c bs k) : UnR X (unaryOp .Invert) (W1 c X.K bs (invB c)) := by
  intro pins s σ H x v Q I rx h
  obtain ⟨G, S, a, d, S', sm, hbl, ra, e, fin⟩ := h
  unfold invB at e
  split at e
  · rename_i f hm
    obtain ⟨m, hF⟩ := I.fr
    have nm : c.P.nmOf 12 = "__invert__" := dun_at gd (by rfl)
    exact own_un gd I rx sm hbl ra hm e fin fun p C g ox od J h1 h2 h3 => PySem.W.ksp_inv hF I.ok.mod.kin J (by rw [← nm]; exact h1) h2 h3
  · cases e
theorem one_te {a : E} {g : D → Store → Res D} {σ0 : Sl} {S S' : Store} {d : D} {G : Gh} {σ : L2.St} {H : Hp} {Q : VK} (st : StR c.P X.K G H σ0 σ) (sm : Sim c.P X.K bs G S H) (hb : c.base ≤ S.length)
    (e : ((ev c a σ0 S).bind fun x S1 => g x S1) = .ok d S') (fin : Fin c.P X.K bs G H S d S' Q) : TE_ c X.K bs a σ H fun x H1 => W1 c X.K bs g x H1 Q := by
  obtain ⟨x, S1, e1, e⟩ := Res.bind_eq_ok e
  exact ⟨G, σ0, S, x, S1, st, sm, hb, e1, fun v G1 H1 ex x1 sm1 r1 => ⟨G1, S1, x, d, S', sm1, Nat.le_trans hb (ex.le sm sm1), r1, e, fin.after ex x1⟩⟩
theorem v_neg (gd : Gd X c bs k) {a : E} {x : Expr} {pos : Pos} (ha : PE X x (TE_ c X.K bs a)) : PE X (.UnaryOp .USub x pos) (TE_ c X.K bs (.neg a)) :=
  PE.mono (pe_un (neg_ok gd) ha) fun σ H Q q => by
    obtain ⟨G, σ0, S, d, S', st, sm, hb, e, fin⟩ := q
    simp only [ev] at e
    exact one_te st sm hb e fin
theorem v_inv (gd : Gd X c bs k) {a : E} {x : Expr} {pos : Pos} (ha : PE X x (TE_ c X.K bs a)) : PE X (.UnaryOp .Invert x pos) (TE_ c X.K bs (.inv a)) :=
  PE.mono (pe_un (inv_ok gd) ha) fun σ H Q q => by
    obtain ⟨G, σ0, S, d, S', st, sm, hb, e, fin⟩ := q
    simp only [ev] at e
    exact one_te st sm hb e fin
/-! ### calls -/
theorem args_ok {as : E} {es : List Expr} (ls : LsOk X c bs as es) {pins : List (Addr × Obj)} {s : Shared} {σ : L2.St} {H : Hp} {σ0 : Sl} {S S' : Store} {xs : D} {G : Gh} {f : Value} {first : List Value} {pos : Pos} {Qf : Value → Shared → Prop} (I : Inv X pins σ H s) (hk : PySem.W.keepIn X.K f = true)
    (st : StR c.P X.K G H σ0 σ) (sm : Sim c.P X.K bs G S H) (hb : c.base ≤ S.length) (e : ev c as σ0 S = .ok xs S')
    (h : ∀ us vs ds G' H' s', xs = .tup ds → Inv X pins σ H' s' → Vals vs us → RepL c.P X.K G' H' vs ds → Ext G H G' H' → SX S S' → Sim c.P X.K bs G' S' H' → wpAny (model X.prog X.w) X.A (call f (first ++ us)) Qf X.xe s') :
    wpAny (model X.prog X.w) X.A (callWith pos f first (backTo pos (starEach es X.env)) []) Qf X.xe s := by
  cases ls with
  | nil =>
    simp only [ev] at e
    cases e
    exact PySem.W.callWith_K0 I.kIn hk (h [] [] [] G H s rfl I .nil .nil .refl .refl sm)
  | cons h1 h2 h3 h4 =>
    have ls := LsOk.cons h1 h2 h3 h4
    obtain ⟨ds, rfl, _⟩ := ls.tup e
    refine PySem.W.callWith_K (h₀ := X.base) I.ok.mod.kin hk (thn (ls.pa.run pos pins s σ H _ I ⟨G, σ0, S, ds, S', st, sm, hb, e, fun vs G' H' ex x1 sm1 r1 => (⟨rfl, G', ex, x1, sm1, r1⟩ : vs = vs ∧ ∃ G', Ext G H G' H' ∧ SX S S' ∧ Sim c.P X.K bs G' S' H' ∧ RepL c.P X.K G' H' vs ds)⟩) fun us s1 ⟨vs, H1, I1, r, _, G', ex, x1, sm1, r1⟩ => ⟨I1.kIn, ?_⟩) (star_cons h1) (star_all (by have := h4.star; exact this))
    exact h us vs ds G' H1 s1 rfl I1 r r1 ex x1 sm1
theorem v_call (gd : Gd X c bs k) (en : En X m) (hP : m.P = c.P) {f : Nat} {fd : FnI} {as : E} {x : Str} {p pos : Pos} {es : List Expr} (hf : c.P.fns[f]? = some fd) (hat : fd.at_ = (x, none)) (hg : glB m x = true) (hp : plainB x = true) (ls : LsOk X c bs as es) :
    PE X (.Call (.Name x p) es [] pos) (TE_ c X.K bs (.call f as)) := by
  refine ⟨fun pins s σ H Q I q => ?_⟩
  obtain ⟨G, σ0, S, d, S', st, sm, hb, e, fin⟩ := q
  simp only [ev] at e
  obtain ⟨xs, S1, e1, e2⟩ := Res.bind_eq_ok e
  obtain ⟨fdat, F, hk, hd, hmg, hv⟩ := gd.fn f fd hf
  refine wpAny_Call_Name_kw (ld_glob I (en.gl hg) (hmg x hat) ?_ (plain_ok hp).1)
  refine args_ok ls I hk st sm hb e1 fun us vs ds G' H' s' hxs I1 r r1 ex x1 sm1 => ?_
  subst hxs
  exact callD_ok gd hf I1 r sm1 (Nat.le_trans hb (ex.le sm sm1)) r1 e2 (fin.after ex x1)
theorem v_make (gd : Gd X c bs k) (en : En X m) (hP : m.P = c.P) {i : Nat} {ci : ClsI} {as : E} {x : Str} {p pos : Pos} {es : List Expr} (hi : c.P.cl i = some ci) (hn : ci.name = x) (hg : glB m x = true) (hp : plainB x = true) (ls : LsOk X c bs as es) :
    PE X (.Call (.Name x p) es [] pos) (TE_ c X.K bs (.make i as)) := by
  subst hn
  refine ⟨fun pins s σ H Q I q => ?_⟩
  obtain ⟨G, σ0, S, d, S', st, sm, hb, e, fin⟩ := q
  simp only [ev] at e
  obtain ⟨xs, S1, e1, e2⟩ := Res.bind_eq_ok e
  have F := gd.cl i ci hi
  refine wpAny_Call_Name_kw (ld_glob I (en.gl hg) F.glob ?_ (plain_ok hp).1)
  refine args_ok ls I F.keep st sm hb e1 fun us vs ds G' H' s' hxs I1 r r1 ex x1 sm1 => ?_
  subst hxs
  exact make_ok gd hi I1 r sm1 (Nat.le_trans hb (ex.le sm sm1)) r1 e2 (fin.after ex x1)
theorem meth_form {x : Expr} {n : Str} {apos pos : Pos} {es : List Expr} {env : Env} (hns : noSuper x = true) (hl : (apos.endLine == pos.line) = true) (hlen : es.length < 20) (hs : es.all notStar = true) :
    eval (.Call (.Attribute x n apos) es [] pos) env = (do
      let ov ← eval x env
      standAt apos.atName
      let (f, first) ← holding [ov] (getMethod ov n (plainOf x env))
      callWith pos f first (backTo pos (starEach es env)) (backToKw pos (keywordEach [] env))) := by
  refine mcall_of (t := fun ov => do
      let (f, first) ← holding [ov] (getMethod ov n (plainOf x env))
      callWith pos f first (backTo pos (starEach es env)) (backToKw pos (keywordEach [] env))) (base_ok hns) fun ov => mcall_line ?_ hl
  unfold methodCallForm
  rw [star_flags hs]
  have : es.length + ([] : List Keyword).length + 0 < 30 := by simp; omega
  simpa [backToKw, keywordEach] using this
theorem v_meth (gd : Gd X c bs k) (hP : m.P = c.P) {n : Nat} {o as : E} {x : Expr} {nm : Str} {apos pos : Pos} {es : List Expr} (hnm : c.P.nm[n]? = some nm) (hns : noSuper x = true) (hl : (apos.endLine == pos.line) = true) (hlen : es.length < 20) (ho : PE X x (TE_ c X.K bs o)) (ls : LsOk X c bs as es) :
    PE X (.Call (.Attribute x nm apos) es [] pos) (TE_ c X.K bs (.meth o n as)) := by
  refine ⟨fun pins s σ H Q I q => ?_⟩
  obtain ⟨G, σ0, S, d, S', st, sm, hb, e, fin⟩ := q
  simp only [ev] at e
  obtain ⟨x0, S1, e1, e⟩ := Res.bind_eq_ok e
  obtain ⟨xs, S2, e2, e3⟩ := Res.bind_eq_ok e
  refine PySem.W.methodCall_KW (pl := plainOf x X.env) (thn (ho.run pins s σ H (fun v H1 => ∃ G1, Ext G H G1 H1 ∧ SX S S1 ∧ Sim c.P X.K bs G1 S1 H1 ∧ Rep c.P X.K G1 H1 v x0) I ⟨G, σ0, S, x0, S1, st, sm, hb, e1, fun v G1 H1 ex x1 sm1 r1 => ⟨G1, ex, x1, sm1, r1⟩⟩) fun u s1 ⟨v, H1, I1, rv, G1, ex, x1, sm1, r1⟩ => ?_) (meth_form hns hl hlen ls.star)
  unfold methB at e3
  split at e3
  · rename_i f hm
    unfold dunOf at hm
    split at hm
    · rename_i i ea
      obtain ⟨p, dx, fv, fd, ci, rfl, h1, h2, h3, M, lk, C⟩ := meth_of gd sm1 r1 ea hm
      cases (show u = Value.ref p from rv)
      have nme : c.P.nmOf n = nm := by unfold Prog.nmOf; rw [List.getD_eq_getElem?_getD, hnm]; rfl
      rw [nme] at M lk
      have b1 := Nat.le_trans hb (ex.le sm sm1)
      refine getmeth_ok I1 h1 C M lk ?_
      refine args_ok ls I1 M.kp (st.ext ex) sm1 b1 e2 fun us vs ds G' H' s' hxs I2 r2 rr ex2 x2 sm2 => ?_
      subst hxs
      exact callD_ok gd h3 (us := .ref p :: us) (vs := .ref p :: vs) I2 (.cons rfl r2) sm2 (Nat.le_trans b1 (ex2.le sm1 sm2)) (.cons (r1.ext ex2) rr) e3 (fin.after (ex.trans ex2) (x1.trans x2))
    · cases hm
  · cases e3
/-! ### built-ins -/
theorem bf_te {as : E} {g : List D → Store → Res D} {es : List Expr} (ls : LsOk X c bs as es) {σ0 : Sl} {S S' : Store} {d : D} {G : Gh} {σ : L2.St} {H : Hp} {Q : VK} (st : StR c.P X.K G H σ0 σ) (sm : Sim c.P X.K bs G S H) (hb : c.base ≤ S.length)
    (e : ((ev c as σ0 S).bind fun xs S1 => g (argsOf xs) S1) = .ok d S') (fin : Fin c.P X.K bs G H S d S' Q) : tCB (WA c X.K bs g) (TA_ c X.K bs as) σ H Q := by
  obtain ⟨xs, S1, e1, e2⟩ := Res.bind_eq_ok e
  obtain ⟨ds, rfl, _⟩ := ls.tup e1
  exact ⟨G, σ0, S, ds, S1, st, sm, hb, e1, fun vs G1 H1 ex x1 sm1 r1 => ⟨G1, S1, ds, d, S', sm1, Nat.le_trans hb (ex.le sm sm1), r1, e2, fin.after ex x1⟩⟩
theorem v_bfB (en : En X m) {f : BF} {mu : Bool} {as : E} {id : String} {x : Str} {p pos : Pos} {es : List Expr} (hc : CallR X (.builtin id) (WA c X.K bs (opBf c f mu))) (h0 : ∀ S, opBf c f mu [] S = .bad) (hg : glB m x = true) (hm : X.mg x = none) (hv : bootBuiltins x = some (.builtin id)) (hn : x ≠ "__name__") (hd : (x == ("__debug__" : Str)) = false) (ls : LsOk X c bs as es) :
    PE X (.Call (.Name x p) es [] pos) (TE_ c X.K bs (.bf f mu as)) := by
  cases ls with
  | nil =>
    refine ⟨fun pins s σ H Q I q => ?_⟩
    obtain ⟨G, σ0, S, d, S', st, sm, hb, e, fin⟩ := q
    simp only [ev, Res.bind_ok, argsOf] at e
    rw [h0] at e; cases e
  | cons h1 h2 h3 h4 =>
    have ls := LsOk.cons h1 h2 h3 h4
    refine PE.mono (pe_callB hc (en.gl hg) hm hv ls.pa hn hd (star_cons h1) (star_all h4.star)) fun σ H Q q => ?_
    obtain ⟨G, σ0, S, d, S', st, sm, hb, e, fin⟩ := q
    simp only [ev] at e
    exact bf_te ls st sm hb (by simpa only [ev] using e) fin
theorem v_bfT (en : En X m) {f : BF} {mu : Bool} {as : E} {id : String} {x : Str} {p pos : Pos} {es : List Expr} (hc : CallR X (.type id) (WA c X.K bs (opBf c f mu))) (h0 : ∀ S, opBf c f mu [] S = .bad) (hg : glB m x = true) (hm : X.mg x = none) (hv : bootBuiltins x = some (.type id)) (hn : x ≠ "__name__") (hd : (x == ("__debug__" : Str)) = false) (ls : LsOk X c bs as es) :
    PE X (.Call (.Name x p) es [] pos) (TE_ c X.K bs (.bf f mu as)) := by
  cases ls with
  | nil =>
    refine ⟨fun pins s σ H Q I q => ?_⟩
    obtain ⟨G, σ0, S, d, S', st, sm, hb, e, fin⟩ := q
    simp only [ev, Res.bind_ok, argsOf] at e
    rw [h0] at e; cases e
  | cons h1 h2 h3 h4 =>
    have ls := LsOk.cons h1 h2 h3 h4
    refine PE.mono (pe_callTy hc (en.gl hg) hm hv ls.pa hn hd (star_cons h1) (star_all h4.star)) fun σ H Q q => ?_
    obtain ⟨G, σ0, S, d, S', st, sm, hb, e, fin⟩ := q
    simp only [ev] at e
    exact bf_te ls st sm hb (by simpa only [ev] using e) fin
theorem v_bf (gd : Gd X c bs k) (en : En X m) {f : BF} {mu : Bool} {as : E} {p pos : Pos} {es : List Expr} (h1 : f ≠ .lenset) (h2 : f ≠ .range) (h3 : f ≠ .tuprange) (hg : glB m f.nm = true) (ls : LsOk X c bs as es) : PE X (.Call (.Name f.nm p) es [] pos) (TE_ c X.K bs (.bf f mu as)) := by
  have vac : (∀ as S, opBf c f mu as S = .bad) → PE X (.Call (.Name f.nm p) es [] pos) (TE_ c X.K bs (.bf f mu as)) := fun h => ⟨fun pins s σ H Q I q => by
    obtain ⟨G, σ0, S, d, S', st, sm, hb, e, fin⟩ := q
    simp only [ev] at e
    obtain ⟨xs, S1, e1, e2⟩ := Res.bind_eq_ok e
    rw [h] at e2; cases e2⟩
  cases f with
  | len => exact v_bfB en (len_ok gd mu) (fun _ => rfl) hg (gd.bn "len" (by simp [bnames])) boot_len (by decide) (by decide) ls
  | abs => exact v_bfB en (abs_ok mu) (fun _ => rfl) hg (gd.bn "abs" (by simp [bnames])) (by decide +kernel) (by decide) (by decide) ls
  | all => exact v_bfB en (all_ok gd mu) (fun _ => rfl) hg (gd.bn "all" (by simp [bnames])) (by decide +kernel) (by decide) (by decide) ls
  | any => exact v_bfB en (any_ok gd mu) (fun _ => rfl) hg (gd.bn "any" (by simp [bnames])) (by decide +kernel) (by decide) (by decide) ls
  | sum => exact v_bfB en (sum_ok gd mu) (fun _ => rfl) hg (gd.bn "sum" (by simp [bnames])) (by decide +kernel) (by decide) (by decide) ls
  | int => exact v_bfT en (int_ok mu) (fun _ => rfl) hg (gd.bn "int" (by simp [bnames])) (by decide +kernel) (by decide) (by decide) ls
  | tuple => exact v_bfT en (tuple_ok mu) (fun _ => rfl) hg (gd.bn "tuple" (by simp [bnames])) (by decide +kernel) (by decide) (by decide) ls
  | list => exact v_bfT en (list_ok mu) (fun _ => rfl) hg (gd.bn "list" (by simp [bnames])) (by decide +kernel) (by decide) (by decide) ls
  | lenset => exact (h1 rfl).elim
  | range => exact (h2 rfl).elim
  | tuprange => exact (h3 rfl).elim
  | str => exact vac fun as S => by unfold opBf; rfl
  | min => exact vac fun as S => by unfold opBf; rfl
  | max => exact vac fun as S => by unfold opBf; rfl
  | sorted => exact vac fun as S => by unfold opBf; rfl
end
end TD

set_option Elab.async false
set_option linter.all false
set_option maxRecDepth 100000
set_option maxHeartbeats 2000000
set_option autoImplicit false
/-! TDx: expressions: methods of lists, isinstance, fields, items, slices, displays. -/
namespace TD
open PySem PySem.Spec PyProof.Rows L2
section
variable {X : Cx} {c : Cn} {bs : List Nat} {k : Nat} {m : MC}
def MtS (c : Cn) (K : PySem.W.Frag) (bs : List Nat) (m : BM) : V → List V → Hp → VK → Prop := fun x xs H Q => ∃ G S a as d S', Sim c.P K bs G S H ∧ c.base ≤ S.length ∧ Rep c.P K G H x a ∧ RepL c.P K G H xs as ∧ opBm c a m as S = .ok d S' ∧ Fin c.P K bs G H S d S' Q
theorem recv_list {G : Gh} {S : Store} {H : Hp} {v : V} {a : D} {mm : BM} (sm : Sim c.P X.K bs G S H) (r : Rep c.P X.K G H v a) (e : recvT S mm a = true) : L2.tyV X.K "list" v H := by
  cases r with
  | @ref p j h =>
    simp only [recvT] at e
    split at e
    · rename_i xs q
      obtain ⟨vs, q1, _⟩ := sm.cell j p _ h q
      exact .inl ⟨rfl, vs, SqL.of q1⟩
    · rename_i xs q
      obtain ⟨vs, q1, _⟩ := sm.cell j p _ h q
      exact .inl ⟨rfl, vs, SqL.of q1⟩
    · cases e
  | _ => simp [recvT] at e
theorem v_bmL {mm : BM} {o as : E} {x : Expr} {id : String} {apos pos : Pos} {es : List Expr} (slot : Slot "list" mm.nm id) (hty : typeOf (.builtin id) = pure (.type "method_descriptor")) (hm : MtR X id (MtS c X.K bs mm)) (hns : noSuper x = true) (hl : (apos.endLine == pos.line) = true) (hlen : es.length < 20)
    (ho : PE X x (TE_ c X.K bs o)) (ls : LsOk X c bs as es) : PE X (.Call (.Attribute x mm.nm apos) es [] pos) (TE_ c X.K bs (.bm o mm as)) := by
  have core : ∀ {σ H Q}, TE_ c X.K bs (.bm o mm as) σ H Q → TE_ c X.K bs o σ H fun v H1 => L2.tyV X.K "list" v H1 ∧ TA_ c X.K bs as σ H1 fun vs H2 => MtS c X.K bs mm v vs H2 Q := fun {σ H Q} q => by
    obtain ⟨G, σ0, S, d, S', st, sm, hb, e, fin⟩ := q
    simp only [ev] at e
    obtain ⟨x0, S1, e1, e⟩ := Res.bind_eq_ok e
    obtain ⟨xs, S2, e2, e3⟩ := Res.bind_eq_ok e
    obtain ⟨ds, rfl, _⟩ := ls.tup e2
    unfold bmB at e3
    split at e3
    · rename_i hr
      refine ⟨G, σ0, S, x0, S1, st, sm, hb, e1, fun v G1 H1 ex x1 sm1 r1 => ⟨recv_list sm1 r1 hr, G1, σ0, S1, ds, S2, st.ext ex, sm1, Nat.le_trans hb (ex.le sm sm1), e2, fun vs G2 H2 ex2 x2 sm2 r2 => ?_⟩⟩
      exact ⟨G2, S2, x0, ds, d, S', sm2, Nat.le_trans hb ((ex.trans ex2).le sm sm2), r1.ext ex2, r2, e3, fin.after (ex.trans ex2) (x1.trans x2)⟩
    · cases e3
  cases ls with
  | nil =>
    refine PE.mono (pe_bm0 F.plainAttrs_list slot hty hm ho (base_ok hns) hl) fun σ H Q q => ?_
    obtain ⟨G, σ0, S, d, S', st, sm, hb, e, fin⟩ := core q
    refine ⟨G, σ0, S, d, S', st, sm, hb, e, fun v G1 H1 ex x1 sm1 r1 => ?_⟩
    obtain ⟨t1, t2⟩ := fin v G1 H1 ex x1 sm1 r1
    refine ⟨t1, ?_⟩
    obtain ⟨G2, σ2, S2, ds, S3, st2, sm2, hb2, e2, fin2⟩ := t2
    simp only [ev] at e2
    cases e2
    exact fin2 [] G2 H1 .refl .refl sm2 .nil
  | cons h1 h2 h3 h4 =>
    have ls := LsOk.cons h1 h2 h3 h4
    refine PE.mono (pe_bm F.plainAttrs_list slot hty hm ho ls.pa (base_ok hns) ?_ hl (star_cons h1) (star_all h4.star)) fun σ H Q q => core q
    rw [star_flags ls.star]
    simp only [List.length_cons] at hlen ⊢
    simp [backToKw, keywordEach]
    omega
theorem v_bm (gd : Gd X c bs k) {mm : BM} {o as : E} {x : Expr} {apos pos : Pos} {es : List Expr} (hns : noSuper x = true) (hl : (apos.endLine == pos.line) = true) (hlen : es.length < 20) (ho : PE X x (TE_ c X.K bs o)) (ls : LsOk X c bs as es) :
    PE X (.Call (.Attribute x mm.nm apos) es [] pos) (TE_ c X.K bs (.bm o mm as)) := by
  have vac : (∀ a as S, opBm c a mm as S = .bad) → PE X (.Call (.Attribute x mm.nm apos) es [] pos) (TE_ c X.K bs (.bm o mm as)) := fun h => ⟨fun pins s σ H Q I q => by
    obtain ⟨G, σ0, S, d, S', st, sm, hb, e, fin⟩ := q
    simp only [ev] at e
    obtain ⟨x0, S1, e1, e⟩ := Res.bind_eq_ok e
    obtain ⟨xs, S2, e2, e3⟩ := Res.bind_eq_ok e
    unfold bmB at e3
    split at e3
    · rw [h] at e3; cases e3
    · cases e3⟩
  have vac2 : ∀ mm : BM, mm ≠ .append → mm ≠ .extend → mm ≠ .pop → mm ≠ .insert → ∀ a as S, opBm c a mm as S = .bad := fun mm h1 h2 h3 h4 a as S => by
    unfold opBm
    split
    · split
      · split <;> first | rfl | (exfalso; simp_all)
      · rfl
    · rfl
  cases mm with
  | append => exact v_bmL F.slot_list_append (by show builtinType _ = _; rw [builtinType_eq_fast]; kernel_rfl) (append_ok gd) hns hl hlen ho ls
  | extend => exact v_bmL F.slot_list_extend (by show builtinType _ = _; rw [builtinType_eq_fast]; kernel_rfl) (extend_ok gd) hns hl hlen ho ls
  | pop => exact v_bmL F.slot_list_pop (by show builtinType _ = _; rw [builtinType_eq_fast]; kernel_rfl) (pop_ok gd) hns hl hlen ho ls
  | insert => exact v_bmL F.slot_list_insert (by show builtinType _ = _; rw [builtinType_eq_fast]; kernel_rfl) (insert_ok gd) hns hl hlen ho ls
  | _ => exact vac (vac2 _ (by simp) (by simp) (by simp) (by simp))
/-! ### isinstance -/
def tyVV (P : Prog) (K : PySem.W.Frag) : Ty → V
  | .bi t => .ty t
  | .own c => .ref (clsA P K c)
theorem tyB_ok (gd : Gd X c bs k) (en : En X m) (hP : m.P = c.P) {t : Ty} {e : Expr} (h : tyB m t e = true) : PE X e (tC (tyVV c.P X.K t)) ∧ ClsV (tyVV c.P X.K t) (tyV c.P X.K t) ∧ tyOk c.P t = true ∧ notStar e = true := by
  unfold tyB at h
  cases e with
  | Name x p =>
    simp only [Bool.and_eq_true, decide_eq_true_eq] at h
    obtain ⟨⟨⟨h1, h2⟩, h3⟩, h4⟩ := h
    obtain ⟨p1, p2, p3⟩ := plain_ok h3
    rw [hP] at h1 h4
    cases t with
    | own i =>
      simp only at h4
      obtain ⟨ci, hci⟩ := Option.isSome_iff_exists.mp h4
      have e1 : x = ci.name := by rw [h1]; simp [Ty.nm, hci]
      have F := gd.cl i ci hci
      exact ⟨pe_glob (en.gl h2) (by rw [e1]; exact F.glob) rfl p1, .own _, by simp [tyOk, hci], rfl⟩
    | bi t =>
      have e1 : x = Str.ofString t := h1
      have h5 : t = "int" ∨ t = "bool" ∨ t = "str" ∨ t = "tuple" ∨ t = "list" := by simpa using h4
      have b0 : X.mg x = none := by
        rw [e1]
        rcases h5 with rfl | rfl | rfl | rfl | rfl
        · exact gd.bn "int" (by simp [bnames])
        · exact gd.bn "bool" (by simp [bnames])
        · exact gd.bn "str" (by simp [bnames])
        · exact gd.bn "tuple" (by simp [bnames])
        · exact gd.bn "list" (by simp [bnames])
      have b1 : bootBuiltins x = some (.type t) := by
        rw [e1]
        rcases h5 with rfl | rfl | rfl | rfl | rfl <;> decide +kernel
      refine ⟨pe_bltn (en.gl h2) b0 b1 rfl p3 p1, .ty t, ?_, rfl⟩
      rcases h5 with rfl | rfl | rfl | rfl | rfl <;> simp [tyOk, tyNames]
  | _ => simp at h
inductive TysOk (X : Cx) (P : Prog) : List Ty → List Expr → Prop
  | nil : TysOk X P [] []
  | cons {t : Ty} {ts : List Ty} {e : Expr} {es : List Expr} : PE X e (tC (tyVV P X.K t)) → ClsV (tyVV P X.K t) (tyV P X.K t) → tyOk P t = true → notStar e = true → TysOk X P ts es → TysOk X P (t :: ts) (e :: es)
theorem tysB_ok (gd : Gd X c bs k) (en : En X m) (hP : m.P = c.P) : ∀ {ts : List Ty} {es : List Expr}, tysB m ts es = true → TysOk X c.P ts es
  | [], [], _ => .nil
  | t :: ts, e :: es, h => by
    simp only [tysB, Bool.and_eq_true] at h
    obtain ⟨h1, h2, h3, h4⟩ := tyB_ok gd en hP h.1
    exact .cons h1 h2 h3 h4 (tysB_ok gd en hP h.2)
  | [], _ :: _, h => by simp [tysB] at h
  | _ :: _, [], h => by simp [tysB] at h
theorem TysOk.all {P : Prog} {ts : List Ty} {es : List Expr} (h : TysOk X P ts es) : ts.all (tyOk P) = true ∧ es.length = ts.length := by
  induction h with
  | nil => exact ⟨rfl, rfl⟩
  | cons _ _ h3 _ _ ih => simp [h3, ih]
theorem TysOk.pa {P : Prog} {ts : List Ty} {es : List Expr} (h : TysOk X P ts es) : PA X es (fun σ H Q => Q (ts.map (tyVV P X.K)) H) := by
  induction h with
  | nil => exact pa_nil
  | cons h1 h2 h3 h4 _ ih => exact PA.mono (pa_cons h1 ih (star_cons h4)) fun σ H Q q => q
theorem TysOk.cls {P : Prog} {ts : List Ty} {es : List Expr} (h : TysOk X P ts es) : Paired ClsV (ts.map (tyVV P X.K)) (ts.map (tyV P X.K)) := by
  induction h with
  | nil => exact .nil
  | cons h1 h2 h3 h4 _ ih => exact .cons h2 ih
theorem v_isi (gd : Gd X c bs k) (en : En X m) (hP : m.P = c.P) {a : E} {ts : List Ty} {x t : Expr} {p pos : Pos} (hg : glB m "isinstance" = true) (hns : notStar x = true) (ha : PE X x (TE_ c X.K bs a))
    (ht : (match t with
    | .Tuple es _ _ => tysB m ts es && decide (ts.length ≤ 100)
    | t => tysB m ts [t]) = true) : PE X (.Call (.Name "isinstance" p) [x, t] [] pos) (TE_ c X.K bs (.isi a ts)) := by
  have hm := gd.bn "isinstance" (by simp [bnames])
  have boot : bootBuiltins "isinstance" = some (.builtin "isinstance") := by decide +kernel
  have single : ∀ t : Expr, tysB m ts [t] = true → PE X (.Call (.Name "isinstance" p) [x, t] [] pos) (TE_ c X.K bs (.isi a ts)) := fun t ht => by
    have T := tysB_ok gd en hP ht
    obtain ⟨al, hl⟩ := T.all
    cases T with
    | cons h1 h2 h3 h4 h5 =>
      cases h5
      refine PE.mono (pe_callB call_isi (en.gl hg) hm boot (pa_cons ha (pa_cons h1 pa_nil (star_cons h4)) (star_cons hns)) (by decide) (by decide) (star_cons hns) (star_all (by simp [h4]))) fun σ H Q q => ?_
      obtain ⟨G, σ0, S, d, S', st, sm, hb, e, fin⟩ := q
      simp only [ev] at e
      obtain ⟨x0, S1, e1, e⟩ := Res.bind_eq_ok e
      obtain ⟨t0, et, rfl, rfl⟩ := map_ok e
      refine ⟨G, σ0, S, x0, _, st, sm, hb, e1, fun v G1 H1 ex x1 sm1 r1 => ?_⟩
      obtain ⟨z1, z2⟩ := isi_ok gd sm1 r1 et al
      refine ⟨v, _, _, _, _, rfl, h2, z1, ?_, fin _ G1 H1 ex x1 sm1 (.bl _)⟩
      simp only [List.map_cons, List.map_nil, PySem.W.kitAny] at z2
      simp only [List.any_cons, List.any_nil, Bool.or_false]
      have := gd.kit t0 _ (ty_rep gd sm1 r1 et).2 h3
      exact this
  cases t with
  | Tuple es kk tp =>
    simp only [Bool.and_eq_true] at ht
    have T := tysB_ok gd en hP ht.1
    obtain ⟨al, hl⟩ := T.all
    refine PE.mono (pe_callB call_isiT (en.gl hg) hm boot (pa_cons ha (pa_cons (pe_tup T.pa) pa_nil rfl) (star_cons hns)) (by decide) (by decide) (star_cons hns) rfl) fun σ H Q q => ?_
    obtain ⟨G, σ0, S, d, S', st, sm, hb, e, fin⟩ := q
    simp only [ev] at e
    obtain ⟨x0, S1, e1, e⟩ := Res.bind_eq_ok e
    obtain ⟨t0, et, rfl, rfl⟩ := map_ok e
    refine ⟨G, σ0, S, x0, _, st, sm, hb, e1, fun v G1 H1 ex x1 sm1 r1 => ⟨?_, fun tp hp => ?_⟩⟩
    · have hl2 : ts.length ≤ 100 := of_decide_eq_true ht.2
      rw [List.length_map, ← szl_eq]; unfold szl; omega
    · have e2 := Ext.fresh (o := .tup (ts.map (tyVV c.P X.K))) sm1 hp
      have sm2 := sm1.fresh (o := .tup (ts.map (tyVV c.P X.K))) hp
      obtain ⟨z1, z2⟩ := isi_ok gd sm2 (r1.ext e2) et al
      exact ⟨v, tp, _, _, _, _, rfl, upd_same, T.cls, z1, z2, fin _ G1 _ (ex.trans e2) x1 sm2 (.bl _)⟩
  | _ => exact single _ ht
/-! ### reads -/
theorem v_fld (gd : Gd X c bs k) {o : E} {f : Nat} {x : Expr} {n : Str} {pos : Pos} (hn : c.P.nm[f]? = some n) (hns : noSuper x = true) (ho : PE X x (TE_ c X.K bs o)) : PE X (.Attribute x n pos) (TE_ c X.K bs (.fld o f)) :=
  PE.mono (pe_fld ho (base_ok hns)) fun σ H Q q => by
    obtain ⟨G, σ0, S, d, S', st, sm, hb, e, fin⟩ := q
    simp only [ev] at e
    obtain ⟨x0, S1, e1, e⟩ := Res.bind_eq_ok e
    obtain ⟨ef, rfl⟩ := Res.of_eq_ok e
    refine ⟨G, σ0, S, x0, _, st, sm, hb, e1, fun v G1 H1 ex x1 sm1 r1 => ?_⟩
    obtain ⟨p, C, dx, fs, w, rfl, h1, h2, h3, h4, h5⟩ := fld_rep gd sm1 r1 ef hn
    exact ⟨p, C, dx, fs, w, rfl, h1, h2, h3, h4, fin _ G1 H1 ex x1 sm1 h5⟩
theorem plain_ix {e : Expr} (h : (match e with
    | .Slice _ _ _ _ => false
    | _ => true) = true) : PlainIx e := fun o i => by
  cases e <;> first | rfl | cases h
theorem v_idx (gd : Gd X c bs k) {o i : E} {x y : Expr} {pos : Pos} (ho : PE X x (TE_ c X.K bs o)) (hi : PE X y (TE_ c X.K bs i)) (hs : PlainIx y) : PE X (.Subscript x y pos) (TE_ c X.K bs (.idx o i)) :=
  PE.mono (pe_ix idx_ok ho hi hs) fun σ H Q q => by
    obtain ⟨G, σ0, S, d, S', st, sm, hb, e, fin⟩ := q
    simp only [ev] at e
    exact two_ok st sm hb e fin
def TO_ (c : Cn) (K : PySem.W.Frag) (bs : List Nat) (e : E) : TO := fun σL H Q => ∃ G σ S d S' p, StR c.P K G H σ σL ∧ Sim c.P K bs G S H ∧ c.base ≤ S.length ∧ ev c e σ S = .ok d S' ∧ partOf e d = some p ∧ FinU c.P K bs G H S S' (Q p)
theorem PO.mono {e : Option Expr} {t t' : TO} (h : PO X e t) (hm : ∀ σ H Q, t' σ H Q → t σ H Q) : PO X e t' := ⟨fun pins s σ H Q I q => h.run pins s σ H Q I (hm _ _ _ q)⟩
theorem po_om : PO X none (TO_ c X.K bs .om) := PO.mono po_none fun σ H Q q => by
  obtain ⟨G, σ0, S, d, S', p, st, sm, hb, e, hp, fin⟩ := q
  simp only [ev] at e
  cases e
  simp only [partOf] at hp
  cases hp
  exact fin G H .refl .refl sm
theorem po_at {e : E} {x : Expr} (hne : e ≠ .om) (he : PE X x (TE_ c X.K bs e)) : PO X (some x) (TO_ c X.K bs e) := PO.mono (po_some he) fun σ H Q q => by
  obtain ⟨G, σ0, S, d, S', p, st, sm, hb, e1, hp, fin⟩ := q
  refine ⟨G, σ0, S, d, S', st, sm, hb, e1, fun v G1 H1 ex x1 sm1 r1 => ?_⟩
  unfold partOf at hp
  split at hp
  · exact (hne rfl).elim
  · cases hp
    exact ⟨_, rep_int r1, fin G1 H1 ex x1 sm1⟩
  · cases hp
theorem v_sl (gd : Gd X c bs k) {mu : Bool} {o lo hi : E} {x : Expr} {l h : Option Expr} {p2 pos : Pos} (ho : PE X x (TE_ c X.K bs o)) (hl : PO X l (TO_ c X.K bs lo)) (hh : PO X h (TO_ c X.K bs hi)) : PE X (.Subscript x (.Slice l h none p2) pos) (TE_ c X.K bs (.sl mu o lo hi)) :=
  PE.mono (pe_slice (sl_ok mu) ho hl hh) fun σ H Q q => by
    obtain ⟨G, σ0, S, d, S', st, sm, hb, e, fin⟩ := q
    simp only [ev] at e
    obtain ⟨x0, S1, e1, e⟩ := Res.bind_eq_ok e
    obtain ⟨y, S2, e2, e⟩ := Res.bind_eq_ok e
    obtain ⟨z, S3, e3, e⟩ := Res.bind_eq_ok e
    have parts : ∃ a b, partOf lo y = some a ∧ partOf hi z = some b := by
      unfold opSl at e
      split at e
      · rename_i q1 q2; exact ⟨_, _, q1, q2⟩
      · cases e
    obtain ⟨pa, pb, h1, h2⟩ := parts
    rw [h1, h2] at e
    refine ⟨G, σ0, S, x0, S1, st, sm, hb, e1, fun v G1 H1 ex x1 sm1 r1 => ?_⟩
    have b1 := Nat.le_trans hb (ex.le sm sm1)
    refine ⟨G1, σ0, S1, y, S2, pa, st.ext ex, sm1, b1, e2, h1, fun G2 H2 ex2 x2 sm2 => ?_⟩
    have b2 := Nat.le_trans b1 (ex2.le sm1 sm2)
    refine ⟨G2, σ0, S2, z, S3, pb, (st.ext ex).ext ex2, sm2, b2, e3, h2, fun G3 H3 ex3 x3 sm3 => ?_⟩
    exact ⟨G3, S3, x0, d, S', sm3, Nat.le_trans b2 (ex3.le sm2 sm3), (r1.ext ex2).ext ex3, e, fin.after ((ex.trans ex2).trans ex3) ((x1.trans x2).trans x3)⟩
/-! ### displays -/
theorem v_tup {as : E} {es : List Expr} {kk : Nat} {pos : Pos} (ls : LsOk X c bs as es) : PE X (.Tuple es kk pos) (TE_ c X.K bs (.tup as)) :=
  PE.mono (pe_tup ls.pa) fun σ H Q q => by
    obtain ⟨G, σ0, S, d, S', st, sm, hb, e, fin⟩ := q
    simp only [ev] at e
    obtain ⟨xs, S1, e1, e2⟩ := Res.bind_eq_ok e
    obtain ⟨ds, rfl, _⟩ := ls.tup e1
    refine ⟨G, σ0, S, ds, S1, st, sm, hb, e1, fun vs G1 H1 ex x1 sm1 r1 => ?_⟩
    have e3 : newT ds S1 = .ok d S' := e2
    have fin' := fin.after ex x1
    have : S' = S1 := by unfold newT at e3; split at e3 <;> cases e3; rfl
    subst this
    exact newT_fin e3 fin' sm1 r1
theorem v_lst {mu : Bool} {as : E} {es : List Expr} {pos : Pos} (ls : LsOk X c bs as es) : PE X (.List es pos) (TE_ c X.K bs (.lst mu as)) :=
  PE.mono (pe_lst ls.pa) fun σ H Q q => by
    obtain ⟨G, σ0, S, d, S', st, sm, hb, e, fin⟩ := q
    simp only [ev] at e
    obtain ⟨xs, S1, e1, e2⟩ := Res.bind_eq_ok e
    obtain ⟨ds, rfl, _⟩ := ls.tup e1
    exact ⟨G, σ0, S, ds, S1, st, sm, hb, e1, fun vs G1 H1 ex x1 sm1 r1 => newL_fin e2 (fin.after ex x1) sm1 r1⟩
theorem rep_rg {P : Prog} {K : PySem.W.Frag} {G : Gh} {H : Hp} {a : Int} : ∀ l : List Nat, RepL P K G H (l.map fun i => V.int (a + (i : Nat))) (l.map fun (i : Nat) => D.int (a + (i : Int)))
  | [] => .nil
  | _ :: l => .cons (.int _) (rep_rg l)
theorem range1 {mu : Bool} {y d : D} {S S' : Store} (e : opBf c .range mu [y] S = .ok d S') : ∃ b, y = .int b ∧ rgOk 0 b = true ∧ newL mu (rangeL 0 b) S = .ok d S' := by
  cases y <;> simp only [opBf] at e <;> try cases e
  split at e
  · rename_i h; exact ⟨_, rfl, h, e⟩
  · cases e
theorem range2 {mu : Bool} {y z d : D} {S S' : Store} (e : opBf c .range mu [y, z] S = .ok d S') : ∃ a b, y = .int a ∧ z = .int b ∧ rgOk a b = true ∧ newL mu (rangeL a b) S = .ok d S' := by
  cases y <;> cases z <;> simp only [opBf] at e <;> try cases e
  split at e
  · rename_i h; exact ⟨_, _, rfl, rfl, h, e⟩
  · cases e
theorem tuprange1 {mu : Bool} {y d : D} {S S' : Store} (e : opBf c .tuprange mu [y] S = .ok d S') : ∃ b, y = .int b ∧ rgOk 0 b = true ∧ newT (rangeL 0 b) S = .ok d S' := by
  cases y <;> first | (simp [opBf] at e; done) | skip
  simp only [opBf] at e
  split at e
  · rename_i h; exact ⟨_, rfl, h, e⟩
  · cases e
/-- tuple(range(n)) -/
theorem v_tuprange (gd : Gd X c bs k) (en : En X m) {mu : Bool} {as : E} {es : List Expr} {p p2 q0 pos : Pos} (hg : glB m "tuple" = true) (hg2 : glB m "range" = true) (ls : LsOk X c bs as es) :
    PE X (.Call (.Name "tuple" p) [.Call (.Name "range" p2) es [] q0] [] pos) (TE_ c X.K bs (.bf .tuprange mu as)) := by
  have hm := gd.bn "tuple" (by simp [bnames])
  have hm2 := gd.bn "range" (by simp [bnames])
  have rok : ∀ {a b : Int}, rgOk a b = true → RgOk a b := fun {a b} h => by
    unfold rgOk at h
    simp only [Bool.and_eq_true, decide_eq_true_eq] at h
    have := Nat.le_of_ble_eq_true h.2
    unfold szl at this
    exact ⟨h.1.1, h.1.2.1, h.1.2.2.1, h.1.2.2.2, by omega⟩
  have rl : ∀ {G : Gh} {H : Hp} (a b : Int), RepL c.P X.K G H (rgV a b) (rangeL a b) := fun {G H} a b => rep_rg _
  have vac : (∀ ds S, ds.length = es.length → opBf c .tuprange mu ds S = .bad) → PE X (.Call (.Name "tuple" p) [.Call (.Name "range" p2) es [] q0] [] pos) (TE_ c X.K bs (.bf .tuprange mu as)) := fun h => ⟨fun pins s σ H Q I q => by
    obtain ⟨G, σ0, S, d, S', st, sm, hb, e, fin⟩ := q
    simp only [ev] at e
    obtain ⟨xs, S1, e1, e2⟩ := Res.bind_eq_ok e
    obtain ⟨ds, rfl, hl⟩ := ls.tup e1
    rw [show argsOf (D.tup ds) = ds from rfl, h ds S1 hl] at e2; cases e2⟩
  cases ls with
  | nil =>
    refine vac fun ds S h => ?_
    match ds, h with
    | [], _ => rfl
  | @cons a0 s0 x0 r0 h1 h2 h3 h4 =>
    cases h4 with
    | nil =>
      refine PE.mono (pe_tupRg gd.calm (en.gl hg) hm (prg_1 (en.gl hg2) hm2 h2 (star_cons h1)) rfl) fun σ H Q q => ?_
      obtain ⟨G, σ0, S, d, S', st, sm, hb, e, fin⟩ := q
      simp only [ev] at e
      obtain ⟨xs, S1, e1, e2⟩ := Res.bind_eq_ok e
      obtain ⟨y, S2, e3, e1⟩ := Res.bind_eq_ok e1
      simp only [Res.bind_ok] at e1
      cases e1
      refine ⟨G, σ0, S, y, S1, st, sm, hb, e3, fun v G1 H1 ex x1 sm1 r1 => ?_⟩
      obtain ⟨b, rfl, hr, e2⟩ := tuprange1 e2
      obtain rfl := rep_int r1
      exact ⟨b, rfl, rok hr, (newT_fin e2 (fin.after ex x1) sm1 (rl 0 b)).2⟩
    | @cons a1 s1 x1' r1' g1 g2 g3 g4 =>
      refine vac fun ds S h => ?_
      match ds, h with
      | [x, y], _ => cases x <;> rfl
      | x :: y :: z :: r, _ => cases x <;> rfl
/-- list(range(..)) -/
theorem v_range (gd : Gd X c bs k) (en : En X m) {mu : Bool} {as : E} {es : List Expr} {p p2 q0 pos : Pos} (hg : glB m "list" = true) (hg2 : glB m "range" = true) (ls : LsOk X c bs as es) :
    PE X (.Call (.Name "list" p) [.Call (.Name "range" p2) es [] q0] [] pos) (TE_ c X.K bs (.bf .range mu as)) := by
  have hm := gd.bn "list" (by simp [bnames])
  have hm2 := gd.bn "range" (by simp [bnames])
  have rok : ∀ {a b : Int}, rgOk a b = true → RgOk a b := fun {a b} h => by
    unfold rgOk at h
    simp only [Bool.and_eq_true, decide_eq_true_eq] at h
    have := Nat.le_of_ble_eq_true h.2
    unfold szl at this
    exact ⟨h.1.1, h.1.2.1, h.1.2.2.1, h.1.2.2.2, by omega⟩
  have rl : ∀ {G : Gh} {H : Hp} (a b : Int), RepL c.P X.K G H (rgV a b) (rangeL a b) := fun {G H} a b => rep_rg _
  have vac : (∀ ds S, ds.length = es.length → opBf c .range mu ds S = .bad) → PE X (.Call (.Name "list" p) [.Call (.Name "range" p2) es [] q0] [] pos) (TE_ c X.K bs (.bf .range mu as)) := fun h => ⟨fun pins s σ H Q I q => by
    obtain ⟨G, σ0, S, d, S', st, sm, hb, e, fin⟩ := q
    simp only [ev] at e
    obtain ⟨xs, S1, e1, e2⟩ := Res.bind_eq_ok e
    obtain ⟨ds, rfl, hl⟩ := ls.tup e1
    rw [show argsOf (D.tup ds) = ds from rfl, h ds S1 hl] at e2; cases e2⟩
  cases ls with
  | nil =>
    refine vac fun ds S h => ?_
    match ds, h with
    | [], _ => rfl
  | @cons a0 s0 x0 r0 h1 h2 h3 h4 =>
    cases h4 with
    | nil =>
      refine PE.mono (pe_listRg gd.calm (en.gl hg) hm (prg_1 (en.gl hg2) hm2 h2 (star_cons h1)) rfl) fun σ H Q q => ?_
      obtain ⟨G, σ0, S, d, S', st, sm, hb, e, fin⟩ := q
      simp only [ev] at e
      obtain ⟨xs, S1, e1, e2⟩ := Res.bind_eq_ok e
      obtain ⟨y, S2, e3, e1⟩ := Res.bind_eq_ok e1
      simp only [Res.bind_ok] at e1
      cases e1
      refine ⟨G, σ0, S, y, S1, st, sm, hb, e3, fun v G1 H1 ex x1 sm1 r1 => ?_⟩
      obtain ⟨b, rfl, hr, e2⟩ := range1 e2
      obtain rfl := rep_int r1
      exact ⟨b, rfl, rok hr, (newL_fin e2 (fin.after ex x1) sm1 (rl 0 b)).2⟩
    | @cons a1 s1 x1' r1' g1 g2 g3 g4 =>
      cases g4 with
      | nil =>
        refine PE.mono (pe_listRg gd.calm (en.gl hg) hm (prg_2 (hp := star_all (by simp [g1])) (en.gl hg2) hm2 h2 g2 (star_cons h1) (star_cons g1)) rfl) fun σ H Q q => ?_
        obtain ⟨G, σ0, S, d, S', st, sm, hb, e, fin⟩ := q
        simp only [ev] at e
        obtain ⟨xs, S1, e1, e2⟩ := Res.bind_eq_ok e
        obtain ⟨y, S2, e3, e1⟩ := Res.bind_eq_ok e1
        obtain ⟨ys, S3, e4, e1⟩ := Res.bind_eq_ok e1
        obtain ⟨z, S4, e5, e4⟩ := Res.bind_eq_ok e4
        simp only [Res.bind_ok] at e4
        cases e4
        cases e1
        refine ⟨G, σ0, S, y, S2, st, sm, hb, e3, fun v G1 H1 ex x1 sm1 r1 => ⟨G1, σ0, S2, z, S1, st.ext ex, sm1, Nat.le_trans hb (ex.le sm sm1), e5, fun w G2 H2 ex2 x2 sm2 r2 => ?_⟩⟩
        obtain ⟨i, j, rfl, rfl, hr, e2⟩ := range2 e2
        obtain rfl := rep_int r1
        obtain rfl := rep_int r2
        exact ⟨i, j, rfl, rfl, rok hr, (newL_fin e2 (fin.after (ex.trans ex2) (x1.trans x2)) sm2 (rl i j)).2⟩
      | cons _ _ _ _ =>
        refine vac fun ds S h => ?_
        match ds, h with
        | a :: b :: z :: r, h => unfold opBf; split <;> first | rfl | (rename_i q; cases q)
end
end TD

set_option Elab.async false
set_option linter.all false
set_option maxRecDepth 100000
set_option maxHeartbeats 2000000
set_option autoImplicit false
/-! TDy: comprehensions. -/
namespace TD
open PySem PySem.Spec PyProof.Rows L2
section
variable {P : Prog} {K : PySem.W.Frag} {bs : List Nat}
def del (H : Hp) (D : Addr) : Hp := fun a => if a = D then none else H a
theorem del_same {H : Hp} {D : Addr} : del H D D = none := by simp [del]
theorem del_ne {H : Hp} {D a : Addr} (h : a ≠ D) : del H D a = H a := by simp [del, h]
theorem upd_del {H : Hp} {D : Addr} {o : HO} : upd (del H D) D o = upd H D o := by
  funext a
  by_cases h : a = D
  · subst h; simp [upd]
  · rw [upd_ne h, upd_ne h, del_ne h]
theorem upd_self {H : Hp} {D : Addr} {o : HO} (h : H D = some o) : upd (del H D) D o = H := by
  funext a
  by_cases e : a = D
  · subst e; rw [upd_same, h]
  · rw [upd_ne e, del_ne e]
def Gh.pin (G : Gh) (D : Addr) : Gh := { G with pn := fun a => a = D ∨ G.pn a }
def Gh.unpin (G : Gh) (D : Addr) : Gh := { G with pn := fun a => a ≠ D ∧ G.pn a }
/-- a list that a comprehension fills, at D -/
def Acc (P : Prog) (K : PySem.W.Frag) (bs : List Nat) (D : Addr) (Gb : Gh) (Hb : Hp) (Sb : Store) (ds : List TD.D) (Sx : Store) (Hc : Hp) : Prop :=
  ∃ H0 G acc, Hc = upd H0 D (.lst acc) ∧ H0 D = none ∧ Ext Gb Hb G H0 ∧ SX Sb Sx ∧ Sim P K bs G Sx H0 ∧ RepL P K G H0 acc ds
theorem Acc.start {G : Gh} {H : Hp} {S : Store} {D : Addr} (sm : Sim P K bs G S H) (hD : H D = none) : Acc P K bs D G H S [] S (upd H D (.lst [])) := ⟨H, G, [], rfl, hD, .refl, .refl, sm, .nil⟩
theorem Acc.locks {D : Addr} {Gb : Gh} {Hb : Hp} {Sb Sx S2 : Store} {ds : List TD.D} {Hc : Hp} (h : Acc P K bs D Gb Hb Sb ds Sx Hc) (e : StEq Sx S2) (x : SX Sb S2) : Acc P K bs D Gb Hb Sb ds S2 Hc := by
  obtain ⟨H0, G, acc, h1, h2, h3, h4, h5, h6⟩ := h
  exact ⟨H0, G, acc, h1, h2, h3, x, h5.alike e, h6⟩
theorem Acc.rebase {D : Addr} {Ga Gb : Gh} {Ha Hb : Hp} {Sa Sb Sx S2 : Store} {ds : List TD.D} {Hc : Hp} (h : Acc P K bs D Gb Hb Sb ds Sx Hc) (e : Ext Ga Ha Gb Hb) (x : SX Sa Sx) : Acc P K bs D Ga Ha Sa ds Sx Hc := by
  obtain ⟨H0, G, acc, h1, h2, h3, h4, h5, h6⟩ := h
  exact ⟨H0, G, acc, h1, h2, e.trans h3, x, h5, h6⟩
/-- the list set apart meanwhile -/
theorem Acc.opened {D : Addr} {Gb : Gh} {Hb : Hp} {Sb Sx : Store} {ds : List TD.D} {Hc : Hp} (h : Acc P K bs D Gb Hb Sb ds Sx Hc) : ∃ acc Gp, acc.length = ds.length ∧ Hc D = some (.lst acc) ∧ Sim P K bs Gp Sx Hc ∧ Ext Gb Hb Gp Hc ∧ SX Sb Sx ∧
    ∀ G3 H3 S3, Ext Gp Hc G3 H3 → SX Sx S3 → Sim P K bs G3 S3 H3 → H3 D = some (.lst acc) ∧ Acc P K bs D Gb Hb Sb ds S3 H3 ∧ (∀ y d, Rep P K G3 H3 y d → Acc P K bs D Gb Hb Sb (ds ++ [d]) S3 (upd H3 D (.lst (acc ++ [y])))) ∧
      ∃ G4 H4, Ext Gb Hb G4 H4 ∧ Sim P K bs G4 S3 H4 ∧ Ext G3.loose H3 G4.loose H4 ∧ Acc P K bs D G4 H4 S3 ds S3 H3 := by
  obtain ⟨H0, G, acc, rfl, h2, h3, h4, h5, h6⟩ := h
  have npn : ∀ a, G.pn a → a ≠ D := fun a ha z => by
    obtain ⟨⟨o, q⟩, _⟩ := h5.pns a ha
    rw [z, h2] at q; cases q
  have nfz : ∀ a, G.fz a → a ≠ D := fun a ha z => by
    obtain ⟨o, q⟩ := h5.fzs a ha
    rw [z, h2] at q; cases q
  have nrho : ∀ a ∈ G.ρ, a ≠ D := fun a ha z => by
    obtain ⟨o, q, _⟩ := h5.there ha
    rw [z, h2] at q; cases q
  have e1 : Ext G H0 (G.pin D) (upd H0 D (.lst acc)) := by
    have e0 := Ext.fresh (o := .lst acc) h5 h2
    exact ⟨⟨[], by simp [Gh.pin]⟩, e0.fz, e0.same, fun a ha => ⟨.inr ha, (e0.pn a ha).2⟩, e0.tup, e0.frz⟩
  have s1 : Sim P K bs (G.pin D) Sx (upd H0 D (.lst acc)) := by
    have s0 := h5.fresh (o := .lst acc) h2
    refine ⟨s0.len, s0.nd, s0.nf, fun k a c q1 q2 => ?_, s0.fzs, fun a ha => ?_, s0.lv⟩
    · have r := h5.cell k a c q1 q2
      exact r.ext e1 (upd_ne (nrho a (List.mem_of_getElem? q1)))
    · rcases ha with rfl | ha
      · exact ⟨⟨_, upd_same⟩, fun z => nfz _ z rfl, fun z => nrho _ z rfl⟩
      · exact s0.pns a ha
  refine ⟨acc, G.pin D, h6.length, upd_same, s1, h3.trans e1, h4, fun G3 H3 S3 ex x3 sm3 => ?_⟩
  have pD : G3.pn D := (ex.pn D (.inl rfl)).1
  have hD : H3 D = some (.lst acc) := (ex.pn D (.inl rfl)).2.trans upd_same
  obtain ⟨_, fD, rD⟩ := sm3.pns D pD
  -- the list taken away
  have e4 : Ext G3.loose H3 (G3.unpin D).loose (del H3 D) := by
    refine ⟨⟨[], by simp [Gh.loose, Gh.unpin]⟩, fun _ h => h, fun a ha => del_ne fun z => fD (z ▸ ha), fun _ h => h.elim, fun a xs h => ?_, fun a o u h => ?_⟩
    · rw [del_ne]; exact h
      rintro rfl; rw [hD] at h; cases h
    · rw [del_ne]; exact h
      rintro rfl; rw [hD] at h; cases h
  have rp : ∀ {v d}, Rep P K G3 H3 v d → Rep P K (G3.unpin D) (del H3 D) v d := fun {v d} r => (Rep.ext e4 r.loose).tight
  have rpl : ∀ {v d}, RepL P K G3 H3 v d → RepL P K (G3.unpin D) (del H3 D) v d := fun {v d} r => (RepL.ext e4 r.loose).tight
  have sm4 : Sim P K bs (G3.unpin D) S3 (del H3 D) := by
    refine ⟨sm3.len, sm3.nd, sm3.nf, fun k a c q1 q2 => ?_, fun a ha => ?_, fun a ha => ?_, sm3.lv⟩
    · have ne : a ≠ D := fun z => rD (z ▸ List.mem_of_getElem? q1)
      have r := sm3.cell k a c q1 q2
      cases c with
      | lst ds => obtain ⟨vs, z1, z2, z3⟩ := r; exact ⟨vs, (del_ne ne).trans z1, z2, rpl z3⟩
      | lck ds => obtain ⟨vs, z1, z2, z3⟩ := r; exact ⟨vs, (del_ne ne).trans z1, z2, rpl z3⟩
      | ins i fs => obtain ⟨dx, fv, z1, z2, z3, z4⟩ := r; exact ⟨dx, fv, (del_ne ne).trans z1, z2, rpl z3, z4⟩
      | dic _ => exact r.elim
    · obtain ⟨o, q⟩ := sm3.fzs a ha
      have ne : a ≠ D := by rintro rfl; exact fD ha
      exact ⟨o, (del_ne ne).trans q⟩
    · obtain ⟨⟨o, q⟩, q2, q3⟩ := sm3.pns a ha.2
      exact ⟨⟨o, by rw [del_ne ha.1]; exact q⟩, q2, q3⟩
  have e5 : Ext G H0 (G3.unpin D) (del H3 D) := by
    have f := ex
    have sameA : ∀ a, a ≠ D → upd H0 D (.lst acc) a = H0 a := fun a ha => upd_ne ha
    refine ⟨f.pre, fun a ha => f.fz a ha, fun a ha => ?_, fun a ha => ?_, fun a xs h => ?_, fun a o u h => ?_⟩
    · rw [del_ne (nfz a ha), f.same a ha, upd_ne (nfz a ha)]
    · have := f.pn a (.inr ha)
      exact ⟨⟨npn a ha, this.1⟩, by rw [del_ne (npn a ha), this.2, upd_ne (npn a ha)]⟩
    · have ne : a ≠ D := by rintro rfl; rw [h2] at h; cases h
      rw [del_ne ne]
      exact f.tup a xs (by rw [upd_ne ne]; exact h)
    · have ne : a ≠ D := by rintro rfl; rw [h2] at h; cases h
      rw [del_ne ne]
      exact f.frz a o u (by rw [upd_ne ne]; exact h)
  have ra : RepL P K (G3.unpin D) (del H3 D) acc ds := h6.ext e5
  refine ⟨hD, ⟨del H3 D, G3.unpin D, acc, (upd_self hD).symm, del_same, h3.trans e5, h4.trans x3, sm4, ra⟩, fun y d r => ?_, ?_⟩
  · exact ⟨del H3 D, G3.unpin D, acc ++ [y], upd_del.symm, del_same, h3.trans e5, h4.trans x3, sm4, ra.append (.cons (rp r) .nil)⟩
  · exact ⟨G3.unpin D, del H3 D, h3.trans e5, sm4, e4, del H3 D, G3.unpin D, acc, (upd_self hD).symm, del_same, .refl, .refl, sm4, ra⟩
theorem wipe_wipe {σ : L2.St} : ∀ {vs : List Nat}, wipe (wipe σ vs) vs = wipe σ vs := by
  intro vs
  apply List.ext_getElem?
  intro i
  by_cases h : i ∈ vs
  · have key : ∀ (τ : L2.St) (ws : List Nat), i ∈ ws → (wipe τ ws)[i]? = if i < τ.length then some none else none := fun τ ws => by
      induction ws with
      | nil => intro z; cases z
      | cons w ws ih =>
        intro z
        unfold wipe
        by_cases hw : w = i
        · subst hw
          by_cases hl : w < τ.length
          · rw [List.getElem?_set_self (by rw [wipe_length]; exact hl), if_pos hl]
          · rw [List.getElem?_eq_none (by rw [List.length_set, wipe_length]; omega), if_neg hl]
        · rw [List.getElem?_set_ne hw]
          exact ih ((List.mem_cons.mp z).resolve_left fun q => hw q.symm)
    rw [key _ vs h, key _ vs h, wipe_length]
  · rw [wipe_out h]
end
section
variable {X : Cx} {c : Cn} {bs : List Nat} {k : Nat} {m : MC}
def TTs_ (c : Cn) (K : PySem.W.Frag) (bs : List Nat) (e : E) : TT := fun σL H Q => ∃ G σ S b S', StR c.P K G H σ σL ∧ Sim c.P K bs G S H ∧ c.base ≤ S.length ∧ tst (ev c e σ S) = .ok b S' ∧ FinU c.P K bs G H S S' (Q b)
theorem PTs.mono {e : List Expr} {t t' : TT} (h : PTs X e t) (hm : ∀ σ H Q, t' σ H Q → t σ H Q) : PTs X e t' := ⟨fun pins s σ H Q I q => h.run pins s σ H Q I (hm _ _ _ q)⟩
theorem LsOk.pts {e : E} {ifs : List Expr} (ls : LsOk X c bs e ifs) (hl : ifs.length ≤ 1) : PTs X ifs (TTs_ c X.K bs e) := by
  cases ls with
  | nil =>
    refine PTs.mono pts_nil fun σ H Q q => ?_
    obtain ⟨G, σ0, S, b, S', st, sm, hb, e, fin⟩ := q
    simp only [ev, tst, Res.bind_ok] at e
    cases e
    exact fin G H .refl .refl sm
  | cons h1 h2 h3 h4 =>
    cases h4 with
    | nil =>
      refine PTs.mono (pts_one h3) fun σ H Q q => ?_
      obtain ⟨G, σ0, S, b, S', st, sm, hb, e, fin⟩ := q
      unfold tst at e
      obtain ⟨t, S1, e1, e2⟩ := Res.bind_eq_ok e
      obtain ⟨x, S2, xs, e3, e4, rfl⟩ := ev_cons e1
      simp only [ev] at e4
      cases e4
      simp only [argsOf] at e2
      split at e2
      · rename_i z; cases z
      · rename_i b' z
        cases z; cases e2
        exact ⟨G, σ0, S, _, _, st, sm, hb, e3, fin⟩
      · cases e2
    | cons _ _ _ _ => simp at hl
/-- what a clause goes through -/
def TI_ (c : Cn) (K : PySem.W.Frag) (bs : List Nat) (it : ItK) (src : E) : TI := fun σL H R => ∃ G σ S as S1 items, StR c.P K G H σ σL ∧ Sim c.P K bs G S H ∧ c.base ≤ S.length ∧ ev c src σ S = .ok (.tup as) S1 ∧ itemsOf it as S1 = some items ∧
  ∀ J G1 H1, Ext G H G1 H1 → SX S S1 → Sim c.P K bs G1 S1 H1 → Goes c.P K bs J G1 H1 (lockS S1 (refsOf as)) items → R J H1
theorem wd_of {it : ItK} {src : E} {es : List Expr} (ls : LsOk X c bs src es) {σL : L2.St} {H : Hp} {R : It → Hp → Prop} (q : TI_ c X.K bs it src σL H R) : TA_ c X.K bs src σL H fun vs H1 => WD c X.K bs it vs H1 R := by
  obtain ⟨G, σ, S, as, S1, items, st, sm, hb, e, hi, h⟩ := q
  exact ⟨G, σ, S, as, S1, st, sm, hb, e, fun vs G1 H1 ex x1 sm1 r1 => ⟨G1, S1, as, items, sm1, r1, hi, fun J g => h J G1 H1 ex x1 sm1 g⟩⟩
theorem wd_one {it : ItK} {a : E} {σL : L2.St} {H : Hp} {R : It → Hp → Prop} (q : TI_ c X.K bs it (.cons a .nil) σL H R) : TE_ c X.K bs a σL H fun v H1 => WD c X.K bs it [v] H1 R := by
  obtain ⟨G, σ, S, as, S1, items, st, sm, hb, e, hi, h⟩ := q
  obtain ⟨x, S2, xs, e1, e2, e3⟩ := ev_cons e
  simp only [ev] at e2
  cases e2
  cases e3
  exact ⟨G, σ, S, x, S1, st, sm, hb, e1, fun v G1 H1 ex x1 sm1 r1 => ⟨G1, S1, _, items, sm1, .cons r1 .nil, hi, fun J g => h J G1 H1 ex x1 sm1 g⟩⟩
theorem items_range {as : List D} {S : Store} {items : List D} (e : itemsOf .range as S = some items) : as.length = 1 ∨ as.length = 2 ∨ as.length = 3 := by
  match as, e with
  | [], e => simp [itemsOf] at e
  | [_], _ => exact .inl rfl
  | [_, _], _ => exact .inr (.inl rfl)
  | [_, _, _], _ => exact .inr (.inr rfl)
  | a :: b :: z :: y :: r, e => cases a <;> simp [itemsOf] at e
theorem itPx_ok (gd : Gd X c bs k) (en : En X m) {it : ItK} {tg iter : Expr} {es : List Expr} {src : E} (h : itPx m it iter = some es) (ht : tgB it tg = true) (ls : LsOk X c bs src es) : PI X tg iter (TI_ c X.K bs it src) := by
  unfold itPx at h
  split at h
  · cases h
    cases ls with
    | cons h1 h2 h3 h4 =>
      cases h4
      exact PI.mono (pi_kind_val gd h2) fun σ H R q => wd_one q
  · rename_i x p as pos
    split at h
    · rename_i hx
      cases h
      simp only [Bool.and_eq_true, decide_eq_true_eq] at hx
      obtain ⟨rfl, hg⟩ := hx
      by_cases hn : es.length = 1 ∨ es.length = 2 ∨ es.length = 3
      · refine PI.mono (pi_kind_range gd (en.gl hg) ls.star ls.pa hn) fun σ H R q => ?_
        have q' := wd_of ls q
        obtain ⟨G, σ0, S, as, S1, items, st, sm, hb, e, hi, h⟩ := q
        obtain ⟨ds, e3, hl⟩ := ls.tup e
        cases e3
        exact ⟨G, σ0, S, as, S1, st, sm, hb, e, fun vs G1 H1 ex x1 sm1 r1 => ⟨by rw [r1.length, hl], G1, S1, as, items, sm1, r1, hi, fun J g => h J G1 H1 ex x1 sm1 g⟩⟩
      · refine ⟨fun pins s σ H R I q => ?_⟩
        obtain ⟨G, σ0, S, as, S1, items, st, sm, hb, e, hi, h⟩ := q
        obtain ⟨ds, e3, hl⟩ := ls.tup e
        cases e3
        have := items_range hi
        rw [hl] at this
        exact (hn this).elim
    · cases h
  · rename_i x p a pos
    split at h
    · rename_i hx
      cases h
      simp only [Bool.and_eq_true, decide_eq_true_eq] at hx
      obtain ⟨rfl, hg⟩ := hx
      cases tg <;> simp only [tgB] at ht <;> try cases ht
      have hs := ls.star
      simp only [List.all_cons, Bool.and_eq_true] at hs
      exact PI.mono (pi_kind_enum gd (en.gl hg) hs.1 ls.pa) fun σ H R q => wd_of ls q
    · cases h
  · rename_i x p a b pos
    split at h
    · rename_i hx
      cases h
      simp only [Bool.and_eq_true, decide_eq_true_eq] at hx
      obtain ⟨rfl, hg⟩ := hx
      cases tg <;> simp only [tgB] at ht <;> try cases ht
      have hs := ls.star
      simp only [List.all_cons, Bool.and_eq_true] at hs
      exact PI.mono (pi_kind_zip gd (en.gl hg) hs.1 hs.2.1 ls.pa) fun σ H R q => wd_of ls q
    · cases h
  · rename_i x p a pos
    split at h
    · rename_i hx
      cases h
      simp only [Bool.and_eq_true, decide_eq_true_eq] at hx
      obtain ⟨rfl, hg⟩ := hx
      cases ls with
      | cons h1 h2 h3 h4 =>
        cases h4
        exact PI.mono (pi_kind_rev gd (en.gl hg) h1 h2) fun σ H R q => wd_one q
    · cases h
  · cases h
/-- one turn of a clause that ends in the element -/
theorem turn_ok {J : It} {Gj Gb : Gh} {Hj Hb Hc : Hp} {Sj Sb Sx S4 : Store} {items ds ys : List TD.D} {i : Nat} {d0 : TD.D} {D : Addr} {t : Tg} {cs elt : E} {σw : Sl} {σL : L2.St} {vs : List Nat} {Nx : Hp → Prop}
    (hb : c.base ≤ Sb.length) (lenb : Gb.ρ.length = Sb.length) (go : Goes c.P X.K bs J Gj Hj Sj items) (ej : Ext Gj.loose Hj Gb.loose Hb) (xj : SX Sj Sb) (A : Acc c.P X.K bs D Gb Hb Sb ds Sx Hc) (hi : items[i]? = some d0) (e : turnB t (ev c cs) (ev c elt) σw d0 Sx = .ok ys S4)
    (st : StR c.P X.K Gb Hb σw (wipe σL vs)) (ht : tgInB t vs = true) (hlen : ys ≠ [] → ds.length < szl) (hN : ∀ H', Acc c.P X.K bs D Gb Hb Sb (ds ++ ys) S4 H' → Nx H') :
    J.go i Hc ∧ ∀ x H', J.yld i Hc x H' → gT c.P X.K t x (wipe σL vs) H' fun σ2 H2 => wipe σ2 vs = wipe σL vs ∧ TTs_ c X.K bs cs σ2 H2 fun b H3 =>
      if b = true then TE_ c X.K bs elt σ2 H3 fun y H4 => ∃ acc, H4 D = some (.lst acc) ∧ acc.length < sizeLine ∧ Nx (upd H4 D (.lst (acc ++ [y]))) else Nx H3 := by
  obtain ⟨acc, Gp, al, hD, sp, ep, xp, close⟩ := A.opened
  obtain ⟨g1, g2⟩ := go.step i d0 Gp Hc Sx hi (ej.trans ep.loose) (xj.trans xp) sp
  refine ⟨g1, fun x H' y => ?_⟩
  obtain ⟨G2, e2, s2, r2⟩ := g2 x H' y
  have base2 : ∀ {G' : Gh} {H2 : Hp} {S' : Store}, Ext Gp Hc G' H2 → Sim c.P X.K bs G' S' H2 → c.base ≤ S'.length := fun {G' H2 S'} ee ss => by
    obtain ⟨r, hr⟩ := (ep.trans ee).pre
    rw [← ss.len, hr, List.length_append, lenb]; omega
  unfold turnB at e
  split at e
  · cases e
  · rename_i σ' hb'
    refine ⟨G2, σw, d0, σ', (st.ext ep).ext e2, r2, hb', fun σ2 st2 w2 => ⟨(w2 vs ht).trans wipe_wipe, ?_⟩⟩
    obtain ⟨b, S3, e3, e4⟩ := Res.bind_eq_ok e
    refine ⟨G2, σ', Sx, b, S3, st2, s2, base2 e2 s2, e3, fun G3 H3 ex3 x3 s3 => ?_⟩
    cases b with
    | false =>
      simp only [Bool.false_eq_true, if_false] at e4 ⊢
      cases e4
      rw [List.append_nil] at hN
      exact hN _ (close G3 H3 _ (e2.trans ex3) x3 s3).2.1
    | true =>
      simp only [if_true] at e4 ⊢
      obtain ⟨y0, S5, e5, e6⟩ := Res.bind_eq_ok e4
      cases e6
      refine ⟨G3, σ', S3, y0, _, st2.ext ex3, s3, base2 (e2.trans ex3) s3, e5, fun v G4 H4 ex4 x4 s4 r4 => ?_⟩
      obtain ⟨z1, _, z3, _⟩ := close G4 H4 _ ((e2.trans ex3).trans ex4) (x3.trans x4) s4
      exact ⟨acc, z1, by rw [← szl_eq, al]; exact hlen (by simp), hN _ (z3 v y0 r4)⟩
theorem compL_drop {f : TD.D → Store → Res (List TD.D)} {items : List TD.D} {i : Nat} {S S' : Store} {zs : List TD.D} (e : compL f (items.drop i) S = .ok zs S') : (items.length ≤ i ∧ zs = [] ∧ S' = S) ∨ ∃ d ys S1 ws, items[i]? = some d ∧ i < items.length ∧ f d S = .ok ys S1 ∧ compL f (items.drop (i + 1)) S1 = .ok ws S' ∧ zs = ys ++ ws := by
  by_cases h : i < items.length
  · rw [List.drop_eq_getElem_cons h] at e
    simp only [compL] at e
    obtain ⟨ys, S1, e1, e⟩ := Res.bind_eq_ok e
    obtain ⟨ws, S2, e2, e⟩ := Res.bind_eq_ok e
    cases e
    exact .inr ⟨_, ys, S1, ws, List.getElem?_eq_getElem h, h, e1, e2, rfl⟩
  · rw [List.drop_eq_nil_of_le (by omega)] at e
    simp only [compL] at e
    cases e
    exact .inl ⟨by omega, rfl, rfl⟩
theorem noExc_ok {α : Type} {r : Res α} {a : α} {S : Store} (e : noExc r = .ok a S) : r = .ok a S := by
  unfold noExc at e
  split at e
  · cases e
  · exact e
theorem within_ok {α : Type} {S S' : Store} {ks : List Nat} {f : Store → Res α} {a : α} (e : within S ks f = .ok a S') : ∃ S1, f (lockS S ks) = .ok a S1 ∧ S' = unlockS S1 (openS S ks) := by
  unfold within at e
  split at e
  · rename_i b S1 q; cases e; exact ⟨S1, q, rfl⟩
  · cases e
  · cases e
/-- [elt for t in src if cs] -/
theorem comp_te {mu : Bool} {own : List (Str × Nat)} {elt src cs : E} {t : Tg} {it : ItK} {σ : L2.St} {H : Hp} {Q : VK} (ht : tgInB t (own.map (·.2)) = true) (q : TE_ c X.K bs (.comp mu own elt t it src cs) σ H Q) :
    tLc (TI_ c X.K bs it src) (gT c.P X.K t) (TTs_ c X.K bs cs) (TE_ c X.K bs elt) (own.map (·.2)) σ H Q := by
  obtain ⟨G, σ0, S, d, S', st, sm, hb, e, fin⟩ := q
  simp only [ev, compB] at e
  obtain ⟨xs, S1, e1, e⟩ := Res.bind_eq_ok e
  split at e
  · cases e
  · rename_i items hi
    have e := noExc_ok e
    obtain ⟨all, S5, e2, e3⟩ := Res.bind_eq_ok e
    obtain ⟨SE, e4, rfl⟩ := within_ok e2
    have htup : ∃ as, xs = .tup as ∨ argsOf xs = [] := ⟨argsOf xs, by cases xs <;> simp [argsOf]⟩
    have lall := newL_len e3
    -- the source is a tuple of arguments: else nothing is gone through
    have hx : xs = .tup (argsOf xs) := by
      cases xs <;> first | rfl | (simp only [argsOf] at hi; cases it <;> simp [itemsOf] at hi)
    rw [hx] at e1
    refine ⟨G, σ0, S, argsOf xs, S1, items, st, sm, hb, e1, hi, fun J G1 H1 ex1 x1 sm1 go D hD => ?_⟩
    have SL := lockS_eq (refsOf (argsOf xs)) S1
    have smL := sm1.alike SL
    have hb1 : c.base ≤ (lockS S1 (refsOf (argsOf xs))).length := by rw [SL.len]; exact Nat.le_trans hb (ex1.le sm sm1)
    refine ⟨fun i m Hc => m = items.length - i ∧ i ≤ items.length ∧ ∃ ds Sx zs, Acc c.P X.K bs D G1 H1 (lockS S1 (refsOf (argsOf xs))) ds Sx Hc ∧ compL (turnB t (ev c cs) (ev c elt) (wipeD σ0 (own.map (·.2)))) (items.drop i) Sx = .ok zs SE ∧ ds ++ zs = all,
      ⟨items.length, by simp, Nat.zero_le _, [], _, all, Acc.start smL hD, by simpa using e4, rfl⟩, ?_⟩
    rintro i m Hc ⟨rfl, hle, ds, Sx, zs, A, hz, hall⟩
    rcases compL_drop hz with ⟨h1, rfl, rfl⟩ | ⟨d0, ys, S2, ws, h1, h2, h3, h4, rfl⟩
    · have hil : i = items.length := by omega
      subst hil
      rw [List.append_nil] at hall
      subst hall
      left
      obtain ⟨acc0, Gp, al, hD0, sp, ep, xp, _⟩ := A.opened
      refine ⟨go.stop Gp Hc _ ep.loose xp sp, ?_⟩
      obtain ⟨H0, G', acc, rfl, h2, h3, h4, h5, h6⟩ := A
      have xu : SX S1 (unlockS SE (openS S1 (refsOf (argsOf xs)))) := SX.within xp
      have su := h5.alike (unlockS_eq (openS S1 (refsOf (argsOf xs))) SE)
      exact (newL_fin e3 (fin.after (ex1.trans h3) (x1.trans xu)) su h6).2 D h2
    · right
      have hl2 : ys ≠ [] → ds.length < szl := fun hne => by
        have hp : 0 < ys.length := List.length_pos_iff.mpr hne
        have : (ds ++ (ys ++ ws)).length ≤ szl := by rw [hall]; exact lall
        simp only [List.length_append] at this
        omega
      obtain ⟨g1, g2⟩ := turn_ok (Nx := fun H' => Acc c.P X.K bs D G1 H1 (lockS S1 (refsOf (argsOf xs))) (ds ++ ys) S2 H') hb1 (by rw [SL.len]; exact sm1.len) go .refl .refl A h1 h3 ((st.ext ex1).wipe _) ht hl2 fun H' z => z
      exact ⟨g1, _, fun H' z => ⟨items.length - (i + 1), by omega, rfl, h2, ds ++ ys, S2, ws, z, h4, by rw [List.append_assoc]; exact hall⟩, g2⟩
/-- [elt for t in src if cs for t1 in src1 if cs1] -/
theorem comp2_te {mu : Bool} {own : List (Str × Nat)} {vs1 : List Nat} {elt src cs src1 cs1 : E} {t t1 : Tg} {it it1 : ItK} {σ : L2.St} {H : Hp} {Q : VK} (ht : tgInB t (own.map (·.2)) = true) (ht1 : tgInB t1 vs1 = true) (q : TE_ c X.K bs (.comp2 mu own vs1 elt t it src cs t1 it1 src1 cs1) σ H Q) :
    tLc2 (TI_ c X.K bs it src) (gT c.P X.K t) (TTs_ c X.K bs cs) (TI_ c X.K bs it1 src1) (gT c.P X.K t1) (TTs_ c X.K bs cs1) (TE_ c X.K bs elt) (own.map (·.2)) vs1 σ H Q := by
  obtain ⟨G, σ0, S, d, S', st, sm, hb, e, fin⟩ := q
  simp only [ev, comp2B] at e
  obtain ⟨xs, S1, e1, e⟩ := Res.bind_eq_ok e
  split at e
  · cases e
  · rename_i items hi
    have e := noExc_ok e
    obtain ⟨all, S5, e2, e3⟩ := Res.bind_eq_ok e
    obtain ⟨SE, e4, rfl⟩ := within_ok e2
    have lall := newL_len e3
    have hx : xs = .tup (argsOf xs) := by
      cases xs <;> first | rfl | (simp only [argsOf] at hi; cases it <;> simp [itemsOf] at hi)
    rw [hx] at e1
    refine ⟨G, σ0, S, argsOf xs, S1, items, st, sm, hb, e1, hi, fun J G1 H1 ex1 x1 sm1 go D hD => ?_⟩
    have SL := lockS_eq (refsOf (argsOf xs)) S1
    have smL := sm1.alike SL
    have hb1 : c.base ≤ (lockS S1 (refsOf (argsOf xs))).length := by rw [SL.len]; exact Nat.le_trans hb (ex1.le sm sm1)
    have lenb : G1.ρ.length = (lockS S1 (refsOf (argsOf xs))).length := by rw [SL.len]; exact sm1.len
    refine ⟨fun i m Hc => m = items.length - i ∧ i ≤ items.length ∧ ∃ ds Sx zs, Acc c.P X.K bs D G1 H1 (lockS S1 (refsOf (argsOf xs))) ds Sx Hc ∧ compL (turn2B vs1 t (ev c cs) t1 it1 (ev c src1) (ev c cs1) (ev c elt) (wipeD σ0 (own.map (·.2)))) (items.drop i) Sx = .ok zs SE ∧ ds ++ zs = all,
      ⟨items.length, by simp, Nat.zero_le _, [], _, all, Acc.start smL hD, by simpa using e4, rfl⟩, ?_⟩
    rintro i m Hc ⟨rfl, hle, ds, Sx, zs, A, hz, hall⟩
    rcases compL_drop hz with ⟨h1, rfl, rfl⟩ | ⟨d0, ys, S2, ws, h1, h2, h3, h4, rfl⟩
    · have hil : i = items.length := by omega
      subst hil
      rw [List.append_nil] at hall
      subst hall
      left
      obtain ⟨acc0, Gp, al, hD0, sp, ep, xp, _⟩ := A.opened
      refine ⟨go.stop Gp Hc _ ep.loose xp sp, ?_⟩
      obtain ⟨H0, G', acc, rfl, h2, h3, h4, h5, h6⟩ := A
      have xu : SX S1 (unlockS SE (openS S1 (refsOf (argsOf xs)))) := SX.within xp
      have su := h5.alike (unlockS_eq (openS S1 (refsOf (argsOf xs))) SE)
      exact (newL_fin e3 (fin.after (ex1.trans h3) (x1.trans xu)) su h6).2 D h2
    · right
      obtain ⟨acc, Gp, al, hD0, sp, ep, xp, close⟩ := A.opened
      obtain ⟨g1, g2⟩ := go.step i d0 Gp Hc Sx h1 ep.loose xp sp
      refine ⟨g1, fun H' => Acc c.P X.K bs D G1 H1 (lockS S1 (refsOf (argsOf xs))) (ds ++ ys) S2 H', fun H' z => ⟨items.length - (i + 1), by omega, rfl, h2, ds ++ ys, S2, ws, z, h4, by rw [List.append_assoc]; exact hall⟩, fun x H' y => ?_⟩
      obtain ⟨G2, e2', s2, r2⟩ := g2 x H' y
      have base2 : ∀ {G' : Gh} {H2 : Hp} {S' : Store}, Ext Gp Hc G' H2 → Sim c.P X.K bs G' S' H2 → c.base ≤ S'.length := fun {G' H2 S'} ee ss => by
        obtain ⟨r, hr⟩ := (ep.trans ee).pre
        rw [← ss.len, hr, List.length_append, lenb]; omega
      unfold turn2B at h3
      split at h3
      · cases h3
      · rename_i σ' hb'
        refine ⟨G2, wipeD σ0 (own.map (·.2)), d0, σ', (((st.ext ex1).wipe _).ext ep).ext e2', r2, hb', fun σ2 st2 w2 => ⟨(w2 _ ht).trans wipe_wipe, ?_⟩⟩
        obtain ⟨b, S3, e5, e6⟩ := Res.bind_eq_ok h3
        refine ⟨G2, σ', Sx, b, S3, st2, s2, base2 e2' s2, e5, fun G3 H3 ex3 x3 s3 => ?_⟩
        cases b with
        | false =>
          simp only [Bool.false_eq_true, if_false] at e6 ⊢
          cases e6
          rw [List.append_nil]
          exact (close G3 H3 _ (e2'.trans ex3) x3 s3).2.1
        | true =>
          simp only [if_true] at e6 ⊢
          obtain ⟨ys1, S4, e7, e8⟩ := Res.bind_eq_ok e6
          split at e8
          · cases e8
          · rename_i items1 hi1
            obtain ⟨SE1, e9, rfl⟩ := within_ok e8
            have hx1 : ys1 = .tup (argsOf ys1) := by
              cases ys1 <;> first | rfl | (simp only [argsOf] at hi1; cases it1 <;> simp [itemsOf] at hi1)
            rw [hx1] at e7
            refine ⟨G3, σ', S3, argsOf ys1, S4, items1, st2.ext ex3, s3, base2 (e2'.trans ex3) s3, e7, hi1, fun J1 G4 H4 ex4 x4 s4 go1 => ?_⟩
            obtain ⟨_, _, _, G5, H5, ex5, s5, l5, A5⟩ := close G4 H4 S4 ((e2'.trans ex3).trans ex4) (x3.trans x4) s4
            have SL4 := lockS_eq (refsOf (argsOf ys1)) S4
            have A5' : Acc c.P X.K bs D G5 H5 (lockS S4 (refsOf (argsOf ys1))) ds (lockS S4 (refsOf (argsOf ys1))) H4 := by
              obtain ⟨H0, Ga, ac, z1, z2, z3, z4, z5, z6⟩ := A5
              exact ⟨H0, Ga, ac, z1, z2, z3, .refl, z5.alike SL4, z6⟩
            have hb5 : c.base ≤ (lockS S4 (refsOf (argsOf ys1))).length := by rw [SL4.len]; exact base2 ((e2'.trans ex3).trans ex4) s4
            have len5 : G5.ρ.length = (lockS S4 (refsOf (argsOf ys1))).length := by rw [SL4.len]; exact s5.len
            refine ⟨fun j n Hd => n = items1.length - j ∧ j ≤ items1.length ∧ ∃ dd Sy zz, Acc c.P X.K bs D G5 H5 (lockS S4 (refsOf (argsOf ys1))) dd Sy Hd ∧ compL (turnB t1 (ev c cs1) (ev c elt) (wipeD σ' vs1)) (items1.drop j) Sy = .ok zz SE1 ∧ dd ++ zz = ds ++ ys,
              ⟨items1.length, by simp, Nat.zero_le _, ds, _, ys, A5', by simpa using e9, rfl⟩, ?_⟩
            rintro j n Hd ⟨rfl, hle1, dd, Sy, zz, B, hzz, hall1⟩
            rcases compL_drop hzz with ⟨q1, rfl, rfl⟩ | ⟨d1, yy, S6, ww, q1, q2, q3, q4, rfl⟩
            · have hil : j = items1.length := by omega
              subst hil
              rw [List.append_nil] at hall1
              subst hall1
              left
              obtain ⟨_, Gq, _, _, sq, eq, xq, _⟩ := B.opened
              refine ⟨go1.stop Gq Hd _ (l5.trans eq.loose) xq sq, ?_⟩
              have xw : SX (lockS S1 (refsOf (argsOf xs))) (unlockS SE1 (openS S4 (refsOf (argsOf ys1)))) := ((xp.trans x3).trans x4).trans (SX.within xq)
              obtain ⟨H0, Ga, ac, z1, z2, z3, z4, z5, z6⟩ := B
              exact ⟨H0, Ga, ac, z1, z2, ex5.trans z3, xw, z5.alike (unlockS_eq _ _), z6⟩
            · right
              have hl3 : yy ≠ [] → dd.length < szl := fun hne => by
                have hp : 0 < yy.length := List.length_pos_iff.mpr hne
                have a1 : (ds ++ (ys ++ ws)).length ≤ szl := by rw [hall]; exact lall
                have a2 := congrArg List.length hall1
                simp only [List.length_append] at a1 a2
                omega
              have ewk : Ext G3 H3 G4 H4 := ex4
              have st5 : StR c.P X.K G5 H5 σ' σ2 := by
                have := (st2.ext ex3).ext ex4
                refine ⟨this.1, fun i d q => ?_⟩
                obtain ⟨v, a1, a2⟩ := this.2 i d q
                exact ⟨v, a1, (Rep.ext l5 a2.loose).tight⟩
              obtain ⟨t1', t2'⟩ := turn_ok (Nx := fun H' => Acc c.P X.K bs D G5 H5 (lockS S4 (refsOf (argsOf ys1))) (dd ++ yy) S6 H') hb5 len5 go1 l5 .refl B q1 q3 (st5.wipe vs1) ht1 hl3 fun H' z => z
              exact ⟨t1', _, fun H' z => ⟨items1.length - (j + 1), by omega, rfl, q2, dd ++ yy, S6, ww, z, q4, by rw [List.append_assoc]; exact hall1⟩, t2'⟩
end
end TD

set_option Elab.async false
set_option linter.all false
set_option maxRecDepth 100000
set_option maxHeartbeats 4000000
set_option autoImplicit false
/-! TDl: len(set(texts)). -/
namespace TD
open PySem PySem.Spec PyProof.Rows
theorem metS_take {xs : List Str} {i : Nat} (h : i < xs.length) : metS (xs.take (i + 1)) = stepS (metS (xs.take i)) (xs.getD i Str.empty) := by
  unfold metS
  rw [List.take_succ, List.foldl_append, List.getD_eq_getElem?_getD, List.getElem?_eq_getElem h]
  rfl
theorem metS_le : ∀ (xs : List Str) (σ : List Str), (xs.foldl stepS σ).length ≤ σ.length + xs.length
  | [], σ => by simp
  | x :: xs, σ => by
    rw [List.foldl_cons]
    have h1 := metS_le xs (stepS σ x)
    have h2 : (stepS σ x).length ≤ σ.length + 1 := by
      unfold stepS
      split <;> simp
    simp only [List.length_cons]; omega
theorem stepS_any (σ : List Str) (v k : Str) : (stepS σ v).any (· == k) = (σ.any (· == k) || decide (k = v)) := by
  unfold stepS
  by_cases h : σ.any (· == v) = true
  · rw [if_pos h]
    by_cases e : k = v
    · subst e; rw [h]; simp
    · simp [e]
  · rw [if_neg h, List.any_append]
    by_cases e : k = v
    · subst e; simp
    · have hb : (v == k) = false := beq_eq_false_iff_ne.mpr fun z => e z.symm
      simp [hb, e]
theorem stepS_len (σ : List Str) (v : Str) : (stepS σ v).length = if σ.any (· == v) then σ.length else σ.length + 1 := by
  unfold stepS; split <;> simp
section
variable {prog : Program} {w : World} {A : Around} {R : Result → Shared → Prop} {I : Addr} {fp wr : List Addr} {G : Array GenState → Array GenState → Prop} {n : Nat} {P : Nat → Value → Prop} {St : Nat → Shared → Prop}
/-- the loop that puts texts into a set -/
theorem set_loop (W : WalksS prog w A.in1 I fp wr G n P St) (S : Addr) (hSf : S ∉ fp) (xs : List Str) (hsz : xs.length = n) (hb : n + 1 < scanBound) (hval : ∀ i v, P i v → ∃ t, v = .str (xs.getD i Str.empty) t) :
    ∀ (k i : Nat) (s : Shared), n - i = k → i ≤ n → St i s → s.heap.SetOf (PySem.strKind prog w) S (fun z => (metS (xs.take i)).any (· == z)) (metS (xs.take i)).length →
      (∀ s', Moved (S :: wr) G s s' → s'.heap.SetOf (PySem.strKind prog w) S (fun z => (metS (xs.take n)).any (· == z)) (metS (xs.take n)).length → R (.ok (.ret .none)) s') →
      codeAny (model prog w) A (.builtin "set.update.loop" ⟨[.ref S, .ref I], []⟩) R s := by
  have nS : S ∉ wr := fun h => hSf (W.sub _ h)
  have sub : ∀ b ∈ wr, b ∈ S :: wr := fun b hb => List.mem_cons_of_mem _ hb
  intro k
  induction k with
  | zero =>
    intro i s hk hi hst hS hR
    obtain rfl : i = n := by omega
    refine codeAny_builtin PyProof.Rows.F.entry_set_update_loop ?_
    rw [Around.under_plainId PyProof.Rows.F.plain_set_update_loop _]
    show wpAny _ A.in1 (pyNext (.ref I) >>= _) _ _ s
    refine wpAny_bind (W.done s _ _ hst fun s' hm => ?_)
    show wpAny _ A.in1 (ret Value.none) _ _ s'
    obtain ⟨o, es, ep, t, ho, rest⟩ := hS
    exact wpAny_pure (hR s' (hm.mono sub) ⟨o, es, ep, t, hm.heap S _ nS ho, rest⟩)
  | succ k ih =>
    intro i s hk hi hst hS hR
    have lt : i < n := by omega
    refine codeAny_builtin PyProof.Rows.F.entry_set_update_loop ?_
    rw [Around.under_plainId PyProof.Rows.F.plain_set_update_loop _]
    show wpAny _ A.in1 (pyNext (.ref I) >>= _) _ _ s
    refine wpAny_bind (W.item i s _ _ lt hst fun v s' hP hst' hm => ?_)
    obtain ⟨t, rfl⟩ := hval i v hP
    have hS' : s'.heap.SetOf (PySem.strKind prog w) S (fun z => (metS (xs.take i)).any (· == z)) (metS (xs.take i)).length := by
      obtain ⟨o, es, ep, tb, ho, rest⟩ := hS
      exact ⟨o, es, ep, tb, hm.heap S _ nS ho, rest⟩
    have room : (metS (xs.take i)).length + 1 < scanBound := by
      have h1 := metS_le (xs.take i) []
      have h2 : (xs.take i).length ≤ i := by rw [List.length_take]; omega
      unfold metS
      simp only [List.length_nil] at h1
      omega
    show wpAny _ A.in1 (holding [Value.str (xs.getD i Str.empty) t] (setAdd S (.str (xs.getD i Str.empty) t)) >>= _) _ _ s'
    refine wpAny_bind (wpAny_holding ?_)
    unfold setAdd
    refine wpAny_holding (wpAny_bind ((PySem.strKind prog w).pyHash (k := xs.getD i Str.empty) (strKind_is _ _ _ _) ?_))
    refine wpAny_setAddHashed_of (knd := PySem.strKind prog w) (s := { s' with toks := s'.toks + 1 }) (strKind_is _ _ _ _) rfl hS' room fun h' hsb hS2 => ?_
    have hS3 : h'.SetOf (PySem.strKind prog w) S (fun z => (metS (xs.take (i + 1))).any (· == z)) (metS (xs.take (i + 1))).length :=
      SetOf_congr hS2 (fun z => by rw [metS_take (by omega), stepS_any]) (by rw [metS_take (by omega), stepS_len])
    refine wpAny_pure ⟨plainId_quiet PyProof.Rows.F.plain_set_update_loop _, ih (i + 1) _ (by omega) lt (W.frame _ s' _ _ hst' (Nat.le_succ _) fun b hb o e => ?_) hS3 fun s'' hm'' hS'' => ?_⟩
    · rw [hsb.2 b (fun h : b = S => hSf (by rw [← h]; exact hb))]; exact e
    · refine hR s'' (Moved.trans W.gtrans ((hm.mono sub).then_heap (Nat.le_succ _) fun b o hb e => ?_) hm'') hS''
      rw [hsb.2 b (fun h : b = S => hb (by rw [h]; exact List.mem_cons_self))]; exact e
end
/-- what set(..) asks of the type whose items it takes -/
structure Took (prog : Program) (w : World) (l : Addr) (items : Array Value) (T TI : String) (st : Heap → Addr → Nat → Prop) : Prop where
  s1 : isSubtype (.type T) (.type "set") = pure false
  s2 : isSubtype (.type T) (.type "frozenset") = pure false
  nd : (Value.type T == Value.type "dict") = false
  iter : ∀ (A : Around) (E : Value → Shared → Prop) (Q : Value → Shared → Prop) (s : Shared) (o : Obj) (n : Nat), s.heap.get? l = some o → o.cls = .type T → o.data = .seq items n → Q (.ref s.heap.objs.size) { s with heap := s.heap.push { cls := .type TI, data := .fields #[.ref l, .int 0 0] } } → wpAny (model prog w) A (pyIter (.ref l)) Q E s
  walk : ∀ (A : Around) (I : Addr), A.handled = none → l ≠ I → WalksS prog w A I [I, l] [I] (fun a b => b = a) items.size (fun i v => items[i]? = some v) (fun i s => st s.heap I i ∧ ∃ o, s.heap.get? l = some o ∧ o.cls = .type T ∧ ∃ n, o.data = .seq items n)
  at0 : ∀ (h : Heap) (o : Obj), o = { cls := .type TI, data := .fields #[.ref l, .int 0 0] } → ∀ I, h.get? I = some o → st h I 0
section
variable {prog : Program} {w : World} {A : Around} {E : Value → Shared → Prop} {s : Shared}
/-- set(l): the texts without those met before -/
theorem set_of {l : Addr} {items : Array Value} {xs : List Str} {T TI : String} {st : Heap → Addr → Nat → Prop} {od : Option Addr} {os : Array (Option Value)} {nl : Nat} {Q : Value → Shared → Prop} (K : Took prog w l items T TI st) (hh : A.handled = none) (hl : s.heap.get? l = some { cls := .type T, dict := od, data := .seq items nl, slots := os })
    (hi : PyProof.Rows.StrsAre items.toList xs) (hn : items.size + 1 < scanBound)
    (h : ∀ (h' : Heap) (tk : Nat), h'.SetOf (PySem.strKind prog w) s.heap.objs.size (fun z => (metS xs).any (· == z)) (metS xs).length → (∀ b o, b < s.heap.objs.size → s.heap.get? b = some o → h'.get? b = some o) → Q (.ref s.heap.objs.size) { s with heap := h', toks := tk }) :
    wpAny (model prog w) A (call (.type "set") [.ref l]) Q E s := by
  have lt : l < s.heap.objs.size := Heap.lt_size hl
  have sz : xs.length = items.size := by rw [← StrsAre.len_eq hi, Array.length_toList]
  obtain ⟨c, tl, mro⟩ := PySem.F.called_set.mro
  have made := PySem.F.called_set.made
  have sub := PySem.F.called_set.sub
  have notType := PySem.F.called_set.notType
  have canCreate := PySem.F.called_set.canCreate
  have typeCall := PySem.F.typeCall_set_1 (.ref l)
  apply wpAny_call
  apply codeAny_of_tree
  show wpAny _ _ (callAny (.type "set") _) _ _ _
  refine wpAny_pure ⟨Code.quiet_builtin _ (by decide +kernel), codeAny_builtin PySem.F.entry_type_call ?_⟩
  rw [Around.under_plain (weight_type_call_type "set" [.ref l] []) rfl]
  repeat (any_goals (first | assumption | wp_step))
  -- the empty set
  apply codeAny_mono (code_set_new_1 (.ref l) (E := E) (Q₁ := fun v s1 => ∃ led : Bool, v = .ref s.heap.objs.size ∧ s1 = { s with heap := s.heap.push { cls := .type "set", dict := none, data := .set #[] 0 (.fresh 0 0 led) } }) fun led => ⟨led, rfl, rfl⟩)
  intro r s1 hr
  match r, hr with
  | .error e, hr => exact hr
  | .ok (.ret v), hr =>
    obtain ⟨led, rfl, rfl⟩ := hr
    have g0 : (s.heap.push { cls := .type "set", dict := none, data := .set #[] 0 (.fresh 0 0 led) }).get? s.heap.objs.size = some { cls := .type "set", dict := none, data := .set #[] 0 (.fresh 0 0 led) } := Heap.get?_push_size _ rfl
    have isSet : Shared.TypeIs { s with heap := s.heap.push { cls := .type "set", dict := none, data := .set #[] 0 (.fresh 0 0 led) } } (.ref s.heap.objs.size) "set" := ⟨_, g0, rfl⟩
    have gl : (s.heap.push { cls := .type "set", dict := none, data := .set #[] 0 (.fresh 0 0 led) }).get? l = some { cls := .type T, dict := od, data := .seq items nl, slots := os } := Heap.get?_push_of_some _ hl
    have look := PySem.F.called_set.init.lookup
    have bind := PySem.F.called_set.init.bind (.ref s.heap.objs.size)
    repeat (any_goals (first | assumption | wp_step))
    -- __init__
    apply codeAny_mono (codeAny_call_builtin (R := wants (fun v s2 => v = .none ∧ ∃ h' tk, s2 = { s with heap := h', toks := tk } ∧ h'.SetOf (PySem.strKind prog w) s.heap.objs.size (fun z => (metS xs).any (· == z)) (metS xs).length ∧ (∀ b o, b < s.heap.objs.size → s.heap.get? b = some o → h'.get? b = some o)) E) PySem.F.called_set.init.plain PySem.F.entry_set_init (check_set_init_1 isSet ?_))
    · intro r2 s2 hr2
      match r2, hr2 with
      | .error e, hr2 => exact hr2
      | .ok (.ret v), hr2 =>
        obtain ⟨rfl, h', tk, rfl, q1, q2⟩ := hr2
        repeat (any_goals (first | assumption | wp_step))
        exact h _ _ q1 q2
      | .ok .next, hr2 => exact hr2.elim
      | .ok .brk, hr2 => exact hr2.elim
      | .ok .cont, hr2 => exact hr2.elim
    · have k1 := K.s1
      have k2 := K.s2
      have k3 := K.nd
      unfold Builtin.«set.__init__» noKeywords Builtin.Frozenset.updateFrom
      generalize hPI : pyIter = PI
      wp_walk
      subst hPI
      refine K.iter _ _ _ _ _ _ gl rfl rfl (wpAny_bind (wpAny_runValue ?_))
      generalize hJ : (s.heap.push { cls := .type "set", dict := none, data := .set #[] 0 (.fresh 0 0 led) }).objs.size = J
      have eJ : J = s.heap.objs.size + 1 := by rw [← hJ, Heap.size_push]
      have nJ : l ≠ J := Nat.ne_of_lt (by rw [eJ]; exact Nat.lt_succ_of_lt lt)
      have nS : s.heap.objs.size ∉ [J, l] := by
        simp only [List.mem_cons, List.not_mem_nil, or_false, not_or]
        exact ⟨Nat.ne_of_lt (by rw [eJ]; exact Nat.lt_succ_self _), Nat.ne_of_gt lt⟩
      have vals : ∀ (i : Nat) (v : Value), items[i]? = some v → ∃ t, v = .str (xs.getD i Str.empty) t := fun i v hv => SS.strs_at hi i v (by rw [Array.getElem?_toList]; exact hv)
      refine set_loop (K.walk _ J (by simp [hh]) nJ) s.heap.objs.size nS xs sz hn vals (items.size - 0) 0 _ (by omega) (Nat.zero_le _) ⟨K.at0 _ _ rfl J (by rw [← hJ]; exact Heap.get?_push_size _ rfl), _, Heap.get?_push_of_some _ gl, rfl, _, rfl⟩ ?_ ?_
      · exact PyProof.Rows.SetOf_congr ((PyProof.Rows.setObjOf_fresh (knd := PySem.strKind prog w) led).setOf (Heap.get?_push_of_some _ g0) (by unfold scanBound; omega)) (fun _ => rfl) rfl
      · intro s' hm hS'
        obtain ⟨h', g', d', tk', os'⟩ := s'
        obtain rfl : g' = s.gens := hm.gens
        obtain rfl : d' = s.drawn := hm.drawn
        obtain rfl : os' = s.os := hm.os
        rw [show xs.take items.size = xs from by rw [← sz, List.take_length]] at hS'
        show wpAny _ _ _ _ _ _
        refine wpAny_pure ?_
        show wpAny _ _ (ret Value.none) _ _ _
        refine wpAny_pure ⟨rfl, h', tk', rfl, hS', fun b o hb e => hm.heap b o ?_ (Heap.get?_push_of_some _ (Heap.get?_push_of_some _ e))⟩
        simp only [List.mem_cons, List.not_mem_nil, or_false, not_or]
        exact ⟨Nat.ne_of_lt hb, Nat.ne_of_lt (by rw [eJ]; exact Nat.lt_succ_of_lt hb)⟩
  | .ok .next, hr => exact hr.elim
  | .ok .brk, hr => exact hr.elim
  | .ok .cont, hr => exact hr.elim
/-- of a list -/
theorem took_list (l : Addr) (items : Array Value) : Took prog w l items "list" "list_iterator" (fun h I i => h.IsListIter I l i) where
  s1 := PySem.F.sub_list_set
  s2 := PySem.F.sub_list_frozenset
  nd := by decide
  iter := fun A E Q s o n h1 h2 h3 hQ => wpAny_pyIter_list (items := items) ⟨o, h1, h2, n, h3⟩ hQ
  walk := fun A I hh hne => (Walks.list hh I l hne items).toS
  at0 := fun h o e I hI => ⟨o, hI, by rw [e], by rw [e] <;> rfl⟩
/-- of a tuple -/
theorem took_tuple (l : Addr) (items : Array Value) : Took prog w l items "tuple" "tuple_iterator" (fun h I i => h.IsTupleIter I l i) where
  s1 := PySem.F.sub_tuple_set
  s2 := PySem.F.sub_tuple_frozenset
  nd := by decide
  iter := fun A E Q s o n h1 h2 h3 hQ => wpAny_pyIter_tuple (items := items) ⟨o, h1, h2, n, h3⟩ hQ
  walk := fun A I hh hne => (Walks.tuple hh I l hne items).toS
  at0 := fun h o e I hI => ⟨o, hI, by rw [e], by rw [e] <;> rfl⟩
end
end TD
namespace TD
open PySem PySem.Spec PyProof.Rows L2
section
variable {X : Cx} {c : Cn} {bs : List Nat} {k : Nat} {m : MC}
theorem lenset1 {mu : Bool} {y d : D} {S S' : Store} (e : opBf c .lenset mu [y] S = .ok d S') : ∃ xs ys, seqA S y = some ys ∧ strsOf ys = some xs ∧ xs.length ≤ 4000 ∧ d = .int (metS xs).length ∧ S' = S := by
  simp only [opBf] at e
  split at e
  · rename_i xs h
    obtain ⟨ys, h1, h2⟩ := Option.bind_eq_some_iff.mp h
    split at e
    · rename_i hl
      cases e
      exact ⟨xs, ys, h1, h2, Nat.le_of_ble_eq_true hl, rfl, rfl⟩
    · cases e
  · cases e
theorem texts_are : ∀ {xs : List Str} {us : List Value}, Vals (xs.map V.str) us → StrsAre us xs
  | [], _, .nil => .nil
  | x :: xs, _, .cons r t => by
    obtain ⟨k, rfl⟩ := r
    exact .cons x k (texts_are t)
/-- len(set(texts)) -/
theorem v_lenset (gd : Gd X c bs k) (en : En X m) {mu : Bool} {as : E} {es : List Expr} {p p2 q0 pos : Pos} (hg : glB m "len" = true) (hg2 : glB m "set" = true) (ls : LsOk X c bs as es) :
    PE X (.Call (.Name "len" p) [.Call (.Name "set" p2) es [] q0] [] pos) (TE_ c X.K bs (.bf .lenset mu as)) := by
  have hm := gd.bn "len" (by simp [bnames])
  have hm2 := gd.bn "set" (by simp [bnames])
  have vac : (∀ ds S, ds.length = es.length → opBf c .lenset mu ds S = .bad) → PE X (.Call (.Name "len" p) [.Call (.Name "set" p2) es [] q0] [] pos) (TE_ c X.K bs (.bf .lenset mu as)) := fun h => ⟨fun pins s σ H Q I q => by
    obtain ⟨G, σ0, S, d, S', st, sm, hb, e, fin⟩ := q
    simp only [ev] at e
    obtain ⟨xs, S1, e1, e2⟩ := Res.bind_eq_ok e
    obtain ⟨ds, rfl, hl⟩ := ls.tup e1
    rw [show argsOf (D.tup ds) = ds from rfl, h ds S1 hl] at e2; cases e2⟩
  cases ls with
  | nil =>
    refine vac fun ds S h => ?_
    match ds, h with
    | [], _ => rfl
  | @cons a0 s0 x0 r0 h1 h2 h3 h4 =>
    cases h4 with
    | cons _ _ _ _ =>
      refine vac fun ds S h => ?_
      match ds, h with
      | a :: b :: r, h => rfl
    | nil =>
      refine ⟨fun pins s σ H Q I q => ?_⟩
      obtain ⟨G, σ0, S, d, S', st, sm, hb, e, fin⟩ := q
      simp only [ev] at e
      obtain ⟨xs, S1, e1, e2⟩ := Res.bind_eq_ok e
      obtain ⟨y, S2, e3, e1⟩ := Res.bind_eq_ok e1
      simp only [Res.bind_ok] at e1
      cases e1
      obtain ⟨zs, ys, g1, g2, g3, rfl, rfl⟩ := lenset1 e2
      refine Call_ (ld_blt I (en.gl hg) hm boot_len ?_)
      refine PyProof.Rows.callWith_builtin1 (PyProof.Rows.args_cons ?_ rfl) rfl rfl
      refine Call_ (ld_blt I (en.gl hg2) hm2 boot_set ?_)
      refine PyProof.Rows.callWith_type1 (PyProof.Rows.args_cons (thn (h2.run pins s σ H (fun v H1 => ∃ G1, Ext G H G1 H1 ∧ SX S S' ∧ Sim c.P X.K bs G1 S' H1 ∧ Rep c.P X.K G1 H1 v y) I ⟨G, σ0, S, y, S', st, sm, hb, e3, fun v G1 H1 ex x1 sm1 r1 => ⟨G1, ex, x1, sm1, r1⟩⟩) fun u s1 ⟨v, H1, I1, rv, G1, ex, x1, sm1, r1⟩ => PyProof.Rows.args_nil ?_) (star_cons h1)) (star_cons h1) rfl
      obtain ⟨l, vs, rfl, hq, _, rl⟩ := seqA_rep sm1 r1 g1
      obtain rfl := strs_rep rl g2
      cases (show u = Value.ref l from rv)
      have fin2 : ∀ (h' : Heap) (tk : Nat), h'.SetOf (PySem.strKind X.prog X.w) s1.heap.objs.size (fun z => (metS zs).any (· == z)) (metS zs).length → (∀ b o, b < s1.heap.objs.size → s1.heap.get? b = some o → h'.get? b = some o) →
          wpAny (model X.prog X.w) X.A (spliced (backTo pos (starEach [] X.env))) (fun vs s₂ => wpAny (model X.prog X.w) X.A (call (.builtin "len") (Value.ref s1.heap.objs.size :: vs)) (EP X pins σ Q) X.xe s₂) X.xe { s1 with heap := h', toks := tk } := fun h' tk hS hk => by
        refine PyProof.Rows.args_nil ?_
        obtain ⟨o, es, ep, t, ho, hex, hd, _, _, _, hf, hn⟩ := hS
        have I2 : Inv X pins σ H1 { s1 with heap := h', toks := tk } := I1.kept fun b o e => hk b o (Heap.lt_size e) e
        have hle : (metS zs).length ≤ zs.length := by
          have := metS_le zs []
          simpa [metS] using this
        exact call_len_set ho hex hd hf (by rw [hn] <;> omega) ⟨.int (metS zs).length, H1, I2.tok _, ⟨_, by rw [hn]⟩, fin _ G1 H1 ex x1 sm1 (.int _)⟩
      rcases hq with hq | hq
      · obtain ⟨its, r, pl, hz⟩ := I1.list hq
        obtain ⟨⟨oc, od, dt, os⟩, g4, g5, n, g6⟩ := pl.isList
        simp only at g5 g6
        subst g5 g6
        have hl : its.toArray.size = zs.length := by rw [List.size_toArray, ← r.length, List.length_map]
        exact set_of (took_list l its.toArray) (I1.ok.hd gd.calm) g4 (by simpa using texts_are r) (by rw [hl]; unfold scanBound; omega) fin2
      · obtain ⟨its, r, pl, hz⟩ := I1.tuple hq
        obtain ⟨⟨oc, od, dt, os⟩, g4, g5, n, g6⟩ := pl
        simp only at g5 g6
        subst g5 g6
        have hl : its.toArray.size = zs.length := by rw [List.size_toArray, ← r.length, List.length_map]
        exact set_of (took_tuple l its.toArray) (I1.ok.hd gd.calm) g4 (by simpa using texts_are r) (by rw [hl]; unfold scanBound; omega) fin2
end
end TD

set_option Elab.async false
set_option linter.all false
set_option maxRecDepth 100000
set_option maxHeartbeats 4000000
set_option autoImplicit false
/-! TDz: every expression. -/
namespace TD
open PySem PySem.Spec PyProof.Rows L2
theorem and2 {a b : Bool} (h : (a && b) = true) : a = true ∧ b = true := by simpa using h
section
variable {X : Cx} {c : Cn} {bs : List Nat} {k : Nat} {m : MC}
theorem gd_blk (gd : Gd X c bs k) {s : Shared} {H : Hp} {scope : Scope} {cenv : Env} {fp : List Addr} : Gd (X.blk s H scope cenv fp) c bs k :=
  ⟨gd.calm, gd.nd, gd.room, gd.hbs, gd.nmd, gd.bn, gd.fn, gd.cl, gd.dun, gd.ln, gd.nf, gd.gl, gd.kit⟩
theorem en_blk (en : En X m) {s : Shared} {H : Hp} {scope : Scope} {cl : List (Str × Addr)} {C : Addr} {fp : List Addr} : En (X.blk s H scope (compEnvC scope cl C X.env) fp) (blkM m scope) :=
  ⟨en.N, by show relS scope X.env.scope = relS scope m.sc; rw [en.sc], rfl⟩
end
def OKE (e : E) : Prop := ∀ (X : Cx) (m : MC) (c : Cn) (bs : List Nat) (k : Nat), Gd X c bs k → En X m → m.P = c.P →
  (∀ x, mt m e (.one x) = true → PE X x (TE_ c X.K bs e) ∧ PT X x (TT_ c X.K bs e)) ∧ ∀ es, mt m e (.many es) = true → LsOk X c bs e es
theorem ok_of {e : E} (h : ∀ (X : Cx) (m : MC) (c : Cn) (bs : List Nat) (k : Nat), Gd X c bs k → En X m → m.P = c.P → ∀ x, mt m e (.one x) = true → PE X x (TE_ c X.K bs e) ∧ PT X x (TT_ c X.K bs e)) (hn : ∀ m es, mt m e (.many es) = true → False) : OKE e :=
  fun X m c bs k gd en hP => ⟨h X m c bs k gd en hP, fun es q => (hn m es q).elim⟩
theorem with_pt {X : Cx} {c : Cn} {bs : List Nat} {x : Expr} {e : E} (h : PE X x (TE_ c X.K bs e)) (he : ∀ whole, isTrue x X.env whole = (do let v ← whole; standAt x.pos; holding [v] (truthy v))) : PE X x (TE_ c X.K bs e) ∧ PT X x (TT_ c X.K bs e) := ⟨h, pt_of h he⟩
theorem oke_var (i : Nat) : OKE (.var i) := ok_of (fun X m c bs k gd en hP x h => by
  cases x <;> first | exact absurd h Bool.false_ne_true | skip
  exact with_pt (v_var gd en h) fun _ => rfl) fun m es h => absurd h Bool.false_ne_true
theorem oke_lit (v : V) : OKE (.lit v) := ok_of (fun X m c bs k gd en hP x h => by
  cases x <;> first | exact absurd h Bool.false_ne_true | skip
  exact with_pt (v_lit h) fun _ => rfl) fun m es h => absurd h Bool.false_ne_true
theorem oke_glob (g : Nat) : OKE (.glob g) := ok_of (fun X m c bs k gd en hP x h => by
  cases x <;> first | exact absurd h Bool.false_ne_true | skip
  exact with_pt (v_glob gd en hP h) fun _ => rfl) fun m es h => absurd h Bool.false_ne_true
theorem oke_bin (mu : Bool) (op : BOp) {a b : E} (ia : OKE a) (ib : OKE b) : OKE (.bin mu op a b) := ok_of (fun X m c bs k gd en hP x h => by
  cases x <;> first | exact absurd h Bool.false_ne_true | skip
  obtain ⟨h1, h3⟩ := and2 h
  obtain ⟨h1, h2⟩ := and2 h1
  cases opB_eq h1
  exact with_pt (v_bin gd ((ia X m c bs k gd en hP).1 _ h2).1 ((ib X m c bs k gd en hP).1 _ h3).1) fun _ => rfl) fun m es h => absurd h Bool.false_ne_true
theorem oke_neg {a : E} (ia : OKE a) : OKE (.neg a) := ok_of (fun X m c bs k gd en hP x h => by
  cases x <;> first | exact absurd h Bool.false_ne_true | skip
  rename_i op x pos
  cases op <;> first | exact absurd h Bool.false_ne_true | skip
  exact with_pt (v_neg gd ((ia X m c bs k gd en hP).1 _ h).1) fun _ => rfl) fun m es h => absurd h Bool.false_ne_true
theorem oke_inv {a : E} (ia : OKE a) : OKE (.inv a) := ok_of (fun X m c bs k gd en hP x h => by
  cases x <;> first | exact absurd h Bool.false_ne_true | skip
  rename_i op x pos
  cases op <;> first | exact absurd h Bool.false_ne_true | skip
  exact with_pt (v_inv gd ((ia X m c bs k gd en hP).1 _ h).1) fun _ => rfl) fun m es h => absurd h Bool.false_ne_true
theorem oke_not {a : E} (ia : OKE a) : OKE (.not a) := ok_of (fun X m c bs k gd en hP x h => by
  cases x <;> first | exact absurd h Bool.false_ne_true | skip
  rename_i op x pos
  cases op <;> first | exact absurd h Bool.false_ne_true | skip
  obtain ⟨h1, h2⟩ := (ia X m c bs k gd en hP).1 _ h
  exact v_not h1 h2) fun m es h => absurd h Bool.false_ne_true
theorem oke_cmp (op : COp) {a b : E} (ia : OKE a) (ib : OKE b) : OKE (.cmp op a b) := ok_of (fun X m c bs k gd en hP x h => by
  cases x <;> first | exact absurd h Bool.false_ne_true | skip
  rename_i l ops rs pos
  match ops, rs, h with
  | [o], [r], h =>
    obtain ⟨h1, h4⟩ := and2 h
    obtain ⟨h1, h3⟩ := and2 h1
    obtain ⟨h1, h2⟩ := and2 h1
    cases copB_eq h1
    exact v_cmp gd ((ia X m c bs k gd en hP).1 _ h3).1 ((ib X m c bs k gd en hP).1 _ h4).1 (by simpa using h2)
  | [], _, h => exact absurd h Bool.false_ne_true
  | [o], [], h => exact absurd h Bool.false_ne_true
  | [o], _ :: _ :: _, h => exact absurd h Bool.false_ne_true
  | _ :: _ :: _, _, h => exact absurd h Bool.false_ne_true) fun m es h => absurd h Bool.false_ne_true
theorem oke_chn (o p : COp) {a b d : E} (ia : OKE a) (ib : OKE b) (id : OKE d) : OKE (.chn o p a b d) := ok_of (fun X m c bs k gd en hP x h => by
  cases x <;> first | exact absurd h Bool.false_ne_true | skip
  rename_i l ops rs pos
  match ops, rs, h with
  | [p1, p2], [r1, r2], h =>
    obtain ⟨h1, h6⟩ := and2 h
    obtain ⟨h1, h5⟩ := and2 h1
    obtain ⟨h1, h4⟩ := and2 h1
    obtain ⟨h1, h3⟩ := and2 h1
    obtain ⟨h1, h2⟩ := and2 h1
    cases copB_eq h1
    cases copB_eq h2
    exact v_chn gd ((ia X m c bs k gd en hP).1 _ h4).1 ((ib X m c bs k gd en hP).1 _ h5).1 ((id X m c bs k gd en hP).1 _ h6).1 (by simpa using h3)
  | [], _, h => exact absurd h Bool.false_ne_true
  | [_], _, h => exact absurd h Bool.false_ne_true
  | [_, _], [], h => exact absurd h Bool.false_ne_true
  | [_, _], [_], h => exact absurd h Bool.false_ne_true
  | [_, _], _ :: _ :: _ :: _, h => exact absurd h Bool.false_ne_true
  | _ :: _ :: _ :: _, _, h => exact absurd h Bool.false_ne_true) fun m es h => absurd h Bool.false_ne_true
theorem oke_isc (ng : Bool) {a : E} (v : V) (ia : OKE a) : OKE (.isc ng a v) := ok_of (fun X m c bs k gd en hP x h => by
  cases x <;> first | exact absurd h Bool.false_ne_true | skip
  rename_i l ops rs pos
  match ops, rs, h with
  | [o], r :: rs, h =>
    cases r <;> first | exact absurd h Bool.false_ne_true | skip
    cases rs with
    | cons _ _ => exact absurd h Bool.false_ne_true
    | nil =>
      obtain ⟨h1, h3⟩ := and2 h
      obtain ⟨h1, h2⟩ := and2 h1
      cases copB_eq h1
      exact v_isc ((ia X m c bs k gd en hP).1 _ h3).1 h2
  | [], _, h => exact absurd h Bool.false_ne_true
  | [o], [], h => exact absurd h Bool.false_ne_true
  | _ :: _ :: _, _, h => exact absurd h Bool.false_ne_true) fun m es h => absurd h Bool.false_ne_true
theorem pt_bool1 {X : Cx} {op : PySem.BoolOp} {y : Expr} {pos : Pos} {t : TT} (h : PT X y t) : PT X (.BoolOp op [y] pos) t := by
  cases op with
  | And => exact (pw_and1 h).pt
  | Or => exact (pw_or1 h).pt
theorem oke_and {a b : E} (ia : OKE a) (ib : OKE b) : OKE (.and a b) := ok_of (fun X m c bs k gd en hP x h => by
  cases x <;> first | exact absurd h Bool.false_ne_true | skip
  rename_i op vs pos
  cases op <;> first | exact absurd h Bool.false_ne_true | skip
  match vs, h with
  | [], h => exact absurd h Bool.false_ne_true
  | [_], h => exact absurd h Bool.false_ne_true
  | [x, y], h =>
    obtain ⟨h1, h2⟩ := and2 h
    obtain ⟨a1, a2⟩ := (ia X m c bs k gd en hP).1 _ h1
    obtain ⟨b1, b2⟩ := (ib X m c bs k gd en hP).1 _ h2
    exact v_and a1 a2 (pe_one b1) (pt_bool1 b2)
  | x :: y :: z :: r, h =>
    obtain ⟨h1, h2⟩ := and2 h
    obtain ⟨a1, a2⟩ := (ia X m c bs k gd en hP).1 _ h1
    obtain ⟨b1, b2⟩ := (ib X m c bs k gd en hP).1 _ h2
    exact v_and a1 a2 b1 b2) fun m es h => absurd h Bool.false_ne_true
theorem oke_or {a b : E} (ia : OKE a) (ib : OKE b) : OKE (.or a b) := ok_of (fun X m c bs k gd en hP x h => by
  cases x <;> first | exact absurd h Bool.false_ne_true | skip
  rename_i op vs pos
  cases op <;> first | exact absurd h Bool.false_ne_true | skip
  match vs, h with
  | [], h => exact absurd h Bool.false_ne_true
  | [_], h => exact absurd h Bool.false_ne_true
  | [x, y], h =>
    obtain ⟨h1, h2⟩ := and2 h
    obtain ⟨a1, a2⟩ := (ia X m c bs k gd en hP).1 _ h1
    obtain ⟨b1, b2⟩ := (ib X m c bs k gd en hP).1 _ h2
    exact v_or a1 a2 (pe_one b1) (pt_bool1 b2)
  | x :: y :: z :: r, h =>
    obtain ⟨h1, h2⟩ := and2 h
    obtain ⟨a1, a2⟩ := (ia X m c bs k gd en hP).1 _ h1
    obtain ⟨b1, b2⟩ := (ib X m c bs k gd en hP).1 _ h2
    exact v_or a1 a2 b1 b2) fun m es h => absurd h Bool.false_ne_true
theorem oke_ite {t a b : E} (it : OKE t) (ia : OKE a) (ib : OKE b) : OKE (.ite t a b) := ok_of (fun X m c bs k gd en hP x h => by
  cases x <;> first | exact absurd h Bool.false_ne_true | skip
  obtain ⟨h1, h3⟩ := and2 h
  obtain ⟨h1, h2⟩ := and2 h1
  obtain ⟨a1, a2⟩ := (ia X m c bs k gd en hP).1 _ h2
  obtain ⟨b1, b2⟩ := (ib X m c bs k gd en hP).1 _ h3
  exact v_ite ((it X m c bs k gd en hP).1 _ h1).2 a1 a2 b1 b2) fun m es h => absurd h Bool.false_ne_true
theorem oke_call (f : Nat) {as : E} (ia : OKE as) : OKE (.call f as) := ok_of (fun X m c bs k gd en hP x h => by
  cases x <;> first | exact absurd h Bool.false_ne_true | skip
  rename_i fn args kws pos
  cases fn <;> first | exact absurd h Bool.false_ne_true | skip
  cases kws with
  | cons _ _ => exact absurd h Bool.false_ne_true
  | nil =>
    rename_i x p
    obtain ⟨h1, h4⟩ := and2 h
    obtain ⟨h1, h3⟩ := and2 h1
    obtain ⟨h1, h2⟩ := and2 h1
    rw [hP] at h1
    split at h1
    · rename_i fd hf
      exact with_pt (v_call gd en hP hf (of_decide_eq_true h1) h2 h3 ((ia X m c bs k gd en hP).2 _ h4)) fun _ => rfl
    · cases h1) fun m es h => absurd h Bool.false_ne_true
theorem oke_make (i : Nat) {as : E} (ia : OKE as) : OKE (.make i as) := ok_of (fun X m c bs k gd en hP x h => by
  cases x <;> first | exact absurd h Bool.false_ne_true | skip
  rename_i fn args kws pos
  cases fn <;> first | exact absurd h Bool.false_ne_true | skip
  cases kws with
  | cons _ _ => exact absurd h Bool.false_ne_true
  | nil =>
    rename_i x p
    obtain ⟨h1, h4⟩ := and2 h
    obtain ⟨h1, h3⟩ := and2 h1
    obtain ⟨h1, h2⟩ := and2 h1
    rw [hP] at h1
    split at h1
    · rename_i ci hc
      exact with_pt (v_make gd en hP hc (of_decide_eq_true h1) h2 h3 ((ia X m c bs k gd en hP).2 _ h4)) fun _ => rfl
    · cases h1) fun m es h => absurd h Bool.false_ne_true
theorem oke_meth {o : E} (n : Nat) {as : E} (io : OKE o) (ia : OKE as) : OKE (.meth o n as) := ok_of (fun X m c bs k gd en hP x h => by
  cases x <;> first | exact absurd h Bool.false_ne_true | skip
  rename_i fn args kws pos
  cases fn <;> first | exact absurd h Bool.false_ne_true | skip
  cases kws with
  | cons _ _ => exact absurd h Bool.false_ne_true
  | nil =>
    rename_i e x apos
    obtain ⟨h1, h6⟩ := and2 h
    obtain ⟨h1, h5⟩ := and2 h1
    obtain ⟨h1, h4⟩ := and2 h1
    obtain ⟨h1, h3⟩ := and2 h1
    obtain ⟨h1, h2⟩ := and2 h1
    rw [hP] at h1
    exact with_pt (v_meth gd hP (of_decide_eq_true h1) h2 h3 (of_decide_eq_true h4) ((io X m c bs k gd en hP).1 _ h5).1 ((ia X m c bs k gd en hP).2 _ h6)) fun _ => rfl) fun m es h => absurd h Bool.false_ne_true
theorem oke_bm {o : E} (mm : BM) {as : E} (io : OKE o) (ia : OKE as) : OKE (.bm o mm as) := ok_of (fun X m c bs k gd en hP x h => by
  cases x <;> first | exact absurd h Bool.false_ne_true | skip
  rename_i fn args kws pos
  cases fn <;> first | exact absurd h Bool.false_ne_true | skip
  cases kws with
  | cons _ _ => exact absurd h Bool.false_ne_true
  | nil =>
    rename_i e x apos
    obtain ⟨h1, h6⟩ := and2 h
    obtain ⟨h1, h5⟩ := and2 h1
    obtain ⟨h1, h4⟩ := and2 h1
    obtain ⟨h1, h3⟩ := and2 h1
    obtain ⟨h1, h2⟩ := and2 h1
    have hx : mm.nm = x := of_decide_eq_true h1
    subst hx
    exact with_pt (v_bm gd h2 h3 (of_decide_eq_true h4) ((io X m c bs k gd en hP).1 _ h5).1 ((ia X m c bs k gd en hP).2 _ h6)) fun _ => rfl) fun m es h => absurd h Bool.false_ne_true
theorem mt_star {m : MC} {a : E} {e : Expr} {p : Pos} : mt m a (.one (.Starred e p)) = false := by
  cases a <;> rfl
theorem oke_isi {a : E} (ts : List Ty) (ia : OKE a) : OKE (.isi a ts) := ok_of (fun X m c bs k gd en hP x h => by
  cases x <;> first | exact absurd h Bool.false_ne_true | skip
  rename_i fn args kws pos
  cases fn <;> first | exact absurd h Bool.false_ne_true | skip
  match args, kws, h with
  | [e, t], [], h =>
    rename_i x p
    obtain ⟨h1, h4⟩ := and2 h
    obtain ⟨h1, h3⟩ := and2 h1
    obtain ⟨h1, h2⟩ := and2 h1
    have hx := of_decide_eq_true h1
    subst hx
    have hns : notStar e = true := by
      cases e <;> first | rfl | (rw [mt_star] at h3; cases h3)
    exact with_pt (v_isi gd en hP h2 hns ((ia X m c bs k gd en hP).1 _ h3).1 h4) fun _ => rfl
  | [], _, h => exact absurd h Bool.false_ne_true
  | [_], _, h => exact absurd h Bool.false_ne_true
  | _ :: _ :: _ :: _, _, h => exact absurd h Bool.false_ne_true
  | [_, _], _ :: _, h => exact absurd h Bool.false_ne_true) fun m es h => absurd h Bool.false_ne_true
theorem oke_fld {o : E} (f : Nat) (io : OKE o) : OKE (.fld o f) := ok_of (fun X m c bs k gd en hP x h => by
  cases x <;> first | exact absurd h Bool.false_ne_true | skip
  obtain ⟨h1, h3⟩ := and2 h
  obtain ⟨h1, h2⟩ := and2 h1
  rw [hP] at h1
  exact with_pt (v_fld gd (of_decide_eq_true h1) h2 ((io X m c bs k gd en hP).1 _ h3).1) fun _ => rfl) fun m es h => absurd h Bool.false_ne_true
theorem oke_idx {o i : E} (io : OKE o) (ii : OKE i) : OKE (.idx o i) := ok_of (fun X m c bs k gd en hP x h => by
  cases x <;> first | exact absurd h Bool.false_ne_true | skip
  rename_i e s pos
  obtain ⟨h1, h2⟩ := and2 h
  have hs : PlainIx s ∧ mt m i (.one s) = true := by
    cases s <;> first | exact absurd h1 Bool.false_ne_true | exact ⟨fun _ _ => rfl, h1⟩
  exact with_pt (v_idx gd ((io X m c bs k gd en hP).1 _ h2).1 ((ii X m c bs k gd en hP).1 _ hs.2).1 hs.1) fun _ => rfl) fun m es h => absurd h Bool.false_ne_true
theorem oke_sl (mu : Bool) {o lo hi : E} (io : OKE o) (il : OKE lo) (ih : OKE hi) : OKE (.sl mu o lo hi) := ok_of (fun X m c bs k gd en hP x h => by
  cases x <;> first | exact absurd h Bool.false_ne_true | skip
  rename_i e s pos
  cases s <;> first | exact absurd h Bool.false_ne_true | skip
  rename_i l u st p2
  cases st with
  | some _ => exact absurd h Bool.false_ne_true
  | none =>
    obtain ⟨h1, h3⟩ := and2 h
    obtain ⟨h1, h2⟩ := and2 h1
    have part : ∀ {e : E} {x : Option Expr}, OKE e → (match x with
        | none => (match e with
          | .om => true
          | _ => false)
        | some l => mt m e (.one l)) = true → PO X x (TO_ c X.K bs e) := fun {e x} ie hx => by
      cases x with
      | none =>
        cases e <;> first | exact absurd hx Bool.false_ne_true | skip
        exact po_om
      | some l => exact po_at (fun z => by subst z; exact absurd hx Bool.false_ne_true) ((ie X m c bs k gd en hP).1 _ hx).1
    exact with_pt (v_sl gd ((io X m c bs k gd en hP).1 _ h1).1 (part il h2) (part ih h3)) fun _ => rfl) fun m es h => absurd h Bool.false_ne_true
theorem oke_tup {as : E} (ia : OKE as) : OKE (.tup as) := ok_of (fun X m c bs k gd en hP x h => by
  cases x <;> first | exact absurd h Bool.false_ne_true | skip
  exact with_pt (v_tup ((ia X m c bs k gd en hP).2 _ h)) fun _ => rfl) fun m es h => absurd h Bool.false_ne_true
theorem oke_lst (mu : Bool) {as : E} (ia : OKE as) : OKE (.lst mu as) := ok_of (fun X m c bs k gd en hP x h => by
  cases x <;> first | exact absurd h Bool.false_ne_true | skip
  exact with_pt (v_lst ((ia X m c bs k gd en hP).2 _ h)) fun _ => rfl) fun m es h => absurd h Bool.false_ne_true
theorem oke_nil : OKE .nil := fun X m c bs k gd en hP => ⟨fun x h => absurd h Bool.false_ne_true, fun es h => by
  cases es with
  | nil => exact .nil
  | cons _ _ => exact absurd h Bool.false_ne_true⟩
theorem oke_cons {a r : E} (ia : OKE a) (ir : OKE r) : OKE (.cons a r) := fun X m c bs k gd en hP => ⟨fun x h => absurd h Bool.false_ne_true, fun es h => by
  cases es with
  | nil => exact absurd h Bool.false_ne_true
  | cons e es =>
    obtain ⟨h1, h3⟩ := and2 h
    obtain ⟨h1, h2⟩ := and2 h1
    obtain ⟨a1, a2⟩ := (ia X m c bs k gd en hP).1 _ h2
    exact .cons h1 a1 a2 ((ir X m c bs k gd en hP).2 _ h3)⟩
theorem oke_om : OKE .om := fun X m c bs k gd en hP => ⟨fun x h => absurd h Bool.false_ne_true, fun es h => absurd h Bool.false_ne_true⟩
theorem oke_bf (f : BF) (mu : Bool) {as : E} (ia : OKE as) : OKE (.bf f mu as) := ok_of (fun X m c bs k gd en hP x h => by
  cases x <;> first | exact absurd h Bool.false_ne_true | skip
  rename_i fn args kws pos
  cases fn <;> first | exact absurd h Bool.false_ne_true | skip
  cases kws with
  | cons _ _ => exact absurd h Bool.false_ne_true
  | nil =>
    rename_i y p
    have gen : f ≠ .lenset → f ≠ .range → f ≠ .tuprange → (decide (f.nm = y) && glB m y && mt m as (.many args)) = true →
        PE X (.Call (.Name y p) args [] pos) (TE_ c X.K bs (.bf f mu as)) ∧ PT X (.Call (.Name y p) args [] pos) (TT_ c X.K bs (.bf f mu as)) := fun n1 n2 n3 h => by
      obtain ⟨h1, h5⟩ := and2 h
      obtain ⟨h3, h4⟩ := and2 h1
      have hy := of_decide_eq_true h3
      subst hy
      exact with_pt (v_bf gd en n1 n2 n3 h4 ((ia X m c bs k gd en hP).2 _ h5)) fun _ => rfl
    cases f with
    | lenset =>
      match args, h with
      | [], h => exact absurd h Bool.false_ne_true
      | a :: r, h =>
        cases a <;> first | exact absurd h Bool.false_ne_true | skip
        rename_i fn2 args2 k2 q0
        cases fn2 <;> first | exact absurd h Bool.false_ne_true | skip
        cases k2 with
        | cons _ _ => exact absurd h Bool.false_ne_true
        | nil =>
          cases r with
          | cons _ _ => exact absurd h Bool.false_ne_true
          | nil =>
            obtain ⟨h1, h6⟩ := and2 h
            obtain ⟨h1, h5⟩ := and2 h1
            obtain ⟨h1, h4⟩ := and2 h1
            obtain ⟨h1, h3⟩ := and2 h1
            have e1 := of_decide_eq_true h1
            have e2 := of_decide_eq_true h4
            subst e1
            subst e2
            exact with_pt (v_lenset gd en h3 h5 ((ia X m c bs k gd en hP).2 _ h6)) fun _ => rfl
    | range =>
      match args, h with
      | [], h => exact absurd h Bool.false_ne_true
      | a :: r, h =>
        cases a <;> first | exact absurd h Bool.false_ne_true | skip
        rename_i fn2 args2 k2 q0
        cases fn2 <;> first | exact absurd h Bool.false_ne_true | skip
        cases k2 with
        | cons _ _ => exact absurd h Bool.false_ne_true
        | nil =>
          cases r with
          | cons _ _ => exact absurd h Bool.false_ne_true
          | nil =>
            obtain ⟨h1, h6⟩ := and2 h
            obtain ⟨h1, h5⟩ := and2 h1
            obtain ⟨h1, h4⟩ := and2 h1
            obtain ⟨h1, h3⟩ := and2 h1
            have e1 := of_decide_eq_true h1
            have e2 := of_decide_eq_true h4
            subst e1
            subst e2
            exact with_pt (v_range gd en h3 h5 ((ia X m c bs k gd en hP).2 _ h6)) fun _ => rfl
    | tuprange =>
      match args, h with
      | [], h => exact absurd h Bool.false_ne_true
      | a :: r, h =>
        cases a <;> first | exact absurd h Bool.false_ne_true | skip
        rename_i fn2 args2 k2 q0
        cases fn2 <;> first | exact absurd h Bool.false_ne_true | skip
        cases k2 with
        | cons _ _ => exact absurd h Bool.false_ne_true
        | nil =>
          cases r with
          | cons _ _ => exact absurd h Bool.false_ne_true
          | nil =>
            obtain ⟨h1, h6⟩ := and2 h
            obtain ⟨h1, h5⟩ := and2 h1
            obtain ⟨h1, h4⟩ := and2 h1
            obtain ⟨h1, h3⟩ := and2 h1
            have e1 := of_decide_eq_true h1
            have e2 := of_decide_eq_true h4
            subst e1
            subst e2
            exact with_pt (v_tuprange gd en h3 h5 ((ia X m c bs k gd en hP).2 _ h6)) fun _ => rfl
    | _ => exact gen (by simp) (by simp) (by simp) h) fun m es h => absurd h Bool.false_ne_true
theorem oke_comp (mu : Bool) (own : List (Str × Nat)) {elt src cs : E} (t : Tg) (it : ItK) (ie : OKE elt) (is : OKE src) (ic : OKE cs) : OKE (.comp mu own elt t it src cs) := ok_of (fun X m c bs k gd en hP x h => by
  cases x <;> first | exact absurd h Bool.false_ne_true | skip
  rename_i e gens scope pos
  match gens, h with
  | [⟨tg, iter, ifs, asy⟩], h =>
    obtain ⟨h1, h9⟩ := and2 h
    obtain ⟨h1, h8⟩ := and2 h1
    obtain ⟨h1, h7⟩ := and2 h1
    obtain ⟨h1, h6⟩ := and2 h1
    obtain ⟨h1, h5⟩ := and2 h1
    obtain ⟨h1, h4⟩ := and2 h1
    obtain ⟨h1, h3⟩ := and2 h1
    obtain ⟨h1, h2⟩ := and2 h1
    obtain ⟨h0, h1⟩ := and2 h1
    have h0 := of_decide_eq_true h0
    subst h0
    split at h2
    · rename_i es hes
      rw [← en.N, ← en.sc] at h1
      exact with_pt (PE.mono (pe_lc gd.calm gd.nd (itPx_ok gd en hes h3 ((is X m c bs k gd en hP).2 _ h2)) (blkOk_by h1) (fun s H C cl fp => (tg_ok (en_blk en) gd.calm gd.nd t).1 _ h5) (fun s H C cl fp => LsOk.pts ((ic _ (blkM m scope) c bs k (gd_blk gd) (en_blk en) hP).2 _ h8) (of_decide_eq_true h7))
        (fun s H C cl fp => ((ie _ (blkM m scope) c bs k (gd_blk gd) (en_blk en) hP).1 _ h9).1) (folded_ok h4)) fun σ H Q q => comp_te h6 q) fun _ => rfl
    · cases h2
  | [], h => exact absurd h Bool.false_ne_true
  | ⟨_, _, _, _⟩ :: ⟨_, _, _, _⟩ :: _, h => exact absurd h Bool.false_ne_true) fun m es h => absurd h Bool.false_ne_true
theorem oke_comp2 (mu : Bool) (own : List (Str × Nat)) (vs1 : List Nat) {elt src cs src1 cs1 : E} (t : Tg) (it : ItK) (t1 : Tg) (it1 : ItK) (ie : OKE elt) (is : OKE src) (ic : OKE cs) (is1 : OKE src1) (ic1 : OKE cs1) : OKE (.comp2 mu own vs1 elt t it src cs t1 it1 src1 cs1) := ok_of (fun X m c bs k gd en hP x h => by
  cases x <;> first | exact absurd h Bool.false_ne_true | skip
  rename_i e gens scope pos
  match gens, h with
  | [⟨tg, iter, ifs, asy⟩, ⟨tg1, iter1, ifs1, asy1⟩], h =>
    obtain ⟨h1, b9⟩ := and2 h
    obtain ⟨h1, b8⟩ := and2 h1
    obtain ⟨h1, b7⟩ := and2 h1
    obtain ⟨h1, b6⟩ := and2 h1
    obtain ⟨h1, b5⟩ := and2 h1
    obtain ⟨h1, b4⟩ := and2 h1
    obtain ⟨h1, b3⟩ := and2 h1
    obtain ⟨h1, b2⟩ := and2 h1
    obtain ⟨h1, b1⟩ := and2 h1
    obtain ⟨h1, h8⟩ := and2 h1
    obtain ⟨h1, h7⟩ := and2 h1
    obtain ⟨h1, h6⟩ := and2 h1
    obtain ⟨h1, h5⟩ := and2 h1
    obtain ⟨h1, h4⟩ := and2 h1
    obtain ⟨h1, h3⟩ := and2 h1
    obtain ⟨h1, h2⟩ := and2 h1
    obtain ⟨h0, h1⟩ := and2 h1
    obtain ⟨h0, h00⟩ := and2 h0
    have h0 := of_decide_eq_true h0
    have h00 := of_decide_eq_true h00
    subst h0
    subst h00
    split at h2
    · rename_i es hes
      split at b1
      · rename_i es1 hes1
        rw [← en.N, ← en.sc] at h1
        have hv : ∀ i ∈ vs1, i ∈ own.map (·.2) := fun i hi => by
          have := List.all_eq_true.mp b8 i hi
          simpa using this
        exact with_pt (PE.mono (pe_lc2 gd.calm gd.nd (itPx_ok gd en hes h3 ((is X m c bs k gd en hP).2 _ h2)) (blkOk_by h1) hv (fun s H C cl fp => (tg_ok (en_blk en) gd.calm gd.nd t).1 _ h5) (fun s H C cl fp => LsOk.pts ((ic _ (blkM m scope) c bs k (gd_blk gd) (en_blk en) hP).2 _ h8) (of_decide_eq_true h7))
          (fun s H C cl fp => itPx_ok (gd_blk gd) (en_blk en) hes1 b2 ((is1 _ (blkM m scope) c bs k (gd_blk gd) (en_blk en) hP).2 _ b1)) (fun s H C cl fp => (tg_ok (en_blk en) gd.calm gd.nd t1).1 _ b4) (fun s H C cl fp => LsOk.pts ((ic1 _ (blkM m scope) c bs k (gd_blk gd) (en_blk en) hP).2 _ b7) (of_decide_eq_true b6))
          (fun s H C cl fp => ((ie _ (blkM m scope) c bs k (gd_blk gd) (en_blk en) hP).1 _ b9).1) (folded_ok h4) (fun env => folded_ok b3)) fun σ H Q q => comp2_te h6 b5 q) fun _ => rfl
      · cases b1
    · cases h2
  | [], h => exact absurd h Bool.false_ne_true
  | [⟨_, _, _, _⟩], h => exact absurd h Bool.false_ne_true
  | ⟨_, _, _, _⟩ :: ⟨_, _, _, _⟩ :: ⟨_, _, _, _⟩ :: _, h => exact absurd h Bool.false_ne_true) fun m es h => absurd h Bool.false_ne_true
theorem oke (e : E) : OKE e := by
  induction e with
  | var i => exact oke_var i
  | lit v => exact oke_lit v
  | glob g => exact oke_glob g
  | bin mu op a b ia ib => exact oke_bin mu op ia ib
  | neg a ia => exact oke_neg ia
  | inv a ia => exact oke_inv ia
  | cmp op a b ia ib => exact oke_cmp op ia ib
  | chn o p a b d ia ib id => exact oke_chn o p ia ib id
  | isc ng a v ia => exact oke_isc ng v ia
  | and a b ia ib => exact oke_and ia ib
  | or a b ia ib => exact oke_or ia ib
  | not a ia => exact oke_not ia
  | ite t a b it ia ib => exact oke_ite it ia ib
  | call f as ia => exact oke_call f ia
  | make i as ia => exact oke_make i ia
  | meth o n as io ia => exact oke_meth n io ia
  | bf f mu as ia => exact oke_bf f mu ia
  | bm o mm as io ia => exact oke_bm mm io ia
  | isi a ts ia => exact oke_isi ts ia
  | fld o f io => exact oke_fld f io
  | idx o i io ii => exact oke_idx io ii
  | sl mu o lo hi io il ih => exact oke_sl mu io il ih
  | tup as ia => exact oke_tup ia
  | lst mu as ia => exact oke_lst mu ia
  | nil => exact oke_nil
  | cons a r ia ir => exact oke_cons ia ir
  | om => exact oke_om
  | comp mu own elt t it src cs ie is ic => exact oke_comp mu own t it ie is ic
  | comp2 mu own vs1 elt t it src cs t1 it1 src1 cs1 ie is ic is1 ic1 => exact oke_comp2 mu own vs1 t it t1 it1 ie is ic is1 ic1
end TD

set_option Elab.async false
set_option linter.all false
set_option maxRecDepth 100000
set_option maxHeartbeats 4000000
set_option autoImplicit false
/-! TEa: statements. -/
namespace TD
open PySem PySem.Spec PyProof.Rows L2
def FinS (c : Cn) (K : PySem.W.Frag) (bs : List Nat) (G : Gh) (H : Hp) (S : Store) (fl : Fl) (S' : Store) (D : Ends) : Prop := match fl with
  | .nx σ' => ∀ G' σL' H', Ext G H G' H' → SX S S' → Sim c.P K bs G' S' H' → StR c.P K G' H' σ' σL' → D.nx σL' H'
  | .bk σ' => ∀ G' σL' H', Ext G H G' H' → SX S S' → Sim c.P K bs G' S' H' → StR c.P K G' H' σ' σL' → D.bk σL' H'
  | .ct σ' => ∀ G' σL' H', Ext G H G' H' → SX S S' → Sim c.P K bs G' S' H' → StR c.P K G' H' σ' σL' → D.ct σL' H'
  | .rt d => ∀ v G' H', Ext G H G' H' → SX S S' → Sim c.P K bs G' S' H' → Rep c.P K G' H' v d → D.rt v H'
def TS_ (c : Cn) (K : PySem.W.Frag) (bs : List Nat) (b : Sx) : TS := fun D σL H => ∃ G σ S fl S', StR c.P K G H σ σL ∧ Sim c.P K bs G S H ∧ c.base ≤ S.length ∧ exec c b σ S = .ok fl S' ∧ FinS c K bs G H S fl S' D
theorem FinS.after {c : Cn} {K : PySem.W.Frag} {bs : List Nat} {G G1 : Gh} {H H1 : Hp} {S S1 S' : Store} {fl : Fl} {D : Ends} (f : FinS c K bs G H S fl S' D) (e : Ext G H G1 H1) (x : SX S S1) : FinS c K bs G1 H1 S1 fl S' D := by
  cases fl with
  | nx σ' => exact fun G' σL' H' e' x' sm st => f G' σL' H' (e.trans e') (x.trans x') sm st
  | bk σ' => exact fun G' σL' H' e' x' sm st => f G' σL' H' (e.trans e') (x.trans x') sm st
  | ct σ' => exact fun G' σL' H' e' x' sm st => f G' σL' H' (e.trans e') (x.trans x') sm st
  | rt d => exact fun v G' H' e' x' sm r => f v G' H' (e.trans e') (x.trans x') sm r
theorem PS.mono {X : Cx} {e : Stmt} {t t' : TS} (h : PS X e t) (hm : ∀ D σ H, t' D σ H → t D σ H) : PS X e t' := ⟨fun pins s σ H D I q => h.run pins s σ H D I (hm _ _ _ q)⟩
theorem PSs.mono {X : Cx} {e : List Stmt} {t t' : TS} (h : PSs X e t) (hm : ∀ D σ H, t' D σ H → t D σ H) : PSs X e t' := ⟨fun pins s σ H D I q => h.run pins s σ H D I (hm _ _ _ q)⟩
structure Eb (X : Cx) : Prop where
  own : PassesOwn (model X.prog X.w) X.A X.env X.xe
  kind : X.env.scope.kind = .function
def OKS (s : Sx) : Prop := ∀ (X : Cx) (m : MC) (c : Cn) (bs : List Nat) (k : Nat), Gd X c bs k → En X m → m.P = c.P → Eb X →
  (∀ st, mtS m s (.one st) = true → PS X st (TS_ c X.K bs s)) ∧ ∀ sts, mtS m s (.many sts) = true → PSs X sts (TS_ c X.K bs s)
theorem oks_of {s : Sx} (h : ∀ (X : Cx) (m : MC) (c : Cn) (bs : List Nat) (k : Nat), Gd X c bs k → En X m → m.P = c.P → Eb X → ∀ st, mtS m s (.one st) = true → PS X st (TS_ c X.K bs s)) (hn : ∀ m sts, mtS m s (.many sts) = true → False) : OKS s :=
  fun X m c bs k gd en hP eb => ⟨h X m c bs k gd en hP eb, fun sts q => (hn m sts q).elim⟩
theorem oks_nil : OKS .nil := fun X m c bs k gd en hP eb => ⟨fun st h => by cases st <;> exact absurd h Bool.false_ne_true, fun sts h => by
  cases sts with
  | cons _ _ => exact absurd h Bool.false_ne_true
  | nil =>
    refine PSs.mono pss_nil fun D σ H q => ?_
    obtain ⟨G, σ0, S, fl, S', st, sm, hb, e, fin⟩ := q
    simp only [exec] at e
    cases e
    exact fin G σ H .refl .refl sm st⟩
theorem oks_cons {s r : Sx} (is : OKS s) (ir : OKS r) : OKS (.cons s r) := fun X m c bs k gd en hP eb => ⟨fun st h => by cases st <;> exact absurd h Bool.false_ne_true, fun sts h => by
  cases sts with
  | nil => exact absurd h Bool.false_ne_true
  | cons x xs =>
    obtain ⟨h1, h2⟩ := and2 h
    refine PSs.mono (pss_cons ((is X m c bs k gd en hP eb).1 _ h1) ((ir X m c bs k gd en hP eb).2 _ h2)) fun D σ H q => ?_
    obtain ⟨G, σ0, S, fl, S', st, sm, hb, e, fin⟩ := q
    simp only [exec] at e
    obtain ⟨f1, S1, e1, e2⟩ := Res.bind_eq_ok e
    refine ⟨G, σ0, S, f1, S1, st, sm, hb, e1, ?_⟩
    cases f1 with
    | nx σ' =>
      simp only at e2
      exact fun G' σL' H' ex x1 sm1 st1 => ⟨G', σ', S1, fl, S', st1, sm1, Nat.le_trans hb (ex.le sm sm1), e2, fin.after ex x1⟩
    | bk σ' => cases e2; exact fin
    | ct σ' => cases e2; exact fin
    | rt d => cases e2; exact fin⟩
theorem oks_pass : OKS .pass := oks_of (fun X m c bs k gd en hP eb st h => by
  cases st <;> first | exact absurd h Bool.false_ne_true | skip
  refine PS.mono ps_pass fun D σ H q => ?_
  obtain ⟨G, σ0, S, fl, S', st, sm, hb, e, fin⟩ := q
  simp only [exec] at e
  cases e
  exact fin G σ H .refl .refl sm st) fun m sts h => absurd h Bool.false_ne_true
theorem oks_brk : OKS .brk := oks_of (fun X m c bs k gd en hP eb st h => by
  cases st <;> first | exact absurd h Bool.false_ne_true | skip
  refine PS.mono ps_break fun D σ H q => ?_
  obtain ⟨G, σ0, S, fl, S', st, sm, hb, e, fin⟩ := q
  simp only [exec] at e
  cases e
  exact fin G σ H .refl .refl sm st) fun m sts h => absurd h Bool.false_ne_true
theorem oks_cnt : OKS .cnt := oks_of (fun X m c bs k gd en hP eb st h => by
  cases st <;> first | exact absurd h Bool.false_ne_true | skip
  refine PS.mono ps_continue fun D σ H q => ?_
  obtain ⟨G, σ0, S, fl, S', st, sm, hb, e, fin⟩ := q
  simp only [exec] at e
  cases e
  exact fin G σ H .refl .refl sm st) fun m sts h => absurd h Bool.false_ne_true
theorem oks_never : OKS .never := fun X m c bs k gd en hP eb => by
  have vac : ∀ D σ H, TS_ c X.K bs .never D σ H → False := fun D σ H q => by
    obtain ⟨G, σ0, S, fl, S', st, sm, hb, e, fin⟩ := q
    simp only [exec] at e
    cases e
  exact ⟨fun st _ => ⟨fun pins s σ H D I q => (vac _ _ _ q).elim⟩, fun sts _ => ⟨fun pins s σ H D I q => (vac _ _ _ q).elim⟩⟩
/-- a value first -/
theorem first_te {c : Cn} {K : PySem.W.Frag} {bs : List Nat} {e : E} {G : Gh} {H : Hp} {σ0 : Sl} {σ : L2.St} {S S1 : Store} {d : D} {Q : VK} (st : StR c.P K G H σ0 σ) (sm : Sim c.P K bs G S H) (hb : c.base ≤ S.length) (e1 : ev c e σ0 S = .ok d S1)
    (h : ∀ v G1 H1, Ext G H G1 H1 → SX S S1 → Sim c.P K bs G1 S1 H1 → c.base ≤ S1.length → StR c.P K G1 H1 σ0 σ → Rep c.P K G1 H1 v d → Q v H1) : TE_ c K bs e σ H Q :=
  ⟨G, σ0, S, d, S1, st, sm, hb, e1, fun v G1 H1 ex x1 sm1 r1 => h v G1 H1 ex x1 sm1 (Nat.le_trans hb (ex.le sm sm1)) (st.ext ex) r1⟩
theorem noswap {e : Expr} {tg : Option Expr} {l : Nat} {env : Env} (h : isComp e = false) : swapsWith e tg l env = pure false := by
  cases e <;> first | rfl | cases h
theorem oks_expr (e : E) : OKS (.expr e) := oks_of (fun X m c bs k gd en hP eb st h => by
  cases st <;> first | exact absurd h Bool.false_ne_true | skip
  obtain ⟨h1, h2⟩ := and2 h
  refine PS.mono (ps_expr ((oke e X m c bs k gd en hP).1 _ h2).1 (noswap (by simpa using h1))) fun D σ H q => ?_
  obtain ⟨G, σ0, S, fl, S', st, sm, hb, e, fin⟩ := q
  simp only [exec] at e
  obtain ⟨d, S1, e1, e2⟩ := Res.bind_eq_ok e
  cases e2
  exact first_te st sm hb e1 fun v G1 H1 ex x1 sm1 _ st1 r1 => fin G1 σ H1 ex x1 sm1 st1) fun m sts h => absurd h Bool.false_ne_true
theorem oks_ret (e : E) : OKS (.ret e) := oks_of (fun X m c bs k gd en hP eb st h => by
  cases st <;> first | exact absurd h Bool.false_ne_true | skip
  rename_i v pos
  cases v with
  | none => exact absurd h Bool.false_ne_true
  | some v =>
    refine PS.mono (ps_ret ((oke e X m c bs k gd en hP).1 _ h).1) fun D σ H q => ?_
    obtain ⟨G, σ0, S, fl, S', st, sm, hb, e, fin⟩ := q
    simp only [exec] at e
    obtain ⟨d, S1, e1, e2⟩ := Res.bind_eq_ok e
    cases e2
    exact first_te st sm hb e1 fun v G1 H1 ex x1 sm1 _ st1 r1 => fin v G1 H1 ex x1 sm1 r1) fun m sts h => absurd h Bool.false_ne_true
theorem oks_retN : OKS .retN := oks_of (fun X m c bs k gd en hP eb st h => by
  cases st <;> first | exact absurd h Bool.false_ne_true | skip
  rename_i v pos
  cases v with
  | some _ => exact absurd h Bool.false_ne_true
  | none =>
    refine PS.mono ps_retN fun D σ H q => ?_
    obtain ⟨G, σ0, S, fl, S', st, sm, hb, e, fin⟩ := q
    simp only [exec] at e
    cases e
    exact fin .non G H .refl .refl sm .non) fun m sts h => absurd h Bool.false_ne_true
theorem oks_iff (t : E) {a b : Sx} (ia : OKS a) (ib : OKS b) : OKS (.iff t a b) := oks_of (fun X m c bs k gd en hP eb st h => by
  cases st <;> first | exact absurd h Bool.false_ne_true | skip
  obtain ⟨h1, h3⟩ := and2 h
  obtain ⟨h1, h2⟩ := and2 h1
  refine PS.mono (ps_if ((oke t X m c bs k gd en hP).1 _ h1).2 ((ia X m c bs k gd en hP eb).2 _ h2) ((ib X m c bs k gd en hP eb).2 _ h3)) fun D σ H q => ?_
  obtain ⟨G, σ0, S, fl, S', st, sm, hb, e, fin⟩ := q
  simp only [exec] at e
  obtain ⟨r, S1, e1, e2⟩ := isB_ok e
  refine ⟨G, σ0, S, r, S1, st, sm, hb, e1, fun G1 H1 ex x1 sm1 => ?_⟩
  have b1 := Nat.le_trans hb (ex.le sm sm1)
  cases r with
  | true =>
    simp only [if_true] at e2 ⊢
    exact ⟨G1, σ0, S1, fl, S', st.ext ex, sm1, b1, e2, fin.after ex x1⟩
  | false =>
    simp only [Bool.false_eq_true, if_false] at e2 ⊢
    exact ⟨G1, σ0, S1, fl, S', st.ext ex, sm1, b1, e2, fin.after ex x1⟩) fun m sts h => absurd h Bool.false_ne_true
theorem oks_whil (t : E) {b : Sx} (ib : OKS b) : OKS (.whil t b) := oks_of (fun X m c bs k gd en hP eb st h => by
  cases st <;> first | exact absurd h Bool.false_ne_true | skip
  rename_i te body orelse pos
  cases orelse with
  | cons _ _ => exact absurd h Bool.false_ne_true
  | nil =>
    obtain ⟨h1, h2⟩ := and2 h
    refine PS.mono (ps_while eb.own ((oke t X m c bs k gd en hP).1 _ h1).2 ((ib X m c bs k gd en hP eb).2 _ h2)) fun D σ H q => ?_
    obtain ⟨G, σ0, S, fl, S', st, sm, hb, e, fin⟩ := q
    simp only [exec] at e
    refine ⟨fun n σL Hc => ∃ G1 σ1 S1, Ext G H G1 Hc ∧ SX S S1 ∧ Sim c.P X.K bs G1 S1 Hc ∧ StR c.P X.K G1 Hc σ1 σL ∧ c.base ≤ S1.length ∧ whileL (fun σ' S1 => isB (ev c t σ' S1) fun r S2 => .ok r S2) (exec c b) n σ1 S1 = .ok fl S', ⟨c.W, G, σ0, S, .refl, .refl, sm, st, hb, e⟩, ?_⟩
    rintro n σL Hc ⟨G1, σ1, S1, ex, x1, sm1, st1, b1, e1⟩
    cases n with
    | zero => simp only [whileL] at e1; cases e1
    | succ n =>
      simp only [whileL] at e1
      obtain ⟨r, S2, e2, e3⟩ := Res.bind_eq_ok e1
      obtain ⟨r', S3, e4, e5⟩ := isB_ok e2
      cases e5
      refine ⟨G1, σ1, S1, r, _, st1, sm1, b1, e4, fun G2 H2 ex2 x2 sm2 => ?_⟩
      have b2 := Nat.le_trans b1 (ex2.le sm1 sm2)
      cases r with
      | false =>
        simp only [Bool.false_eq_true, if_false] at e3 ⊢
        cases e3
        exact fin G2 σL H2 (ex.trans ex2) (x1.trans x2) sm2 (st1.ext ex2)
      | true =>
        simp only [if_true] at e3 ⊢
        obtain ⟨f1, S4, e6, e7⟩ := Res.bind_eq_ok e3
        refine ⟨fun σL' H' => ∃ G3 σ3 S3, Ext G H G3 H' ∧ SX S S3 ∧ Sim c.P X.K bs G3 S3 H' ∧ StR c.P X.K G3 H' σ3 σL' ∧ c.base ≤ S3.length ∧ whileL (fun σ' S1 => isB (ev c t σ' S1) fun r S2 => .ok r S2) (exec c b) n σ3 S3 = .ok fl S', fun σL' H' z => ⟨n, Nat.lt_succ_self _, z⟩, ?_⟩
        refine ⟨G2, σ1, S2, f1, S4, st1.ext ex2, sm2, b2, e6, ?_⟩
        have E2 := ex.trans ex2
        have X2 := x1.trans x2
        cases f1 with
        | nx σ' => exact fun G3 σL' H3 ex3 x3 sm3 st3 => ⟨G3, σ', S4, E2.trans ex3, X2.trans x3, sm3, st3, Nat.le_trans b2 (ex3.le sm2 sm3), e7⟩
        | ct σ' => exact fun G3 σL' H3 ex3 x3 sm3 st3 => ⟨G3, σ', S4, E2.trans ex3, X2.trans x3, sm3, st3, Nat.le_trans b2 (ex3.le sm2 sm3), e7⟩
        | bk σ' => cases e7; exact fun G3 σL' H3 ex3 x3 sm3 st3 => fin G3 σL' H3 (E2.trans ex3) (X2.trans x3) sm3 st3
        | rt d => cases e7; exact fun v G3 H3 ex3 x3 sm3 r3 => fin v G3 H3 (E2.trans ex3) (X2.trans x3) sm3 r3) fun m sts h => absurd h Bool.false_ne_true
theorem forL_drop {f : D → Sl → Store → Res Fl} {items : List D} {i : Nat} {σ : Sl} {S S' : Store} {fl : Fl} (e : forL f (items.drop i) σ S = .ok fl S') : (items.length ≤ i ∧ fl = .nx σ ∧ S' = S) ∨ ∃ d f1 S1, items[i]? = some d ∧ i < items.length ∧ f d σ S = .ok f1 S1 ∧ (match f1 with
    | .nx σ' => forL f (items.drop (i + 1)) σ' S1
    | .ct σ' => forL f (items.drop (i + 1)) σ' S1
    | .bk σ' => .ok (.nx σ') S1
    | .rt d => .ok (.rt d) S1) = .ok fl S' := by
  by_cases h : i < items.length
  · rw [List.drop_eq_getElem_cons h] at e
    simp only [forL] at e
    obtain ⟨f1, S1, e1, e⟩ := Res.bind_eq_ok e
    exact .inr ⟨_, f1, S1, List.getElem?_eq_getElem h, h, e1, e⟩
  · rw [List.drop_eq_nil_of_le (by omega)] at e
    simp only [forL] at e
    cases e
    exact .inl ⟨by omega, rfl, rfl⟩
theorem oks_loop (t : Tg) (it : ItK) (src : E) {b : Sx} (ib : OKS b) : OKS (.loop t it src b) := oks_of (fun X m c bs k gd en hP eb st h => by
  cases st <;> first | exact absurd h Bool.false_ne_true | skip
  rename_i tg iter body orelse pos
  cases orelse with
  | cons _ _ => exact absurd h Bool.false_ne_true
  | nil =>
    obtain ⟨h1, h5⟩ := and2 h
    obtain ⟨h1, h4⟩ := and2 h1
    obtain ⟨h1, h3⟩ := and2 h1
    obtain ⟨h1, h2⟩ := and2 h1
    split at h1
    · rename_i es hes
      have ls := (oke src X m c bs k gd en hP).2 _ h1
      refine PS.mono (ps_for eb.own gd.calm (itPx_ok gd en hes h2 ls) ((tg_ok (P := c.P) en gd.calm gd.nd t).1 _ h4) ((ib X m c bs k gd en hP eb).2 _ h5) (folded_ok h3)) fun D σ H q => ?_
      obtain ⟨G, σ0, S, fl, S', st, sm, hb, e, fin⟩ := q
      simp only [exec] at e
      obtain ⟨xs, S1, e1, e⟩ := Res.bind_eq_ok e
      obtain ⟨as, rfl, _⟩ := ls.tup e1
      split at e
      · cases e
      · rename_i items hi
        obtain ⟨SE, e2, rfl⟩ := within_ok e
        refine ⟨G, σ0, S, as, S1, items, st, sm, hb, e1, hi, fun J G1 H1 ex1 x1 sm1 go => ?_⟩
        have SL := lockS_eq (refsOf as) S1
        have smL := sm1.alike SL
        have hb1 : c.base ≤ (lockS S1 (refsOf as)).length := by rw [SL.len]; exact Nat.le_trans hb (ex1.le sm sm1)
        -- the locks fall at the end
        have fin2 : ∀ (G2 : Gh) (H2 : Hp), Ext G1 H1 G2 H2 → SX (lockS S1 (refsOf as)) SE → Sim c.P X.K bs G2 SE H2 → Ext G H G2 H2 ∧ SX S (unlockS SE (openS S1 (refsOf as))) ∧ Sim c.P X.K bs G2 (unlockS SE (openS S1 (refsOf as))) H2 := fun G2 H2 ex2 x2 sm2 =>
          ⟨ex1.trans ex2, x1.trans (SX.within x2), sm2.alike (unlockS_eq _ _)⟩
        refine ⟨fun i n σL Hc => n = items.length - i ∧ i ≤ items.length ∧ ∃ G2 σ2 S2, Ext G1 H1 G2 Hc ∧ SX (lockS S1 (refsOf as)) S2 ∧ Sim c.P X.K bs G2 S2 Hc ∧ StR c.P X.K G2 Hc σ2 σL ∧ c.base ≤ S2.length ∧ forL (loopF t (exec c b)) (items.drop i) σ2 S2 = .ok fl SE, ⟨items.length, by simp, Nat.zero_le _, G1, σ0, _, .refl, .refl, smL, st.ext ex1, hb1, by simpa [argsOf] using e2⟩, ?_⟩
        rintro i n σL Hc ⟨rfl, hle, G2, σ2, S2, ex2, x2, sm2, st2, b2, e3⟩
        rcases forL_drop e3 with ⟨q1, rfl, rfl⟩ | ⟨d, f1, S3, q1, q2, q3, q4⟩
        · have hil : i = items.length := by omega
          subst hil
          left
          obtain ⟨z1, z2, z3⟩ := fin2 G2 Hc ex2 x2 sm2
          exact ⟨go.stop G2 Hc _ ex2.loose x2 sm2, fin G2 σL Hc z1 z2 z3 st2⟩
        · right
          obtain ⟨g1, g2⟩ := go.step i d G2 Hc S2 q1 ex2.loose x2 sm2
          refine ⟨g1, fun σL' H' => ∃ G4 σ4 S4, Ext G1 H1 G4 H' ∧ SX (lockS S1 (refsOf as)) S4 ∧ Sim c.P X.K bs G4 S4 H' ∧ StR c.P X.K G4 H' σ4 σL' ∧ c.base ≤ S4.length ∧ forL (loopF t (exec c b)) (items.drop (i + 1)) σ4 S4 = .ok fl SE, fun σL' H' z => ⟨items.length - (i + 1), by omega, rfl, q2, z⟩, fun x H' y => ?_⟩
          obtain ⟨G3, ex3, sm3, r3⟩ := g2 x H' y
          unfold loopF at q3
          split at q3
          · cases q3
          · rename_i σ3 hbi
            refine ⟨G3, σ2, d, σ3, st2.ext ex3, r3, hbi, fun σL3 st3 _ => ?_⟩
            have b3 := Nat.le_trans b2 (ex3.le sm2 sm3)
            refine ⟨G3, σ3, S2, f1, S3, st3, sm3, b3, q3, ?_⟩
            have E3 := ex2.trans ex3
            cases f1 with
            | nx σ' => exact fun G4 σL' H4 ex4 x4 sm4 st4 => ⟨G4, σ', S3, E3.trans ex4, x2.trans x4, sm4, st4, Nat.le_trans b3 (ex4.le sm3 sm4), q4⟩
            | ct σ' => exact fun G4 σL' H4 ex4 x4 sm4 st4 => ⟨G4, σ', S3, E3.trans ex4, x2.trans x4, sm4, st4, Nat.le_trans b3 (ex4.le sm3 sm4), q4⟩
            | bk σ' =>
              cases q4
              exact fun G4 σL' H4 ex4 x4 sm4 st4 => by
                obtain ⟨z1, z2, z3⟩ := fin2 G4 H4 (E3.trans ex4) (x2.trans x4) sm4
                exact fin G4 σL' H4 z1 z2 z3 st4
            | rt d' =>
              cases q4
              exact fun v G4 H4 ex4 x4 sm4 r4 => by
                obtain ⟨z1, z2, z3⟩ := fin2 G4 H4 (E3.trans ex4) (x2.trans x4) sm4
                exact fin v G4 H4 z1 z2 z3 r4
    · cases h1) fun m sts h => absurd h Bool.false_ne_true
end TD

set_option Elab.async false
set_option linter.all false
set_option maxRecDepth 100000
set_option maxHeartbeats 4000000
set_option autoImplicit false
/-! TEb: assignments. -/
namespace TD
open PySem PySem.Spec PyProof.Rows L2
section
variable {X : Cx} {c : Cn} {bs : List Nat} {k : Nat} {m : MC}
theorem nosole {tg e : Expr} {l : Nat} {env : Env} (h : isComp e = false) : swapsWithSole [tg] e l env = pure false := noswap h
theorem notTup_stores {tg e : Expr} {env : Env} (h : (match tg with
    | .Name _ _ => true
    | .Tuple _ _ _ => (match e with
      | .Tuple _ _ _ => false
      | _ => true)
    | _ => false) = true) : swappedStores [tg] e env = pure none := by
  cases tg <;> first | rfl | skip
  all_goals (cases e <;> first | rfl | cases h)
theorem tg_star {tg e : Expr} (h : (match tg with
    | .Name _ _ => true
    | .Tuple _ _ _ => (match e with
      | .Tuple _ _ _ => false
      | _ => true)
    | _ => false) = true) : notStar tg = true := by
  cases tg <;> first | rfl | cases h
theorem asg_core {t : Tg} {e : E} {D : Ends} {σ : L2.St} {H : Hp} (q : TS_ c X.K bs (.asg t e) D σ H) : tAsg (TE_ c X.K bs e) (gT c.P X.K t) D σ H := by
  obtain ⟨G, σ0, S, fl, S', st, sm, hb, e, fin⟩ := q
  simp only [exec] at e
  obtain ⟨d, S1, e1, e2⟩ := Res.bind_eq_ok e
  obtain ⟨σ', e3, rfl, rfl⟩ := map_ok' e2
  refine first_te st sm hb e1 fun v G1 H1 ex x1 sm1 _ st1 r1 => ⟨G1, σ0, d, σ', st1, r1, e3, fun σL' st' _ => fin G1 σL' H1 ex x1 sm1 st'⟩
where
  map_ok' {α β : Type} {f : α → β} {o : Option α} {S S' : Store} {d : β} (h : Res.of (o.map f) S = .ok d S') : ∃ a, o = some a ∧ f a = d ∧ S' = S := by
    obtain ⟨e, rfl⟩ := Res.of_eq_ok h
    obtain ⟨a, e1, e2⟩ := Option.map_eq_some_iff.mp e
    exact ⟨a, e1, e2, rfl⟩
/-- name = [..], the list goes straight to the name -/
theorem setLc_ok (gd : Gd X c bs k) (en : En X m) (hP : m.P = c.P) {e : E} {i : Nat} {y : Str} {py spos pos : Pos} {elt : Expr} {gens : List Comprehension} {scope : Scope} (hy : X.N[i]? = some y) (hyl : X.env.scope.names.lookup y = some .local)
    (hsw : swapsWith (.ListComp elt gens scope pos) (some (.Name y py)) spos.line X.env = pure true) (h : mt m e (.one (.ListComp elt gens scope pos)) = true) : PS X (.Assign [.Name y py] (.ListComp elt gens scope pos) spos) (tAsg (TE_ c X.K bs e) (gName i)) := by
  cases e <;> first | exact absurd h Bool.false_ne_true | skip
  · rename_i mu own elt0 t it src cs
    match gens, h with
    | [⟨tg, iter, ifs, asy⟩], h =>
      obtain ⟨h1, h9⟩ := and2 h
      obtain ⟨h1, h8⟩ := and2 h1
      obtain ⟨h1, h7⟩ := and2 h1
      obtain ⟨h1, h6⟩ := and2 h1
      obtain ⟨h1, h5⟩ := and2 h1
      obtain ⟨h1, h4⟩ := and2 h1
      obtain ⟨h1, h3⟩ := and2 h1
      obtain ⟨h1, h2⟩ := and2 h1
      obtain ⟨h0, h1⟩ := and2 h1
      have h0 := of_decide_eq_true h0
      subst h0
      split at h2
      · rename_i es hes
        rw [← en.N, ← en.sc] at h1
        exact PS.mono (ps_setLc gd.calm gd.nd hy hyl hsw (itPx_ok gd en hes h3 ((oke src X m c bs k gd en hP).2 _ h2)) (blkOk_by h1) (fun s H C cl fp => (tg_ok (P := c.P) (en_blk en) gd.calm gd.nd t).1 _ h5) (fun s H C cl fp => LsOk.pts ((oke cs _ (blkM m scope) c bs k (gd_blk gd) (en_blk en) hP).2 _ h8) (of_decide_eq_true h7))
          (fun s H C cl fp => ((oke elt0 _ (blkM m scope) c bs k (gd_blk gd) (en_blk en) hP).1 _ h9).1) (folded_ok h4)) fun D σ H q => comp_te h6 q
      · cases h2
    | [], h => exact absurd h Bool.false_ne_true
    | ⟨_, _, _, _⟩ :: ⟨_, _, _, _⟩ :: _, h => exact absurd h Bool.false_ne_true
  · rename_i mu own vs1 elt0 t it src cs t1 it1 src1 cs1
    match gens, h with
    | [⟨tg, iter, ifs, asy⟩, ⟨tg1, iter1, ifs1, asy1⟩], h =>
      obtain ⟨h1, b9⟩ := and2 h
      obtain ⟨h1, b8⟩ := and2 h1
      obtain ⟨h1, b7⟩ := and2 h1
      obtain ⟨h1, b6⟩ := and2 h1
      obtain ⟨h1, b5⟩ := and2 h1
      obtain ⟨h1, b4⟩ := and2 h1
      obtain ⟨h1, b3⟩ := and2 h1
      obtain ⟨h1, b2⟩ := and2 h1
      obtain ⟨h1, b1⟩ := and2 h1
      obtain ⟨h1, h8⟩ := and2 h1
      obtain ⟨h1, h7⟩ := and2 h1
      obtain ⟨h1, h6⟩ := and2 h1
      obtain ⟨h1, h5⟩ := and2 h1
      obtain ⟨h1, h4⟩ := and2 h1
      obtain ⟨h1, h3⟩ := and2 h1
      obtain ⟨h1, h2⟩ := and2 h1
      obtain ⟨h0, h1⟩ := and2 h1
      obtain ⟨h0, h00⟩ := and2 h0
      have h0 := of_decide_eq_true h0
      have h00 := of_decide_eq_true h00
      subst h0
      subst h00
      split at h2
      · rename_i es hes
        split at b1
        · rename_i es1 hes1
          rw [← en.N, ← en.sc] at h1
          have hv : ∀ i ∈ vs1, i ∈ own.map (·.2) := fun i hi => by
            have := List.all_eq_true.mp b8 i hi
            simpa using this
          exact PS.mono (ps_setLc2 gd.calm gd.nd hy hyl hsw (itPx_ok gd en hes h3 ((oke src X m c bs k gd en hP).2 _ h2)) (blkOk_by h1) hv (fun s H C cl fp => (tg_ok (P := c.P) (en_blk en) gd.calm gd.nd t).1 _ h5) (fun s H C cl fp => LsOk.pts ((oke cs _ (blkM m scope) c bs k (gd_blk gd) (en_blk en) hP).2 _ h8) (of_decide_eq_true h7))
            (fun s H C cl fp => itPx_ok (gd_blk gd) (en_blk en) hes1 b2 ((oke src1 _ (blkM m scope) c bs k (gd_blk gd) (en_blk en) hP).2 _ b1)) (fun s H C cl fp => (tg_ok (P := c.P) (en_blk en) gd.calm gd.nd t1).1 _ b4) (fun s H C cl fp => LsOk.pts ((oke cs1 _ (blkM m scope) c bs k (gd_blk gd) (en_blk en) hP).2 _ b7) (of_decide_eq_true b6))
            (fun s H C cl fp => ((oke elt0 _ (blkM m scope) c bs k (gd_blk gd) (en_blk en) hP).1 _ b9).1) (folded_ok h4) (fun env => folded_ok b3)) fun D σ H q => comp2_te h6 b5 q
        · cases b1
      · cases h2
    | [], h => exact absurd h Bool.false_ne_true
    | [⟨_, _, _, _⟩], h => exact absurd h Bool.false_ne_true
    | ⟨_, _, _, _⟩ :: ⟨_, _, _, _⟩ :: ⟨_, _, _, _⟩ :: _, h => exact absurd h Bool.false_ne_true
/-- does the value go straight to the name -/
def goesB (env : Env) (scope : Scope) (vl : Nat) (t : Str) (pl : Nat) : Bool := env.blockKind == .function && env.kindOf t == some .local && pl == vl && !(scope.names.any fun (n, k) => n == t && (k == .local || k == .cell))
theorem goes_eq {elt : Expr} {gens : List Comprehension} {scope : Scope} {pos pn : Pos} {t : Str} {l : Nat} {env : Env} : swapsWith (.ListComp elt gens scope pos) (some (.Name t pn)) l env = pure (goesB env scope pos.line t pn.line) := rfl
theorem oks_asg (t : Tg) (e : E) : OKS (.asg t e) := oks_of (fun X m c bs k gd en hP eb st h => by
  cases st <;> first | exact absurd h Bool.false_ne_true | skip
  rename_i tgs v pos
  match tgs, h with
  | [], h => exact absurd h Bool.false_ne_true
  | _ :: _ :: _, h => exact absurd h Bool.false_ne_true
  | [tg], h =>
    obtain ⟨h1, h3⟩ := and2 h
    obtain ⟨h1, h2⟩ := and2 h1
    have pe := ((oke e X m c bs k gd en hP).1 _ h3).1
    have pg := (tg_ok (P := c.P) en gd.calm gd.nd t).1 _ h2
    have gen : swapsWithSole [tg] v pos.line X.env = pure false → PS X (.Assign [tg] v pos) (TS_ c X.K bs (.asg t e)) := fun hs => PS.mono (ps_asg pe pg hs (notTup_stores h1) (by rw [asg_cons (tg_star h1)]; rfl)) fun D σ H q => asg_core q
    cases hc : isComp v with
    | false => exact gen (nosole hc)
    | true =>
      cases v with
      | SetComp _ _ _ _ => cases e <;> exact absurd h3 Bool.false_ne_true
      | DictComp _ _ _ _ _ => cases e <;> exact absurd h3 Bool.false_ne_true
      | ListComp elt gens scope p =>
        cases tg with
        | Tuple ts kk tp => exact gen rfl
        | Name y py =>
          cases t with
          | nm i =>
            obtain ⟨n1, n2⟩ := and2 h2
            have hy : X.N[i]? = some y := by rw [en.N]; exact of_decide_eq_true n1
            cases hg : goesB X.env scope p.line y py.line with
            | false => exact gen (by show swapsWith (.ListComp elt gens scope p) (some (.Name y py)) pos.line X.env = _; rw [goes_eq, hg])
            | true =>
              have hl : X.env.scope.names.lookup y = some .local := by
                have z := hg
                unfold goesB at z
                simp only [Bool.and_eq_true, beq_iff_eq] at z
                exact z.1.1.2
              refine PS.mono (setLc_ok gd en hP hy hl (by rw [goes_eq, hg]) h3) fun D σ H q => ?_
              have q' := asg_core q
              obtain ⟨G, σ0, S, d, S', st, sm, hb, e1, fin⟩ := q'
              refine ⟨G, σ0, S, d, S', st, sm, hb, e1, fun v G1 H1 ex x1 sm1 r1 => ?_⟩
              obtain ⟨G2, σ2, d2, σ3, st2, r2, b2, k2⟩ := fin v G1 H1 ex x1 sm1 r1
              simp only [bindT] at b2
              cases b2
              exact k2 _ (st2.set r2) fun ws hw => wipe_in (by simpa [tgInB] using hw)
          | nil => exact absurd h2 Bool.false_ne_true
          | cons _ _ => exact absurd h2 Bool.false_ne_true
        | _ => exact absurd h1 Bool.false_ne_true
      | _ => exact absurd hc Bool.false_ne_true) fun m sts h => absurd h Bool.false_ne_true
/-! ### fields and items -/
theorem oks_asgF (o : E) (f : Nat) (e : E) : OKS (.asgF o f e) := oks_of (fun X m c bs k gd en hP eb st h => by
  cases st <;> first | exact absurd h Bool.false_ne_true | skip
  rename_i tgs v pos
  match tgs, h with
  | [], h => exact absurd h Bool.false_ne_true
  | _ :: _ :: _, h => 
    rename_i a b r
    cases a <;> exact absurd h Bool.false_ne_true
  | [tg], h =>
    cases tg <;> first | exact absurd h Bool.false_ne_true | skip
    rename_i x n p2
    obtain ⟨h1, h3⟩ := and2 h
    obtain ⟨h1, h2⟩ := and2 h1
    rw [hP] at h1
    have hn := of_decide_eq_true h1
    refine PS.mono (ps_fld ((oke o X m c bs k gd en hP).1 _ h2).1 ((oke e X m c bs k gd en hP).1 _ h3).1 (by cases v <;> rfl)) fun D σ H q => ?_
    obtain ⟨G, σ0, S, fl, S', st, sm, hb, e0, fin⟩ := q
    simp only [exec] at e0
    obtain ⟨d, S1, e1, e0⟩ := Res.bind_eq_ok e0
    obtain ⟨x0, S2, e2, e0⟩ := Res.bind_eq_ok e0
    obtain ⟨u, S3, e3, e4⟩ := Res.bind_eq_ok e0
    cases e4
    refine first_te st sm hb e1 fun v G1 H1 ex x1 sm1 b1 st1 r1 => first_te st1 sm1 b1 e2 fun w G2 H2 ex2 x2 sm2 b2 st2 r2 => ?_
    obtain ⟨p, C, dx, fs, rfl, z1, z2, z3, z4, z5, z6, z7⟩ := setF_rep gd sm2 r2 (r1.ext ex2) e3 hn
    exact ⟨p, C, dx, fs, rfl, z1, z2, z3, z4, fin G2 σ _ ((ex.trans ex2).trans z5) ((x1.trans x2).trans z7) z6 (st2.ext z5)⟩) fun m sts h => absurd h Bool.false_ne_true
theorem oks_asgI (o i e : E) : OKS (.asgI o i e) := oks_of (fun X m c bs k gd en hP eb st h => by
  cases st <;> first | exact absurd h Bool.false_ne_true | skip
  rename_i tgs v pos
  match tgs, h with
  | [], h => exact absurd h Bool.false_ne_true
  | a :: _ :: _, h => cases a <;> exact absurd h Bool.false_ne_true
  | [tg], h =>
    cases tg <;> first | exact absurd h Bool.false_ne_true | skip
    rename_i x s p2
    obtain ⟨h1, h4⟩ := and2 h
    obtain ⟨h1, h3⟩ := and2 h1
    obtain ⟨h1, h2⟩ := and2 h1
    have ha : ∀ v, assign (.Subscript x s p2) X.env v = (do
      let ov ← holding [v] (eval x X.env)
      let iv ← holding [v, ov] (eval s X.env)
      standAt p2
      holding [v, ov, iv] (setItem ov iv v)
      release [v, ov, iv] []) := by
      cases s <;> first | exact fun _ => rfl | exact absurd h1 Bool.false_ne_true
    refine PS.mono (ps_asg ((oke e X m c bs k gd en hP).1 _ h4).1 (pg_sub ((oke o X m c bs k gd en hP).1 _ h2).1 ((oke i X m c bs k gd en hP).1 _ h3).1 (setI_ok gd) ha) (by cases v <;> rfl) (by cases v <;> rfl) rfl) fun D σ H q => ?_
    obtain ⟨G, σ0, S, fl, S', st, sm, hb, e0, fin⟩ := q
    simp only [exec] at e0
    obtain ⟨d, S1, e1, e0⟩ := Res.bind_eq_ok e0
    obtain ⟨x0, S2, e2, e0⟩ := Res.bind_eq_ok e0
    obtain ⟨y0, S3, e3, e0⟩ := Res.bind_eq_ok e0
    obtain ⟨u, S4, e4, e5⟩ := Res.bind_eq_ok e0
    cases e5
    refine first_te st sm hb e1 fun v G1 H1 ex x1 sm1 b1 st1 r1 => first_te st1 sm1 b1 e2 fun w G2 H2 ex2 x2 sm2 b2 st2 r2 => first_te st2 sm2 b2 e3 fun z G3 H3 ex3 x3 sm3 b3 st3 r3 => ?_
    exact ⟨G3, S3, x0, y0, d, S', sm3, r2.ext ex3, r3, (r1.ext ex2).ext ex3, e4, fun G4 H4 ex4 x4 sm4 => fin G4 σ H4 (((ex.trans ex2).trans ex3).trans ex4) (((x1.trans x2).trans x3).trans x4) sm4 (st3.ext ex4)⟩) fun m sts h => absurd h Bool.false_ne_true
end
end TD

set_option Elab.async false
set_option linter.all false
set_option maxRecDepth 100000
set_option maxHeartbeats 4000000
set_option autoImplicit false
/-! TEc: several targets. -/
namespace TD
open PySem PySem.Spec PyProof.Rows L2
section
variable {X : Cx} {c : Cn} {bs : List Nat} {k : Nat} {m : MC}
theorem swap_ok {env : Env} {ts vs : List Expr} {k1 k2 : Nat} {p1 p2 : Pos} {o : Option (List Str)} (hk : env.scope.kind = .function) (hs : env.scope = m.sc) (h : swapB m ts vs = some o) : swappedStores [.Tuple ts k1 p1] (.Tuple vs k2 p2) env = pure o := by
  have kf : (env.blockKind != .function) = false := by
    unfold Env.blockKind
    rw [hk]; rfl
  have kk : ∀ id, env.kindOf id = m.sc.names.lookup id := fun id => by unfold Env.kindOf; rw [hs]
  unfold swapB at h
  unfold swappedStores
  simp only [kf, kk, Bool.or_false]
  split at h
  · rename_i h1
    cases h
    exact if_pos h1
  · rename_i h1
    refine (if_neg h1).trans ?_
    split at h
    · rename_i h2
      cases h
      exact if_pos h2
    · rename_i h2
      refine (if_neg h2).trans ?_
      simp only at h
      split at h
      · rename_i h3
        cases h
        exact if_pos h3
      · rename_i h3
        refine (if_neg h3).trans ?_
        split at h
        · rename_i h4
          cases h
          exact if_pos h4
        · rename_i h4
          refine (if_neg h4).trans ?_
          split at h
          · cases h
          · rename_i h5
            cases h
            exact if_neg h5
def tgOf : List Nat → Tg
  | [] => .nil
  | i :: is => .cons (.nm i) (tgOf is)
theorem bind_all : ∀ {is : List Nat} {ds : List D} {σ σ' : Sl}, putAll is ds σ = some σ' → bindT (tgOf is) (.tup ds) σ = some σ'
  | [], [], σ, σ', e => by simpa [putAll, tgOf, bindT] using e
  | i :: is, d :: ds, σ, σ', e => by
    simp only [putAll] at e
    simp only [tgOf, bindT, Option.bind]
    exact bind_all e
  | [], _ :: _, _, _, e => by simp [putAll] at e
  | _ :: _, [], _, _, e => by simp [putAll] at e
theorem names_mt : ∀ {is : List Nat} {ts : List Expr} {ns : List Str}, namesOf m is ts = some ns → mtT m (tgOf is) (.many ts) = true ∧ ts.length = is.length
  | [], [], _, _ => ⟨rfl, rfl⟩
  | i :: is, e :: es, ns, h => by
    cases e <;> first | (exfalso; simp [namesOf] at h; done) | skip
    rename_i x p
    unfold namesOf at h
    split at h
    · rename_i hc
      obtain ⟨ms, h1, rfl⟩ := Option.map_eq_some_iff.mp h
      obtain ⟨g1, g2⟩ := names_mt h1
      refine ⟨?_, by simp [g2]⟩
      show (notStar (.Name x p) && mtT m (.nm i) (.one (.Name x p)) && mtT m (tgOf is) (.many es)) = true
      rw [g1]
      show (true && (decide (m.N[i]? = some x) && locB m x) && true) = true
      rw [hc]; rfl
    · cases h
  | [], e :: es, _, h => by cases e <;> cases h
  | _ :: _, [], _, h => by cases h
theorem putAll_len : ∀ {is : List Nat} {ds : List D} {σ σ' : Sl}, putAll is ds σ = some σ' → ds.length = is.length
  | [], [], _, _, _ => rfl
  | i :: is, d :: ds, σ, σ', e => by
    simp only [putAll] at e
    simp [putAll_len e]
  | [], _ :: _, _, _, e => by simp [putAll] at e
  | _ :: _, [], _, _, e => by simp [putAll] at e
theorem oks_asgP (is : List Nat) (as : E) : OKS (.asgP is as) := oks_of (fun X m c bs k gd en hP eb st h => by
  cases st <;> first | exact absurd h Bool.false_ne_true | skip
  rename_i tgs v pos
  match tgs, h with
  | [], h => exact absurd h Bool.false_ne_true
  | a :: _ :: _, h => cases a <;> exact absurd h Bool.false_ne_true
  | [tg], h =>
    cases tg <;> first | exact absurd h Bool.false_ne_true | skip
    rename_i ts k1 p1
    cases v <;> first | exact absurd h Bool.false_ne_true | skip
    rename_i vs k2 p2 h00
    obtain ⟨h1, h2⟩ := and2 h
    have ls := (oke as X m c bs k gd en hP).2 _ h1
    split at h2
    · rename_i ns hns
      obtain ⟨h2, h5⟩ := and2 h2
      obtain ⟨h2, h4⟩ := and2 h2
      obtain ⟨h2, h3⟩ := and2 h2
      have nd := of_decide_eq_true h2
      have hvl := of_decide_eq_true h3
      have hv100 := of_decide_eq_true h4
      obtain ⟨n1, n2⟩ := names_mt hns
      split at h5
      · rename_i hsw
        have hw := swap_ok (k1 := k1) (k2 := k2) (p1 := p1) (p2 := p2) eb.kind en.sc hsw
        have pg := (tg_ok (P := c.P) en gd.calm gd.nd (tgOf is)).1 (.Tuple ts k1 p1) (by
          cases is with
          | nil => cases ts with
            | nil => rfl
            | cons _ _ => cases n2
          | cons i is => cases ts with
            | nil => cases n2
            | cons e es => exact n1)
        refine PS.mono (ps_asg (v_tup ls) pg rfl hw rfl) fun D σ H q => ?_
        obtain ⟨G, σ0, S, fl, S', st, sm, hb, e, fin⟩ := q
        simp only [exec] at e
        obtain ⟨xs, S1, e1, e2⟩ := Res.bind_eq_ok e
        obtain ⟨ds, rfl, hl⟩ := ls.tup e1
        obtain ⟨e3, rfl⟩ := Res.of_eq_ok e2
        obtain ⟨σ', e4, rfl⟩ := Option.map_eq_some_iff.mp e3
        have ev2 : ev c (.tup as) σ0 S = .ok (.tup ds) S' := by
          simp only [ev, e1, Res.bind_ok, argsOf]
          have : Nat.ble ds.length szl = true := by rw [Nat.ble_eq]; unfold szl; omega
          unfold newT
          rw [this]; rfl
        refine first_te st sm hb ev2 fun v G1 H1 ex x1 sm1 _ st1 r1 => ⟨G1, σ0, _, σ', st1, r1, bind_all e4, fun σL' st' _ => fin G1 σL' H1 ex x1 sm1 st'⟩
      · rename_i ys hsw
        obtain ⟨h5, h6⟩ := and2 h5
        obtain ⟨h50, h51⟩ := and2 h5
        have hys := of_decide_eq_true h50
        have hlen := of_decide_eq_true h51
        subst hys
        have loc : ∀ x ∈ ys, X.env.scope.names.lookup x = some .local := fun x hx => by
          rw [en.sc]
          have := List.all_eq_true.mp h6 x hx
          simpa using this
        have hw := swap_ok (k1 := k1) (k2 := k2) (p1 := p1) (p2 := p2) eb.kind en.sc hsw
        -- what is stored
        have core : ∀ (D : Ends) (σ : L2.St) (H : Hp), TS_ c X.K bs (.asgP is as) D σ H → TA_ c X.K bs as σ H fun vs H1 => ∃ G1 σ0 ds σ', StR c.P X.K G1 H1 σ0 σ ∧ RepL c.P X.K G1 H1 vs ds ∧ putAll is ds σ0 = some σ' ∧ ∀ σL', StR c.P X.K G1 H1 σ' σL' → D.nx σL' H1 := fun D σ H q => by
          obtain ⟨G, σ0, S, fl, S', st, sm, hb, e, fin⟩ := q
          simp only [exec] at e
          obtain ⟨xs, S1, e1, e2⟩ := Res.bind_eq_ok e
          obtain ⟨ds, rfl, hl⟩ := ls.tup e1
          obtain ⟨e3, rfl⟩ := Res.of_eq_ok e2
          obtain ⟨σ', e4, rfl⟩ := Option.map_eq_some_iff.mp e3
          exact ⟨G, σ0, S, ds, _, st, sm, hb, e1, fun vs G1 H1 ex x1 sm1 r1 => ⟨G1, σ0, ds, σ', st.ext ex, r1, e4, fun σL' st' => fin G1 σL' H1 ex x1 sm1 st'⟩⟩
        have ni : ∀ {is : List Nat} {ts : List Expr} {ns : List Str}, namesOf m is ts = some ns → ∀ (j i : Nat) (e : Expr), is[j]? = some i → ts[j]? = some e → ∃ x p, e = .Name x p ∧ ns[j]? = some x ∧ m.N[i]? = some x := fun {is} => by
          induction is with
          | nil => intro ts ns _ j i e h; simp at h
          | cons i0 is ih =>
            intro ts ns hn j i e h1 h2
            cases ts with
            | nil => simp at h2
            | cons e0 es =>
              cases e0 <;> first | (exfalso; simp [namesOf] at hn; done) | skip
              rename_i x0 p0
              unfold namesOf at hn
              split at hn
              · rename_i hc
                obtain ⟨ms, g1, rfl⟩ := Option.map_eq_some_iff.mp hn
                cases j with
                | zero =>
                  simp at h1 h2
                  subst h1; subst h2
                  exact ⟨x0, p0, rfl, rfl, of_decide_eq_true (and2 hc).1⟩
                | succ j =>
                  obtain ⟨x, p, g2, g3, g4⟩ := ih g1 j i e (by simpa using h1) (by simpa using h2)
                  exact ⟨x, p, g2, by simpa using g3, g4⟩
              · cases hn
        have neq : ∀ {a b : Nat} {x y : Str}, m.N[a]? = some x → m.N[b]? = some y → x ≠ y → a ≠ b := fun {a b x y} h1 h2 hne z => by
          subst z
          rw [h1] at h2
          exact hne (Option.some.inj h2)
        match ts, is, vs, hlen, n2, hvl, hns, ls, hw, core with
        | [t1, t2], [i1, i2], [v1, v2], _, _, _, hns, ls, hw, core =>
          obtain ⟨x, px, rfl, y1, m1⟩ := ni hns 0 i1 t1 rfl rfl
          obtain ⟨y, py, rfl, y2, m2⟩ := ni hns 1 i2 t2 rfl rfl
          have eys : ys = [x, y] := by
            match ys, y1, y2, hns with
            | a :: b :: r, y1, y2, hns =>
              simp at y1 y2
              subst y1; subst y2
              have := hns
              simp [namesOf] at this
              obtain ⟨_, _, rfl⟩ := this
              rfl
          subst eys
          have hxy : x ≠ y := by simpa using nd
          refine PS.mono (ps_par gd.calm gd.nd (by rw [en.N]; exact m1) (by rw [en.N]; exact m2) (neq m1 m2 hxy) (loc x (by simp)) (loc y (by simp)) ls.pa hw) fun D σ H q => ?_
          obtain ⟨G, σ0, S, ds, S', st, sm, hb, e, fin⟩ := core D σ H q
          refine ⟨G, σ0, S, ds, S', st, sm, hb, e, fun vs G1 H1 ex x1 sm1 r1 => ?_⟩
          obtain ⟨G2, σ2, ds2, σ', st2, r2, e2, k2⟩ := fin vs G1 H1 ex x1 sm1 r1
          match ds2, r2, e2 with
          | [d1, d2], r2, e2 =>
            obtain ⟨w1, w2, rfl, a1, a2⟩ := repL2 r2
            simp only [putAll] at e2
            cases e2
            exact ⟨w1, w2, rfl, k2 _ ((st2.set a1).set a2)⟩
          | [], _, e2 => simp [putAll] at e2
          | [_], _, e2 => simp [putAll] at e2
          | _ :: _ :: _ :: _, _, e2 => simp [putAll] at e2
        | [t1, t2, t3], [i1, i2, i3], [v1, v2, v3], _, _, _, hns, ls, hw, core =>
          obtain ⟨x, px, rfl, y1, m1⟩ := ni hns 0 i1 t1 rfl rfl
          obtain ⟨y, py, rfl, y2, m2⟩ := ni hns 1 i2 t2 rfl rfl
          obtain ⟨z, pz, rfl, y3, m3⟩ := ni hns 2 i3 t3 rfl rfl
          have eys : ys = [x, y, z] := by
            match ys, y1, y2, y3, hns with
            | a :: b :: d :: r, y1, y2, y3, hns =>
              simp at y1 y2 y3
              subst y1; subst y2; subst y3
              have := hns
              simp [namesOf] at this
              obtain ⟨_, _, _, rfl⟩ := this
              rfl
          subst eys
          have hd : x ≠ y ∧ x ≠ z ∧ y ≠ z := by
            simp at nd
            exact ⟨nd.1.1, nd.1.2, nd.2⟩
          refine PS.mono (ps_par3 gd.calm gd.nd (by rw [en.N]; exact m1) (by rw [en.N]; exact m2) (by rw [en.N]; exact m3) (neq m1 m2 hd.1) (neq m1 m3 hd.2.1) (neq m2 m3 hd.2.2) (loc x (by simp)) (loc y (by simp)) (loc z (by simp)) ls.pa hw) fun D σ H q => ?_
          obtain ⟨G, σ0, S, ds, S', st, sm, hb, e, fin⟩ := core D σ H q
          refine ⟨G, σ0, S, ds, S', st, sm, hb, e, fun vs G1 H1 ex x1 sm1 r1 => ?_⟩
          obtain ⟨G2, σ2, ds2, σ', st2, r2, e2, k2⟩ := fin vs G1 H1 ex x1 sm1 r1
          match ds2, r2, e2 with
          | [d1, d2, d3], r2, e2 =>
            cases r2 with
            | cons a0 r2 =>
              obtain ⟨w1, w2, rfl, a1, a2⟩ := repL2 r2
              simp only [putAll] at e2
              cases e2
              exact ⟨_, w1, w2, rfl, k2 _ (((st2.set a0).set a1).set a2)⟩
          | [], _, e2 => simp [putAll] at e2
          | [_], _, e2 => simp [putAll] at e2
          | [_, _], _, e2 => simp [putAll] at e2
          | _ :: _ :: _ :: _ :: _, _, e2 => simp [putAll] at e2
      · cases h5
    · cases h2) fun m sts h => absurd h Bool.false_ne_true
end
end TD

set_option Elab.async false
set_option linter.all false
set_option maxRecDepth 100000
set_option maxHeartbeats 4000000
set_option autoImplicit false
/-! TEd: every statement; every def. -/
namespace TD
open PySem PySem.Spec PyProof.Rows L2
theorem swap_sub {m : MC} {x1 s1 x2 s2 : Expr} {p1 p2 : Pos} {vs : List Expr} : swapB m [.Subscript x1 s1 p1, .Subscript x2 s2 p2] vs = some none := by
  unfold swapB
  split
  · rfl
  · split
    · rfl
    · rfl
def noSl : Expr → Bool
  | .Slice _ _ _ _ => false
  | _ => true
theorem sub_form {x s : Expr} {q : Pos} {env : Env} (hs : noSl s = true) (v : Value) : assign (.Subscript x s q) env v = (do
    let ov ← holding [v] (eval x env)
    let iv ← holding [v, ov] (eval s env)
    standAt q
    holding [v, ov, iv] (setItem ov iv v)
    release [v, ov, iv] []) := by
  cases s <;> first | rfl | cases hs
theorem noSl2 {s1 s2 : Expr} (h : (match s1, s2 with
    | .Slice _ _ _ _, _ => false
    | _, .Slice _ _ _ _ => false
    | _, _ => true) = true) : noSl s1 = true ∧ noSl s2 = true := by
  cases s1 <;> first | exact absurd h Bool.false_ne_true | (cases s2 <;> first | exact absurd h Bool.false_ne_true | exact ⟨rfl, rfl⟩)
theorem oks_asg2 (o1 i1 o2 i2 e : E) : OKS (.asg2 o1 i1 o2 i2 e) := oks_of (fun X m c bs k gd en hP eb st h => by
  cases st <;> first | exact absurd h Bool.false_ne_true | skip
  rename_i tgs v pos
  match tgs, h with
  | [], h => exact absurd h Bool.false_ne_true
  | a :: _ :: _, h => 
    cases a <;> first | exact absurd h Bool.false_ne_true | skip
    rename_i b r ts kk p
    match ts, h with
    | [], h => exact absurd h Bool.false_ne_true
    | a :: ts, h =>
      cases a <;> first | exact absurd h Bool.false_ne_true | skip
      cases ts with
      | nil => exact absurd h Bool.false_ne_true
      | cons a ts =>
        cases a <;> first | exact absurd h Bool.false_ne_true | skip
        cases ts <;> exact absurd h Bool.false_ne_true
  | [tg], h =>
    cases tg <;> first | exact absurd h Bool.false_ne_true | skip
    rename_i ts kk p
    match ts, h with
    | [], h => exact absurd h Bool.false_ne_true
    | a :: ts, h =>
      cases a <;> first | exact absurd h Bool.false_ne_true | skip
      rename_i x1 s1 q1
      cases ts with
      | nil => exact absurd h Bool.false_ne_true
      | cons a ts =>
        cases a <;> first | exact absurd h Bool.false_ne_true | skip
        rename_i x2 s2 q2
        cases ts with
        | cons _ _ => exact absurd h Bool.false_ne_true
        | nil =>
          cases v <;> first | exact absurd h Bool.false_ne_true | skip
          rename_i vs k2 p2 _ _
          obtain ⟨h1, h6⟩ := and2 h
          obtain ⟨h1, h5⟩ := and2 h1
          obtain ⟨h1, h4⟩ := and2 h1
          obtain ⟨h1, h3⟩ := and2 h1
          obtain ⟨h1, h2⟩ := and2 h1
          have hs12 := noSl2 h1
          have hw := swap_ok (m := m) (k1 := kk) (k2 := k2) (p1 := p) (p2 := p2) eb.kind en.sc (swap_sub (m := m) (x1 := x1) (s1 := s1) (x2 := x2) (s2 := s2) (p1 := q1) (p2 := q2) (vs := vs))
          have ok := fun e => oke e X m c bs k gd en hP
          refine PS.mono (ps_asg ((ok e).1 _ h6).1 (pg_tup (n := 2) gd.calm (pgs_cons (pg_sub ((ok o1).1 _ h2).1 ((ok i1).1 _ h3).1 (setI_ok gd) (sub_form hs12.1)) (pgs_cons (pg_sub ((ok o2).1 _ h4).1 ((ok i2).1 _ h5).1 (setI_ok gd) (sub_form hs12.2)) pgs_nil rfl) rfl) rfl rfl) rfl hw rfl) fun D σ H q => ?_
          obtain ⟨G, σ0, S, fl, S', st, sm, hb, e0, fin⟩ := q
          simp only [exec] at e0
          obtain ⟨d, S1, e1, e0⟩ := Res.bind_eq_ok e0
          split at e0
          · rename_i u w
            obtain ⟨a1, S2, e2, e0⟩ := Res.bind_eq_ok e0
            obtain ⟨b1, S3, e3, e0⟩ := Res.bind_eq_ok e0
            obtain ⟨_, S4, e4, e0⟩ := Res.bind_eq_ok e0
            obtain ⟨a2, S5, e5, e0⟩ := Res.bind_eq_ok e0
            obtain ⟨b2, S6, e6, e0⟩ := Res.bind_eq_ok e0
            obtain ⟨_, S7, e7, e0⟩ := Res.bind_eq_ok e0
            cases e0
            refine first_te st sm hb e1 fun v G1 H1 ex1 x1 sm1 hb1 st1 r1 => ?_
            obtain ⟨t, xs, rfl, sq, _, rl⟩ := repT r1
            obtain ⟨vu, vw, rfl, ru, rw'⟩ := repL2 rl
            refine ⟨t, _, rfl, sq, rfl, vu, [vw], rfl, ?_⟩
            refine first_te st1 sm1 hb1 e2 fun va G2 H2 ex2 x2 sm2 hb2 st2 ra => first_te st2 sm2 hb2 e3 fun vb G3 H3 ex3 x3 sm3 hb3 st3 rb => ?_
            refine ⟨G3, S3, a1, b1, u, S4, sm3, ra.ext ex3, rb, (ru.ext ex2).ext ex3, e4, fun G4 H4 ex4 x4 sm4 => ?_⟩
            have st4 := st3.ext ex4
            have hb4 := Nat.le_trans hb3 (ex4.le sm3 sm4)
            refine ⟨vw, [], rfl, ?_⟩
            refine first_te st4 sm4 hb4 e5 fun va2 G5 H5 ex5 x5 sm5 hb5 st5 ra2 => first_te st5 sm5 hb5 e6 fun vb2 G6 H6 ex6 x6 sm6 hb6 st6 rb2 => ?_
            refine ⟨G6, S6, a2, b2, w, _, sm6, ra2.ext ex6, rb2, ((((rw'.ext ex2).ext ex3).ext ex4).ext ex5).ext ex6, e7, fun G7 H7 ex7 x7 sm7 => ⟨rfl, ?_⟩⟩
            exact fin G7 σ H7 ((((((ex1.trans ex2).trans ex3).trans ex4).trans ex5).trans ex6).trans ex7) ((((((x1.trans x2).trans x3).trans x4).trans x5).trans x6).trans x7) sm7 (st6.ext ex7)
          · cases e0) fun m sts h => absurd h Bool.false_ne_true
/-- name += e, name -= e of ints -/
theorem pip_int {X : Cx} {op : BOp} (h : op = .add ∨ op = .sub) : PIp X (opOf op) (fun x y H Q => ∃ i j n, x = .int i ∧ y = .int j ∧ arith op i j = some n ∧ Q (.int n) H) := by
  intro pins s σ H x y v u Q I rx ry q
  obtain ⟨i, j, n, rfl, rfl, e, q⟩ := q
  obtain ⟨t, rfl⟩ := (show ∃ t, v = Value.int i t from rx)
  obtain ⟨t', rfl⟩ := (show ∃ t', u = Value.int j t' from ry)
  rcases h with rfl | rfl
  · cases e
    exact PyProof.Rows.iadd_int ⟨.int (i + j), H, I.tok _, ⟨_, rfl⟩, q⟩
  · cases e
    exact PyProof.Rows.isub_int ⟨.int (i - j), H, I.tok _, ⟨_, rfl⟩, q⟩
theorem oks_aug (i : Nat) (op : BOp) (e : E) : OKS (.aug i op e) := oks_of (fun X m c bs k gd en hP eb st h => by
  cases st <;> first | exact absurd h Bool.false_ne_true | skip
  rename_i tg o v pos
  cases tg <;> first | exact absurd h Bool.false_ne_true | skip
  rename_i x px
  obtain ⟨h1, h5⟩ := and2 h
  obtain ⟨h1, h4⟩ := and2 h1
  obtain ⟨h1, h3⟩ := and2 h1
  obtain ⟨h1, h2⟩ := and2 h1
  have hop := of_decide_eq_true h1
  cases opB_eq h4
  obtain ⟨l1, l2⟩ := en.loc h3
  refine PS.mono (ps_aug gd.nd (by rw [en.N]; exact of_decide_eq_true h2) l1 ((oke e X m c bs k gd en hP).1 _ h5).1 (pip_int hop) l2) fun D σ H q => ?_
  obtain ⟨G, σ0, S, fl, S', st, sm, hb, e0, fin⟩ := q
  simp only [exec] at e0
  obtain ⟨a, S0, g1, g2⟩ := Res.bind_eq_ok e0
  obtain ⟨e1, hS⟩ := Res.of_eq_ok g1
  subst hS
  obtain ⟨b, S1, e2, g3⟩ := Res.bind_eq_ok g2
  obtain ⟨z, S2, e3, e4⟩ := Res.bind_eq_ok g3
  cases e4
  split at e3
  · rename_i p q
    obtain ⟨n, e5, rfl, rfl⟩ := map_ok e3
    have e6 : σ0[i]? = some (some (.int p)) := by
      unfold getS at e1
      cases q : σ0[i]? with
      | none => rw [q] at e1; cases e1
      | some o => rw [q] at e1; simp at e1; rw [e1]
    obtain ⟨w, e7, r⟩ := st.2 i _ e6
    cases r
    refine ⟨_, e7, first_te st sm hb e2 fun v G1 H1 ex x1 sm1 _ st1 r1 => ?_⟩
    cases r1
    exact ⟨p, q, n, rfl, rfl, e5, fin G1 _ H1 ex x1 sm1 (st1.set (.int n))⟩
  · cases e3) fun m sts h => absurd h Bool.false_ne_true
theorem oks_bad {s : Sx} (h1 : ∀ m st, mtS m s (.one st) = true → False) (h2 : ∀ m sts, mtS m s (.many sts) = true → False) : OKS s := fun X m c bs k gd en hP eb => ⟨fun st h => (h1 m st h).elim, fun sts h => (h2 m sts h).elim⟩
theorem oks (s : Sx) : OKS s := by
  induction s with
  | nil => exact oks_nil
  | cons s r is ir => exact oks_cons is ir
  | pass => exact oks_pass
  | asg t e => exact oks_asg t e
  | asgF o f e => exact oks_asgF o f e
  | asgI o i e => exact oks_asgI o i e
  | asg2 o1 i1 o2 i2 e => exact oks_asg2 o1 i1 o2 i2 e
  | asgP is as => exact oks_asgP is as
  | aug i op e => exact oks_aug i op e
  | augF o f op e => exact oks_bad (fun m st h => by cases st <;> exact absurd h Bool.false_ne_true) fun m sts h => absurd h Bool.false_ne_true
  | expr e => exact oks_expr e
  | ret e => exact oks_ret e
  | retN => exact oks_retN
  | iff t a b ia ib => exact oks_iff t ia ib
  | loop t it src b ib => exact oks_loop t it src ib
  | whil t b ib => exact oks_whil t ib
  | brk => exact oks_brk
  | cnt => exact oks_cnt
  | never => exact oks_never
end TD

set_option Elab.async false
set_option linter.all false
set_option maxRecDepth 100000
set_option maxHeartbeats 4000000
set_option autoImplicit false
/-! TEe: every def keeps its promise. -/
namespace TD
open PySem PySem.Spec PyProof.Rows L2
/-- what is known of the text behind its top -/
structure PF (P : Prog) (K : PySem.W.Frag) (mg : Str → Option Value) : Prop where
  nmd : P.nm.Nodup
  bn : ∀ x ∈ bnames, mg x = none
  cl : ∀ (i : Nat) (ci : ClsI), P.cl i = some ci → ClsF P K mg i ci
  dun : P.nm.take dunders.length = dunders
  nf : ∀ (i : Nat) (ci : ClsI) (t : Ty), P.cl i = some ci → tyOk P t = true → PySem.W.notFirst K (clsA P K i) (tyV P K t) = true
  gl : ∀ (g : Nat) (x : Str) (d : D), P.globs[g]? = some (x, d) → ∃ u v, mg x = some u ∧ RelV v u ∧ GlR K v d
  kit : ∀ t t', tyOk P t = true → tyOk P t' = true → PySem.W.kitOne K (tyV P K t) (tyV P K t') = some (isTy t t')
  fn : ∀ (f : Nat) (fd : FnI), P.fns[f]? = some fd → ∃ (x qual : Str) (params : Arguments) (body : List Stmt) (scope : Scope) (dvs : List V) (kws : List (Str × V)) (fdat : FuncData),
    FunD K x qual params body scope dvs kws (He.fAd K fd.at_) fdat ∧ FnScope fd.names (fd.names.take fd.np) scope ∧ fd.np ≤ fd.names.length ∧ mtS ⟨P, fd.names, scope, fun _ => true⟩ fd.body (.many body) = true ∧
    (∀ m, m ≤ fd.dfl.length → ∃ ds, Vals (fd.dfl.drop (fd.dfl.length - m)) ds ∧ Binds K fdat (fd.names.take fd.np) ds) ∧ (∀ x, fd.at_ = (x, none) → mg x = some (.ref (He.fAd K fd.at_))) ∧ (∀ v ∈ fd.dfl, ∃ b, v = .non ∨ v = .bl b ∨ ∃ i, v = .int i)
theorem call_len {P : Prog} {W n b f : Nat} {as : List D} {S S' : Store} {d : D} {fd : FnI} (hf : P.fns[f]? = some fd) (e : callF P W n b f as S = .ok d S') : as.length = fd.np := by
  cases n with
  | zero => simp only [callF] at e; cases e
  | succ n =>
    simp only [callF, hf, run] at e
    split at e
    · assumption
    · cases e
theorem start_rep {P : Prog} {K : PySem.W.Frag} {G : Gh} {H : Hp} {fd : FnI} {vs : List V} {as : List D} (r : RepL P K G H vs as) (hl : as.length ≤ fd.names.length) : StR P K G H (TD.start fd as) (L2.start fd.names vs) := by
  have hlen := r.length
  refine ⟨by simp [TD.start, L2.start, hlen], fun i d e => ?_⟩
  unfold TD.start at e
  by_cases hi : i < as.length
  · rw [List.getElem?_append_left (by simpa using hi), List.getElem?_map] at e
    have e1 : as[i]? = some d := by
      cases q : as[i]? with
      | none => rw [q] at e; cases e
      | some x => rw [q] at e; cases e; rfl
    obtain ⟨v, e2, rv⟩ := r.get e1
    refine ⟨v, ?_, rv⟩
    unfold L2.start
    rw [List.getElem?_append_left (by rw [List.length_map, hlen]; exact hi), List.getElem?_map, e2]
    rfl
  · rw [List.getElem?_append_right (by simpa using hi)] at e
    rw [List.getElem?_replicate] at e
    split at e <;> cases e
section
variable {P : Prog} {K : PySem.W.Frag} {mg : Str → Option Value} {p : Program} {w : World} {base : Heap} {W : Nat}
theorem fnok (F : PF P K mg) : ∀ (n f : Nat) (fd : FnI), P.fns[f]? = some fd → ∃ fdat, FnOk p w K mg base CX0 (4 * n) (He.fAd K fd.at_) fdat (fd.names.take fd.np) (spF P K (callF P W n) f fd.np fd.keep) ∧ PySem.W.keepIn K (.ref (He.fAd K fd.at_)) = true ∧
    (∀ m, m ≤ fd.dfl.length → ∃ ds, Vals (fd.dfl.drop (fd.dfl.length - m)) ds ∧ Binds K fdat (fd.names.take fd.np) ds) ∧ (∀ x, fd.at_ = (x, none) → mg x = some (.ref (He.fAd K fd.at_))) ∧ (∀ v ∈ fd.dfl, ∃ b, v = .non ∨ v = .bl b ∨ ∃ i, v = .int i) ∧
    ∃ (x qual : Str) (params : Arguments) (body : List Stmt) (scope : Scope) (dvs : List V) (kws : List (Str × V)), FunD K x qual params body scope dvs kws (He.fAd K fd.at_) fdat
  | 0, f, fd, hf => by
    obtain ⟨x, qual, params, body, scope, dvs, kws, fdat, FD, SC, hnp, hm, hb, hg, hv⟩ := F.fn f fd hf
    have no : ∀ vs H Q E, spF P K (callF P W 0) f fd.np fd.keep vs H Q E → False := fun vs H Q E q => by
      obtain ⟨_, bs, b, G, S, as, d, S', _, _, _, _, e, _⟩ := q
      simp only [callF] at e
      cases e
    exact ⟨fdat, ⟨fun vs H Q E q => (no _ _ _ _ q).elim, fun A outer s H args us vs Q E _ _ _ _ q => (no _ _ _ _ q).elim⟩, FD.kp, hb, hg, hv, _, _, _, _, _, _, _, FD⟩
  | n + 1, f, fd, hf => by
    obtain ⟨x, qual, params, body, scope, dvs, kws, fdat, FD, SC, hnp, hm, hb, hg, hv⟩ := F.fn f fd hf
    refine ⟨fdat, ?_, FD.kp, hb, hg, hv, _, _, _, _, _, _, _, FD⟩
    have tk : (fd.names.take fd.np).length = fd.np := by rw [List.length_take]; omega
    refine FunD.ok (k := 4 * n + 3) (CX := CX0) FD SC (fun vs H Q E q => by rw [tk]; exact q.1) fun cdv A outer s H vs Q E room sp => ?_
    obtain ⟨hl, bs, b, G, S, as, d, S', hlow, hbl, sm, ra, e, fin⟩ := sp
    simp only [callF, hf, run] at e
    split at e
    · rename_i hn
      split at e
      · -- nothing of the cells is needed
        rename_i hpure
        simp only [Bool.and_eq_true, Bool.not_eq_true'] at hpure
        obtain ⟨hk, hpa⟩ := hpure
        have s0 := sm.off
        generalize hX : cxOf CX0 p w K mg base fd.names qual scope (He.fAd K fd.at_) cdv A outer s H E = X
        have hK : X.K = K := by rw [← hX]; rfl
        have gd : Gd X ⟨callF P W n, P, 0, W⟩ [0] (4 * n) := by
          subst hX
          refine ⟨rfl, SC.nd, room, fun b hb => by simp at hb; omega, F.nmd, F.bn, fun g fg hg' => ?_, F.cl, F.dun, fun b0 f0 as0 S0 S0' d0 fd0 h1 h2 => call_len h1 h2, F.nf, F.gl, F.kit⟩
          obtain ⟨a1, a2, a3, a4, a5, a6, _⟩ := fnok F n g fg hg'
          exact ⟨a1, a2, a3, a4, a5, a6⟩
        have en : En X ⟨P, fd.names, scope, fun _ => true⟩ := by subst hX; exact ⟨rfl, rfl, rfl⟩
        have eb : Eb X := by
          subst hX
          exact ⟨passes_of (K := fun e s'' => CX0 outer H s E e s'') (E₁ := fun e' s'' => CX0 outer H s E e' s'') rfl, SC.kind⟩
        have ps := ((oks fd.body) X _ _ [0] (4 * n) gd en rfl eb).2 body hm
        refine ⟨_, ps, ?_⟩
        rw [hK]
        have stR := start_rep (fd := fd) (ra.off (all_pure hpa)) (by omega)
        split at e
        · rename_i d0 S1 ee
          obtain ⟨hz, rfl⟩ := Res.of_eq_ok e
          refine ⟨G.off, TD.start fd as, [], _, S1, stR, s0, Nat.le_refl _, ee, fun v G' H' ex x1 sm1 r1 => ?_⟩
          obtain ⟨b1, b2⟩ := sm.back ex sm1
          exact fin v (G.back G') H' b1 .refl b2 (Rep.back (frz_rep sm1 hz r1))
        · rename_i σ1 S1 ee
          cases e
          refine ⟨G.off, TD.start fd as, [], _, S1, stR, s0, Nat.le_refl _, ee, fun G' σL' H' ex x1 sm1 st1 => ?_⟩
          obtain ⟨b1, b2⟩ := sm.back ex sm1
          exact fin .non (G.back G') H' b1 .refl b2 .non
        · cases e
      generalize hX : cxOf CX0 p w K mg base fd.names qual scope (He.fAd K fd.at_) cdv A outer s H E = X
      have hbs' : ∃ bs', (∀ b' ∈ bs, b' ∈ bs') ∧ (∀ b' ∈ bs', b' ≤ if fd.keep then b else S.length) ∧ (fd.keep = false → S.length ∈ bs') ∧ Sim P K bs' G S H := by
        cases hk : fd.keep with
        | true => exact ⟨bs, fun _ h => h, (fun b' h => by have := hlow b' h; rw [hk] at this; exact this), (fun z => by cases z), sm⟩
        | false =>
          refine ⟨S.length :: bs, fun _ h => List.mem_cons_of_mem _ h, fun b' h => ?_, fun _ => List.mem_cons_self, sm.here⟩
          rcases List.mem_cons.mp h with z | z
          · simp [z]
          · have := hlow b' z; rw [hk] at this; exact this
      obtain ⟨bs', hsub, hlow', hin, sm'⟩ := hbs'
      have hK : X.K = K := by rw [← hX]; rfl
      have gd : Gd X ⟨callF P W n, P, if fd.keep then b else S.length, W⟩ bs' (4 * n) := by
        subst hX
        refine ⟨rfl, SC.nd, room, hlow', F.nmd, F.bn, fun g fg hg' => ?_, F.cl, F.dun, fun b0 f0 as0 S0 S0' d0 fd0 h1 h2 => call_len h1 h2, F.nf, F.gl, F.kit⟩
        obtain ⟨a1, a2, a3, a4, a5, a6, _⟩ := fnok F n g fg hg'
        exact ⟨a1, a2, a3, a4, a5, a6⟩
      have en : En X ⟨P, fd.names, scope, fun _ => true⟩ := by subst hX; exact ⟨rfl, rfl, rfl⟩
      have eb : Eb X := by
        subst hX
        exact ⟨passes_of (K := fun e s'' => CX0 outer H s E e s'') (E₁ := fun e' s'' => CX0 outer H s E e' s'') rfl, SC.kind⟩
      have ps := ((oks fd.body) X _ _ bs' (4 * n) gd en rfl eb).2 body hm
      refine ⟨_, ps, ?_⟩
      rw [hK]
      have stR := start_rep (fd := fd) ra (by omega)
      have cb : (if fd.keep then b else S.length) ≤ S.length := by split <;> omega
      -- what leaves the frame
      have out : ∀ d0 S1, leave P fd.keep S.length d0 S1 = .ok d S' → ∀ v G' H', Ext G H G' H' → SX S S1 → Sim P K bs' G' S1 H' → Rep P K G' H' v d0 → Q v H' := fun d0 S1 el v G' H' ex x1 sm1 r1 => by
        unfold leave at el
        split at el
        · cases el
          exact fin v G' H' ex x1 (sm1.sub hsub) r1
        · rename_i hk
          have hk : fd.keep = false := by simpa using hk
          split at el
          · rename_i d1 hz
            cases el
            have tr := sm1.trunc (hin hk)
            refine fin v (G'.trunc S.length) H' (ex.trunc sm.len) x1.take (tr.sub fun b' hb' => List.mem_filter.mpr ⟨hsub b' hb', ?_⟩) (frz_rep sm1 hz r1)
            have := (sm.lv b' hb').1
            exact Nat.ble_eq_true_of_le this
          · cases el
      split at e
      · rename_i d0 S1 ee
        exact ⟨G, TD.start fd as, S, _, S1, stR, sm', cb, ee, fun v G' H' ex x1 sm1 r1 => out d0 S1 e v G' H' ex x1 sm1 r1⟩
      · rename_i σ1 S1 ee
        exact ⟨G, TD.start fd as, S, _, S1, stR, sm', cb, ee, fun G' σL' H' ex x1 sm1 st1 => out .non S1 e .non G' H' ex x1 sm1 .non⟩
      · cases e
    · cases e
end
end TD

set_option Elab.async false
set_option linter.all false
set_option maxRecDepth 100000
set_option maxHeartbeats 4000000
set_option autoImplicit false
/-! TEf: the facts of a text behind its top; a law's end. -/
namespace TD
open PySem PySem.Spec PyProof.Rows L2
/-! ### a != b by == alone -/
def neIn (K : PySem.W.Frag) (C f : Addr) : Bool := match K.lookup C with
  | some ⟨.type "type", _, .cls cd, sl⟩ => (match cd.mro, sl.toList with
    | [.ref C', .type "object"], [_, _, _, _, some (.builtin _), _] => C' == C && !cd.hasDel && PySem.W.nsOkIn K cd.ns && decide (PySem.W.nsIn K cd.ns "__eq__" = some (some (.ref f))) && decide (PySem.W.nsIn K cd.ns "__ne__" = some none) && (match K.lookup f with
      | some o => o.cls == .type "function"
      | none => false)
    | _, _ => false)
  | _ => false
theorem ns_some_of {K : PySem.W.Frag} {h : Heap} {N : Addr} {mg : Str → Option Value} {n : Str} {v : Value} (X : K.In h) (G : h.Ns N mg) (e : PySem.W.nsIn K N n = some (some v)) : mg n = some v := by
  obtain ⟨o, es, ep, ho, hd, _, hf⟩ := G
  unfold PySem.W.nsIn at e
  split at e
  · rename_i c d es' n' sl q
    have := X _ _ q
    rw [ho] at this
    cases this
    cases hd
    split at e
    · rename_i z he
      cases e
      rw [← hf]
      unfold nsFind findBy
      rw [← Array.find?_toList, he]
      rfl
    · split at e <;> cases e
  · cases e
theorem eq_object : typeLookup (.type "object") ("__eq__" : Str) = pure (some (.builtin "object.__eq__")) := by rw [typeLookup_type, builtinLookup_eq_fast]; kernel_rfl
theorem ne_of {K : PySem.W.Frag} {h : Heap} {C f x dx : Addr} (X : K.In h) (e : neIn K C f = true) (hx : h.get? x = some (PySem.W.instObj C dx)) : h.OwnEqNoNe x C f "object" [.type "object"] := by
  unfold neIn at e
  split at e
  · rename_i dd cd sl ho
    split at e
    · rename_i C' k0 k1 k2 k3 n k5 hm hs
      simp only [Bool.and_eq_true, beq_iff_eq, Bool.not_eq_true', decide_eq_true_eq] at e
      obtain ⟨⟨⟨⟨⟨rfl, hdel⟩, hok⟩, h1⟩, h2⟩, h3⟩ := e
      split at h3
      · rename_i of hof
        obtain ⟨nm, bs, mro, ns, qn, hd, sn, sub, ab, col, del⟩ := cd
        dsimp only at hm hdel hok h1 h2
        subst hm hdel
        have hsl : sl = #[k0, k1, k2, k3, some (.builtin n), k5] := by
          obtain ⟨l⟩ := sl
          simp only at hs
          rw [hs]
        subst hsl
        have N : h.Ns ns (h.nsMap ns) := .of_isNs (PySem.W.isNs_of_in X hok)
        exact ⟨_, of, nm, qn, ns, bs, hd, sn, sub, ab, col, dd, k0, k1, k2, k3, k5, n, _, _, hx, rfl, X _ _ ho, N, ns_some_of X N h1, X _ _ hof, beq_iff_eq.mp (by simpa using h3), PySem.F.mro_object, eq_object, PySem.W.ns_none_of X N h2⟩
      · cases h3
    · cases e
  · cases e
/-! ### the test of the written part -/
def tyList (P : Prog) : List Ty := tyNames.map .bi ++ ((List.range P.cls.length).filter fun c => (P.cl c).isSome).map .own
def tgList (P : Prog) : List Ty := ["bool", "int", "str", "tuple", "list"].map .bi ++ ((List.range P.cls.length).filter fun c => (P.cl c).isSome).map .own
def clsB (P : Prog) (K : PySem.W.Frag) (i : Nat) (ci : ClsI) : Bool :=
  (He.Fa.glo ci.name).ok K && PySem.W.keepIn K (.ref (He.ga K ci.name)) && (He.Fa.cls ci.name).ok K && (He.Fa.mkr ci.name).ok K && (ci.attrs.all fun a => Nat.blt a P.nm.length && (He.Fa.noat ci.name (P.nmOf a)).ok K) && (ci.meths.all fun q => Nat.blt q.1 P.nm.length && !ci.attrs.contains q.1 && (match P.fns[q.2]? with
      | some fd => decide (fd.at_ = (ci.name, some (P.nmOf q.1)))
      | none => false) && (He.Fa.meth ci.name (P.nmOf q.1)).ok K) && PySem.W.selfFirst K (He.ga K ci.name) &&
    decide (PySem.W.findIn K (.ref (He.ga K ci.name)) "__class__" = some (some (.builtin "object.__class__"))) && decide (PySem.W.mroIn K (He.ga K ci.name) (.type "object") = some true) && Nat.ble ci.attrs.length 900 &&
    (match P.meth i 1 with
    | some _ => neIn K (He.ga K ci.name) (He.ma K (He.ga K ci.name) "__eq__")
    | none => true) && ((tyList P).all fun t => PySem.W.notFirst K (clsA P K i) (tyV P K t))
def intsVB : List Int → List Value → Bool
  | [], [] => true
  | i :: is, .int j _ :: vs => decide (i = j) && intsVB is vs
  | _, _ => false
def tupB (K : PySem.W.Frag) (a : Addr) (is : List Int) : Bool := match K.lookup a with
  | some o => o.cls == .type "tuple" && (match o.data with
    | .seq its _ => Nat.ble its.size szl && Nat.ble is.length szl && intsVB is its.toList
    | _ => false)
  | none => false
theorem intsVB_ok : ∀ {is : List Int} {vs : List Value}, intsVB is vs = true → Vals (is.map V.int) vs
  | [], [], _ => Paired.nil
  | i :: is, .int j t :: vs, h => by
    simp only [intsVB, Bool.and_eq_true] at h
    obtain rfl := of_decide_eq_true h.1
    exact Paired.cons ⟨t, rfl⟩ (intsVB_ok h.2)
theorem tupB_ok {K : PySem.W.Frag} {a : Addr} {is : List Int} (h : tupB K a is = true) : is.length ≤ szl ∧ TupK K a (is.map V.int) := by
  unfold tupB at h
  split at h
  · rename_i o e
    simp only [Bool.and_eq_true] at h
    obtain ⟨h1, h2⟩ := h
    split at h2
    · rename_i its n hd
      simp only [Bool.and_eq_true] at h2
      obtain ⟨⟨h2, h3⟩, h4⟩ := h2
      exact ⟨Nat.le_of_ble_eq_true h3, o, its, n, e, eq_of_beq h1, hd, by rw [← szl_eq]; exact Nat.le_of_ble_eq_true h2, intsVB_ok h4⟩
    · cases h2
  · cases h
theorem intsOf_eq : ∀ {ds : List D} {is : List Int}, intsOf ds = some is → ds = is.map D.int
  | [], is, h => by cases h; rfl
  | d :: ds, is, h => by
    cases d <;> first | (simp [intsOf] at h; done) | skip
    rename_i i
    simp only [intsOf, Option.map_eq_some_iff] at h
    obtain ⟨r, h1, rfl⟩ := h
    rw [List.map_cons, intsOf_eq h1]
def tdB (P : Prog) (K : PySem.W.Frag) : Bool :=
  (bnames.all fun x => (He.Fa.free x).ok K) && ((List.range P.cls.length).all fun i => match P.cl i with
    | some ci => clsB P K i ci
    | none => true) && (P.globs.all fun g => match g.2 with
    | .int i => (He.Fa.int g.1 i).ok K
    | .str z => (He.Fa.str g.1 z).ok K
    | .tup ds => (match intsOf ds with
      | some is => (He.Fa.glo g.1).ok K && tupB K (He.ga K g.1) is
      | none => false)
    | _ => false) && ((tyList P).all fun t => (tyList P).all fun t' => decide (PySem.W.kitOne K (tyV P K t) (tyV P K t') = some (isTy t t'))) &&
    decide (PySem.W.specialIn K (.builtin "object.__class__") "__get__" = some (some (.builtin "getset_descriptor.__get__"))) && decide (PySem.W.takesIn K (.builtin "object.__class__") = some true) && (K.all fun p => p.2.cls != .type "list") &&
    (P.fns.all fun fd => match fd.at_.2 with
    | none => (He.Fa.glo fd.at_.1).ok K
    | some _ => true)
abbrev AlT : Type := Bool × He.AlD
def hookT (n : Nat) (P : Prog) (fn : List He.DefD) : PySem.W.Hook where
  α := AlT
  obs := fun s => (tdB P (He.frG s.heap.get? (List.range n)), He.obsD [] fn (He.frG s.heap.get? (List.range n)))
  val := fun _ => (true, He.valD fn)
  says := fun _ h => ∃ K : PySem.W.Frag, K.In h ∧ tdB P K = true ∧ He.SaysD [] fn K
  of := fun _ _ e => ⟨_, He.frG_in, congrArg (fun z : AlT => z.1) e, congrArg (fun z : AlT => z.2) e⟩
  keeps := fun _ _ _ ⟨K, hK, c⟩ k => ⟨K, PySem.W.Frag.In.keeps hK k, c⟩
def obT (n : Nat) (P : Prog) (fn : List He.DefD) (g : Addr → Option Obj) : AlT := (tdB P (He.frG g (List.range n)), He.obsD [] fn (He.frG g (List.range n)))
theorem obT_eq {n : Nat} {P : Prog} {fn : List He.DefD} {g : Addr → Option Obj} {s : Shared} (h : ∀ a, g a = s.heap.get? a) : obT n P fn g = (hookT n P fn).obs s := by
  have e : g = s.heap.get? := funext h
  rw [e] <;> rfl
theorem cl_lt {P : Prog} {i : Nat} {ci : ClsI} (h : P.cl i = some ci) : i < P.cls.length := by
  unfold Prog.cl at h
  cases e : P.cls[i]? with
  | none => rw [e] at h; cases h
  | some x => exact (List.getElem?_eq_some_iff.mp e).1
open PySem.W PySem.Calls HandSHeadRun in
/-- the run's equation from its two looks -/
theorem run_two {r : PySem.W.OpenRow} {q : Program} {H : PySem.W.Hook} {ob : PySem.W.SharedT → H.α} {M : Nat} {loose : List Str} {w : World}
    (h1 : ∀ os : OsState, (HandSHeadRun.endF (stepQ (denQ tabQ) r.prog w) M r.prog w os).map (fun s => (HandSHeadRun.looksF r.prog (boot_heap w.params) s.abs, HandSHeadRun.seenQ q loose (importedModules r.prog.main.body) (fun s => xlAt q [] s && recOk r.toRowW.records s) s.abs)) = some (true, openGood q loose))
    (h2 : ∀ os : OsState, (HandSHeadRun.endF (stepQ (denQ tabQ) r.prog w) M r.prog w os).map ob = some (H.val w)) : HandSHeadRun.RunEq r q H ob M loose w := by
  intro os
  have a := h1 os
  have b := h2 os
  cases e : HandSHeadRun.endF (stepQ (denQ tabQ) r.prog w) M r.prog w os with
  | none => rw [e] at b; cases b
  | some s =>
    rw [e] at a b
    simp only [Option.map_some, Option.some.injEq, Prod.mk.injEq] at a b ⊢
    exact ⟨a.1, a.2, b⟩
theorem tyOk_mem {P : Prog} {t : Ty} (h : tyOk P t = true) : t ∈ tyList P := by
  unfold tyList
  cases t with
  | bi t => exact List.mem_append_left _ (List.mem_map_of_mem (by simpa [tyOk] using h))
  | own c =>
    refine List.mem_append_right _ (List.mem_map_of_mem ?_)
    simp only [tyOk] at h
    rw [List.mem_filter]
    refine ⟨?_, h⟩
    rw [Option.isSome_iff_exists] at h
    obtain ⟨ci, h⟩ := h
    exact List.mem_range.mpr (cl_lt h)
/-! ### the defs -/
def scB (names ps : List Str) (sc : Scope) : Bool := (match sc.kind with
  | .function => true
  | _ => false) && !sc.isCoroutine && !sc.isGenerator && decide names.Nodup && decide (names.take ps.length = ps) && (ps.all fun x => match sc.names.lookup x with
    | some .local => true
    | some .cell => true
    | _ => false) && sc.names.all fun y => match y.2 with
      | .free => false
      | _ => true
theorem scB_ok {names ps : List Str} {sc : Scope} (h : scB names ps sc = true) : FnScope names ps sc := by
  unfold scB at h
  simp only [Bool.and_eq_true, Bool.not_eq_true', decide_eq_true_eq, List.all_eq_true] at h
  obtain ⟨⟨⟨⟨⟨⟨h1, h2⟩, h3⟩, h4⟩, h5⟩, h6⟩, h7⟩ := h
  refine ⟨?_, h2, h3, h4, h5, fun x hx => ?_, fun y hy e => ?_⟩
  · split at h1
    · assumption
    · cases h1
  · have := h6 x hx
    split at this
    · rename_i q; exact .inl q
    · rename_i q; exact .inr q
    · cases this
  · have := h7 y hy
    rw [e] at this; cases this
def vB : V → V → Bool
  | .non, .non => true
  | .bl a, .bl b => a == b
  | .int a, .int b => decide (a = b)
  | _, _ => false
def vsB : List V → List V → Bool
  | [], [] => true
  | a :: as, b :: bs => vB a b && vsB as bs
  | _, _ => false
theorem vB_ok {a b : V} (h : vB a b = true) : a = b ∧ ∃ q, a = .non ∨ a = .bl q ∨ ∃ i, a = .int i := by
  cases a <;> cases b <;> simp only [vB, beq_iff_eq, decide_eq_true_eq] at h <;> try cases h
  · exact ⟨rfl, true, .inl rfl⟩
  · exact ⟨rfl, _, .inr (.inl rfl)⟩
  · exact ⟨rfl, true, .inr (.inr ⟨_, rfl⟩)⟩
theorem vsB_ok : ∀ {as bs : List V}, vsB as bs = true → as = bs ∧ ∀ v ∈ as, ∃ q, v = .non ∨ v = .bl q ∨ ∃ i, v = .int i
  | [], [], _ => ⟨rfl, fun v h => by cases h⟩
  | a :: as, b :: bs, h => by
    obtain ⟨h1, h2⟩ := and2 h
    obtain ⟨e1, e2⟩ := vB_ok h1
    obtain ⟨e3, e4⟩ := vsB_ok h2
    refine ⟨by rw [e1, e3], fun v hv => ?_⟩
    rcases List.mem_cons.mp hv with rfl | hv
    · exact e2
    · exact e4 v hv
  | [], _ :: _, h => by cases h
  | _ :: _, [], h => by cases h
/-- a default of a kind that needs no address -/
def dvV : He.Dv → V
  | .non => .non
  | .bl b => .bl b
  | .int i => .int i
  | _ => .str ""
def fnB (P : Prog) (fd : FnI) (d : He.DefD) : Bool := decide (fd.at_ = d.at_) && scB fd.names (fd.names.take fd.np) d.scope && Nat.ble fd.np fd.names.length && mtS ⟨P, fd.names, d.scope, fun _ => true⟩ fd.body (.many d.body) && vsB fd.dfl (d.dfl.map dvV) && d.kwd.isEmpty
def fnsB (P : Prog) : List FnI → List He.DefD → Bool
  | [], [] => true
  | fd :: fs, d :: ds => fnB P fd d && fnsB P fs ds
  | _, _ => false
theorem fnsB_at {P : Prog} : ∀ {fs : List FnI} {ds : List He.DefD} {i : Nat} {fd : FnI}, fnsB P fs ds = true → fs[i]? = some fd → ∃ d, ds[i]? = some d ∧ fnB P fd d = true
  | fd :: fs, d :: ds, i, f, h, e => by
    obtain ⟨h1, h2⟩ := and2 h
    cases i with
    | zero => simp at e; subst e; exact ⟨d, rfl, h1⟩
    | succ i => simpa using fnsB_at h2 (by simpa using e)
  | [], _, i, f, h, e => by simp at e
  | _ :: _, [], i, f, h, e => by cases h
/-- how a def's parameters are bound -/
def BindT (d : He.DefD) (np : Nat) (ps : List Str) : Prop := ∀ (K : PySem.W.Frag) (fdat : FuncData), FunD K d.name d.qual d.params d.body d.scope (d.dvs K) (d.kws K) (He.fAd K d.at_) fdat →
  ∀ m, m ≤ d.dfl.length → ∃ ds, Vals ((d.dvs K).drop (d.dfl.length - m)) ds ∧ Binds K fdat ps ds
theorem bind0 {d : He.DefD} {np : Nat} {ps : List Str} (h0 : d.dfl = []) (h1 : d.kwd = []) (h : ∀ (kV doc pm : Value) (an : Option Addr) (cdv ct : Value) (us : List Value), us.length = ps.length → bindArgs (PySem.W.fnOf d.name d.qual d.params d.body d.scope .none kV doc pm an cdv ct) ⟨us, []⟩ = pure (ps.zip us)) : BindT d np ps := by
  intro K fdat F m hm
  have e0 : d.dvs K = [] := by unfold He.DefD.dvs; rw [h0]; rfl
  have e1 : d.kws K = [] := by unfold He.DefD.kws; rw [h1]; rfl
  rw [e0] at F ⊢
  exact ⟨[], by simpa using Paired.nil, F.bindsN h⟩
inductive AllBind : List FnI → List He.DefD → Prop
  | nil : AllBind [] []
  | cons {fd : FnI} {d : He.DefD} {fs : List FnI} {ds : List He.DefD} : BindT d fd.np (fd.names.take fd.np) → AllBind fs ds → AllBind (fd :: fs) (d :: ds)
theorem AllBind.at_ {fs : List FnI} {ds : List He.DefD} (h : AllBind fs ds) : ∀ {i : Nat} {fd : FnI} {d : He.DefD}, fs[i]? = some fd → ds[i]? = some d → BindT d fd.np (fd.names.take fd.np) := by
  induction h with
  | nil => intro i fd d e; simp at e
  | cons h1 _ ih =>
    intro i fd d e1 e2
    cases i with
    | zero => simp at e1 e2; subst e1; subst e2; exact h1
    | succ i => exact ih (by simpa using e1) (by simpa using e2)
section
variable {P : Prog} {K : PySem.W.Frag} {mg : Str → Option Value} {h : Heap} {fn : List He.DefD}
theorem pf_of (X : K.In h) (G : h.Ns mainGlobals mg) (hnd : P.nm.Nodup) (hdu : P.nm.take dunders.length = dunders) (t : tdB P K = true) (c : He.SaysD [] fn K) (hf : fnsB P P.fns fn = true) (hb : AllBind P.fns fn) : PF P K mg := by
  unfold tdB at t
  simp only [Bool.and_eq_true] at t
  obtain ⟨⟨⟨⟨⟨⟨⟨t1, t2⟩, t3⟩, t4⟩, t5⟩, t6⟩, t7⟩, t8⟩ := t
  have cls : ∀ i ci, P.cl i = some ci → clsB P K i ci = true := fun i ci hi => by
    have := List.all_eq_true.mp t2 i (List.mem_range.mpr (cl_lt hi))
    rw [hi] at this
    exact this
  have ca : ∀ i ci, P.cl i = some ci → clsA P K i = He.ga K ci.name := fun i ci hi => by unfold clsA; rw [hi]
  refine ⟨hnd, fun x hx => He.free_ok X G (List.all_eq_true.mp t1 x hx), fun i ci hi => ?_, hdu, fun i ci t hi ht => ?_, fun g x v hg => ?_, fun a b ha hb' => ?_, fun f fd hfd => ?_⟩
  · have z := cls i ci hi
    unfold clsB at z
    simp only [Bool.and_eq_true, List.all_eq_true] at z
    obtain ⟨⟨⟨⟨⟨⟨⟨⟨⟨⟨⟨z1, z2⟩, z3⟩, z4⟩, z5⟩, z6⟩, z7⟩, z8⟩, z9⟩, z10⟩, z11⟩, z12⟩ := z
    have e := ca i ci hi
    have meth : ∀ m f, P.meth i m = some f → (m, f) ∈ ci.meths := fun m f hm => by
      unfold Prog.meth at hm
      rw [hi] at hm
      exact lookup_mem hm
    have nm0 : ∀ (m : Nat) (s : Str), dunders[m]? = some s → P.nmOf m = s := fun m s hs => by
      have hm := (List.getElem?_eq_some_iff.mp hs).1
      unfold Prog.nmOf
      rw [← hdu] at hs
      rw [List.getElem?_take_of_lt hm] at hs
      rw [List.getD_eq_getElem?_getD, hs] <;> rfl
    have at_ : ∀ m f fd, P.meth i m = some f → P.fns[f]? = some fd → fd.at_ = (ci.name, some (P.nmOf m)) := fun m f fd hm hfd => by
      have q := (z6 (m, f) (meth m f hm)).1.2
      rw [hfd] at q
      exact of_decide_eq_true q
    have fad : ∀ m f fd, P.meth i m = some f → P.fns[f]? = some fd → He.fAd K fd.at_ = He.ma K (He.ga K ci.name) (P.nmOf m) := fun m f fd hm hfd => by
      rw [at_ m f fd hm hfd]; rfl
    exact {
      glob := by rw [e]; exact He.glo_ok X G z1
      keep := by rw [e]; exact z2
      cls := by rw [e]; exact He.cls_ok z3
      mkr := fun f fd hm hfd => by
        rw [e, fad 0 f fd hm hfd, nm0 0 "__init__" rfl]
        exact He.mkr_ok z4
      noat := fun a ha => by
        rw [e]
        have q := z5 a ha
        exact ⟨by simpa [Nat.blt_eq] using q.1, He.noat_ok q.2⟩
      meth := fun m f hm => by
        have q := z6 (m, f) (meth m f hm)
        obtain ⟨⟨⟨q1, q2⟩, q3⟩, q4⟩ := q
        split at q3
        · rename_i fd hfd
          refine ⟨by simpa [Nat.blt_eq] using q1, by simpa using q2, fd, hfd, ?_⟩
          rw [e, fad m f fd hm hfd]
          exact He.meth_ok q4
        · cases q3
      first := by rw [e]; exact z7
      ca := by rw [e]; exact of_decide_eq_true z8
      cn := of_decide_eq_true t5
      ct := of_decide_eq_true t6
      cm := by rw [e]; exact of_decide_eq_true z9
      few := Nat.le_of_ble_eq_true z10
      ne := fun f fd hm hfd h' x dx Xh hx => by
        rw [hm] at z11
        rw [e, fad 1 f fd hm hfd, nm0 1 "__eq__" rfl]
        exact ne_of Xh z11 (by rw [← e]; exact hx) }
  · have z := cls i ci hi
    unfold clsB at z
    simp only [Bool.and_eq_true, List.all_eq_true] at z
    exact z.2 t (tyOk_mem ht)
  · have z := List.all_eq_true.mp t3 (x, v) (List.mem_of_getElem? hg)
    simp only at z
    split at z
    · obtain ⟨tk, q⟩ := He.int_ok X G z
      exact ⟨_, .int _, q, ⟨tk, rfl⟩, .inl ⟨_, rfl, rfl⟩⟩
    · obtain ⟨tk, q⟩ := He.str_ok X G z
      exact ⟨_, .str _, q, ⟨tk, rfl⟩, .inr (.inl ⟨_, rfl, rfl⟩)⟩
    · split at z
      · rename_i is hi
        simp only [Bool.and_eq_true] at z
        obtain ⟨z1, z2⟩ := tupB_ok z.2
        exact ⟨_, .ref (He.ga K x), He.glo_ok X G z.1, rfl, .inr (.inr ⟨_, is, rfl, by rw [intsOf_eq hi], z1, z2⟩)⟩
      · cases z
    · cases z
  · have z := List.all_eq_true.mp t4 a (tyOk_mem ha)
    exact of_decide_eq_true (List.all_eq_true.mp z b (tyOk_mem hb'))
  · obtain ⟨d, hd, z⟩ := fnsB_at hf hfd
    unfold fnB at z
    simp only [Bool.and_eq_true] at z
    obtain ⟨⟨⟨⟨⟨z1, z2⟩, z3⟩, z4⟩, z5⟩, z6⟩ := z
    have z1 := of_decide_eq_true z1
    obtain ⟨fdat, FD⟩ := c.def_ f hd
    rw [← z1] at FD
    obtain ⟨e1, e2⟩ := vsB_ok z5
    have hk : d.kwd = [] := by simpa using z6
    have ed : d.dvs K = fd.dfl := by
      have : ∀ l : List He.Dv, ∀ as : List V, as = l.map dvV → (∀ v ∈ as, ∃ q, v = .non ∨ v = .bl q ∨ ∃ i, v = .int i) → l.map (He.Dv.v K) = as := fun l => by
        induction l with
        | nil => intro as e _; rw [e]; rfl
        | cons x l ih =>
          intro as e hv
          subst e
          have h1 := hv (dvV x) (by simp)
          have h2 := ih _ rfl fun v hv' => hv v (by simp at hv' ⊢; exact .inr hv')
          simp only [List.map_cons]
          rw [h2]
          congr 1
          obtain ⟨q, h1⟩ := h1
          cases x <;> first | rfl | (simp [dvV] at h1)
      exact this d.dfl fd.dfl e1 e2
    refine ⟨d.name, d.qual, d.params, d.body, d.scope, d.dvs K, d.kws K, fdat, FD, scB_ok z2, Nat.le_of_ble_eq_true z3, z4, ?_, fun x hx => ?_, e2⟩
    · have bt := hb.at_ hfd hd K fdat (by rw [← z1]; exact FD)
      have hlen : d.dfl.length = fd.dfl.length := by rw [e1]; simp
      intro m hm
      obtain ⟨ds, q1, q2⟩ := bt m (by omega)
      rw [ed, hlen] at q1
      exact ⟨ds, q1, q2⟩
    · have q := List.all_eq_true.mp t8 fd (List.mem_of_getElem? hfd)
      rw [hx] at q ⊢
      exact He.glo_ok X G q
theorem nolist (t : tdB P K = true) {a : Addr} {o : Obj} (h : K.lookup a = some o) : o.cls ≠ .type "list" := by
  unfold tdB at t
  simp only [Bool.and_eq_true] at t
  have t7 := t.1.2
  have := List.all_eq_true.mp t7 (a, o) (lookup_mem h)
  simpa using this
end
end TD
namespace TD
open PySem PySem.Spec PyProof.Rows L2
/-- a law's end: the interpreter says True of every script -/
theorem law_end {l : PySem.W.OpenLaw} {q : Program} {loose : List Str} {XP : (Str → Option Value) → Heap → Prop} {d : DefRec} {P : Prog} {fn : List He.DefD} {N f : Nat} {n : Nat} {fd : FnI} {dd : He.DefD} {x : Str}
    (hn : l.most = some n) (hn2 : n ≤ 63) (hdf : d.params.defaults = []) (hr : Room (4 * N) callerA) (hname : d.name = x) (hfd : P.fns[f]? = some fd) (hat : fd.at_ = (x, none)) (hdd : fn[f]? = some dd) (hnp : fd.np = 1) (hps : fd.names.take 1 = (["script"] : List Str))
    (hdfl : dd.dfl = []) (hkwd : dd.kwd = [])
    (hbind : ∀ (kV doc pm : Value) (an : Option Addr) (cdv ct : Value) (us : List Value), us.length = 1 → bindArgs (PySem.W.fnOf dd.name dd.qual dd.params dd.body dd.scope .none kV doc pm an cdv ct) ⟨us, []⟩ = pure ((["script"] : List Str).zip us))
    (hnd : P.nm.Nodup) (hdu : P.nm.take dunders.length = dunders) (hf : fnsB P P.fns fn = true) (hb : AllBind P.fns fn)
    (law : ∀ ns : List Int, ns.length ≤ 63 → ∃ W S, callF P W N 0 f [.lst (ns.map .int)] [] = .ok (.bl true) S) :
    PySem.W.WalkO q loose XP (hookT 2000 P fn).says l.row.toRowW d [] (fun f vs => PySem.call f vs) := by
  refine L2.walk_ofE (l := l) (n := n) (k := 4 * N) (x := "script") (CX := CX0) hn (by rw [← szl_eq]; unfold szl; omega) hdf hr ?_ (fun _ _ _ _ z => z)
  intro w mg fa h Y G hmg
  obtain ⟨K, KX, t, c⟩ := Y
  have F := pf_of KX G hnd hdu t c hf hb
  obtain ⟨fdat0, FD⟩ := c.def_ f hdd
  obtain ⟨dd', hd', z⟩ := fnsB_at hf hfd
  rw [hdd] at hd'
  cases hd'
  have ea : fd.at_ = dd.at_ := by
    unfold fnB at z
    simp only [Bool.and_eq_true] at z
    exact of_decide_eq_true z.1.1.1.1.1
  rw [← ea] at FD
  have e0 : dd.dvs K = [] := by unfold He.DefD.dvs; rw [hdfl]; rfl
  have b := FunD.bindsA (ps := ["script"]) (by rw [e0] at FD; exact FD) hbind
  have key0 : ∀ (base : Heap) (W : Nat), FnOk l.prog w K mg base CX0 (4 * N) fa fdat0 ["script"] (spF P K (callF P W N) f 1 fd.keep) := fun base W => by
    obtain ⟨fdat, FO, _, _, hg, _, _, _, _, _, _, _, _, FD2⟩ := fnok (p := l.prog) (w := w) (base := base) (W := W) F N f fd hfd
    have e1 : mg x = some (.ref fa) := hname ▸ hmg
    have e2 := hg x hat
    have efa : He.fAd K fd.at_ = fa := by
      rw [e2] at e1
      exact Value.ref.inj (Option.some.inj e1)
    have efd : fdat = fdat0 := by
      obtain ⟨_, _, _, _, _, _, _, _, _, _, _, l1, _⟩ := FD2.ex
      obtain ⟨_, _, _, _, _, _, _, _, _, _, _, l2, _⟩ := FD.ex
      rw [l1] at l2
      cases l2; rfl
    subst efd
    rw [efa, hnp, hps] at FO
    exact FO
  have key : ∀ base : Heap, FnOk l.prog w K mg base CX0 (4 * N) fa fdat0 ["script"] (fun vs H Q E => ∃ W, spF P K (callF P W N) f 1 fd.keep vs H Q E) := fun base => ⟨fun vs H Q E q => q.elim fun W q => (key0 base W).len vs H Q E q, fun A outer s H args us vs Q E hr e hb hv q => q.elim fun W q => (key0 base W).run A outer s H args us vs Q E hr e hb hv q⟩
  refine ⟨K, fdat0, fun vs H Q E => ∃ W, spF P K (callF P W N) f 1 fd.keep vs H Q E, KX, fun s v => b s [v] rfl, fun H a ns hl hO hS => ?_, fun base _ _ => key base⟩
  have fr : ∃ o, H a = some (.frz o (.lst (ns.map V.int))) := by
    rcases hS with (hS | hS) | ⟨o, its, n', h1, h2, _⟩
    · rcases hO a with q | ⟨o, xs, q⟩
      · rw [q] at hS; cases hS
      · rw [q] at hS; cases hS
    · exact hS
    · exact (nolist t h1 h2).elim
  obtain ⟨W, S, e⟩ := law ns (by omega)
  have sm : Sim P K [] ⟨[], fun _ => False, fun _ => False⟩ [] H := ⟨rfl, List.nodup_nil, fun a ha => by simp at ha, fun k a c h1 => by simp at h1, fun a h => h.elim, fun a h => h.elim, fun b hb => by simp at hb⟩
  have ri : ∀ ns : List Int, RepL P K ⟨[], fun _ => False, fun _ => False⟩ H (ns.map V.int) (ns.map D.int) := fun ns => by
    induction ns with
    | nil => exact .nil
    | cons n ns ih => exact .cons (.int n) ih
  refine ⟨W, rfl, [], 0, ⟨[], fun _ => False, fun _ => False⟩, [], _, _, S, fun b' hb' => by simp at hb', Nat.le_refl _, sm, .cons (.lst (.inr fr) (by rw [List.length_map]; unfold szl; omega) (ri ns)) .nil, e, fun v G' H' _ _ _ r => ?_⟩
  cases r
  rfl
end TD

set_option Elab.async false
set_option linter.all false
set_option maxRecDepth 100000
set_option maxHeartbeats 0
/-! CA: defs in the small language (printed by gen2.py from law k39). -/
namespace TD
open PySem
open L2 (V)
/-- _wall -/
def c0 : FnI := { at_ := ("_wall", none), np := 1, names := ["k"], body := (.cons (.whil (.lit (.bl true)) (.cons (.pass) (.nil))) (.nil)), keep := false, dfl := [] }
/-- is_integer -/
def c1 : FnI := { at_ := ("is_integer", none), np := 1, names := ["value"], body := (.cons (.ret (.and (.isi (.var 0) [.bi "int"]) (.not (.isi (.var 0) [.bi "bool"])))) (.nil)), keep := false, dfl := [] }
/-- is_row -/
def c2 : FnI := { at_ := ("is_row", none), np := 1, names := ["value"], body := (.cons (.ret (.isi (.var 0) [.bi "list", .bi "tuple"])) (.nil)), keep := false, dfl := [] }
/-- is_name -/
def c3 : FnI := { at_ := ("is_name", none), np := 1, names := ["value", "char"], body := (.cons (.iff (.or (.not (.isi (.var 0) [.bi "str"])) (.not (.chn .le .le (.lit (.int (1))) (.bf .len false (.cons (.var 0) (.nil))) (.glob 2)))) (.cons (.ret (.lit (.bl false))) (.nil)) (.nil)) (.cons (.iff (.cmp .notin (.idx (.var 0) (.lit (.int (0)))) (.glob 0)) (.cons (.ret (.lit (.bl false))) (.nil)) (.nil)) (.cons (.loop (.nm 1) .val (.cons (.var 0) .nil) (.cons (.iff (.and (.cmp .notin (.var 1) (.glob 0)) (.cmp .notin (.var 1) (.glob 1))) (.cons (.ret (.lit (.bl false))) (.nil)) (.nil)) (.nil))) (.cons (.ret (.lit (.bl true))) (.nil))))), keep := false, dfl := [] }
/-- is_cell -/
def c4 : FnI := { at_ := ("is_cell", none), np := 2, names := ["space", "value"], body := (.cons (.ret (.and (.isi (.var 1) [.bi "tuple"]) (.cmp .isin (.var 1) (.fld (.var 0) 21)))) (.nil)), keep := false, dfl := [] }
/-- same_space -/
def c5 : FnI := { at_ := ("same_space", none), np := 2, names := ["one", "other"], body := (.cons (.iff (.cmp .ne (.var 0) (.var 1)) (.cons (.never) (.nil)) (.nil)) (.nil)), keep := false, dfl := [] }
/-- Region.__init__ -/
def c6 : FnI := { at_ := ("Region", some "__init__"), np := 3, names := ["self", "space", "cells", "cell"], body := (.cons (.loop (.nm 3) .val (.cons (.var 2) .nil) (.cons (.iff (.not (.call 4 (.cons (.var 1) (.cons (.var 3) (.nil))))) (.cons (.never) (.nil)) (.nil)) (.nil))) (.cons (.asgF (.var 0) 22 (.var 1)) (.cons (.asgF (.var 0) 21 (.bf .tuple false (.cons (.comp false [("cell", 3)] (.var 3) (.nm 3) .val (.cons (.fld (.var 1) 21) .nil) (.cons (.cmp .isin (.var 3) (.var 2)) .nil)) (.nil)))) (.nil)))), keep := false, dfl := [] }
/-- Region.__eq__ -/
def c7 : FnI := { at_ := ("Region", some "__eq__"), np := 2, names := ["self", "other"], body := (.cons (.ret (.and (.isi (.var 1) [.own 0]) (.and (.cmp .eq (.fld (.var 0) 22) (.fld (.var 1) 22)) (.cmp .eq (.fld (.var 0) 21) (.fld (.var 1) 21))))) (.nil)), keep := false, dfl := [] }
/-- Region.__len__ -/
def c8 : FnI := { at_ := ("Region", some "__len__"), np := 1, names := ["self"], body := (.cons (.ret (.bf .len false (.cons (.fld (.var 0) 21) (.nil)))) (.nil)), keep := false, dfl := [] }
/-- Region.__contains__ -/
def c9 : FnI := { at_ := ("Region", some "__contains__"), np := 2, names := ["self", "cell"], body := (.cons (.ret (.and (.isi (.var 1) [.bi "tuple"]) (.cmp .isin (.var 1) (.fld (.var 0) 21)))) (.nil)), keep := false, dfl := [] }
/-- Region.__and__ -/
def c10 : FnI := { at_ := ("Region", some "__and__"), np := 2, names := ["self", "other", "cell"], body := (.cons (.expr (.call 5 (.cons (.fld (.var 0) 22) (.cons (.fld (.var 1) 22) (.nil))))) (.cons (.ret (.make 0 (.cons (.fld (.var 0) 22) (.cons (.comp false [("cell", 2)] (.var 2) (.nm 2) .val (.cons (.fld (.var 0) 21) .nil) (.cons (.cmp .isin (.var 2) (.fld (.var 1) 21)) .nil)) (.nil))))) (.nil))), keep := false, dfl := [] }
/-- Region.__or__ -/
def c11 : FnI := { at_ := ("Region", some "__or__"), np := 2, names := ["self", "other"], body := (.cons (.expr (.call 5 (.cons (.fld (.var 0) 22) (.cons (.fld (.var 1) 22) (.nil))))) (.cons (.ret (.make 0 (.cons (.fld (.var 0) 22) (.cons (.bin false .add (.fld (.var 0) 21) (.fld (.var 1) 21)) (.nil))))) (.nil))), keep := false, dfl := [] }
/-- Region.__sub__ -/
def c12 : FnI := { at_ := ("Region", some "__sub__"), np := 2, names := ["self", "other", "cell"], body := (.cons (.expr (.call 5 (.cons (.fld (.var 0) 22) (.cons (.fld (.var 1) 22) (.nil))))) (.cons (.ret (.make 0 (.cons (.fld (.var 0) 22) (.cons (.comp false [("cell", 2)] (.var 2) (.nm 2) .val (.cons (.fld (.var 0) 21) .nil) (.cons (.cmp .notin (.var 2) (.fld (.var 1) 21)) .nil)) (.nil))))) (.nil))), keep := false, dfl := [] }
/-- Region.__xor__ -/
def c13 : FnI := { at_ := ("Region", some "__xor__"), np := 2, names := ["self", "other", "mine", "cell"], body := (.cons (.expr (.call 5 (.cons (.fld (.var 0) 22) (.cons (.fld (.var 1) 22) (.nil))))) (.cons (.asg (.nm 2) (.comp false [("cell", 3)] (.var 3) (.nm 3) .val (.cons (.fld (.var 0) 21) .nil) (.cons (.cmp .notin (.var 3) (.fld (.var 1) 21)) .nil))) (.cons (.ret (.make 0 (.cons (.fld (.var 0) 22) (.cons (.bin false .add (.var 2) (.comp false [("cell", 3)] (.var 3) (.nm 3) .val (.cons (.fld (.var 1) 21) .nil) (.cons (.cmp .notin (.var 3) (.fld (.var 0) 21)) .nil))) (.nil))))) (.nil)))), keep := false, dfl := [] }
/-- Region.__invert__ -/
def c14 : FnI := { at_ := ("Region", some "__invert__"), np := 1, names := ["self", "cell"], body := (.cons (.ret (.make 0 (.cons (.fld (.var 0) 22) (.cons (.comp false [("cell", 1)] (.var 1) (.nm 1) .val (.cons (.fld (.fld (.var 0) 22) 21) .nil) (.cons (.cmp .notin (.var 1) (.fld (.var 0) 21)) .nil)) (.nil))))) (.nil)), keep := false, dfl := [] }
/-- Region.__le__ -/
def c15 : FnI := { at_ := ("Region", some "__le__"), np := 2, names := ["self", "other", "cell"], body := (.cons (.expr (.call 5 (.cons (.fld (.var 0) 22) (.cons (.fld (.var 1) 22) (.nil))))) (.cons (.loop (.nm 2) .val (.cons (.fld (.var 0) 21) .nil) (.cons (.iff (.cmp .notin (.var 2) (.fld (.var 1) 21)) (.cons (.ret (.lit (.bl false))) (.nil)) (.nil)) (.nil))) (.cons (.ret (.lit (.bl true))) (.nil)))), keep := false, dfl := [] }
/-- Region.__lt__ -/
def c16 : FnI := { at_ := ("Region", some "__lt__"), np := 2, names := ["self", "other"], body := (.cons (.ret (.and (.cmp .le (.var 0) (.var 1)) (.cmp .lt (.bf .len false (.cons (.fld (.var 0) 21) (.nil))) (.bf .len false (.cons (.fld (.var 1) 21) (.nil)))))) (.nil)), keep := false, dfl := [] }
/-- Region.__ge__ -/
def c17 : FnI := { at_ := ("Region", some "__ge__"), np := 2, names := ["self", "other"], body := (.cons (.ret (.cmp .le (.var 1) (.var 0))) (.nil)), keep := false, dfl := [] }
/-- Region.__gt__ -/
def c18 : FnI := { at_ := ("Region", some "__gt__"), np := 2, names := ["self", "other"], body := (.cons (.ret (.cmp .lt (.var 1) (.var 0))) (.nil)), keep := false, dfl := [] }
/-- region_items -/
def c19 : FnI := { at_ := ("region_items", none), np := 1, names := ["region", "cell"], body := (.cons (.ret (.comp false [("cell", 1)] (.bf .int false (.cons (.cmp .isin (.var 1) (.fld (.var 0) 21)) (.nil))) (.nm 1) .val (.cons (.fld (.fld (.var 0) 22) 21) .nil) .nil)) (.nil)), keep := false, dfl := [] }
/-- merged -/
def c20 : FnI := { at_ := ("merged", none), np := 2, names := ["one", "other", "found", "at", "place"], body := (.cons (.asgP [2, 3, 4] (.cons (.lst true (.nil)) (.cons (.lit (.int (0))) (.cons (.lit (.int (0))) (.nil))))) (.cons (.whil (.or (.cmp .lt (.var 3) (.bf .len false (.cons (.var 0) (.nil)))) (.cmp .lt (.var 4) (.bf .len false (.cons (.var 1) (.nil))))) (.cons (.iff (.or (.cmp .eq (.var 4) (.bf .len false (.cons (.var 1) (.nil)))) (.and (.cmp .lt (.var 3) (.bf .len false (.cons (.var 0) (.nil)))) (.not (.cmp .lt (.idx (.var 1) (.var 4)) (.idx (.var 0) (.var 3)))))) (.cons (.expr (.bm (.var 2) .append (.cons (.idx (.var 0) (.var 3)) (.nil)))) (.cons (.aug 3 .add (.lit (.int (1)))) (.nil))) (.cons (.expr (.bm (.var 2) .append (.cons (.idx (.var 1) (.var 4)) (.nil)))) (.cons (.aug 4 .add (.lit (.int (1)))) (.nil)))) (.nil))) (.cons (.ret (.var 2)) (.nil)))), keep := false, dfl := [] }
/-- ordered -/
def c21 : FnI := { at_ := ("ordered", none), np := 1, names := ["items", "rows", "later", "at", "item"], body := (.cons (.asg (.nm 1) (.comp false [("item", 4)] (.lst false (.cons (.var 4) (.nil))) (.nm 4) .val (.cons (.var 0) .nil) .nil)) (.cons (.whil (.cmp .gt (.bf .len false (.cons (.var 1) (.nil))) (.lit (.int (1)))) (.cons (.asg (.nm 2) (.lst true (.nil))) (.cons (.loop (.nm 3) .range (.cons (.lit (.int (0))) (.cons (.bf .len false (.cons (.var 1) (.nil))) (.cons (.lit (.int (2))) (.nil)))) (.cons (.expr (.bm (.var 2) .append (.cons (.ite (.cmp .lt (.bin false .add (.var 3) (.lit (.int (1)))) (.bf .len false (.cons (.var 1) (.nil)))) (.call 20 (.cons (.idx (.var 1) (.var 3)) (.cons (.idx (.var 1) (.bin false .add (.var 3) (.lit (.int (1))))) (.nil)))) (.idx (.var 1) (.var 3))) (.nil)))) (.nil))) (.cons (.asg (.nm 1) (.var 2)) (.nil))))) (.cons (.ret (.ite (.cmp .ne (.var 1) (.lst false (.nil))) (.idx (.var 1) (.lit (.int (0)))) (.lst false (.nil)))) (.nil)))), keep := false, dfl := [] }
/-- by_size -/
def c22 : FnI := { at_ := ("by_size", none), np := 1, names := ["lots", "pair", "lot"], body := (.cons (.ret (.comp false [("pair", 1)] (.idx (.var 1) (.lit (.int (1)))) (.nm 1) .val (.cons (.call 21 (.cons (.comp false [("lot", 2)] (.tup (.cons (.bf .len false (.cons (.var 2) (.nil))) (.cons (.var 2) (.nil)))) (.nm 2) .val (.cons (.var 0) .nil) .nil) (.nil))) .nil) .nil)) (.nil)), keep := false, dfl := [] }
/-- check_regions -/
def c23 : FnI := { at_ := ("check_regions", none), np := 1, names := ["regions", "place", "region"], body := (.cons (.iff (.or (.not (.call 2 (.cons (.var 0) (.nil)))) (.not (.chn .le .le (.lit (.int (1))) (.bf .len false (.cons (.var 0) (.nil))) (.glob 3)))) (.cons (.never) (.nil)) (.nil)) (.cons (.loop (.cons (.nm 1) (.cons (.nm 2) (.nil))) .enum (.cons (.var 0) (.nil)) (.cons (.iff (.or (.not (.isi (.var 2) [.own 0])) (.cmp .ne (.fld (.var 2) 22) (.fld (.idx (.var 0) (.lit (.int (0)))) 22))) (.cons (.never) (.nil)) (.nil)) (.nil))) (.nil))), keep := false, dfl := [] }
/-- all_lots -/
def c24 : FnI := { at_ := ("all_lots", none), np := 1, names := ["many", "found", "place", "lot"], body := (.cons (.asg (.nm 1) (.lst false (.cons (.tup (.nil)) (.nil)))) (.cons (.loop (.nm 2) .range (.cons (.var 0) (.nil)) (.cons (.asg (.nm 1) (.bin false .add (.var 1) (.comp false [("lot", 3)] (.bin false .add (.var 3) (.tup (.cons (.var 2) (.nil)))) (.nm 3) .val (.cons (.var 1) .nil) .nil))) (.nil))) (.cons (.ret (.call 22 (.cons (.var 1) (.nil)))) (.nil)))), keep := false, dfl := [] }
/-- check_few -/
def c25 : FnI := { at_ := ("check_few", none), np := 1, names := ["regions"], body := (.cons (.expr (.call 23 (.cons (.var 0) (.nil)))) (.cons (.iff (.cmp .gt (.bf .len false (.cons (.var 0) (.nil))) (.glob 4)) (.cons (.never) (.nil)) (.nil)) (.nil))), keep := false, dfl := [] }
/-- signs_for -/
def c26 : FnI := { at_ := ("signs_for", none), np := 1, names := ["rows", "found", "row", "signs", "longer", "sums", "place", "one", "sign"], body := (.cons (.asg (.nm 1) (.lst false (.cons (.lst false (.nil)) (.nil)))) (.cons (.loop (.nm 2) .val (.cons (.var 0) .nil) (.cons (.asg (.nm 4) (.lst true (.nil))) (.cons (.loop (.nm 3) .val (.cons (.var 1) .nil) (.cons (.expr (.bm (.var 4) .extend (.cons (.lst false (.cons (.bin false .add (.var 3) (.lst false (.cons (.lit (.int (1))) (.nil)))) (.cons (.bin false .add (.var 3) (.lst false (.cons (.neg (.lit (.int (1)))) (.nil)))) (.nil)))) (.nil)))) (.nil))) (.cons (.asg (.nm 1) (.var 4)) (.nil))))) (.cons (.loop (.nm 3) .val (.cons (.var 1) .nil) (.cons (.asg (.nm 5) (.comp false [("place", 6)] (.bf .sum false (.cons (.comp false [("sign", 8), ("row", 2)] (.bin false .mul (.var 8) (.idx (.var 2) (.var 6))) (.cons (.nm 8) (.cons (.nm 2) (.nil))) .zip (.cons (.var 3) (.cons (.var 0) (.nil))) .nil) (.nil))) (.nm 6) .range (.cons (.bf .len false (.cons (.idx (.var 0) (.lit (.int (0)))) (.nil))) (.nil)) .nil)) (.cons (.iff (.bf .all false (.cons (.comp false [("one", 7)] (.chn .le .le (.neg (.lit (.int (1)))) (.var 7) (.lit (.int (1)))) (.nm 7) .val (.cons (.var 5) .nil) .nil) (.nil))) (.cons (.ret (.var 3)) (.nil)) (.nil)) (.nil)))) (.cons (.ret (.lit (.non))) (.nil))))), keep := false, dfl := [] }
/-- is_even -/
def c27 : FnI := { at_ := ("is_even", none), np := 1, names := ["regions"], body := (.cons (.ret (.isc false (.call 28 (.cons (.var 0) (.nil))) (.non))) (.nil)), keep := false, dfl := [] }
/-- uneven_lot -/
def c28 : FnI := { at_ := ("uneven_lot", none), np := 1, names := ["regions", "rows", "lot", "region", "place"], body := (.cons (.expr (.call 25 (.cons (.var 0) (.nil)))) (.cons (.asg (.nm 1) (.comp false [("region", 3)] (.call 19 (.cons (.var 3) (.nil))) (.nm 3) .val (.cons (.var 0) .nil) .nil)) (.cons (.loop (.nm 2) .val (.cons (.call 24 (.cons (.bf .len false (.cons (.var 0) (.nil))) (.nil))) .nil) (.cons (.iff (.and (.cmp .ne (.var 2) (.tup (.nil))) (.isc false (.call 26 (.cons (.comp false [("place", 4)] (.idx (.var 1) (.var 4)) (.nm 4) .val (.cons (.var 2) .nil) .nil) (.nil))) (.non))) (.cons (.ret (.var 2)) (.nil)) (.nil)) (.nil))) (.cons (.ret (.lit (.non))) (.nil))))), keep := false, dfl := [] }
/-- parting -/
def c29 : FnI := { at_ := ("parting", none), np := 2, names := ["regions", "lot", "rows", "found", "place"], body := (.cons (.expr (.call 25 (.cons (.var 0) (.nil)))) (.cons (.asg (.nm 2) (.comp false [("place", 4)] (.call 19 (.cons (.idx (.var 0) (.var 4)) (.nil))) (.nm 4) .val (.cons (.var 1) .nil) .nil)) (.cons (.iff (.cmp .eq (.var 2) (.lst false (.nil))) (.cons (.ret (.tup (.nil))) (.nil)) (.nil)) (.cons (.asg (.nm 3) (.call 26 (.cons (.var 2) (.nil)))) (.cons (.ret (.ite (.isc false (.var 3) (.non)) (.lit (.non)) (.bf .tuple false (.cons (.var 3) (.nil))))) (.nil)))))), keep := false, dfl := [] }
/-- is_parting -/
def c30 : FnI := { at_ := ("is_parting", none), np := 3, names := ["regions", "lot", "value", "rows", "sums", "place", "at", "one", "sign", "row"], body := (.cons (.iff (.or (.not (.isi (.var 2) [.bi "tuple"])) (.or (.cmp .ne (.bf .len false (.cons (.var 2) (.nil))) (.bf .len false (.cons (.var 1) (.nil)))) (.not (.bf .all false (.cons (.comp false [("one", 7)] (.call 1 (.cons (.var 7) (.nil))) (.nm 7) .val (.cons (.var 2) .nil) .nil) (.nil)))))) (.cons (.ret (.lit (.bl false))) (.nil)) (.nil)) (.cons (.iff (.not (.bf .all false (.cons (.comp false [("one", 7)] (.cmp .isin (.var 7) (.tup (.cons (.lit (.int (1))) (.cons (.neg (.lit (.int (1)))) (.nil))))) (.nm 7) .val (.cons (.var 2) .nil) .nil) (.nil)))) (.cons (.ret (.lit (.bl false))) (.nil)) (.nil)) (.cons (.asg (.nm 3) (.comp false [("place", 5)] (.call 19 (.cons (.idx (.var 0) (.var 5)) (.nil))) (.nm 5) .val (.cons (.var 1) .nil) .nil)) (.cons (.iff (.cmp .eq (.var 3) (.lst false (.nil))) (.cons (.ret (.lit (.bl true))) (.nil)) (.nil)) (.cons (.asg (.nm 4) (.comp false [("at", 6)] (.bf .sum false (.cons (.comp false [("sign", 8), ("row", 9)] (.bin false .mul (.var 8) (.idx (.var 9) (.var 6))) (.cons (.nm 8) (.cons (.nm 9) (.nil))) .zip (.cons (.var 2) (.cons (.var 3) (.nil))) .nil) (.nil))) (.nm 6) .range (.cons (.bf .len false (.cons (.idx (.var 3) (.lit (.int (0)))) (.nil))) (.nil)) .nil)) (.cons (.ret (.bf .all false (.cons (.comp false [("one", 7)] (.chn .le .le (.neg (.lit (.int (1)))) (.var 7) (.lit (.int (1)))) (.nm 7) .val (.cons (.var 4) .nil) .nil) (.nil)))) (.nil))))))), keep := false, dfl := [] }
/-- is_nested -/
def c31 : FnI := { at_ := ("is_nested", none), np := 1, names := ["regions", "one", "other", "both"], body := (.cons (.expr (.call 23 (.cons (.var 0) (.nil)))) (.cons (.loop (.nm 1) .val (.cons (.var 0) .nil) (.cons (.loop (.nm 2) .val (.cons (.var 0) .nil) (.cons (.asg (.nm 3) (.bin false .band (.var 1) (.var 2))) (.cons (.iff (.and (.cmp .gt (.bf .len false (.cons (.var 3) (.nil))) (.lit (.int (0)))) (.and (.cmp .ne (.var 3) (.var 1)) (.cmp .ne (.var 3) (.var 2)))) (.cons (.ret (.lit (.bl false))) (.nil)) (.nil)) (.nil)))) (.nil))) (.cons (.ret (.lit (.bl true))) (.nil)))), keep := false, dfl := [] }
/-- is_in_a_row -/
def c32 : FnI := { at_ := ("is_in_a_row", none), np := 2, names := ["regions", "order", "many", "region", "items", "at", "place", "cell", "one"], body := (.cons (.expr (.call 23 (.cons (.var 0) (.nil)))) (.cons (.asg (.nm 2) (.bf .len false (.cons (.fld (.fld (.idx (.var 0) (.lit (.int (0)))) 22) 21) (.nil)))) (.cons (.iff (.or (.not (.isi (.var 1) [.bi "tuple"])) (.not (.bf .all false (.cons (.comp false [("one", 8)] (.call 1 (.cons (.var 8) (.nil))) (.nm 8) .val (.cons (.var 1) .nil) .nil) (.nil))))) (.cons (.ret (.lit (.bl false))) (.nil)) (.nil)) (.cons (.iff (.cmp .ne (.call 21 (.cons (.var 1) (.nil))) (.bf .range false (.cons (.var 2) (.nil)))) (.cons (.ret (.lit (.bl false))) (.nil)) (.nil)) (.cons (.loop (.nm 3) .val (.cons (.var 0) .nil) (.cons (.asg (.nm 4) (.call 19 (.cons (.var 3) (.nil)))) (.cons (.asg (.nm 5) (.comp false [("place", 6), ("cell", 7)] (.var 6) (.cons (.nm 6) (.cons (.nm 7) (.nil))) .enum (.cons (.var 1) (.nil)) (.cons (.cmp .eq (.idx (.var 4) (.var 7)) (.lit (.int (1)))) .nil))) (.cons (.iff (.and (.cmp .ne (.var 5) (.lst false (.nil))) (.cmp .ne (.bin false .sub (.idx (.var 5) (.neg (.lit (.int (1))))) (.idx (.var 5) (.lit (.int (0))))) (.bin false .sub (.bf .len false (.cons (.var 5) (.nil))) (.lit (.int (1)))))) (.cons (.ret (.lit (.bl false))) (.nil)) (.nil)) (.nil))))) (.cons (.ret (.lit (.bl true))) (.nil))))))), keep := false, dfl := [] }
/-- axis_fault -/
def c33 : FnI := { at_ := ("axis_fault", none), np := 2, names := ["axis", "earlier", "member", "name", "members"], body := (.cons (.iff (.or (.not (.call 2 (.cons (.var 0) (.nil)))) (.cmp .ne (.bf .len false (.cons (.var 0) (.nil))) (.lit (.int (2))))) (.cons (.ret (.lit (.str "axis"))) (.nil)) (.nil)) (.cons (.asg (.cons (.nm 3) (.cons (.nm 4) (.nil))) (.var 0)) (.cons (.iff (.not (.call 3 (.cons (.var 3) (.nil)))) (.cons (.ret (.lit (.str "name"))) (.nil)) (.nil)) (.cons (.iff (.or (.not (.call 2 (.cons (.var 4) (.nil)))) (.not (.chn .le .le (.lit (.int (1))) (.bf .len false (.cons (.var 4) (.nil))) (.glob 6)))) (.cons (.ret (.lit (.str "members"))) (.nil)) (.nil)) (.cons (.loop (.nm 2) .val (.cons (.var 4) .nil) (.cons (.iff (.not (.call 3 (.cons (.var 2) (.nil)))) (.cons (.ret (.lit (.str "member"))) (.nil)) (.nil)) (.nil))) (.cons (.iff (.or (.cmp .isin (.var 3) (.var 1)) (.cmp .lt (.bf .lenset false (.cons (.var 4) (.nil))) (.bf .len false (.cons (.var 4) (.nil))))) (.cons (.ret (.lit (.str "twice"))) (.nil)) (.nil)) (.cons (.ret (.lit (.non))) (.nil)))))))), keep := false, dfl := [] }
/-- product_cells -/
def c34 : FnI := { at_ := ("product_cells", none), np := 1, names := ["axes", "cells", "name", "members", "cell", "member"], body := (.cons (.asg (.nm 1) (.lst false (.cons (.tup (.nil)) (.nil)))) (.cons (.loop (.cons (.nm 2) (.cons (.nm 3) (.nil))) .val (.cons (.var 0) .nil) (.cons (.asg (.nm 1) (.comp2 false [("cell", 4), ("member", 5)] [5] (.bin false .add (.var 4) (.tup (.cons (.var 5) (.nil)))) (.nm 4) .val (.cons (.var 1) .nil) .nil (.nm 5) .val (.cons (.var 3) .nil) .nil)) (.nil))) (.cons (.ret (.bf .tuple false (.cons (.var 1) (.nil)))) (.nil)))), keep := false, dfl := [] }
/-- Space.__init__ -/
def c35 : FnI := { at_ := ("Space", some "__init__"), np := 2, names := ["self", "axes", "earlier", "size", "place", "axis", "word", "name", "members"], body := (.cons (.iff (.or (.not (.call 2 (.cons (.var 1) (.nil)))) (.not (.chn .le .le (.lit (.int (1))) (.bf .len false (.cons (.var 1) (.nil))) (.glob 5)))) (.cons (.never) (.nil)) (.nil)) (.cons (.asg (.nm 2) (.lst true (.nil))) (.cons (.asg (.nm 3) (.lit (.int (1)))) (.cons (.loop (.cons (.nm 4) (.cons (.nm 5) (.nil))) .enum (.cons (.var 1) (.nil)) (.cons (.asg (.nm 6) (.call 33 (.cons (.var 5) (.cons (.var 2) (.nil))))) (.cons (.iff (.isc true (.var 6) (.non)) (.cons (.never) (.nil)) (.nil)) (.cons (.expr (.bm (.var 2) .append (.cons (.idx (.var 5) (.lit (.int (0)))) (.nil)))) (.cons (.asg (.nm 3) (.bin false .mul (.var 3) (.bf .len false (.cons (.idx (.var 5) (.lit (.int (1)))) (.nil))))) (.nil)))))) (.cons (.iff (.cmp .gt (.var 3) (.glob 7)) (.cons (.never) (.nil)) (.nil)) (.cons (.asgF (.var 0) 23 (.bf .tuple false (.cons (.comp false [("name", 7), ("members", 8)] (.tup (.cons (.var 7) (.cons (.bf .tuple false (.cons (.var 8) (.nil))) (.nil)))) (.cons (.nm 7) (.cons (.nm 8) (.nil))) .val (.cons (.var 1) .nil) .nil) (.nil)))) (.cons (.asgF (.var 0) 21 (.call 34 (.cons (.fld (.var 0) 23) (.nil)))) (.nil)))))))), keep := false, dfl := [] }
/-- Space.__eq__ -/
def c36 : FnI := { at_ := ("Space", some "__eq__"), np := 2, names := ["self", "other"], body := (.cons (.ret (.and (.isi (.var 1) [.own 1]) (.cmp .eq (.fld (.var 0) 23) (.fld (.var 1) 23)))) (.nil)), keep := false, dfl := [] }
/-- _law_ordered -/
def c37 : FnI := { at_ := ("_law_ordered", none), np := 1, names := ["items", "found", "item", "other"], body := (.cons (.asg (.nm 1) (.lst true (.nil))) (.cons (.loop (.nm 2) .val (.cons (.var 0) .nil) (.cons (.expr (.bm (.var 1) .insert (.cons (.bf .len false (.cons (.comp false [("other", 3)] (.var 3) (.nm 3) .val (.cons (.var 1) .nil) (.cons (.cmp .lt (.var 3) (.var 2)) .nil)) (.nil))) (.cons (.var 2) (.nil))))) (.nil))) (.cons (.ret (.var 1)) (.nil)))), keep := false, dfl := [] }
/-- _law_lots -/
def c38 : FnI := { at_ := ("_law_lots", none), np := 1, names := ["many", "found", "place", "rows", "size", "lot"], body := (.cons (.asg (.nm 1) (.lst false (.cons (.tup (.nil)) (.nil)))) (.cons (.loop (.nm 2) .range (.cons (.var 0) (.nil)) (.cons (.asg (.nm 1) (.bin false .add (.var 1) (.comp false [("lot", 5)] (.bin false .add (.var 5) (.tup (.cons (.var 2) (.nil)))) (.nm 5) .val (.cons (.var 1) .nil) .nil))) (.nil))) (.cons (.asg (.nm 3) (.lst true (.nil))) (.cons (.loop (.nm 4) .range (.cons (.bin false .add (.var 0) (.lit (.int (1)))) (.nil)) (.cons (.expr (.bm (.var 3) .extend (.cons (.call 37 (.cons (.comp false [("lot", 5)] (.var 5) (.nm 5) .val (.cons (.var 1) .nil) (.cons (.cmp .eq (.bf .len false (.cons (.var 5) (.nil))) (.var 4)) .nil)) (.nil))) (.nil)))) (.nil))) (.cons (.ret (.var 3)) (.nil)))))), keep := false, dfl := [] }
/-- _law_hand -/
def c39 : FnI := { at_ := ("_law_hand", none), np := 1, names := ["script", "cells", "cell"], body := (.cons (.asg (.nm 1) (.comp false [("cell", 2)] (.bf .abs false (.cons (.bf .int false (.cons (.var 2) (.nil))) (.nil))) (.nm 2) .val (.cons (.sl false (.var 0) .om (.lit (.int (63)))) .nil) .nil)) (.cons (.ret (.lst true (.cons (.var 1) (.cons (.lit (.int (0))) (.cons (.lit (.int (0))) (.cons (.bin true .add (.lit (.int (83))) (.bin false .mul (.lit (.int (7))) (.bf .len false (.cons (.var 1) (.nil))))) (.cons (.lit (.int (0))) (.nil)))))))) (.nil))), keep := true, dfl := [] }
/-- _law_draw -/
def c40 : FnI := { at_ := ("_law_draw", none), np := 2, names := ["hand", "limit", "number", "cell", "digit"], body := (.cons (.iff (.and (.cmp .eq (.idx (.var 0) (.lit (.int (2)))) (.lit (.int (0)))) (.cmp .lt (.idx (.var 0) (.lit (.int (1)))) (.bf .len false (.cons (.idx (.var 0) (.lit (.int (0)))) (.nil))))) (.cons (.asg (.nm 3) (.idx (.idx (.var 0) (.lit (.int (0)))) (.idx (.var 0) (.lit (.int (1)))))) (.cons (.asgI (.var 0) (.lit (.int (1))) (.bin false .add (.idx (.var 0) (.lit (.int (1)))) (.lit (.int (1))))) (.cons (.asgI (.var 0) (.lit (.int (3))) (.bin false .mod (.bf .int false (.cons (.bin false .add (.bin false .add (.bin false .mul (.idx (.var 0) (.lit (.int (3)))) (.lit (.int (69621)))) (.var 3)) (.lit (.int (29)))) (.nil))) (.lit (.int (2147483629))))) (.cons (.iff (.cmp .ge (.var 3) (.bin false .pow (.lit (.int (10))) (.lit (.int (18))))) (.cons (.asgI (.var 0) (.lit (.int (2))) (.var 3)) (.nil)) (.nil)) (.nil))))) (.nil)) (.cons (.iff (.cmp .gt (.idx (.var 0) (.lit (.int (2)))) (.lit (.int (0)))) (.cons (.asg (.nm 4) (.bin false .mod (.bf .int false (.cons (.idx (.var 0) (.lit (.int (2)))) (.nil))) (.var 1))) (.cons (.asgI (.var 0) (.lit (.int (2))) (.bin false .fdiv (.idx (.var 0) (.lit (.int (2)))) (.var 1))) (.cons (.ret (.var 4)) (.nil)))) (.nil)) (.cons (.asgI (.var 0) (.lit (.int (4))) (.bin false .add (.idx (.var 0) (.lit (.int (4)))) (.lit (.int (1))))) (.cons (.asg (.nm 2) (.bin false .mod (.bf .int false (.cons (.bin false .mul (.bf .int false (.cons (.bin false .add (.idx (.var 0) (.lit (.int (3)))) (.bin false .mul (.lit (.int (7919))) (.idx (.var 0) (.lit (.int (4)))))) (.nil))) (.lit (.int (48271)))) (.nil))) (.lit (.int (2147483647))))) (.cons (.asg (.nm 2) (.bin false .mod (.bf .int false (.cons (.bin false .mul (.var 2) (.bin false .add (.bin false .fdiv (.var 2) (.lit (.int (1009)))) (.lit (.int (69621))))) (.nil))) (.lit (.int (2147483647))))) (.cons (.asg (.nm 2) (.bin false .mod (.bf .int false (.cons (.bin false .mul (.var 2) (.bin false .add (.bin false .fdiv (.var 2) (.lit (.int (2003)))) (.lit (.int (40692))))) (.nil))) (.lit (.int (2147483399))))) (.cons (.ret (.bin false .mod (.bf .int false (.cons (.bin false .fdiv (.var 2) (.lit (.int (16)))) (.nil))) (.var 1))) (.nil)))))))), keep := false, dfl := [] }
/-- _law_space -/
def c41 : FnI := { at_ := ("_law_space", none), np := 2, names := ["hand", "two", "wide"], body := (.cons (.iff (.or (.var 1) (.cmp .eq (.call 40 (.cons (.var 0) (.cons (.lit (.int (2))) (.nil)))) (.lit (.int (0))))) (.cons (.asg (.nm 2) (.bin false .add (.lit (.int (2))) (.call 40 (.cons (.var 0) (.cons (.lit (.int (2))) (.nil)))))) (.cons (.ret (.make 1 (.cons (.lst false (.cons (.tup (.cons (.lit (.str "a")) (.cons (.lst false (.cons (.lit (.str "p")) (.cons (.lit (.str "q")) (.nil)))) (.nil)))) (.cons (.tup (.cons (.lit (.str "b")) (.cons (.sl false (.lst false (.cons (.lit (.str "x")) (.cons (.lit (.str "y")) (.cons (.lit (.str "z")) (.nil))))) .om (.var 2)) (.nil)))) (.nil)))) (.nil)))) (.nil))) (.nil)) (.cons (.ret (.make 1 (.cons (.lst false (.cons (.tup (.cons (.lit (.str "a")) (.cons (.sl false (.lst false (.cons (.lit (.str "p")) (.cons (.lit (.str "q")) (.cons (.lit (.str "r")) (.cons (.lit (.str "s")) (.cons (.lit (.str "t")) (.nil))))))) .om (.bin false .add (.lit (.int (2))) (.call 40 (.cons (.var 0) (.cons (.lit (.int (4))) (.nil)))))) (.nil)))) (.nil))) (.nil)))) (.nil))), keep := false, dfl := [] }
/-- _law_some -/
def c42 : FnI := { at_ := ("_law_some", none), np := 2, names := ["hand", "things"], body := (.cons (.ret (.idx (.var 1) (.call 40 (.cons (.var 0) (.cons (.bf .len false (.cons (.var 1) (.nil))) (.nil)))))) (.nil)), keep := false, dfl := [] }
/-- _law_region -/
def c43 : FnI := { at_ := ("_law_region", none), np := 2, names := ["hand", "space", "share", "cell"], body := (.cons (.asg (.nm 2) (.call 42 (.cons (.var 0) (.cons (.lst false (.cons (.lit (.int (2))) (.cons (.lit (.int (2))) (.cons (.lit (.int (3))) (.cons (.lit (.int (1))) (.nil)))))) (.nil))))) (.cons (.ret (.make 0 (.cons (.var 1) (.cons (.comp false [("cell", 3)] (.var 3) (.nm 3) .val (.cons (.fld (.var 1) 21) .nil) (.cons (.cmp .lt (.call 40 (.cons (.var 0) (.cons (.lit (.int (4))) (.nil)))) (.var 2)) .nil)) (.nil))))) (.nil))), keep := false, dfl := [] }
/-- _law_regions -/
def c44 : FnI := { at_ := ("_law_regions", none), np := 3, names := ["hand", "space", "most", "found", "turn", "region"], body := (.cons (.asg (.nm 3) (.lst true (.nil))) (.cons (.loop (.nm 4) .range (.cons (.bin false .add (.lit (.int (1))) (.call 40 (.cons (.var 0) (.cons (.var 2) (.nil))))) (.nil)) (.cons (.asg (.nm 5) (.call 43 (.cons (.var 0) (.cons (.var 1) (.nil))))) (.cons (.iff (.and (.cmp .gt (.bf .len false (.cons (.var 3) (.nil))) (.lit (.int (1)))) (.cmp .eq (.call 40 (.cons (.var 0) (.cons (.lit (.int (4))) (.nil)))) (.lit (.int (0))))) (.cons (.asg (.nm 5) (.call 42 (.cons (.var 0) (.cons (.lst false (.cons (.bin false .bor (.idx (.var 3) (.lit (.int (0)))) (.idx (.var 3) (.lit (.int (1))))) (.cons (.bin false .sub (.idx (.var 3) (.lit (.int (0)))) (.idx (.var 3) (.lit (.int (1))))) (.cons (.inv (.idx (.var 3) (.lit (.int (0))))) (.cons (.idx (.var 3) (.lit (.int (1)))) (.nil)))))) (.nil))))) (.nil)) (.nil)) (.cons (.expr (.bm (.var 3) .append (.cons (.var 5) (.nil)))) (.nil))))) (.cons (.ret (.var 3)) (.nil)))), keep := false, dfl := [] }
/-- _law_items -/
def c45 : FnI := { at_ := ("_law_items", none), np := 1, names := ["region", "cell"], body := (.cons (.ret (.comp false [("cell", 1)] (.bf .int false (.cons (.cmp .isin (.var 1) (.var 0)) (.nil))) (.nm 1) .val (.cons (.fld (.fld (.var 0) 22) 21) .nil) .nil)) (.nil)), keep := false, dfl := [] }
/-- _law_is -/
def c46 : FnI := { at_ := ("_law_is", none), np := 2, names := ["shown", "due", "one", "other"], body := (.cons (.iff (.isi (.var 1) [.bi "tuple", .bi "list"]) (.cons (.iff (.or (.cmp .ne (.isi (.var 0) [.bi "tuple"]) (.isi (.var 1) [.bi "tuple"])) (.cmp .ne (.isi (.var 0) [.bi "list"]) (.isi (.var 1) [.bi "list"]))) (.cons (.ret (.lit (.bl false))) (.nil)) (.nil)) (.cons (.ret (.and (.cmp .eq (.bf .len false (.cons (.var 0) (.nil))) (.bf .len false (.cons (.var 1) (.nil)))) (.bf .all false (.cons (.comp false [("one", 2), ("other", 3)] (.call 46 (.cons (.var 2) (.cons (.var 3) (.nil)))) (.cons (.nm 2) (.cons (.nm 3) (.nil))) .zip (.cons (.var 0) (.cons (.var 1) (.nil))) .nil) (.nil))))) (.nil))) (.nil)) (.cons (.iff (.or (.isc false (.var 1) (.non)) (.isc false (.var 0) (.non))) (.cons (.ret (.and (.isc false (.var 1) (.non)) (.isc false (.var 0) (.non)))) (.nil)) (.nil)) (.cons (.iff (.or (.cmp .ne (.isi (.var 0) [.bi "bool"]) (.isi (.var 1) [.bi "bool"])) (.cmp .ne (.isi (.var 0) [.bi "int"]) (.isi (.var 1) [.bi "int"]))) (.cons (.ret (.lit (.bl false))) (.nil)) (.nil)) (.cons (.ret (.and (.cmp .eq (.isi (.var 0) [.bi "str"]) (.isi (.var 1) [.bi "str"])) (.cmp .eq (.var 0) (.var 1)))) (.nil))))), keep := false, dfl := [] }
/-- _law_determinant -/
def c47 : FnI := { at_ := ("_law_determinant", none), np := 1, names := ["rows", "total", "sign", "at", "number", "row"], body := (.cons (.iff (.cmp .eq (.var 0) (.lst false (.nil))) (.cons (.ret (.lit (.int (1)))) (.nil)) (.nil)) (.cons (.asgP [1, 2] (.cons (.lit (.int (0))) (.cons (.lit (.int (1))) (.nil)))) (.cons (.loop (.cons (.nm 3) (.cons (.nm 4) (.nil))) .enum (.cons (.idx (.var 0) (.lit (.int (0)))) (.nil)) (.cons (.asg (.nm 1) (.bin false .add (.var 1) (.bin false .mul (.bin false .mul (.var 2) (.var 4)) (.call 47 (.cons (.comp false [("row", 5)] (.bin false .add (.sl false (.var 5) .om (.var 3)) (.sl false (.var 5) (.bin false .add (.var 3) (.lit (.int (1)))) .om)) (.nm 5) .val (.cons (.sl false (.var 0) (.lit (.int (1))) .om) .nil) .nil) (.nil)))))) (.cons (.asg (.nm 2) (.neg (.var 2))) (.nil)))) (.cons (.ret (.var 1)) (.nil))))), keep := false, dfl := [] }
/-- _law_plain -/
def c48 : FnI := { at_ := ("_law_plain", none), np := 1, names := ["rows", "lot", "places", "one", "at", "place"], body := (.cons (.loop (.nm 1) .val (.cons (.call 38 (.cons (.bf .len false (.cons (.var 0) (.nil))) (.nil))) .nil) (.cons (.loop (.nm 2) .val (.cons (.comp false [("one", 3)] (.var 3) (.nm 3) .val (.cons (.call 38 (.cons (.bf .len false (.cons (.idx (.var 0) (.lit (.int (0)))) (.nil))) (.nil))) .nil) (.cons (.cmp .eq (.bf .len false (.cons (.var 3) (.nil))) (.bf .len false (.cons (.var 1) (.nil)))) .nil)) .nil) (.cons (.iff (.cmp .gt (.bf .abs false (.cons (.call 47 (.cons (.comp false [("at", 4)] (.comp false [("place", 5)] (.idx (.idx (.var 0) (.var 4)) (.var 5)) (.nm 5) .val (.cons (.var 2) .nil) .nil) (.nm 4) .val (.cons (.var 1) .nil) .nil) (.nil))) (.nil))) (.lit (.int (1)))) (.cons (.ret (.lit (.bl false))) (.nil)) (.nil)) (.nil))) (.nil))) (.cons (.ret (.lit (.bl true))) (.nil))), keep := false, dfl := [] }
/-- _law_parts -/
def c49 : FnI := { at_ := ("_law_parts", none), np := 3, names := ["rows", "lot", "signs", "sums", "place", "one", "sign", "at"], body := (.cons (.iff (.or (.not (.isi (.var 2) [.bi "tuple"])) (.cmp .ne (.bf .len false (.cons (.var 2) (.nil))) (.bf .len false (.cons (.var 1) (.nil))))) (.cons (.ret (.lit (.bl false))) (.nil)) (.nil)) (.cons (.iff (.not (.bf .all false (.cons (.comp false [("one", 5)] (.and (.isi (.var 5) [.bi "int"]) (.and (.not (.isi (.var 5) [.bi "bool"])) (.cmp .isin (.var 5) (.tup (.cons (.lit (.int (1))) (.cons (.neg (.lit (.int (1)))) (.nil))))))) (.nm 5) .val (.cons (.var 2) .nil) .nil) (.nil)))) (.cons (.ret (.lit (.bl false))) (.nil)) (.nil)) (.cons (.asg (.nm 3) (.comp false [("place", 4)] (.bf .sum false (.cons (.comp false [("sign", 6), ("at", 7)] (.bin false .mul (.var 6) (.idx (.idx (.var 0) (.var 7)) (.var 4))) (.cons (.nm 6) (.cons (.nm 7) (.nil))) .zip (.cons (.var 2) (.cons (.var 1) (.nil))) .nil) (.nil))) (.nm 4) .range (.cons (.bf .len false (.cons (.idx (.var 0) (.lit (.int (0)))) (.nil))) (.nil)) .nil)) (.cons (.ret (.bf .all false (.cons (.comp false [("one", 5)] (.chn .le .le (.neg (.lit (.int (1)))) (.var 5) (.lit (.int (1)))) (.nm 5) .val (.cons (.var 3) .nil) .nil) (.nil)))) (.nil))))), keep := false, dfl := [] }
/-- _law_signs -/
def c50 : FnI := { at_ := ("_law_signs", none), np := 1, names := ["many", "found", "turn", "longer", "one"], body := (.cons (.asg (.nm 1) (.lst false (.cons (.tup (.nil)) (.nil)))) (.cons (.loop (.nm 2) .range (.cons (.var 0) (.nil)) (.cons (.asg (.nm 3) (.lst true (.nil))) (.cons (.loop (.nm 4) .val (.cons (.var 1) .nil) (.cons (.expr (.bm (.var 3) .extend (.cons (.lst false (.cons (.bin false .add (.var 4) (.tup (.cons (.lit (.int (1))) (.nil)))) (.cons (.bin false .add (.var 4) (.tup (.cons (.neg (.lit (.int (1)))) (.nil)))) (.nil)))) (.nil)))) (.nil))) (.cons (.asg (.nm 1) (.var 3)) (.nil))))) (.cons (.ret (.var 1)) (.nil)))), keep := false, dfl := [] }
/-- law -/
def c51 : FnI := { at_ := ("law", none), np := 1, names := ["script", "hand", "turn", "space", "rows", "lot", "regions", "many", "ends", "even", "uneven", "some", "told", "thing", "region", "signs", "low", "high"], body := (.cons (.asg (.nm 1) (.call 39 (.cons (.var 0) (.nil)))) (.cons (.loop (.nm 2) .range (.cons (.lit (.int (3))) (.nil)) (.cons (.asg (.nm 3) (.call 41 (.cons (.var 1) (.cons (.lit (.bl false)) (.nil))))) (.cons (.asgP [6, 7] (.cons (.call 44 (.cons (.var 1) (.cons (.var 3) (.cons (.lit (.int (4))) (.nil))))) (.cons (.bf .len false (.cons (.fld (.var 3) 21) (.nil))) (.nil)))) (.cons (.iff (.cmp .eq (.call 40 (.cons (.var 1) (.cons (.lit (.int (3))) (.nil)))) (.lit (.int (0)))) (.cons (.asg (.nm 8) (.comp false [("region", 14)] (.call 37 (.cons (.lst false (.cons (.call 40 (.cons (.var 1) (.cons (.var 7) (.nil)))) (.cons (.call 40 (.cons (.var 1) (.cons (.var 7) (.nil)))) (.nil)))) (.nil))) (.nm 14) .val (.cons (.var 6) .nil) .nil)) (.cons (.asg (.nm 6) (.comp false [("low", 16), ("high", 17)] (.make 0 (.cons (.var 3) (.cons (.bf .list false (.cons (.sl false (.fld (.var 3) 21) (.var 16) (.bin false .add (.var 17) (.lit (.int (1))))) (.nil))) (.nil)))) (.cons (.nm 16) (.cons (.nm 17) (.nil))) .val (.cons (.var 8) .nil) .nil)) (.nil))) (.nil)) (.cons (.asg (.nm 4) (.comp false [("region", 14)] (.call 45 (.cons (.var 14) (.nil))) (.nm 14) .val (.cons (.var 6) .nil) .nil)) (.cons (.asgP [9, 10] (.cons (.call 48 (.cons (.var 4) (.nil))) (.cons (.call 28 (.cons (.var 6) (.nil))) (.nil)))) (.cons (.iff (.or (.not (.call 46 (.cons (.call 27 (.cons (.var 6) (.nil))) (.cons (.var 9) (.nil))))) (.cmp .ne (.isc false (.var 10) (.non)) (.var 9))) (.cons (.ret (.lit (.bl false))) (.nil)) (.nil)) (.cons (.loop (.nm 5) .val (.cons (.call 38 (.cons (.bf .len false (.cons (.var 6) (.nil))) (.nil))) .nil) (.cons (.asg (.nm 11) (.comp false [("signs", 15)] (.var 15) (.nm 15) .val (.cons (.call 50 (.cons (.bf .len false (.cons (.var 5) (.nil))) (.nil))) .nil) (.cons (.call 49 (.cons (.var 4) (.cons (.var 5) (.cons (.var 15) (.nil))))) .nil))) (.cons (.asg (.nm 12) (.call 29 (.cons (.var 6) (.cons (.var 5) (.nil))))) (.cons (.iff (.or (.cmp .ne (.isc false (.var 12) (.non)) (.cmp .eq (.var 11) (.lst false (.nil)))) (.and (.var 9) (.cmp .eq (.var 11) (.lst false (.nil))))) (.cons (.ret (.lit (.bl false))) (.nil)) (.nil)) (.cons (.iff (.and (.isc true (.var 12) (.non)) (.or (.not (.call 49 (.cons (.var 4) (.cons (.var 5) (.cons (.var 12) (.nil)))))) (.and (.cmp .ne (.var 12) (.tup (.nil))) (.cmp .ne (.idx (.var 12) (.lit (.int (0)))) (.lit (.int (1))))))) (.cons (.ret (.lit (.bl false))) (.nil)) (.nil)) (.cons (.iff (.and (.cmp .eq (.var 11) (.lst false (.nil))) (.and (.isc true (.var 10) (.non)) (.cmp .gt (.tup (.cons (.bf .len false (.cons (.var 10) (.nil))) (.cons (.var 10) (.nil)))) (.tup (.cons (.bf .len false (.cons (.var 5) (.nil))) (.cons (.var 5) (.nil))))))) (.cons (.ret (.lit (.bl false))) (.nil)) (.nil)) (.cons (.iff (.and (.cmp .eq (.var 5) (.var 10)) (.cmp .ne (.var 11) (.lst false (.nil)))) (.cons (.ret (.lit (.bl false))) (.nil)) (.nil)) (.cons (.asg (.nm 13) (.call 42 (.cons (.var 1) (.cons (.bin false .add (.call 50 (.cons (.bf .len false (.cons (.var 5) (.nil))) (.nil))) (.lst false (.cons (.lit (.non)) (.cons (.bin false .mul (.tup (.cons (.lit (.int (0))) (.nil))) (.bf .len false (.cons (.var 5) (.nil)))) (.cons (.bin false .mul (.lst false (.cons (.lit (.int (1))) (.nil))) (.bf .len false (.cons (.var 5) (.nil)))) (.cons (.bin false .mul (.tup (.cons (.lit (.int (1))) (.nil))) (.bin false .add (.bf .len false (.cons (.var 5) (.nil))) (.lit (.int (1))))) (.nil))))))) (.nil))))) (.cons (.iff (.not (.call 46 (.cons (.call 30 (.cons (.var 6) (.cons (.var 5) (.cons (.var 13) (.nil))))) (.cons (.call 49 (.cons (.var 4) (.cons (.var 5) (.cons (.var 13) (.nil))))) (.nil))))) (.cons (.ret (.lit (.bl false))) (.nil)) (.nil)) (.nil)))))))))) (.cons (.iff (.and (.or (.call 31 (.cons (.var 6) (.nil))) (.call 32 (.cons (.var 6) (.cons (.bf .tuprange false (.cons (.var 7) (.nil))) (.nil))))) (.not (.var 9))) (.cons (.ret (.lit (.bl false))) (.nil)) (.nil)) (.nil)))))))))) (.cons (.ret (.lit (.bl true))) (.nil)))), keep := false, dfl := [] }
end TD

set_option Elab.async false
set_option linter.all false
set_option maxRecDepth 100000
set_option maxHeartbeats 0
/-! CB: defs in the small language (printed by gen2.py from law k01). -/
namespace TD
open PySem
open L2 (V)
/-- common_divisor -/
def c52 : FnI := { at_ := ("common_divisor", none), np := 2, names := ["one", "other"], body := (.cons (.whil (.cmp .ne (.var 1) (.lit (.int (0)))) (.cons (.asgP [0, 1] (.cons (.var 1) (.cons (.bin false .mod (.var 0) (.var 1)) (.nil)))) (.nil))) (.cons (.ret (.bf .abs false (.cons (.var 0) (.nil)))) (.nil))), keep := false, dfl := [] }
/-- lowest -/
def c53 : FnI := { at_ := ("lowest", none), np := 2, names := ["top", "bottom", "divisor"], body := (.cons (.asg (.nm 2) (.call 52 (.cons (.var 0) (.cons (.var 1) (.nil))))) (.cons (.iff (.cmp .lt (.var 1) (.lit (.int (0)))) (.cons (.asg (.nm 2) (.neg (.var 2))) (.nil)) (.nil)) (.cons (.ret (.tup (.cons (.bin false .fdiv (.var 0) (.var 2)) (.cons (.bin false .fdiv (.var 1) (.var 2)) (.nil))))) (.nil)))), keep := false, dfl := [] }
/-- minus -/
def c54 : FnI := { at_ := ("minus", none), np := 2, names := ["one", "other"], body := (.cons (.ret (.call 53 (.cons (.bin false .sub (.bin false .mul (.idx (.var 0) (.lit (.int (0)))) (.idx (.var 1) (.lit (.int (1))))) (.bin false .mul (.idx (.var 1) (.lit (.int (0)))) (.idx (.var 0) (.lit (.int (1)))))) (.cons (.bin false .mul (.idx (.var 0) (.lit (.int (1)))) (.idx (.var 1) (.lit (.int (1))))) (.nil))))) (.nil)), keep := false, dfl := [] }
/-- times -/
def c55 : FnI := { at_ := ("times", none), np := 2, names := ["one", "other"], body := (.cons (.ret (.call 53 (.cons (.bin false .mul (.idx (.var 0) (.lit (.int (0)))) (.idx (.var 1) (.lit (.int (0))))) (.cons (.bin false .mul (.idx (.var 0) (.lit (.int (1)))) (.idx (.var 1) (.lit (.int (1))))) (.nil))))) (.nil)), keep := false, dfl := [] }
/-- over -/
def c56 : FnI := { at_ := ("over", none), np := 2, names := ["one", "other"], body := (.cons (.ret (.call 53 (.cons (.bin false .mul (.idx (.var 0) (.lit (.int (0)))) (.idx (.var 1) (.lit (.int (1))))) (.cons (.bin false .mul (.idx (.var 0) (.lit (.int (1)))) (.idx (.var 1) (.lit (.int (0))))) (.nil))))) (.nil)), keep := false, dfl := [] }
/-- whole_row -/
def c57 : FnI := { at_ := ("whole_row", none), np := 1, names := ["items", "item"], body := (.cons (.ret (.comp false [("item", 1)] (.tup (.cons (.var 1) (.cons (.lit (.int (1))) (.nil)))) (.nm 1) .val (.cons (.var 0) .nil) .nil)) (.nil)), keep := false, dfl := [] }
/-- without -/
def c58 : FnI := { at_ := ("without", none), np := 3, names := ["row", "base", "column", "factor", "mine", "its"], body := (.cons (.asg (.nm 3) (.idx (.var 0) (.var 2))) (.cons (.iff (.cmp .eq (.idx (.var 3) (.lit (.int (0)))) (.lit (.int (0)))) (.cons (.ret (.bf .list false (.cons (.var 0) (.nil)))) (.nil)) (.nil)) (.cons (.ret (.comp false [("mine", 4), ("its", 5)] (.call 54 (.cons (.var 4) (.cons (.call 55 (.cons (.var 3) (.cons (.var 5) (.nil)))) (.nil)))) (.cons (.nm 4) (.cons (.nm 5) (.nil))) .zip (.cons (.var 0) (.cons (.var 1) (.nil))) .nil)) (.nil)))), keep := false, dfl := [] }
/-- scaled_to -/
def c59 : FnI := { at_ := ("scaled_to", none), np := 2, names := ["row", "column", "part", "one"], body := (.cons (.asg (.nm 2) (.idx (.var 0) (.var 1))) (.cons (.ret (.comp false [("one", 3)] (.call 56 (.cons (.var 3) (.cons (.var 2) (.nil)))) (.nm 3) .val (.cons (.var 0) .nil) .nil)) (.nil))), keep := false, dfl := [] }
/-- stairs -/
def c60 : FnI := { at_ := ("stairs", none), np := 2, names := ["rows", "width", "column", "left", "found", "good", "base", "row", "at", "place"], body := (.cons (.asgP [3, 4] (.cons (.comp false [("row", 7)] (.bf .list false (.cons (.var 7) (.nil))) (.nm 7) .val (.cons (.var 0) .nil) .nil) (.cons (.lst false (.nil)) (.nil)))) (.cons (.loop (.nm 2) .range (.cons (.var 1) (.nil)) (.cons (.asg (.nm 5) (.comp false [("at", 8), ("row", 7)] (.var 8) (.cons (.nm 8) (.cons (.nm 7) (.nil))) .enum (.cons (.var 3) (.nil)) (.cons (.cmp .ne (.idx (.idx (.var 7) (.var 2)) (.lit (.int (0)))) (.lit (.int (0)))) .nil))) (.cons (.iff (.cmp .ne (.var 5) (.lst false (.nil))) (.cons (.asg (.nm 6) (.call 59 (.cons (.idx (.var 3) (.idx (.var 5) (.lit (.int (0))))) (.cons (.var 2) (.nil))))) (.cons (.asg (.nm 3) (.comp false [("at", 8), ("row", 7)] (.call 58 (.cons (.var 7) (.cons (.var 6) (.cons (.var 2) (.nil))))) (.cons (.nm 8) (.cons (.nm 7) (.nil))) .enum (.cons (.var 3) (.nil)) (.cons (.cmp .ne (.var 8) (.idx (.var 5) (.lit (.int (0))))) .nil))) (.cons (.asg (.nm 4) (.bin false .add (.comp false [("place", 9), ("row", 7)] (.tup (.cons (.var 9) (.cons (.call 58 (.cons (.var 7) (.cons (.var 6) (.cons (.var 2) (.nil))))) (.nil)))) (.cons (.nm 9) (.cons (.nm 7) (.nil))) .val (.cons (.var 4) .nil) .nil) (.lst false (.cons (.tup (.cons (.var 2) (.cons (.var 6) (.nil)))) (.nil))))) (.nil)))) (.nil)) (.nil)))) (.cons (.ret (.var 4)) (.nil)))), keep := false, dfl := [] }
/-- marked -/
def c61 : FnI := { at_ := ("marked", none), np := 1, names := ["rows", "found", "at", "row", "place"], body := (.cons (.asg (.nm 1) (.lst true (.nil))) (.cons (.loop (.cons (.nm 2) (.cons (.nm 3) (.nil))) .enum (.cons (.var 0) (.nil)) (.cons (.expr (.bm (.var 1) .append (.cons (.bin false .add (.bf .list false (.cons (.var 3) (.nil))) (.comp false [("place", 4)] (.tup (.cons (.bf .int false (.cons (.cmp .eq (.var 2) (.var 4)) (.nil))) (.cons (.lit (.int (1))) (.nil)))) (.nm 4) .range (.cons (.bf .len false (.cons (.var 0) (.nil))) (.nil)) .nil)) (.nil)))) (.nil))) (.cons (.ret (.var 1)) (.nil)))), keep := false, dfl := [] }
/-- combination -/
def c62 : FnI := { at_ := ("combination", none), np := 2, names := ["rows", "target", "width", "here", "column", "base", "one"], body := (.cons (.asg (.nm 2) (.bf .len false (.cons (.var 1) (.nil)))) (.cons (.asg (.nm 3) (.bin false .add (.bf .list false (.cons (.var 1) (.nil))) (.bin false .mul (.lst false (.cons (.glob 8) (.nil))) (.bf .len false (.cons (.var 0) (.nil)))))) (.cons (.loop (.cons (.nm 4) (.cons (.nm 5) (.nil))) .val (.cons (.call 60 (.cons (.call 61 (.cons (.var 0) (.nil))) (.cons (.var 2) (.nil)))) .nil) (.cons (.asg (.nm 3) (.call 58 (.cons (.var 3) (.cons (.var 5) (.cons (.var 4) (.nil)))))) (.nil))) (.cons (.iff (.bf .any false (.cons (.comp false [("one", 6)] (.cmp .ne (.idx (.var 6) (.lit (.int (0)))) (.lit (.int (0)))) (.nm 6) .val (.cons (.sl false (.var 3) .om (.var 2)) .nil) .nil) (.nil))) (.cons (.ret (.lit (.non))) (.nil)) (.nil)) (.cons (.ret (.comp false [("one", 6)] (.call 53 (.cons (.neg (.idx (.var 6) (.lit (.int (0))))) (.cons (.idx (.var 6) (.lit (.int (1)))) (.nil)))) (.nm 6) .val (.cons (.sl false (.var 3) (.var 2) .om) .nil) .nil)) (.nil)))))), keep := false, dfl := [] }
/-- check_like -/
def c63 : FnI := { at_ := ("check_like", none), np := 2, names := ["regions", "region"], body := (.cons (.expr (.call 23 (.cons (.var 0) (.nil)))) (.cons (.iff (.or (.not (.isi (.var 1) [.own 0])) (.cmp .ne (.fld (.var 1) 22) (.fld (.idx (.var 0) (.lit (.int (0)))) 22))) (.cons (.never) (.nil)) (.nil)) (.nil))), keep := false, dfl := [] }
/-- is_lot -/
def c64 : FnI := { at_ := ("is_lot", none), np := 2, names := ["value", "many", "one", "other"], body := (.cons (.iff (.or (.not (.isi (.var 0) [.bi "tuple"])) (.not (.bf .all false (.cons (.comp false [("one", 2)] (.and (.call 1 (.cons (.var 2) (.nil))) (.chn .le .lt (.lit (.int (0))) (.var 2) (.var 1))) (.nm 2) .val (.cons (.var 0) .nil) .nil) (.nil))))) (.cons (.ret (.lit (.bl false))) (.nil)) (.nil)) (.cons (.ret (.bf .all false (.cons (.comp false [("one", 2), ("other", 3)] (.cmp .lt (.var 2) (.var 3)) (.cons (.nm 2) (.cons (.nm 3) (.nil))) .zip (.cons (.var 0) (.cons (.sl false (.var 0) (.lit (.int (1))) .om) (.nil))) .nil) (.nil)))) (.nil))), keep := false, dfl := [] }
/-- check_lot -/
def c65 : FnI := { at_ := ("check_lot", none), np := 2, names := ["value", "many"], body := (.cons (.iff (.not (.call 64 (.cons (.var 0) (.cons (.var 1) (.nil))))) (.cons (.never) (.nil)) (.nil)) (.nil)), keep := false, dfl := [] }
/-- rows_of -/
def c66 : FnI := { at_ := ("rows_of", none), np := 1, names := ["regions", "region"], body := (.cons (.ret (.comp false [("region", 1)] (.call 57 (.cons (.call 19 (.cons (.var 1) (.nil))) (.nil))) (.nm 1) .val (.cons (.var 0) .nil) .nil)) (.nil)), keep := false, dfl := [] }
/-- picked -/
def c67 : FnI := { at_ := ("picked", none), np := 2, names := ["rows", "lot", "place"], body := (.cons (.ret (.comp false [("place", 2)] (.idx (.var 0) (.var 2)) (.nm 2) .val (.cons (.var 1) .nil) .nil)) (.nil)), keep := false, dfl := [] }
/-- rest_of -/
def c68 : FnI := { at_ := ("rest_of", none), np := 2, names := ["many", "lot", "place"], body := (.cons (.ret (.bf .tuple false (.cons (.comp false [("place", 2)] (.var 2) (.nm 2) .range (.cons (.var 0) (.nil)) (.cons (.cmp .notin (.var 2) (.var 1)) .nil)) (.nil)))) (.nil)), keep := false, dfl := [] }
/-- is_inside -/
def c69 : FnI := { at_ := ("is_inside", none), np := 2, names := ["one", "other", "place"], body := (.cons (.ret (.bf .all false (.cons (.comp false [("place", 2)] (.cmp .isin (.var 2) (.var 1)) (.nm 2) .val (.cons (.var 0) .nil) .nil) (.nil)))) (.nil)), keep := false, dfl := [] }
/-- least_of -/
def c70 : FnI := { at_ := ("least_of", none), np := 1, names := ["lots", "found", "lot", "other"], body := (.cons (.asg (.nm 1) (.lst true (.nil))) (.cons (.loop (.nm 2) .val (.cons (.call 22 (.cons (.var 0) (.nil))) .nil) (.cons (.iff (.not (.bf .any false (.cons (.comp false [("other", 3)] (.call 69 (.cons (.var 3) (.cons (.var 2) (.nil)))) (.nm 3) .val (.cons (.var 1) .nil) .nil) (.nil)))) (.cons (.expr (.bm (.var 1) .append (.cons (.var 2) (.nil)))) (.nil)) (.nil)) (.nil))) (.cons (.ret (.var 1)) (.nil)))), keep := false, dfl := [] }
/-- tells_by -/
def c71 : FnI := { at_ := ("tells_by", none), np := 3, names := ["rows", "lot", "target"], body := (.cons (.ret (.isc true (.call 62 (.cons (.call 67 (.cons (.var 0) (.cons (.var 1) (.nil)))) (.cons (.var 2) (.nil)))) (.non))) (.nil)), keep := false, dfl := [] }
/-- is_left -/
def c72 : FnI := { at_ := ("is_left", none), np := 3, names := ["regions", "lost", "region"], body := (.cons (.expr (.call 63 (.cons (.var 0) (.cons (.var 2) (.nil))))) (.cons (.expr (.call 65 (.cons (.var 1) (.cons (.bf .len false (.cons (.var 0) (.nil))) (.nil))))) (.cons (.ret (.call 71 (.cons (.call 66 (.cons (.var 0) (.nil))) (.cons (.call 68 (.cons (.bf .len false (.cons (.var 0) (.nil))) (.cons (.var 1) (.nil)))) (.cons (.call 57 (.cons (.call 19 (.cons (.var 2) (.nil))) (.nil))) (.nil)))))) (.nil)))), keep := false, dfl := [] }
/-- telling_lots -/
def c73 : FnI := { at_ := ("telling_lots", none), np := 2, names := ["regions", "region", "rows", "target", "lot"], body := (.cons (.expr (.call 63 (.cons (.var 0) (.cons (.var 1) (.nil))))) (.cons (.asgP [2, 3] (.cons (.call 66 (.cons (.var 0) (.nil))) (.cons (.call 57 (.cons (.call 19 (.cons (.var 1) (.nil))) (.nil))) (.nil)))) (.cons (.ret (.call 70 (.cons (.comp false [("lot", 4)] (.var 4) (.nm 4) .val (.cons (.call 24 (.cons (.bf .len false (.cons (.var 0) (.nil))) (.nil))) .nil) (.cons (.call 71 (.cons (.var 2) (.cons (.var 4) (.cons (.var 3) (.nil))))) .nil)) (.nil)))) (.nil)))), keep := false, dfl := [] }
/-- losing_lots -/
def c74 : FnI := { at_ := ("losing_lots", none), np := 2, names := ["regions", "region", "rows", "target", "many", "lot"], body := (.cons (.expr (.call 63 (.cons (.var 0) (.cons (.var 1) (.nil))))) (.cons (.asgP [2, 3, 4] (.cons (.call 66 (.cons (.var 0) (.nil))) (.cons (.call 57 (.cons (.call 19 (.cons (.var 1) (.nil))) (.nil))) (.cons (.bf .len false (.cons (.var 0) (.nil))) (.nil))))) (.cons (.ret (.call 70 (.cons (.comp false [("lot", 5)] (.var 5) (.nm 5) .val (.cons (.call 24 (.cons (.var 4) (.nil))) .nil) (.cons (.not (.call 71 (.cons (.var 2) (.cons (.call 68 (.cons (.var 4) (.cons (.var 5) (.nil)))) (.cons (.var 3) (.nil)))))) .nil)) (.nil)))) (.nil)))), keep := false, dfl := [] }
/-- strength -/
def c75 : FnI := { at_ := ("strength", none), np := 2, names := ["regions", "region", "some"], body := (.cons (.asg (.nm 2) (.call 74 (.cons (.var 0) (.cons (.var 1) (.nil))))) (.cons (.ret (.ite (.cmp .eq (.var 2) (.lst false (.nil))) (.lit (.non)) (.bf .len false (.cons (.idx (.var 2) (.lit (.int (0)))) (.nil))))) (.nil))), keep := false, dfl := [] }
/-- Space.empty -/
def c76 : FnI := { at_ := ("Space", some "empty"), np := 1, names := ["self"], body := (.cons (.ret (.make 0 (.cons (.var 0) (.cons (.tup (.nil)) (.nil))))) (.nil)), keep := false, dfl := [] }
/-- _law_inside -/
def c77 : FnI := { at_ := ("_law_inside", none), np := 2, names := ["one", "other", "place"], body := (.cons (.ret (.bf .all false (.cons (.comp false [("place", 2)] (.cmp .isin (.var 2) (.var 1)) (.nm 2) .val (.cons (.var 0) .nil) .nil) (.nil)))) (.nil)), keep := false, dfl := [] }
/-- _law_least -/
def c78 : FnI := { at_ := ("_law_least", none), np := 1, names := ["lots", "lot", "other"], body := (.cons (.ret (.comp false [("lot", 1)] (.var 1) (.nm 1) .val (.cons (.var 0) .nil) (.cons (.not (.bf .any false (.cons (.comp false [("other", 2)] (.and (.cmp .ne (.var 2) (.var 1)) (.call 77 (.cons (.var 2) (.cons (.var 1) (.nil))))) (.nm 2) .val (.cons (.var 0) .nil) .nil) (.nil)))) .nil))) (.nil)), keep := false, dfl := [] }
/-- _law_rank -/
def c79 : FnI := { at_ := ("_law_rank", none), np := 1, names := ["rows", "left", "found", "base", "places", "row", "at", "place", "one", "other"], body := (.cons (.asgP [1, 2] (.cons (.comp true [("row", 5)] (.bf .list false (.cons (.var 5) (.nil))) (.nm 5) .val (.cons (.var 0) .nil) .nil) (.cons (.lit (.int (0))) (.nil)))) (.cons (.whil (.cmp .ne (.var 1) (.lst false (.nil))) (.cons (.asg (.nm 3) (.bm (.var 1) .pop (.nil))) (.cons (.asg (.nm 4) (.comp false [("place", 7), ("one", 8)] (.var 7) (.cons (.nm 7) (.cons (.nm 8) (.nil))) .enum (.cons (.var 3) (.nil)) (.cons (.cmp .ne (.var 8) (.lit (.int (0)))) .nil))) (.cons (.iff (.cmp .ne (.var 4) (.lst false (.nil))) (.cons (.asgP [6, 2] (.cons (.idx (.var 4) (.lit (.int (0)))) (.cons (.bin false .add (.var 2) (.lit (.int (1)))) (.nil)))) (.cons (.asg (.nm 1) (.comp true [("row", 5)] (.comp false [("one", 8), ("other", 9)] (.bin false .sub (.bin false .mul (.idx (.var 3) (.var 6)) (.var 8)) (.bin false .mul (.idx (.var 5) (.var 6)) (.var 9))) (.cons (.nm 8) (.cons (.nm 9) (.nil))) .zip (.cons (.var 5) (.cons (.var 3) (.nil))) .nil) (.nm 5) .val (.cons (.var 1) .nil) .nil)) (.nil))) (.nil)) (.nil))))) (.cons (.ret (.var 2)) (.nil)))), keep := false, dfl := [] }
/-- _law_tells -/
def c80 : FnI := { at_ := ("_law_tells", none), np := 3, names := ["rows", "lot", "target", "some", "place"], body := (.cons (.asg (.nm 3) (.comp false [("place", 4)] (.idx (.var 0) (.var 4)) (.nm 4) .val (.cons (.var 1) .nil) .nil)) (.cons (.ret (.cmp .eq (.call 79 (.cons (.bin false .add (.var 3) (.lst false (.cons (.var 2) (.nil)))) (.nil))) (.call 79 (.cons (.var 3) (.nil))))) (.nil))), keep := false, dfl := [] }
/-- _law_rest -/
def c81 : FnI := { at_ := ("_law_rest", none), np := 2, names := ["many", "lot", "place"], body := (.cons (.ret (.bf .tuple false (.cons (.comp false [("place", 2)] (.var 2) (.nm 2) .range (.cons (.var 0) (.nil)) (.cons (.cmp .notin (.var 2) (.var 1)) .nil)) (.nil)))) (.nil)), keep := false, dfl := [] }
/-- _law_meets -/
def c82 : FnI := { at_ := ("_law_meets", none), np := 2, names := ["lots", "many", "good", "lot", "one", "place"], body := (.cons (.asg (.nm 2) (.lst true (.nil))) (.cons (.loop (.nm 3) .val (.cons (.call 38 (.cons (.var 1) (.nil))) .nil) (.cons (.iff (.bf .all false (.cons (.comp false [("one", 4)] (.bf .any false (.cons (.comp false [("place", 5)] (.cmp .isin (.var 5) (.var 3)) (.nm 5) .val (.cons (.var 4) .nil) .nil) (.nil))) (.nm 4) .val (.cons (.var 0) .nil) .nil) (.nil))) (.cons (.expr (.bm (.var 2) .append (.cons (.var 3) (.nil)))) (.nil)) (.nil)) (.nil))) (.cons (.ret (.call 78 (.cons (.var 2) (.nil)))) (.nil)))), keep := false, dfl := [] }
/-- law -/
def c83 : FnI := { at_ := ("law", none), np := 1, names := ["script", "hand", "turn", "space", "tell", "lose", "again", "regions", "region", "rows", "target", "many", "lot", "one"], body := (.cons (.asg (.nm 1) (.call 39 (.cons (.var 0) (.nil)))) (.cons (.loop (.nm 2) .range (.cons (.lit (.int (3))) (.nil)) (.cons (.asg (.nm 3) (.call 41 (.cons (.var 1) (.cons (.lit (.bl false)) (.nil))))) (.cons (.asgP [7, 8] (.cons (.call 44 (.cons (.var 1) (.cons (.var 3) (.cons (.lit (.int (6))) (.nil))))) (.cons (.call 43 (.cons (.var 1) (.cons (.var 3) (.nil)))) (.nil)))) (.cons (.iff (.cmp .eq (.call 40 (.cons (.var 1) (.cons (.lit (.int (2))) (.nil)))) (.lit (.int (0)))) (.cons (.asg (.nm 8) (.call 42 (.cons (.var 1) (.cons (.lst false (.cons (.bin false .bor (.idx (.var 7) (.lit (.int (0)))) (.idx (.var 7) (.neg (.lit (.int (1)))))) (.cons (.bin false .bxor (.idx (.var 7) (.lit (.int (0)))) (.idx (.var 7) (.neg (.lit (.int (1)))))) (.cons (.idx (.var 7) (.neg (.lit (.int (1))))) (.cons (.meth (.var 3) 24 (.nil)) (.nil)))))) (.nil))))) (.nil)) (.nil)) (.cons (.asgP [9, 10, 11] (.cons (.comp false [("one", 13)] (.call 45 (.cons (.var 13) (.nil))) (.nm 13) .val (.cons (.var 7) .nil) .nil) (.cons (.call 45 (.cons (.var 8) (.nil))) (.cons (.bf .len false (.cons (.var 7) (.nil))) (.nil))))) (.cons (.asg (.nm 4) (.call 78 (.cons (.comp false [("lot", 12)] (.var 12) (.nm 12) .val (.cons (.call 38 (.cons (.var 11) (.nil))) .nil) (.cons (.call 80 (.cons (.var 9) (.cons (.var 12) (.cons (.var 10) (.nil))))) .nil)) (.nil)))) (.cons (.asg (.nm 5) (.call 78 (.cons (.comp false [("lot", 12)] (.var 12) (.nm 12) .val (.cons (.call 38 (.cons (.var 11) (.nil))) .nil) (.cons (.not (.call 80 (.cons (.var 9) (.cons (.call 81 (.cons (.var 11) (.cons (.var 12) (.nil)))) (.cons (.var 10) (.nil)))))) .nil)) (.nil)))) (.cons (.iff (.not (.call 46 (.cons (.lst false (.cons (.call 73 (.cons (.var 7) (.cons (.var 8) (.nil)))) (.cons (.call 74 (.cons (.var 7) (.cons (.var 8) (.nil)))) (.nil)))) (.cons (.lst false (.cons (.var 4) (.cons (.var 5) (.nil)))) (.nil))))) (.cons (.ret (.lit (.bl false))) (.nil)) (.nil)) (.cons (.iff (.not (.call 46 (.cons (.call 75 (.cons (.var 7) (.cons (.var 8) (.nil)))) (.cons (.ite (.cmp .ne (.var 5) (.lst false (.nil))) (.bf .len false (.cons (.idx (.var 5) (.lit (.int (0)))) (.nil))) (.lit (.non))) (.nil))))) (.cons (.ret (.lit (.bl false))) (.nil)) (.nil)) (.cons (.iff (.and (.cmp .ne (.call 82 (.cons (.var 4) (.cons (.var 11) (.nil)))) (.ite (.cmp .ne (.var 4) (.lst false (.nil))) (.var 5) (.lst false (.cons (.tup (.nil)) (.nil))))) (.cmp .ne (.var 4) (.lst false (.cons (.tup (.nil)) (.nil))))) (.cons (.ret (.lit (.bl false))) (.nil)) (.nil)) (.cons (.iff (.and (.cmp .notin (.var 5) (.tup (.cons (.lst false (.nil)) (.cons (.lst false (.cons (.tup (.nil)) (.nil))) (.nil))))) (.cmp .ne (.call 82 (.cons (.var 5) (.cons (.var 11) (.nil)))) (.var 4))) (.cons (.ret (.lit (.bl false))) (.nil)) (.nil)) (.cons (.loop (.nm 6) .range (.cons (.lit (.int (4))) (.nil)) (.cons (.asg (.nm 12) (.call 42 (.cons (.var 1) (.cons (.call 38 (.cons (.var 11) (.nil))) (.nil))))) (.cons (.iff (.not (.call 46 (.cons (.call 72 (.cons (.var 7) (.cons (.var 12) (.cons (.var 8) (.nil))))) (.cons (.call 80 (.cons (.var 9) (.cons (.call 81 (.cons (.var 11) (.cons (.var 12) (.nil)))) (.cons (.var 10) (.nil))))) (.nil))))) (.cons (.ret (.lit (.bl false))) (.nil)) (.nil)) (.cons (.iff (.cmp .ne (.call 72 (.cons (.var 7) (.cons (.var 12) (.cons (.var 8) (.nil))))) (.not (.bf .any false (.cons (.comp false [("one", 13)] (.call 77 (.cons (.var 13) (.cons (.var 12) (.nil)))) (.nm 13) .val (.cons (.var 5) .nil) .nil) (.nil))))) (.cons (.ret (.lit (.bl false))) (.nil)) (.nil)) (.nil))))) (.nil))))))))))))) (.cons (.ret (.lit (.bl true))) (.nil)))), keep := false, dfl := [] }
end TD

set_option Elab.async false
set_option linter.all false
set_option maxRecDepth 100000
set_option maxHeartbeats 0
namespace TD
open PySem PySem.Spec PyProof.Rows L2
def cl0 : ClsI := { name := "Region", attrs := [22, 21], meths := [(0, 6), (1, 7), (6, 8), (7, 9), (8, 10), (9, 11), (10, 12), (11, 13), (12, 14), (3, 15), (2, 16), (5, 17), (4, 18)] }
def cl1 : ClsI := { name := "Space", attrs := [23, 21], meths := [(0, 35), (1, 36), (24, 76)] }
def prog : Prog := { fns := ([c0, c1, c2, c3, c4, c5, c6, c7, c8, c9, c10, c11, c12, c13, c14, c15, c16, c17, c18, c19] : List FnI) ++ ([c20, c21, c22, c23, c24, c0, c0, c0, c0, c0, c0, c0, c0, c33, c34, c35, c36, c37, c38, c39] : List FnI) ++ ([c40, c41, c42, c43, c44, c45, c46, c0, c0, c0, c0, c0, c52, c53, c54, c55, c56, c57, c58, c59] : List FnI) ++ ([c60, c61, c62, c63, c64, c65, c66, c67, c68, c69, c70, c71, c72, c73, c74, c75, c76, c77, c78, c79] : List FnI) ++ ([c80, c81, c82, c83] : List FnI), cls := ([some cl0, some cl1] : List (Option ClsI)), nm := (["__init__", "__eq__", "__lt__", "__le__", "__gt__", "__ge__", "__len__", "__contains__", "__and__", "__or__", "__sub__", "__xor__", "__invert__", "__add__", "__mul__", "__floordiv__", "__mod__", "__neg__", "__pow__", "__getitem__"] : List Str) ++ (["__setitem__", "cells", "space", "axes", "empty"] : List Str), globs := ([("LETTERS", .str "abcdefghijklmnopqrstuvwxyz"), ("DIGITS", .str "0123456789"), ("LONGEST_NAME", .int (8)), ("MOST_REGIONS", .int (12)), ("LETTERS", .str "abcdefghijklmnopqrstuvwxyz"), ("MOST_AXES", .int (4)), ("MOST_MEMBERS", .int (8)), ("MOST_CELLS", .int (24)), ("ZERO", .tup [.int (0), .int (1)])] : List (Str × D)) }
def topS (i : Nat) : Stmt := PySem.Challenge.pw_countstell_k01_whole_lots_that_tell_and.main.body.getD i (.Pass ⟨0, 0, 0, 0⟩)
def dvOf : V → He.Dv
  | .bl b => .bl b
  | .int i => .int i
  | _ => .non
def mkD (fd : FnI) (n q : Str) (st : Stmt) : He.DefD := ⟨fd.at_, n, q, defArgs st, defBody st, defScope st, fd.dfl.map dvOf, []⟩
def d0 : He.DefD := mkD c0 "_wall" "_wall" (topS 0)
def d1 : He.DefD := mkD c1 "is_integer" "is_integer" (topS 10)
def d2 : He.DefD := mkD c2 "is_row" "is_row" (topS 11)
def d3 : He.DefD := mkD c3 "is_name" "is_name" (topS 12)
def d4 : He.DefD := mkD c4 "is_cell" "is_cell" (topS 28)
def d5 : He.DefD := mkD c5 "same_space" "same_space" (topS 29)
def d6 : He.DefD := mkD c6 "__init__" "Region.__init__" (inClass (topS 30) 0)
def d7 : He.DefD := mkD c7 "__eq__" "Region.__eq__" (inClass (topS 30) 1)
def d8 : He.DefD := mkD c8 "__len__" "Region.__len__" (inClass (topS 30) 2)
def d9 : He.DefD := mkD c9 "__contains__" "Region.__contains__" (inClass (topS 30) 3)
def d10 : He.DefD := mkD c10 "__and__" "Region.__and__" (inClass (topS 30) 4)
def d11 : He.DefD := mkD c11 "__or__" "Region.__or__" (inClass (topS 30) 5)
def d12 : He.DefD := mkD c12 "__sub__" "Region.__sub__" (inClass (topS 30) 6)
def d13 : He.DefD := mkD c13 "__xor__" "Region.__xor__" (inClass (topS 30) 7)
def d14 : He.DefD := mkD c14 "__invert__" "Region.__invert__" (inClass (topS 30) 8)
def d15 : He.DefD := mkD c15 "__le__" "Region.__le__" (inClass (topS 30) 9)
def d16 : He.DefD := mkD c16 "__lt__" "Region.__lt__" (inClass (topS 30) 10)
def d17 : He.DefD := mkD c17 "__ge__" "Region.__ge__" (inClass (topS 30) 11)
def d18 : He.DefD := mkD c18 "__gt__" "Region.__gt__" (inClass (topS 30) 12)
def d19 : He.DefD := mkD c19 "region_items" "region_items" (topS 32)
def d20 : He.DefD := mkD c20 "merged" "merged" (topS 34)
def d21 : He.DefD := mkD c21 "ordered" "ordered" (topS 35)
def d22 : He.DefD := mkD c22 "by_size" "by_size" (topS 36)
def d23 : He.DefD := mkD c23 "check_regions" "check_regions" (topS 42)
def d24 : He.DefD := mkD c24 "all_lots" "all_lots" (topS 47)
def d33 : He.DefD := mkD c33 "axis_fault" "axis_fault" (topS 62)
def d34 : He.DefD := mkD c34 "product_cells" "product_cells" (topS 63)
def d35 : He.DefD := mkD c35 "__init__" "Space.__init__" (inClass (topS 64) 0)
def d36 : He.DefD := mkD c36 "__eq__" "Space.__eq__" (inClass (topS 64) 1)
def d37 : He.DefD := mkD c37 "_law_ordered" "_law_ordered" (topS 66)
def d38 : He.DefD := mkD c38 "_law_lots" "_law_lots" (topS 76)
def d39 : He.DefD := mkD c39 "_law_hand" "_law_hand" (topS 67)
def d40 : He.DefD := mkD c40 "_law_draw" "_law_draw" (topS 68)
def d41 : He.DefD := mkD c41 "_law_space" "_law_space" (topS 69)
def d42 : He.DefD := mkD c42 "_law_some" "_law_some" (topS 70)
def d43 : He.DefD := mkD c43 "_law_region" "_law_region" (topS 71)
def d44 : He.DefD := mkD c44 "_law_regions" "_law_regions" (topS 72)
def d45 : He.DefD := mkD c45 "_law_items" "_law_items" (topS 73)
def d46 : He.DefD := mkD c46 "_law_is" "_law_is" (topS 80)
def d52 : He.DefD := mkD c52 "common_divisor" "common_divisor" (topS 14)
def d53 : He.DefD := mkD c53 "lowest" "lowest" (topS 17)
def d54 : He.DefD := mkD c54 "minus" "minus" (topS 18)
def d55 : He.DefD := mkD c55 "times" "times" (topS 19)
def d56 : He.DefD := mkD c56 "over" "over" (topS 20)
def d57 : He.DefD := mkD c57 "whole_row" "whole_row" (topS 21)
def d58 : He.DefD := mkD c58 "without" "without" (topS 22)
def d59 : He.DefD := mkD c59 "scaled_to" "scaled_to" (topS 23)
def d60 : He.DefD := mkD c60 "stairs" "stairs" (topS 24)
def d61 : He.DefD := mkD c61 "marked" "marked" (topS 25)
def d62 : He.DefD := mkD c62 "combination" "combination" (topS 26)
def d63 : He.DefD := mkD c63 "check_like" "check_like" (topS 43)
def d64 : He.DefD := mkD c64 "is_lot" "is_lot" (topS 44)
def d65 : He.DefD := mkD c65 "check_lot" "check_lot" (topS 45)
def d66 : He.DefD := mkD c66 "rows_of" "rows_of" (topS 46)
def d67 : He.DefD := mkD c67 "picked" "picked" (topS 48)
def d68 : He.DefD := mkD c68 "rest_of" "rest_of" (topS 49)
def d69 : He.DefD := mkD c69 "is_inside" "is_inside" (topS 50)
def d70 : He.DefD := mkD c70 "least_of" "least_of" (topS 51)
def d71 : He.DefD := mkD c71 "tells_by" "tells_by" (topS 52)
def d72 : He.DefD := mkD c72 "is_left" "is_left" (topS 54)
def d73 : He.DefD := mkD c73 "telling_lots" "telling_lots" (topS 55)
def d74 : He.DefD := mkD c74 "losing_lots" "losing_lots" (topS 56)
def d75 : He.DefD := mkD c75 "strength" "strength" (topS 57)
def d76 : He.DefD := mkD c76 "empty" "Space.empty" (inClass (topS 64) 5)
def d77 : He.DefD := mkD c77 "_law_inside" "_law_inside" (topS 74)
def d78 : He.DefD := mkD c78 "_law_least" "_law_least" (topS 75)
def d79 : He.DefD := mkD c79 "_law_rank" "_law_rank" (topS 77)
def d80 : He.DefD := mkD c80 "_law_tells" "_law_tells" (topS 78)
def d81 : He.DefD := mkD c81 "_law_rest" "_law_rest" (topS 79)
def d82 : He.DefD := mkD c82 "_law_meets" "_law_meets" (topS 81)
def d83 : He.DefD := mkD c83 "law" "law" (topS 82)
def fn : List He.DefD := ([d0, d1, d2, d3, d4, d5, d6, d7, d8, d9, d10, d11, d12, d13, d14, d15, d16, d17, d18, d19] : List He.DefD) ++ ([d20, d21, d22, d23, d24, d0, d0, d0, d0, d0, d0, d0, d0, d33, d34, d35, d36, d37, d38, d39] : List He.DefD) ++ ([d40, d41, d42, d43, d44, d45, d46, d0, d0, d0, d0, d0, d52, d53, d54, d55, d56, d57, d58, d59] : List He.DefD) ++ ([d60, d61, d62, d63, d64, d65, d66, d67, d68, d69, d70, d71, d72, d73, d74, d75, d76, d77, d78, d79] : List He.DefD) ++ ([d80, d81, d82, d83] : List He.DefD)
def loose : List PySem.Str := (["DIGITS", "LETTERS", "LONGEST_NAME", "MOST_AXES", "MOST_CELLS", "MOST_MEMBERS", "MOST_REGIONS", "NoCell", "NoLot", "NoRegions", "NoSpace", "OtherSpace", "PartError", "Region", "Space", "ZERO", "_law_draw", "_law_hand", "_law_inside", "_law_is"] : List PySem.Str) ++ (["_law_items", "_law_least", "_law_lots", "_law_meets", "_law_ordered", "_law_rank", "_law_region", "_law_regions", "_law_rest", "_law_some", "_law_space", "_law_tells", "_wall", "all_lots", "axis_fault", "by_size", "check_like", "check_lot", "check_regions", "combination"] : List PySem.Str) ++ (["common_divisor", "is_cell", "is_inside", "is_integer", "is_left", "is_lot", "is_name", "is_row", "least_of", "losing_lots", "lowest", "marked", "merged", "minus", "ordered", "over", "picked", "product_cells", "region_items", "rest_of"] : List PySem.Str) ++ (["rows_of", "same_space", "scaled_to", "stairs", "strength", "telling_lots", "tells_by", "times", "whole_row", "without"] : List PySem.Str)
abbrev R : PySem.W.OpenRow := PySem.W.OpenLaw.row PySem.Challenge.rw_countstell_k01_whole_lots_that_tell_and
abbrev hk : PySem.W.Hook := hookT 2000 prog fn
def ob (s : PySem.W.SharedT) : AlT := obT 2000 prog fn (HandSHeadRun.getT s)
theorem ob_eq (s : PySem.W.SharedT) : ob s = hk.obs s.abs := obT_eq (HandSHeadRun.getT_eq s)
theorem match_ok : fnsB prog prog.fns fn = true := by decide +kernel
theorem b0 : BindT d0 c0.np (c0.names.take c0.np) := bind0 rfl rfl fun _ _ _ _ _ _ us hl => match us, hl with | [_], _ => rfl
theorem b1 : BindT d1 c1.np (c1.names.take c1.np) := bind0 rfl rfl fun _ _ _ _ _ _ us hl => match us, hl with | [_], _ => rfl
theorem b2 : BindT d2 c2.np (c2.names.take c2.np) := bind0 rfl rfl fun _ _ _ _ _ _ us hl => match us, hl with | [_], _ => rfl
theorem b3 : BindT d3 c3.np (c3.names.take c3.np) := bind0 rfl rfl fun _ _ _ _ _ _ us hl => match us, hl with | [_], _ => rfl
theorem b4 : BindT d4 c4.np (c4.names.take c4.np) := bind0 rfl rfl fun _ _ _ _ _ _ us hl => match us, hl with | [_, _], _ => rfl
theorem b5 : BindT d5 c5.np (c5.names.take c5.np) := bind0 rfl rfl fun _ _ _ _ _ _ us hl => match us, hl with | [_, _], _ => rfl
theorem b6 : BindT d6 c6.np (c6.names.take c6.np) := bind0 rfl rfl fun _ _ _ _ _ _ us hl => match us, hl with | [_, _, _], _ => rfl
theorem b7 : BindT d7 c7.np (c7.names.take c7.np) := bind0 rfl rfl fun _ _ _ _ _ _ us hl => match us, hl with | [_, _], _ => rfl
theorem b8 : BindT d8 c8.np (c8.names.take c8.np) := bind0 rfl rfl fun _ _ _ _ _ _ us hl => match us, hl with | [_], _ => rfl
theorem b9 : BindT d9 c9.np (c9.names.take c9.np) := bind0 rfl rfl fun _ _ _ _ _ _ us hl => match us, hl with | [_, _], _ => rfl
theorem b10 : BindT d10 c10.np (c10.names.take c10.np) := bind0 rfl rfl fun _ _ _ _ _ _ us hl => match us, hl with | [_, _], _ => rfl
theorem b11 : BindT d11 c11.np (c11.names.take c11.np) := bind0 rfl rfl fun _ _ _ _ _ _ us hl => match us, hl with | [_, _], _ => rfl
theorem b12 : BindT d12 c12.np (c12.names.take c12.np) := bind0 rfl rfl fun _ _ _ _ _ _ us hl => match us, hl with | [_, _], _ => rfl
theorem b13 : BindT d13 c13.np (c13.names.take c13.np) := bind0 rfl rfl fun _ _ _ _ _ _ us hl => match us, hl with | [_, _], _ => rfl
theorem b14 : BindT d14 c14.np (c14.names.take c14.np) := bind0 rfl rfl fun _ _ _ _ _ _ us hl => match us, hl with | [_], _ => rfl
theorem b15 : BindT d15 c15.np (c15.names.take c15.np) := bind0 rfl rfl fun _ _ _ _ _ _ us hl => match us, hl with | [_, _], _ => rfl
theorem b16 : BindT d16 c16.np (c16.names.take c16.np) := bind0 rfl rfl fun _ _ _ _ _ _ us hl => match us, hl with | [_, _], _ => rfl
theorem b17 : BindT d17 c17.np (c17.names.take c17.np) := bind0 rfl rfl fun _ _ _ _ _ _ us hl => match us, hl with | [_, _], _ => rfl
theorem b18 : BindT d18 c18.np (c18.names.take c18.np) := bind0 rfl rfl fun _ _ _ _ _ _ us hl => match us, hl with | [_, _], _ => rfl
theorem b19 : BindT d19 c19.np (c19.names.take c19.np) := bind0 rfl rfl fun _ _ _ _ _ _ us hl => match us, hl with | [_], _ => rfl
theorem b20 : BindT d20 c20.np (c20.names.take c20.np) := bind0 rfl rfl fun _ _ _ _ _ _ us hl => match us, hl with | [_, _], _ => rfl
theorem b21 : BindT d21 c21.np (c21.names.take c21.np) := bind0 rfl rfl fun _ _ _ _ _ _ us hl => match us, hl with | [_], _ => rfl
theorem b22 : BindT d22 c22.np (c22.names.take c22.np) := bind0 rfl rfl fun _ _ _ _ _ _ us hl => match us, hl with | [_], _ => rfl
theorem b23 : BindT d23 c23.np (c23.names.take c23.np) := bind0 rfl rfl fun _ _ _ _ _ _ us hl => match us, hl with | [_], _ => rfl
theorem b24 : BindT d24 c24.np (c24.names.take c24.np) := bind0 rfl rfl fun _ _ _ _ _ _ us hl => match us, hl with | [_], _ => rfl
theorem b33 : BindT d33 c33.np (c33.names.take c33.np) := bind0 rfl rfl fun _ _ _ _ _ _ us hl => match us, hl with | [_, _], _ => rfl
theorem b34 : BindT d34 c34.np (c34.names.take c34.np) := bind0 rfl rfl fun _ _ _ _ _ _ us hl => match us, hl with | [_], _ => rfl
theorem b35 : BindT d35 c35.np (c35.names.take c35.np) := bind0 rfl rfl fun _ _ _ _ _ _ us hl => match us, hl with | [_, _], _ => rfl
theorem b36 : BindT d36 c36.np (c36.names.take c36.np) := bind0 rfl rfl fun _ _ _ _ _ _ us hl => match us, hl with | [_, _], _ => rfl
theorem b37 : BindT d37 c37.np (c37.names.take c37.np) := bind0 rfl rfl fun _ _ _ _ _ _ us hl => match us, hl with | [_], _ => rfl
theorem b38 : BindT d38 c38.np (c38.names.take c38.np) := bind0 rfl rfl fun _ _ _ _ _ _ us hl => match us, hl with | [_], _ => rfl
theorem b39 : BindT d39 c39.np (c39.names.take c39.np) := bind0 rfl rfl fun _ _ _ _ _ _ us hl => match us, hl with | [_], _ => rfl
theorem b40 : BindT d40 c40.np (c40.names.take c40.np) := bind0 rfl rfl fun _ _ _ _ _ _ us hl => match us, hl with | [_, _], _ => rfl
theorem b41 : BindT d41 c41.np (c41.names.take c41.np) := bind0 rfl rfl fun _ _ _ _ _ _ us hl => match us, hl with | [_, _], _ => rfl
theorem b42 : BindT d42 c42.np (c42.names.take c42.np) := bind0 rfl rfl fun _ _ _ _ _ _ us hl => match us, hl with | [_, _], _ => rfl
theorem b43 : BindT d43 c43.np (c43.names.take c43.np) := bind0 rfl rfl fun _ _ _ _ _ _ us hl => match us, hl with | [_, _], _ => rfl
theorem b44 : BindT d44 c44.np (c44.names.take c44.np) := bind0 rfl rfl fun _ _ _ _ _ _ us hl => match us, hl with | [_, _, _], _ => rfl
theorem b45 : BindT d45 c45.np (c45.names.take c45.np) := bind0 rfl rfl fun _ _ _ _ _ _ us hl => match us, hl with | [_], _ => rfl
theorem b46 : BindT d46 c46.np (c46.names.take c46.np) := bind0 rfl rfl fun _ _ _ _ _ _ us hl => match us, hl with | [_, _], _ => rfl
theorem b52 : BindT d52 c52.np (c52.names.take c52.np) := bind0 rfl rfl fun _ _ _ _ _ _ us hl => match us, hl with | [_, _], _ => rfl
theorem b53 : BindT d53 c53.np (c53.names.take c53.np) := bind0 rfl rfl fun _ _ _ _ _ _ us hl => match us, hl with | [_, _], _ => rfl
theorem b54 : BindT d54 c54.np (c54.names.take c54.np) := bind0 rfl rfl fun _ _ _ _ _ _ us hl => match us, hl with | [_, _], _ => rfl
theorem b55 : BindT d55 c55.np (c55.names.take c55.np) := bind0 rfl rfl fun _ _ _ _ _ _ us hl => match us, hl with | [_, _], _ => rfl
theorem b56 : BindT d56 c56.np (c56.names.take c56.np) := bind0 rfl rfl fun _ _ _ _ _ _ us hl => match us, hl with | [_, _], _ => rfl
theorem b57 : BindT d57 c57.np (c57.names.take c57.np) := bind0 rfl rfl fun _ _ _ _ _ _ us hl => match us, hl with | [_], _ => rfl
theorem b58 : BindT d58 c58.np (c58.names.take c58.np) := bind0 rfl rfl fun _ _ _ _ _ _ us hl => match us, hl with | [_, _, _], _ => rfl
theorem b59 : BindT d59 c59.np (c59.names.take c59.np) := bind0 rfl rfl fun _ _ _ _ _ _ us hl => match us, hl with | [_, _], _ => rfl
theorem b60 : BindT d60 c60.np (c60.names.take c60.np) := bind0 rfl rfl fun _ _ _ _ _ _ us hl => match us, hl with | [_, _], _ => rfl
theorem b61 : BindT d61 c61.np (c61.names.take c61.np) := bind0 rfl rfl fun _ _ _ _ _ _ us hl => match us, hl with | [_], _ => rfl
theorem b62 : BindT d62 c62.np (c62.names.take c62.np) := bind0 rfl rfl fun _ _ _ _ _ _ us hl => match us, hl with | [_, _], _ => rfl
theorem b63 : BindT d63 c63.np (c63.names.take c63.np) := bind0 rfl rfl fun _ _ _ _ _ _ us hl => match us, hl with | [_, _], _ => rfl
theorem b64 : BindT d64 c64.np (c64.names.take c64.np) := bind0 rfl rfl fun _ _ _ _ _ _ us hl => match us, hl with | [_, _], _ => rfl
theorem b65 : BindT d65 c65.np (c65.names.take c65.np) := bind0 rfl rfl fun _ _ _ _ _ _ us hl => match us, hl with | [_, _], _ => rfl
theorem b66 : BindT d66 c66.np (c66.names.take c66.np) := bind0 rfl rfl fun _ _ _ _ _ _ us hl => match us, hl with | [_], _ => rfl
theorem b67 : BindT d67 c67.np (c67.names.take c67.np) := bind0 rfl rfl fun _ _ _ _ _ _ us hl => match us, hl with | [_, _], _ => rfl
theorem b68 : BindT d68 c68.np (c68.names.take c68.np) := bind0 rfl rfl fun _ _ _ _ _ _ us hl => match us, hl with | [_, _], _ => rfl
theorem b69 : BindT d69 c69.np (c69.names.take c69.np) := bind0 rfl rfl fun _ _ _ _ _ _ us hl => match us, hl with | [_, _], _ => rfl
theorem b70 : BindT d70 c70.np (c70.names.take c70.np) := bind0 rfl rfl fun _ _ _ _ _ _ us hl => match us, hl with | [_], _ => rfl
theorem b71 : BindT d71 c71.np (c71.names.take c71.np) := bind0 rfl rfl fun _ _ _ _ _ _ us hl => match us, hl with | [_, _, _], _ => rfl
theorem b72 : BindT d72 c72.np (c72.names.take c72.np) := bind0 rfl rfl fun _ _ _ _ _ _ us hl => match us, hl with | [_, _, _], _ => rfl
theorem b73 : BindT d73 c73.np (c73.names.take c73.np) := bind0 rfl rfl fun _ _ _ _ _ _ us hl => match us, hl with | [_, _], _ => rfl
theorem b74 : BindT d74 c74.np (c74.names.take c74.np) := bind0 rfl rfl fun _ _ _ _ _ _ us hl => match us, hl with | [_, _], _ => rfl
theorem b75 : BindT d75 c75.np (c75.names.take c75.np) := bind0 rfl rfl fun _ _ _ _ _ _ us hl => match us, hl with | [_, _], _ => rfl
theorem b76 : BindT d76 c76.np (c76.names.take c76.np) := bind0 rfl rfl fun _ _ _ _ _ _ us hl => match us, hl with | [_], _ => rfl
theorem b77 : BindT d77 c77.np (c77.names.take c77.np) := bind0 rfl rfl fun _ _ _ _ _ _ us hl => match us, hl with | [_, _], _ => rfl
theorem b78 : BindT d78 c78.np (c78.names.take c78.np) := bind0 rfl rfl fun _ _ _ _ _ _ us hl => match us, hl with | [_], _ => rfl
theorem b79 : BindT d79 c79.np (c79.names.take c79.np) := bind0 rfl rfl fun _ _ _ _ _ _ us hl => match us, hl with | [_], _ => rfl
theorem b80 : BindT d80 c80.np (c80.names.take c80.np) := bind0 rfl rfl fun _ _ _ _ _ _ us hl => match us, hl with | [_, _, _], _ => rfl
theorem b81 : BindT d81 c81.np (c81.names.take c81.np) := bind0 rfl rfl fun _ _ _ _ _ _ us hl => match us, hl with | [_, _], _ => rfl
theorem b82 : BindT d82 c82.np (c82.names.take c82.np) := bind0 rfl rfl fun _ _ _ _ _ _ us hl => match us, hl with | [_, _], _ => rfl
theorem b83 : BindT d83 c83.np (c83.names.take c83.np) := bind0 rfl rfl fun _ _ _ _ _ _ us hl => match us, hl with | [_], _ => rfl
theorem binds : AllBind prog.fns fn := .cons b0 (.cons b1 (.cons b2 (.cons b3 (.cons b4 (.cons b5 (.cons b6 (.cons b7 (.cons b8 (.cons b9 (.cons b10 (.cons b11 (.cons b12 (.cons b13 (.cons b14 (.cons b15 (.cons b16 (.cons b17 (.cons b18 (.cons b19 (.cons b20 (.cons b21 (.cons b22 (.cons b23 (.cons b24 (.cons b0 (.cons b0 (.cons b0 (.cons b0 (.cons b0 (.cons b0 (.cons b0 (.cons b0 (.cons b33 (.cons b34 (.cons b35 (.cons b36 (.cons b37 (.cons b38 (.cons b39 (.cons b40 (.cons b41 (.cons b42 (.cons b43 (.cons b44 (.cons b45 (.cons b46 (.cons b0 (.cons b0 (.cons b0 (.cons b0 (.cons b0 (.cons b52 (.cons b53 (.cons b54 (.cons b55 (.cons b56 (.cons b57 (.cons b58 (.cons b59 (.cons b60 (.cons b61 (.cons b62 (.cons b63 (.cons b64 (.cons b65 (.cons b66 (.cons b67 (.cons b68 (.cons b69 (.cons b70 (.cons b71 (.cons b72 (.cons b73 (.cons b74 (.cons b75 (.cons b76 (.cons b77 (.cons b78 (.cons b79 (.cons b80 (.cons b81 (.cons b82 (.cons b83 (AllBind.nil))))))))))))))))))))))))))))))))))))))))))))))))))))))))))))))))))))))))))))))))))))
end TD

set_option Elab.async false
set_option linter.all false
set_option maxRecDepth 100000
set_option maxHeartbeats 0
namespace TD
open PySem PySem.Spec PyProof.Rows L2 PySem.W PySem.Calls HandSHeadRun
theorem head_1 (w : World) : ∀ os : OsState, (endF (stepQ (denQ tabQ) R.prog w) 30000 R.prog w os).map (fun s => (looksF R.prog (boot_heap w.params) s.abs, seenQ (PySem.W.view R.prog [82]) loose (importedModules R.prog.main.body) (fun s => xlAt (PySem.W.view R.prog [82]) [] s && recOk R.toRowW.records s) s.abs)) = some (true, openGood (PySem.W.view R.prog [82]) loose) := by
  intro os
  kernel_rfl
theorem head_2 (w : World) : ∀ os : OsState, (endF (stepQ (denQ tabQ) R.prog w) 30000 R.prog w os).map ob = some (hk.val w) := by
  intro os
  kernel_rfl
theorem head_run (w : World) : RunEq R (PySem.W.view R.prog [82]) hk ob 30000 loose w := run_two (head_1 w) (head_2 w)
end TD

set_option Elab.async false
set_option linter.all false
set_option autoImplicit false
set_option maxRecDepth 10000
/-! TL: lots of places. -/
namespace TD
def combos : Nat → List Nat → List (List Nat)
  | 0, _ => [[]]
  | _ + 1, [] => []
  | k + 1, x :: xs => (combos k xs).map (x :: ·) ++ combos (k + 1) xs
def lotsL (m : Nat) : List (List Nat) := (List.range (m + 1)).flatMap fun k => combos k (List.range m)
theorem mem_combos : ∀ {xs l : List Nat}, l.Sublist xs → l ∈ combos l.length xs := by
  intro xs l h
  induction h with
  | slnil => simp [combos]
  | cons x h ih =>
    rename_i l1 l2
    cases l1 with
    | nil => simp [combos]
    | cons y l1 =>
      rw [List.length_cons, combos]
      exact List.mem_append_right _ ih
  | cons_cons x h ih =>
    rw [List.length_cons, combos]
    exact List.mem_append_left _ (List.mem_map_of_mem ih)
theorem combos_sub : ∀ {k : Nat} {xs l : List Nat}, l ∈ combos k xs → l.Sublist xs ∧ l.length = k := by
  intro k xs
  induction xs generalizing k with
  | nil =>
    intro l h
    cases k with
    | zero => simp [combos] at h; subst h; exact ⟨.slnil, rfl⟩
    | succ k => simp [combos] at h
  | cons x xs ih =>
    intro l h
    cases k with
    | zero => simp [combos] at h; subst h; exact ⟨List.nil_sublist _, rfl⟩
    | succ k =>
      simp only [combos, List.mem_append, List.mem_map] at h
      rcases h with ⟨t, ht, rfl⟩ | h
      · obtain ⟨h1, h2⟩ := ih ht
        exact ⟨h1.cons_cons x, by simp [h2]⟩
      · obtain ⟨h1, h2⟩ := ih h
        exact ⟨h1.cons x, h2⟩
theorem mem_lots {m : Nat} {l : List Nat} : l ∈ lotsL m ↔ l.Sublist (List.range m) := by
  unfold lotsL
  rw [List.mem_flatMap]
  constructor
  · rintro ⟨k, _, h⟩; exact (combos_sub h).1
  · intro h
    have := h.length_le
    rw [List.length_range] at this
    exact ⟨l.length, List.mem_range.mpr (by omega), mem_combos h⟩
theorem lots_len {m : Nat} {l : List Nat} (h : l ∈ lotsL m) : l.length ≤ m := by
  have := (mem_lots.mp h).length_le
  simpa using this
/-- ascending numbers are a part of all numbers -/
theorem asc_sub {l : List Nat} {m : Nat} (h : l.Pairwise (· < ·)) (hm : ∀ x ∈ l, x < m) : l.Sublist (List.range m) := by
  have e : l = (List.range m).filter fun x => decide (x ∈ l) := by
    have p1 : ((List.range m).filter fun x => decide (x ∈ l)).Pairwise (· < ·) := (List.pairwise_lt_range).sublist List.filter_sublist
    have nd : ∀ {l : List Nat}, l.Pairwise (· < ·) → l.Nodup := fun h => h.imp fun h => Nat.ne_of_lt h
    have pm : List.Perm l ((List.range m).filter fun x => decide (x ∈ l)) := (List.perm_ext_iff_of_nodup (nd h) (nd p1)).mpr fun x => by
      simp only [List.mem_filter, List.mem_range, decide_eq_true_eq]
      exact ⟨fun z => ⟨hm x z, z⟩, fun z => z.2⟩
    exact List.Perm.eq_of_pairwise (le := (· < ·)) (fun a b _ _ h1 h2 => absurd h1 (by omega)) h p1 pm
  rw [e]
  exact List.filter_sublist
end TD

set_option Elab.async false
set_option linter.all false
set_option maxRecDepth 100000
set_option maxHeartbeats 2000000
set_option autoImplicit false
/-! TG: what the interpreter does, for the plain laws. -/
namespace TD
open PySem
open L2 (V)
section
variable {P : Prog} {W : Nat}
/-- a def that keeps nothing, asked of trees: the store does not matter -/
theorem callF_pure {n b f : Nat} {as : List D} {S : Store} {fd : FnI} {d : D} (hf : P.fns[f]? = some fd) (hk : fd.keep = false) (hp : as.all D.pure = true) (e : callF P W n 0 f as [] = .ok d []) : callF P W n b f as S = .ok d S := by
  cases n with
  | zero => simp only [callF] at e; cases e
  | succ n =>
    simp only [callF, hf, run] at e ⊢
    split at e
    · rename_i hl
      rw [if_pos hl]
      simp only [hk, Bool.not_false, hp, Bool.and_self, if_true] at e ⊢
      split at e
      · rename_i d0 S1 q
        obtain ⟨e1, _⟩ := Res.of_eq_ok e
        rw [e1]; rfl
      · cases e; rfl
      · cases e
    · cases e
/-- nothing is locked -/
theorem within_nil {α : Type} {S : Store} {f : Store → Res α} : within S [] f = f S := by
  unfold within
  simp only [lockS, openS]
  cases f S <;> rfl
/-- a comprehension whose turns leave the store -/
theorem compL_pure {f : D → Store → Res (List D)} {g : D → List D} {S : Store} : ∀ {items : List D}, (∀ x ∈ items, f x S = .ok (g x) S) → compL f items S = .ok (items.flatMap g) S
  | [], _ => rfl
  | x :: xs, h => by
    simp only [compL, h x List.mem_cons_self, Res.bind_ok, compL_pure fun y hy => h y (List.mem_cons_of_mem _ hy), List.flatMap_cons]
/-- a loop whose turns leave the store and go on -/
theorem forL_pure {f : D → Sl → Store → Res Fl} {g : D → Sl → Sl} {S : Store} : ∀ {items : List D} {σ : Sl}, (∀ x ∈ items, ∀ σ, f x σ S = .ok (.nx (g x σ)) S) → forL f items σ S = .ok (.nx (items.foldl (fun σ x => g x σ) σ)) S
  | [], σ, _ => rfl
  | x :: xs, σ, h => by
    simp only [forL, h x List.mem_cons_self σ, Res.bind_ok, List.foldl_cons]
    exact forL_pure fun y hy => h y (List.mem_cons_of_mem _ hy)
end
/-! ### tuples of texts -/
def cellD (c : List Str) : D := .tup (c.map .str)
theorem cell_dat (c : List Str) : (cellD c).dat = some (.tuple (c.map .str)) := by
  have : ∀ c : List Str, D.datL (c.map .str) = some (c.map .str) := fun c => by
    induction c with
    | nil => rfl
    | cons x xs ih => simp [D.datL, D.dat, ih]
  simp [cellD, D.dat, this]
theorem cells_dat (cs : List (List Str)) : D.datL (cs.map cellD) = some (cs.map fun c => .tuple (c.map .str)) := by
  induction cs with
  | nil => rfl
  | cons x xs ih => simp only [List.map_cons, D.datL, cell_dat, ih]
theorem cell_pure (c : List Str) : (cellD c).pure = true := by
  unfold cellD D.pure
  simp only [D.lo]
  rw [loL_iff]
  intro x hx
  obtain ⟨s, _, rfl⟩ := List.mem_map.mp hx
  rfl
/-- texts that data may hold -/
def okC (c : List Str) : Bool := c.all fun x => PyData.canLay0 (.str x)
theorem cell_shp {c : List Str} (h : okC c = true) : shp (.tuple (c.map .str)) = true := by
  have h1 : ∀ c : List Str, okC c = true → PyData.canLayAll0 (c.map .str) = true := fun c => by
    induction c with
    | nil => intro _; simp [PyData.canLayAll0]
    | cons x xs ih =>
      intro h
      simp only [okC, List.all_cons, Bool.and_eq_true] at h
      simp only [List.map_cons, PyData.canLayAll0, Bool.and_eq_true]
      exact ⟨h.1, ih h.2⟩
  have h2 : ∀ c : List Str, PyData.depthAll (c.map .str) = 0 := fun c => by
    induction c with
    | nil => simp [PyData.depthAll]
    | cons x xs ih => simp [PyData.depthAll, PyData.depth, ih]
  unfold shp SeqAt.shaped
  simp [PyData.canLay0, h1 c h, PyData.depth, h2]
theorem strs_eqv : ∀ (c d : List Str), PyData.eqvAll (c.map .str) (d.map .str) = decide (c = d)
  | [], [] => rfl
  | [], _ :: _ => by simp [PyData.eqvAll]
  | _ :: _, [] => by simp [PyData.eqvAll]
  | x :: xs, y :: ys => by
    simp only [List.map_cons, PyData.eqvAll, PyData.eqv, strs_eqv xs ys]
    by_cases h : x = y
    · subst h; simp
    · have : (x == y) = false := beq_eq_false_iff_ne.mpr h
      simp [this, h]
theorem cell_eqv (c d : List Str) : PyData.eqv (.tuple (c.map .str)) (.tuple (d.map .str)) = decide (c = d) := by
  simp only [PyData.eqv, strs_eqv]
theorem cells_shp {cs : List (List Str)} (h : cs.all okC = true) : (cs.map fun c => PyData.tuple (c.map .str)).all shp = true := by
  simp only [List.all_map, List.all_eq_true] at h ⊢
  exact fun c hc => cell_shp (h c hc)
theorem any_cells (cs : List (List Str)) (c : List Str) : ((cs.map fun c => PyData.tuple (c.map .str)).any fun z => PyData.eqv z (.tuple (c.map .str))) = decide (c ∈ cs) := by
  induction cs with
  | nil => simp
  | cons x xs ih =>
    simp only [List.map_cons, List.any_cons, ih, cell_eqv]
    by_cases h : x = c
    · subst h; simp
    · have : ¬ c = x := fun z => h z.symm
      simp [h, this]
theorem in_tup {S : Store} {c : List Str} {cs : List (List Str)} (hc : okC c = true) (h : cs.all okC = true) : inD S (cellD c) (.tup (cs.map cellD)) = some (decide (c ∈ cs)) := by
  have e1 : datS S (cellD c) = some (.tuple (c.map .str)) := cell_dat c
  simp only [inD, seqA, e1, cells_dat]
  rw [if_pos ⟨cell_shp hc, cells_shp h⟩, any_cells]
theorem in_lst {S : Store} {c : List Str} {cs : List (List Str)} (hc : okC c = true) (h : cs.all okC = true) : inD S (cellD c) (.lst (cs.map cellD)) = some (decide (c ∈ cs)) := by
  have e1 : datS S (cellD c) = some (.tuple (c.map .str)) := cell_dat c
  simp only [inD, seqA, seqL, e1, cells_dat]
  rw [if_pos ⟨cell_shp hc, cells_shp h⟩, any_cells]
theorem pure_cells (cs : List (List Str)) : D.loL 0 (cs.map cellD) = true := by
  rw [loL_iff]
  intro x hx
  obtain ⟨c, _, rfl⟩ := List.mem_map.mp hx
  exact cell_pure c
end TD

set_option Elab.async false
set_option linter.all false
set_option maxRecDepth 100000
set_option maxHeartbeats 2000000
set_option autoImplicit false
/-! TH: a def's call, unfolded once. -/
namespace TD
open PySem
open L2 (V)
def fin (P : Prog) (S : Store) : Res Fl → Res D
  | .ok (.rt d) S1 => Res.of (frz P S1 0 64 d) S
  | .ok (.nx _) _ => .ok .non S
  | _ => .bad
def finL (P : Prog) (kp : Bool) (S : Store) : Res Fl → Res D
  | .ok (.rt d) S1 => leave P kp S.length d S1
  | .ok (.nx _) S1 => leave P kp S.length .non S1
  | _ => .bad
section
variable {P : Prog} {W : Nat}
theorem callF_def {n b f : Nat} {as : List D} {S : Store} {fd : FnI} (hf : P.fns[f]? = some fd) (hk : fd.keep = false) (hn : as.length = fd.np) (hp : D.loL 0 as = true) : callF P W (n + 1) b f as S = fin P S (exec ⟨callF P W n, P, 0, W⟩ fd.body (start fd as) []) := by
  have hp' : as.all D.pure = true := by rw [List.all_eq_true]; exact loL_iff.mp hp
  simp only [callF, hf, run, hn, if_true, hk, Bool.not_false, hp', Bool.and_self]
  generalize exec _ fd.body _ _ = r
  cases r with
  | ok a S1 => cases a <;> rfl
  | exc => rfl
  | bad => rfl
/-- a call that looks at the store -/
theorem callF_st {n b f : Nat} {as : List D} {S : Store} {fd : FnI} (hf : P.fns[f]? = some fd) (hn : as.length = fd.np) (hp : (!fd.keep && as.all D.pure) = false) : callF P W (n + 1) b f as S = finL P fd.keep S (exec ⟨callF P W n, P, if fd.keep then b else S.length, W⟩ fd.body (start fd as) S) := by
  simp only [callF, hf, run, hn, if_true, hp]
  generalize exec _ fd.body _ _ = r
  cases r with
  | ok a S1 => cases a <;> rfl
  | exc => rfl
  | bad => rfl
theorem frz_pure {S : Store} {d : D} (h : d.lo 0 = true) : frz P S 0 64 d = some d := by
  unfold frz; rw [if_pos h]
theorem frz_lo {S : Store} {b : Nat} {d : D} (h : d.lo b = true) : frz P S b 64 d = some d := by
  unfold frz; rw [if_pos h]
end
end TD

set_option Elab.async false
set_option linter.all false
set_option maxRecDepth 100000
set_option maxHeartbeats 2000000
set_option autoImplicit false
/-! TI: loops and lists, for the plain laws. -/
namespace TD
open PySem
open L2 (V)
@[simp] theorem lo_bl {k : Nat} {b : Bool} : (D.bl b).lo k = true := rfl
@[simp] theorem lo_int {k : Nat} {b : Int} : (D.int b).lo k = true := rfl
@[simp] theorem lo_str {k : Nat} {b : Str} : (D.str b).lo k = true := rfl
@[simp] theorem lo_non {k : Nat} : (D.non).lo k = true := rfl
@[simp] theorem frz_bl {P : Prog} {S : Store} {k : Nat} {b : Bool} : frz P S k 64 (.bl b) = some (.bl b) := frz_lo rfl
@[simp] theorem frz_int {P : Prog} {S : Store} {k : Nat} {b : Int} : frz P S k 64 (.int b) = some (.int b) := frz_lo rfl
@[simp] theorem frz_non {P : Prog} {S : Store} {k : Nat} : frz P S k 64 .non = some .non := frz_lo rfl
theorem isB_o {α : Type} (b : Bool) (S : Store) (f : Bool → Store → Res α) : isB (.ok (.bl b) S) f = f b S := id rfl
@[simp] theorem bind_o {α β : Type} (a : α) (S : Store) (f : α → Store → Res β) : (Res.ok a S).bind f = f a S := id rfl
section
variable {ι : Type}
/-- a loop whose turns go on -/
theorem forL_fold {st : Type} {f : D → Sl → Store → Res Fl} {e : ι → D} (I : st → Sl → Store → Prop) (step : st → ι → st) : ∀ (l : List ι), (∀ i ∈ l, ∀ s σ S, I s σ S → ∃ σ' S', f (e i) σ S = .ok (.nx σ') S' ∧ I (step s i) σ' S') → ∀ s σ S, I s σ S → ∃ σ' S', forL f (l.map e) σ S = .ok (.nx σ') S' ∧ I (l.foldl step s) σ' S'
  | [], _, s, σ, S, h => ⟨σ, S, rfl, h⟩
  | i :: l, H, s, σ, S, h => by
    obtain ⟨σ1, S1, e1, h1⟩ := H i List.mem_cons_self s σ S h
    obtain ⟨σ2, S2, e2, h2⟩ := forL_fold I step l (fun j hj => H j (List.mem_cons_of_mem _ hj)) _ σ1 S1 h1
    exact ⟨σ2, S2, by simp only [List.map_cons, forL, e1, bind_o, e2], h2⟩
theorem forL_inv {f : D → Sl → Store → Res Fl} {e : ι → D} (I : Sl → Store → Prop) (l : List ι) (H : ∀ i ∈ l, ∀ σ S, I σ S → ∃ σ' S', f (e i) σ S = .ok (.nx σ') S' ∧ I σ' S') {σ : Sl} {S : Store} (h : I σ S) : ∃ σ' S', forL f (l.map e) σ S = .ok (.nx σ') S' ∧ I σ' S' := by
  obtain ⟨σ', S', e1, h1⟩ := forL_fold (st := Unit) (e := e) (fun _ => I) (fun s _ => s) l (fun i hi _ σ S h => H i hi σ S h) () σ S h
  exact ⟨σ', S', e1, h1⟩
/-- a loop that goes on while p, and else returns d; the store stays -/
theorem forL_all {f : D → Sl → Store → Res Fl} {e : ι → D} (I : Sl → Prop) (p : ι → Bool) (d : D) {S : Store} : ∀ (l : List ι), (∀ i ∈ l, ∀ σ, I σ → if p i = true then ∃ σ', f (e i) σ S = .ok (.nx σ') S ∧ I σ' else f (e i) σ S = .ok (.rt d) S) → ∀ σ, I σ → if l.all p = true then ∃ σ', forL f (l.map e) σ S = .ok (.nx σ') S ∧ I σ' else forL f (l.map e) σ S = .ok (.rt d) S
  | [], _, σ, h => by simp only [List.all_nil, if_true]; exact ⟨σ, rfl, h⟩
  | i :: l, H, σ, h => by
    have q := H i List.mem_cons_self σ h
    by_cases hp : p i = true
    · rw [if_pos hp] at q
      obtain ⟨σ1, e1, h1⟩ := q
      have r := forL_all I p d l (fun j hj => H j (List.mem_cons_of_mem _ hj)) σ1 h1
      simp only [List.all_cons, hp, Bool.true_and, List.map_cons, forL, e1, bind_o]
      exact r
    · rw [if_neg hp] at q
      have hp' : p i = false := by simpa using hp
      simp only [List.all_cons, hp', Bool.false_and, List.map_cons, forL, q, bind_o]
      rw [if_neg Bool.false_ne_true]; trivial
theorem forL_all_e {f : D → Sl → Store → Res Fl} {items : List D} {σ : Sl} {S : Store} {r : Res Fl} (hr : forL f items σ S = r) {e : ι → D} {l : List ι} (hi : items = l.map e) (I : Sl → Prop) (p : ι → Bool) (d : D) (H : ∀ i ∈ l, ∀ σ, I σ → if p i = true then ∃ σ', f (e i) σ S = .ok (.nx σ') S ∧ I σ' else f (e i) σ S = .ok (.rt d) S) (h : I σ) : (l.all p = true ∧ ∃ σ', r = .ok (.nx σ') S ∧ I σ') ∨ (l.all p = false ∧ r = .ok (.rt d) S) := by
  have q := forL_all I p d l H σ h
  rw [← hi, hr] at q
  cases z : l.all p
  · rw [z, if_neg Bool.false_ne_true] at q; exact .inr ⟨rfl, q⟩
  · rw [z, if_pos rfl] at q; exact .inl ⟨rfl, q⟩
theorem forL_fold_e {st : Type} {f : D → Sl → Store → Res Fl} {items : List D} {σ : Sl} {S : Store} {r : Res Fl} (hr : forL f items σ S = r) {e : ι → D} {l : List ι} (hi : items = l.map e) (I : st → Sl → Store → Prop) (step : st → ι → st) (s : st) (H : ∀ i ∈ l, ∀ s σ S, I s σ S → ∃ σ' S', f (e i) σ S = .ok (.nx σ') S' ∧ I (step s i) σ' S') (h : I s σ S) : ∃ σ' S', r = .ok (.nx σ') S' ∧ I (l.foldl step s) σ' S' := by
  obtain ⟨σ', S', e1, h1⟩ := forL_fold I step l H s σ S h
  rw [← hi, hr] at e1
  exact ⟨σ', S', e1, h1⟩
/-- a loop that returns at the first that p lets -/
theorem forL_find {f : D → Sl → Store → Res Fl} {e : ι → D} (I : Sl → Prop) (p : ι → Bool) (r : ι → D) {S : Store} : ∀ (l : List ι), (∀ i ∈ l, ∀ σ, I σ → if p i = true then f (e i) σ S = .ok (.rt (r i)) S else ∃ σ', f (e i) σ S = .ok (.nx σ') S ∧ I σ') → ∀ σ, I σ → (∃ i, l.find? p = some i ∧ forL f (l.map e) σ S = .ok (.rt (r i)) S) ∨ (l.find? p = none ∧ ∃ σ', forL f (l.map e) σ S = .ok (.nx σ') S ∧ I σ')
  | [], _, σ, h => .inr ⟨rfl, σ, rfl, h⟩
  | i :: l, H, σ, h => by
    have q := H i List.mem_cons_self σ h
    by_cases hp : p i = true
    · rw [if_pos hp] at q
      exact .inl ⟨i, by rw [List.find?_cons_of_pos hp], by simp only [List.map_cons, forL, q, bind_o]⟩
    · rw [if_neg hp] at q
      obtain ⟨σ1, e1, h1⟩ := q
      have rr := forL_find I p r l (fun j hj => H j (List.mem_cons_of_mem _ hj)) σ1 h1
      rw [List.find?_cons_of_neg hp]
      simp only [List.map_cons, forL, e1, bind_o]
      exact rr
theorem compL_map {f : D → Store → Res (List D)} {e v : ι → D} {p : ι → Bool} {S : Store} : ∀ (l : List ι), (∀ i ∈ l, f (e i) S = .ok (if p i then [v i] else []) S) → compL f (l.map e) S = .ok ((l.filter p).map v) S
  | [], _ => rfl
  | i :: l, H => by
    simp only [List.map_cons, compL, H i List.mem_cons_self, bind_o, compL_map l fun j hj => H j (List.mem_cons_of_mem _ hj), List.filter_cons]
    cases p i <;> rfl
theorem compL_map1 {f : D → Store → Res (List D)} {e v : ι → D} {S : Store} (l : List ι) (H : ∀ i ∈ l, f (e i) S = .ok [v i] S) : compL f (l.map e) S = .ok (l.map v) S := by
  have := compL_map (f := f) (e := e) (v := v) (p := fun _ => true) l (by simpa using H)
  rw [List.filter_eq_self.mpr (fun _ _ => rfl)] at this
  exact this
/-- a comprehension that moves the store's first cell -/
theorem compL_st {st : Type} {f : D → Store → Res (List D)} {e : ι → D} (I : st → Store → Prop) (r : st → ι → List D × st) : ∀ (l : List ι), (∀ i ∈ l, ∀ s S, I s S → ∃ S', f (e i) S = .ok (r s i).1 S' ∧ I (r s i).2 S') → ∀ s S, I s S → ∃ ys s' S', compL f (l.map e) S = .ok ys S' ∧ I s' S' ∧ (∀ y ∈ ys, ∃ i ∈ l, ∃ s, y ∈ (r s i).1)
  | [], _, s, S, h => ⟨[], s, S, rfl, h, by simp⟩
  | i :: l, H, s, S, h => by
    obtain ⟨S1, e1, h1⟩ := H i List.mem_cons_self s S h
    obtain ⟨ys, s2, S2, e2, h2, h3⟩ := compL_st I r l (fun j hj => H j (List.mem_cons_of_mem _ hj)) _ S1 h1
    refine ⟨(r s i).1 ++ ys, s2, S2, by simp only [List.map_cons, compL, e1, bind_o, e2], h2, fun y hy => ?_⟩
    rcases List.mem_append.mp hy with hy | hy
    · exact ⟨i, List.mem_cons_self, s, hy⟩
    · obtain ⟨j, hj, t, ht⟩ := h3 y hy
      exact ⟨j, List.mem_cons_of_mem _ hj, t, ht⟩
/-- a while loop, by a measure -/
theorem whileL_inv {st : Type} {c : Sl → Store → Res Bool} {f : Sl → Store → Res Fl} (I : st → Sl → Store → Prop) (Q : Sl → Store → Prop) (m : st → Nat)
    (H : ∀ s σ S, I s σ S → (c σ S = .ok false S ∧ Q σ S) ∨ (c σ S = .ok true S ∧ ∃ s' σ' S', f σ S = .ok (.nx σ') S' ∧ I s' σ' S' ∧ m s' < m s)) :
    ∀ (n : Nat) s σ S, I s σ S → m s < n → ∃ σ' S', whileL c f n σ S = .ok (.nx σ') S' ∧ Q σ' S'
  | 0, s, σ, S, _, hn => absurd hn (Nat.not_lt_zero _)
  | n + 1, s, σ, S, h, hn => by
    rcases H s σ S h with ⟨e, q⟩ | ⟨e, s', σ', S', e1, h1, hm⟩
    · exact ⟨σ, S, by simp only [whileL, e, bind_o]; rfl, q⟩
    · obtain ⟨σ2, S2, e2, q⟩ := whileL_inv I Q m H n s' σ' S' h1 (by omega)
      exact ⟨σ2, S2, by simp only [whileL, e, bind_o, if_true, e1, e2], q⟩
end
/-! ### ints -/
abbrev di : Int → D := D.int
theorem ints_dat (is : List Int) : D.datL (is.map D.int) = some (is.map PyData.int) := by
  induction is with
  | nil => rfl
  | cons x xs ih => simp only [List.map_cons, D.datL, D.dat, ih]
theorem ints_shpT (is : List Int) : shp (.tuple (is.map PyData.int)) = true := by
  have h1 : ∀ is : List Int, PyData.canLayAll0 (is.map .int) = true := fun is => by
    induction is with
    | nil => simp [PyData.canLayAll0]
    | cons x xs ih => simp only [List.map_cons, PyData.canLayAll0, ih, PyData.canLay0, Bool.and_self]
  have h2 : ∀ is : List Int, PyData.depthAll (is.map .int) = 0 := fun is => by
    induction is with
    | nil => simp [PyData.depthAll]
    | cons x xs ih => simp [PyData.depthAll, PyData.depth, ih]
  unfold shp SeqAt.shaped
  simp [PyData.canLay0, h1, PyData.depth, h2]
theorem ints_shpL (is : List Int) : shp (.list (is.map PyData.int)) = true := by
  have h1 : ∀ is : List Int, PyData.canLayAll0 (is.map .int) = true := fun is => by
    induction is with
    | nil => simp [PyData.canLayAll0]
    | cons x xs ih => simp only [List.map_cons, PyData.canLayAll0, ih, PyData.canLay0, Bool.and_self]
  have h2 : ∀ is : List Int, PyData.depthAll (is.map .int) = 0 := fun is => by
    induction is with
    | nil => simp [PyData.depthAll]
    | cons x xs ih => simp [PyData.depthAll, PyData.depth, ih]
  unfold shp SeqAt.shaped
  simp [PyData.canLay0, h1, PyData.depth, h2]
theorem ints_eqv : ∀ (c d : List Int), PyData.eqvAll (c.map .int) (d.map .int) = decide (c = d)
  | [], [] => rfl
  | [], _ :: _ => by simp [PyData.eqvAll]
  | _ :: _, [] => by simp [PyData.eqvAll]
  | x :: xs, y :: ys => by
    simp only [List.map_cons, PyData.eqvAll, ints_eqv xs ys]
    by_cases h : x = y
    · subst h; simp [PyData.eqv]
    · simp [PyData.eqv, h]
theorem eqD_lst {S : Store} (c d : List Int) : eqD S (.lst (c.map .int)) (.lst (d.map .int)) = some (decide (c = d)) := by
  have e1 : ∀ c : List Int, datS S (.lst (c.map .int)) = some (.list (c.map .int)) := fun c => by simp [datS, view, D.dat, ints_dat]
  simp only [eqD, e1, ints_shpL, and_self, if_true, PyData.eqv, ints_eqv]
theorem eqD_int {S : Store} (i j : Int) : eqD S (.int i) (.int j) = some (decide (i = j)) := by
  simp [eqD, datS, view, D.dat, shp, SeqAt.shaped, PyData.canLay0, PyData.depth, PyData.eqv]
  rw [Bool.eq_iff_iff]; simp
theorem eqD_bl {S : Store} (i j : Bool) : eqD S (.bl i) (.bl j) = some (decide (i = j)) := by
  cases i <;> cases j <;> simp [eqD, datS, view, D.dat, shp, SeqAt.shaped, PyData.canLay0, PyData.depth, PyData.eqv]
theorem eqD_cells {S : Store} {c d : List (List Str)} (hc : c.all okC = true) (hd : d.all okC = true) : eqD S (.tup (c.map cellD)) (.tup (d.map cellD)) = some (decide (c = d)) := by
  have e1 : ∀ c : List (List Str), datS S (.tup (c.map cellD)) = some (.tuple (c.map fun c => .tuple (c.map .str))) := fun c => by simp [datS, view, D.dat, cells_dat]
  have h1 : ∀ c : List (List Str), c.all okC = true → shp (.tuple (c.map fun c => .tuple (c.map .str))) = true := fun c hc => by
    have hx : ∀ c : List (List Str), c.all okC = true → PyData.canLayAll0 (c.map fun c => PyData.tuple (c.map .str)) = true := fun c => by
      induction c with
      | nil => intro _; simp [PyData.canLayAll0]
      | cons x xs ih =>
        intro h
        simp only [List.all_cons, Bool.and_eq_true] at h
        have := cell_shp h.1
        unfold shp SeqAt.shaped at this
        simp only [Bool.and_eq_true] at this
        simp only [List.map_cons, PyData.canLayAll0, ih h.2, Bool.and_true]
        exact this.1
    have h2 : ∀ c : List Str, PyData.depthAll (c.map .str) = 0 := fun c => by
      induction c with
      | nil => simp [PyData.depthAll]
      | cons x xs ih => simp [PyData.depthAll, PyData.depth, ih]
    have hy : ∀ c : List (List Str), PyData.depthAll (c.map fun c => PyData.tuple (c.map .str)) ≤ 1 := fun c => by
      induction c with
      | nil => simp [PyData.depthAll]
      | cons x xs ih => simp [PyData.depthAll, PyData.depth, h2]; omega
    unfold shp SeqAt.shaped
    have := hy c
    simp [PyData.canLay0, hx c hc, PyData.depth]
    omega
  have h3 : ∀ c d : List (List Str), PyData.eqvAll (c.map fun c => PyData.tuple (c.map .str)) (d.map fun c => PyData.tuple (c.map .str)) = decide (c = d) := fun c => by
    induction c with
    | nil => intro d; cases d <;> simp [PyData.eqvAll]
    | cons x xs ih =>
      intro d
      cases d with
      | nil => simp [PyData.eqvAll]
      | cons y ys =>
        simp only [List.map_cons, PyData.eqvAll, ih, cell_eqv]
        by_cases h : x = y
        · subst h; simp
        · simp [h]
  simp only [eqD, e1, h1 c hc, h1 d hd, and_self, if_true, PyData.eqv, h3]
/-! ### comprehensions -/
theorem newL_ok {xs : List D} {S : Store} (h : xs.length ≤ szl) : newL false xs S = .ok (.lst xs) S := by
  unfold newL
  rw [if_pos (Nat.ble_eq_true_of_le h)]
  rfl
theorem newL_mu {xs : List D} {S : Store} (h : xs.length ≤ szl) : newL true xs S = .ok (.ref S.length) (S ++ [.lst xs]) := by
  unfold newL
  rw [if_pos (Nat.ble_eq_true_of_le h)]
  rfl
theorem newT_ok {xs : List D} {S : Store} (h : xs.length ≤ szl) : newT xs S = .ok (.tup xs) S := by
  unfold newT
  rw [if_pos (Nat.ble_eq_true_of_le h)]
theorem noExc_o {α : Type} (a : α) (S : Store) : noExc (.ok a S) = .ok a S := rfl
theorem compB_pure {ι : Type} {own : List (Str × Nat)} {t : Tg} {k : ItK} {src cs elt : Ev} {σ : Sl} {S : Store} {as : List D} {l : List ι} {e v : ι → D} {p : ι → Bool} (hs : src σ S = .ok (.tup as) S) (hi : itemsOf k as S = some (l.map e)) (hr : refsOf as = []) (ht : ∀ i ∈ l, turnB t cs elt (wipeD σ (own.map (·.2))) (e i) S = .ok (if p i then [v i] else []) S) (hl : l.length ≤ szl) : compB false own t k src cs elt σ S = .ok (.lst ((l.filter p).map v)) S := by
  unfold compB
  simp only [hs, bind_o, argsOf, hi, hr, within_nil, compL_map l ht]
  rw [newL_ok (by rw [List.length_map]; exact Nat.le_trans (List.length_filter_le _ _) hl)]
  rfl
theorem compB_pure1 {ι : Type} {own : List (Str × Nat)} {t : Tg} {k : ItK} {src cs elt : Ev} {σ : Sl} {S : Store} {as : List D} {l : List ι} {e v : ι → D} (hs : src σ S = .ok (.tup as) S) (hi : itemsOf k as S = some (l.map e)) (hr : refsOf as = []) (ht : ∀ i ∈ l, turnB t cs elt (wipeD σ (own.map (·.2))) (e i) S = .ok [v i] S) (hl : l.length ≤ szl) : compB false own t k src cs elt σ S = .ok (.lst (l.map v)) S := by
  have := compB_pure (p := fun _ => true) hs hi hr (by simpa using ht) hl
  rw [List.filter_eq_self.mpr (fun _ _ => rfl)] at this
  exact this
end TD

set_option Elab.async false
set_option linter.all false
set_option maxRecDepth 100000
set_option maxHeartbeats 2000000
set_option autoImplicit false
/-! TJ: the interpreter in steps (printed by mkTJ.py). -/
namespace TD
open PySem
open L2 (V)
section
variable {c : Cn} {σ : Sl} {S S1 S2 S3 S4 S5 : Store}
@[simp] theorem e0 {i : Nat} : ev c (.var i) σ S = Res.of (getS σ i) S := id rfl
@[simp] theorem e1 {v : V} : ev c (.lit v) σ S = .ok (ofV v) S := id rfl
@[simp] theorem e2 {g : Nat} : ev c (.glob g) σ S = Res.of ((c.P.globs[g]?).map fun p => p.2) S := id rfl
def kbin2 (c : Cn) (mu : Bool) (op : BOp) (x : D) (y : D) (S2 : Store) : Res D := opBin c mu op x y S2
@[simp] theorem kbin2_ {c : Cn} {mu : Bool} {op : BOp} {x : D} {y : D} {S2 : Store} : kbin2 c mu op x y S2 = opBin c mu op x y S2 := id rfl
def kbin1 (c : Cn) (mu : Bool) (op : BOp) (b : E) (σ : Sl) (x : D) (S1 : Store) : Res D := (ev c b σ S1).bind (kbin2 c mu op x)
@[simp] theorem kbin1_ {c : Cn} {mu : Bool} {op : BOp} {b : E} {σ : Sl} {x : D} {S1 : Store} : kbin1 c mu op b σ x S1 = (ev c b σ S1).bind (kbin2 c mu op x) := id rfl
@[simp] theorem e3 {mu : Bool} {op : BOp} {a : E} {b : E} : ev c (.bin mu op a b) σ S = (ev c a σ S).bind (kbin1 c mu op b σ) := id rfl
def kneg (c : Cn)  (x : D) (S1 : Store) : Res D := negB c x S1
@[simp] theorem kneg_ {c : Cn} {x : D} {S1 : Store} : kneg c x S1 = negB c x S1 := id rfl
@[simp] theorem e4 {a : E} : ev c (.neg a) σ S = (ev c a σ S).bind (kneg c) := id rfl
def kinv (c : Cn)  (x : D) (S1 : Store) : Res D := invB c x S1
@[simp] theorem kinv_ {c : Cn} {x : D} {S1 : Store} : kinv c x S1 = invB c x S1 := id rfl
@[simp] theorem e5 {a : E} : ev c (.inv a) σ S = (ev c a σ S).bind (kinv c) := id rfl
def kcmp2 (c : Cn) (op : COp) (x : D) (y : D) (S2 : Store) : Res D := opCmp c op x y S2
@[simp] theorem kcmp2_ {c : Cn} {op : COp} {x : D} {y : D} {S2 : Store} : kcmp2 c op x y S2 = opCmp c op x y S2 := id rfl
def kcmp1 (c : Cn) (op : COp) (b : E) (σ : Sl) (x : D) (S1 : Store) : Res D := (ev c b σ S1).bind (kcmp2 c op x)
@[simp] theorem kcmp1_ {c : Cn} {op : COp} {b : E} {σ : Sl} {x : D} {S1 : Store} : kcmp1 c op b σ x S1 = (ev c b σ S1).bind (kcmp2 c op x) := id rfl
@[simp] theorem e6 {op : COp} {a : E} {b : E} : ev c (.cmp op a b) σ S = (ev c a σ S).bind (kcmp1 c op b σ) := id rfl
def kchn4 (c : Cn) (p : COp) (y : D) (z : D) (S4 : Store) : Res D := opCmp c p y z S4
@[simp] theorem kchn4_ {c : Cn} {p : COp} {y : D} {z : D} {S4 : Store} : kchn4 c p y z S4 = opCmp c p y z S4 := id rfl
def kchn3 (c : Cn) (p : COp) (d : E) (σ : Sl) (y : D) (r : Bool) (S3 : Store) : Res D := if r then (ev c d σ S3).bind (kchn4 c p y) else .ok (.bl false) S3
@[simp] theorem kchn3_ {c : Cn} {p : COp} {d : E} {σ : Sl} {y : D} {r : Bool} {S3 : Store} : kchn3 c p d σ y r S3 = if r then (ev c d σ S3).bind (kchn4 c p y) else .ok (.bl false) S3 := id rfl
def kchn2 (c : Cn) (op : COp) (p : COp) (d : E) (σ : Sl) (x : D) (y : D) (S2 : Store) : Res D := isB (opCmp c op x y S2) (kchn3 c p d σ y)
@[simp] theorem kchn2_ {c : Cn} {op : COp} {p : COp} {d : E} {σ : Sl} {x : D} {y : D} {S2 : Store} : kchn2 c op p d σ x y S2 = isB (opCmp c op x y S2) (kchn3 c p d σ y) := id rfl
def kchn1 (c : Cn) (op : COp) (p : COp) (b : E) (d : E) (σ : Sl) (x : D) (S1 : Store) : Res D := (ev c b σ S1).bind (kchn2 c op p d σ x)
@[simp] theorem kchn1_ {c : Cn} {op : COp} {p : COp} {b : E} {d : E} {σ : Sl} {x : D} {S1 : Store} : kchn1 c op p b d σ x S1 = (ev c b σ S1).bind (kchn2 c op p d σ x) := id rfl
@[simp] theorem e7 {op : COp} {p : COp} {a : E} {b : E} {d : E} : ev c (.chn op p a b d) σ S = (ev c a σ S).bind (kchn1 c op p b d σ) := id rfl
def kisc (c : Cn) (ng : Bool) (v : V) (x : D) (S1 : Store) : Res D := iscB ng v x S1
@[simp] theorem kisc_ {c : Cn} {ng : Bool} {v : V} {x : D} {S1 : Store} : kisc c ng v x S1 = iscB ng v x S1 := id rfl
@[simp] theorem e8 {ng : Bool} {a : E} {v : V} : ev c (.isc ng a v) σ S = (ev c a σ S).bind (kisc c ng v) := id rfl
def kand (c : Cn) (b : E) (σ : Sl) (r : Bool) (S1 : Store) : Res D := if r then ev c b σ S1 else .ok (.bl false) S1
@[simp] theorem kand_ {c : Cn} {b : E} {σ : Sl} {r : Bool} {S1 : Store} : kand c b σ r S1 = if r then ev c b σ S1 else .ok (.bl false) S1 := id rfl
@[simp] theorem e9 {a : E} {b : E} : ev c (.and a b) σ S = isB (ev c a σ S) (kand c b σ) := id rfl
def kor (c : Cn) (b : E) (σ : Sl) (r : Bool) (S1 : Store) : Res D := if r then .ok (.bl true) S1 else ev c b σ S1
@[simp] theorem kor_ {c : Cn} {b : E} {σ : Sl} {r : Bool} {S1 : Store} : kor c b σ r S1 = if r then .ok (.bl true) S1 else ev c b σ S1 := id rfl
@[simp] theorem e10 {a : E} {b : E} : ev c (.or a b) σ S = isB (ev c a σ S) (kor c b σ) := id rfl
def knot (c : Cn)  (r : Bool) (S1 : Store) : Res D := .ok (.bl (!r)) S1
@[simp] theorem knot_ {c : Cn} {r : Bool} {S1 : Store} : knot c r S1 = .ok (.bl (!r)) S1 := id rfl
@[simp] theorem e11 {a : E} : ev c (.not a) σ S = isB (ev c a σ S) (knot c) := id rfl
def kite (c : Cn) (a : E) (b : E) (σ : Sl) (r : Bool) (S1 : Store) : Res D := if r then ev c a σ S1 else ev c b σ S1
@[simp] theorem kite_ {c : Cn} {a : E} {b : E} {σ : Sl} {r : Bool} {S1 : Store} : kite c a b σ r S1 = if r then ev c a σ S1 else ev c b σ S1 := id rfl
@[simp] theorem e12 {t : E} {a : E} {b : E} : ev c (.ite t a b) σ S = isB (ev c t σ S) (kite c a b σ) := id rfl
def kcall (c : Cn) (f : Nat) (xs : D) (S1 : Store) : Res D := c.Φ c.base f (full c.P f (argsOf xs)) S1
@[simp] theorem kcall_ {c : Cn} {f : Nat} {xs : D} {S1 : Store} : kcall c f xs S1 = c.Φ c.base f (full c.P f (argsOf xs)) S1 := id rfl
@[simp] theorem e13 {f : Nat} {a : E} : ev c (.call f a) σ S = (ev c a σ S).bind (kcall c f) := id rfl
def kmake (c : Cn) (k : Nat) (xs : D) (S1 : Store) : Res D := mkB c k (argsOf xs) S1
@[simp] theorem kmake_ {c : Cn} {k : Nat} {xs : D} {S1 : Store} : kmake c k xs S1 = mkB c k (argsOf xs) S1 := id rfl
@[simp] theorem e14 {k : Nat} {a : E} : ev c (.make k a) σ S = (ev c a σ S).bind (kmake c k) := id rfl
def kmeth2 (c : Cn) (m : Nat) (x : D) (S1 : Store) (xs : D) (S2 : Store) : Res D := methB c m x S1 xs S2
@[simp] theorem kmeth2_ {c : Cn} {m : Nat} {x : D} {S1 : Store} {xs : D} {S2 : Store} : kmeth2 c m x S1 xs S2 = methB c m x S1 xs S2 := id rfl
def kmeth1 (c : Cn) (m : Nat) (a : E) (σ : Sl) (x : D) (S1 : Store) : Res D := (ev c a σ S1).bind (kmeth2 c m x S1)
@[simp] theorem kmeth1_ {c : Cn} {m : Nat} {a : E} {σ : Sl} {x : D} {S1 : Store} : kmeth1 c m a σ x S1 = (ev c a σ S1).bind (kmeth2 c m x S1) := id rfl
@[simp] theorem e15 {a : E} {m : Nat} {b : E} : ev c (.meth a m b) σ S = (ev c a σ S).bind (kmeth1 c m b σ) := id rfl
def kbf (c : Cn) (f : BF) (mu : Bool) (xs : D) (S1 : Store) : Res D := opBf c f mu (argsOf xs) S1
@[simp] theorem kbf_ {c : Cn} {f : BF} {mu : Bool} {xs : D} {S1 : Store} : kbf c f mu xs S1 = opBf c f mu (argsOf xs) S1 := id rfl
@[simp] theorem e16 {f : BF} {mu : Bool} {a : E} : ev c (.bf f mu a) σ S = (ev c a σ S).bind (kbf c f mu) := id rfl
def kbm2 (c : Cn) (m : BM) (x : D) (S1 : Store) (xs : D) (S2 : Store) : Res D := bmB c m x S1 xs S2
@[simp] theorem kbm2_ {c : Cn} {m : BM} {x : D} {S1 : Store} {xs : D} {S2 : Store} : kbm2 c m x S1 xs S2 = bmB c m x S1 xs S2 := id rfl
def kbm1 (c : Cn) (m : BM) (a : E) (σ : Sl) (x : D) (S1 : Store) : Res D := (ev c a σ S1).bind (kbm2 c m x S1)
@[simp] theorem kbm1_ {c : Cn} {m : BM} {a : E} {σ : Sl} {x : D} {S1 : Store} : kbm1 c m a σ x S1 = (ev c a σ S1).bind (kbm2 c m x S1) := id rfl
@[simp] theorem e17 {a : E} {m : BM} {b : E} : ev c (.bm a m b) σ S = (ev c a σ S).bind (kbm1 c m b σ) := id rfl
def kisi (c : Cn) (ts : List Ty) (x : D) (S1 : Store) : Res D := Res.of ((tyOf S1 x).map fun t => .bl (ts.any (isTy t))) S1
@[simp] theorem kisi_ {c : Cn} {ts : List Ty} {x : D} {S1 : Store} : kisi c ts x S1 = Res.of ((tyOf S1 x).map fun t => .bl (ts.any (isTy t))) S1 := id rfl
@[simp] theorem e18 {a : E} {ts : List Ty} : ev c (.isi a ts) σ S = (ev c a σ S).bind (kisi c ts) := id rfl
def kfld (c : Cn) (f : Nat) (x : D) (S1 : Store) : Res D := Res.of (fieldOf c.P S1 x f) S1
@[simp] theorem kfld_ {c : Cn} {f : Nat} {x : D} {S1 : Store} : kfld c f x S1 = Res.of (fieldOf c.P S1 x f) S1 := id rfl
@[simp] theorem e19 {a : E} {f : Nat} : ev c (.fld a f) σ S = (ev c a σ S).bind (kfld c f) := id rfl
def kidx2 (c : Cn) (x : D) (y : D) (S2 : Store) : Res D := opIdx c x y S2
@[simp] theorem kidx2_ {c : Cn} {x : D} {y : D} {S2 : Store} : kidx2 c x y S2 = opIdx c x y S2 := id rfl
def kidx1 (c : Cn) (i : E) (σ : Sl) (x : D) (S1 : Store) : Res D := (ev c i σ S1).bind (kidx2 c x)
@[simp] theorem kidx1_ {c : Cn} {i : E} {σ : Sl} {x : D} {S1 : Store} : kidx1 c i σ x S1 = (ev c i σ S1).bind (kidx2 c x) := id rfl
@[simp] theorem e20 {a : E} {b : E} : ev c (.idx a b) σ S = (ev c a σ S).bind (kidx1 c b σ) := id rfl
def ksl3 (c : Cn) (mu : Bool) (lo : E) (hi : E) (x : D) (l : D) (h : D) (S3 : Store) : Res D := opSl mu x (partOf lo l) (partOf hi h) S3
@[simp] theorem ksl3_ {c : Cn} {mu : Bool} {lo : E} {hi : E} {x : D} {l : D} {h : D} {S3 : Store} : ksl3 c mu lo hi x l h S3 = opSl mu x (partOf lo l) (partOf hi h) S3 := id rfl
def ksl2 (c : Cn) (mu : Bool) (lo : E) (hi : E) (σ : Sl) (x : D) (l : D) (S2 : Store) : Res D := (ev c hi σ S2).bind (ksl3 c mu lo hi x l)
@[simp] theorem ksl2_ {c : Cn} {mu : Bool} {lo : E} {hi : E} {σ : Sl} {x : D} {l : D} {S2 : Store} : ksl2 c mu lo hi σ x l S2 = (ev c hi σ S2).bind (ksl3 c mu lo hi x l) := id rfl
def ksl1 (c : Cn) (mu : Bool) (lo : E) (hi : E) (σ : Sl) (x : D) (S1 : Store) : Res D := (ev c lo σ S1).bind (ksl2 c mu lo hi σ x)
@[simp] theorem ksl1_ {c : Cn} {mu : Bool} {lo : E} {hi : E} {σ : Sl} {x : D} {S1 : Store} : ksl1 c mu lo hi σ x S1 = (ev c lo σ S1).bind (ksl2 c mu lo hi σ x) := id rfl
@[simp] theorem e21 {mu : Bool} {a : E} {lo : E} {hi : E} : ev c (.sl mu a lo hi) σ S = (ev c a σ S).bind (ksl1 c mu lo hi σ) := id rfl
def ktup (c : Cn)  (xs : D) (S1 : Store) : Res D := newT (argsOf xs) S1
@[simp] theorem ktup_ {c : Cn} {xs : D} {S1 : Store} : ktup c xs S1 = newT (argsOf xs) S1 := id rfl
@[simp] theorem e22 {a : E} : ev c (.tup a) σ S = (ev c a σ S).bind (ktup c) := id rfl
def klst (c : Cn) (mu : Bool) (xs : D) (S1 : Store) : Res D := newL mu (argsOf xs) S1
@[simp] theorem klst_ {c : Cn} {mu : Bool} {xs : D} {S1 : Store} : klst c mu xs S1 = newL mu (argsOf xs) S1 := id rfl
@[simp] theorem e23 {mu : Bool} {a : E} : ev c (.lst mu a) σ S = (ev c a σ S).bind (klst c mu) := id rfl
@[simp] theorem e24  : ev c .nil σ S = .ok (.tup []) S := id rfl
def kcons2 (c : Cn) (x : D) (xs : D) (S2 : Store) : Res D := .ok (.tup (x :: argsOf xs)) S2
@[simp] theorem kcons2_ {c : Cn} {x : D} {xs : D} {S2 : Store} : kcons2 c x xs S2 = .ok (.tup (x :: argsOf xs)) S2 := id rfl
def kcons1 (c : Cn) (r : E) (σ : Sl) (x : D) (S1 : Store) : Res D := (ev c r σ S1).bind (kcons2 c x)
@[simp] theorem kcons1_ {c : Cn} {r : E} {σ : Sl} {x : D} {S1 : Store} : kcons1 c r σ x S1 = (ev c r σ S1).bind (kcons2 c x) := id rfl
@[simp] theorem e25 {a : E} {b : E} : ev c (.cons a b) σ S = (ev c a σ S).bind (kcons1 c b σ) := id rfl
@[simp] theorem e26  : ev c .om σ S = .ok .non S := id rfl
@[simp] theorem e27 {mu : Bool} {own : List (Str × Nat)} {elt : E} {t : Tg} {k : ItK} {src : E} {cs : E} : ev c (.comp mu own elt t k src cs) σ S = compB mu own t k (ev c src) (ev c cs) (ev c elt) σ S := id rfl
def cont (c : Cn) (r : Sx) (fl : Fl) (S1 : Store) : Res Fl := match fl with
  | .nx σ' => exec c r σ' S1
  | fl => .ok fl S1
@[simp] theorem cont_nx {r : Sx} {σ : Sl} : cont c r (.nx σ) S1 = exec c r σ S1 := id rfl
@[simp] theorem cont_rt {r : Sx} {d : D} : cont c r (.rt d) S1 = .ok (.rt d) S1 := id rfl
@[simp] theorem s0  : exec c .nil σ S = .ok (.nx σ) S := id rfl
@[simp] theorem s_cons {s r : Sx} : exec c (.cons s r) σ S = (exec c s σ S).bind (cont c r) := by
  simp only [exec]
  congr 1
@[simp] theorem s1  : exec c .pass σ S = .ok (.nx σ) S := id rfl
def kasg (c : Cn) (t : Tg) (σ : Sl) (d : D) (S1 : Store) : Res Fl := Res.of ((bindT t d σ).map .nx) S1
@[simp] theorem kasg_ {c : Cn} {t : Tg} {σ : Sl} {d : D} {S1 : Store} : kasg c t σ d S1 = Res.of ((bindT t d σ).map .nx) S1 := id rfl
@[simp] theorem s2 {t : Tg} {e : E} : exec c (.asg t e) σ S = (ev c e σ S).bind (kasg c t σ) := id rfl
def kdone (σ : Sl) (u : Unit) (S1 : Store) : Res Fl := .ok (.nx σ) S1
@[simp] theorem kdone_ {u : Unit} : kdone σ u S1 = .ok (.nx σ) S1 := id rfl
def kasgF2 (c : Cn) (f : Nat) (σ : Sl) (d : D) (x : D) (S2 : Store) : Res Fl := (setF c x f d S2).bind (kdone σ)
@[simp] theorem kasgF2_ {c : Cn} {f : Nat} {σ : Sl} {d : D} {x : D} {S2 : Store} : kasgF2 c f σ d x S2 = (setF c x f d S2).bind (kdone σ) := id rfl
def kasgF1 (c : Cn) (o : E) (f : Nat) (σ : Sl) (d : D) (S1 : Store) : Res Fl := (ev c o σ S1).bind (kasgF2 c f σ d)
@[simp] theorem kasgF1_ {c : Cn} {o : E} {f : Nat} {σ : Sl} {d : D} {S1 : Store} : kasgF1 c o f σ d S1 = (ev c o σ S1).bind (kasgF2 c f σ d) := id rfl
@[simp] theorem s3 {o : E} {f : Nat} {e : E} : exec c (.asgF o f e) σ S = (ev c e σ S).bind (kasgF1 c o f σ) := id rfl
def kasgI3 (c : Cn) (σ : Sl) (d : D) (x : D) (y : D) (S3 : Store) : Res Fl := (setI c x y d S3).bind (kdone σ)
@[simp] theorem kasgI3_ {c : Cn} {σ : Sl} {d : D} {x : D} {y : D} {S3 : Store} : kasgI3 c σ d x y S3 = (setI c x y d S3).bind (kdone σ) := id rfl
def kasgI2 (c : Cn) (i : E) (σ : Sl) (d : D) (x : D) (S2 : Store) : Res Fl := (ev c i σ S2).bind (kasgI3 c σ d x)
@[simp] theorem kasgI2_ {c : Cn} {i : E} {σ : Sl} {d : D} {x : D} {S2 : Store} : kasgI2 c i σ d x S2 = (ev c i σ S2).bind (kasgI3 c σ d x) := id rfl
def kasgI1 (c : Cn) (o : E) (i : E) (σ : Sl) (d : D) (S1 : Store) : Res Fl := (ev c o σ S1).bind (kasgI2 c i σ d)
@[simp] theorem kasgI1_ {c : Cn} {o : E} {i : E} {σ : Sl} {d : D} {S1 : Store} : kasgI1 c o i σ d S1 = (ev c o σ S1).bind (kasgI2 c i σ d) := id rfl
@[simp] theorem s4 {o : E} {i : E} {e : E} : exec c (.asgI o i e) σ S = (ev c e σ S).bind (kasgI1 c o i σ) := id rfl
def kasgP (c : Cn) (is : List Nat) (σ : Sl) (d : D) (S1 : Store) : Res Fl := Res.of ((putAll is (argsOf d) σ).map .nx) S1
@[simp] theorem kasgP_ {c : Cn} {is : List Nat} {σ : Sl} {d : D} {S1 : Store} : kasgP c is σ d S1 = Res.of ((putAll is (argsOf d) σ).map .nx) S1 := id rfl
@[simp] theorem s5 {is : List Nat} {a : E} : exec c (.asgP is a) σ S = (ev c a σ S).bind (kasgP c is σ) := id rfl
def kaug3 (c : Cn) (i : Nat) (σ : Sl) (z : D) (S2 : Store) : Res Fl := .ok (.nx (σ.set i (some z))) S2
@[simp] theorem kaug3_ {c : Cn} {i : Nat} {σ : Sl} {z : D} {S2 : Store} : kaug3 c i σ z S2 = .ok (.nx (σ.set i (some z))) S2 := id rfl
def augB (op : BOp) (x y : D) (S1 : Store) : Res D := match x, y with
  | .int p, .int q => Res.of ((arith op p q).map D.int) S1
  | _, _ => .bad
@[simp] theorem augB_ {op : BOp} {p q : Int} : augB op (.int p) (.int q) S1 = Res.of ((arith op p q).map D.int) S1 := id rfl
def kaug2 (c : Cn) (i : Nat) (op : BOp) (σ : Sl) (x : D) (y : D) (S1 : Store) : Res Fl := (augB op x y S1).bind (kaug3 c i σ)
@[simp] theorem kaug2_ {c : Cn} {i : Nat} {op : BOp} {σ : Sl} {x : D} {y : D} {S1 : Store} : kaug2 c i op σ x y S1 = (augB op x y S1).bind (kaug3 c i σ) := id rfl
def kaug1 (c : Cn) (i : Nat) (op : BOp) (e : E) (σ : Sl) (x : D) (S0 : Store) : Res Fl := (ev c e σ S0).bind (kaug2 c i op σ x)
@[simp] theorem kaug1_ {c : Cn} {i : Nat} {op : BOp} {e : E} {σ : Sl} {x : D} {S0 : Store} : kaug1 c i op e σ x S0 = (ev c e σ S0).bind (kaug2 c i op σ x) := id rfl
@[simp] theorem s6 {i : Nat} {op : BOp} {e : E} : exec c (.aug i op e) σ S = (Res.of (getS σ i) S).bind (kaug1 c i op e σ) := id rfl
def kexpr (c : Cn) (σ : Sl) (x : D) (S1 : Store) : Res Fl := .ok (.nx σ) S1
@[simp] theorem kexpr_ {c : Cn} {σ : Sl} {x : D} {S1 : Store} : kexpr c σ x S1 = .ok (.nx σ) S1 := id rfl
@[simp] theorem s7 {e : E} : exec c (.expr e) σ S = (ev c e σ S).bind (kexpr c σ) := id rfl
def kret (c : Cn)  (d : D) (S1 : Store) : Res Fl := .ok (.rt d) S1
@[simp] theorem kret_ {c : Cn} {d : D} {S1 : Store} : kret c d S1 = .ok (.rt d) S1 := id rfl
@[simp] theorem s8 {e : E} : exec c (.ret e) σ S = (ev c e σ S).bind (kret c) := id rfl
@[simp] theorem s9  : exec c .retN σ S = .ok (.rt .non) S := id rfl
def kiff (c : Cn) (a : Sx) (b : Sx) (σ : Sl) (r : Bool) (S1 : Store) : Res Fl := if r then exec c a σ S1 else exec c b σ S1
@[simp] theorem kiff_ {c : Cn} {a : Sx} {b : Sx} {σ : Sl} {r : Bool} {S1 : Store} : kiff c a b σ r S1 = if r then exec c a σ S1 else exec c b σ S1 := id rfl
@[simp] theorem s10 {t : E} {a : Sx} {b : Sx} : exec c (.iff t a b) σ S = isB (ev c t σ S) (kiff c a b σ) := id rfl
def kwh (c : Cn) (t : E) (σ : Sl) (S1 : Store) : Res Bool := isB (ev c t σ S1) fun r S2 => .ok r S2
@[simp] theorem kwh_ {t : E} {b : Bool} (h : ev c t σ S = .ok (.bl b) S1) : kwh c t σ S = .ok b S1 := by unfold kwh; rw [h]; rfl
@[simp] theorem s11 {t : E} {b : Sx} : exec c (.whil t b) σ S = whileL (kwh c t) (exec c b) c.W σ S := id rfl
@[simp] theorem s12  : exec c .brk σ S = .ok (.bk σ) S := id rfl
@[simp] theorem s13  : exec c .cnt σ S = .ok (.ct σ) S := id rfl
/-- a loop through what has no cell -/
theorem s_loop {t : Tg} {k : ItK} {src : E} {b : Sx} {as items : List D} (hs : ev c src σ S = .ok (.tup as) S) (hi : itemsOf k as S = some items) (hr : refsOf as = []) : exec c (.loop t k src b) σ S = forL (loopF t (exec c b)) items σ S := by
  simp only [exec, hs, Res.bind_ok, argsOf, hi, hr, within_nil]
theorem s_loop' {t : Tg} {k : ItK} {src : E} {b : Sx} {as items : List D} (hs : ev c src σ S = .ok (.tup as) S1) (hi : itemsOf k as S1 = some items) (hr : refsOf as = []) : exec c (.loop t k src b) σ S = forL (loopF t (exec c b)) items σ S1 := by
  simp only [exec, hs, Res.bind_ok, argsOf, hi, hr, within_nil]
@[simp] theorem loopF_nm {i : Nat} {body : Sl → Store → Res Fl} {x : D} : loopF (.nm i) body x σ S = body (σ.set i (some x)) S := id rfl
@[simp] theorem loopF_2 {i j : Nat} {body : Sl → Store → Res Fl} {x y : D} : loopF (.cons (.nm i) (.cons (.nm j) .nil)) body (.tup [x, y]) σ S = body ((σ.set i (some x)).set j (some y)) S := id rfl
@[simp] theorem bindT_nm {i : Nat} {x : D} : bindT (.nm i) x σ = some (σ.set i (some x)) := id rfl
@[simp] theorem bindT_2 {i j : Nat} {x y : D} : bindT (.cons (.nm i) (.cons (.nm j) .nil)) (.tup [x, y]) σ = some ((σ.set i (some x)).set j (some y)) := id rfl
@[simp] theorem argsOf_ {xs : List D} : argsOf (.tup xs) = xs := id rfl
@[simp] theorem ofV_int {i : Int} : ofV (.int i) = .int i := id rfl
@[simp] theorem ofV_bl {i : Bool} : ofV (.bl i) = .bl i := id rfl
@[simp] theorem ofV_str {i : Str} : ofV (.str i) = .str i := id rfl
@[simp] theorem ofV_non : ofV .non = .non := id rfl
@[simp] theorem getS_0 {x : Option D} {σ : Sl} : getS (x :: σ) 0 = x := by cases x <;> rfl
@[simp] theorem getS_s {x : Option D} {σ : Sl} {i : Nat} : getS (x :: σ) (i + 1) = getS σ i := id rfl
@[simp] theorem isB_k {α : Type} {b : Bool} {f : Bool → Store → Res α} : isB (.ok (.bl b) S) f = f b S := id rfl
theorem len62 {k : Nat} (h : k ≤ 16777216) : decide ((0 : Int) ≤ (k : Int) ∧ (k : Int) < 2 ^ 62) = true := by
  rw [decide_eq_true_eq]
  have e : (2 : Int) ^ 62 = 4611686018427387904 := by rfl
  rw [e]
  omega
def lenK (r : D) (S1 : Store) : Res D := match r with
  | .int i => if decide (0 ≤ i ∧ i < 2 ^ 62) then .ok (.int i) S1 else .bad
  | _ => .bad
theorem lenK_ok {k : Nat} (h : k ≤ 16777216) : lenK (.int k) S = .ok (.int k) S := by
  have : ∀ i : Int, decide (0 ≤ i ∧ i < 2 ^ 62) = true → lenK (.int i) S = .ok (.int i) S := fun i e => by
    show (if decide (0 ≤ i ∧ i < 2 ^ 62) = true then Res.ok (D.int i) S else .bad) = _
    exact if_pos e
  exact this _ (len62 h)
theorem len_own {c : Cn} {mu : Bool} {d : D} {g : Nat} (hd : dunOf c S d 6 = some g) : opBf c .len mu [d] S = (c.Φ c.base g [d] S).bind lenK := by
  show (match dunOf c S d 6 with
    | some g => (c.Φ c.base g [d] S).bind lenK
    | none => _) = _
  rw [hd]
/-- a turn of a comprehension -/
theorem turn_if {σ1 : Sl} {t : Tg} {cs elt : Ev} {x y : D} {p : Bool} (hb : bindT t x σ = some σ1) (hc : cs σ1 S = .ok (.tup [.bl p]) S) (he : p = true → elt σ1 S = .ok y S) : turnB t cs elt σ x S = .ok (if p then [y] else []) S := by
  unfold turnB
  rw [hb]
  simp only [hc, tst, Res.bind_ok]
  cases p
  · rfl
  · simp only [if_true, he rfl, Res.bind_ok]
theorem turn_1 {σ1 : Sl} {t : Tg} {cs elt : Ev} {x y : D} (hb : bindT t x σ = some σ1) (hc : cs σ1 S = .ok (.tup []) S) (he : elt σ1 S = .ok y S) : turnB t cs elt σ x S = .ok [y] S := by
  unfold turnB
  rw [hb]
  simp only [hc, tst, Res.bind_ok, if_true, he]
end
end TD

set_option Elab.async false
set_option linter.all false
set_option autoImplicit false
/-! TM: plain lists: parts of a list, the last of the least, chains. -/
namespace TD
abbrev Cl := List PySem.Str
section
/-- the part of U that xs names -/
def pick (U xs : List Cl) : List Cl := U.filter fun c => decide (c ∈ xs)
def Part (U xs : List Cl) : Prop := pick U xs = xs
def inter (xs ys : List Cl) : List Cl := xs.filter fun c => decide (c ∈ ys)
def leB (xs ys : List Cl) : Bool := xs.all fun c => decide (c ∈ ys)
theorem part_pick (U xs : List Cl) : Part U (pick U xs) := by
  unfold Part pick
  apply List.filter_congr
  intro x hx
  simp [List.mem_filter, hx]
theorem Part.sub {U xs : List Cl} (h : Part U xs) : ∀ x ∈ xs, x ∈ U := fun x hx => by
  rw [← h] at hx
  exact (List.mem_filter.mp hx).1
theorem Part.ext {U xs ys : List Cl} (h : Part U xs) (h' : Part U ys) (e : ∀ x, x ∈ xs ↔ x ∈ ys) : xs = ys := by
  rw [← h, ← h']
  unfold pick
  apply List.filter_congr
  intro x _
  simp [e]
theorem part_filter {U xs : List Cl} (h : Part U xs) (p : Cl → Bool) : Part U (xs.filter p) := by
  have e : xs.filter p = U.filter fun c => decide (c ∈ xs) && p c := by
    have h0 : xs.filter p = (pick U xs).filter p := by rw [show pick U xs = xs from h]
    rw [h0]
    unfold pick
    rw [List.filter_filter]
    apply List.filter_congr
    intro x _
    rw [Bool.and_comm]
  rw [e]
  unfold Part pick
  apply List.filter_congr
  intro x hx
  simp [List.mem_filter, hx]
theorem pick_sub {U xs : List Cl} (h : Part U xs) (p : Cl → Bool) : pick U (xs.filter p) = xs.filter p := part_filter h p
theorem part_self (U : List Cl) : Part U U := by
  unfold Part pick
  rw [List.filter_eq_self]
  intro x hx
  simp [hx]
theorem part_inter {U xs ys : List Cl} (h : Part U xs) : Part U (inter xs ys) := part_filter h _
theorem leB_iff {xs ys : List Cl} : leB xs ys = true ↔ ∀ c ∈ xs, c ∈ ys := by simp [leB]
theorem inter_left {xs ys : List Cl} : inter xs ys = xs ↔ leB xs ys = true := by
  rw [leB_iff]
  unfold inter
  rw [List.filter_eq_self]
  simp
theorem inter_right {U xs ys : List Cl} (h : Part U xs) (h' : Part U ys) : inter xs ys = ys ↔ leB ys xs = true := by
  rw [leB_iff]
  constructor
  · intro e c hc
    rw [← e] at hc
    exact (List.mem_filter.mp hc).1
  · intro e
    refine (part_inter h).ext h' fun x => ?_
    simp only [inter, List.mem_filter, decide_eq_true_eq]
    exact ⟨fun z => z.2, fun z => ⟨e x z, z⟩⟩
theorem leB_len {U xs ys : List Cl} (h : Part U xs) (h' : Part U ys) (e : leB xs ys = true) : xs.length ≤ ys.length ∧ (xs ≠ ys → xs.length < ys.length) := by
  have e1 : inter ys xs = xs := (inter_right h' h).mpr e
  have s : List.Sublist xs ys := by
    have : List.Sublist (inter ys xs) ys := List.filter_sublist
    rwa [e1] at this
  refine ⟨s.length_le, fun ne => ?_⟩
  rcases Nat.lt_or_ge xs.length ys.length with z | z
  · exact z
  · exact absurd (s.eq_of_length (Nat.le_antisymm s.length_le z)) ne
theorem leB_refl (xs : List Cl) : leB xs xs = true := leB_iff.mpr fun _ z => z
/-- two parts go together: one within the other, or nothing in common -/
def goes (xs ys : List Cl) : Bool := leB xs ys || leB ys xs || decide ((inter xs ys).length = 0)
def pairs (p : List Cl → List Cl → Bool) (rs : List (List Cl)) : Bool := rs.all fun x => rs.all fun y => p x y
def nestP (xs ys : List Cl) : Bool := !(decide (0 < (inter xs ys).length) && (!decide (inter xs ys = xs) && !decide (inter xs ys = ys)))
theorem nestP_eq {U xs ys : List Cl} (h : Part U xs) (h' : Part U ys) : nestP xs ys = goes xs ys := by
  unfold nestP goes
  have e1 := @inter_left xs ys
  have e2 := inter_right h h'
  rw [Bool.eq_iff_iff]
  simp only [Bool.not_and, Bool.or_eq_true, Bool.not_not, decide_eq_true_eq, e1, e2, Bool.not_eq_true', decide_eq_false_iff_not, Nat.not_lt, Nat.le_zero]
  constructor
  · rintro (z | z | z)
    · exact .inr z
    · exact .inl (.inl z)
    · exact .inl (.inr z)
  · rintro ((z | z) | z)
    · exact .inr (.inl z)
    · exact .inr (.inr z)
    · exact .inl z
theorem goes_symm {U xs ys : List Cl} (h : Part U xs) (h' : Part U ys) : goes xs ys = goes ys xs := by
  unfold goes
  have e : inter xs ys = inter ys xs := (part_inter h).ext (part_inter h') fun x => by
    simp only [inter, List.mem_filter, decide_eq_true_eq]
    exact And.comm
  rw [e, Bool.or_comm (leB xs ys)]
theorem pairs_eq {U : List Cl} {rs : List (List Cl)} (h : ∀ r ∈ rs, Part U r) : pairs nestP rs = pairs goes rs := by
  unfold pairs
  rw [Bool.eq_iff_iff]
  simp only [List.all_eq_true]
  constructor
  · intro z x hx y hy; rw [← nestP_eq (h x hx) (h y hy)]; exact z x hx y hy
  · intro z x hx y hy; rw [nestP_eq (h x hx) (h y hy)]; exact z x hx y hy
/-! ### the last of the least -/
/-- the parts around the part at p -/
def rAt (rs : List (List Cl)) (p : Nat) : List Cl := (rs[p]?).getD []
def cond (rs : List (List Cl)) (p : Nat) (q : Nat) : Bool := decide (q ≠ p) && (leB (rAt rs p) (rAt rs q) && (!decide (rAt rs p = rAt rs q) || decide (q < p)))
def arAt (rs : List (List Cl)) (p : Nat) : List Nat := (List.range rs.length).filter (cond rs p)
def lexL (a b : Int × Int × Int) : Bool := decide (a.1 < b.1) || (decide (a.1 = b.1) && (decide (a.2.1 < b.2.1) || (decide (a.2.1 = b.2.1) && decide (a.2.2 < b.2.2))))
def key (rs : List (List Cl)) (q : Nat) : Int × Int × Int := (((rAt rs q).length : Int), -(q : Int), (q : Int))
def leastT (f : Int × Int × Int) (l : List (Int × Int × Int)) : Int × Int × Int := l.foldl (fun f x => if lexL x f then x else f) f
def bestStep (rs : List (List Cl)) (b : Option Nat) (q : Nat) : Option Nat := match b with
  | none => some q
  | some k => if (rAt rs q).length ≤ (rAt rs k).length then some q else some k
def best (rs : List (List Cl)) (p : Nat) : Option Nat := (arAt rs p).foldl (bestStep rs) none
theorem least_best (rs : List (List Cl)) : ∀ (l : List Nat) (k : Nat), (k :: l).Pairwise (· < ·) → ∃ j, leastT (key rs k) (l.map (key rs)) = key rs j ∧ l.foldl (bestStep rs) (some k) = some j
  | [], k, _ => ⟨k, rfl, rfl⟩
  | q :: l, k, h => by
    have hk : k < q := (List.pairwise_cons.mp h).1 q List.mem_cons_self
    have hl := (List.pairwise_cons.mp h).2
    simp only [List.map_cons, leastT, List.foldl_cons, bestStep]
    by_cases c : (rAt rs q).length ≤ (rAt rs k).length
    · have e : lexL (key rs q) (key rs k) = true := by
        unfold lexL key; dsimp only; simp only [Bool.or_eq_true, Bool.and_eq_true, decide_eq_true_eq]; omega
      rw [if_pos e, if_pos c]
      exact least_best rs l q hl
    · have e : ¬ lexL (key rs q) (key rs k) = true := by
        unfold lexL key; dsimp only; simp only [Bool.or_eq_true, Bool.and_eq_true, decide_eq_true_eq]; omega
      rw [if_neg e, if_neg c]
      refine least_best rs l k (List.pairwise_cons.mpr ⟨fun x hx => (List.pairwise_cons.mp h).1 x (List.mem_cons_of_mem _ hx), (List.pairwise_cons.mp hl).2⟩)
theorem lexL_self (a : Int × Int × Int) : lexL a a = false := by simp [lexL]
theorem arAt_pw (rs : List (List Cl)) (p : Nat) : (arAt rs p).Pairwise (· < ·) := (List.pairwise_lt_range).sublist List.filter_sublist
/-- the least of the keys, found from the first, is the key of the best -/
theorem around_eq (rs : List (List Cl)) (p : Nat) : (arAt rs p = [] ∧ best rs p = none) ∨ ∃ k l j, arAt rs p = k :: l ∧ leastT (key rs k) ((k :: l).map (key rs)) = key rs j ∧ best rs p = some j ∧ j ∈ arAt rs p := by
  have mem : ∀ (l : List Nat) (b : Option Nat) (j : Nat), l.foldl (bestStep rs) b = some j → b = some j ∨ j ∈ l := fun l => by
    induction l with
    | nil => intro b j h; exact .inl h
    | cons q l ih =>
      intro b j h
      rcases ih _ j h with z | z
      · unfold bestStep at z
        cases b with
        | none => cases z; exact .inr List.mem_cons_self
        | some k =>
          simp only at z
          split at z
          · cases z; exact .inr List.mem_cons_self
          · exact .inl z
      · exact .inr (List.mem_cons_of_mem _ z)
  cases e : arAt rs p with
  | nil => exact .inl ⟨rfl, by unfold best; rw [e]; rfl⟩
  | cons k l =>
    have pw := arAt_pw rs p
    rw [e] at pw
    obtain ⟨j, h1, h2⟩ := least_best rs l k pw
    have hb : best rs p = some j := by unfold best; rw [e]; exact h2
    refine .inr ⟨k, l, j, rfl, ?_, hb, ?_⟩
    · simp only [List.map_cons, leastT, List.foldl_cons, lexL_self] at h1 ⊢
      exact h1
    · rcases mem _ _ _ h2 with z | z
      · cases z; exact List.mem_cons_self
      · exact List.mem_cons_of_mem _ z
/-! ### chains end -/
theorem countP_lt {β : Type} {p q : β → Bool} : ∀ {l : List β}, (∀ x ∈ l, p x = true → q x = true) → (∃ x ∈ l, q x = true ∧ p x = false) → l.countP p < l.countP q
  | [], _, ⟨x, hx, _⟩ => absurd hx (by simp)
  | a :: l, h, ⟨x, hx, h1, h2⟩ => by
    have mono : l.countP p ≤ l.countP q := List.countP_mono_left fun y hy z => h y (List.mem_cons_of_mem _ hy) z
    rcases List.mem_cons.mp hx with rfl | hx
    · simp only [List.countP_cons, h1, h2]; simp; omega
    · have ih := countP_lt (l := l) (fun y hy => h y (List.mem_cons_of_mem _ hy)) ⟨x, hx, h1, h2⟩
      have ha := h a List.mem_cons_self
      simp only [List.countP_cons]
      cases hp : p a
      · simp; omega
      · rw [ha hp]; simp; omega
/-- q stands further on than p -/
def beyond (rs : List (List Cl)) (p q : Nat) : Bool := decide ((rAt rs p).length < (rAt rs q).length) || (decide ((rAt rs p).length = (rAt rs q).length) && decide (q < p))
def rank (rs : List (List Cl)) (p : Nat) : Nat := (List.range rs.length).countP (beyond rs p)
theorem beyond_trans {rs : List (List Cl)} {p q r : Nat} (h : beyond rs p q = true) (h' : beyond rs q r = true) : beyond rs p r = true := by
  simp only [beyond, Bool.or_eq_true, Bool.and_eq_true, decide_eq_true_eq] at *
  omega
theorem beyond_irrefl {rs : List (List Cl)} {p : Nat} : beyond rs p p = false := by simp [beyond]
theorem rank_lt {rs : List (List Cl)} {p : Nat} (hp : p < rs.length) : rank rs p < rs.length := by
  have := countP_lt (p := beyond rs p) (q := fun _ => true) (l := List.range rs.length) (by simp) ⟨p, List.mem_range.mpr hp, rfl, beyond_irrefl⟩
  simpa [rank] using this
theorem rank_step {rs : List (List Cl)} {p q : Nat} (hq : q < rs.length) (h : beyond rs p q = true) : rank rs q < rank rs p :=
  countP_lt (fun x _ z => beyond_trans h z) ⟨q, List.mem_range.mpr hq, h, beyond_irrefl⟩
theorem cond_beyond {U : List Cl} {rs : List (List Cl)} (hr : ∀ r ∈ rs, Part U r) {p q : Nat} (hp : p < rs.length) (hq : q < rs.length) (h : cond rs p q = true) : beyond rs p q = true := by
  have ha : ∀ k, k < rs.length → Part U (rAt rs k) := fun k hk => by
    unfold rAt
    rw [List.getElem?_eq_getElem hk]
    exact hr _ (List.getElem_mem hk)
  simp only [cond, beyond, Bool.or_eq_true, Bool.and_eq_true, decide_eq_true_eq, Bool.not_eq_true', decide_eq_false_iff_not] at *
  obtain ⟨h1, h2, h3⟩ := h
  obtain ⟨l1, l2⟩ := leB_len (ha p hp) (ha q hq) h2
  by_cases e : rAt rs p = rAt rs q
  · right
    rcases h3 with z | z
    · exact absurd e z
    · exact ⟨by rw [e], z⟩
  · exact .inl (l2 e)
theorem best_mem {rs : List (List Cl)} {p j : Nat} (h : best rs p = some j) : j < rs.length ∧ cond rs p j = true := by
  rcases around_eq rs p with ⟨_, z⟩ | ⟨k, l, j', _, _, z, m⟩
  · rw [z] at h; cases h
  · rw [z] at h; cases h
    have := List.mem_filter.mp m
    exact ⟨List.mem_range.mp this.1, this.2⟩
end
end TD

set_option Elab.async false
set_option linter.all false
set_option maxRecDepth 100000
set_option maxHeartbeats 2000000
set_option autoImplicit false
/-! TO: more of loops and lists; triples of numbers. -/
namespace TD
open PySem
open L2 (V)
section
variable {ι : Type}
/-- a loop, with what it went through so far -/
theorem forL_preA {f : D → Sl → Store → Res Fl} {e : ι → D} (I : List ι → Sl → Store → Prop) : ∀ (post pre : List ι), (∀ a i c, pre ++ post = a ++ i :: c → pre.length ≤ a.length → ∀ σ S, I a σ S → ∃ σ' S', f (e i) σ S = .ok (.nx σ') S' ∧ I (a ++ [i]) σ' S') → ∀ σ S, I pre σ S → ∃ σ' S', forL f (post.map e) σ S = .ok (.nx σ') S' ∧ I (pre ++ post) σ' S'
  | [], pre, _, σ, S, h => ⟨σ, S, rfl, by rwa [List.append_nil]⟩
  | i :: post, pre, H, σ, S, h => by
    obtain ⟨σ1, S1, e1, h1⟩ := H pre i post rfl (Nat.le_refl _) σ S h
    have ea : pre ++ [i] ++ post = pre ++ i :: post := by simp
    obtain ⟨σ2, S2, e2, h2⟩ := forL_preA I post (pre ++ [i]) (fun a j c q l => H a j c (by rw [← q, ea]) (by simp at l; omega)) σ1 S1 h1
    rw [ea] at h2
    exact ⟨σ2, S2, by simp only [List.map_cons, forL, e1, bind_o, e2], h2⟩
theorem forL_pre_e {f : D → Sl → Store → Res Fl} {items : List D} {σ : Sl} {S : Store} {r : Res Fl} (hr : forL f items σ S = r) {e : ι → D} {l : List ι} (hi : items = l.map e) (I : List ι → Sl → Store → Prop) (H : ∀ a i c, l = a ++ i :: c → ∀ σ S, I a σ S → ∃ σ' S', f (e i) σ S = .ok (.nx σ') S' ∧ I (a ++ [i]) σ' S') (h : I [] σ S) : ∃ σ' S', r = .ok (.nx σ') S' ∧ I l σ' S' := by
  obtain ⟨σ', S', e1, h1⟩ := forL_preA I l [] (fun a i c q _ => H a i c (by simpa using q)) σ S h
  rw [← hi, hr] at e1
  exact ⟨σ', S', e1, by simpa using h1⟩
end
theorem whileL_inv_e {st : Type} {c : Sl → Store → Res Bool} {f : Sl → Store → Res Fl} {n : Nat} {σ : Sl} {S : Store} {r : Res Fl} (hr : whileL c f n σ S = r) (I : st → Sl → Store → Prop) (Q : Sl → Store → Prop) (m : st → Nat)
    (H : ∀ s σ S, I s σ S → (c σ S = .ok false S ∧ Q σ S) ∨ (c σ S = .ok true S ∧ ∃ s' σ' S', f σ S = .ok (.nx σ') S' ∧ I s' σ' S' ∧ m s' < m s)) (s : st) (h : I s σ S) (hm : m s < n) : ∃ σ' S', r = .ok (.nx σ') S' ∧ Q σ' S' := by
  obtain ⟨σ', S', e, q⟩ := whileL_inv I Q m H n s σ S h hm
  rw [hr] at e
  exact ⟨σ', S', e, q⟩
/-- the first part of a range -/
theorem range_pre {n : Nat} {a : List Nat} {i : Nat} {c : List Nat} (h : List.range n = a ++ i :: c) : a = List.range i ∧ i < n := by
  have hl : a.length < n := by
    have := congrArg List.length h
    simp at this; omega
  have hi : (List.range n)[a.length]? = some i := by rw [h]; simp
  rw [List.getElem?_range hl] at hi
  have hi : a.length = i := Option.some.inj hi
  refine ⟨?_, by omega⟩
  have : a = (List.range n).take a.length := by rw [h]; simp
  rw [this, List.take_range, hi]
  congr 1
  omega
section
variable {c : Cn} {σ : Sl} {S : Store}
theorem s_loop_ref {t : Tg} {src : E} {b : Sx} {k : Nat} {xs : List D} {fl : Fl} (hs : ev c src σ S = .ok (.tup [.ref k]) S) (hk : S[k]? = some (.lst xs)) (e : forL (loopF t (exec c b)) xs σ (S.set k (.lck xs)) = .ok fl (S.set k (.lck xs))) : exec c (.loop t .val src b) σ S = .ok fl S := by
  have hl : k < S.length := (List.getElem?_eq_some_iff.mp hk).1
  have e1 : itemsOf .val [.ref k] S = some xs := by simp [itemsOf, seqA, seqL, hk]
  simp only [exec, hs, bind_o, argsOf, e1, refsOf]
  unfold within
  simp only [lockS, openS, hk, e, unlockS]
  rw [List.getElem?_set_self hl]
  simp only [List.set_set]
  congr 1
  apply List.ext_getElem?
  intro i
  by_cases hi : k = i
  · subst hi; rw [List.getElem?_set_self hl, hk]
  · rw [List.getElem?_set_ne hi]
end
/-! ### what a list becomes when it leaves -/
theorem frz_all {P : Prog} {S : Store} {b n : Nat} : ∀ (ds : List D), (∀ d ∈ ds, d.lo b = true) → ds.mapM (frz P S b (n + 1)) = some ds
  | [], _ => rfl
  | d :: ds, h => by
    have e : frz P S b (n + 1) d = some d := by unfold frz; rw [if_pos (h d (by simp))]
    rw [List.mapM_cons, e, frz_all ds fun x hx => h x (by simp [hx])]
    rfl
theorem frz_ref {P : Prog} {S : Store} {b k : Nat} {ds : List D} (h : S[k]? = some (.lst ds)) (hb : b ≤ k) (hd : ∀ d ∈ ds, d.lo b = true) : frz P S b 64 (.ref k) = some (.lst ds) := by
  show frz P S b (63 + 1) (.ref k) = _
  unfold frz
  have lo : (D.ref k).lo b = false := by
    simp only [D.lo]
    rw [← Bool.not_eq_true, Nat.blt_eq]; omega
  rw [if_neg (by rw [lo]; exact Bool.false_ne_true)]
  simp only [h]
  rw [show (63 : Nat) = 62 + 1 from rfl, frz_all ds hd]
  rfl
/-! ### and, or -/
section
variable {c : Cn} {σ : Sl} {S : Store}
theorem and_ev {a b : E} {p q : Bool} (h1 : ev c a σ S = .ok (.bl p) S) (h2 : ev c b σ S = .ok (.bl q) S) : ev c (.and a b) σ S = .ok (.bl (p && q)) S := by
  simp [h1]
  cases p
  · rfl
  · simpa using h2
theorem or_ev {a b : E} {p q : Bool} (h1 : ev c a σ S = .ok (.bl p) S) (h2 : ev c b σ S = .ok (.bl q) S) : ev c (.or a b) σ S = .ok (.bl (p || q)) S := by
  simp [h1]
  cases p
  · simpa using h2
  · rfl
end
@[simp] theorem newL_t0 {S : Store} : newL true [] S = .ok (.ref S.length) (S ++ [.lst []]) := rfl
@[simp] theorem newL_f0 {S : Store} : newL false [] S = .ok (.lst []) S := rfl
@[simp] theorem newL_f1 {x : D} {S : Store} : newL false [x] S = .ok (.lst [x]) S := rfl
@[simp] theorem newT_3 {x y z : D} {S : Store} : newT [x, y, z] S = .ok (.tup [x, y, z]) S := rfl
@[simp] theorem newT_2 {x y : D} {S : Store} : newT [x, y] S = .ok (.tup [x, y]) S := rfl
@[simp] theorem newT_1 {x : D} {S : Store} : newT [x] S = .ok (.tup [x]) S := rfl
@[simp] theorem at1 {F x : Cell} {T : Store} : (F :: (T ++ [x]))[T.length + 1]? = some x := by simp
@[simp] theorem set1 {F x y : Cell} {T : Store} : (F :: (T ++ [x])).set (T.length + 1) y = F :: (T ++ [y]) := by simp
theorem bm_append {c : Cn} {S1 S : Store} {k : Nat} {xs ys : List D} {v : D} (h1 : S1[k]? = some (.lst ys)) (h : S[k]? = some (.lst xs)) (hb : c.base ≤ k ∨ v.pure = true) (hl : xs.length < szl) : bmB c .append (.ref k) S1 (.tup [v]) S = .ok .non (S.set k (.lst (xs ++ [v]))) := by
  have w : wrOk c k v = true := by
    unfold wrOk
    rcases hb with z | z
    · rw [Nat.ble_eq_true_of_le z]; rfl
    · rw [z]; simp
  have l : Nat.blt xs.length szl = true := by rw [Nat.blt_eq]; exact hl
  simp [bmB, recvT, h1, opBm, h, w, l]
theorem bestFold_mem {rs : List (List Cl)} : ∀ (l : List Nat) (b : Option Nat) (j : Nat), l.foldl (bestStep rs) b = some j → b = some j ∨ j ∈ l := fun l => by
  induction l with
  | nil => intro b j h; exact .inl h
  | cons q l ih =>
    intro b j h
    rcases ih _ j h with z | z
    · unfold bestStep at z
      cases b with
      | none => cases z; exact .inr List.mem_cons_self
      | some k =>
        simp only at z
        split at z
        · cases z; exact .inr List.mem_cons_self
        · exact .inl z
    · exact .inr (List.mem_cons_of_mem _ z)
/-! ### triples -/
def trD (a : Int × Int × Int) : D := .tup [.int a.1, .int a.2.1, .int a.2.2]
theorem tr_lt {S : Store} (a b : Int × Int × Int) : ltD S (trD a) (trD b) = some (lexL a b) := by
  have al : ∀ a b : Int × Int × Int, PySem.W.alike (.tuple [.int a.1, .int a.2.1, .int a.2.2]) (.tuple [.int b.1, .int b.2.1, .int b.2.2]) = true := fun a b => by
    simp [PySem.W.alike, PySem.W.alikeAll]
  have dp : ∀ a : Int × Int × Int, (PyData.tuple [.int a.1, .int a.2.1, .int a.2.2]).depth ≤ 64 := fun a => by
    simp [PyData.depth, PyData.depthAll]
  have e : ∀ a : Int × Int × Int, (trD a).dat = some (.tuple [.int a.1, .int a.2.1, .int a.2.2]) := fun a => by simp [trD, D.dat, D.datL]
  have bl : ∀ x y : Int, PyProof.Rows.itemLt (.inl x) (.inl y) = decide (x < y) := fun x y => rfl
  have dl : PySem.W.dataLt (.tuple [.int a.1, .int a.2.1, .int a.2.2]) (.tuple [.int b.1, .int b.2.1, .int b.2.2]) = lexL a b := by
    rw [PySem.W.dataLt_tuple]
    simp only [PySem.W.keyToksAll, PySem.W.keyToks, List.cons_append, List.nil_append]
    simp only [PyProof.Rows.lex_cons, PyProof.Rows.lexLt]
    unfold lexL
    rw [Bool.eq_iff_iff]
    simp [bl]
    omega
  show (match (trD a).dat, (trD b).dat with
    | some p, some q => if PySem.W.alike p q = true ∧ p.depth ≤ 64 ∧ q.depth ≤ 64 then some (PySem.W.dataLt p q) else none
    | _, _ => none) = _
  rw [e a, e b]
  simp only [al a b, dp a, dp b, and_self, if_true, dl]
theorem tr_dat (l : List (Int × Int × Int)) : ∃ ps, D.datL (l.map trD) = some ps ∧ PyData.canLayAll0 ps = true ∧ PyData.depthAll ps ≤ 1 ∧ ps.length = l.length := by
  induction l with
  | nil => exact ⟨[], rfl, by simp [PyData.canLayAll0], by simp [PyData.depthAll], rfl⟩
  | cons a l ih =>
    obtain ⟨ps, h1, h2, h3, h4⟩ := ih
    refine ⟨.tuple [.int a.1, .int a.2.1, .int a.2.2] :: ps, ?_, ?_, ?_, by simp [h4]⟩
    · simp only [List.map_cons, D.datL, h1, trD, D.dat, Option.map_some]
    · simp only [PyData.canLayAll0, h2, PyData.canLay0, Bool.and_self]
    · simp [PyData.depthAll, PyData.depth]; omega
theorem tr_ne {S : Store} {k : Nat} {l : List (Int × Int × Int)} (h : S[k]? = some (.lst (l.map trD))) : eqD S (.ref k) (.lst []) = some (decide (l = [])) := by
  obtain ⟨ps, h1, h2, h3, h4⟩ := tr_dat l
  have e1 : datS S (.ref k) = some (.list ps) := by simp [datS, view, h, D.dat, h1]
  have e2 : datS S (.lst []) = some (.list []) := by simp [datS, view, D.dat, D.datL]
  have s1 : shp (.list ps) = true := by
    unfold shp SeqAt.shaped
    simp [PyData.canLay0, h2, PyData.depth]; omega
  have s2 : shp (.list []) = true := by
    unfold shp SeqAt.shaped
    simp [PyData.canLay0, PyData.canLayAll0, PyData.depth, PyData.depthAll]
  simp only [eqD, e1, e2, s1, s2, and_self, if_true, PyData.eqv]
  cases l with
  | nil => simp at h4; subst h4; simp [PyData.eqvAll]
  | cons a l =>
    cases ps with
    | nil => simp at h4
    | cons p ps => simp [PyData.eqvAll]
end TD

set_option Elab.async false
set_option linter.all false
set_option maxRecDepth 100000
set_option maxHeartbeats 2000000
set_option autoImplicit false
/-! TQ: sorted rows put together two by two. -/
namespace TD
open PySem
def leI (a b : Int) : Bool := decide (a ≤ b)
abbrev mrg (xs ys : List Int) : List Int := xs.merge ys leI
theorem mrg_nl (ys : List Int) : mrg [] ys = ys := by simp [mrg, List.nil_merge]
theorem mrg_nr (xs : List Int) : mrg xs [] = xs := List.merge_right xs
theorem mrg_cc (x y : Int) (xs ys : List Int) : mrg (x :: xs) (y :: ys) = if y < x then y :: mrg (x :: xs) ys else x :: mrg xs (y :: ys) := by
  unfold mrg
  rw [List.cons_merge_cons]
  by_cases h : y < x
  · rw [if_pos h, if_neg (by unfold leI; simp; omega)]
  · rw [if_neg h, if_pos (by unfold leI; simp; omega)]
def Srt (xs : List Int) : Prop := xs.Pairwise fun a b => leI a b = true
theorem srt_mrg {xs ys : List Int} (h : Srt xs) (h' : Srt ys) : Srt (mrg xs ys) := List.pairwise_merge (fun a b c => by unfold leI; simp; omega) (fun a b => by unfold leI; simp; omega) _ _ h h'
theorem srt_eq {xs ys : List Int} (h : Srt xs) (h' : Srt ys) (p : List.Perm xs ys) : xs = ys := List.Perm.eq_of_pairwise (fun a b _ _ h1 h2 => by unfold leI at *; simp at *; omega) h h' p
/-- rows put together two by two -/
def passL : List (List Int) → List (List Int)
  | a :: b :: r => mrg a b :: passL r
  | r => r
def rowAt (R : List (List Int)) (i : Nat) : List Int := (R[i]?).getD []
def pairAt (R : List (List Int)) (n t : Nat) : List Int := if 2 * t + 1 < n then mrg (rowAt R (2 * t)) (rowAt R (2 * t + 1)) else rowAt R (2 * t)
theorem passL_map : ∀ (R : List (List Int)), passL R = (List.range ((R.length + 1) / 2)).map (pairAt R R.length)
  | [] => rfl
  | [a] => by simp [passL, pairAt, rowAt]
  | a :: b :: r => by
    have e : ((a :: b :: r).length + 1) / 2 = (r.length + 1) / 2 + 1 := by simp; omega
    rw [e, List.range_succ_eq_map, List.map_cons, List.map_map, passL, passL_map r]
    have e0 : pairAt (a :: b :: r) (a :: b :: r).length 0 = mrg a b := by simp [pairAt, rowAt]
    rw [e0]
    congr 1
    apply List.map_congr_left
    intro t _
    have e1 : rowAt (a :: b :: r) (2 * (t + 1)) = rowAt r (2 * t) := by
      unfold rowAt
      rw [show 2 * (t + 1) = 2 * t + 1 + 1 by omega]; simp
    have e2 : rowAt (a :: b :: r) (2 * (t + 1) + 1) = rowAt r (2 * t + 1) := by
      unfold rowAt
      rw [show 2 * (t + 1) + 1 = 2 * t + 1 + 1 + 1 by omega]; simp
    simp only [Function.comp, Nat.succ_eq_add_one, pairAt, e1, e2]
    by_cases c : 2 * t + 1 < r.length
    · rw [if_pos c, if_pos (by simp; omega)]
    · rw [if_neg c, if_neg (by simp; omega)]
theorem passL_len : ∀ (R : List (List Int)), (passL R).length = (R.length + 1) / 2 := fun R => by rw [passL_map]; simp
theorem passL_srt : ∀ {R : List (List Int)}, (∀ r ∈ R, Srt r) → ∀ r ∈ passL R, Srt r
  | [], h, r, hr => h r hr
  | [a], h, r, hr => h r hr
  | a :: b :: R, h, r, hr => by
    simp only [passL] at hr
    rcases List.mem_cons.mp hr with rfl | hr
    · exact srt_mrg (h a (by simp)) (h b (by simp))
    · exact passL_srt (fun x hx => h x (by simp [hx])) r hr
theorem passL_perm : ∀ (R : List (List Int)), List.Perm (passL R).flatten R.flatten
  | [] => List.Perm.refl _
  | [a] => List.Perm.refl _
  | a :: b :: R => by
    simp only [passL, List.flatten_cons]
    have p1 : List.Perm (mrg a b) (a ++ b) := List.merge_perm_append leI
    have := p1.append (passL_perm R)
    rwa [List.append_assoc] at this
theorem passL_low {R : List (List Int)} {k : Nat} (h : ∀ r ∈ R, r.length ≤ k) : ∀ r ∈ passL R, r.length ≤ 2 * k := by
  have : ∀ {R : List (List Int)}, (∀ r ∈ R, r.length ≤ k) → ∀ r ∈ passL R, r.length ≤ 2 * k := fun {R} => by
    induction R using passL.induct with
    | case1 a b r ih =>
      intro h x hx
      simp only [passL] at hx
      rcases List.mem_cons.mp hx with rfl | hx
      · have p1 : List.Perm (mrg a b) (a ++ b) := List.merge_perm_append leI
        rw [p1.length_eq]
        have := h a (by simp); have := h b (by simp)
        simp; omega
      · exact ih (fun y hy => h y (by simp [hy])) x hx
    | case2 r hr =>
      intro h x hx
      have : passL r = r := by
        cases r with
        | nil => rfl
        | cons a r => cases r with
          | nil => rfl
          | cons b r => exact absurd rfl (hr a b r)
      rw [this] at hx
      have := h x hx; omega
  exact this h
/-- the even places -/
theorem items_even {S : Store} {b : Nat} (h : b ≤ 12) : itemsOf .range [.int 0, .int b, .int 2] S = some ((List.range ((b + 1) / 2)).map fun t => D.int ((2 * t : Nat) : Int)) := by
  rcases b with _ | _ | _ | _ | _ | _ | _ | _ | _ | _ | _ | _ | _ | b
  all_goals first | (exfalso; omega) | kernel_rfl
end TD

set_option Elab.async false
set_option linter.all false
set_option maxRecDepth 100000
set_option maxHeartbeats 4000000
set_option autoImplicit false
/-! %s: what shared texts ask of a law's program (printed by kspec.py). -/
namespace TD
open PySem
open L2 (V)
def Sp (ax : D) (U : List (List Str)) : D := .ins 1 [ax, .tup (U.map cellD)]
def Rg (ax : D) (U xs : List (List Str)) : D := .ins 0 [Sp ax U, .tup (xs.map cellD)]
def sp2 (bs : List Str) : D := .tup [.tup [.str "a", .tup [.str "p", .str "q"]], .tup [.str "b", .tup (bs.map .str)]]
def u2 (bs : List Str) : List Cl := bs.map (fun b => [("p" : Str), b]) ++ bs.map (fun b => [("q" : Str), b])
def sp1 (as : List Str) : D := .tup [.tup [.str "a", .tup (as.map .str)]]
def u1 (as : List Str) : List Cl := as.map fun a => [a]
def in2 (bs : List Str) : D := .lst [.tup [.str "a", .lst [.str "p", .str "q"]], .tup [.str "b", .lst (bs.map .str)]]
def in1 (as : List Str) : D := .lst [.tup [.str "a", .lst (as.map .str)]]

class KA (P : Prog) : Prop where
  h1 : P.fns[1]? = some c1
  h2 : P.fns[2]? = some c2
  h4 : P.fns[4]? = some c4
  h5 : P.fns[5]? = some c5
  h6 : P.fns[6]? = some c6
  h7 : P.fns[7]? = some c7
  h8 : P.fns[8]? = some c8
  h9 : P.fns[9]? = some c9
  h10 : P.fns[10]? = some c10
  h11 : P.fns[11]? = some c11
  h12 : P.fns[12]? = some c12
  h13 : P.fns[13]? = some c13
  h14 : P.fns[14]? = some c14
  h15 : P.fns[15]? = some c15
  h16 : P.fns[16]? = some c16
  h17 : P.fns[17]? = some c17
  h18 : P.fns[18]? = some c18
  h36 : P.fns[36]? = some c36
  h40 : P.fns[40]? = some c40
  h42 : P.fns[42]? = some c42
  h43 : P.fns[43]? = some c43
  h45 : P.fns[45]? = some c45
  h39 : P.fns[39]? = some c39
  h41 : P.fns[41]? = some c41
  h19 : P.fns[19]? = some c19
  h46 : P.fns[46]? = some c46
  m0_0 : P.meth 0 0 = some 6
  m0_1 : P.meth 0 1 = some 7
  m0_6 : P.meth 0 6 = some 8
  m0_7 : P.meth 0 7 = some 9
  m0_8 : P.meth 0 8 = some 10
  m0_9 : P.meth 0 9 = some 11
  m0_10 : P.meth 0 10 = some 12
  m0_11 : P.meth 0 11 = some 13
  m0_12 : P.meth 0 12 = some 14
  m0_3 : P.meth 0 3 = some 15
  m0_2 : P.meth 0 2 = some 16
  m0_5 : P.meth 0 5 = some 17
  m0_4 : P.meth 0 4 = some 18
  m1_1 : P.meth 1 1 = some 36
  k0 : ∃ ms, P.cl 0 = some { name := "Region", attrs := [22, 21], meths := ms }
  k1 : ∃ ms, P.cl 1 = some { name := "Space", attrs := [23, 21], meths := ms }
  mk22 : ∀ (W n b : Nat) (S : Store), mkB ⟨callF P W (n + 3), P, b, W⟩ 1 [in2 ["x", "y"]] S = .ok (Sp (sp2 ["x", "y"]) (u2 ["x", "y"])) S
  mk23 : ∀ (W n b : Nat) (S : Store), mkB ⟨callF P W (n + 3), P, b, W⟩ 1 [in2 ["x", "y", "z"]] S = .ok (Sp (sp2 ["x", "y", "z"]) (u2 ["x", "y", "z"])) S
  mk12 : ∀ (W n b : Nat) (S : Store), mkB ⟨callF P W (n + 3), P, b, W⟩ 1 [in1 ["p", "q"]] S = .ok (Sp (sp1 ["p", "q"]) (u1 ["p", "q"])) S
  mk13 : ∀ (W n b : Nat) (S : Store), mkB ⟨callF P W (n + 3), P, b, W⟩ 1 [in1 ["p", "q", "r"]] S = .ok (Sp (sp1 ["p", "q", "r"]) (u1 ["p", "q", "r"])) S
  mk14 : ∀ (W n b : Nat) (S : Store), mkB ⟨callF P W (n + 3), P, b, W⟩ 1 [in1 ["p", "q", "r", "s"]] S = .ok (Sp (sp1 ["p", "q", "r", "s"]) (u1 ["p", "q", "r", "s"])) S
  mk15 : ∀ (W n b : Nat) (S : Store), mkB ⟨callF P W (n + 3), P, b, W⟩ 1 [in1 ["p", "q", "r", "s", "t"]] S = .ok (Sp (sp1 ["p", "q", "r", "s", "t"]) (u1 ["p", "q", "r", "s", "t"])) S
theorem full_of {P : Prog} {f : Nat} {fd : FnI} {as : List D} (h : P.fns[f]? = some fd) (hd : fd.dfl = []) : full P f as = as := by
  unfold full; rw [h]; simp [hd]
section
variable {P : Prog} [KA P] {as : List D}
theorem hc1 : P.fns[1]? = some c1 := KA.h1
@[simp] theorem full1 : full P 1 as = as := full_of hc1 rfl
theorem hc2 : P.fns[2]? = some c2 := KA.h2
@[simp] theorem full2 : full P 2 as = as := full_of hc2 rfl
theorem hc4 : P.fns[4]? = some c4 := KA.h4
@[simp] theorem full4 : full P 4 as = as := full_of hc4 rfl
theorem hc5 : P.fns[5]? = some c5 := KA.h5
@[simp] theorem full5 : full P 5 as = as := full_of hc5 rfl
theorem hc6 : P.fns[6]? = some c6 := KA.h6
@[simp] theorem full6 : full P 6 as = as := full_of hc6 rfl
theorem hc7 : P.fns[7]? = some c7 := KA.h7
@[simp] theorem full7 : full P 7 as = as := full_of hc7 rfl
theorem hc8 : P.fns[8]? = some c8 := KA.h8
@[simp] theorem full8 : full P 8 as = as := full_of hc8 rfl
theorem hc9 : P.fns[9]? = some c9 := KA.h9
@[simp] theorem full9 : full P 9 as = as := full_of hc9 rfl
theorem hc10 : P.fns[10]? = some c10 := KA.h10
@[simp] theorem full10 : full P 10 as = as := full_of hc10 rfl
theorem hc11 : P.fns[11]? = some c11 := KA.h11
@[simp] theorem full11 : full P 11 as = as := full_of hc11 rfl
theorem hc12 : P.fns[12]? = some c12 := KA.h12
@[simp] theorem full12 : full P 12 as = as := full_of hc12 rfl
theorem hc13 : P.fns[13]? = some c13 := KA.h13
@[simp] theorem full13 : full P 13 as = as := full_of hc13 rfl
theorem hc14 : P.fns[14]? = some c14 := KA.h14
@[simp] theorem full14 : full P 14 as = as := full_of hc14 rfl
theorem hc15 : P.fns[15]? = some c15 := KA.h15
@[simp] theorem full15 : full P 15 as = as := full_of hc15 rfl
theorem hc16 : P.fns[16]? = some c16 := KA.h16
@[simp] theorem full16 : full P 16 as = as := full_of hc16 rfl
theorem hc17 : P.fns[17]? = some c17 := KA.h17
@[simp] theorem full17 : full P 17 as = as := full_of hc17 rfl
theorem hc18 : P.fns[18]? = some c18 := KA.h18
@[simp] theorem full18 : full P 18 as = as := full_of hc18 rfl
theorem hc36 : P.fns[36]? = some c36 := KA.h36
@[simp] theorem full36 : full P 36 as = as := full_of hc36 rfl
theorem hc40 : P.fns[40]? = some c40 := KA.h40
@[simp] theorem full40 : full P 40 as = as := full_of hc40 rfl
theorem hc42 : P.fns[42]? = some c42 := KA.h42
@[simp] theorem full42 : full P 42 as = as := full_of hc42 rfl
theorem hc43 : P.fns[43]? = some c43 := KA.h43
@[simp] theorem full43 : full P 43 as = as := full_of hc43 rfl
theorem hc45 : P.fns[45]? = some c45 := KA.h45
@[simp] theorem full45 : full P 45 as = as := full_of hc45 rfl
theorem hc39 : P.fns[39]? = some c39 := KA.h39
@[simp] theorem full39 : full P 39 as = as := full_of hc39 rfl
theorem hc41 : P.fns[41]? = some c41 := KA.h41
@[simp] theorem full41 : full P 41 as = as := full_of hc41 rfl
theorem hc19 : P.fns[19]? = some c19 := KA.h19
@[simp] theorem full19 : full P 19 as = as := full_of hc19 rfl
theorem hc46 : P.fns[46]? = some c46 := KA.h46
@[simp] theorem full46 : full P 46 as = as := full_of hc46 rfl
@[simp] theorem pm0_0 : P.meth 0 0 = some 6 := KA.m0_0
@[simp] theorem pm0_1 : P.meth 0 1 = some 7 := KA.m0_1
@[simp] theorem pm0_6 : P.meth 0 6 = some 8 := KA.m0_6
@[simp] theorem pm0_7 : P.meth 0 7 = some 9 := KA.m0_7
@[simp] theorem pm0_8 : P.meth 0 8 = some 10 := KA.m0_8
@[simp] theorem pm0_9 : P.meth 0 9 = some 11 := KA.m0_9
@[simp] theorem pm0_10 : P.meth 0 10 = some 12 := KA.m0_10
@[simp] theorem pm0_11 : P.meth 0 11 = some 13 := KA.m0_11
@[simp] theorem pm0_12 : P.meth 0 12 = some 14 := KA.m0_12
@[simp] theorem pm0_3 : P.meth 0 3 = some 15 := KA.m0_3
@[simp] theorem pm0_2 : P.meth 0 2 = some 16 := KA.m0_2
@[simp] theorem pm0_5 : P.meth 0 5 = some 17 := KA.m0_5
@[simp] theorem pm0_4 : P.meth 0 4 = some 18 := KA.m0_4
@[simp] theorem pm1_1 : P.meth 1 1 = some 36 := KA.m1_1
theorem pk0 : ∃ ms, P.cl 0 = some { name := "Region", attrs := [22, 21], meths := ms } := KA.k0
theorem pk1 : ∃ ms, P.cl 1 = some { name := "Space", attrs := [23, 21], meths := ms } := KA.k1
end
end TD

set_option Elab.async false
set_option linter.all false
set_option maxRecDepth 100000
set_option maxHeartbeats 4000000
set_option autoImplicit false
/-! %s: what shared texts ask of a law's program (printed by kspec.py). -/
namespace TD
open PySem
open L2 (V)
def natsZ (o : List Nat) : List Int := o.map fun k => ((k : Nat) : Int)
def oT (o : List Nat) : D := .tup ((natsZ o).map .int)

class KB (P : Prog) : Prop extends KA P where
  h23 : P.fns[23]? = some c23
  h20 : P.fns[20]? = some c20
  h21 : P.fns[21]? = some c21
  h22 : P.fns[22]? = some c22
  h24 : P.fns[24]? = some c24
  h37 : P.fns[37]? = some c37
  h38 : P.fns[38]? = some c38
  h44 : P.fns[44]? = some c44
  g3 : P.globs[3]? = some (("MOST_REGIONS", D.int (12)) : Str × D)
  al1 : ∀ (W n b : Nat) (S : Store), callF P (W + 140) (n + 5) b 24 [.int 1] S = .ok (.lst ((lotsL 1).map oT)) S
  al2 : ∀ (W n b : Nat) (S : Store), callF P (W + 140) (n + 5) b 24 [.int 2] S = .ok (.lst ((lotsL 2).map oT)) S
  al3 : ∀ (W n b : Nat) (S : Store), callF P (W + 140) (n + 5) b 24 [.int 3] S = .ok (.lst ((lotsL 3).map oT)) S
  al4 : ∀ (W n b : Nat) (S : Store), callF P (W + 140) (n + 5) b 24 [.int 4] S = .ok (.lst ((lotsL 4).map oT)) S
  al5 : ∀ (W n b : Nat) (S : Store), callF P (W + 140) (n + 5) b 24 [.int 5] S = .ok (.lst ((lotsL 5).map oT)) S
  al6 : ∀ (W n b : Nat) (S : Store), callF P (W + 140) (n + 5) b 24 [.int 6] S = .ok (.lst ((lotsL 6).map oT)) S
  ll0 : ∀ (W n b : Nat) (S : Store), callF P (W + 60) (n + 3) b 38 [.int 0] S = .ok (.lst ((lotsL 0).map oT)) S
  ll1 : ∀ (W n b : Nat) (S : Store), callF P (W + 60) (n + 3) b 38 [.int 1] S = .ok (.lst ((lotsL 1).map oT)) S
  ll2 : ∀ (W n b : Nat) (S : Store), callF P (W + 60) (n + 3) b 38 [.int 2] S = .ok (.lst ((lotsL 2).map oT)) S
  ll3 : ∀ (W n b : Nat) (S : Store), callF P (W + 60) (n + 3) b 38 [.int 3] S = .ok (.lst ((lotsL 3).map oT)) S
  ll4 : ∀ (W n b : Nat) (S : Store), callF P (W + 60) (n + 3) b 38 [.int 4] S = .ok (.lst ((lotsL 4).map oT)) S
  ll5 : ∀ (W n b : Nat) (S : Store), callF P (W + 60) (n + 3) b 38 [.int 5] S = .ok (.lst ((lotsL 5).map oT)) S
  ll6 : ∀ (W n b : Nat) (S : Store), callF P (W + 60) (n + 3) b 38 [.int 6] S = .ok (.lst ((lotsL 6).map oT)) S

section
variable {P : Prog} [KB P] {as : List D}
theorem hc23 : P.fns[23]? = some c23 := KB.h23
@[simp] theorem full23 : full P 23 as = as := full_of hc23 rfl
theorem hc20 : P.fns[20]? = some c20 := KB.h20
@[simp] theorem full20 : full P 20 as = as := full_of hc20 rfl
theorem hc21 : P.fns[21]? = some c21 := KB.h21
@[simp] theorem full21 : full P 21 as = as := full_of hc21 rfl
theorem hc22 : P.fns[22]? = some c22 := KB.h22
@[simp] theorem full22 : full P 22 as = as := full_of hc22 rfl
theorem hc24 : P.fns[24]? = some c24 := KB.h24
@[simp] theorem full24 : full P 24 as = as := full_of hc24 rfl
theorem hc37 : P.fns[37]? = some c37 := KB.h37
@[simp] theorem full37 : full P 37 as = as := full_of hc37 rfl
theorem hc38 : P.fns[38]? = some c38 := KB.h38
@[simp] theorem full38 : full P 38 as = as := full_of hc38 rfl
theorem hc44 : P.fns[44]? = some c44 := KB.h44
@[simp] theorem full44 : full P 44 as = as := full_of hc44 rfl
theorem pg3 : (P.globs[3]?).map (fun p => p.2) = some (D.int (12)) := by rw [KB.g3]; rfl
end
end TD

set_option Elab.async false
set_option linter.all false
set_option maxRecDepth 100000
set_option maxHeartbeats 4000000
set_option autoImplicit false
/-! KTB: programs that hold a def and all that it calls (printed by tcls.py). -/
namespace TD
open PySem
open L2 (V)
/-- common_divisor -/
class T52 (P : Prog) : Prop where
  h52 : P.fns[52]? = some c52
section
variable {P : Prog} [T52 P] {as : List D}
theorem hc52 : P.fns[52]? = some c52 := T52.h52
@[simp] theorem full52 : full P 52 as = as := full_of hc52 rfl
end
/-- lowest -/
class T53 (P : Prog) : Prop extends T52 P where
  h53 : P.fns[53]? = some c53
section
variable {P : Prog} [T53 P] {as : List D}
theorem hc53 : P.fns[53]? = some c53 := T53.h53
@[simp] theorem full53 : full P 53 as = as := full_of hc53 rfl
end
/-- minus -/
class T54 (P : Prog) : Prop extends T53 P where
  h54 : P.fns[54]? = some c54
section
variable {P : Prog} [T54 P] {as : List D}
theorem hc54 : P.fns[54]? = some c54 := T54.h54
@[simp] theorem full54 : full P 54 as = as := full_of hc54 rfl
end
/-- times -/
class T55 (P : Prog) : Prop extends T53 P where
  h55 : P.fns[55]? = some c55
section
variable {P : Prog} [T55 P] {as : List D}
theorem hc55 : P.fns[55]? = some c55 := T55.h55
@[simp] theorem full55 : full P 55 as = as := full_of hc55 rfl
end
/-- over -/
class T56 (P : Prog) : Prop extends T53 P where
  h56 : P.fns[56]? = some c56
section
variable {P : Prog} [T56 P] {as : List D}
theorem hc56 : P.fns[56]? = some c56 := T56.h56
@[simp] theorem full56 : full P 56 as = as := full_of hc56 rfl
end
/-- whole_row -/
class T57 (P : Prog) : Prop where
  h57 : P.fns[57]? = some c57
section
variable {P : Prog} [T57 P] {as : List D}
theorem hc57 : P.fns[57]? = some c57 := T57.h57
@[simp] theorem full57 : full P 57 as = as := full_of hc57 rfl
end
/-- without -/
class T58 (P : Prog) : Prop extends T54 P, T55 P where
  h58 : P.fns[58]? = some c58
section
variable {P : Prog} [T58 P] {as : List D}
theorem hc58 : P.fns[58]? = some c58 := T58.h58
@[simp] theorem full58 : full P 58 as = as := full_of hc58 rfl
end
/-- scaled_to -/
class T59 (P : Prog) : Prop extends T56 P where
  h59 : P.fns[59]? = some c59
section
variable {P : Prog} [T59 P] {as : List D}
theorem hc59 : P.fns[59]? = some c59 := T59.h59
@[simp] theorem full59 : full P 59 as = as := full_of hc59 rfl
end
/-- stairs -/
class T60 (P : Prog) : Prop extends T58 P, T59 P where
  h60 : P.fns[60]? = some c60
section
variable {P : Prog} [T60 P] {as : List D}
theorem hc60 : P.fns[60]? = some c60 := T60.h60
@[simp] theorem full60 : full P 60 as = as := full_of hc60 rfl
end
/-- marked -/
class T61 (P : Prog) : Prop where
  h61 : P.fns[61]? = some c61
section
variable {P : Prog} [T61 P] {as : List D}
theorem hc61 : P.fns[61]? = some c61 := T61.h61
@[simp] theorem full61 : full P 61 as = as := full_of hc61 rfl
end
/-- combination -/
class T62 (P : Prog) : Prop extends T53 P, T58 P, T60 P, T61 P where
  h62 : P.fns[62]? = some c62
  g8 : P.globs[8]? = some (("ZERO", D.tup [D.int (0), D.int (1)]) : Str × D)
section
variable {P : Prog} [T62 P] {as : List D}
theorem hc62 : P.fns[62]? = some c62 := T62.h62
@[simp] theorem full62 : full P 62 as = as := full_of hc62 rfl
theorem pg8_62 : (P.globs[8]?).map (fun p => p.2) = some (D.tup [D.int (0), D.int (1)]) := by rw [T62.g8]; rfl
end
/-- check_like -/
class T63 (P : Prog) : Prop extends KB P where
  h63 : P.fns[63]? = some c63
section
variable {P : Prog} [T63 P] {as : List D}
theorem hc63 : P.fns[63]? = some c63 := T63.h63
@[simp] theorem full63 : full P 63 as = as := full_of hc63 rfl
end
/-- is_lot -/
class T64 (P : Prog) : Prop extends KA P where
  h64 : P.fns[64]? = some c64
section
variable {P : Prog} [T64 P] {as : List D}
theorem hc64 : P.fns[64]? = some c64 := T64.h64
@[simp] theorem full64 : full P 64 as = as := full_of hc64 rfl
end
/-- check_lot -/
class T65 (P : Prog) : Prop extends T64 P where
  h65 : P.fns[65]? = some c65
section
variable {P : Prog} [T65 P] {as : List D}
theorem hc65 : P.fns[65]? = some c65 := T65.h65
@[simp] theorem full65 : full P 65 as = as := full_of hc65 rfl
end
/-- rows_of -/
class T66 (P : Prog) : Prop extends KA P, T57 P where
  h66 : P.fns[66]? = some c66
section
variable {P : Prog} [T66 P] {as : List D}
theorem hc66 : P.fns[66]? = some c66 := T66.h66
@[simp] theorem full66 : full P 66 as = as := full_of hc66 rfl
end
/-- picked -/
class T67 (P : Prog) : Prop where
  h67 : P.fns[67]? = some c67
section
variable {P : Prog} [T67 P] {as : List D}
theorem hc67 : P.fns[67]? = some c67 := T67.h67
@[simp] theorem full67 : full P 67 as = as := full_of hc67 rfl
end
/-- rest_of -/
class T68 (P : Prog) : Prop where
  h68 : P.fns[68]? = some c68
section
variable {P : Prog} [T68 P] {as : List D}
theorem hc68 : P.fns[68]? = some c68 := T68.h68
@[simp] theorem full68 : full P 68 as = as := full_of hc68 rfl
end
/-- is_inside -/
class T69 (P : Prog) : Prop where
  h69 : P.fns[69]? = some c69
section
variable {P : Prog} [T69 P] {as : List D}
theorem hc69 : P.fns[69]? = some c69 := T69.h69
@[simp] theorem full69 : full P 69 as = as := full_of hc69 rfl
end
/-- least_of -/
class T70 (P : Prog) : Prop extends KB P, T69 P where
  h70 : P.fns[70]? = some c70
section
variable {P : Prog} [T70 P] {as : List D}
theorem hc70 : P.fns[70]? = some c70 := T70.h70
@[simp] theorem full70 : full P 70 as = as := full_of hc70 rfl
end
/-- tells_by -/
class T71 (P : Prog) : Prop extends T62 P, T67 P where
  h71 : P.fns[71]? = some c71
section
variable {P : Prog} [T71 P] {as : List D}
theorem hc71 : P.fns[71]? = some c71 := T71.h71
@[simp] theorem full71 : full P 71 as = as := full_of hc71 rfl
end
/-- is_left -/
class T72 (P : Prog) : Prop extends KA P, T57 P, T63 P, T65 P, T66 P, T68 P, T71 P where
  h72 : P.fns[72]? = some c72
section
variable {P : Prog} [T72 P] {as : List D}
theorem hc72 : P.fns[72]? = some c72 := T72.h72
@[simp] theorem full72 : full P 72 as = as := full_of hc72 rfl
end
/-- telling_lots -/
class T73 (P : Prog) : Prop extends KB P, T57 P, T63 P, T66 P, T70 P, T71 P where
  h73 : P.fns[73]? = some c73
section
variable {P : Prog} [T73 P] {as : List D}
theorem hc73 : P.fns[73]? = some c73 := T73.h73
@[simp] theorem full73 : full P 73 as = as := full_of hc73 rfl
end
/-- losing_lots -/
class T74 (P : Prog) : Prop extends KB P, T57 P, T63 P, T66 P, T68 P, T70 P, T71 P where
  h74 : P.fns[74]? = some c74
section
variable {P : Prog} [T74 P] {as : List D}
theorem hc74 : P.fns[74]? = some c74 := T74.h74
@[simp] theorem full74 : full P 74 as = as := full_of hc74 rfl
end
/-- strength -/
class T75 (P : Prog) : Prop extends T74 P where
  h75 : P.fns[75]? = some c75
section
variable {P : Prog} [T75 P] {as : List D}
theorem hc75 : P.fns[75]? = some c75 := T75.h75
@[simp] theorem full75 : full P 75 as = as := full_of hc75 rfl
end
/-- Space.empty -/
class T76 (P : Prog) : Prop extends KA P where
  h76 : P.fns[76]? = some c76
  m1_24 : P.meth 1 24 = some 76
section
variable {P : Prog} [T76 P] {as : List D}
theorem hc76 : P.fns[76]? = some c76 := T76.h76
@[simp] theorem full76 : full P 76 as = as := full_of hc76 rfl
@[simp] theorem pm1_24 : P.meth 1 24 = some 76 := T76.m1_24
end
/-- _law_inside -/
class T77 (P : Prog) : Prop where
  h77 : P.fns[77]? = some c77
section
variable {P : Prog} [T77 P] {as : List D}
theorem hc77 : P.fns[77]? = some c77 := T77.h77
@[simp] theorem full77 : full P 77 as = as := full_of hc77 rfl
end
/-- _law_least -/
class T78 (P : Prog) : Prop extends T77 P where
  h78 : P.fns[78]? = some c78
section
variable {P : Prog} [T78 P] {as : List D}
theorem hc78 : P.fns[78]? = some c78 := T78.h78
@[simp] theorem full78 : full P 78 as = as := full_of hc78 rfl
end
/-- _law_rank -/
class T79 (P : Prog) : Prop where
  h79 : P.fns[79]? = some c79
section
variable {P : Prog} [T79 P] {as : List D}
theorem hc79 : P.fns[79]? = some c79 := T79.h79
@[simp] theorem full79 : full P 79 as = as := full_of hc79 rfl
end
/-- _law_tells -/
class T80 (P : Prog) : Prop extends T79 P where
  h80 : P.fns[80]? = some c80
section
variable {P : Prog} [T80 P] {as : List D}
theorem hc80 : P.fns[80]? = some c80 := T80.h80
@[simp] theorem full80 : full P 80 as = as := full_of hc80 rfl
end
/-- _law_rest -/
class T81 (P : Prog) : Prop where
  h81 : P.fns[81]? = some c81
section
variable {P : Prog} [T81 P] {as : List D}
theorem hc81 : P.fns[81]? = some c81 := T81.h81
@[simp] theorem full81 : full P 81 as = as := full_of hc81 rfl
end
/-- _law_meets -/
class T82 (P : Prog) : Prop extends KB P, T78 P where
  h82 : P.fns[82]? = some c82
section
variable {P : Prog} [T82 P] {as : List D}
theorem hc82 : P.fns[82]? = some c82 := T82.h82
@[simp] theorem full82 : full P 82 as = as := full_of hc82 rfl
end
end TD

set_option Elab.async false
set_option linter.all false
set_option maxRecDepth 100000
set_option maxHeartbeats 0
set_option autoImplicit false
namespace TD
open PySem PySem.Spec PyProof.Rows L2

instance : KA prog where
  h1 := rfl
  h2 := rfl
  h4 := rfl
  h5 := rfl
  h6 := rfl
  h7 := rfl
  h8 := rfl
  h9 := rfl
  h10 := rfl
  h11 := rfl
  h12 := rfl
  h13 := rfl
  h14 := rfl
  h15 := rfl
  h16 := rfl
  h17 := rfl
  h18 := rfl
  h36 := rfl
  h40 := rfl
  h42 := rfl
  h43 := rfl
  h45 := rfl
  h39 := rfl
  h41 := rfl
  h19 := rfl
  h46 := rfl
  m0_0 := rfl
  m0_1 := rfl
  m0_6 := rfl
  m0_7 := rfl
  m0_8 := rfl
  m0_9 := rfl
  m0_10 := rfl
  m0_11 := rfl
  m0_12 := rfl
  m0_3 := rfl
  m0_2 := rfl
  m0_5 := rfl
  m0_4 := rfl
  m1_1 := rfl
  k0 := ⟨_, rfl⟩
  k1 := ⟨_, rfl⟩
  mk22 := fun W n b S => by kernel_rfl
  mk23 := fun W n b S => by kernel_rfl
  mk12 := fun W n b S => by kernel_rfl
  mk13 := fun W n b S => by kernel_rfl
  mk14 := fun W n b S => by kernel_rfl
  mk15 := fun W n b S => by kernel_rfl
instance : KB prog where
  toKA := inferInstance
  h23 := rfl
  h20 := rfl
  h21 := rfl
  h22 := rfl
  h24 := rfl
  h37 := rfl
  h38 := rfl
  h44 := rfl
  g3 := rfl
  al1 := fun W n b S => by rw [callF_def (fd := c24) rfl rfl rfl rfl]; kernel_rfl
  al2 := fun W n b S => by rw [callF_def (fd := c24) rfl rfl rfl rfl]; kernel_rfl
  al3 := fun W n b S => by rw [callF_def (fd := c24) rfl rfl rfl rfl]; kernel_rfl
  al4 := fun W n b S => by rw [callF_def (fd := c24) rfl rfl rfl rfl]; kernel_rfl
  al5 := fun W n b S => by rw [callF_def (fd := c24) rfl rfl rfl rfl]; kernel_rfl
  al6 := fun W n b S => by rw [callF_def (fd := c24) rfl rfl rfl rfl]; kernel_rfl
  ll0 := fun W n b S => by rw [callF_def (fd := c38) rfl rfl rfl rfl]; kernel_rfl
  ll1 := fun W n b S => by rw [callF_def (fd := c38) rfl rfl rfl rfl]; kernel_rfl
  ll2 := fun W n b S => by rw [callF_def (fd := c38) rfl rfl rfl rfl]; kernel_rfl
  ll3 := fun W n b S => by rw [callF_def (fd := c38) rfl rfl rfl rfl]; kernel_rfl
  ll4 := fun W n b S => by rw [callF_def (fd := c38) rfl rfl rfl rfl]; kernel_rfl
  ll5 := fun W n b S => by rw [callF_def (fd := c38) rfl rfl rfl rfl]; kernel_rfl
  ll6 := fun W n b S => by rw [callF_def (fd := c38) rfl rfl rfl rfl]; kernel_rfl
instance : T52 prog where
  h52 := rfl
instance : T53 prog where
  h53 := rfl
instance : T54 prog where
  h54 := rfl
instance : T55 prog where
  h55 := rfl
instance : T56 prog where
  h56 := rfl
instance : T57 prog where
  h57 := rfl
instance : T58 prog where
  h58 := rfl
instance : T59 prog where
  h59 := rfl
instance : T60 prog where
  h60 := rfl
instance : T61 prog where
  h61 := rfl
instance : T62 prog where
  h62 := rfl
  g8 := rfl
instance : T63 prog where
  h63 := rfl
instance : T64 prog where
  h64 := rfl
instance : T65 prog where
  h65 := rfl
instance : T66 prog where
  h66 := rfl
instance : T67 prog where
  h67 := rfl
instance : T68 prog where
  h68 := rfl
instance : T69 prog where
  h69 := rfl
instance : T70 prog where
  h70 := rfl
instance : T71 prog where
  h71 := rfl
instance : T72 prog where
  h72 := rfl
instance : T73 prog where
  h73 := rfl
instance : T74 prog where
  h74 := rfl
instance : T75 prog where
  h75 := rfl
instance : T76 prog where
  h76 := rfl
  m1_24 := rfl
instance : T77 prog where
  h77 := rfl
instance : T78 prog where
  h78 := rfl
instance : T79 prog where
  h79 := rfl
instance : T80 prog where
  h80 := rfl
instance : T81 prog where
  h81 := rfl
instance : T82 prog where
  h82 := rfl
end TD

set_option Elab.async false
set_option linter.all false
set_option maxRecDepth 100000
set_option autoImplicit false
/-! L01D: the law's body in pieces (printed by split.py); its names: ["script", "hand", "turn", "space", "tell", "lose", "again", "regions", "region", "rows", "target", "many", "lot", "one"] -/
namespace TD
open PySem
open L2 (V)
def t01_0 : Sx := .asg (.nm 1) (.call 39 (.cons (.var 0) .nil))
def t01_1_0 : Sx := .asg (.nm 3) (.call 41 (.cons (.var 1) (.cons (.lit (.bl false)) .nil)))
def t01_1_1 : Sx := .asgP [7, 8] (.cons (.call 44 (.cons (.var 1) (.cons (.var 3) (.cons (.lit (.int 6)) .nil)))) (.cons (.call 43 (.cons (.var 1) (.cons (.var 3) .nil))) .nil))
def t01_1_2 : Sx := .iff (.cmp .eq (.call 40 (.cons (.var 1) (.cons (.lit (.int 2)) .nil))) (.lit (.int 0))) (.cons (.asg (.nm 8) (.call 42 (.cons (.var 1) (.cons (.lst false (.cons (.bin false .bor (.idx (.var 7) (.lit (.int 0))) (.idx (.var 7) (.neg (.lit (.int 1))))) (.cons (.bin false .bxor (.idx (.var 7) (.lit (.int 0))) (.idx (.var 7) (.neg (.lit (.int 1))))) (.cons (.idx (.var 7) (.neg (.lit (.int 1)))) (.cons (.meth (.var 3) 24 .nil) .nil))))) .nil)))) .nil) .nil
def t01_1_3 : Sx := .asgP [9, 10, 11] (.cons (.comp false [("one", 13)] (.call 45 (.cons (.var 13) .nil)) (.nm 13) .val (.cons (.var 7) .nil) .nil) (.cons (.call 45 (.cons (.var 8) .nil)) (.cons (.bf .len false (.cons (.var 7) .nil)) .nil)))
def t01_1_4 : Sx := .asg (.nm 4) (.call 78 (.cons (.comp false [("lot", 12)] (.var 12) (.nm 12) .val (.cons (.call 38 (.cons (.var 11) .nil)) .nil) (.cons (.call 80 (.cons (.var 9) (.cons (.var 12) (.cons (.var 10) .nil)))) .nil)) .nil))
def t01_1_5 : Sx := .asg (.nm 5) (.call 78 (.cons (.comp false [("lot", 12)] (.var 12) (.nm 12) .val (.cons (.call 38 (.cons (.var 11) .nil)) .nil) (.cons (.not (.call 80 (.cons (.var 9) (.cons (.call 81 (.cons (.var 11) (.cons (.var 12) .nil))) (.cons (.var 10) .nil))))) .nil)) .nil))
def t01_1_6 : Sx := .iff (.not (.call 46 (.cons (.lst false (.cons (.call 73 (.cons (.var 7) (.cons (.var 8) .nil))) (.cons (.call 74 (.cons (.var 7) (.cons (.var 8) .nil))) .nil))) (.cons (.lst false (.cons (.var 4) (.cons (.var 5) .nil))) .nil)))) (.cons (.ret (.lit (.bl false))) .nil) .nil
def t01_1_7 : Sx := .iff (.not (.call 46 (.cons (.call 75 (.cons (.var 7) (.cons (.var 8) .nil))) (.cons (.ite (.cmp .ne (.var 5) (.lst false .nil)) (.bf .len false (.cons (.idx (.var 5) (.lit (.int 0))) .nil)) (.lit .non)) .nil)))) (.cons (.ret (.lit (.bl false))) .nil) .nil
def t01_1_8 : Sx := .iff (.and (.cmp .ne (.call 82 (.cons (.var 4) (.cons (.var 11) .nil))) (.ite (.cmp .ne (.var 4) (.lst false .nil)) (.var 5) (.lst false (.cons (.tup .nil) .nil)))) (.cmp .ne (.var 4) (.lst false (.cons (.tup .nil) .nil)))) (.cons (.ret (.lit (.bl false))) .nil) .nil
def t01_1_9 : Sx := .iff (.and (.cmp .notin (.var 5) (.tup (.cons (.lst false .nil) (.cons (.lst false (.cons (.tup .nil) .nil)) .nil)))) (.cmp .ne (.call 82 (.cons (.var 5) (.cons (.var 11) .nil))) (.var 4))) (.cons (.ret (.lit (.bl false))) .nil) .nil
def t01_1_10_0 : Sx := .asg (.nm 12) (.call 42 (.cons (.var 1) (.cons (.call 38 (.cons (.var 11) .nil)) .nil)))
def t01_1_10_1 : Sx := .iff (.not (.call 46 (.cons (.call 72 (.cons (.var 7) (.cons (.var 12) (.cons (.var 8) .nil)))) (.cons (.call 80 (.cons (.var 9) (.cons (.call 81 (.cons (.var 11) (.cons (.var 12) .nil))) (.cons (.var 10) .nil)))) .nil)))) (.cons (.ret (.lit (.bl false))) .nil) .nil
def t01_1_10_2 : Sx := .iff (.cmp .ne (.call 72 (.cons (.var 7) (.cons (.var 12) (.cons (.var 8) .nil)))) (.not (.bf .any false (.cons (.comp false [("one", 13)] (.call 77 (.cons (.var 13) (.cons (.var 12) .nil))) (.nm 13) .val (.cons (.var 5) .nil) .nil) .nil)))) (.cons (.ret (.lit (.bl false))) .nil) .nil
def t01_1_10B : Sx := .cons t01_1_10_0 (.cons t01_1_10_1 (.cons t01_1_10_2 .nil))
def t01_1_10 : Sx := .loop (.nm 6) .range (.cons (.lit (.int 4)) .nil) t01_1_10B
def t01_1B : Sx := .cons t01_1_0 (.cons t01_1_1 (.cons t01_1_2 (.cons t01_1_3 (.cons t01_1_4 (.cons t01_1_5 (.cons t01_1_6 (.cons t01_1_7 (.cons t01_1_8 (.cons t01_1_9 (.cons t01_1_10 .nil))))))))))
def t01_1 : Sx := .loop (.nm 2) .range (.cons (.lit (.int 3)) .nil) t01_1B
def t01_2 : Sx := .ret (.lit (.bl true))
theorem c83_body : c83.body = .cons t01_0 (.cons t01_1 (.cons t01_2 .nil)) := rfl
end TD

set_option Elab.async false
set_option linter.all false
set_option maxRecDepth 100000
set_option maxHeartbeats 4000000
set_option autoImplicit false
/-! WA: regions in the small language. -/
namespace TD
open PySem
open L2 (V)
structure OkS (ax : D) (U : List (List Str)) : Prop where
  pure : ax.lo 0 = true
  eq : eqD [] ax ax = some true
  cls : clsOf [] ax = none
  ok : U.all okC = true
  len : U.length ≤ 24
section
variable {ax : D} {U xs ys zs : List (List Str)} {P : Prog} [KA P] {W n b : Nat} {S : Store}
theorem sp_pure (h : OkS ax U) : (Sp ax U).lo 0 = true := by
  simp [Sp, D.lo, D.loL, h.pure, pure_cells]
theorem rg_pure (h : OkS ax U) : (Rg ax U xs).lo 0 = true := by
  simp [Rg, D.lo, D.loL, sp_pure h, pure_cells]
@[simp] theorem sp_ty : tyOf S (Sp ax U) = some (.own 1) := rfl
@[simp] theorem rg_ty : tyOf S (Rg ax U xs) = some (.own 0) := rfl
@[simp] theorem cell_ty {c : List Str} : tyOf S (cellD c) = some (.bi "tuple") := rfl
@[simp] theorem sp_cls : clsOf S (Sp ax U) = some 1 := rfl
@[simp] theorem rg_cls : clsOf S (Rg ax U xs) = some 0 := rfl
@[simp] theorem tup_cls {ds : List D} : clsOf S (.tup ds) = none := rfl
@[simp] theorem lst_cls {ds : List D} : clsOf S (.lst ds) = none := rfl
@[simp] theorem int_cls {i : Int} : clsOf S (.int i) = none := rfl
@[simp] theorem bl_cls {i : Bool} : clsOf S (.bl i) = none := rfl
@[simp] theorem cell_cls {c : List Str} : clsOf S (cellD c) = none := rfl
@[simp] theorem sp_axes : fieldOf P S (Sp ax U) 23 = some ax := by
  obtain ⟨ms, e⟩ := pk1 (P := P); simp [fieldOf, Sp, e] <;> rfl
@[simp] theorem sp_cells : fieldOf P S (Sp ax U) 21 = some (.tup (U.map cellD)) := by
  obtain ⟨ms, e⟩ := pk1 (P := P); simp [fieldOf, Sp, e] <;> rfl
@[simp] theorem rg_space : fieldOf P S (Rg ax U xs) 22 = some (Sp ax U) := by
  obtain ⟨ms, e⟩ := pk0 (P := P); simp [fieldOf, Rg, e] <;> rfl
@[simp] theorem rg_cells : fieldOf P S (Rg ax U xs) 21 = some (.tup (xs.map cellD)) := by
  obtain ⟨ms, e⟩ := pk0 (P := P); simp [fieldOf, Rg, e] <;> rfl
@[simp] theorem isTy_own (a c : Nat) : isTy (.own a) (.own c) = decide (a = c) := by simp [isTy]
@[simp] theorem isTy_tt : isTy (.bi "tuple") (.bi "tuple") = true := by decide
@[simp] theorem boolR_ok (b : Bool) (f : Bool → Bool) : boolR (.ok (.bl b) S) f = .ok (.bl (f b)) S := rfl
theorem space_eq (h : OkS ax U) : callF P W (n + 1) b 36 [Sp ax U, Sp ax U] S = .ok (.bl true) S := by
  rw [callF_def (P := P) (fd := c36) hc36 rfl rfl (by simp [D.loL, sp_pure h])]
  simp [c36, TD.start, getS, opCmp, h.cls, h.eq, fin, frz_pure, D.lo]
theorem same_space (h : OkS ax U) : callF P W (n + 2) b 5 [Sp ax U, Sp ax U] S = .ok .non S := by
  rw [callF_def (P := P) (fd := c5) hc5 rfl rfl (by simp [D.loL, sp_pure h])]
  simp [c5, TD.start, getS, opCmp, space_eq h, fin, frz_pure, D.lo, COp.dun]
theorem is_cell (h : OkS ax U) {c : List Str} (hc : c ∈ U) : callF P W (n + 1) b 4 [Sp ax U, cellD c] S = .ok (.bl true) S := by
  have hk : okC c = true := List.all_eq_true.mp h.ok c hc
  rw [callF_def (P := P) (fd := c4) hc4 rfl rfl (by simp [D.loL, sp_pure h, cell_pure])]
  simp [c4, TD.start, getS, opCmp, dunOf, in_tup hk h.ok, hc, fin, frz_pure, D.lo]
theorem region_eq (h : OkS ax U) (hx : xs.all okC = true) (hy : ys.all okC = true) : callF P W (n + 2) b 7 [Rg ax U xs, Rg ax U ys] S = .ok (.bl (decide (xs = ys))) S := by
  rw [callF_def (P := P) (fd := c7) hc7 rfl rfl (by simp [D.loL, rg_pure h])]
  simp [c7, TD.start, getS, opCmp, space_eq h, eqD_cells hx hy, fin, frz_pure, D.lo]
theorem region_len (hx : xs.length ≤ 24) (h : OkS ax U) : callF P W (n + 1) b 8 [Rg ax U xs] S = .ok (.int xs.length) S := by
  rw [callF_def (P := P) (fd := c8) hc8 rfl rfl (by simp [D.loL, rg_pure h])]
  simp [c8, TD.start, getS, opBf, dunOf, seqA, fin, frz_pure, D.lo, argsOf]
theorem region_in (h : OkS ax U) (hx : xs.all okC = true) {c : List Str} (hc : okC c = true) : callF P W (n + 1) b 9 [Rg ax U xs, cellD c] S = .ok (.bl (decide (c ∈ xs))) S := by
  rw [callF_def (P := P) (fd := c9) hc9 rfl rfl (by simp [D.loL, rg_pure h, cell_pure])]
  simp [c9, TD.start, getS, opCmp, dunOf, in_tup hc hx, fin, frz_pure, D.lo]
/-- either kind of a sequence of cells -/
def Sq (d : D) (zs : List (List Str)) : Prop := d = .tup (zs.map cellD) ∨ d = .lst (zs.map cellD)
theorem Sq.seq {d : D} (q : Sq d zs) : seqA S d = some (zs.map cellD) := by rcases q with rfl | rfl <;> rfl
theorem Sq.pure {d : D} (q : Sq d zs) : d.lo 0 = true := by rcases q with rfl | rfl <;> simp [D.lo, pure_cells]
theorem Sq.in_ {d : D} (q : Sq d zs) (hz : zs.all okC = true) {c : List Str} (hc : okC c = true) : inD S (cellD c) d = some (decide (c ∈ zs)) := by
  rcases q with rfl | rfl
  · exact in_tup hc hz
  · exact in_lst hc hz
theorem Sq.cls {d : D} (q : Sq d zs) : clsOf S d = none := by rcases q with rfl | rfl <;> rfl
theorem Sq.items {d : D} (q : Sq d zs) : itemsOf .val [d] S = some (zs.map cellD) := by rcases q with rfl | rfl <;> rfl
theorem Sq.refs {d : D} (q : Sq d zs) : refsOf [d] = [] := by rcases q with rfl | rfl <;> rfl
theorem all_sub (h : U.all okC = true) (hz : ∀ z ∈ zs, z ∈ U) : zs.all okC = true := by
  rw [List.all_eq_true] at h ⊢
  exact fun z q => h z (hz z q)
theorem init_ok (h : OkS ax U) (hz : ∀ z ∈ zs, z ∈ U) {d : D} (q : Sq d zs) : callF P W (n + 2) b 6 [.ref 0, Sp ax U, d] [.ins 0 []] = .ok .non [.ins 0 [(22, Sp ax U), (21, .tup ((pick U zs).map cellD))]] := by
  have hk := all_sub h.ok hz
  rw [callF_st (P := P) (fd := c6) hc6 rfl (by simp [c6, D.lo])]
  simp only [c6, TD.start, List.map_cons, List.map_nil, List.length_cons, List.length_nil, List.cons_append, List.nil_append, List.replicate]
  rw [s_cons, s_loop (items := zs.map cellD) (by simp) q.items q.refs]
  obtain ⟨σ', S', e, h1⟩ := forL_inv (f := loopF (.nm 3) (exec ⟨callF P W (n + 1), P, 1, W⟩ (.cons (.iff (.not (.call 4 (.cons (.var 1) (.cons (.var 3) (.nil))))) (.cons (.never) (.nil)) (.nil)) (.nil)))) (e := cellD) (fun σ S => S = [.ins 0 []] ∧ ∃ v, σ = [some (.ref 0), some (Sp ax U), some d, v]) zs (fun c hc σ S hI => by
    obtain ⟨rfl, v, rfl⟩ := hI
    refine ⟨[some (.ref 0), some (Sp ax U), some d, some (cellD c)], [.ins 0 []], ?_, rfl, _, rfl⟩
    simp [is_cell h (hz c hc)]) (σ := [some (.ref 0), some (Sp ax U), some d, none]) (S := [.ins 0 []]) ⟨rfl, _, rfl⟩
  obtain ⟨rfl, v, rfl⟩ := h1
  have c1 := compB_pure (own := [("cell", 3)]) (t := .nm 3) (k := .val) (src := ev ⟨callF P W (n + 1), P, 1, W⟩ (.cons (.fld (.var 1) 21) .nil)) (cs := ev ⟨callF P W (n + 1), P, 1, W⟩ (.cons (.cmp .isin (.var 3) (.var 2)) .nil)) (elt := ev ⟨callF P W (n + 1), P, 1, W⟩ (.var 3)) (σ := [some (.ref 0), some (Sp ax U), some d, v]) (S := [.ins 0 [(22, Sp ax U)]]) (as := [.tup (U.map cellD)]) (l := U) (e := cellD) (v := cellD) (p := fun c => decide (c ∈ zs))
    (by simp) rfl rfl (fun c hc => by
      have := q.in_ (S := [.ins 0 [(22, Sp ax U)]]) hk (List.all_eq_true.mp h.ok c hc)
      exact turn_if rfl (by simp [wipeD, opCmp, dunOf, q.cls, this]) fun _ => by simp [wipeD])
    (Nat.le_trans h.len (by decide))
  have ha : hasA P 0 21 = true ∧ hasA P 0 22 = true := by
    obtain ⟨ms, e⟩ := pk0 (P := P); simp [hasA, e]
  simp [e, setF, wrOk, sp_pure h, ha, putP, c1, opBf, seqA, seqL, D.lo, pure_cells, finL, leave, pick]
theorem mk_ok (h : OkS ax U) (hz : ∀ z ∈ zs, z ∈ U) {d : D} (q : Sq d zs) {mb : Nat} : mkB ⟨callF P W (n + 2), P, mb, W⟩ 0 [Sp ax U, d] S = .ok (Rg ax U (pick U zs)) S := by
  obtain ⟨ms, e⟩ := pk0 (P := P)
  have e2 : P.fns[6]? = some c6 := hc6
  have hp : [Sp ax U, d].all D.pure = true := by simp [sp_pure h, q.pure]
  have i := init_ok (P := P) (W := W) (n := n) (b := 0) h hz q
  simp [mkB, e, e2, hp, i, c6, D.loL, sp_pure h, D.lo, pure_cells, Rg]
end
end TD

set_option Elab.async false
set_option linter.all false
set_option maxRecDepth 100000
set_option maxHeartbeats 4000000
set_option autoImplicit false
/-! WB: the operators of regions. -/
namespace TD
open PySem
open L2 (V)
section
variable {ax : D} {U xs ys zs : List Cl} {P : Prog} [KA P] {W n b : Nat} {S : Store}
theorem Part.ok (h : OkS ax U) (p : Part U xs) : xs.all okC = true := all_sub h.ok p.sub
theorem Part.len (h : OkS ax U) (p : Part U xs) : xs.length ≤ 24 := by
  have : (pick U xs).length ≤ U.length := List.length_filter_le _ _
  rw [show pick U xs = xs from p] at this
  exact Nat.le_trans this h.len
theorem Part.szl (h : OkS ax U) (p : Part U xs) : xs.length ≤ szl := Nat.le_trans (p.len h) (by decide)
/-- the comprehension of the cells that p lets -/
theorem compF {k : Nat} {own : List (Str × Nat)} {t : Tg} {src cs elt : Ev} {σ : Sl} {p : Cl → Bool} (hs : src σ S = .ok (.tup [.tup (xs.map cellD)]) S) (ht : ∀ c ∈ xs, turnB t cs elt (wipeD σ (own.map (·.2))) (cellD c) S = .ok (if p c then [cellD c] else []) S) (hl : xs.length ≤ TD.szl) : compB false own t .val src cs elt σ S = .ok (.lst ((xs.filter p).map cellD)) S :=
  compB_pure hs rfl rfl ht hl
theorem and_ok (h : OkS ax U) (px : Part U xs) (py : Part U ys) : callF P W (n + 3) b 10 [Rg ax U xs, Rg ax U ys] S = .ok (Rg ax U (inter xs ys)) S := by
  rw [callF_def (P := P) (fd := c10) hc10 rfl rfl (by simp [D.loL, rg_pure h])]
  simp only [c10, TD.start, List.map_cons, List.map_nil, List.length_cons, List.length_nil, List.cons_append, List.nil_append, List.replicate]
  have c1 := compF (S := []) (k := 0) (own := [("cell", 2)]) (t := .nm 2) (src := ev ⟨callF P W (n + 2), P, 0, W⟩ (.cons (.fld (.var 0) 21) .nil)) (cs := ev ⟨callF P W (n + 2), P, 0, W⟩ (.cons (.cmp .isin (.var 2) (.fld (.var 1) 21)) .nil)) (elt := ev ⟨callF P W (n + 2), P, 0, W⟩ (.var 2)) (σ := [some (Rg ax U xs), some (Rg ax U ys), none]) (xs := xs) (p := fun c => decide (c ∈ ys)) (by simp)
    (fun c hc => turn_if rfl (by simp [wipeD, opCmp, dunOf, in_tup (List.all_eq_true.mp (px.ok h) c hc) (py.ok h)]) fun _ => by simp [wipeD]) (px.szl h)
  have m := mk_ok (P := P) (W := W) (n := n) (mb := 0) (S := []) h (zs := inter xs ys) (fun z hz => (part_inter px).sub z hz) (.inr rfl)
  rw [part_inter px] at m
  unfold inter at m ⊢
  simp [same_space h, c1, m, fin, frz_pure (rg_pure h)]
theorem or_ok (h : OkS ax U) (px : Part U xs) (py : Part U ys) : callF P W (n + 3) b 11 [Rg ax U xs, Rg ax U ys] S = .ok (Rg ax U (pick U (xs ++ ys))) S := by
  rw [callF_def (P := P) (fd := c11) hc11 rfl rfl (by simp [D.loL, rg_pure h])]
  simp only [c11, TD.start, List.map_cons, List.map_nil, List.length_cons, List.length_nil, List.cons_append, List.nil_append, List.replicate]
  have m := mk_ok (P := P) (W := W) (n := n) (mb := 0) (S := []) h (zs := xs ++ ys) (fun z hz => by
    rcases List.mem_append.mp hz with z | z
    · exact px.sub _ z
    · exact py.sub _ z) (.inl rfl)
  have hl : (xs.map cellD ++ ys.map cellD).length ≤ TD.szl := by
    have := px.len h; have := py.len h
    simp [TD.szl]; omega
  rw [List.map_append] at m
  simp [same_space h, opBin, newT_ok hl, m, fin, frz_pure (rg_pure h)]
theorem sub_ok (h : OkS ax U) (px : Part U xs) (py : Part U ys) : callF P W (n + 3) b 12 [Rg ax U xs, Rg ax U ys] S = .ok (Rg ax U (xs.filter fun c => !decide (c ∈ ys))) S := by
  rw [callF_def (P := P) (fd := c12) hc12 rfl rfl (by simp [D.loL, rg_pure h])]
  simp only [c12, TD.start, List.map_cons, List.map_nil, List.length_cons, List.length_nil, List.cons_append, List.nil_append, List.replicate]
  have c1 := compF (S := []) (k := 0) (own := [("cell", 2)]) (t := .nm 2) (src := ev ⟨callF P W (n + 2), P, 0, W⟩ (.cons (.fld (.var 0) 21) .nil)) (cs := ev ⟨callF P W (n + 2), P, 0, W⟩ (.cons (.cmp .notin (.var 2) (.fld (.var 1) 21)) .nil)) (elt := ev ⟨callF P W (n + 2), P, 0, W⟩ (.var 2)) (σ := [some (Rg ax U xs), some (Rg ax U ys), none]) (xs := xs) (p := fun c => !decide (c ∈ ys)) (by simp)
    (fun c hc => turn_if rfl (by simp [wipeD, opCmp, dunOf, in_tup (List.all_eq_true.mp (px.ok h) c hc) (py.ok h)]) fun _ => by simp [wipeD]) (px.szl h)
  have pp := part_filter px fun c => !decide (c ∈ ys)
  have m := mk_ok (P := P) (W := W) (n := n) (mb := 0) (S := []) h (zs := xs.filter fun c => !decide (c ∈ ys)) (fun z hz => pp.sub z hz) (.inr rfl)
  rw [show pick U _ = _ from pp] at m
  simp [same_space h, c1, m, fin, frz_pure (rg_pure h)]
theorem inv_o (h : OkS ax U) (px : Part U xs) : callF P W (n + 3) b 14 [Rg ax U xs] S = .ok (Rg ax U (U.filter fun c => !decide (c ∈ xs))) S := by
  rw [callF_def (P := P) (fd := c14) hc14 rfl rfl (by simp [D.loL, rg_pure h])]
  simp only [c14, TD.start, List.map_cons, List.map_nil, List.length_cons, List.length_nil, List.cons_append, List.nil_append, List.replicate]
  have c1 := compF (S := []) (k := 0) (own := [("cell", 1)]) (t := .nm 1) (src := ev ⟨callF P W (n + 2), P, 0, W⟩ (.cons (.fld (.fld (.var 0) 22) 21) .nil)) (cs := ev ⟨callF P W (n + 2), P, 0, W⟩ (.cons (.cmp .notin (.var 1) (.fld (.var 0) 21)) .nil)) (elt := ev ⟨callF P W (n + 2), P, 0, W⟩ (.var 1)) (σ := [some (Rg ax U xs), none]) (xs := U) (p := fun c => !decide (c ∈ xs)) (by simp)
    (fun c hc => turn_if rfl (by simp [wipeD, opCmp, dunOf, in_tup (List.all_eq_true.mp h.ok c hc) (px.ok h)]) fun _ => by simp [wipeD]) (Nat.le_trans h.len (by decide))
  have pp := part_filter (part_self U) fun c => !decide (c ∈ xs)
  have m := mk_ok (P := P) (W := W) (n := n) (mb := 0) (S := []) h (zs := U.filter fun c => !decide (c ∈ xs)) (fun z hz => pp.sub z hz) (.inr rfl)
  rw [show pick U _ = _ from pp] at m
  simp [c1, m, fin, frz_pure (rg_pure h)]
theorem le_ok (h : OkS ax U) (px : Part U xs) (py : Part U ys) : callF P W (n + 3) b 15 [Rg ax U xs, Rg ax U ys] S = .ok (.bl (leB xs ys)) S := by
  rw [callF_def (P := P) (fd := c15) hc15 rfl rfl (by simp [D.loL, rg_pure h])]
  simp only [c15, TD.start, List.map_cons, List.map_nil, List.length_cons, List.length_nil, List.cons_append, List.nil_append, List.replicate]
  simp [same_space h]
  rw [s_loop (as := [.tup (xs.map cellD)]) (by simp) rfl rfl]
  generalize hr : forL _ _ _ _ = r
  have L := forL_all_e hr rfl (fun σ => ∃ v, σ = [some (Rg ax U xs), some (Rg ax U ys), v]) (fun c => decide (c ∈ ys)) (.bl false) (fun c hc σ hI => by
    obtain ⟨v, rfl⟩ := hI
    by_cases z : c ∈ ys
    · simp [opCmp, dunOf, in_tup (List.all_eq_true.mp (px.ok h) c hc) (py.ok h), z]
    · simp [opCmp, dunOf, in_tup (List.all_eq_true.mp (px.ok h) c hc) (py.ok h), z]) ⟨_, rfl⟩
  rcases L with ⟨l, σ', rfl, v, rfl⟩ | ⟨l, rfl⟩
  · simp [leB, l, fin]
  · simp [leB, l, fin]
end
end TD

set_option Elab.async false
set_option linter.all false
set_option maxRecDepth 100000
set_option maxHeartbeats 4000000
set_option autoImplicit false
/-! WC: the functions over lists of regions. -/
namespace TD
open PySem
open L2 (V)
section
variable {ax : D} {U xs ys zs : List Cl} {P : Prog} [KA P] {W n b : Nat} {S : Store} {rs : List (List Cl)}
/-! ### operators at work -/
theorem o_and (h : OkS ax U) (px : Part U xs) (py : Part U ys) {mu : Bool} : opBin ⟨callF P W (n + 3), P, b, W⟩ mu .band (Rg ax U xs) (Rg ax U ys) S = .ok (Rg ax U (inter xs ys)) S := by
  simp [opBin, BOp.dun, and_ok h px py]
theorem o_or (h : OkS ax U) (px : Part U xs) (py : Part U ys) {mu : Bool} : opBin ⟨callF P W (n + 3), P, b, W⟩ mu .bor (Rg ax U xs) (Rg ax U ys) S = .ok (Rg ax U (pick U (xs ++ ys))) S := by
  simp [opBin, BOp.dun, or_ok h px py]
theorem o_sub (h : OkS ax U) (px : Part U xs) (py : Part U ys) {mu : Bool} : opBin ⟨callF P W (n + 3), P, b, W⟩ mu .sub (Rg ax U xs) (Rg ax U ys) S = .ok (Rg ax U (xs.filter fun c => !decide (c ∈ ys))) S := by
  simp [opBin, BOp.dun, sub_ok h px py]
theorem o_inv (h : OkS ax U) (px : Part U xs) : invB ⟨callF P W (n + 3), P, b, W⟩ (Rg ax U xs) S = .ok (Rg ax U (U.filter fun c => !decide (c ∈ xs))) S := by
  simp [invB, dunOf, inv_o h px]
theorem o_le (h : OkS ax U) (px : Part U xs) (py : Part U ys) : opCmp ⟨callF P W (n + 3), P, b, W⟩ .le (Rg ax U xs) (Rg ax U ys) S = .ok (.bl (leB xs ys)) S := by
  simp [opCmp, COp.dun, le_ok h px py]
theorem o_eq (h : OkS ax U) (px : Part U xs) (py : Part U ys) : opCmp ⟨callF P W (n + 2), P, b, W⟩ .eq (Rg ax U xs) (Rg ax U ys) S = .ok (.bl (decide (xs = ys))) S := by
  simp [opCmp, COp.dun, region_eq h (px.ok h) (py.ok h)]
theorem o_ne (h : OkS ax U) (px : Part U xs) (py : Part U ys) : opCmp ⟨callF P W (n + 2), P, b, W⟩ .ne (Rg ax U xs) (Rg ax U ys) S = .ok (.bl (!decide (xs = ys))) S := by
  simp [opCmp, COp.dun, region_eq h (px.ok h) (py.ok h)]
theorem o_neS (h : OkS ax U) : opCmp ⟨callF P W (n + 1), P, b, W⟩ .ne (Sp ax U) (Sp ax U) S = .ok (.bl false) S := by
  simp [opCmp, COp.dun, space_eq h]
theorem o_len (h : OkS ax U) (px : Part U xs) {mu : Bool} : opBf ⟨callF P W (n + 1), P, b, W⟩ .len mu [Rg ax U xs] S = .ok (.int xs.length) S := by
  rw [len_own (g := 8) (by simp [dunOf])]
  have e : callF P W (n + 1) b 8 [Rg ax U xs] S = .ok (.int xs.length) S := region_len (px.len h) h
  show Res.bind (callF P W (n + 1) b 8 [Rg ax U xs] S) lenK = _
  rw [e, bind_o]
  exact lenK_ok (Nat.le_trans (px.len h) (by decide))
theorem o_in (h : OkS ax U) (px : Part U xs) {c : Cl} (hc : okC c = true) : opCmp ⟨callF P W (n + 1), P, b, W⟩ .isin (cellD c) (Rg ax U xs) S = .ok (.bl (decide (c ∈ xs))) S := by
  simp [opCmp, dunOf, region_in h (px.ok h) hc]
/-! ### small operations -/
theorem i_lt {c : Cn} {i j : Int} : opCmp c .lt (.int i) (.int j) S = .ok (.bl (decide (i < j))) S := rfl
theorem i_le {c : Cn} {i j : Int} : opCmp c .le (.int i) (.int j) S = .ok (.bl (decide (i ≤ j))) S := rfl
theorem i_gt {c : Cn} {i j : Int} : opCmp c .gt (.int i) (.int j) S = .ok (.bl (decide (j < i))) S := rfl
theorem i_ge {c : Cn} {i j : Int} : opCmp c .ge (.int i) (.int j) S = .ok (.bl (decide (j ≤ i))) S := rfl
theorem i_eq {c : Cn} {i j : Int} : opCmp c .eq (.int i) (.int j) S = .ok (.bl (decide (i = j))) S := by
  simp only [opCmp, int_cls, eqD_int, Option.map_some, Res.of_some]
theorem i_ne {c : Cn} {i j : Int} : opCmp c .ne (.int i) (.int j) S = .ok (.bl (!decide (i = j))) S := by
  simp only [opCmp, int_cls, eqD_int, Option.map_some, Res.of_some]
theorem b_eq {c : Cn} {i j : Bool} : opCmp c .eq (.bl i) (.bl j) S = .ok (.bl (decide (i = j))) S := by
  simp only [opCmp, bl_cls, eqD_bl, Option.map_some, Res.of_some]
theorem b_ne {c : Cn} {i j : Bool} : opCmp c .ne (.bl i) (.bl j) S = .ok (.bl (!decide (i = j))) S := by
  simp only [opCmp, bl_cls, eqD_bl, Option.map_some, Res.of_some]
theorem l_eq {c : Cn} {i j : List Int} : opCmp c .eq (.lst (i.map .int)) (.lst (j.map .int)) S = .ok (.bl (decide (i = j))) S := by
  simp only [opCmp, lst_cls, eqD_lst, Option.map_some, Res.of_some]
theorem l_ne {c : Cn} {i j : List Int} : opCmp c .ne (.lst (i.map .int)) (.lst (j.map .int)) S = .ok (.bl (!decide (i = j))) S := by
  simp only [opCmp, lst_cls, eqD_lst, Option.map_some, Res.of_some]
theorem len_lst {c : Cn} {mu : Bool} {ds : List D} : opBf c .len mu [.lst ds] S = .ok (.int ds.length) S := rfl
theorem len_tup {c : Cn} {mu : Bool} {ds : List D} : opBf c .len mu [.tup ds] S = .ok (.int ds.length) S := rfl
theorem len_ref {c : Cn} {mu : Bool} {k : Nat} {ds : List D} (h : S[k]? = some (.lst ds)) : opBf c .len mu [.ref k] S = .ok (.int ds.length) S := by
  simp [opBf, dunOf, clsOf, h, seqA, seqL]
theorem ixN_lt {l k : Nat} (h : k < l) : L2.ixN l (k : Int) = some k := by
  unfold L2.ixN
  simp [h]
theorem idx_tup {c : Cn} {ds : List D} {k : Nat} {x : D} (h : ds[k]? = some x) : opIdx c (.tup ds) (.int (k : Int)) S = .ok x S := by
  have hk : k < ds.length := (List.getElem?_eq_some_iff.mp h).1
  simp only [opIdx, seqA, ixOf, ixN_lt hk, Option.bind_some, h, Res.of_some]
theorem idx_lst {c : Cn} {ds : List D} {k : Nat} {x : D} (h : ds[k]? = some x) : opIdx c (.lst ds) (.int (k : Int)) S = .ok x S := by
  have hk : k < ds.length := (List.getElem?_eq_some_iff.mp h).1
  simp only [opIdx, seqA, seqL, ixOf, ixN_lt hk, Option.bind_some, h, Res.of_some]
theorem idx_ref {c : Cn} {ds : List D} {j k : Nat} {x : D} (hS : S[j]? = some (.lst ds)) (h : ds[k]? = some x) : opIdx c (.ref j) (.int (k : Int)) S = .ok x S := by
  have hk : k < ds.length := (List.getElem?_eq_some_iff.mp h).1
  simp only [opIdx, seqA, seqL, hS, ixOf, ixN_lt hk, Option.bind_some, h, Res.of_some]
/-! ### lists of regions -/
def Rs (ax : D) (U : List Cl) (rs : List (List Cl)) : D := .lst (rs.map (Rg ax U))
def eR (ax : D) (U : List Cl) (rs : List (List Cl)) (i : Nat) : D := .tup [.int i, Rg ax U (rAt rs i)]
structure OkR (U : List Cl) (rs : List (List Cl)) : Prop where
  part : ∀ r ∈ rs, Part U r
  pos : 1 ≤ rs.length
  len : rs.length ≤ 12
theorem OkR.at_ (h : OkR U rs) {i : Nat} (hi : i < rs.length) : Part U (rAt rs i) := by
  unfold rAt
  rw [List.getElem?_eq_getElem hi]
  exact h.part _ (List.getElem_mem hi)
theorem rs_pure (h : OkS ax U) : (Rs ax U rs).lo 0 = true := by
  have : D.loL 0 (rs.map (Rg ax U)) = true := by
    rw [loL_iff]
    intro x hx
    obtain ⟨r, _, rfl⟩ := List.mem_map.mp hx
    exact rg_pure h
  simpa [Rs, D.lo] using this
@[simp] theorem rs_ty : tyOf S (Rs ax U rs) = some (.bi "list") := rfl
@[simp] theorem rs_len {c : Cn} {mu : Bool} : opBf c .len mu [Rs ax U rs] S = .ok (.int rs.length) S := by
  unfold Rs; rw [len_lst, List.length_map]
theorem rs_idx {c : Cn} {k : Nat} (hk : k < rs.length) : opIdx c (Rs ax U rs) (.int (k : Int)) S = .ok (Rg ax U (rAt rs k)) S := by
  unfold Rs rAt
  refine idx_lst ?_
  rw [List.getElem?_map, List.getElem?_eq_getElem hk]
  rfl
theorem rs_items : itemsOf .val [Rs ax U rs] S = some (rs.map (Rg ax U)) := rfl
theorem rs_enum : itemsOf .enum [Rs ax U rs] S = some ((List.range rs.length).map (eR ax U rs)) := by
  unfold Rs itemsOf
  simp only [seqA, seqL, Option.map_some]
  congr 1
  apply List.ext_getElem?
  intro i
  simp only [List.getElem?_mapIdx, List.getElem?_map, eR, rAt]
  by_cases h : i < rs.length
  · rw [List.getElem?_eq_getElem h, List.getElem?_range h]; simp [eR, rAt, h]
  · rw [List.getElem?_eq_none (by omega), List.getElem?_eq_none (by simp; omega)]; simp
end
end TD

set_option Elab.async false
set_option linter.all false
set_option maxRecDepth 100000
set_option maxHeartbeats 4000000
set_option autoImplicit false
/-! WD: small lemmas. -/
namespace TD
open PySem
open L2 (V)
section
variable {S : Store}
theorem ref_cls {k : Nat} {ds : List D} (h : S[k]? = some (.lst ds)) : clsOf S (.ref k) = none := by
  simp [clsOf, h]
@[simp] theorem ref_lo {k : Nat} : (D.ref k).lo 0 = false := rfl
theorem pre_len {n : Nat} {a : List Nat} {i : Nat} {c : List Nat} (h : List.range n = a ++ i :: c) : a.length < n := by
  obtain ⟨rfl, hi⟩ := range_pre h
  simpa using hi
end
end TD

set_option Elab.async false
set_option linter.all false
set_option maxRecDepth 100000
set_option maxHeartbeats 4000000
set_option autoImplicit false
/-! WE: check_regions. -/
namespace TD
open PySem
open L2 (V)
section
variable {ax : D} {U xs ys zs : List Cl} {P : Prog} [KB P] {W n b : Nat} {S : Store} {rs : List (List Cl)}
theorem row_rs (h : OkS ax U) : callF P W (n + 1) b 2 [Rs ax U rs] S = .ok (.bl true) S := by
  rw [callF_def (P := P) (fd := c2) hc2 rfl rfl (by simp [D.loL, rs_pure h])]
  have e1 : isTy (.bi "list") (.bi "list") = true := by decide
  simp [c2, TD.start, fin, e1]
theorem check_ok (h : OkS ax U) (hr : OkR U rs) : callF P W (n + 2) b 23 [Rs ax U rs] S = .ok .non S := by
  rw [callF_def (P := P) (fd := c23) hc23 rfl rfl (by simp [D.loL, rs_pure h])]
  simp only [c23, TD.start, List.map_cons, List.map_nil, List.length_cons, List.length_nil, List.cons_append, List.nil_append, List.replicate]
  have l1 : (1 : Int) ≤ rs.length := by have := hr.pos; omega
  have l2 : (rs.length : Int) ≤ 12 := by have := hr.len; omega
  simp only [s_cons]
  have st : exec ⟨callF P W (n + 1), P, 0, W⟩ (.iff (.or (.not (.call 2 (.cons (.var 0) (.nil)))) (.not (.chn .le .le (.lit (.int (1))) (.bf .len false (.cons (.var 0) (.nil))) (.glob 3)))) (.cons (.never) (.nil)) (.nil)) [some (Rs ax U rs), none, none] [] = .ok (.nx [some (Rs ax U rs), none, none]) [] := by
    simp [row_rs h, i_le, l1, pg3, l2]
  rw [st]
  simp only [bind_o, cont_nx, s_cons]
  rw [s_loop (as := [Rs ax U rs]) (by simp) rs_enum rfl]
  generalize hr' : forL _ _ _ _ = r
  obtain ⟨σ', S', rfl, rfl, v⟩ := forL_fold_e (st := Unit) hr' rfl (fun _ σ S => S = [] ∧ ∃ v w, σ = [some (Rs ax U rs), v, w]) (fun s _ => s) () (fun i hi _ σ S hI => by
    obtain ⟨rfl, v, w, rfl⟩ := hI
    refine ⟨[some (Rs ax U rs), some (.int i), some (Rg ax U (rAt rs i))], [], ?_, rfl, _, _, rfl⟩
    have z := rs_idx (ax := ax) (U := U) (rs := rs) (S := []) (c := ⟨callF P W (n + 1), P, 0, W⟩) (k := 0) (by have := hr.pos; omega)
    simp [eR] at z ⊢
    simp [z, o_neS h]) ⟨rfl, _, _, rfl⟩
  rfl
end
end TD

set_option Elab.async false
set_option linter.all false
set_option maxRecDepth 100000
set_option maxHeartbeats 4000000
set_option autoImplicit false
/-! WF: merged, ordered. -/
namespace TD
open PySem
open L2 (V)
section
variable {P : Prog} [KB P] {W n b : Nat} {S : Store}
def iL (xs : List Int) : D := .lst (xs.map .int)
theorem ints_pure (xs : List Int) : D.loL 0 (xs.map D.int) = true := by
  rw [loL_iff]; intro x hx
  obtain ⟨i, _, rfl⟩ := List.mem_map.mp hx; rfl
@[simp] theorem iL_lo (xs : List Int) : (iL xs).lo 0 = true := ints_pure xs
theorem iL_len {c : Cn} {mu : Bool} {xs : List Int} : opBf c .len mu [iL xs] S = .ok (.int xs.length) S := by
  unfold iL; rw [len_lst, List.length_map]
theorem iL_idx {c : Cn} {xs : List Int} {k : Nat} (h : k < xs.length) : opIdx c (iL xs) (.int (k : Int)) S = .ok (.int xs[k]) S := by
  unfold iL
  refine idx_lst ?_
  rw [List.getElem?_map, List.getElem?_eq_getElem h]; rfl
theorem merged_ok {A B : List Int} (hA : A.length ≤ 24) (hB : B.length ≤ 24) (hW : 60 ≤ W) : callF P W (n + 1) b 20 [iL A, iL B] S = .ok (iL (mrg A B)) S := by
  rw [callF_def (P := P) (fd := c20) hc20 rfl rfl (by simp [D.loL])]
  simp only [c20, TD.start, List.map_cons, List.map_nil, List.length_cons, List.length_nil, List.cons_append, List.nil_append, List.replicate]
  simp [putAll]
  generalize hw : whileL _ _ _ _ _ = r
  have L := whileL_inv (st := Nat × Nat) (c := kwh ⟨callF P W n, P, 0, W⟩ (.or (.cmp .lt (.var 3) (.bf .len false (.cons (.var 0) (.nil)))) (.cmp .lt (.var 4) (.bf .len false (.cons (.var 1) (.nil)))))) (f := exec ⟨callF P W n, P, 0, W⟩ (.cons (.iff (.or (.cmp .eq (.var 4) (.bf .len false (.cons (.var 1) (.nil)))) (.and (.cmp .lt (.var 3) (.bf .len false (.cons (.var 0) (.nil)))) (.not (.cmp .lt (.idx (.var 1) (.var 4)) (.idx (.var 0) (.var 3)))))) (.cons (.expr (.bm (.var 2) .append (.cons (.idx (.var 0) (.var 3)) (.nil)))) (.cons (.aug 3 .add (.lit (.int (1)))) (.nil))) (.cons (.expr (.bm (.var 2) .append (.cons (.idx (.var 1) (.var 4)) (.nil)))) (.cons (.aug 4 .add (.lit (.int (1)))) (.nil)))) (.nil)))
    (fun s σ S => s.1 ≤ A.length ∧ s.2 ≤ B.length ∧ ∃ F, F ++ mrg (A.drop s.1) (B.drop s.2) = mrg A B ∧ F.length = s.1 + s.2 ∧ S = [.lst (F.map .int)] ∧ σ = [some (iL A), some (iL B), some (.ref 0), some (.int s.1), some (.int s.2)])
    (fun σ S => S = [.lst ((mrg A B).map .int)] ∧ ∃ v w, σ = [some (iL A), some (iL B), some (.ref 0), v, w])
    (fun s => (A.length - s.1) + (B.length - s.2)) (fun s σ S hI => by
      obtain ⟨i, j⟩ := s
      obtain ⟨h1, h2, F, h3, h4, rfl, rfl⟩ := hI
      dsimp only at h1 h2 h3 h4 ⊢
      have hc : kwh ⟨callF P W n, P, 0, W⟩ (.or (.cmp .lt (.var 3) (.bf .len false (.cons (.var 0) (.nil)))) (.cmp .lt (.var 4) (.bf .len false (.cons (.var 1) (.nil))))) [some (iL A), some (iL B), some (.ref 0), some (.int i), some (.int j)] [.lst (F.map .int)] = .ok (decide ((i : Int) < A.length) || decide ((j : Int) < B.length)) [.lst (F.map .int)] :=
        kwh_ (or_ev (by simp [iL_len, i_lt]) (by simp [iL_len, i_lt]))
      have lf : (F.map D.int).length < szl := by simp [szl]; omega
      have g0 : ([.lst (F.map .int)] : Store)[0]? = some (.lst (F.map .int)) := rfl
      have ap : ∀ v, bmB ⟨callF P W n, P, 0, W⟩ .append (.ref 0) [.lst (F.map .int)] (.tup [v]) [.lst (F.map .int)] = .ok .non [.lst (F.map .int ++ [v])] := fun v => bm_append g0 g0 (.inl (Nat.le_refl 0)) lf
      have mi : ∀ x, F.map D.int ++ [.int x] = (F ++ [x]).map D.int := fun x => by simp
      by_cases ci : i < A.length
      · have ci' : (i : Int) < A.length := by omega
        right
        refine ⟨by rw [hc]; simp [ci'], ?_⟩
        have di : A.drop i = A[i] :: A.drop (i + 1) := List.drop_eq_getElem_cons ci
        by_cases cj : j < B.length
        · have cj' : (j : Int) < B.length := by omega
          have ne' : ¬ (j : Int) = B.length := by omega
          have dj : B.drop j = B[j] :: B.drop (j + 1) := List.drop_eq_getElem_cons cj
          rw [di, dj, mrg_cc] at h3
          by_cases lt : B[j] < A[i]
          · rw [if_pos lt, ← di] at h3
            refine ⟨(i, j + 1), [some (iL A), some (iL B), some (.ref 0), some (.int i), some (.int ((j + 1 : Nat) : Int))], [.lst ((F ++ [B[j]]).map .int)], ?_, ⟨h1, cj, F ++ [B[j]], by rw [← h3]; simp, by simp; omega, rfl, rfl⟩, by dsimp only; omega⟩
            simp [iL_len, iL_idx ci, iL_idx cj, i_eq, i_lt, ne', ci', lt, ap, arith]
          · rw [if_neg lt, ← dj] at h3
            refine ⟨(i + 1, j), [some (iL A), some (iL B), some (.ref 0), some (.int ((i + 1 : Nat) : Int)), some (.int j)], [.lst ((F ++ [A[i]]).map .int)], ?_, ⟨ci, h2, F ++ [A[i]], by rw [← h3]; simp, by simp; omega, rfl, rfl⟩, by dsimp only; omega⟩
            simp [iL_len, iL_idx ci, iL_idx cj, i_eq, i_lt, ne', ci', lt, ap, arith]
        · have ej : j = B.length := by omega
          have ej' : (j : Int) = B.length := by omega
          have dj : B.drop j = [] := List.drop_eq_nil_of_le (by omega)
          rw [di, dj, mrg_nr] at h3
          refine ⟨(i + 1, j), [some (iL A), some (iL B), some (.ref 0), some (.int ((i + 1 : Nat) : Int)), some (.int j)], [.lst ((F ++ [A[i]]).map .int)], ?_, ⟨ci, h2, F ++ [A[i]], by rw [← h3, dj, mrg_nr]; simp, by simp; omega, rfl, rfl⟩, by dsimp only; omega⟩
          simp [iL_len, iL_idx ci, i_eq, ej', ap, arith]
      · have di : A.drop i = [] := List.drop_eq_nil_of_le (by omega)
        have ci' : ¬ (i : Int) < A.length := by omega
        by_cases cj : j < B.length
        · have cj' : (j : Int) < B.length := by omega
          have ne' : ¬ (j : Int) = B.length := by omega
          have dj : B.drop j = B[j] :: B.drop (j + 1) := List.drop_eq_getElem_cons cj
          right
          refine ⟨by rw [hc]; simp [cj'], ?_⟩
          rw [di, dj, mrg_nl] at h3
          refine ⟨(i, j + 1), [some (iL A), some (iL B), some (.ref 0), some (.int i), some (.int ((j + 1 : Nat) : Int))], [.lst ((F ++ [B[j]]).map .int)], ?_, ⟨h1, cj, F ++ [B[j]], by rw [← h3, di, mrg_nl]; simp, by simp; omega, rfl, rfl⟩, by dsimp only; omega⟩
          simp [iL_len, iL_idx cj, i_eq, i_lt, ne', ci', ap, arith]
        · have cj' : ¬ (j : Int) < B.length := by omega
          have dj : B.drop j = [] := List.drop_eq_nil_of_le (by omega)
          left
          refine ⟨by rw [hc]; simp [ci', cj'], ?_, _, _, rfl⟩
          rw [di, dj, mrg_nl, List.append_nil] at h3
          rw [h3])
    W (0, 0) [some (iL A), some (iL B), some (.ref 0), some (.int 0), some (.int 0)] [.lst []] ⟨Nat.zero_le _, Nat.zero_le _, [], rfl, rfl, rfl, rfl⟩ (by dsimp only; omega)
  obtain ⟨σ', S', e, rfl, v, w, rfl⟩ := L
  rw [e] at hw
  subst hw
  simp [fin]
  have : frz P [.lst ((mrg A B).map .int)] 0 64 (.ref 0) = some (iL (mrg A B)) := frz_ref rfl (Nat.le_refl 0) fun d hd => by
    obtain ⟨i, _, rfl⟩ := List.mem_map.mp hd; rfl
  simp [this]
/-- a list, in a cell or not -/
structure SeqI (S : Store) (d : D) (ds : List D) : Prop where
  seq : seqL S d = some ds
  cls : clsOf S d = none
theorem SeqI.seqA {d : D} {ds : List D} (h : SeqI S d ds) : TD.seqA S d = some ds := by
  have q := h.seq
  cases d <;> first | exact q | (simp [seqL] at q)
theorem SeqI.len {d : D} {ds : List D} (h : SeqI S d ds) {c : Cn} {mu : Bool} : opBf c .len mu [d] S = .ok (.int ds.length) S := by
  have e : dunOf c S d 6 = none := by simp [dunOf, h.cls]
  have q := h.seqA
  have q0 := h.seq
  cases d <;> first | (simp [seqL] at q0; done) | skip
  · simp only [opBf, e, q]; rfl
  · simp only [opBf, e, q]; rfl
theorem SeqI.idx {d : D} {ds : List D} (h : SeqI S d ds) {c : Cn} {k : Nat} (hk : k < ds.length) : opIdx c d (.int (k : Int)) S = .ok ds[k] S := by
  have e : opIdx c d (.int (k : Int)) S = Res.of (((ixOf ds.length k)).bind fun n => ds[n]?) S := by
    have q := h.seqA
    have q0 := h.seq
    cases d <;> first | (simp [seqL] at q0; done) | (simp only [opIdx, q]; done)
  rw [e, ixOf, ixN_lt hk, Option.bind_some, List.getElem?_eq_getElem hk]
  rfl
theorem SeqI.more {d : D} {ds : List D} (h : SeqI S d ds) (T : Store) : SeqI (S ++ T) d ds := by
  obtain ⟨q1, q2⟩ := h
  cases d <;> first | (simp [seqL] at q1; done) | skip
  · exact ⟨q1, rfl⟩
  · rename_i k
    cases e : S[k]? with
    | none => simp [seqL, e] at q1
    | some c =>
      have hk : k < S.length := (List.getElem?_eq_some_iff.mp e).1
      have e' : (S ++ T)[k]? = some c := by rw [List.getElem?_append_left hk, e]
      constructor
      · simp only [seqL, e'] ; simpa only [seqL, e] using q1
      · simp only [clsOf, e'] ; simpa only [clsOf, e] using q2
theorem rows_dat (R : List (List Int)) : D.datL (R.map iL) = some (R.map fun r => .list (r.map .int)) := by
  induction R with
  | nil => rfl
  | cons r R ih => simp only [List.map_cons, D.datL, iL, D.dat, ints_dat, Option.map_some, ih]
theorem rows_shp (R : List (List Int)) : shp (.list (R.map fun r => .list (r.map .int))) = true := by
  have h1 : ∀ R : List (List Int), PyData.canLayAll0 (R.map fun r => .list (r.map .int)) = true := fun R => by
    induction R with
    | nil => simp [PyData.canLayAll0]
    | cons r R ih =>
      have := ints_shpL r
      unfold shp SeqAt.shaped at this
      simp only [Bool.and_eq_true] at this
      simp only [List.map_cons, PyData.canLayAll0, ih, Bool.and_true]
      exact this.1
  have h2 : ∀ is : List Int, PyData.depthAll (is.map .int) = 0 := fun is => by
    induction is with
    | nil => simp [PyData.depthAll]
    | cons x xs ih => simp [PyData.depthAll, PyData.depth, ih]
  have h3 : ∀ R : List (List Int), PyData.depthAll (R.map fun r => .list (r.map .int)) ≤ 1 := fun R => by
    induction R with
    | nil => simp [PyData.depthAll]
    | cons r R ih => simp [PyData.depthAll, PyData.depth, h2]; omega
  unfold shp SeqAt.shaped
  have := h3 R
  simp [PyData.canLay0, h1, PyData.depth]
  omega
theorem rows_ne {d : D} {R : List (List Int)} (h : SeqI S d (R.map iL)) : eqD S d (.lst []) = some (decide (R = [])) := by
  have e1 : datS S d = some (.list (R.map fun r => .list (r.map .int))) := by
    have q := h.seq
    cases d <;> first | (simp [seqL] at q; done) | skip
    · simp only [seqL, Option.some.injEq] at q
      simp only [datS, view, D.dat, q, rows_dat, Option.map_some]
    · rename_i k
      have : view S (.ref k) = .lst (R.map iL) := by
        cases e : S[k]? with
        | none => simp [seqL, e] at q
        | some c => cases c <;> simp [seqL, e] at q <;> simp [view, e, q]
      simp only [datS, this, D.dat, rows_dat, Option.map_some]
  have e2 : datS S (.lst []) = some (.list []) := by simp [datS, view, D.dat, D.datL]
  have s2 : shp (.list []) = true := by
    unfold shp SeqAt.shaped
    simp [PyData.canLay0, PyData.canLayAll0, PyData.depth, PyData.depthAll]
  simp only [eqD, e1, e2, rows_shp, s2, and_self, if_true, PyData.eqv]
  cases R <;> simp [PyData.eqvAll]
theorem row_len {R : List (List Int)} {A : List Int} (p : List.Perm R.flatten A) : ∀ r ∈ R, r.length ≤ A.length := fun r hr => by
  rw [← p.length_eq]
  exact (List.sublist_flatten_of_mem hr).length_le
theorem flat1 (A : List Int) : (A.map fun i => [i]).flatten = A := by
  induction A with
  | nil => rfl
  | cons a A ih => simp [ih]
theorem ordered_ok {A : List Int} (hA : A.length ≤ 8) (hW : 60 ≤ W) : ∃ q, Srt q ∧ List.Perm q A ∧ ∀ (b : Nat) (S : Store), callF P W (n + 2) b 21 [.tup (A.map .int)] S = .ok (iL q) S := by
  have key : ∃ q, Srt q ∧ List.Perm q A ∧ ∃ S1, exec ⟨callF P W (n + 1), P, 0, W⟩ c21.body [some (.tup (A.map .int)), none, none, none, none] [] = .ok (.rt (iL q)) S1 := by
    simp only [c21]
    simp
    rw [compB_pure1 (as := [.tup (A.map .int)]) (l := A) (e := D.int) (v := fun i => iL [i]) (by simp) rfl rfl (fun i _ => turn_1 rfl (by simp) (by simp [wipeD, iL])) (by simp [szl]; omega)]
    simp
    generalize hw : whileL _ _ _ _ _ = r
    have L := whileL_inv_e hw (fun (R : List (List Int)) σ S => (∀ r ∈ R, Srt r) ∧ List.Perm R.flatten A ∧ R.length ≤ 8 ∧ ∃ d x y z, σ = [some (.tup (A.map .int)), some d, x, y, z] ∧ SeqI S d (R.map iL))
      (fun σ S => ∃ (R : List (List Int)) (d : D) (x y z : Option D), (∀ r ∈ R, Srt r) ∧ List.Perm R.flatten A ∧ R.length ≤ 1 ∧ σ = [some (.tup (A.map .int)), some d, x, y, z] ∧ SeqI S d (R.map iL)) (fun R => R.length) (fun R σ S hI => by
        obtain ⟨h1, h2, h3, d, x, y, z, rfl, h4⟩ := hI
        have hc : kwh ⟨callF P W (n + 1), P, 0, W⟩ (.cmp .gt (.bf .len false (.cons (.var 1) (.nil))) (.lit (.int (1)))) [some (.tup (A.map .int)), some d, x, y, z] S = .ok (decide ((1 : Int) < R.length)) S := kwh_ (by simp [h4.len, i_gt])
        by_cases c : 1 < R.length
        · right
          suffices ex : ∃ x' y', exec ⟨callF P W (n + 1), P, 0, W⟩ (.cons (.asg (.nm 2) (.lst true (.nil))) (.cons (.loop (.nm 3) .range (.cons (.lit (.int (0))) (.cons (.bf .len false (.cons (.var 1) (.nil))) (.cons (.lit (.int (2))) (.nil)))) (.cons (.expr (.bm (.var 2) .append (.cons (.ite (.cmp .lt (.bin false .add (.var 3) (.lit (.int (1)))) (.bf .len false (.cons (.var 1) (.nil)))) (.call 20 (.cons (.idx (.var 1) (.var 3)) (.cons (.idx (.var 1) (.bin false .add (.var 3) (.lit (.int (1))))) (.nil)))) (.idx (.var 1) (.var 3))) (.nil)))) (.nil))) (.cons (.asg (.nm 1) (.var 2)) (.nil)))) [some (.tup (A.map .int)), some d, x, y, z] S = .ok (.nx [some (.tup (A.map .int)), some (.ref S.length), some (.ref S.length), x', y']) (S ++ [.lst ((passL R).map iL)]) by
            obtain ⟨x', y', ex⟩ := ex
            exact ⟨by rw [hc]; have : (1 : Int) < R.length := by omega
                      simp [this], passL R, _, _, ex, ⟨passL_srt h1, (passL_perm R).trans h2, by rw [passL_len]; omega, _, _, _, _, rfl, by simp [seqL], by simp [clsOf]⟩, by rw [passL_len]; omega⟩
          simp
          generalize hk : S.length = k
          rw [s_loop (as := [.int 0, .int R.length, .int 2]) (by simp [(h4.more _).len]) (items_even (by omega)) rfl]
          generalize hf : forL _ _ _ _ = r'
          obtain ⟨σ', S', rfl, rfl, x', y', rfl⟩ := forL_pre_e hf rfl (fun a σ S' => S' = S ++ [.lst (a.map fun t => iL (pairAt R R.length t))] ∧ ∃ x' y', σ = [some (.tup (A.map .int)), some d, some (.ref k), x', y']) (fun a t c' hl σ S' hI => by
            obtain ⟨rfl, x', y', rfl⟩ := hI
            obtain ⟨ha, ht⟩ := range_pre hl
            have ht2 : 2 * t < R.length := by omega
            have hm := h4.more [.lst (a.map fun t => iL (pairAt R R.length t))]
            generalize hu : 2 * t = u at ht2
            have g1 : (S ++ [Cell.lst (a.map fun t => iL (pairAt R R.length t))])[k]? = some (.lst (a.map fun t => iL (pairAt R R.length t))) := by rw [← hk]; simp
            have gs : ∀ w, (S ++ [Cell.lst (a.map fun t => iL (pairAt R R.length t))]).set k w = S ++ [w] := fun w => by rw [← hk]; simp
            have i0 := hm.idx (c := ⟨callF P W (n + 1), P, 0, W⟩) (k := u) (by simpa using ht2)
            have lf : (a.map fun t => iL (pairAt R R.length t)).length < szl := by
              rw [ha]; simp [szl]; omega
            have ap := fun v => bm_append (c := ⟨callF P W (n + 1), P, 0, W⟩) (v := v) g1 g1 (.inl (Nat.zero_le _)) lf
            refine ⟨[some (.tup (A.map .int)), some d, some (.ref k), some (.int u), y'], S ++ [.lst ((a ++ [t]).map fun t => iL (pairAt R R.length t))], ?_, rfl, _, _, rfl⟩
            rw [loopF_nm]
            by_cases c1 : u + 1 < R.length
            · have c2 : (u : Int) + 1 < R.length := by omega
              have i1 : opIdx ⟨callF P W (n + 1), P, 0, W⟩ d (.int ((u : Int) + 1)) (S ++ [Cell.lst (a.map fun t => iL (pairAt R R.length t))]) = .ok ((R.map iL)[u + 1]'(by simpa using c1)) _ := hm.idx (k := u + 1) (by simpa using c1)
              have l1 : R[u].length ≤ 24 := by have := row_len h2 _ (List.getElem_mem ht2); omega
              have l2 : R[u + 1].length ≤ 24 := by have := row_len h2 _ (List.getElem_mem c1); omega
              have ep : pairAt R R.length t = mrg R[u] R[u + 1] := by
                unfold pairAt rowAt
                rw [hu, if_pos c1, List.getElem?_eq_getElem ht2, List.getElem?_eq_getElem c1]; rfl
              simp at i0 i1
              simp [hm.len, opBin, arith, i_lt, c2, i0, i1, merged_ok l1 l2 hW, ap, gs, ep]
            · have c2 : ¬ (u : Int) + 1 < R.length := by omega
              have ep : pairAt R R.length t = R[u] := by
                unfold pairAt rowAt
                rw [hu, if_neg c1, List.getElem?_eq_getElem ht2]; rfl
              simp at i0
              simp [hm.len, opBin, arith, i_lt, c2, i0, ap, gs, ep]) ⟨rfl, _, _, rfl⟩
          have em : (List.range ((R.length + 1) / 2)).map (fun t => iL (pairAt R R.length t)) = (passL R).map iL := by rw [passL_map]; simp
          rw [em]
          simp
        · left
          have c' : ¬ (1 : Int) < R.length := by omega
          exact ⟨by rw [hc]; simp [c'], R, d, x, y, z, h1, h2, by omega, rfl, h4⟩) (A.map fun i => [i]) ⟨by
            intro r hr
            obtain ⟨i, _, rfl⟩ := List.mem_map.mp hr
            simp [Srt], by
            rw [flat1], by simpa using hA, _, _, _, _, rfl, ⟨by simp [seqL, Function.comp_def], rfl⟩⟩ (by simp; omega)
    obtain ⟨σ', S', rfl, R, d, x, y, z, h1, h2, h3, rfl, h4⟩ := L
    have nn : opCmp ⟨callF P W (n + 1), P, 0, W⟩ .ne d (.lst []) S' = .ok (.bl (!decide (R = []))) S' := by
      simp only [opCmp, h4.cls, rows_ne h4, Option.map_some, Res.of_some]
    cases R with
    | nil =>
      refine ⟨[], List.Pairwise.nil, h2, S', ?_⟩
      simp [nn, iL]
    | cons q R =>
      have : R = [] := by cases R with
        | nil => rfl
        | cons _ _ => simp at h3
      subst this
      refine ⟨q, h1 q (by simp), by simpa using h2, S', ?_⟩
      have i0 := h4.idx (c := ⟨callF P W (n + 1), P, 0, W⟩) (k := 0) (by simp)
      simp at i0
      simp [nn, i0]
  obtain ⟨q, h1, h2, S1, e⟩ := key
  refine ⟨q, h1, h2, fun b S => ?_⟩
  have lo : D.loL 0 (A.map D.int) = true := ints_pure A
  rw [callF_def (P := P) (fd := c21) hc21 rfl rfl (by simp [D.loL, D.lo, lo])]
  have st : TD.start c21 [.tup (A.map .int)] = [some (.tup (A.map .int)), none, none, none, none] := rfl
  rw [st, e]
  simp [fin, frz_pure]
end
end TD

set_option Elab.async false
set_option linter.all false
set_option maxRecDepth 100000
set_option maxHeartbeats 4000000
set_option autoImplicit false
/-! WG: numbers, lists of numbers. -/
namespace TD
open PySem
open L2 (V)
/-! ### plain -/
def rangeI (a b : Int) : List Int := (List.range (b - a).toNat).map fun (i : Nat) => a + (i : Int)
theorem rangeI_cons {a b : Int} (h : a < b) : rangeI a b = a :: rangeI (a + 1) b := by
  unfold rangeI
  have e : (b - a).toNat = (b - (a + 1)).toNat + 1 := by omega
  rw [e, List.range_succ_eq_map, List.map_cons, List.map_map]
  congr 1
  · omega
  · apply List.map_congr_left
    intro i _
    simp only [Function.comp, Nat.succ_eq_add_one]
    omega
theorem rangeI_len (a b : Int) : (rangeI a b).length = (b - a).toNat := by simp [rangeI]
/-! ### at work -/
section
variable {ax : D} {U xs ys zs : List Cl} {P : Prog} [KB P] {W n b : Nat} {S : Store} {rs : List (List Cl)}
def nAt (o : List Nat) (i : Nat) : Nat := (o[i]?).getD 0
def cAt (U : List Cl) (k : Nat) : Cl := (U[k]?).getD []
def atN (U : List Cl) (o : List Nat) (r : List Cl) : List Int := ((List.range o.length).filter fun i => decide (cAt U (nAt o i) ∈ r)).map fun i => ((i : Nat) : Int)
def eO (o : List Nat) (i : Nat) : D := .tup [.int i, .int (nAt o i)]
theorem o_enum {o : List Nat} : itemsOf .enum [oT o] S = some ((List.range o.length).map (eO o)) := by
  unfold oT itemsOf
  simp only [seqA, Option.map_some]
  congr 1
  apply List.ext_getElem?
  intro i
  simp only [List.getElem?_mapIdx, List.getElem?_map, natsZ]
  by_cases h : i < o.length
  · rw [List.getElem?_eq_getElem h, List.getElem?_range h]; simp [eO, nAt, h]
  · rw [List.getElem?_eq_none (by omega), List.getElem?_eq_none (by simp; omega)]; simp
theorem items_ok (h : OkS ax U) (px : Part U xs) : callF P W (n + 1) b 19 [Rg ax U xs] S = .ok (.lst (U.map fun c => .int (if c ∈ xs then 1 else 0))) S := by
  rw [callF_def (P := P) (fd := c19) hc19 rfl rfl (by simp [D.loL, rg_pure h])]
  simp only [c19, TD.start, List.map_cons, List.map_nil, List.length_cons, List.length_nil, List.cons_append, List.nil_append, List.replicate]
  simp
  rw [compB_pure1 (as := [.tup (U.map cellD)]) (l := U) (e := cellD) (v := fun c => .int (if c ∈ xs then 1 else 0)) (by simp) rfl rfl (fun c hc => turn_1 rfl (by simp) (by simp [wipeD, opCmp, dunOf, in_tup (List.all_eq_true.mp h.ok c hc) (px.ok h), opBf])) (Nat.le_trans h.len (by decide))]
  have lo : D.loL 0 (U.map fun c => D.int (if c ∈ xs then 1 else 0)) = true := by
    rw [loL_iff]; intro x hx
    obtain ⟨i, _, rfl⟩ := List.mem_map.mp hx; rfl
  have lo' : (D.lst (U.map fun c => D.int (if c ∈ xs then 1 else 0))).lo 0 = true := lo
  simp only [bind_o, kret_, cont_rt, fin]
  rw [frz_pure lo']; rfl
theorem isint_i {i : Int} : callF P W (n + 1) b 1 [.int i] S = .ok (.bl true) S := by
  rw [callF_def (P := P) (fd := c1) hc1 rfl rfl rfl]; rfl
theorem isint_b {i : Bool} : callF P W (n + 1) b 1 [.bl i] S = .ok (.bl false) S := by
  rw [callF_def (P := P) (fd := c1) hc1 rfl rfl rfl]; cases i <;> rfl
theorem rgOk_ok {a b : Int} (h1 : 0 ≤ a) (h2 : a ≤ 100) (h3 : 0 ≤ b) (h4 : b ≤ 100) : rgOk a b = true := by
  unfold rgOk
  rw [Bool.and_eq_true]
  constructor
  · rw [decide_eq_true_eq]
    have e : (2 : Int) ^ 62 = 4611686018427387904 := by rfl
    rw [e]
    omega
  · exact Nat.ble_eq_true_of_le (by unfold szl; omega)
theorem range_ok {c : Cn} {a b : Int} (h1 : 0 ≤ a) (h2 : a ≤ 100) (h3 : 0 ≤ b) (h4 : b ≤ 100) : opBf c .range false [.int a, .int b] S = .ok (iL (rangeI a b)) S := by
  have e : opBf c .range false [.int a, .int b] S = if rgOk a b then newL false (rangeL a b) S else .bad := rfl
  rw [e, rgOk_ok h1 h2 h3 h4, if_pos rfl, newL_ok (by unfold rangeL szl; simp; omega)]
  unfold iL rangeI rangeL
  rw [List.map_map]; rfl
theorem range0_ok {c : Cn} {m : Nat} (h : m ≤ 100) : opBf c .range false [.int m] S = .ok (iL (natsZ (List.range m))) S := by
  have e : opBf c .range false [.int m] S = if rgOk 0 m then newL false (rangeL 0 m) S else .bad := rfl
  rw [e, rgOk_ok (by omega) (by omega) (by omega) (by omega), if_pos rfl, newL_ok (by unfold rangeL szl; simp; omega)]
  unfold iL natsZ rangeL
  rw [List.map_map]
  simp
theorem iL_ne0 {c : Cn} {A : List Int} : opCmp c .ne (iL A) (.lst []) S = .ok (.bl (!decide (A = []))) S := l_ne (j := [])
theorem iL_eq0 {c : Cn} {A : List Int} : opCmp c .eq (iL A) (.lst []) S = .ok (.bl (decide (A = []))) S := l_eq (j := [])
theorem iL_ne {c : Cn} {A B : List Int} : opCmp c .ne (iL A) (iL B) S = .ok (.bl (!decide (A = B))) S := l_ne
theorem iL_eq {c : Cn} {A B : List Int} : opCmp c .eq (iL A) (iL B) S = .ok (.bl (decide (A = B))) S := l_eq
theorem iL_last {c : Cn} {A : List Int} (h : A ≠ []) : opIdx c (iL A) (.int (-1)) S = .ok (.int (A.getLastD 0)) S := by
  have hl : 0 < A.length := List.length_pos_iff.mpr h
  have e : ixOf (A.map D.int).length (-1) = some (A.length - 1) := by
    rw [List.length_map]
    unfold ixOf L2.ixN
    simp
    omega
  have e2 : opIdx c (iL A) (.int (-1)) S = Res.of ((ixOf (A.map D.int).length (-1)).bind fun n => (A.map D.int)[n]?) S := rfl
  rw [e2, e, Option.bind_some, List.getElem?_map]
  have : A[A.length - 1]? = some (A.getLastD 0) := by
    rw [← List.getLast?_eq_getElem?]
    cases A with
    | nil => exact absurd rfl h
    | cons a l => rw [List.getLastD_eq_getLast?, List.getLast?_cons]; rfl
  rw [this]; rfl
theorem iL_first {c : Cn} {A : List Int} (h : A ≠ []) : opIdx c (iL A) (.int 0) S = .ok (.int (A.headD 0)) S := by
  cases A with
  | nil => exact absurd rfl h
  | cons a l => exact iL_idx (xs := a :: l) (k := 0) (by simp)
theorem bools_map {ι : Type} (l : List ι) (f : ι → Bool) : boolsOf (l.map fun i => D.bl (f i)) = some (l.map f) := by
  induction l with
  | nil => rfl
  | cons x xs ih => simp [boolsOf, ih]
theorem all_lst {c : Cn} {mu : Bool} {ι : Type} {l : List ι} {f : ι → Bool} : opBf c .all mu [.lst (l.map fun i => .bl (f i))] S = .ok (.bl (l.all f)) S := by
  have e : opBf c .all mu [.lst (l.map fun i => .bl (f i))] S = Res.of ((boolsOf (l.map fun i => .bl (f i))).map fun bs => D.bl (bs.all id)) S := rfl
  rw [e, bools_map]
  simp
end
end TD

set_option Elab.async false
set_option linter.all false
set_option autoImplicit false
set_option maxRecDepth 10000
/-! TN: the law's drawing hand, in plain numbers; a stretch of even draws. -/
namespace TD
structure Hd where
  cs : List Nat
  at_ : Nat
  rest : Nat
  seed : Nat
  count : Nat
def gen3 (y : Nat) : Nat :=
  let a := y * 48271 % 2147483647
  let b := a * (a / 1009 + 69621) % 2147483647
  b * (b / 2003 + 40692) % 2147483399
def open1 (h : Hd) : Hd := match h.cs[h.at_]? with
  | some c => if h.rest = 0 then (⟨h.cs, h.at_ + 1, if 1000000000000000000 ≤ c then c else 0, (h.seed * 69621 + c + 29) % 2147483629, h.count⟩ : Hd) else h
  | none => h
def draw (h : Hd) (n : Nat) : Nat × Hd :=
  let h1 := open1 h
  if 0 < h1.rest then (h1.rest % n, ⟨h1.cs, h1.at_, h1.rest / n, h1.seed, h1.count⟩) else (gen3 (h1.seed + 7919 * (h1.count + 1)) / 16 % n, ⟨h1.cs, h1.at_, h1.rest, h1.seed, h1.count + 1⟩)
theorem draw_lt {h : Hd} {n : Nat} (hn : 0 < n) : (draw h n).1 < n := by
  unfold draw
  dsimp only
  split <;> exact Nat.mod_lt _ hn
/-! ### what is left of the script -/
def bits (c : Nat) : Nat := if c = 0 then 0 else Nat.log2 c + 1
theorem bits_div {c n : Nat} (hn : 2 ≤ n) (hc : 0 < c) : bits (c / n) < bits c := by
  unfold bits
  by_cases z : c / n = 0
  · rw [if_pos z, if_neg (by omega)]; omega
  · rw [if_neg z, if_neg (by omega)]
    have h1 : 2 ^ (c / n).log2 ≤ c / n := Nat.log2_self_le z
    have h2 : c < 2 ^ (c.log2 + 1) := Nat.lt_log2_self
    have h3 : c / n * 2 ≤ c := Nat.le_trans (Nat.mul_le_mul_left _ hn) (Nat.div_mul_le_self c n)
    have h4 : 2 ^ ((c / n).log2 + 1) < 2 ^ (c.log2 + 1) := by
      rw [Nat.pow_succ]; omega
    have := (Nat.pow_lt_pow_iff_right (a := 2) (by omega)).mp h4
    omega
theorem bits_div_le (c n : Nat) : bits (c / n) ≤ bits c := by
  unfold bits
  by_cases z : c / n = 0
  · rw [if_pos z]; omega
  · have hc : c ≠ 0 := fun e => z (by rw [e]; exact Nat.zero_div n)
    rw [if_neg z, if_neg hc]
    have h1 : 2 ^ (c / n).log2 ≤ c / n := Nat.log2_self_le z
    have h2 : c < 2 ^ (c.log2 + 1) := Nat.lt_log2_self
    have h3 : c / n ≤ c := Nat.div_le_self c n
    have h4 : 2 ^ (c / n).log2 < 2 ^ (c.log2 + 1) := by omega
    have := (Nat.pow_lt_pow_iff_right (a := 2) (by omega)).mp h4
    omega
def left (h : Hd) : Nat := bits h.rest + ((h.cs.drop h.at_).map fun c => bits c + 1).sum
theorem open1_left (h : Hd) : left (open1 h) ≤ left h ∧ (left (open1 h) < left h ∨ open1 h = h ∧ (0 < h.rest ∨ left h = 0)) := by
  unfold open1
  split
  · rename_i c e
    split
    · rename_i hr
      have hd : h.cs.drop h.at_ = c :: h.cs.drop (h.at_ + 1) := by
        obtain ⟨hl, e'⟩ := List.getElem?_eq_some_iff.mp e
        rw [← e']; exact List.drop_eq_getElem_cons hl
      have : left (⟨h.cs, h.at_ + 1, if 1000000000000000000 ≤ c then c else 0, (h.seed * 69621 + c + 29) % 2147483629, h.count⟩ : Hd) < left h := by
        unfold left
        dsimp only
        rw [hd, hr, List.map_cons, List.sum_cons]
        split
        · simp [bits]
        · simp [bits]
      exact ⟨by omega, .inl this⟩
    · exact ⟨Nat.le_refl _, .inr ⟨rfl, .inl (by omega)⟩⟩
  · rename_i e
    refine ⟨Nat.le_refl _, .inr ⟨rfl, ?_⟩⟩
    by_cases hr : 0 < h.rest
    · exact .inl hr
    · right
      have : h.cs.drop h.at_ = [] := List.drop_eq_nil_of_le (List.getElem?_eq_none_iff.mp e)
      unfold left
      rw [this]
      have : h.rest = 0 := by omega
      simp [this, bits]
theorem draw_left (h : Hd) (n : Nat) : left (draw h n).2 ≤ left h := by
  have o := (open1_left h).1
  unfold draw
  dsimp only
  split
  · have : left (⟨(open1 h).cs, (open1 h).at_, (open1 h).rest / n, (open1 h).seed, (open1 h).count⟩ : Hd) ≤ left (open1 h) := by
      unfold left
      have := bits_div_le (open1 h).rest n
      dsimp only; omega
    dsimp only; omega
  · exact o
theorem draw_less {h : Hd} {n : Nat} (hn : 2 ≤ n) (hl : 0 < left h) : left (draw h n).2 < left h := by
  obtain ⟨o1, o2⟩ := open1_left h
  unfold draw
  dsimp only
  split
  · rename_i hr
    have : left (⟨(open1 h).cs, (open1 h).at_, (open1 h).rest / n, (open1 h).seed, (open1 h).count⟩ : Hd) < left (open1 h) := by
      unfold left
      have := bits_div hn hr
      dsimp only; omega
    dsimp only; omega
  · rename_i hr
    rcases o2 with z | ⟨z1, z2⟩
    · exact z
    · rw [z1] at hr
      rcases z2 with z | z <;> omega
theorem open1_zero {h : Hd} (hl : left h = 0) : open1 h = h ∧ h.rest = 0 := by
  obtain ⟨o1, o2⟩ := open1_left h
  rcases o2 with z | ⟨z1, z2⟩
  · omega
  · refine ⟨z1, ?_⟩
    by_cases c : h.rest = 0
    · exact c
    · unfold left bits at hl
      rw [if_neg c] at hl
      omega
theorem draw_zero {h : Hd} (hl : left h = 0) (n : Nat) : draw h n = (gen3 (h.seed + 7919 * (h.count + 1)) / 16 % n, (⟨h.cs, h.at_, h.rest, h.seed, h.count + 1⟩ : Hd)) := by
  obtain ⟨e, r⟩ := open1_zero hl
  unfold draw
  rw [e]
  dsimp only
  rw [if_neg (by omega)]
/-! ### a stretch of even draws -/
def PP : Nat := 2147483647
theorem gen3_mod (y : Nat) : gen3 (y % PP) = gen3 y := by
  have : y % PP * 48271 % 2147483647 = y * 48271 % 2147483647 := by unfold PP; omega
  unfold gen3
  rw [this]
/-- how far on the hand is, from where the even draws begin -/
def far (h : Hd) : Nat := (h.seed + 7919 * h.count + (PP - 123915)) * 786425379 % PP
def evenAt (i : Nat) : Bool := decide (gen3 (123915 + 7919 * i) / 16 % 2 = 0)
theorem evens : ∀ i, i < 15 → evenAt (i + 1) = true := by decide +kernel
theorem far_pos (h : Hd) : (h.seed + 7919 * h.count) % PP = (123915 + 7919 * far h) % PP := by
  unfold far PP
  omega
theorem far_lt (h : Hd) : far h < PP := Nat.mod_lt _ (by decide)
theorem far_next (h : Hd) : far (⟨h.cs, h.at_, h.rest, h.seed, h.count + 1⟩ : Hd) = (far h + 1) % PP := by
  unfold far PP
  dsimp only
  omega
theorem even_draw {h : Hd} (hl : left h = 0) (hf : far h < 15) : (draw h 2).1 = 0 := by
  rw [draw_zero hl]
  dsimp only
  have e := evens (far h) hf
  unfold evenAt at e
  have e := of_decide_eq_true e
  have p : (h.seed + 7919 * (h.count + 1)) % PP = (123915 + 7919 * (far h + 1)) % PP := by
    have := far_pos h
    unfold PP at *
    omega
  rw [← gen3_mod, p, gen3_mod]
  exact e
/-- h' stands c draws behind h -/
inductive Steps : Hd → Nat → Hd → Prop
  | nil (h : Hd) : Steps h 0 h
  | cons {h h' : Hd} {c : Nat} (n : Nat) : Steps (draw h n).2 c h' → Steps h (c + 1) h'
theorem Steps.one (h : Hd) (n : Nat) : Steps h 1 (draw h n).2 := .cons n (.nil _)
theorem Steps.trans {h1 h2 h3 : Hd} {a b : Nat} (x : Steps h1 a h2) (y : Steps h2 b h3) : Steps h1 (a + b) h3 := by
  induction x with
  | nil => rw [Nat.zero_add]; exact y
  | cons n _ ih => rw [Nat.add_right_comm]; exact .cons n (ih y)
theorem Steps.left {h h' : Hd} {c : Nat} (x : Steps h c h') : left h' ≤ left h := by
  induction x with
  | nil => exact Nat.le_refl _
  | cons n _ ih => exact Nat.le_trans ih (draw_left _ n)
theorem Steps.far {h h' : Hd} {c : Nat} (x : Steps h c h') (hl : TD.left h = 0) : far h' = (far h + c) % PP := by
  induction x with
  | nil h => rw [Nat.add_zero, Nat.mod_eq_of_lt (far_lt h)]
  | cons n x ih =>
    rename_i h h' c
    have l1 : TD.left (draw h n).2 = 0 := by have := draw_left h n; omega
    rw [ih l1, draw_zero hl]
    dsimp only
    rw [far_next]
    unfold PP
    omega
/-- the measure of how far an end is away -/
def away (h : Hd) : Nat := left h * (PP + 1) + (if far h ≤ 7 then 0 else PP - far h)
theorem away_less {h h' : Hd} {c : Nat} (x : Steps h c h') (h1 : 1 ≤ c) (h8 : c ≤ 8) (hd : left h = 0 ∧ 8 ≤ far h ∨ left h' < left h) : away h' < away h := by
  rcases hd with ⟨l, f⟩ | l
  · have e := x.far l
    have l' : left h' = 0 := by have := x.left; omega
    have := far_lt h
    unfold away
    rw [l, l', Nat.zero_mul, Nat.zero_add, Nat.zero_add, e]
    have k : (far h + c) % PP = far h + c ∧ far h + c < PP ∨ (far h + c) % PP ≤ 7 := by unfold PP at *; omega
    rcases k with ⟨k, k'⟩ | k
    · rw [k]; split <;> split <;> omega
    · rw [if_pos k]; split <;> omega
  · have z : ∀ K, left h' * K + K ≤ left h * K := fun K => by
      have := Nat.mul_le_mul_right K l
      rw [Nat.succ_mul] at this
      exact this
    have e2 : (if far h' ≤ 7 then 0 else PP - far h') ≤ PP := by split <;> omega
    unfold away
    obtain ⟨K, hK⟩ : ∃ K, K = PP + 1 := ⟨_, rfl⟩
    rw [← hK]
    have := z K
    omega
theorem away_le (h : Hd) : away h ≤ left h * (PP + 1) + PP := by
  unfold away
  have e2 : (if far h ≤ 7 then 0 else PP - far h) ≤ PP := by split <;> omega
  omega
/-- what is kept of a list when a digit is drawn for each -/
def sift {α : Type} (n : Nat) (k : Nat → Bool) : List α → Hd → List α × Hd
  | [], h => ([], h)
  | x :: xs, h => let d := draw h n; let r := sift n k xs d.2; (if k d.1 then x :: r.1 else r.1, r.2)
section
variable {α : Type} {n : Nat} {k : Nat → Bool}
theorem sift_steps : ∀ (xs : List α) (h : Hd), Steps h xs.length (sift n k xs h).2
  | [], h => .nil h
  | x :: xs, h => by
    simp only [sift, List.length_cons]
    exact .cons n (sift_steps xs _)
theorem sift_sub : ∀ (xs : List α) (h : Hd), ∀ x ∈ (sift n k xs h).1, x ∈ xs
  | [], h, x, hx => by simp [sift] at hx
  | y :: xs, h, x, hx => by
    simp only [sift] at hx
    split at hx
    · rcases List.mem_cons.mp hx with z | z
      · exact List.mem_cons.mpr (.inl z)
      · exact List.mem_cons_of_mem _ (sift_sub xs _ x z)
    · exact List.mem_cons_of_mem _ (sift_sub xs _ x hx)
end
theorem sift_all {α : Type} (xs : List α) : ∀ (h : Hd), left h = 0 → far h + xs.length ≤ 15 → (sift 2 (fun d => decide (d = 0)) xs h).1 = xs := by
  induction xs with
  | nil => intro h _ _; simp only [sift]
  | cons x xs ih =>
    intro h hl hf
    rw [List.length_cons] at hf
    have e := even_draw hl (by omega)
    have l1 : left (draw h 2).2 = 0 := by have := draw_left h 2; omega
    have s := (Steps.one h 2).far hl
    have f1 : far (draw h 2).2 + xs.length ≤ 15 := by rw [s]; unfold PP; omega
    simp only [sift, e, decide_true, if_true]
    rw [ih _ l1 f1]
theorem sift_less {α : Type} {xs : List α} {h : Hd} {k : Nat → Bool} (hx : xs ≠ []) (hl : 0 < left h) : left (sift 2 k xs h).2 < left h := by
  cases xs with
  | nil => exact absurd rfl hx
  | cons x xs =>
    simp only [sift]
    exact Nat.lt_of_le_of_lt (sift_steps xs _).left (draw_less (Nat.le_refl 2) hl)
end TD

set_option Elab.async false
set_option linter.all false
set_option maxRecDepth 100000
set_option maxHeartbeats 4000000
set_option autoImplicit false
/-! WH: the drawing hand at work. -/
namespace TD
open PySem
open L2 (V)
section
variable {P : Prog} [KB P] {W n b : Nat} {S : Store} {T : Store}
def hC (cs : List Nat) (a r s k : Int) : Cell := .lst [.lst (cs.map fun c => .int ((c : Nat) : Int)), .int a, .int r, .int s, .int k]
def handC (h : Hd) : Cell := hC h.cs h.at_ h.rest h.seed h.count
section
variable {c : Cn} {cs : List Nat} {a r s k v : Int}
@[simp] theorem h_0 : opIdx c (.ref 0) (.int 0) (hC cs a r s k :: T) = .ok (.lst (cs.map fun c => .int ((c : Nat) : Int))) (hC cs a r s k :: T) := rfl
@[simp] theorem h_1 : opIdx c (.ref 0) (.int 1) (hC cs a r s k :: T) = .ok (.int a) (hC cs a r s k :: T) := rfl
@[simp] theorem h_2 : opIdx c (.ref 0) (.int 2) (hC cs a r s k :: T) = .ok (.int r) (hC cs a r s k :: T) := rfl
@[simp] theorem h_3 : opIdx c (.ref 0) (.int 3) (hC cs a r s k :: T) = .ok (.int s) (hC cs a r s k :: T) := rfl
@[simp] theorem h_4 : opIdx c (.ref 0) (.int 4) (hC cs a r s k :: T) = .ok (.int k) (hC cs a r s k :: T) := rfl
theorem wr_int : wrOk c 0 (.int v) = true := by unfold wrOk; rw [show (D.int v).pure = true from rfl, Bool.or_true]
theorem set_at {xs : List D} {j : Int} {m : Nat} (h : L2.ixN xs.length j = some m) : setI c (.ref 0) (.int j) (.int v) (.lst xs :: T) = .ok () (.lst (xs.set m (.int v)) :: T) := by
  simp [setI, ixOf, h, wr_int]
@[simp] theorem hs_1 : setI c (.ref 0) (.int 1) (.int v) (hC cs a r s k :: T) = .ok () (hC cs v r s k :: T) := set_at (m := 1) rfl
@[simp] theorem hs_2 : setI c (.ref 0) (.int 2) (.int v) (hC cs a r s k :: T) = .ok () (hC cs a v s k :: T) := set_at (m := 2) rfl
@[simp] theorem hs_3 : setI c (.ref 0) (.int 3) (.int v) (hC cs a r s k :: T) = .ok () (hC cs a r v k :: T) := set_at (m := 3) rfl
@[simp] theorem hs_4 : setI c (.ref 0) (.int 4) (.int v) (hC cs a r s k :: T) = .ok () (hC cs a r s v :: T) := set_at (m := 4) rfl
end
theorem mul_m {x y : Int} {p : Int} (h0 : 0 < p) (hp : p < 4294967296) : mulOk (x.fmod p) y = true := by
  have h1 : 0 ≤ x.fmod p := Int.fmod_nonneg_of_pos x h0
  have h2 : x.fmod p < p := Int.fmod_lt_of_pos x h0
  unfold mulOk
  have e : (2 : Int) ^ 64 = 18446744073709551616 := by rfl
  rw [e, decide_eq_true (p := -18446744073709551616 < x.fmod p ∧ x.fmod p < 18446744073709551616) (by omega)]
  rfl
theorem mul_c {x y : Int} (h1 : 0 ≤ y) (h2 : y < 4294967296) : mulOk x y = true := by
  unfold mulOk
  have e : (2 : Int) ^ 64 = 18446744073709551616 := by rfl
  rw [e, decide_eq_true (p := -18446744073709551616 < y ∧ y < 18446744073709551616) (by omega)]
  simp
theorem mul_c' {x y : Int} (h1 : 0 ≤ x) (h2 : x < 4294967296) : mulOk x y = true := by
  unfold mulOk
  have e : (2 : Int) ^ 64 = 18446744073709551616 := by rfl
  rw [e, decide_eq_true (p := -18446744073709551616 < x ∧ x < 18446744073709551616) (by omega)]
  simp
theorem div_c {y : Int} (h1 : 0 < y) (h2 : y < 1073741824) : divOk y = true := by
  unfold divOk
  rw [decide_eq_true_eq]
  refine ⟨by omega, ?_⟩
  have : y.natAbs.log2 < 30 := (Nat.log2_lt (by omega)).mpr (by omega)
  omega
theorem pow18 : arith .pow 10 18 = some 1000000000000000000 := by rfl
theorem ar_add {i j : Int} : arith .add i j = some (i + j) := rfl
theorem ar_mul {i j : Int} (h : mulOk i j = true) : arith .mul i j = some (i * j) := by unfold arith; rw [if_pos h]
theorem ar_div {i j : Int} (h : divOk j = true) : arith .fdiv i j = some (i.fdiv j) := by unfold arith; rw [if_pos h]
theorem ar_mod {i j : Int} (h : j ≠ 0) : arith .mod i j = some (i.fmod j) := by unfold arith; rw [if_pos (decide_eq_true h)]
theorem b_int {c : Cn} {mu : Bool} {op : BOp} {i j : Int} : opBin c mu op (.int i) (.int j) S = Res.of ((arith op i j).map .int) S := rfl
theorem bf_int {c : Cn} {mu : Bool} {i : Int} : opBf c .int mu [.int i] S = .ok (.int i) S := rfl
theorem ar_mul_c {i j : Int} (h1 : 0 ≤ j) (h2 : j < 4294967296) : arith .mul i j = some (i * j) := ar_mul (mul_c h1 h2)
theorem ar_mul_l {j : Int} : arith .mul 7919 j = some (7919 * j) := ar_mul (mul_c' (by omega) (by omega))
theorem ar_mul_f {x y : Int} : arith .mul (x.fmod 2147483647) y = some (x.fmod 2147483647 * y) := ar_mul (mul_m (by omega) (by omega))
theorem ar_div_c {i j : Int} (h1 : 0 < j) (h2 : j < 1073741824) : arith .fdiv i j = some (i.fdiv j) := ar_div (div_c h1 h2)
theorem fm {x y : Nat} : ((x : Int)).fmod y = ((x % y : Nat) : Int) := (Int.ofNat_fmod x y).symm
theorem fd {x y : Nat} : ((x : Int)).fdiv y = ((x / y : Nat) : Int) := (Int.ofNat_fdiv x y).symm
def gen3I (y : Int) : Int :=
  let a := (y * 48271).fmod 2147483647
  let b := (a * (a.fdiv 1009 + 69621)).fmod 2147483647
  (b * (b.fdiv 2003 + 40692)).fmod 2147483399
theorem gen3I_eq (y : Nat) : gen3I y = gen3 y := by
  have c1 : ∀ x : Nat, ((x : Int)).fmod 2147483647 = ((x % 2147483647 : Nat) : Int) := fun x => fm (y := 2147483647)
  have c2 : ∀ x : Nat, ((x : Int)).fmod 2147483399 = ((x % 2147483399 : Nat) : Int) := fun x => fm (y := 2147483399)
  have c3 : ∀ x : Nat, ((x : Int)).fdiv 1009 = ((x / 1009 : Nat) : Int) := fun x => fd (y := 1009)
  have c4 : ∀ x : Nat, ((x : Int)).fdiv 2003 = ((x / 2003 : Nat) : Int) := fun x => fd (y := 2003)
  unfold gen3I gen3
  dsimp only
  rw [show ((y : Int) * 48271) = ((y * 48271 : Nat) : Int) by simp, c1]
  generalize y * 48271 % 2147483647 = a
  rw [c3, show ((a : Int) * (((a / 1009 : Nat) : Int) + 69621)) = ((a * (a / 1009 + 69621) : Nat) : Int) by simp, c1]
  generalize a * (a / 1009 + 69621) % 2147483647 = b
  rw [c4, show ((b : Int) * (((b / 2003 : Nat) : Int) + 40692)) = ((b * (b / 2003 + 40692) : Nat) : Int) by simp, c2]
/-- the draw's end, once the script's number is there -/
def tailS : Sx := (.cons (.iff (.cmp .gt (.idx (.var 0) (.lit (.int (2)))) (.lit (.int (0)))) (.cons (.asg (.nm 4) (.bin false .mod (.bf .int false (.cons (.idx (.var 0) (.lit (.int (2)))) (.nil))) (.var 1))) (.cons (.asgI (.var 0) (.lit (.int (2))) (.bin false .fdiv (.idx (.var 0) (.lit (.int (2)))) (.var 1))) (.cons (.ret (.var 4)) (.nil)))) (.nil)) (.cons (.asgI (.var 0) (.lit (.int (4))) (.bin false .add (.idx (.var 0) (.lit (.int (4)))) (.lit (.int (1))))) (.cons (.asg (.nm 2) (.bin false .mod (.bf .int false (.cons (.bin false .mul (.bf .int false (.cons (.bin false .add (.idx (.var 0) (.lit (.int (3)))) (.bin false .mul (.lit (.int (7919))) (.idx (.var 0) (.lit (.int (4)))))) (.nil))) (.lit (.int (48271)))) (.nil))) (.lit (.int (2147483647))))) (.cons (.asg (.nm 2) (.bin false .mod (.bf .int false (.cons (.bin false .mul (.var 2) (.bin false .add (.bin false .fdiv (.var 2) (.lit (.int (1009)))) (.lit (.int (69621))))) (.nil))) (.lit (.int (2147483647))))) (.cons (.asg (.nm 2) (.bin false .mod (.bf .int false (.cons (.bin false .mul (.var 2) (.bin false .add (.bin false .fdiv (.var 2) (.lit (.int (2003)))) (.lit (.int (40692))))) (.nil))) (.lit (.int (2147483399))))) (.cons (.ret (.bin false .mod (.bf .int false (.cons (.bin false .fdiv (.var 2) (.lit (.int (16)))) (.nil))) (.var 1))) (.nil)))))))
theorem draw_tail {c : Cn} {cs : List Nat} {a r s k : Nat} {m : Nat} (hm : 0 < m) (hm2 : m ≤ 1000) {x y z : Option D} : exec c tailS [some (.ref 0), some (.int m), x, y, z] (hC cs a r s k :: T) = if 0 < r then .ok (.rt (.int ((r % m : Nat) : Int))) (hC cs a ((r / m : Nat) : Int) s k :: T) else .ok (.rt (.int ((gen3 (s + 7919 * (k + 1)) / 16 % m : Nat) : Int))) (hC cs a r s ((k + 1 : Nat) : Int) :: T) := by
  have m0 : (m : Int) ≠ 0 := by omega
  unfold tailS
  by_cases hr : 0 < r
  · have hr' : (0 : Int) < r := by omega
    rw [if_pos hr]
    have d1 := ar_div_c (i := (r : Int)) (j := (m : Int)) (by omega) (by omega)
    have d2 := ar_mod (i := (r : Int)) m0
    rw [fd] at d1
    rw [fm] at d2
    generalize ((r / m : Nat) : Int) = u at d1 ⊢
    generalize ((r % m : Nat) : Int) = v at d2 ⊢
    simp [i_gt, hr, b_int, bf_int, d1, d2]
  · have hr' : ¬ (0 : Int) < r := by omega
    rw [if_neg hr]
    have key : ∀ y : Nat, ((gen3I y).fdiv 16).fmod m = ((gen3 y / 16 % m : Nat) : Int) := fun y => by
      rw [gen3I_eq, show (16 : Int) = ((16 : Nat) : Int) from rfl, fd, fm]
    rw [← key, show ((k + 1 : Nat) : Int) = (k : Int) + 1 by simp, show ((s + 7919 * (k + 1) : Nat) : Int) = (s : Int) + 7919 * ((k : Int) + 1) by simp]
    unfold gen3I
    dsimp only
    simp only [s_cons, s10]
    simp [i_gt, hr, b_int, bf_int, ar_mod m0, ar_add, ar_mul_c, ar_mul_l, ar_mul_f, ar_div_c, ar_mod]
end
end TD

set_option Elab.async false
set_option linter.all false
set_option maxRecDepth 100000
set_option maxHeartbeats 4000000
set_option autoImplicit false
/-! WI: a draw. -/
namespace TD
open PySem
open L2 (V)
section
variable {P : Prog} [KB P] {W n b : Nat} {S : Store} {T : Store}
def headS : Sx := .iff (.and (.cmp .eq (.idx (.var 0) (.lit (.int (2)))) (.lit (.int (0)))) (.cmp .lt (.idx (.var 0) (.lit (.int (1)))) (.bf .len false (.cons (.idx (.var 0) (.lit (.int (0)))) (.nil))))) (.cons (.asg (.nm 3) (.idx (.idx (.var 0) (.lit (.int (0)))) (.idx (.var 0) (.lit (.int (1)))))) (.cons (.asgI (.var 0) (.lit (.int (1))) (.bin false .add (.idx (.var 0) (.lit (.int (1)))) (.lit (.int (1))))) (.cons (.asgI (.var 0) (.lit (.int (3))) (.bin false .mod (.bf .int false (.cons (.bin false .add (.bin false .add (.bin false .mul (.idx (.var 0) (.lit (.int (3)))) (.lit (.int (69621)))) (.var 3)) (.lit (.int (29)))) (.nil))) (.lit (.int (2147483629))))) (.cons (.iff (.cmp .ge (.var 3) (.bin false .pow (.lit (.int (10))) (.lit (.int (18))))) (.cons (.asgI (.var 0) (.lit (.int (2))) (.var 3)) (.nil)) (.nil)) (.nil))))) (.nil)
theorem c40_body : c40.body = .cons headS tailS := rfl
theorem draw_head {c : Cn} {h : Hd} {m : Nat} : ∃ x, exec c headS [some (.ref 0), some (.int m), none, none, none] (handC h :: T) = .ok (.nx [some (.ref 0), some (.int m), none, x, none]) (handC (open1 h) :: T) := by
  unfold headS handC open1
  cases e : h.cs[h.at_]? with
  | none =>
    have hl : ¬ h.at_ < h.cs.length := by
      have := List.getElem?_eq_none_iff.mp e; omega
    have hl' : ¬ (h.at_ : Int) < h.cs.length := by omega
    by_cases hr : h.rest = 0
    · simp [i_eq, i_lt, len_lst, hr, hl]
    · simp [i_eq, hr]
  | some d =>
    have hl : h.at_ < h.cs.length := (List.getElem?_eq_some_iff.mp e).1
    by_cases hr : h.rest = 0
    · have ix : opIdx c (.lst (h.cs.map fun c => .int ((c : Nat) : Int))) (.int h.at_) (hC h.cs h.at_ h.rest h.seed h.count :: T) = .ok (.int d) (hC h.cs h.at_ h.rest h.seed h.count :: T) := idx_lst (by rw [List.getElem?_map, e]; rfl)
      have sd : ((h.seed : Int) * 69621 + d + 29).fmod 2147483629 = (((h.seed * 69621 + d + 29) % 2147483629 : Nat) : Int) := fm (x := h.seed * 69621 + d + 29) (y := 2147483629)
      rw [hr] at ix ⊢
      simp only [if_true]
      generalize hu : (((h.seed * 69621 + d + 29) % 2147483629 : Nat) : Int) = u at sd ⊢
      by_cases g : 1000000000000000000 ≤ d
      · have g' : (1000000000000000000 : Int) ≤ d := by omega
        simp only [if_pos g]
        simp at ix
        simp [i_eq, i_lt, len_lst, hl, ix, b_int, bf_int, ar_add, ar_mul_c, ar_mod, sd, pow18, i_ge, g, g', hu]
      · have g' : ¬ (1000000000000000000 : Int) ≤ d := by omega
        simp only [if_neg g]
        simp at ix
        simp [i_eq, i_lt, len_lst, hl, ix, b_int, bf_int, ar_add, ar_mul_c, ar_mod, sd, pow18, i_ge, g, g', hu]
    · simp [i_eq, hr]
theorem draw_ok {h : Hd} {m : Nat} (hm : 0 < m) (hm2 : m ≤ 1000) : callF P W (n + 1) b 40 [.ref 0, .int m] (handC h :: T) = .ok (.int (((draw h m).1 : Nat) : Int)) (handC (draw h m).2 :: T) := by
  rw [callF_st (P := P) (fd := c40) hc40 rfl (by simp [c40])]
  rw [c40_body, s_cons]
  have st : TD.start c40 [.ref 0, .int m] = [some (.ref 0), some (.int m), none, none, none] := rfl
  obtain ⟨x, e⟩ := draw_head (c := ⟨callF P W n, P, if c40.keep = true then b else (handC h :: T).length, W⟩) (h := h) (m := m) (T := T)
  rw [st, e, bind_o, cont_nx]
  unfold handC
  rw [draw_tail hm hm2]
  unfold draw
  dsimp only
  by_cases hr : 0 < (open1 h).rest
  · rw [if_pos hr, if_pos hr]; simp [finL, leave, c40, List.take_of_length_le]
  · rw [if_neg hr, if_neg hr]; simp [finL, leave, c40, List.take_of_length_le]
end
end TD

set_option Elab.async false
set_option linter.all false
set_option maxRecDepth 100000
set_option maxHeartbeats 4000000
set_option autoImplicit false
/-! WJ: some, space, region, regions. -/
namespace TD
open PySem
open L2 (V)
section
variable {ax : D} {U xs ys zs : List Cl} {P : Prog} [KB P] {W n b : Nat} {S : Store} {T : Store} {rs : List (List Cl)}
theorem steps_1 (h : Hd) (m : Nat) : Steps h 1 (draw h m).2 := Steps.one h m
theorem some_ok {h : Hd} {t : D} {ds : List D} (hs : ∀ h' : Hd, SeqI (handC h' :: T) t ds) (h0 : 0 < ds.length) (h1 : ds.length ≤ 1000) {x : D} (hx : ds[(draw h ds.length).1]? = some x) (lo : x.lo (T.length + 1) = true) : callF P W (n + 2) b 42 [.ref 0, t] (handC h :: T) = .ok x (handC (draw h ds.length).2 :: T) := by
  rw [callF_st (P := P) (fd := c42) hc42 rfl (by simp [c42])]
  have st : TD.start c42 [.ref 0, t] = [some (.ref 0), some t] := rfl
  rw [st]
  have e1 := draw_ok (P := P) (W := W) (n := n) (b := if c42.keep = true then b else (handC h :: T).length) (h := h) (T := T) h0 h1
  have hk := (List.getElem?_eq_some_iff.mp hx)
  obtain ⟨hk, hx⟩ := hk
  have e2 := (hs (draw h ds.length).2).idx (c := ⟨callF P W (n + 1), P, if c42.keep = true then b else (handC h :: T).length, W⟩) hk
  have e3 := (hs h).len (c := ⟨callF P W (n + 1), P, if c42.keep = true then b else (handC h :: T).length, W⟩) (mu := false)
  rw [hx] at e2
  simp only [c42, s_cons]
  simp [c42] at e1 e2 e3
  simp [e1, e2, e3, finL, leave, frz_lo lo]
theorem some_lst {h : Hd} {ds : List D} (h0 : 0 < ds.length) (h1 : ds.length ≤ 1000) (hp : ∀ d ∈ ds, d.lo 0 = true) : ∃ x ∈ ds, callF P W (n + 2) b 42 [.ref 0, .lst ds] (handC h :: T) = .ok x (handC (draw h ds.length).2 :: T) := by
  have hk := draw_lt (h := h) h0
  exact ⟨ds[(draw h ds.length).1], List.getElem_mem hk, some_ok (fun _ => ⟨rfl, rfl⟩) h0 h1 (List.getElem?_eq_getElem hk) (lo_mono (Nat.zero_le _) _ (hp _ (List.getElem_mem hk)))⟩
/-- a comprehension that draws for each cell -/
theorem compL_sift {f : D → Store → Res (List D)} {m : Nat} {k : Nat → Bool} : ∀ (xs : List Cl) (h : Hd), (∀ c ∈ xs, ∀ h, f (cellD c) (handC h :: T) = .ok (if k (draw h m).1 then [cellD c] else []) (handC (draw h m).2 :: T)) → compL f (xs.map cellD) (handC h :: T) = .ok ((sift m k xs h).1.map cellD) (handC (sift m k xs h).2 :: T)
  | [], h, _ => rfl
  | c :: xs, h, H => by
    simp only [List.map_cons, compL, H c List.mem_cons_self, bind_o, compL_sift xs _ fun d hd => H d (List.mem_cons_of_mem _ hd), sift]
    cases k (draw h m).1 <;> rfl
theorem sift_len {α : Type} {m : Nat} {k : Nat → Bool} : ∀ (xs : List α) (h : Hd), (sift m k xs h).1.length ≤ xs.length
  | [], h => Nat.le_refl _
  | c :: xs, h => by
    have := sift_len (m := m) (k := k) xs (draw h m).2
    simp only [sift]
    split <;> simp <;> omega
theorem compB_sift {own : List (Str × Nat)} {t : Tg} {src cs elt : Ev} {σ : Sl} {m : Nat} {k : Nat → Bool} {h : Hd} (hs : src σ (handC h :: T) = .ok (.tup [.tup (xs.map cellD)]) (handC h :: T)) (ht : ∀ c ∈ xs, ∀ h, turnB t cs elt (wipeD σ (own.map (·.2))) (cellD c) (handC h :: T) = .ok (if k (draw h m).1 then [cellD c] else []) (handC (draw h m).2 :: T)) (hl : xs.length ≤ TD.szl) : compB false own t .val src cs elt σ (handC h :: T) = .ok (.lst ((sift m k xs h).1.map cellD)) (handC (sift m k xs h).2 :: T) := by
  unfold compB
  have e : itemsOf .val [.tup (xs.map cellD)] (handC h :: T) = some (xs.map cellD) := rfl
  simp only [hs, bind_o, argsOf, e, refsOf, within_nil, compL_sift xs h ht]
  rw [newL_ok (by rw [List.length_map]; exact Nat.le_trans (sift_len _ _) hl)]
  rfl
/-! ### the spaces -/
def OkSp (ax : D) (U : List Cl) : Prop := OkS ax U ∧ 2 ≤ U.length ∧ U.length ≤ 6
theorem okS_of (h : ((ax.lo 0 && (clsOf [] ax).isNone && U.all okC && Nat.ble U.length 6 && Nat.ble 2 U.length) && (match eqD [] ax ax with | some b => b | none => false)) = true) : OkSp ax U := by
  simp only [Bool.and_eq_true] at h
  obtain ⟨⟨⟨⟨⟨h1, h2⟩, h3⟩, h4⟩, h5⟩, h6⟩ := h
  have h4 := Nat.le_of_ble_eq_true h4
  refine ⟨⟨h1, ?_, ?_, h3, by omega⟩, Nat.le_of_ble_eq_true h5, h4⟩
  · cases e : eqD [] ax ax with
    | none => rw [e] at h6; cases h6
    | some b => rw [e] at h6; simp only at h6; rw [h6]
  · cases e : clsOf [] ax with
    | none => rfl
    | some b => rw [e] at h2; cases h2
theorem ok22 : OkSp (sp2 ["x", "y"]) (u2 ["x", "y"]) := okS_of (by decide +kernel)
theorem ok23 : OkSp (sp2 ["x", "y", "z"]) (u2 ["x", "y", "z"]) := okS_of (by decide +kernel)
theorem ok12 : OkSp (sp1 ["p", "q"]) (u1 ["p", "q"]) := okS_of (by decide +kernel)
theorem ok13 : OkSp (sp1 ["p", "q", "r"]) (u1 ["p", "q", "r"]) := okS_of (by decide +kernel)
theorem ok14 : OkSp (sp1 ["p", "q", "r", "s"]) (u1 ["p", "q", "r", "s"]) := okS_of (by decide +kernel)
theorem ok15 : OkSp (sp1 ["p", "q", "r", "s", "t"]) (u1 ["p", "q", "r", "s", "t"]) := okS_of (by decide +kernel)
end
end TD

set_option Elab.async false
set_option linter.all false
set_option maxRecDepth 100000
set_option maxHeartbeats 4000000
set_option autoImplicit false
/-! WK: space, region, order. -/
namespace TD
open PySem
open L2 (V)
section
variable {ax : D} {U xs ys zs : List Cl} {P : Prog} [KB P] {W n b : Nat} {S : Store} {T : Store} {rs : List (List Cl)}
@[simp] theorem newL_f4 {x y z w : D} {S : Store} : newL false [x, y, z, w] S = .ok (.lst [x, y, z, w]) S := id rfl
theorem cut_lst {mu : Bool} {ds : List D} {m : Nat} {S : Store} : opSl false (.lst ds) (some none) (some (some (m : Int))) S = newL false (cutL ds none (some (m : Int))) S := rfl
theorem sp_lo (h : OkS ax U) {k : Nat} : (Sp ax U).lo k = true := lo_mono (Nat.zero_le _) _ (sp_pure h)
theorem space_ok (h : Hd) : ∃ ax U h', OkSp ax U ∧ left h' ≤ left h ∧ callF P W (n + 4) b 41 [.ref 0, .bl false] (handC h :: T) = .ok (Sp ax U) (handC h' :: T) := by
  have st : TD.start c41 [.ref 0, .bl false] = [some (.ref 0), some (.bl false), none] := rfl
  have d2 : ∀ (b' : Nat) (h : Hd), callF P W (n + 3) b' 40 [.ref 0, .int 2] (handC h :: T) = .ok (.int (((draw h 2).1 : Nat) : Int)) (handC (draw h 2).2 :: T) := fun b' h => draw_ok (m := 2) (by omega) (by omega)
  have d4 : ∀ (b' : Nat) (h : Hd), callF P W (n + 3) b' 40 [.ref 0, .int 4] (handC h :: T) = .ok (.int (((draw h 4).1 : Nat) : Int)) (handC (draw h 4).2 :: T) := fun b' h => draw_ok (m := 4) (by omega) (by omega)
  by_cases c : (draw h 2).1 = 0
  · have hk := draw_lt (h := (draw h 2).2) (n := 2) (by omega)
    have hl := Nat.le_trans (draw_left (draw h 2).2 2) (draw_left h 2)
    have kk : (draw (draw h 2).2 2).1 = 0 ∨ (draw (draw h 2).2 2).1 = 1 := by omega
    rcases kk with k | k
    · refine ⟨_, _, (draw (draw h 2).2 2).2, ok22, hl, ?_⟩
      rw [callF_st (P := P) (fd := c41) hc41 rfl (by simp [c41]), st]
      have mk := KA.mk22 (P := P) W n (T.length + 1) (handC (draw (draw h 2).2 2).2 :: T)
      simp only [in2, List.map_cons, List.map_nil] at mk
      simp [c41, d2, d4, c, k, i_eq, b_int, ar_add, opSl, seqL, partOf, cutL, HT.sIx, newL_ok, szl, newL]
      simp [mk, finL, leave, frz_lo (sp_lo ok22.1)]
    · refine ⟨_, _, (draw (draw h 2).2 2).2, ok23, hl, ?_⟩
      rw [callF_st (P := P) (fd := c41) hc41 rfl (by simp [c41]), st]
      have mk := KA.mk23 (P := P) W n (T.length + 1) (handC (draw (draw h 2).2 2).2 :: T)
      simp only [in2, List.map_cons, List.map_nil] at mk
      simp [c41, d2, d4, c, k, i_eq, b_int, ar_add, opSl, seqL, partOf, cutL, HT.sIx, newL_ok, szl, newL]
      simp [mk, finL, leave, frz_lo (sp_lo ok23.1)]
  · have hk := draw_lt (h := (draw h 2).2) (n := 4) (by omega)
    have hl := Nat.le_trans (draw_left (draw h 2).2 4) (draw_left h 2)
    have kk : (draw (draw h 2).2 4).1 = 0 ∨ (draw (draw h 2).2 4).1 = 1 ∨ (draw (draw h 2).2 4).1 = 2 ∨ (draw (draw h 2).2 4).1 = 3 := by omega
    rcases kk with k | k | k | k
    · refine ⟨_, _, (draw (draw h 2).2 4).2, ok12, hl, ?_⟩
      rw [callF_st (P := P) (fd := c41) hc41 rfl (by simp [c41]), st]
      have mk := KA.mk12 (P := P) W n (T.length + 1) (handC (draw (draw h 2).2 4).2 :: T)
      simp only [in1, List.map_cons, List.map_nil] at mk
      simp [c41, d2, d4, c, k, i_eq, b_int, ar_add, opSl, seqL, partOf, cutL, HT.sIx, newL_ok, szl, newL]
      simp [mk, finL, leave, frz_lo (sp_lo ok12.1)]
    · refine ⟨_, _, (draw (draw h 2).2 4).2, ok13, hl, ?_⟩
      rw [callF_st (P := P) (fd := c41) hc41 rfl (by simp [c41]), st]
      have mk := KA.mk13 (P := P) W n (T.length + 1) (handC (draw (draw h 2).2 4).2 :: T)
      simp only [in1, List.map_cons, List.map_nil] at mk
      simp [c41, d2, d4, c, k, i_eq, b_int, ar_add, opSl, seqL, partOf, cutL, HT.sIx, newL_ok, szl, newL]
      simp [mk, finL, leave, frz_lo (sp_lo ok13.1)]
    · refine ⟨_, _, (draw (draw h 2).2 4).2, ok14, hl, ?_⟩
      rw [callF_st (P := P) (fd := c41) hc41 rfl (by simp [c41]), st]
      have mk := KA.mk14 (P := P) W n (T.length + 1) (handC (draw (draw h 2).2 4).2 :: T)
      simp only [in1, List.map_cons, List.map_nil] at mk
      simp [c41, d2, d4, c, k, i_eq, b_int, ar_add, opSl, seqL, partOf, cutL, HT.sIx, newL_ok, szl, newL]
      simp [mk, finL, leave, frz_lo (sp_lo ok14.1)]
    · refine ⟨_, _, (draw (draw h 2).2 4).2, ok15, hl, ?_⟩
      rw [callF_st (P := P) (fd := c41) hc41 rfl (by simp [c41]), st]
      have mk := KA.mk15 (P := P) W n (T.length + 1) (handC (draw (draw h 2).2 4).2 :: T)
      simp only [in1, List.map_cons, List.map_nil] at mk
      simp [c41, d2, d4, c, k, i_eq, b_int, ar_add, opSl, seqL, partOf, cutL, HT.sIx, newL_ok, szl, newL]
      simp [mk, finL, leave, frz_lo (sp_lo ok15.1)]
/-- a drawn region -/
theorem region_ok (hs : OkS ax U) (h : Hd) : ∃ xs h', Part U xs ∧ left h' ≤ left h ∧ callF P W (n + 3) b 43 [.ref 0, Sp ax U] (handC h :: T) = .ok (Rg ax U xs) (handC h' :: T) := by
  have st : TD.start c43 [.ref 0, Sp ax U] = [some (.ref 0), some (Sp ax U), none, none] := rfl
  obtain ⟨x, hx, e1⟩ := some_lst (P := P) (W := W) (n := n) (b := T.length + 1) (h := h) (T := T) (ds := [.int 2, .int 2, .int 3, .int 1]) (by simp) (by simp) (by simp)
  have hi : ∃ i : Int, x = .int i := by
    simp at hx
    rcases hx with rfl | rfl | rfl <;> exact ⟨_, rfl⟩
  obtain ⟨i, rfl⟩ := hi
  simp only [List.length_cons, List.length_nil] at e1
  generalize hg : (draw h (0 + 1 + 1 + 1 + 1)).2 = h1 at e1
  have l1 : left h1 ≤ left h := hg ▸ draw_left h 4
  have cs := compB_sift (T := T) (xs := U) (h := h1) (m := 4) (k := fun d => decide ((d : Int) < i)) (own := [("cell", 3)]) (t := .nm 3) (src := ev ⟨callF P W (n + 2), P, T.length + 1, W⟩ (.cons (.fld (.var 1) 21) .nil)) (cs := ev ⟨callF P W (n + 2), P, T.length + 1, W⟩ (.cons (.cmp .lt (.call 40 (.cons (.var 0) (.cons (.lit (.int (4))) (.nil)))) (.var 2)) .nil)) (elt := ev ⟨callF P W (n + 2), P, T.length + 1, W⟩ (.var 3)) (σ := [some (.ref 0), some (Sp ax U), some (.int i), none]) (by simp) (fun c hc h => by
    have d4 : ∀ (b' : Nat), callF P W (n + 2) b' 40 [.ref 0, .int 4] (handC h :: T) = .ok (.int (((draw h 4).1 : Nat) : Int)) (handC (draw h 4).2 :: T) := fun b' => draw_ok (m := 4) (by omega) (by omega)
    by_cases q : ((draw h 4).1 : Int) < i <;> simp [turnB, wipeD, d4, i_lt, tst, q]) (Nat.le_trans hs.len (by decide))
  have hz : ∀ z ∈ (sift 4 (fun d => decide ((d : Int) < i)) U h1).1, z ∈ U := sift_sub U h1
  have l2 := (sift_steps (n := 4) (k := fun d => decide ((d : Int) < i)) U h1).left
  generalize hsf : sift 4 (fun d => decide ((d : Int) < i)) U h1 = sf at cs hz l2
  have mk := mk_ok (P := P) (W := W) (n := n) (S := handC sf.2 :: T) (mb := T.length + 1) hs (zs := sf.1) hz (.inr rfl)
  have lo : (Rg ax U (pick U sf.1)).lo (T.length + 1) = true := lo_mono (Nat.zero_le _) _ (rg_pure hs)
  refine ⟨pick U sf.1, sf.2, part_pick U sf.1, Nat.le_trans l2 l1, ?_⟩
  rw [callF_st (P := P) (fd := c43) hc43 rfl (by simp [c43]), st]
  simp [c43, e1, cs, mk, finL, leave, frz_lo lo]
end
end TD

set_option Elab.async false
set_option linter.all false
set_option maxRecDepth 100000
set_option maxHeartbeats 4000000
set_option autoImplicit false
/-! WL: lists of drawn regions. -/
namespace TD
open PySem
open L2 (V)
section
variable {ax : D} {U xs ys zs : List Cl} {P : Prog} [KB P] {W n b : Nat} {S : Store} {T : Store} {rs : List (List Cl)}
theorem range1_items {d : Nat} (hd : d ≤ 50) : itemsOf .range [.int ((1 : Int) + (d : Int))] S = some ((List.range (d + 1)).map fun (i : Nat) => D.int (i : Int)) := by
  have e : itemsOf .range [.int ((1 : Int) + (d : Int))] S = if rgOk 0 ((1 : Int) + (d : Int)) then some (rangeL 0 ((1 : Int) + (d : Int))) else none := by simp only [itemsOf]
  rw [e, rgOk_ok (by omega) (by omega) (by omega) (by omega), if_pos rfl]
  refine congrArg some ?_
  unfold rangeL
  have : (((1 : Int) + (d : Int)) - 0).toNat = d + 1 := by omega
  rw [this]
  apply List.map_congr_left
  intro i _
  simp
theorem rg_lo (h : OkS ax U) {k : Nat} : (Rg ax U xs).lo k = true := lo_mono (Nat.zero_le _) _ (rg_pure h)
theorem leave_found {F : Cell} {ds : List D} (hd : ∀ d ∈ ds, d.lo (T.length + 1) = true) : leave P false (T.length + 1) (.ref (T.length + 1)) (F :: (T ++ [.lst ds])) = .ok (.lst ds) (F :: T) := by
  unfold leave
  rw [frz_ref at1 (Nat.le_refl _) hd]
  simp
theorem exec_two {c : Cn} {a b r : Sx} {σ σ' : Sl} {S S' : Store} (h : exec c (.cons a (.cons b .nil)) σ S = .ok (.nx σ') S') : exec c (.cons a (.cons b r)) σ S = exec c r σ' S' := by
  rw [s_cons] at h ⊢
  cases e : exec c a σ S with
  | ok fl S1 =>
    rw [e, bind_o] at h
    rw [bind_o]
    cases fl with
    | nx σ1 =>
      rw [cont_nx, s_cons] at h
      rw [cont_nx, s_cons]
      cases e2 : exec c b σ1 S1 with
      | ok fl2 S2 =>
        rw [e2, bind_o] at h
        rw [bind_o]
        cases fl2 with
        | nx σ2 =>
          rw [cont_nx] at h
          rw [cont_nx]
          cases h; rfl
        | rt d => cases h
        | bk σ => cases h
        | ct σ => cases h
      | exc x S => rw [e2] at h; cases h
      | bad => rw [e2] at h; cases h
    | rt d => cases h
    | bk σ => cases h
    | ct σ => cases h
  | exc x S => rw [e] at h; cases h
  | bad => rw [e] at h; cases h
theorem regions_ok {mo : Nat} (m1 : 1 ≤ mo) (m2 : mo ≤ 6) (hs : OkS ax U) (h : Hd) : ∃ rs h', OkR U rs ∧ rs.length ≤ mo ∧ left h' ≤ left h ∧ callF P W (n + 4) b 44 [.ref 0, Sp ax U, .int mo] (handC h :: T) = .ok (Rs ax U rs) (handC h' :: T) := by
  have st : TD.start c44 [.ref 0, Sp ax U, .int mo] = [some (.ref 0), some (Sp ax U), some (.int mo), none, none, none] := rfl
  have d6 := draw_ok (P := P) (W := W) (n := n + 2) (b := T.length + 1) (h := h) (T := T ++ [.lst []]) (m := mo) (by omega) (by omega)
  have k6 := draw_lt (h := h) (n := mo) (by omega)
  have l6 := draw_left h mo
  have hcall : callF P W (n + 4) b 44 [.ref 0, Sp ax U, .int mo] (handC h :: T) = finL P false (handC h :: T) (exec ⟨callF P W (n + 3), P, T.length + 1, W⟩ c44.body [some (.ref 0), some (Sp ax U), some (.int mo), none, none, none] (handC h :: T)) := by
    rw [callF_st (P := P) (fd := c44) hc44 rfl (by simp [c44]), st]; rfl
  generalize hE : exec ⟨callF P W (n + 3), P, T.length + 1, W⟩ c44.body [some (.ref 0), some (Sp ax U), some (.int mo), none, none, none] (handC h :: T) = r0 at hcall
  simp only [c44, s_cons] at hE
  try simp at d6
  simp at hE
  rw [s_loop' (S1 := handC (draw h mo).2 :: (T ++ [.lst []])) (as := [.int ((1 : Int) + (((draw h mo).1 : Nat) : Int))]) (by simp [d6, b_int, ar_add]) (range1_items (by omega)) rfl] at hE
  generalize hf : forL _ _ _ _ = r at hE
  obtain ⟨σ', S', rfl, h', rs, u, v, l1, hp, hl, rfl, rfl⟩ := forL_pre_e hf rfl (fun a σ S => ∃ h' rs u v, left h' ≤ left h ∧ (∀ r ∈ rs, Part U r) ∧ rs.length = a.length ∧ S = handC h' :: (T ++ [.lst (rs.map (Rg ax U))]) ∧ σ = [some (.ref 0), some (Sp ax U), some (.int mo), some (.ref (T.length + 1)), u, v]) (fun a i c hc σ S hI => by
    obtain ⟨h', rs, u, v, l1, hp, hl, rfl, rfl⟩ := hI
    have la := pre_len hc
    obtain ⟨xs, h1, px, lx, e1⟩ := region_ok (P := P) (W := W) (n := n) (b := T.length + 1) (T := T ++ [.lst (rs.map (Rg ax U))]) hs h'
    have d4 := draw_ok (P := P) (W := W) (n := n + 2) (b := T.length + 1) (h := h1) (T := T ++ [.lst (rs.map (Rg ax U))]) (m := 4) (by omega) (by omega)
    have l4 := draw_left h1 4
    rw [show ((4 : Nat) : Int) = 4 from rfl] at d4
    have ln := fun h => len_ref (c := ⟨callF P W (n + 3), P, T.length + 1, W⟩) (mu := false) (at1 (F := handC h) (T := T) (x := .lst (rs.map (Rg ax U))))
    rw [List.length_map] at ln
    have ex : ∃ ys h2, Part U ys ∧ left h2 ≤ left h ∧ exec ⟨callF P W (n + 3), P, T.length + 1, W⟩ (.cons (.asg (.nm 5) (.call 43 (.cons (.var 0) (.cons (.var 1) (.nil))))) (.cons (.iff (.and (.cmp .gt (.bf .len false (.cons (.var 3) (.nil))) (.lit (.int (1)))) (.cmp .eq (.call 40 (.cons (.var 0) (.cons (.lit (.int (4))) (.nil)))) (.lit (.int (0))))) (.cons (.asg (.nm 5) (.call 42 (.cons (.var 0) (.cons (.lst false (.cons (.bin false .bor (.idx (.var 3) (.lit (.int (0)))) (.idx (.var 3) (.lit (.int (1))))) (.cons (.bin false .sub (.idx (.var 3) (.lit (.int (0)))) (.idx (.var 3) (.lit (.int (1))))) (.cons (.inv (.idx (.var 3) (.lit (.int (0))))) (.cons (.idx (.var 3) (.lit (.int (1)))) (.nil)))))) (.nil))))) (.nil)) (.nil)) (.nil))) [some (.ref 0), some (Sp ax U), some (.int mo), some (.ref (T.length + 1)), some (.int i), v] (handC h' :: (T ++ [.lst (rs.map (Rg ax U))])) = .ok (.nx [some (.ref 0), some (Sp ax U), some (.int mo), some (.ref (T.length + 1)), some (.int i), some (Rg ax U ys)]) (handC h2 :: (T ++ [.lst (rs.map (Rg ax U))])) := by
      by_cases q : 1 < rs.length
      · have q' : (1 : Int) < rs.length := by omega
        by_cases z : (draw h1 4).1 = 0
        · obtain ⟨r0, r1, rest, rfl⟩ : ∃ r0 r1 rest, rs = r0 :: r1 :: rest := by
            cases rs with
            | nil => simp at q
            | cons r0 rs => cases rs with
              | nil => simp at q
              | cons r1 rest => exact ⟨r0, r1, rest, rfl⟩
          have p0 := hp r0 (by simp)
          have p1 := hp r1 (by simp)
          have i0 : opIdx ⟨callF P W (n + 3), P, T.length + 1, W⟩ (.ref (T.length + 1)) (.int 0) (handC (draw h1 4).2 :: (T ++ [.lst ((r0 :: r1 :: rest).map (Rg ax U))])) = .ok (Rg ax U r0) _ := idx_ref (k := 0) at1 rfl
          have i1 : opIdx ⟨callF P W (n + 3), P, T.length + 1, W⟩ (.ref (T.length + 1)) (.int 1) (handC (draw h1 4).2 :: (T ++ [.lst ((r0 :: r1 :: rest).map (Rg ax U))])) = .ok (Rg ax U r1) _ := idx_ref (k := 1) at1 rfl
          obtain ⟨x, hx, e5⟩ := some_lst (P := P) (W := W) (n := n + 1) (b := T.length + 1) (h := (draw h1 4).2) (T := T ++ [.lst ((r0 :: r1 :: rest).map (Rg ax U))]) (ds := [Rg ax U (pick U (r0 ++ r1)), Rg ax U (r0.filter fun c => !decide (c ∈ r1)), Rg ax U (U.filter fun c => !decide (c ∈ r0)), Rg ax U r1]) (by simp) (by simp) (by
            intro d hd
            simp at hd
            rcases hd with rfl | rfl | rfl | rfl <;> exact rg_pure hs)
          have l5 := draw_left (draw h1 4).2 4
          have pp : ∃ ys, Part U ys ∧ x = Rg ax U ys := by
            simp only [List.mem_cons, List.not_mem_nil, or_false] at hx
            rcases hx with rfl | rfl | rfl | rfl
            · exact ⟨_, part_pick U _, rfl⟩
            · exact ⟨_, part_filter p0 _, rfl⟩
            · exact ⟨_, part_filter (part_self U) _, rfl⟩
            · exact ⟨_, p1, rfl⟩
          obtain ⟨ys, py, rfl⟩ := pp
          refine ⟨ys, (draw (draw h1 4).2 4).2, py, by omega, ?_⟩
          generalize (r0 :: r1 :: rest).map (Rg ax U) = R at i0 i1 e1 d4 ln e5 ⊢
          generalize (r0 :: r1 :: rest).length = m at ln q'
          simp at e5
          simp [e1, ln, i_gt, q', d4, i_eq, z, i0, i1, o_or hs p0 p1, o_sub hs p0 p1, o_inv hs p0, e5]
        · refine ⟨xs, (draw h1 4).2, px, by omega, ?_⟩
          simp [e1, ln, i_gt, q', d4, i_eq, z]
      · have q' : ¬ (1 : Int) < rs.length := by omega
        refine ⟨xs, h1, px, by omega, ?_⟩
        simp [e1, ln, i_gt, q']
    obtain ⟨ys, h2, py, ly, e2⟩ := ex
    have lf : (rs.map (Rg ax U)).length < szl := by
      simp [szl]; omega
    have ap := bm_append (c := ⟨callF P W (n + 3), P, T.length + 1, W⟩) (v := Rg ax U ys) (S1 := handC h2 :: (T ++ [.lst (rs.map (Rg ax U))])) (S := handC h2 :: (T ++ [.lst (rs.map (Rg ax U))])) at1 at1 (.inl (Nat.le_refl _)) lf
    refine ⟨_, _, ?_, h2, rs ++ [ys], some (.int i), some (Rg ax U ys), ly, ?_, by simp [hl], rfl, rfl⟩
    · rw [loopF_nm]
      simp only [List.set_cons_succ, List.set_cons_zero]
      rw [exec_two e2]
      simp [ap]
    · intro r hr
      rcases List.mem_append.mp hr with z | z
      · exact hp r z
      · simp at z; subst z; exact py) ⟨_, [], _, _, l6, by simp, rfl, rfl, rfl⟩
  simp at hE
  subst hE
  refine ⟨rs, h', ⟨hp, by rw [hl]; simp, by rw [hl]; simp; omega⟩, by rw [hl]; simp; omega, l1, ?_⟩
  rw [hcall]
  unfold finL
  simp only
  have e1 : (handC h :: T).length = T.length + 1 := rfl
  rw [e1, leave_found fun d hd => by
    obtain ⟨r, _, rfl⟩ := List.mem_map.mp hd
    exact rg_lo hs]
  rfl
end
end TD

set_option Elab.async false
set_option linter.all false
set_option maxRecDepth 100000
set_option maxHeartbeats 2000000
set_option autoImplicit false
/-! TR: plain data: ==, in, < of tuples. -/
namespace TD
open PySem
mutual
def eqT : D → D → Bool
  | .non, .non => true
  | .bl a, .bl b => a == b
  | .int i, .int j => decide (i = j)
  | .str x, .str y => x == y
  | .tup xs, .tup ys => eqTL xs ys
  | .lst xs, .lst ys => eqTL xs ys
  | .ref k, .ref l => decide (k = l)
  | .ins c xs, .ins d ys => decide (c = d) && eqTL xs ys
  | _, _ => false
def eqTL : List D → List D → Bool
  | [], [] => true
  | x :: xs, y :: ys => eqT x y && eqTL xs ys
  | _, _ => false
end
mutual
theorem eqT_iff : ∀ (a b : D), eqT a b = true ↔ a = b
  | .non, b => by cases b <;> simp [eqT]
  | .bl a, b => by cases b <;> simp [eqT]
  | .int a, b => by cases b <;> simp [eqT]
  | .str a, b => by cases b <;> simp [eqT]
  | .ref a, b => by cases b <;> simp [eqT]
  | .tup xs, b => by
    cases b <;> simp [eqT]
    rename_i ys; exact eqTL_iff xs ys
  | .lst xs, b => by
    cases b <;> simp [eqT]
    rename_i ys; exact eqTL_iff xs ys
  | .ins c xs, b => by
    cases b <;> simp [eqT]
    rename_i d ys
    intro _; exact eqTL_iff xs ys
theorem eqTL_iff : ∀ (a b : List D), eqTL a b = true ↔ a = b
  | [], b => by cases b <;> simp [eqTL]
  | x :: xs, b => by
    cases b with
    | nil => simp [eqTL]
    | cons y ys => simp [eqTL, eqT_iff x y, eqTL_iff xs ys]
end
instance : DecidableEq D := fun a b => if h : eqT a b = true then isTrue ((eqT_iff a b).mp h) else isFalse fun e => h ((eqT_iff a b).mpr e)
/-- plain data without truth values, of depth at most n -/
inductive Pl : Nat → D → Prop
  | non (n : Nat) : Pl n .non
  | int (n : Nat) (i : Int) : Pl n (.int i)
  | str (n : Nat) (x : Str) : PyData.canLay0 (.str x) = true → Pl n (.str x)
  | tup (n : Nat) (xs : List D) : (∀ x ∈ xs, Pl n x) → Pl (n + 1) (.tup xs)
  | lst (n : Nat) (xs : List D) : (∀ x ∈ xs, Pl n x) → Pl (n + 1) (.lst xs)
theorem Pl.mono {n m : Nat} {d : D} (h : Pl n d) : n ≤ m → Pl m d := by
  induction h generalizing m with
  | non => intro _; exact .non m
  | int _ i => intro _; exact .int m i
  | str _ x hx => intro _; exact .str m x hx
  | tup k xs _ ih =>
    intro l
    obtain ⟨m', rfl⟩ : ∃ m', m = m' + 1 := ⟨m - 1, by omega⟩
    exact .tup m' xs fun x hx => ih x hx (by omega)
  | lst k xs _ ih =>
    intro l
    obtain ⟨m', rfl⟩ : ∃ m', m = m' + 1 := ⟨m - 1, by omega⟩
    exact .lst m' xs fun x hx => ih x hx (by omega)
def nob : PyData → Bool
  | .bool _ => false
  | .dict _ => false
  | _ => true
theorem pl_list {n : Nat} : ∀ {xs : List D}, (∀ x ∈ xs, ∃ p, x.dat = some p ∧ p.canLay0 = true ∧ p.depth ≤ n) → ∃ ps, D.datL xs = some ps ∧ PyData.canLayAll0 ps = true ∧ PyData.depthAll ps ≤ n
  | [], _ => ⟨[], rfl, by simp [PyData.canLayAll0], by simp [PyData.depthAll]⟩
  | x :: xs, h => by
    obtain ⟨p, h1, h2, h3⟩ := h x List.mem_cons_self
    obtain ⟨ps, g1, g2, g3⟩ := pl_list fun y hy => h y (List.mem_cons_of_mem _ hy)
    exact ⟨p :: ps, by simp only [D.datL, h1, g1], by simp only [PyData.canLayAll0, h2, g2, Bool.and_self], by simp [PyData.depthAll]; omega⟩
theorem Pl.dat {n : Nat} {d : D} (h : Pl n d) : ∃ p, d.dat = some p ∧ p.canLay0 = true ∧ p.depth ≤ n := by
  induction h with
  | non n => exact ⟨.none, rfl, by simp [PyData.canLay0], by simp [PyData.depth]⟩
  | int n i => exact ⟨.int i, rfl, by simp [PyData.canLay0], by simp [PyData.depth]⟩
  | str n x h => exact ⟨.str x, rfl, h, by simp [PyData.depth]⟩
  | tup n xs _ ih =>
    obtain ⟨ps, h1, h2, h3⟩ := pl_list ih
    exact ⟨.tuple ps, by simp only [D.dat, h1, Option.map_some], by simpa [PyData.canLay0] using h2, by simp [PyData.depth]; omega⟩
  | lst n xs _ ih =>
    obtain ⟨ps, h1, h2, h3⟩ := pl_list ih
    exact ⟨.list ps, by simp only [D.dat, h1, Option.map_some], by simpa [PyData.canLay0] using h2, by simp [PyData.depth]; omega⟩
theorem Pl.shp {n : Nat} {d : D} (h : Pl n d) (hn : n ≤ 64) {p : PyData} (e : d.dat = some p) : shp p = true := by
  obtain ⟨q, h1, h2, h3⟩ := h.dat
  rw [h1] at e; cases e
  unfold TD.shp SeqAt.shaped
  rw [h2, decide_eq_true (by omega)]; rfl
theorem datL_cons {x : D} {xs : List D} {ps : List PyData} (h : D.datL (x :: xs) = some ps) : ∃ p qs, x.dat = some p ∧ D.datL xs = some qs ∧ ps = p :: qs := by
  simp only [D.datL] at h
  split at h
  · rename_i p qs h1 h2; cases h; exact ⟨p, qs, h1, h2, rfl⟩
  · cases h
theorem pl_eqvL {xs : List D} : (∀ x ∈ xs, ∀ {m : Nat} {b : D} {p q : PyData}, Pl m b → x.dat = some p → b.dat = some q → PyData.eqv p q = eqT x b) → ∀ {m : Nat} {ys : List D} {ps qs : List PyData}, (∀ y ∈ ys, Pl m y) → D.datL xs = some ps → D.datL ys = some qs → PyData.eqvAll ps qs = eqTL xs ys := by
  induction xs with
  | nil =>
    intro _ m ys ps qs _ h1 h2
    cases h1
    cases ys with
    | nil => cases h2; simp [PyData.eqvAll, eqTL]
    | cons y ys => obtain ⟨p, qs', _, _, rfl⟩ := datL_cons h2; simp [PyData.eqvAll, eqTL]
  | cons x xs ihx =>
    intro ih m ys ps qs hy h1 h2
    obtain ⟨p, ps', g1, g2, rfl⟩ := datL_cons h1
    cases ys with
    | nil => cases h2; simp [PyData.eqvAll, eqTL]
    | cons y ys =>
      obtain ⟨q, qs', g3, g4, rfl⟩ := datL_cons h2
      simp only [PyData.eqvAll, eqTL]
      rw [ih x List.mem_cons_self (hy y List.mem_cons_self) g1 g3, ihx (fun z hz => ih z (List.mem_cons_of_mem _ hz)) (fun z hz => hy z (List.mem_cons_of_mem _ hz)) g2 g4]
theorem pl_eqv {n : Nat} {a : D} (ha : Pl n a) : ∀ {m : Nat} {b : D} {p q : PyData}, Pl m b → a.dat = some p → b.dat = some q → PyData.eqv p q = eqT a b := by
  induction ha with
  | non n =>
    intro m b p q hb e1 e2
    cases e1
    cases hb with
    | non => cases e2; simp [PyData.eqv, eqT]
    | int => cases e2; simp [PyData.eqv, eqT]
    | str => cases e2; simp [PyData.eqv, eqT]
    | tup k ys hy => simp only [D.dat, Option.map_eq_some_iff] at e2; obtain ⟨qs, _, rfl⟩ := e2; simp [PyData.eqv, eqT]
    | lst k ys hy => simp only [D.dat, Option.map_eq_some_iff] at e2; obtain ⟨qs, _, rfl⟩ := e2; simp [PyData.eqv, eqT]
  | int n i =>
    intro m b p q hb e1 e2
    cases e1
    cases hb with
    | non => cases e2; simp [PyData.eqv, eqT]
    | int => cases e2; simp only [PyData.eqv, eqT]; rw [Bool.eq_iff_iff]; simp
    | str => cases e2; simp [PyData.eqv, eqT]
    | tup k ys hy => simp only [D.dat, Option.map_eq_some_iff] at e2; obtain ⟨qs, _, rfl⟩ := e2; simp [PyData.eqv, eqT]
    | lst k ys hy => simp only [D.dat, Option.map_eq_some_iff] at e2; obtain ⟨qs, _, rfl⟩ := e2; simp [PyData.eqv, eqT]
  | str n x h =>
    intro m b p q hb e1 e2
    cases e1
    cases hb with
    | non => cases e2; simp [PyData.eqv, eqT]
    | int => cases e2; simp [PyData.eqv, eqT]
    | str => cases e2; simp [PyData.eqv, eqT]
    | tup k ys hy => simp only [D.dat, Option.map_eq_some_iff] at e2; obtain ⟨qs, _, rfl⟩ := e2; simp [PyData.eqv, eqT]
    | lst k ys hy => simp only [D.dat, Option.map_eq_some_iff] at e2; obtain ⟨qs, _, rfl⟩ := e2; simp [PyData.eqv, eqT]
  | tup n xs _ ih =>
    intro m b p q hb e1 e2
    simp only [D.dat, Option.map_eq_some_iff] at e1
    obtain ⟨ps, h1, rfl⟩ := e1
    cases hb with
    | non => cases e2; simp [PyData.eqv, eqT]
    | int => cases e2; simp [PyData.eqv, eqT]
    | str => cases e2; simp [PyData.eqv, eqT]
    | lst k ys hy => simp only [D.dat, Option.map_eq_some_iff] at e2; obtain ⟨qs, _, rfl⟩ := e2; simp [PyData.eqv, eqT]
    | tup k ys hy =>
      simp only [D.dat, Option.map_eq_some_iff] at e2
      obtain ⟨qs, h2, rfl⟩ := e2
      simp only [PyData.eqv, eqT]
      exact pl_eqvL (fun x hx => ih x hx) hy h1 h2
  | lst n xs _ ih =>
    intro m b p q hb e1 e2
    simp only [D.dat, Option.map_eq_some_iff] at e1
    obtain ⟨ps, h1, rfl⟩ := e1
    cases hb with
    | non => cases e2; simp [PyData.eqv, eqT]
    | int => cases e2; simp [PyData.eqv, eqT]
    | str => cases e2; simp [PyData.eqv, eqT]
    | tup k ys hy => simp only [D.dat, Option.map_eq_some_iff] at e2; obtain ⟨qs, _, rfl⟩ := e2; simp [PyData.eqv, eqT]
    | lst k ys hy =>
      simp only [D.dat, Option.map_eq_some_iff] at e2
      obtain ⟨qs, h2, rfl⟩ := e2
      simp only [PyData.eqv, eqT]
      exact pl_eqvL (fun x hx => ih x hx) hy h1 h2
theorem Pl.datS {n : Nat} {d : D} (h : Pl n d) (S : Store) : datS S d = d.dat := by
  cases h <;> rfl
theorem Pl.cls {n : Nat} {d : D} (h : Pl n d) (S : Store) : clsOf S d = none := by cases h <;> rfl
theorem Pl.lo {n : Nat} {d : D} (h : Pl n d) (k : Nat) : d.lo k = true := by
  induction h with
  | non => rfl
  | int => rfl
  | str => rfl
  | tup n xs _ ih => exact loL_iff.mpr ih
  | lst n xs _ ih => exact loL_iff.mpr ih
section
variable {S : Store} {n m : Nat} {a b : D}
theorem eqT_dec : eqT a b = decide (a = b) := by
  rw [Bool.eq_iff_iff, eqT_iff]; simp
theorem eqD_pl (ha : Pl n a) (hb : Pl m b) (hn : n ≤ 64) (hm : m ≤ 64) : eqD S a b = some (decide (a = b)) := by
  obtain ⟨p, h1, _, _⟩ := ha.dat
  obtain ⟨q, g1, _, _⟩ := hb.dat
  simp only [eqD, ha.datS, hb.datS, h1, g1]
  rw [if_pos ⟨ha.shp hn h1, hb.shp hm g1⟩, pl_eqv ha hb h1 g1, eqT_dec]
/-- a list that stands in a cell -/
theorem eqD_ref {k : Nat} {xs : List D} (h : S[k]? = some (.lst xs) ∨ S[k]? = some (.lck xs)) : eqD S (.ref k) b = eqD S (.lst xs) b := by
  have e : datS S (.ref k) = datS S (.lst xs) := by rcases h with h | h <;> simp [datS, view, h]
  simp only [eqD, e]
theorem op_eq_pl {c : Cn} (ha : Pl n a) (hb : Pl m b) (hn : n ≤ 64) (hm : m ≤ 64) : opCmp c .eq a b S = .ok (.bl (decide (a = b))) S := by
  simp only [opCmp, ha.cls, eqD_pl ha hb hn hm, Option.map_some, Res.of_some]
theorem op_ne_pl {c : Cn} (ha : Pl n a) (hb : Pl m b) (hn : n ≤ 64) (hm : m ≤ 64) : opCmp c .ne a b S = .ok (.bl (!decide (a = b))) S := by
  simp only [opCmp, ha.cls, eqD_pl ha hb hn hm, Option.map_some, Res.of_some]
theorem op_ne_ref {c : Cn} {k : Nat} {xs : List D} (h : S[k]? = some (.lst xs)) (ha : Pl n (.lst xs)) (hb : Pl m b) (hn : n ≤ 64) (hm : m ≤ 64) : opCmp c .ne (.ref k) b S = .ok (.bl (!decide (D.lst xs = b))) S := by
  have e : clsOf S (.ref k) = none := by simp [clsOf, h]
  simp only [opCmp, e, eqD_ref (.inl h), eqD_pl ha hb hn hm, Option.map_some, Res.of_some]
theorem op_eq_ref {c : Cn} {k : Nat} {xs : List D} (h : S[k]? = some (.lst xs)) (ha : Pl n (.lst xs)) (hb : Pl m b) (hn : n ≤ 64) (hm : m ≤ 64) : opCmp c .eq (.ref k) b S = .ok (.bl (decide (D.lst xs = b))) S := by
  have e : clsOf S (.ref k) = none := by simp [clsOf, h]
  simp only [opCmp, e, eqD_ref (.inl h), eqD_pl ha hb hn hm, Option.map_some, Res.of_some]
theorem any_dat {p : PyData} (ha : Pl n a) (hp : a.dat = some p) : ∀ {xs : List D} {ps : List PyData}, (∀ x ∈ xs, Pl m x) → D.datL xs = some ps → (ps.any fun z => PyData.eqv z p) = decide (a ∈ xs) ∧ (m ≤ 64 → ps.all shp = true)
  | [], ps, _, h => by cases h; simp
  | x :: xs, ps, hx, h => by
    obtain ⟨q, qs, g1, g2, rfl⟩ := datL_cons h
    obtain ⟨i1, i2⟩ := any_dat ha hp (fun y hy => hx y (List.mem_cons_of_mem _ hy)) g2
    have h0 := hx x List.mem_cons_self
    constructor
    · simp only [List.any_cons, i1, pl_eqv h0 ha g1 hp, eqT_dec]
      by_cases z : x = a
      · subst z; simp
      · have z' : ¬ a = x := fun e => z e.symm
        simp [z, z']
    · intro hm
      simp only [List.all_cons, i2 hm, Bool.and_true]
      exact h0.shp hm g1
theorem inD_pl {d : D} {xs : List D} (hd : seqA S d = some xs) (hs : ∀ z, d ≠ .str z) (ha : Pl n a) (hx : ∀ x ∈ xs, Pl m x) (hn : n ≤ 64) (hm : m ≤ 64) : inD S a d = some (decide (a ∈ xs)) := by
  obtain ⟨p, h1, _, _⟩ := ha.dat
  obtain ⟨ps, g1, _, _⟩ := pl_list fun x h => (hx x h).dat
  obtain ⟨k1, k2⟩ := any_dat ha h1 hx g1
  have e : inD S a d = (match seqA S d, datS S a with
    | some xs, some p => (match D.datL xs with
      | some ps => if shp p = true ∧ ps.all shp = true then some (ps.any fun z => PyData.eqv z p) else none
      | none => none)
    | _, _ => none) := by
    cases d <;> first | rfl | (exact absurd rfl (hs _))
  rw [e, hd, ha.datS, h1]
  simp only [g1]
  rw [if_pos ⟨ha.shp hn h1, k2 hm⟩, k1]
theorem dunS {c : Cn} {d : D} {xs : List D} (hd : seqA S d = some xs) : dunOf c S d 7 = none := by
  unfold dunOf
  have : clsOf S d = none := by
    cases d <;> first | rfl | skip
    · rename_i k
      cases e : S[k]? with
      | none => simp only [clsOf, e]
      | some x =>
        cases x with
        | ins c fs => simp [seqA, seqL, e] at hd
        | lst _ => simp only [clsOf, e]
        | lck _ => simp only [clsOf, e]
        | dic _ => simp only [clsOf, e]
    · simp [seqA, seqL] at hd
  rw [this]
theorem op_in_pl {c : Cn} {d : D} {xs : List D} (hd : seqA S d = some xs) (hs : ∀ z, d ≠ .str z) (ha : Pl n a) (hx : ∀ x ∈ xs, Pl m x) (hn : n ≤ 64) (hm : m ≤ 64) : opCmp c .isin a d S = .ok (.bl (decide (a ∈ xs))) S := by
  simp only [opCmp, dunS hd, inD_pl hd hs ha hx hn hm, Option.map_some, Res.of_some]
theorem op_notin_pl {c : Cn} {d : D} {xs : List D} (hd : seqA S d = some xs) (hs : ∀ z, d ≠ .str z) (ha : Pl n a) (hx : ∀ x ∈ xs, Pl m x) (hn : n ≤ 64) (hm : m ≤ 64) : opCmp c .notin a d S = .ok (.bl (!decide (a ∈ xs))) S := by
  simp only [opCmp, dunS hd, inD_pl hd hs ha hx hn hm, Option.map_some, Res.of_some]
end
end TD

set_option Elab.async false
set_option linter.all false
set_option maxRecDepth 100000
set_option maxHeartbeats 2000000
set_option autoImplicit false
/-! TS: tuples of numbers in order; sorted rows of anything put together. -/
namespace TD
open PySem
def lexI : List Int → List Int → Bool
  | [], [] => false
  | [], _ :: _ => true
  | _ :: _, [] => false
  | x :: a, y :: b => decide (x < y) || (!decide (y < x) && lexI a b)
theorem ilt (x y : Int) : PyProof.Rows.itemLt (.inl x) (.inl y) = decide (x < y) := rfl
theorem bltI (x y : Int) : PyProof.Rows.itemOrd.blt (Sum.inl x) (Sum.inl y) = decide (x < y) := rfl
theorem toks_lex : ∀ (a b : List Int) (l m : List (Int ⊕ List Nat)), (a = b → PyProof.Rows.lexLt PyProof.Rows.itemOrd l m = false) → PyProof.Rows.lexLt PyProof.Rows.itemOrd (PySem.W.keyToksAll (a.map .int) ++ l) (PySem.W.keyToksAll (b.map .int) ++ m) = lexI a b
  | [], [], l, m, h => by
    simp only [List.map_nil, PySem.W.keyToksAll, List.cons_append, List.nil_append, lexI]
    rw [PyProof.Rows.lex_self (O := PyProof.Rows.itemOrd)]; exact h rfl
  | [], y :: b, l, m, h => by
    simp only [List.map_nil, List.map_cons, PySem.W.keyToksAll, List.cons_append, List.nil_append, lexI]
    rw [PyProof.Rows.lex_cons (O := PyProof.Rows.itemOrd), bltI]; rfl
  | x :: a, [], l, m, h => by
    simp only [List.map_nil, List.map_cons, PySem.W.keyToksAll, List.cons_append, List.nil_append, lexI]
    rw [PyProof.Rows.lex_cons (O := PyProof.Rows.itemOrd), bltI, bltI]; rfl
  | x :: a, y :: b, l, m, h => by
    simp only [List.map_cons, PySem.W.keyToksAll, PySem.W.keyToks, List.cons_append, List.nil_append, lexI]
    rw [PyProof.Rows.lex_self (O := PyProof.Rows.itemOrd), PyProof.Rows.lex_cons (O := PyProof.Rows.itemOrd), bltI, bltI]
    by_cases e : x = y
    · subst e
      rw [toks_lex a b l m fun e => h (by rw [e])]
    · by_cases p : x < y
      · simp [p]
      · have : y < x := by omega
        simp [p, this]
theorem alike_ints : ∀ (a b : List Int), PySem.W.alikeAll (a.map .int) (b.map .int) = true
  | [], b => by cases b <;> simp [PySem.W.alikeAll]
  | x :: a, [] => by simp [PySem.W.alikeAll]
  | x :: a, y :: b => by simp [PySem.W.alikeAll, PySem.W.alike, alike_ints a b]
theorem depth_ints (a : List Int) : PyData.depthAll (a.map .int) = 0 := by
  induction a with
  | nil => simp [PyData.depthAll]
  | cons x a ih => simp [PyData.depthAll, PyData.depth, ih]
def tI (a : List Int) : D := .tup (a.map .int)
theorem tI_dat (a : List Int) : (tI a).dat = some (.tuple (a.map .int)) := by simp [tI, D.dat, ints_dat]
theorem lt_tI {S : Store} (a b : List Int) : ltD S (tI a) (tI b) = some (lexI a b) := by
  have e : PySem.W.dataLt (.tuple (a.map .int)) (.tuple (b.map .int)) = lexI a b := by
    have := toks_lex a b [] [] fun _ => rfl
    rw [List.append_nil, List.append_nil] at this
    rw [PySem.W.dataLt_tuple]; exact this
  have q : ltD S (tI a) (tI b) = (match (tI a).dat, (tI b).dat with
    | some p, some q => if PySem.W.alike p q = true ∧ p.depth ≤ 64 ∧ q.depth ≤ 64 then some (PySem.W.dataLt p q) else none
    | _, _ => none) := rfl
  rw [q, tI_dat, tI_dat]
  simp only
  rw [if_pos ⟨by simp [PySem.W.alike, alike_ints], by simp [PyData.depth, depth_ints], by simp [PyData.depth, depth_ints]⟩, e]
/-- a number and a tuple of numbers -/
def nI (p : Int × List Int) : D := .tup [.int p.1, tI p.2]
def lexN (p q : Int × List Int) : Bool := decide (p.1 < q.1) || (decide (p.1 = q.1) && lexI p.2 q.2)
theorem nI_dat (p : Int × List Int) : (nI p).dat = some (.tuple [.int p.1, .tuple (p.2.map .int)]) := by simp [nI, D.dat, D.datL, tI_dat]
theorem lt_nI {S : Store} (p q : Int × List Int) : ltD S (nI p) (nI q) = some (lexN p q) := by
  have e : PySem.W.dataLt (.tuple [.int p.1, .tuple (p.2.map .int)]) (.tuple [.int q.1, .tuple (q.2.map .int)]) = lexN p q := by
    rw [PySem.W.dataLt_tuple]
    simp only [PySem.W.keyToksAll, PySem.W.keyToks, List.cons_append, List.nil_append]
    rw [PyProof.Rows.lex_self (O := PyProof.Rows.itemOrd), PyProof.Rows.lex_cons (O := PyProof.Rows.itemOrd), bltI, bltI, PyProof.Rows.lex_self (O := PyProof.Rows.itemOrd), toks_lex _ _ _ _ fun _ => by
      rw [PyProof.Rows.lex_self (O := PyProof.Rows.itemOrd)]; rfl]
    unfold lexN
    by_cases z : p.1 < q.1
    · simp [z]
    · by_cases y : p.1 = q.1
      · simp [z, y]
      · have : q.1 < p.1 := by omega
        simp [z, y, this]
  have k : ltD S (nI p) (nI q) = (match (nI p).dat, (nI q).dat with
    | some p, some q => if PySem.W.alike p q = true ∧ p.depth ≤ 64 ∧ q.depth ≤ 64 then some (PySem.W.dataLt p q) else none
    | _, _ => none) := rfl
  rw [k, nI_dat, nI_dat]
  simp only
  rw [if_pos ⟨by simp [PySem.W.alike, PySem.W.alikeAll, alike_ints], by simp [PyData.depth, PyData.depthAll, depth_ints], by simp [PyData.depth, PyData.depthAll, depth_ints]⟩, e]
theorem op_lt_tup {c : Cn} {S : Store} {xs ys : List D} {b : Bool} (h : ltD S (.tup xs) (.tup ys) = some b) : opCmp c .lt (.tup xs) (.tup ys) S = .ok (.bl b) S := by
  have e : clsOf S (.tup xs) = none := rfl
  simp [opCmp, e, h]
theorem pl_ints {n : Nat} (a : List Int) : ∀ x ∈ a.map D.int, Pl n x := fun x hx => by
  obtain ⟨i, _, rfl⟩ := List.mem_map.mp hx; exact .int n i
theorem pl_tI {n : Nat} (a : List Int) : Pl (n + 1) (tI a) := .tup n _ (pl_ints a)
theorem pl_nI {n : Nat} (p : Int × List Int) : Pl (n + 2) (nI p) := .tup (n + 1) _ fun x hx => by
  simp at hx
  rcases hx with rfl | rfl
  · exact .int _ _
  · exact pl_tI _
end TD

set_option Elab.async false
set_option linter.all false
set_option maxRecDepth 100000
set_option maxHeartbeats 4000000
set_option autoImplicit false
/-! WO: what is in order already stays: merged, ordered, by_size. -/
namespace TD
open PySem
open L2 (V)
/-- y < x does not hold -/
def Asc (x y : D) : Prop := ∀ (S : Store) (c : Cn), opCmp c .lt y x S = .ok (.bl false) S
def passD : List (List D) → List (List D)
  | a :: b :: r => (a ++ b) :: passD r
  | r => r
def rowD' (R : List (List D)) (i : Nat) : List D := (R[i]?).getD []
def pairD (R : List (List D)) (n t : Nat) : List D := if 2 * t + 1 < n then rowD' R (2 * t) ++ rowD' R (2 * t + 1) else rowD' R (2 * t)
theorem passD_flat : ∀ (R : List (List D)), (passD R).flatten = R.flatten
  | [] => rfl
  | [a] => rfl
  | a :: b :: R => by simp [passD, passD_flat R]
theorem flat1D (A : List D) : (A.map fun i => [i]).flatten = A := by
  induction A with
  | nil => rfl
  | cons a A ih => simp [ih]
theorem passD_map : ∀ (R : List (List D)), passD R = (List.range ((R.length + 1) / 2)).map (pairD R R.length)
  | [] => rfl
  | [a] => by simp [passD, pairD, rowD']
  | a :: b :: r => by
    have e : ((a :: b :: r).length + 1) / 2 = (r.length + 1) / 2 + 1 := by simp; omega
    rw [e, List.range_succ_eq_map, List.map_cons, List.map_map, passD, passD_map r]
    have e0 : pairD (a :: b :: r) (a :: b :: r).length 0 = a ++ b := by simp [pairD, rowD']
    rw [e0]
    congr 1
    apply List.map_congr_left
    intro t _
    have e1 : rowD' (a :: b :: r) (2 * (t + 1)) = rowD' r (2 * t) := by
      unfold rowD'
      rw [show 2 * (t + 1) = 2 * t + 1 + 1 by omega]; simp
    have e2 : rowD' (a :: b :: r) (2 * (t + 1) + 1) = rowD' r (2 * t + 1) := by
      unfold rowD'
      rw [show 2 * (t + 1) + 1 = 2 * t + 1 + 1 + 1 by omega]; simp
    simp only [Function.comp, Nat.succ_eq_add_one, pairD, e1, e2]
    by_cases c : 2 * t + 1 < r.length
    · rw [if_pos c, if_pos (by simp; omega)]
    · rw [if_neg c, if_neg (by simp; omega)]
theorem passD_len (R : List (List D)) : (passD R).length = (R.length + 1) / 2 := by rw [passD_map]; simp
theorem evens_items {S : Store} {b : Nat} (h : b ≤ 70) : itemsOf .range [.int 0, .int b, .int 2] S = some ((List.range ((b + 1) / 2)).map fun t => D.int ((2 * t : Nat) : Int)) := by
  have key : ∀ b : Nat, b < 71 → ((decide ((0 : Int) < 2 ∧ (2 : Int) < 1073741824) && rgOk 0 (b : Int) && Builtin.Range.small 0 (b : Int) 2) && decide ((Builtin.Range.rangeSize 0 (b : Int) 2).toNat = (b + 1) / 2)) = true := by decide +kernel
  have k := key b (by omega)
  rw [Bool.and_eq_true] at k
  have e : itemsOf .range [.int 0, .int b, .int 2] S = if decide ((0 : Int) < 2 ∧ (2 : Int) < 1073741824) && rgOk 0 (b : Int) && Builtin.Range.small 0 (b : Int) 2 then some ((List.range (Builtin.Range.rangeSize 0 (b : Int) 2).toNat).map fun (i : Nat) => D.int (0 + (i : Int) * 2)) else none := rfl
  rw [e, if_pos k.1, of_decide_eq_true k.2]
  refine congrArg some (List.map_congr_left fun t _ => ?_)
  have z : (0 + (t : Int) * 2) = ((2 * t : Nat) : Int) := by omega
  rw [z]
section
variable {P : Prog} [KB P] {W n b : Nat} {S : Store}
theorem merged_id {A B : List D} (hA : A.length ≤ 100) (hB : B.length ≤ 100) (hW : 1000 ≤ W) (pa : ∀ x ∈ A, x.lo 0 = true) (pb : ∀ x ∈ B, x.lo 0 = true) (h : ∀ x ∈ A, ∀ y ∈ B, Asc x y) : callF P W (n + 1) b 20 [.lst A, .lst B] S = .ok (.lst (A ++ B)) S := by
  have lA : D.loL 0 A = true := loL_iff.mpr pa
  have lB : D.loL 0 B = true := loL_iff.mpr pb
  rw [callF_def (P := P) (fd := c20) hc20 rfl rfl (by simp [D.loL, D.lo, lA, lB])]
  simp only [c20, TD.start, List.map_cons, List.map_nil, List.length_cons, List.length_nil, List.cons_append, List.nil_append, List.replicate]
  simp [putAll]
  generalize hw : whileL _ _ _ _ _ = r
  obtain ⟨σ', S', rfl, rfl, v, w, rfl⟩ := whileL_inv_e hw
    (fun (s : Nat × Nat) σ S => s.1 ≤ A.length ∧ s.2 ≤ B.length ∧ (s.2 = 0 ∨ s.1 = A.length) ∧ S = [.lst (A.take s.1 ++ B.take s.2)] ∧ σ = [some (.lst A), some (.lst B), some (.ref 0), some (.int s.1), some (.int s.2)])
    (fun σ S => S = [.lst (A ++ B)] ∧ ∃ v w, σ = [some (.lst A), some (.lst B), some (.ref 0), v, w])
    (fun s => (A.length - s.1) + (B.length - s.2)) (fun s σ S hI => by
      obtain ⟨i, j⟩ := s
      obtain ⟨h1, h2, h3, rfl, rfl⟩ := hI
      dsimp only at h1 h2 h3 ⊢
      generalize hF : A.take i ++ B.take j = F
      have lF : F.length ≤ 200 := by rw [← hF]; simp; omega
      have hc : kwh ⟨callF P W n, P, 0, W⟩ (.or (.cmp .lt (.var 3) (.bf .len false (.cons (.var 0) (.nil)))) (.cmp .lt (.var 4) (.bf .len false (.cons (.var 1) (.nil))))) [some (.lst A), some (.lst B), some (.ref 0), some (.int i), some (.int j)] [.lst F] = .ok (decide ((i : Int) < A.length) || decide ((j : Int) < B.length)) [.lst F] :=
        kwh_ (or_ev (by simp [len_lst, i_lt]) (by simp [len_lst, i_lt]))
      have g0 : ([.lst F] : Store)[0]? = some (.lst F) := rfl
      have ap : ∀ v, bmB ⟨callF P W n, P, 0, W⟩ .append (.ref 0) [.lst F] (.tup [v]) [.lst F] = .ok .non [.lst (F ++ [v])] := fun v => bm_append g0 g0 (.inl (Nat.le_refl 0)) (by simp [szl]; omega)
      have ixA : ∀ (hi : i < A.length) (c : Cn), opIdx c (.lst A) (.int i) [.lst F] = .ok A[i] [.lst F] := fun hi c => idx_lst (List.getElem?_eq_getElem hi)
      have ixB : ∀ (hj : j < B.length) (c : Cn), opIdx c (.lst B) (.int j) [.lst F] = .ok B[j] [.lst F] := fun hj c => idx_lst (List.getElem?_eq_getElem hj)
      by_cases ci : i < A.length
      · have ci' : (i : Int) < A.length := by omega
        have j0 : j = 0 := by rcases h3 with z | z <;> omega
        subst j0
        right
        refine ⟨by rw [hc]; simp [ci'], (i + 1, 0), [some (.lst A), some (.lst B), some (.ref 0), some (.int ((i + 1 : Nat) : Int)), some (.int ((0 : Nat) : Int))], [.lst (F ++ [A[i]])], ?_, ⟨ci, Nat.zero_le _, .inl rfl, ?_, rfl⟩, by dsimp only; omega⟩
        · by_cases cj : B.length = 0
          · simp [len_lst, cj, i_eq, ixA ci, ap, arith]
          · have cj' : ¬ (0 : Int) = B.length := by omega
            have as := h A[i] (List.getElem_mem ci) B[0] (List.getElem_mem (by omega)) [.lst F] ⟨callF P W n, P, 0, W⟩
            have ix0 := ixB (by omega)
            simp at ix0
            simp [len_lst, cj, cj', i_eq, i_lt, ci', ixA ci, ix0, as, ap, arith]
        · rw [← hF]
          simp
      · have ei : i = A.length := by omega
        subst ei
        by_cases cj : j < B.length
        · right
          have cj' : (j : Int) < B.length := by omega
          have ne' : ¬ (j : Int) = B.length := by omega
          refine ⟨by rw [hc]; simp [cj'], (A.length, j + 1), [some (.lst A), some (.lst B), some (.ref 0), some (.int A.length), some (.int ((j + 1 : Nat) : Int))], [.lst (F ++ [B[j]])], ?_, ⟨Nat.le_refl _, cj, .inr rfl, ?_, rfl⟩, by dsimp only; omega⟩
          · simp [len_lst, i_eq, ne', i_lt, ixB cj, ap, arith]
          · rw [← hF, List.append_assoc, List.take_append_getElem]
        · left
          have cj' : ¬ (j : Int) < B.length := by omega
          refine ⟨by rw [hc]; simp [cj'], ?_, _, _, rfl⟩
          rw [← hF, List.take_length, List.take_of_length_le (by omega)])
    (0, 0) ⟨Nat.zero_le _, Nat.zero_le _, .inl rfl, by simp, rfl⟩ (by dsimp only; omega)
  simp [fin]
  have : frz P [.lst (A ++ B)] 0 64 (.ref 0) = some (.lst (A ++ B)) := frz_ref rfl (Nat.le_refl 0) fun d hd => by
    rcases List.mem_append.mp hd with z | z
    · exact pa d z
    · exact pb d z
  simp [this]
theorem rows_pl {m : Nat} {R : List (List D)} (h : ∀ x ∈ R.flatten, Pl m x) : ∀ x ∈ R.map D.lst, Pl (m + 1) x := fun x hx => by
  obtain ⟨r, hr, rfl⟩ := List.mem_map.mp hx
  exact .lst m r fun y hy => h y (List.mem_flatten.mpr ⟨r, hr, hy⟩)
theorem seq_ne {d : D} {xs : List D} {m : Nat} (hd : SeqI S d xs) (hx : ∀ x ∈ xs, Pl m x) (hm : m ≤ 60) {c : Cn} : opCmp c .ne d (.lst []) S = .ok (.bl (!decide (xs = []))) S := by
  have e : eqD S d (.lst []) = some (decide (D.lst xs = .lst [])) := by
    have p1 : Pl (m + 1) (.lst xs) := .lst m xs hx
    have p2 : Pl 1 (.lst []) := .lst 0 [] fun _ h => by simp at h
    have q := hd.seq
    cases d <;> first | (simp [seqL] at q; done) | skip
    · simp only [seqL, Option.some.injEq] at q
      subst q; exact eqD_pl p1 p2 (by omega) (by omega)
    · rename_i k
      have : S[k]? = some (.lst xs) ∨ S[k]? = some (.lck xs) := by
        cases e : S[k]? with
        | none => simp [seqL, e] at q
        | some c => cases c <;> simp [seqL, e] at q <;> simp [q]
      rw [eqD_ref this]; exact eqD_pl p1 p2 (by omega) (by omega)
  simp only [opCmp, hd.cls, e, Option.map_some, Res.of_some]
  congr 2
  rw [Bool.eq_iff_iff]; simp
theorem ordered_id {t : D} {A : List D} {m : Nat} (ht : t = .lst A ∨ t = .tup A) (hA : A.length ≤ 70) (hW : 1000 ≤ W) (pl : ∀ x ∈ A, Pl m x) (hm : m ≤ 50) (h : A.Pairwise Asc) : callF P W (n + 2) b 21 [t] S = .ok (.lst A) S := by
  have tlo : t.lo 0 = true := by
    have : D.loL 0 A = true := loL_iff.mpr fun x hx => (pl x hx).lo 0
    rcases ht with rfl | rfl <;> exact this
  have titem : ∀ S : Store, itemsOf .val [t] S = some A := fun S => by rcases ht with rfl | rfl <;> rfl
  have trf : refsOf [t] = [] := by rcases ht with rfl | rfl <;> rfl
  have key : ∃ S1, exec ⟨callF P W (n + 1), P, 0, W⟩ c21.body [some t, none, none, none, none] [] = .ok (.rt (.lst A)) S1 := by
    simp only [c21]
    simp
    rw [compB_pure1 (as := [t]) (l := A) (e := id) (v := fun x => .lst [x]) (by simp) (by rw [titem]; simp) trf (fun i _ => turn_1 rfl (by simp) (by simp [wipeD])) (by simp [szl]; omega)]
    simp
    generalize hw : whileL _ _ _ _ _ = r
    have L := whileL_inv_e hw (fun (R : List (List D)) σ S => R.flatten = A ∧ R.length ≤ 70 ∧ ∃ d x y z, σ = [some t, some d, x, y, z] ∧ SeqI S d (R.map D.lst))
      (fun σ S => ∃ (R : List (List D)) (d : D) (x y z : Option D), R.flatten = A ∧ R.length ≤ 1 ∧ σ = [some t, some d, x, y, z] ∧ SeqI S d (R.map D.lst)) (fun R => R.length) (fun R σ S hI => by
        obtain ⟨h2, h3, d, x, y, z, rfl, h4⟩ := hI
        have hc : kwh ⟨callF P W (n + 1), P, 0, W⟩ (.cmp .gt (.bf .len false (.cons (.var 1) (.nil))) (.lit (.int (1)))) [some t, some d, x, y, z] S = .ok (decide ((1 : Int) < R.length)) S := kwh_ (by simp [h4.len, i_gt])
        by_cases c : 1 < R.length
        · right
          suffices ex : ∃ x' y', exec ⟨callF P W (n + 1), P, 0, W⟩ (.cons (.asg (.nm 2) (.lst true (.nil))) (.cons (.loop (.nm 3) .range (.cons (.lit (.int (0))) (.cons (.bf .len false (.cons (.var 1) (.nil))) (.cons (.lit (.int (2))) (.nil)))) (.cons (.expr (.bm (.var 2) .append (.cons (.ite (.cmp .lt (.bin false .add (.var 3) (.lit (.int (1)))) (.bf .len false (.cons (.var 1) (.nil)))) (.call 20 (.cons (.idx (.var 1) (.var 3)) (.cons (.idx (.var 1) (.bin false .add (.var 3) (.lit (.int (1))))) (.nil)))) (.idx (.var 1) (.var 3))) (.nil)))) (.nil))) (.cons (.asg (.nm 1) (.var 2)) (.nil)))) [some t, some d, x, y, z] S = .ok (.nx [some t, some (.ref S.length), some (.ref S.length), x', y']) (S ++ [.lst ((passD R).map D.lst)]) by
            obtain ⟨x', y', ex⟩ := ex
            exact ⟨by rw [hc]; have : (1 : Int) < R.length := by omega
                      simp [this], passD R, _, _, ex, ⟨by rw [passD_flat, h2], by rw [passD_len]; omega, _, _, _, _, rfl, by simp [seqL], by simp [clsOf]⟩, by rw [passD_len]; omega⟩
          simp
          generalize hk : S.length = k
          rw [s_loop (as := [.int 0, .int R.length, .int 2]) (by simp [(h4.more _).len]) (evens_items (by omega)) rfl]
          generalize hf : forL _ _ _ _ = r'
          obtain ⟨σ', S', rfl, rfl, x', y', rfl⟩ := forL_pre_e hf rfl (fun a σ S' => S' = S ++ [.lst (a.map fun t => .lst (pairD R R.length t))] ∧ ∃ x' y', σ = [some t, some d, some (.ref k), x', y']) (fun a u c' hl σ S' hI => by
            obtain ⟨rfl, x', y', rfl⟩ := hI
            obtain ⟨ha, ht⟩ := range_pre hl
            have ht2 : 2 * u < R.length := by omega
            have hm := h4.more [.lst (a.map fun t => .lst (pairD R R.length t))]
            generalize hu : 2 * u = v at ht2
            have g1 : (S ++ [Cell.lst (a.map fun t => .lst (pairD R R.length t))])[k]? = some (.lst (a.map fun t => .lst (pairD R R.length t))) := by rw [← hk]; simp
            have gs : ∀ w, (S ++ [Cell.lst (a.map fun t => .lst (pairD R R.length t))]).set k w = S ++ [w] := fun w => by rw [← hk]; simp
            have i0 := hm.idx (c := ⟨callF P W (n + 1), P, 0, W⟩) (k := v) (by simpa using ht2)
            have lf : (a.map fun t => D.lst (pairD R R.length t)).length < szl := by
              rw [ha]; simp [szl]; omega
            have ap := fun v => bm_append (c := ⟨callF P W (n + 1), P, 0, W⟩) (v := v) g1 g1 (.inl (Nat.zero_le _)) lf
            refine ⟨[some t, some d, some (.ref k), some (.int v), y'], S ++ [.lst ((a ++ [u]).map fun t => .lst (pairD R R.length t))], ?_, rfl, _, _, rfl⟩
            rw [loopF_nm]
            by_cases c1 : v + 1 < R.length
            · have c2 : (v : Int) + 1 < R.length := by omega
              have i1 : opIdx ⟨callF P W (n + 1), P, 0, W⟩ d (.int ((v : Int) + 1)) (S ++ [Cell.lst (a.map fun t => .lst (pairD R R.length t))]) = .ok ((R.map D.lst)[v + 1]'(by simpa using c1)) _ := hm.idx (k := v + 1) (by simpa using c1)
              have fl : ∀ (i : Nat) (hi : i < R.length), R[i].length ≤ A.length := fun i hi => by
                rw [← h2]; exact (List.sublist_flatten_of_mem (List.getElem_mem hi)).length_le
              have l1 := fl v ht2
              have l2 := fl (v + 1) c1
              have inA : ∀ (i : Nat) (hi : i < R.length), ∀ x ∈ R[i], x ∈ A := fun i hi x hx => by
                rw [← h2]; exact List.mem_flatten.mpr ⟨R[i], List.getElem_mem hi, hx⟩
              have mg := merged_id (P := P) (W := W) (n := n) (b := 0) (S := S ++ [Cell.lst (a.map fun t => .lst (pairD R R.length t))]) (A := R[v]) (B := R[v + 1]) (by omega) (by omega) hW (fun x hx => (pl x (inA v ht2 x hx)).lo 0) (fun x hx => (pl x (inA (v + 1) c1 x hx)).lo 0) (fun x hx y hy => by
                have pw := h
                rw [← h2, List.pairwise_flatten] at pw
                have := List.pairwise_iff_getElem.mp pw.2 v (v + 1) ht2 c1 (by omega)
                exact this x hx y hy)
              have ep : pairD R R.length u = R[v] ++ R[v + 1] := by
                unfold pairD rowD'
                rw [hu, if_pos c1, List.getElem?_eq_getElem ht2, List.getElem?_eq_getElem c1]; rfl
              simp at i0 i1
              simp [hm.len, opBin, arith, i_lt, c2, i0, i1, mg, ap, gs, ep]
            · have c2 : ¬ (v : Int) + 1 < R.length := by omega
              have ep : pairD R R.length u = R[v] := by
                unfold pairD rowD'
                rw [hu, if_neg c1, List.getElem?_eq_getElem ht2]; rfl
              simp at i0
              simp [hm.len, opBin, arith, i_lt, c2, i0, ap, gs, ep]) ⟨rfl, _, _, rfl⟩
          have em : (List.range ((R.length + 1) / 2)).map (fun t => D.lst (pairD R R.length t)) = (passD R).map D.lst := by rw [passD_map]; simp
          rw [em]
          simp
        · left
          have c' : ¬ (1 : Int) < R.length := by omega
          exact ⟨by rw [hc]; simp [c'], R, d, x, y, z, h2, by omega, rfl, h4⟩) (A.map fun i => [i]) ⟨flat1D A, by simpa using hA, _, _, _, _, rfl, ⟨by simp [seqL, Function.comp_def], rfl⟩⟩ (by simp; omega)
    obtain ⟨σ', S', rfl, R, d, x, y, z, h2, h3, rfl, h4⟩ := L
    have nn := seq_ne (c := ⟨callF P W (n + 1), P, 0, W⟩) h4 (rows_pl (m := m) (by rw [h2]; exact pl)) (by omega)
    cases R with
    | nil =>
      simp at h2
      subst h2
      refine ⟨S', ?_⟩
      simp [nn]
    | cons q R =>
      have : R = [] := by cases R with
        | nil => rfl
        | cons _ _ => simp at h3
      subst this
      simp at h2
      subst h2
      refine ⟨S', ?_⟩
      have i0 := h4.idx (c := ⟨callF P W (n + 1), P, 0, W⟩) (k := 0) (by simp)
      simp at i0
      simp [nn, i0]
  obtain ⟨S1, e⟩ := key
  rw [callF_def (P := P) (fd := c21) hc21 rfl rfl (by simp [D.loL, tlo])]
  have st : TD.start c21 [t] = [some t, none, none, none, none] := rfl
  rw [st, e]
  have : D.loL 0 A = true := loL_iff.mpr fun x hx => (pl x hx).lo 0
  simp [fin, frz_pure (d := .lst A) this]
end
end TD

set_option Elab.async false
set_option linter.all false
set_option autoImplicit false
/-! LA: rows of numbers, what is made of them, their rank. -/
namespace TD
abbrev Vec := Nat → Rat
/-- w is made of the rows -/
def InS : List Vec → Vec → Prop
  | [], w => ∀ i, w i = 0
  | v :: A, w => ∃ c : Rat, InS A (fun i => w i - c * v i)
theorem ins_lin {A : List Vec} : ∀ {u w : Vec} (a b : Rat), InS A u → InS A w → InS A (fun i => a * u i + b * w i) := by
  induction A with
  | nil =>
    intro u w a b h1 h2 i
    have := h1 i; have := h2 i
    grind
  | cons v A ih =>
    rintro u w a b ⟨c, h1⟩ ⟨d, h2⟩
    refine ⟨a * c + b * d, ?_⟩
    have := ih a b h1 h2
    have e : (fun i => a * u i + b * w i - (a * c + b * d) * v i) = fun i => a * (u i - c * v i) + b * (w i - d * v i) := by
      funext i; grind
    rw [e]; exact this
theorem ins_zero (A : List Vec) : InS A (fun _ => 0) := by
  induction A with
  | nil => intro i; rfl
  | cons v A ih =>
    refine ⟨0, ?_⟩
    have e : (fun i => (0 : Rat) - 0 * v i) = fun _ => 0 := by funext i; grind
    rw [e]; exact ih
theorem ins_more {A : List Vec} {v w : Vec} (h : InS A w) : InS (v :: A) w := by
  refine ⟨0, ?_⟩
  have e : (fun i => w i - 0 * v i) = w := by funext i; grind
  rw [e]; exact h
theorem ins_head (A : List Vec) (v : Vec) : InS (v :: A) v := by
  refine ⟨1, ?_⟩
  have e : (fun i => v i - 1 * v i) = fun _ => 0 := by funext i; grind
  rw [e]; exact ins_zero A
theorem ins_mem {A : List Vec} {v : Vec} (h : v ∈ A) : InS A v := by
  induction A with
  | nil => cases h
  | cons u A ih =>
    rcases List.mem_cons.mp h with rfl | h
    · exact ins_head A v
    · exact ins_more (ih h)
theorem ins_trans {A B : List Vec} (h : ∀ v ∈ A, InS B v) : ∀ {w : Vec}, InS A w → InS B w := by
  induction A with
  | nil =>
    intro w hw
    have e : w = fun _ => 0 := by funext i; exact hw i
    rw [e]; exact ins_zero B
  | cons v A ih =>
    rintro w ⟨c, hw⟩
    have h1 := ih (fun u hu => h u (List.mem_cons_of_mem _ hu)) hw
    have h2 := h v List.mem_cons_self
    have := ins_lin 1 c h1 h2
    have e : (fun i => 1 * (w i - c * v i) + c * v i) = w := by funext i; grind
    rwa [e] at this
theorem ins_exch {A : List Vec} {v w : Vec} (h : InS (v :: A) w) (h' : ¬ InS A w) : InS (w :: A) v := by
  obtain ⟨c, hc⟩ := h
  have c0 : c ≠ 0 := by
    rintro rfl
    apply h'
    have e : (fun i => w i - 0 * v i) = w := by funext i; grind
    rwa [e] at hc
  refine ⟨c⁻¹, ?_⟩
  have := ins_lin (-(c⁻¹)) 0 hc (ins_zero A)
  have e : (fun i => -(c⁻¹) * (w i - c * v i) + 0 * 0) = fun i => v i - c⁻¹ * w i := by
    funext i
    have : c⁻¹ * c = 1 := by rw [Rat.mul_comm]; exact Rat.mul_inv_cancel c c0
    grind
  rwa [e] at this
open Classical in
noncomputable def rk : List Vec → Nat
  | [] => 0
  | v :: A => rk A + if InS A v then 0 else 1
theorem rk_in {A : List Vec} {v : Vec} (h : InS A v) : rk (v :: A) = rk A := by simp [rk, h]
theorem rk_out {A : List Vec} {v : Vec} (h : ¬ InS A v) : rk (v :: A) = rk A + 1 := by simp [rk, h]
theorem rk_le1 (A : List Vec) (v : Vec) : rk A ≤ rk (v :: A) ∧ rk (v :: A) ≤ rk A + 1 := by
  by_cases h : InS A v
  · rw [rk_in h]; omega
  · rw [rk_out h]; omega
theorem rk_iff {A : List Vec} {v : Vec} : rk (v :: A) = rk A ↔ InS A v := by
  by_cases h : InS A v
  · simp [rk_in h, h]
  · rw [rk_out h]; simp [h]
theorem ins_iff {A B : List Vec} (h : ∀ v, v ∈ A ↔ v ∈ B) (w : Vec) : InS A w ↔ InS B w :=
  ⟨ins_trans fun v hv => ins_mem ((h v).mp hv), ins_trans fun v hv => ins_mem ((h v).mpr hv)⟩
theorem ins_congr {A B : List Vec} (h1 : ∀ v ∈ A, InS B v) (h2 : ∀ v ∈ B, InS A v) (w : Vec) : InS A w ↔ InS B w := ⟨ins_trans h1, ins_trans h2⟩
theorem rk_swap (x y : Vec) (A : List Vec) : rk (x :: y :: A) = rk (y :: x :: A) := by
  by_cases hx : InS A x
  · have hx' : InS (y :: A) x := ins_more hx
    rw [rk_in hx']
    by_cases hy : InS A y
    · rw [rk_in hy, rk_in (ins_more hy), rk_in hx]
    · have : ¬ InS (x :: A) y := fun z => hy (ins_trans (fun v hv => by
        rcases List.mem_cons.mp hv with rfl | hv
        · exact hx
        · exact ins_mem hv) z)
      rw [rk_out hy, rk_out this, rk_in hx]
  · by_cases hy : InS A y
    · have : ¬ InS (y :: A) x := fun z => hx (ins_trans (fun v hv => by
        rcases List.mem_cons.mp hv with rfl | hv
        · exact hy
        · exact ins_mem hv) z)
      rw [rk_out this, rk_in hy, rk_in (ins_more hy), rk_out hx]
    · by_cases h : InS (y :: A) x
      · have h' := ins_exch h hx
        rw [rk_in h, rk_in h', rk_out hx, rk_out hy]
      · have h' : ¬ InS (x :: A) y := fun z => h (ins_exch z hy)
        rw [rk_out h, rk_out h', rk_out hx, rk_out hy]
theorem rk_perm {A B : List Vec} (h : List.Perm A B) : rk A = rk B := by
  induction h with
  | nil => rfl
  | cons x p ih =>
    rename_i l1 l2
    by_cases z : InS l1 x
    · rw [rk_in z, rk_in ((ins_iff (fun v => p.mem_iff) x).mp z), ih]
    · rw [rk_out z, rk_out (fun q => z ((ins_iff (fun v => p.mem_iff) x).mpr q)), ih]
  | swap x y l => exact rk_swap y x l
  | trans _ _ h1 h2 => rw [h1, h2]
theorem rk_add {A : List Vec} : ∀ (B : List Vec), (∀ v ∈ B, InS A v) → rk (B ++ A) = rk A
  | [], _ => rfl
  | v :: B, h => by
    have ih := rk_add B fun u hu => h u (List.mem_cons_of_mem _ hu)
    have : InS (B ++ A) v := ins_trans (fun u hu => ins_mem (List.mem_append_right _ hu)) (h v List.mem_cons_self)
    rw [List.cons_append, rk_in this, ih]
theorem rk_app_le (B A : List Vec) : rk A ≤ rk (B ++ A) := by
  induction B with
  | nil => exact Nat.le_refl _
  | cons v B ih => exact Nat.le_trans ih (rk_le1 (B ++ A) v).1
theorem rk_mono {A B : List Vec} (h : ∀ v ∈ A, InS B v) : rk A ≤ rk B := by
  rw [← rk_add A h, rk_perm List.perm_append_comm]
  exact rk_app_le B A
theorem rk_congr {A B : List Vec} (h1 : ∀ v ∈ A, InS B v) (h2 : ∀ v ∈ B, InS A v) : rk A = rk B := Nat.le_antisymm (rk_mono h1) (rk_mono h2)
theorem rk_len (A : List Vec) : rk A ≤ A.length := by
  induction A with
  | nil => exact Nat.le_refl _
  | cons v A ih => have := (rk_le1 A v).2; rw [List.length_cons]; omega
/-- as great a rank within: the same is made -/
theorem ins_of_rk {A B : List Vec} (h : ∀ v ∈ A, InS B v) (e : rk B ≤ rk A) : ∀ {w : Vec}, InS B w → InS A w := by
  intro w hw
  rw [← rk_iff]
  have h1 : rk (w :: A) ≤ rk B := rk_mono fun v hv => by
    rcases List.mem_cons.mp hv with rfl | hv
    · exact hw
    · exact h v hv
  have := (rk_le1 A w).1
  omega
/-- one row taken away from the others -/
theorem ins_elim {base : Vec} {φ : Vec → Vec} {at_ : Nat} {a : Rat} (a0 : a ≠ 0) (hb : base at_ ≠ 0) (hφ : ∀ v, φ v = fun i => a * v i - (a * v at_ * (base at_)⁻¹) * base i) (A : List Vec) (v : Vec) : InS (A.map φ) (φ v) ↔ InS (A ++ [base]) v := by
  have hin : ∀ B : List Vec, ∀ u, InS (B ++ [base]) (φ u) ↔ InS (B ++ [base]) u := fun B u => by
    have hbase : InS (B ++ [base]) base := ins_mem (by simp)
    constructor
    · intro h
      have := ins_lin a⁻¹ (u at_ * (base at_)⁻¹) h hbase
      have e : (fun i => a⁻¹ * φ u i + u at_ * (base at_)⁻¹ * base i) = u := by
        funext i; rw [hφ]
        have : a⁻¹ * a = 1 := by rw [Rat.mul_comm]; exact Rat.mul_inv_cancel a a0
        grind
      rwa [e] at this
    · intro h
      have := ins_lin a (-(a * u at_ * (base at_)⁻¹)) h hbase
      have e : (fun i => a * u i + -(a * u at_ * (base at_)⁻¹) * base i) = φ u := by
        funext i; rw [hφ]; grind
      rwa [e] at this
  have zero : ∀ u, (φ u) at_ = 0 := fun u => by
    rw [hφ]
    have : (base at_)⁻¹ * base at_ = 1 := by rw [Rat.mul_comm]; exact Rat.mul_inv_cancel _ hb
    grind
  constructor
  · intro h
    rw [← hin]
    refine ins_trans (fun u hu => ?_) h
    obtain ⟨x, hx, rfl⟩ := List.mem_map.mp hu
    rw [hin]
    exact ins_mem (List.mem_append_left _ hx)
  · -- what stands at at_ tells that base has no share
    have key : ∀ (B : List Vec) (u : Vec), InS (B ++ [base]) u → ∃ c, InS (B.map φ) (fun i => φ u i - c * (φ base) i) := fun B => by
      induction B with
      | nil =>
        rintro u ⟨c, hc⟩
        refine ⟨c, ?_⟩
        intro i
        have e1 := hc i
        have e2 := hc at_
        rw [hφ, hφ]
        grind
      | cons x B ih =>
        rintro u ⟨c, hc⟩
        obtain ⟨d, hd⟩ := ih _ hc
        refine ⟨d, c, ?_⟩
        have e : (fun i => φ u i - d * φ base i - c * φ x i) = fun i => φ (fun i => u i - c * x i) i - d * φ base i := by
          funext i
          rw [hφ, hφ, hφ, hφ]
          grind
        rw [e]; exact hd
    intro h
    obtain ⟨c, hc⟩ := key A v h
    have e0 : ∀ i, φ base i = 0 := fun i => by
      rw [hφ]
      have : base at_ * (base at_)⁻¹ = 1 := Rat.mul_inv_cancel _ hb
      grind
    have e : (fun i => φ v i - c * φ base i) = φ v := by
      funext i; rw [e0]; grind
    rwa [e] at hc
theorem rk_elim {base : Vec} {φ : Vec → Vec} {at_ : Nat} {a : Rat} (a0 : a ≠ 0) (hb : base at_ ≠ 0) (hφ : ∀ v, φ v = fun i => a * v i - (a * v at_ * (base at_)⁻¹) * base i) : ∀ (A : List Vec), rk (A ++ [base]) = rk (A.map φ) + 1
  | [] => by
    have : ¬ InS [] base := fun z => hb (z at_)
    rw [List.nil_append, rk_out this]; rfl
  | v :: A => by
    have ih := rk_elim a0 hb hφ A
    have e := ins_elim a0 hb hφ A v
    rw [List.cons_append, List.map_cons]
    by_cases z : InS (A ++ [base]) v
    · rw [rk_in z, rk_in (e.mpr z), ih]
    · rw [rk_out z, rk_out (fun q => z (e.mp q)), ih]
end TD

set_option Elab.async false
set_option linter.all false
set_option autoImplicit false
/-! LB: fractions as pairs of integers; rows of them taken from one another. -/
namespace TD
abbrev Q2 := Int × Int
def val (x : Q2) : Rat := (x.1 : Rat) / (x.2 : Rat)
structure Low (x : Q2) : Prop where
  pos : 0 < x.2
  cop : Int.gcd x.1 x.2 = 1
def lowestP (t b : Int) : Q2 :=
  let g : Int := if b < 0 then -(Int.gcd t b : Int) else Int.gcd t b
  (t.fdiv g, b.fdiv g)
theorem cast0 {i : Int} (h : i ≠ 0) : (i : Rat) ≠ 0 := fun e => h (by exact_mod_cast e)
theorem lowest_spec (t : Int) {b : Int} (hb : b ≠ 0) : ∃ g : Int, g ≠ 0 ∧ t = g * (lowestP t b).1 ∧ b = g * (lowestP t b).2 ∧ Low (lowestP t b) := by
  have g0 : Int.gcd t b ≠ 0 := fun e => hb (Int.eq_zero_of_gcd_eq_zero_right e)
  obtain ⟨t0, ht⟩ := Int.gcd_dvd_left (a := t) (b := b)
  obtain ⟨b0, hb0⟩ := Int.gcd_dvd_right (a := t) (b := b)
  have cop : Int.gcd t0 b0 = 1 := by
    have h1 : Int.gcd t b = Int.gcd ((Int.gcd t b : Int) * t0) ((Int.gcd t b : Int) * b0) := by rw [← ht, ← hb0]
    rw [Int.gcd_mul_left, Int.natAbs_natCast] at h1
    have h2 : Int.gcd t b * 1 = Int.gcd t b * Int.gcd t0 b0 := by rw [Nat.mul_one]; exact h1
    exact (Nat.eq_of_mul_eq_mul_left (by omega) h2).symm
  generalize hG : Int.gcd t b = G at *
  have Gp : (0 : Int) < G := by omega
  by_cases neg : b < 0
  · have bn : b0 < 0 := by
      rcases (by omega : b0 < 0 ∨ 0 ≤ b0) with z | z
      · exact z
      · have := Int.mul_nonneg (Int.le_of_lt Gp) z; omega
    have e : lowestP t b = (-t0, -b0) := by
      unfold lowestP
      simp only [hG, if_pos neg]
      have e1 : t = -(G : Int) * -t0 := by rw [Int.neg_mul_neg]; exact ht
      have e2 : b = -(G : Int) * -b0 := by rw [Int.neg_mul_neg]; exact hb0
      have c1 : t.fdiv (-(G : Int)) = -t0 := by
        rw [e1]; exact Int.mul_fdiv_cancel_left _ (by omega)
      have c2 : b.fdiv (-(G : Int)) = -b0 := by
        rw [e2]; exact Int.mul_fdiv_cancel_left _ (by omega)
      rw [c1, c2]
    refine ⟨-(G : Int), by omega, ?_, ?_, ?_⟩
    · rw [e]; show t = -(G : Int) * -t0; rw [Int.neg_mul_neg]; exact ht
    · rw [e]; show b = -(G : Int) * -b0; rw [Int.neg_mul_neg]; exact hb0
    · rw [e]; exact ⟨by show 0 < -b0; omega, by show Int.gcd (-t0) (-b0) = 1; rw [Int.neg_gcd, Int.gcd_neg]; exact cop⟩
  · have bp : 0 < b0 := by
      rcases (by omega : 0 < b0 ∨ b0 ≤ 0) with z | z
      · exact z
      · have := Int.mul_nonneg (Int.le_of_lt Gp) (show (0 : Int) ≤ -b0 by omega)
        rw [Int.mul_neg] at this; omega
    have e : lowestP t b = (t0, b0) := by
      unfold lowestP
      simp only [hG, if_neg neg]
      have c1 : t.fdiv (G : Int) = t0 := by rw [ht]; exact Int.mul_fdiv_cancel_left _ (by omega)
      have c2 : b.fdiv (G : Int) = b0 := by rw [hb0]; exact Int.mul_fdiv_cancel_left _ (by omega)
      rw [c1, c2]
    refine ⟨(G : Int), by omega, ?_, ?_, ?_⟩
    · rw [e]; exact ht
    · rw [e]; exact hb0
    · rw [e]; exact ⟨bp, cop⟩
theorem lowest_low (t : Int) {b : Int} (hb : b ≠ 0) : Low (lowestP t b) := by
  obtain ⟨_, _, _, _, h⟩ := lowest_spec t hb; exact h
theorem lowest_val (t : Int) {b : Int} (hb : b ≠ 0) : val (lowestP t b) = (t : Rat) / (b : Rat) := by
  obtain ⟨g, g0, h1, h2, l⟩ := lowest_spec t hb
  unfold val
  have e1 : (t : Rat) = (g : Rat) * ((lowestP t b).1 : Rat) := by exact_mod_cast congrArg (Int.cast (R := Rat)) h1
  have e2 : (b : Rat) = (g : Rat) * ((lowestP t b).2 : Rat) := by exact_mod_cast congrArg (Int.cast (R := Rat)) h2
  have g0' := cast0 g0
  have p0 : ((lowestP t b).2 : Rat) ≠ 0 := cast0 (by have := l.pos; omega)
  rw [e1, e2]
  generalize ((lowestP t b).1 : Rat) = x at *
  generalize ((lowestP t b).2 : Rat) = y at *
  grind
theorem lowest_le (t : Int) {b : Int} (hb : b ≠ 0) : (lowestP t b).1.natAbs ≤ t.natAbs ∧ (lowestP t b).2.natAbs ≤ b.natAbs := by
  obtain ⟨g, g0, h1, h2, l⟩ := lowest_spec t hb
  have gp : 1 ≤ g.natAbs := by omega
  constructor
  · have : t.natAbs = g.natAbs * (lowestP t b).1.natAbs := by rw [← Int.natAbs_mul, ← h1]
    rw [this]; exact Nat.le_mul_of_pos_left _ gp
  · have : b.natAbs = g.natAbs * (lowestP t b).2.natAbs := by rw [← Int.natAbs_mul, ← h2]
    rw [this]; exact Nat.le_mul_of_pos_left _ gp
def minusP (x y : Q2) : Q2 := lowestP (x.1 * y.2 - y.1 * x.2) (x.2 * y.2)
def timesP (x y : Q2) : Q2 := lowestP (x.1 * y.1) (x.2 * y.2)
def overP (x y : Q2) : Q2 := lowestP (x.1 * y.2) (x.2 * y.1)
theorem Low.ne {x : Q2} (h : Low x) : x.2 ≠ 0 := by have := h.pos; omega
theorem mul_ne {i j : Int} (h1 : i ≠ 0) (h2 : j ≠ 0) : i * j ≠ 0 := Int.mul_ne_zero h1 h2
theorem minus_low {x y : Q2} (h1 : Low x) (h2 : Low y) : Low (minusP x y) := lowest_low _ (mul_ne h1.ne h2.ne)
theorem times_low {x y : Q2} (h1 : Low x) (h2 : Low y) : Low (timesP x y) := lowest_low _ (mul_ne h1.ne h2.ne)
theorem over_low {x y : Q2} (h1 : Low x) (h2 : y.1 ≠ 0) : Low (overP x y) := lowest_low _ (mul_ne h1.ne h2)
theorem minus_val {x y : Q2} (h1 : Low x) (h2 : Low y) : val (minusP x y) = val x - val y := by
  unfold minusP
  rw [lowest_val _ (mul_ne h1.ne h2.ne)]
  unfold val
  have a := cast0 h1.ne
  have b := cast0 h2.ne
  rw [Rat.intCast_sub, Rat.intCast_mul, Rat.intCast_mul, Rat.intCast_mul]
  generalize (x.1 : Rat) = x1 at *
  generalize (x.2 : Rat) = x2 at *
  generalize (y.1 : Rat) = y1 at *
  generalize (y.2 : Rat) = y2 at *
  grind
theorem times_val {x y : Q2} (h1 : Low x) (h2 : Low y) : val (timesP x y) = val x * val y := by
  unfold timesP
  rw [lowest_val _ (mul_ne h1.ne h2.ne)]
  unfold val
  have a := cast0 h1.ne
  have b := cast0 h2.ne
  rw [Rat.intCast_mul, Rat.intCast_mul]
  generalize (x.1 : Rat) = x1 at *
  generalize (x.2 : Rat) = x2 at *
  generalize (y.1 : Rat) = y1 at *
  generalize (y.2 : Rat) = y2 at *
  grind
theorem over_val {x y : Q2} (h1 : Low x) (h2 : Low y) (h3 : y.1 ≠ 0) : val (overP x y) = val x / val y := by
  unfold overP
  rw [lowest_val _ (mul_ne h1.ne h3)]
  unfold val
  have a := cast0 h1.ne
  have b := cast0 h2.ne
  have c := cast0 h3
  rw [Rat.intCast_mul, Rat.intCast_mul]
  generalize (x.1 : Rat) = x1 at *
  generalize (x.2 : Rat) = x2 at *
  generalize (y.1 : Rat) = y1 at *
  generalize (y.2 : Rat) = y2 at *
  grind
theorem val_zero {x : Q2} (h : Low x) : val x = 0 ↔ x.1 = 0 := by
  unfold val
  have a := cast0 h.ne
  constructor
  · intro e
    have : (x.1 : Rat) = 0 := by
      generalize (x.1 : Rat) = x1 at *
      generalize (x.2 : Rat) = x2 at *
      grind
    exact_mod_cast this
  · intro e; rw [e]
    show ((0 : Int) : Rat) / _ = 0
    rw [Rat.intCast_zero]; grind
end TD

set_option Elab.async false
set_option linter.all false
set_option autoImplicit false
/-! LC: rows of fractions: bounds; one row taken from the others; the stairs. -/
namespace TD
abbrev Row := List Q2
def ent (r : Row) (c : Nat) : Q2 := (r[c]?).getD (0, 1)
def vec (r : Row) : Vec := fun i => val (ent r i)
theorem low01 : Low (0, 1) := ⟨by decide, by decide⟩
theorem val01 : val (0, 1) = 0 := (val_zero low01).mpr rfl
def withoutP (row base : Row) (c : Nat) : Row := if (ent row c).1 = 0 then row else (row.zip base).map fun p => minusP p.1 (timesP (ent row c) p.2)
def scaledP (row : Row) (c : Nat) : Row := row.map fun x => overP x (ent row c)
/-- every number is told by integers below B over one of them -/
def Bd (B : Nat) (r : Row) : Prop := ∃ d : Int, 0 < d ∧ d ≤ B ∧ ∀ x ∈ r, Low x ∧ ∃ n : Int, n.natAbs ≤ B ∧ val x * (d : Rat) = (n : Rat)
theorem Bd.low {B : Nat} {r : Row} (h : Bd B r) : ∀ x ∈ r, Low x := fun x hx => by
  obtain ⟨d, _, _, h⟩ := h; exact (h x hx).1
theorem ent_mem {r : Row} {c : Nat} (h : c < r.length) : ent r c ∈ r := by
  unfold ent; rw [List.getElem?_eq_getElem h]; exact List.getElem_mem h
theorem ent_out {r : Row} {c : Nat} (h : r.length ≤ c) : ent r c = (0, 1) := by
  unfold ent; rw [List.getElem?_eq_none h]; rfl
theorem Bd.ent {B : Nat} {r : Row} (h : Bd B r) (c : Nat) : Low (ent r c) := by
  by_cases z : c < r.length
  · exact h.low _ (ent_mem z)
  · rw [ent_out (by omega)]; exact low01
theorem Bd.mono {A B : Nat} {r : Row} (h : Bd A r) (l : A ≤ B) : Bd B r := by
  obtain ⟨d, d0, d1, h⟩ := h
  exact ⟨d, d0, by omega, fun x hx => ⟨(h x hx).1, by obtain ⟨n, n1, n2⟩ := (h x hx).2; exact ⟨n, by omega, n2⟩⟩⟩
/-- what is in the row is no greater -/
theorem Bd.le {B : Nat} {r : Row} (h : Bd B r) : ∀ x ∈ r, x.1.natAbs ≤ B ∧ x.2.natAbs ≤ B := fun x hx => by
  obtain ⟨d, d0, d1, h⟩ := h
  obtain ⟨lx, n, n1, n2⟩ := h x hx
  have key : x.1 * d = n * x.2 := by
    have a := cast0 lx.ne
    have : (x.1 : Rat) * (d : Rat) = (n : Rat) * (x.2 : Rat) := by
      unfold val at n2
      generalize (x.1 : Rat) = x1 at *
      generalize (x.2 : Rat) = x2 at *
      generalize (d : Rat) = d' at *
      grind
    rw [← Rat.intCast_mul, ← Rat.intCast_mul] at this
    exact_mod_cast this
  have dv : x.2 ∣ d := by
    have : x.2 ∣ x.1 * d := ⟨n, by rw [key, Int.mul_comm]⟩
    have h1 : x.2.natAbs ∣ x.1.natAbs * d.natAbs := by rw [← Int.natAbs_mul]; exact Int.natAbs_dvd_natAbs.mpr this
    have h2 : Nat.Coprime x.2.natAbs x.1.natAbs := by
      have := lx.cop
      unfold Int.gcd at this
      rw [Nat.Coprime, Nat.gcd_comm]; exact this
    exact Int.natAbs_dvd_natAbs.mp (h2.dvd_of_dvd_mul_left h1)
  obtain ⟨e, he⟩ := dv
  have p := lx.pos
  have ep : 0 < e := by
    rcases (by omega : 0 < e ∨ e ≤ 0) with z | z
    · exact z
    · have := Int.mul_nonneg (Int.le_of_lt p) (show (0 : Int) ≤ -e by omega)
      rw [Int.mul_neg, ← he] at this; omega
  have n3 : n = x.1 * e := by
    have : x.2 * n = x.2 * (x.1 * e) := by
      rw [Int.mul_comm x.2 n, ← key, he]
      rw [← Int.mul_assoc, Int.mul_comm x.1 x.2, Int.mul_assoc]
    exact Int.eq_of_mul_eq_mul_left (by omega) this
  constructor
  · have : n.natAbs = x.1.natAbs * e.natAbs := by rw [n3, Int.natAbs_mul]
    have : x.1.natAbs ≤ x.1.natAbs * e.natAbs := Nat.le_mul_of_pos_right _ (by omega)
    omega
  · have : d.natAbs = x.2.natAbs * e.natAbs := by rw [he, Int.natAbs_mul]
    have : x.2.natAbs ≤ x.2.natAbs * e.natAbs := Nat.le_mul_of_pos_right _ (by omega)
    omega
theorem Bd.le_ent {B : Nat} {r : Row} (h : Bd B r) (hB : 1 ≤ B) (c : Nat) : (TD.ent r c).1.natAbs ≤ B ∧ (TD.ent r c).2.natAbs ≤ B := by
  by_cases z : c < r.length
  · exact h.le _ (ent_mem z)
  · rw [ent_out (by omega)]; exact ⟨by simp, by simpa using hB⟩
theorem scaled_bd {B : Nat} {r : Row} (h : Bd B r) {c : Nat} (hc : c < r.length) (h0 : (ent r c).1 ≠ 0) : Bd B (scaledP r c) := by
  have low := h.low
  obtain ⟨d, d0, d1, h⟩ := h
  obtain ⟨lc, m, m1, m2⟩ := h _ (ent_mem hc)
  have dne := cast0 (show d ≠ 0 by omega)
  have m0 : m ≠ 0 := by
    rintro rfl
    have : val (ent r c) = 0 := by
      have : val (ent r c) * (d : Rat) = 0 := by rw [m2]; rfl
      grind
    exact h0 ((val_zero lc).mp this)
  have vc : val (ent r c) ≠ 0 := fun e => h0 ((val_zero lc).mp e)
  have mne := cast0 m0
  refine ⟨m.natAbs, by omega, by exact_mod_cast m1, fun x hx => ?_⟩
  obtain ⟨y, hy, rfl⟩ := List.mem_map.mp hx
  obtain ⟨ly, n, n1, n2⟩ := h y hy
  refine ⟨over_low ly h0, if 0 < m then n else -n, by split <;> omega, ?_⟩
  rw [over_val ly lc h0]
  by_cases s : 0 < m
  · rw [if_pos s]
    have : ((m.natAbs : Int) : Rat) = (m : Rat) := by congr 1; omega
    rw [this]
    generalize val y = vy at *
    generalize val (ent r c) = v at *
    generalize (m : Rat) = m' at *
    generalize (n : Rat) = n' at *
    generalize (d : Rat) = d' at *
    grind
  · rw [if_neg s]
    have : ((m.natAbs : Int) : Rat) = -(m : Rat) := by rw [← Rat.intCast_neg]; congr 1; omega
    rw [this, Rat.intCast_neg]
    generalize val y = vy at *
    generalize val (ent r c) = v at *
    generalize (m : Rat) = m' at *
    generalize (n : Rat) = n' at *
    generalize (d : Rat) = d' at *
    grind
theorem without_bd {A B : Nat} {r base : Row} (hr : Bd A r) (hb : Bd B base) (hA : 1 ≤ A) (hB : 1 ≤ B) (c : Nat) : Bd (2 * (A * B)) (withoutP r base c) := by
  have ec := hr.ent c
  unfold withoutP
  by_cases z : (ent r c).1 = 0
  · rw [if_pos z]
    refine hr.mono ?_
    have : A * 1 ≤ A * B := Nat.mul_le_mul_left _ hB
    omega
  · rw [if_neg z]
    have hcl : c < r.length := by
      rcases (by omega : c < r.length ∨ r.length ≤ c) with q | q
      · exact q
      · exact absurd (by rw [ent_out q]) z
    obtain ⟨d, d0, d1, h⟩ := hr
    obtain ⟨e, e0, e1, g⟩ := hb
    obtain ⟨lc, m, m1, m2⟩ := h _ (ent_mem hcl)
    refine ⟨d * e, Int.mul_pos d0 e0, ?_, fun x hx => ?_⟩
    · have : d * e ≤ (A : Int) * (B : Int) := Int.mul_le_mul d1 e1 (Int.le_of_lt e0) (by omega)
      have h2 : ((2 * (A * B) : Nat) : Int) = 2 * ((A : Int) * (B : Int)) := by simp
      rw [h2]
      have : (0 : Int) ≤ (A : Int) * (B : Int) := Int.mul_nonneg (by omega) (by omega)
      omega
    · obtain ⟨p, hp, rfl⟩ := List.mem_map.mp hx
      obtain ⟨p1, p2⟩ := List.of_mem_zip hp
      obtain ⟨l1, n, n1, n2⟩ := h _ p1
      obtain ⟨l2, k, k1, k2⟩ := g _ p2
      refine ⟨minus_low l1 (times_low ec l2), n * e - m * k, ?_, ?_⟩
      · have a1 : (n * e).natAbs ≤ A * B := by rw [Int.natAbs_mul]; exact Nat.mul_le_mul n1 (by omega)
        have a2 : (m * k).natAbs ≤ A * B := by rw [Int.natAbs_mul]; exact Nat.mul_le_mul m1 k1
        omega
      · rw [minus_val l1 (times_low ec l2), times_val ec l2, Rat.intCast_sub, Rat.intCast_mul, Rat.intCast_mul, Rat.intCast_mul]
        generalize val p.1 = v1 at *
        generalize val p.2 = v2 at *
        generalize val (ent r c) = v at *
        generalize (m : Rat) = m' at *
        generalize (n : Rat) = n' at *
        generalize (k : Rat) = k' at *
        generalize (d : Rat) = d' at *
        generalize (e : Rat) = e' at *
        grind
theorem scaled_len (r : Row) (c : Nat) : (scaledP r c).length = r.length := by simp [scaledP]
theorem without_len {r base : Row} (h : base.length = r.length) (c : Nat) : (withoutP r base c).length = r.length := by
  unfold withoutP; split
  · rfl
  · simp [h]
theorem scaled_vec {B : Nat} {r : Row} (h : Bd B r) {c : Nat} (h0 : (ent r c).1 ≠ 0) (i : Nat) : vec (scaledP r c) i = vec r i / vec r c := by
  unfold vec
  by_cases hi : i < r.length
  · have e : ent (scaledP r c) i = overP (ent r i) (ent r c) := by
      unfold ent scaledP
      rw [List.getElem?_map, List.getElem?_eq_getElem hi]; rfl
    rw [e, over_val (h.ent i) (h.ent c) h0]
  · rw [ent_out (by rw [scaled_len]; omega), ent_out (r := r) (by omega), val01]
    generalize val (ent r c) = v
    grind
theorem without_vec {A B : Nat} {r base : Row} (hr : Bd A r) (hb : Bd B base) (hl : base.length = r.length) (c i : Nat) : vec (withoutP r base c) i = vec r i - vec r c * vec base i := by
  unfold vec
  by_cases z : (ent r c).1 = 0
  · have e : withoutP r base c = r := by unfold withoutP; rw [if_pos z]
    rw [e, (val_zero (hr.ent c)).mpr z]; grind
  · by_cases hi : i < r.length
    · have e : ent (withoutP r base c) i = minusP (ent r i) (timesP (ent r c) (ent base i)) := by
        unfold withoutP
        rw [if_neg z]
        have hz : (r.zip base)[i]? = some (r[i], base[i]'(by omega)) := by
          rw [List.getElem?_zip_eq_some]
          exact ⟨List.getElem?_eq_getElem hi, List.getElem?_eq_getElem (by omega)⟩
        have e1 : ent r i = r[i] := by unfold ent; rw [List.getElem?_eq_getElem hi]; rfl
        have e2 : ent base i = base[i]'(by omega) := by unfold ent; rw [List.getElem?_eq_getElem (by omega : i < base.length)]; rfl
        rw [e1, e2]
        show (((List.map _ (r.zip base))[i]?).getD (0, 1)) = _
        rw [List.getElem?_map, hz]; rfl
      rw [e, minus_val (hr.ent i) (times_low (hr.ent c) (hb.ent i)), times_val (hr.ent c) (hb.ent i)]
    · rw [ent_out (by rw [without_len hl]; omega), ent_out (r := r) (by omega), ent_out (r := base) (by omega), val01]; grind
end TD

set_option Elab.async false
set_option linter.all false
set_option autoImplicit false
/-! LD: the stairs of rows: what they keep; a row made of others. -/
namespace TD
abbrev Fnd := List (Nat × Row)
def nz (c : Nat) (r : Row) : Bool := decide ((ent r c).1 ≠ 0)
def rowK (l : List Row) (k : Nat) : Row := (l[k]?).getD []
def colStep (s : List Row × Fnd) (c : Nat) : List Row × Fnd := match s.1.findIdx? (nz c) with
  | none => s
  | some k => ((s.1.eraseIdx k).map (fun r => withoutP r (scaledP (rowK s.1 k) c) c), s.2.map (fun p => (p.1, withoutP p.2 (scaledP (rowK s.1 k) c) c)) ++ [(c, scaledP (rowK s.1 k) c)])
def stairsS (rows : List Row) (w : Nat) : List Row × Fnd := (List.range w).foldl colStep (rows, [])
structure St (N : Nat) (rows : List Vec) (s : List Row × Fnd) (c B : Nat) : Prop where
  len : ∀ r ∈ s.1, r.length = N
  lenF : ∀ p ∈ s.2, p.2.length = N
  bd : ∀ r ∈ s.1, Bd B r
  bdF : ∀ p ∈ s.2, Bd B p.2
  zero : ∀ r ∈ s.1, ∀ i, i < c → vec r i = 0
  piv : ∀ p ∈ s.2, p.1 < c ∧ vec p.2 p.1 = 1
  ech : s.2.Pairwise fun p q => p.1 < q.1 ∧ vec q.2 p.1 = 0
  span : ∀ w, InS (s.1.map vec ++ s.2.map fun p => vec p.2) w ↔ InS rows w
  rank : rk rows = rk (s.1.map vec) + s.2.length
  few : s.2.length ≤ c
theorem vec_zero {B : Nat} {r : Row} (h : Bd B r) (c : Nat) : vec r c = 0 ↔ (ent r c).1 = 0 := val_zero (h.ent c)
theorem perm_erase {α : Type} (l : List α) (k : Nat) (h : k < l.length) : List.Perm l (l[k] :: l.eraseIdx k) := by
  rw [List.eraseIdx_eq_take_drop_succ]
  have e : l = l.take k ++ l[k] :: l.drop (k + 1) := by
    rw [← List.drop_eq_getElem_cons h, List.take_append_drop]
  have p : List.Perm (l.take k ++ l[k] :: l.drop (k + 1)) (l[k] :: (l.take k ++ l.drop (k + 1))) := List.perm_middle
  rwa [← e] at p
theorem colStep_ok {N : Nat} {rows : List Vec} {s : List Row × Fnd} {c B : Nat} (h : St N rows s c B) (hc : c < N) (hB : 1 ≤ B) : St N rows (colStep s c) (c + 1) (2 * (B * B)) := by
  have hBB : B ≤ 2 * (B * B) := by
    have : B * 1 ≤ B * B := Nat.mul_le_mul_left _ hB
    omega
  unfold colStep
  split
  · rename_i hf
    have hn := List.findIdx?_eq_none_iff.mp hf
    refine ⟨h.len, h.lenF, fun r hr => (h.bd r hr).mono hBB, fun p hp => (h.bdF p hp).mono hBB, fun r hr i hi => ?_, fun p hp => ⟨by have := (h.piv p hp).1; omega, (h.piv p hp).2⟩, h.ech, h.span, h.rank, by have := h.few; omega⟩
    rcases (by omega : i < c ∨ i = c) with z | rfl
    · exact h.zero r hr i z
    · have := hn r hr
      unfold nz at this
      rw [vec_zero (h.bd r hr)]
      simpa using this
  · rename_i k hk
    obtain ⟨hkl, hkn, _⟩ := List.findIdx?_eq_some_iff_getElem.mp hk
    have e0 : rowK s.1 k = s.1[k] := by unfold rowK; rw [List.getElem?_eq_getElem hkl]; rfl
    rw [e0]
    have hr0 : s.1[k] ∈ s.1 := List.getElem_mem hkl
    generalize hR : s.1[k] = r0 at *
    have p0 : (ent r0 c).1 ≠ 0 := by unfold nz at hkn; simpa using hkn
    have b0 := h.bd r0 hr0
    have l0 := h.len r0 hr0
    have bb := scaled_bd b0 (by omega) p0
    have lb : (scaledP r0 c).length = N := by rw [scaled_len]; exact l0
    have v0 : vec r0 c ≠ 0 := fun e => p0 ((vec_zero b0 c).mp e)
    have vb : ∀ i, vec (scaledP r0 c) i = vec r0 i / vec r0 c := scaled_vec b0 p0
    have vbc : vec (scaledP r0 c) c = 1 := by rw [vb]; grind
    have vbz : ∀ i, i < c → vec (scaledP r0 c) i = 0 := fun i hi => by rw [vb, h.zero r0 hr0 i hi]; grind
    have pm : List.Perm s.1 (r0 :: s.1.eraseIdx k) := by
      have := perm_erase s.1 k hkl
      rwa [hR] at this
    have sub : ∀ r ∈ s.1.eraseIdx k, r ∈ s.1 := fun r hr => List.mem_of_mem_eraseIdx hr
    generalize hbs : scaledP r0 c = base at *
    have wv : ∀ r, Bd B r → r.length = N → ∀ i, vec (withoutP r base c) i = vec r i - vec r c * vec base i := fun r hr hl i => without_vec hr bb (by omega) c i
    -- the map
    have vφ : ∀ r, Bd B r → r.length = N → vec (withoutP r base c) = (fun (v : Vec) => fun i => (1 : Rat) * v i - (1 * v c * (vec base c)⁻¹) * vec base i) (vec r) := fun r hr hl => by
      funext i
      rw [wv r hr hl i, vbc]
      have : (1 : Rat)⁻¹ = 1 := by grind
      rw [this]; grind
    refine ⟨fun r hr => ?_, fun p hp => ?_, fun r hr => ?_, fun p hp => ?_, fun r hr i hi => ?_, fun p hp => ?_, ?_, fun w => ?_, ?_, ?_⟩
    · obtain ⟨r1, hr1, rfl⟩ := List.mem_map.mp hr
      have := h.len r1 (sub r1 hr1)
      rw [without_len (by omega)]; exact this
    · rcases List.mem_append.mp hp with z | z
      · obtain ⟨q, hq, rfl⟩ := List.mem_map.mp z
        have := h.lenF q hq
        show (withoutP q.2 base c).length = N
        rw [without_len (by omega)]; exact this
      · simp at z; subst z; exact lb
    · obtain ⟨r1, hr1, rfl⟩ := List.mem_map.mp hr
      exact without_bd (h.bd r1 (sub r1 hr1)) bb hB hB c
    · rcases List.mem_append.mp hp with z | z
      · obtain ⟨q, hq, rfl⟩ := List.mem_map.mp z
        exact without_bd (h.bdF q hq) bb hB hB c
      · simp at z; subst z; exact bb.mono hBB
    · obtain ⟨r1, hr1, rfl⟩ := List.mem_map.mp hr
      have hm := sub r1 hr1
      rw [wv r1 (h.bd r1 hm) (h.len r1 hm)]
      rcases (by omega : i < c ∨ i = c) with z | rfl
      · rw [h.zero r1 hm i z, vbz i z]; grind
      · rw [vbc]; grind
    · rcases List.mem_append.mp hp with z | z
      · obtain ⟨q, hq, rfl⟩ := List.mem_map.mp z
        have pq := h.piv q hq
        refine ⟨by show q.1 < c + 1; omega, ?_⟩
        show vec (withoutP q.2 base c) q.1 = 1
        rw [wv q.2 (h.bdF q hq) (h.lenF q hq), vbz q.1 pq.1, pq.2]; grind
      · simp at z; subst z; exact ⟨by show c < c + 1; omega, vbc⟩
    · show List.Pairwise _ (_ ++ [_])
      rw [List.pairwise_append]
      refine ⟨?_, by simp, fun a ha b hb => ?_⟩
      · rw [List.pairwise_map]
        refine List.Pairwise.imp_of_mem (fun {a b} ha hb q => ?_) h.ech
        refine ⟨q.1, ?_⟩
        show vec (withoutP b.2 base c) a.1 = 0
        rw [wv b.2 (h.bdF b hb) (h.lenF b hb), q.2, vbz a.1 (h.piv a ha).1]; grind
      · obtain ⟨q, hq, rfl⟩ := List.mem_map.mp ha
        simp at hb; subst hb
        have pq := h.piv q hq
        exact ⟨pq.1, vbz q.1 pq.1⟩
    · -- the same is made
      rw [← h.span w]
      have hbase : ∀ A : List Vec, vec r0 ∈ A → InS A (vec base) := fun A hA => by
        have := ins_lin (vec r0 c)⁻¹ 0 (ins_mem hA) (ins_zero A)
        have e : (fun i => (vec r0 c)⁻¹ * vec r0 i + 0 * 0) = vec base := by
          funext i; rw [vb]; grind
        rwa [e] at this
      have hwo : ∀ A : List Vec, ∀ r, Bd B r → r.length = N → InS A (vec base) → InS A (vec r) → InS A (vec (withoutP r base c)) := fun A r hr hl hb hi => by
        have := ins_lin 1 (-(vec r c)) hi hb
        have e : (fun i => 1 * vec r i + -(vec r c) * vec base i) = vec (withoutP r base c) := by
          funext i; rw [wv r hr hl]; grind
        rwa [e] at this
      have hback : ∀ A : List Vec, ∀ r, Bd B r → r.length = N → InS A (vec base) → InS A (vec (withoutP r base c)) → InS A (vec r) := fun A r hr hl hb hi => by
        have := ins_lin 1 (vec r c) hi hb
        have e : (fun i => 1 * vec (withoutP r base c) i + vec r c * vec base i) = vec r := by
          funext i; rw [wv r hr hl]; grind
        rwa [e] at this
      refine ins_congr (fun v hv => ?_) (fun v hv => ?_) w
      · have inb := hbase (s.1.map vec ++ s.2.map fun p => vec p.2) (List.mem_append_left _ (List.mem_map_of_mem hr0))
        rcases List.mem_append.mp hv with z | z
        · obtain ⟨r, hr, rfl⟩ := List.mem_map.mp z
          obtain ⟨r1, hr1, rfl⟩ := List.mem_map.mp hr
          have hm := sub r1 hr1
          exact hwo _ r1 (h.bd r1 hm) (h.len r1 hm) inb (ins_mem (List.mem_append_left _ (List.mem_map_of_mem hm)))
        · obtain ⟨p, hp, rfl⟩ := List.mem_map.mp z
          rcases List.mem_append.mp hp with y | y
          · obtain ⟨q, hq, rfl⟩ := List.mem_map.mp y
            exact hwo _ q.2 (h.bdF q hq) (h.lenF q hq) inb (ins_mem (List.mem_append_right _ (List.mem_map_of_mem (f := fun p : Nat × Row => vec p.2) hq)))
          · simp at y; subst y; exact inb
      · have inb : InS (((s.1.eraseIdx k).map fun r => withoutP r base c).map vec ++ (s.2.map (fun p => (p.1, withoutP p.2 base c)) ++ [(c, base)]).map fun p => vec p.2) (vec base) := ins_mem (by simp)
        rcases List.mem_append.mp hv with z | z
        · obtain ⟨r, hr, rfl⟩ := List.mem_map.mp z
          rcases List.mem_cons.mp (pm.mem_iff.mp hr) with rfl | hr1
          · have := ins_lin (vec r c) 0 inb (ins_zero _)
            have e : (fun i => vec r c * vec base i + 0 * 0) = vec r := by
              funext i; rw [vb]; grind
            rwa [e] at this
          · exact hback _ r (h.bd r hr) (h.len r hr) inb (ins_mem (List.mem_append_left _ (List.mem_map_of_mem (List.mem_map_of_mem (f := fun r => withoutP r base c) hr1))))
        · obtain ⟨q, hq, rfl⟩ := List.mem_map.mp z
          refine hback _ q.2 (h.bdF q hq) (h.lenF q hq) inb (ins_mem (List.mem_append_right _ ?_))
          rw [List.map_append]
          refine List.mem_append_left _ ?_
          exact List.mem_map_of_mem (f := fun p : Nat × Row => vec p.2) (List.mem_map_of_mem (f := fun p : Nat × Row => (p.1, withoutP p.2 base c)) hq)
    · have e1 : rk (s.1.map vec) = rk ((s.1.eraseIdx k).map vec ++ [vec r0]) := by
        rw [rk_perm (pm.map vec)]
        exact rk_perm (by rw [List.map_cons]; exact (List.perm_append_comm (l₁ := [vec r0])))
      have e2 : rk ((s.1.eraseIdx k).map vec ++ [vec r0]) = rk ((s.1.eraseIdx k).map vec ++ [vec base]) := by
        refine rk_congr (fun v hv => ?_) (fun v hv => ?_)
        · rcases List.mem_append.mp hv with z | z
          · exact ins_mem (List.mem_append_left _ z)
          · simp at z; subst z
            have := ins_lin (A := (s.1.eraseIdx k).map vec ++ [vec base]) (vec r0 c) 0 (ins_mem (by simp : vec base ∈ _)) (ins_zero _)
            have e : (fun i => vec r0 c * vec base i + 0 * 0) = vec r0 := by
              funext i; rw [vb]; grind
            rwa [e] at this
        · rcases List.mem_append.mp hv with z | z
          · exact ins_mem (List.mem_append_left _ z)
          · simp at z; subst z
            have := ins_lin (A := (s.1.eraseIdx k).map vec ++ [vec r0]) (vec r0 c)⁻¹ 0 (ins_mem (by simp : vec r0 ∈ _)) (ins_zero _)
            have e : (fun i => (vec r0 c)⁻¹ * vec r0 i + 0 * 0) = vec base := by
              funext i; rw [vb]; grind
            rwa [e] at this
      have e3 := rk_elim (base := vec base) (φ := fun (v : Vec) => fun i => (1 : Rat) * v i - (1 * v c * (vec base c)⁻¹) * vec base i) (at_ := c) (a := 1) (by grind) (by rw [vbc]; grind) (fun v => rfl) ((s.1.eraseIdx k).map vec)
      have e4 : ((s.1.eraseIdx k).map vec).map (fun (v : Vec) => fun i => (1 : Rat) * v i - (1 * v c * (vec base c)⁻¹) * vec base i) = ((s.1.eraseIdx k).map fun r => withoutP r base c).map vec := by
        rw [List.map_map, List.map_map]
        refine List.map_congr_left fun r hr => ?_
        exact (vφ r (h.bd r (sub r hr)) (h.len r (sub r hr))).symm
      rw [e4] at e3
      rw [h.rank, e1, e2, e3]
      simp; omega
    · have := h.few
      simp; omega
end TD

set_option Elab.async false
set_option linter.all false
set_option autoImplicit false
/-! LE: the stairs' end: the rank; a row made of others. -/
namespace TD
def bk : Nat → Nat
  | 0 => 1
  | k + 1 => 2 * (bk k * bk k)
theorem bk_pos : ∀ k, 1 ≤ bk k
  | 0 => Nat.le_refl _
  | k + 1 => by
    have := bk_pos k
    have : 1 * 1 ≤ bk k * bk k := Nat.mul_le_mul this this
    unfold bk; omega
theorem bk_succ (k : Nat) : bk k ≤ bk (k + 1) := by
  have h := bk_pos k
  have : bk k * 1 ≤ bk k * bk k := Nat.mul_le_mul_left _ h
  show bk k ≤ 2 * (bk k * bk k)
  omega
theorem bk_mono {a b : Nat} (h : a ≤ b) : bk a ≤ bk b := by
  induction h with
  | refl => exact Nat.le_refl _
  | step _ ih => exact Nat.le_trans ih (bk_succ _)
theorem stairs_ok {N : Nat} {rows : List Row} (hl : ∀ r ∈ rows, r.length = N) (hb : ∀ r ∈ rows, Bd 1 r) : ∀ w, w ≤ N → St N (rows.map vec) (stairsS rows w) w (bk w)
  | 0, _ => by
    unfold stairsS
    refine ⟨hl, by simp, hb, by simp, fun r hr i hi => absurd hi (Nat.not_lt_zero _), by simp, by simp, fun w => by simp, by simp, by simp⟩
  | w + 1, h => by
    have ih := stairs_ok hl hb w (by omega)
    have e : stairsS rows (w + 1) = colStep (stairsS rows w) w := by
      unfold stairsS
      rw [List.range_succ, List.foldl_append]; rfl
    rw [e]
    exact colStep_ok ih (by omega) (bk_pos w)
theorem rk_zero : ∀ {A : List Vec}, (∀ v ∈ A, ∀ i, v i = 0) → rk A = 0
  | [], _ => rfl
  | v :: A, h => by
    have e : v = fun _ => 0 := funext fun i => h v List.mem_cons_self i
    rw [rk_in (by rw [e]; exact ins_zero A)]
    exact rk_zero fun u hu => h u (List.mem_cons_of_mem _ hu)
theorem vec_out {r : Row} {i : Nat} (h : r.length ≤ i) : vec r i = 0 := by
  unfold vec; rw [ent_out h]; exact val01
theorem St.rk_eq {N B : Nat} {rows : List Vec} {s : List Row × Fnd} (h : St N rows s N B) : rk rows = s.2.length := by
  rw [h.rank, rk_zero (A := s.1.map vec), Nat.zero_add]
  intro v hv i
  obtain ⟨r, hr, rfl⟩ := List.mem_map.mp hv
  by_cases z : i < N
  · exact h.zero r hr i z
  · exact vec_out (by rw [h.len r hr]; omega)
/-! ### a row less what the stairs make of it -/
def hereS (F : Fnd) (t : Row) : Row := F.foldl (fun h p => withoutP h p.2 p.1) t
theorem ins_van {A : List Vec} {c : Nat} (h : ∀ v ∈ A, v c = 0) : ∀ {w : Vec}, InS A w → w c = 0 := by
  induction A with
  | nil => intro w hw; exact hw c
  | cons v A ih =>
    rintro w ⟨a, hw⟩
    have h1 := ih (fun u hu => h u (List.mem_cons_of_mem _ hu)) hw
    have h2 := h v List.mem_cons_self
    have h1 : w c - a * v c = 0 := h1
    grind
theorem here_ok {N B : Nat} (hB : 1 ≤ B) : ∀ {F : Fnd} {t : Row} {H : Nat}, 1 ≤ H → t.length = N → Bd H t → (∀ p ∈ F, p.2.length = N ∧ Bd B p.2) →
    (hereS F t).length = N ∧ Bd (H * (2 * B) ^ F.length) (hereS F t) ∧ ∃ e : Vec, InS (F.map fun p => vec p.2) e ∧ ∀ i, vec (hereS F t) i = vec t i - e i
  | [], t, H, hH, hl, hb, _ => ⟨hl, by simpa [hereS] using hb, fun _ => 0, ins_zero _, fun i => by show vec t i = _; grind⟩
  | p :: F, t, H, hH, hl, hb, hF => by
    obtain ⟨l1, b1⟩ := hF p List.mem_cons_self
    have wl := without_len (r := t) (base := p.2) (by omega) p.1
    have wb := without_bd hb b1 hH hB p.1
    have wv := without_vec hb b1 (by omega) p.1
    have hH' : 1 ≤ 2 * (H * B) := by
      have : 1 * 1 ≤ H * B := Nat.mul_le_mul hH hB
      omega
    obtain ⟨i1, i2, e, i3, i4⟩ := here_ok hB (F := F) (t := withoutP t p.2 p.1) hH' (by omega) wb fun q hq => hF q (List.mem_cons_of_mem _ hq)
    refine ⟨i1, ?_, fun i => e i + vec t p.1 * vec p.2 i, ⟨vec t p.1, ?_⟩, fun i => ?_⟩
    · have : H * (2 * B) ^ (p :: F).length = 2 * (H * B) * (2 * B) ^ F.length := by
        rw [List.length_cons, Nat.pow_succ]
        rw [← Nat.mul_assoc, Nat.mul_comm (H * (2 * B) ^ F.length), ← Nat.mul_assoc]
        congr 1
        rw [Nat.mul_comm (2 * B) H, ← Nat.mul_assoc, Nat.mul_comm H 2, Nat.mul_assoc]
      rw [this]; exact i2
    · have : (fun i => e i + vec t p.1 * vec p.2 i - vec t p.1 * vec p.2 i) = e := by funext i; grind
      rw [this]; exact i3
    · show vec (hereS F (withoutP t p.2 p.1)) i = _
      rw [i4, wv]; grind
theorem here_piv {N B : Nat} (hB : 1 ≤ B) : ∀ {F : Fnd} {t : Row} {H : Nat}, 1 ≤ H → t.length = N → Bd H t → (∀ p ∈ F, p.2.length = N ∧ Bd B p.2) → (∀ p ∈ F, vec p.2 p.1 = 1) → F.Pairwise (fun p q => p.1 < q.1 ∧ vec q.2 p.1 = 0) → ∀ p ∈ F, vec (hereS F t) p.1 = 0
  | [], t, H, _, _, _, _, _, _, p, hp => by simp at hp
  | p :: F, t, H, hH, hl, hb, hF, hp1, he, q, hq => by
    obtain ⟨l1, b1⟩ := hF p List.mem_cons_self
    have wl := without_len (r := t) (base := p.2) (by omega) p.1
    have wb := without_bd hb b1 hH hB p.1
    have wv := without_vec hb b1 (by omega) p.1
    have hH' : 1 ≤ 2 * (H * B) := by
      have : 1 * 1 ≤ H * B := Nat.mul_le_mul hH hB
      omega
    have hF' : ∀ q ∈ F, q.2.length = N ∧ Bd B q.2 := fun q hq => hF q (List.mem_cons_of_mem _ hq)
    obtain ⟨he1, he2⟩ := List.pairwise_cons.mp he
    show vec (hereS F (withoutP t p.2 p.1)) q.1 = 0
    rcases List.mem_cons.mp hq with rfl | hq
    · obtain ⟨_, _, e, i3, i4⟩ := here_ok hB (F := F) (t := withoutP t q.2 q.1) hH' (by omega) wb hF'
      have z := ins_van (c := q.1) (fun v hv => by
        obtain ⟨x, hx, rfl⟩ := List.mem_map.mp hv
        exact (he1 x hx).2) i3
      rw [i4, z, wv, hp1 q List.mem_cons_self]; grind
    · exact here_piv hB hH' (by omega) wb hF' (fun x hx => hp1 x (List.mem_cons_of_mem _ hx)) he2 q hq
/-- what is made of rows in stairs, and nothing at the first places, is nothing -/
theorem ech_zero : ∀ {E : List (Nat × Vec)}, (∀ p ∈ E, p.2 p.1 = 1) → E.Pairwise (fun p q => q.2 p.1 = 0) → ∀ {u : Vec}, InS (E.map fun p => p.2) u → (∀ p ∈ E, u p.1 = 0) → ∀ i, u i = 0
  | [], _, _, u, h, _, i => h i
  | p :: E, h1, h2, u, ⟨a, h⟩, h3, i => by
    obtain ⟨q1, q2⟩ := List.pairwise_cons.mp h2
    have z := ins_van (c := p.1) (fun v hv => by
      obtain ⟨x, hx, rfl⟩ := List.mem_map.mp hv
      exact q1 x hx) h
    have p1 := h1 p List.mem_cons_self
    have u1 := h3 p List.mem_cons_self
    have z : u p.1 - a * p.2 p.1 = 0 := z
    have a0 : a = 0 := by grind
    subst a0
    have e : (fun i => u i - 0 * p.2 i) = u := by funext i; grind
    rw [e] at h
    exact ech_zero (fun x hx => h1 x (List.mem_cons_of_mem _ hx)) q2 h (fun x hx => h3 x (List.mem_cons_of_mem _ hx)) i
/-! ### the first places alone -/
def pr (w : Nat) (v : Vec) : Vec := fun i => if i < w then v i else 0
theorem ins_pr {w : Nat} {A : List Vec} : ∀ {u : Vec}, InS A u → InS (A.map (pr w)) (pr w u) := by
  induction A with
  | nil => intro u h i; unfold pr; split; exact h i; rfl
  | cons v A ih =>
    rintro u ⟨c, h⟩
    refine ⟨c, ?_⟩
    have := ih h
    have e : pr w (fun i => u i - c * v i) = fun i => pr w u i - c * pr w v i := by
      funext i; unfold pr; split <;> grind
    rwa [e] at this
theorem ins_lift {w : Nat} {A : List Vec} : ∀ {t : Vec}, InS (A.map (pr w)) t → ∃ u, InS A u ∧ pr w u = t := by
  induction A with
  | nil =>
    intro t h
    exact ⟨fun _ => 0, ins_zero _, by funext i; unfold pr; rw [h i]; split <;> rfl⟩
  | cons v A ih =>
    rintro t ⟨c, h⟩
    obtain ⟨u, hu, e⟩ := ih h
    refine ⟨fun i => u i + c * v i, ⟨c, ?_⟩, ?_⟩
    · have : (fun i => u i + c * v i - c * v i) = u := by funext i; grind
      rw [this]; exact hu
    · funext i
      have := congrFun e i
      unfold pr at this ⊢
      split at this
      · rename_i hi; rw [if_pos hi] at *; grind
      · rename_i hi; rw [if_neg hi] at *; grind
def markedP (rows : List Row) : List Row := rows.mapIdx fun at_ row => row ++ (List.range rows.length).map fun place => ((if at_ = place then 1 else 0, 1) : Q2)
def zeros (n : Nat) : Row := List.replicate n (0, 1)
theorem ent_left {a b : Row} {i : Nat} (h : i < a.length) : ent (a ++ b) i = ent a i := by
  unfold ent; rw [List.getElem?_append_left h]
theorem bd1_app {a b : Row} (ha : Bd 1 a) (hb : ∀ x ∈ b, x = (0, 1) ∨ x = (1, 1)) (hd : ∀ x ∈ a, x = (0, 1) ∨ x = (1, 1)) : Bd 1 (a ++ b) := by
  refine ⟨1, by omega, by omega, fun x hx => ?_⟩
  have : x = (0, 1) ∨ x = (1, 1) := by
    rcases List.mem_append.mp hx with z | z
    · exact hd x z
    · exact hb x z
  rcases this with rfl | rfl
  · exact ⟨low01, 0, by simp, by rw [val01, Rat.intCast_zero]; grind⟩
  · refine ⟨⟨by decide, by decide⟩, 1, by simp, ?_⟩
    unfold val; show ((1 : Int) : Rat) / ((1 : Int) : Rat) * ((1 : Int) : Rat) = ((1 : Int) : Rat)
    rw [Rat.intCast_one]; grind
def bitR (r : Row) : Prop := ∀ x ∈ r, x = (0, 1) ∨ x = (1, 1)
theorem bit_bd {r : Row} (h : bitR r) : Bd 1 r := by
  have := bd1_app (a := []) (b := r) ⟨1, by omega, by omega, by simp⟩ h (by simp)
  simpa using this
theorem marked_bit {rows : List Row} (h : ∀ r ∈ rows, bitR r) : ∀ r ∈ markedP rows, bitR r := by
  intro r hr
  unfold markedP at hr
  rw [List.mem_mapIdx] at hr
  obtain ⟨i, hi, rfl⟩ := hr
  intro x hx
  rcases List.mem_append.mp hx with z | z
  · exact h _ (List.getElem_mem hi) x z
  · obtain ⟨p, _, rfl⟩ := List.mem_map.mp z
    split
    · exact .inr rfl
    · exact .inl rfl
theorem marked_len {rows : List Row} {w : Nat} (h : ∀ r ∈ rows, r.length = w) : ∀ r ∈ markedP rows, r.length = w + rows.length := by
  intro r hr
  unfold markedP at hr
  rw [List.mem_mapIdx] at hr
  obtain ⟨i, hi, rfl⟩ := hr
  simp [h _ (List.getElem_mem hi)]
theorem marked_pr {rows : List Row} {w : Nat} (h : ∀ r ∈ rows, r.length = w) : ((markedP rows).map vec).map (pr w) = rows.map vec := by
  apply List.ext_getElem
  · simp [markedP]
  · intro k h1 h2
    simp only [List.getElem_map, markedP, List.getElem_mapIdx]
    have hk : k < rows.length := by simpa using h2
    have l := h _ (List.getElem_mem hk)
    funext i
    unfold pr
    by_cases z : i < w
    · rw [if_pos z]; unfold vec; rw [ent_left (by omega)]
    · rw [if_neg z, vec_out (by omega)]
theorem zeros_bit (n : Nat) : bitR (zeros n) := fun x hx => .inl (List.eq_of_mem_replicate hx)
def combF (rows : List Row) (w : Nat) : Fnd := (stairsS (markedP rows) w).2
def combH (rows : List Row) (w : Nat) (t : Row) : Row := hereS (combF rows w) (t ++ zeros rows.length)
theorem comb_facts {rows : List Row} {w : Nat} {t : Row} (h : ∀ r ∈ rows, r.length = w) (hb : ∀ r ∈ rows, bitR r) (ht : t.length = w) (htb : bitR t) :
    (combH rows w t).length = w + rows.length ∧ Bd (1 * (2 * bk w) ^ (combF rows w).length) (combH rows w t) ∧ (combF rows w).length ≤ w ∧ (∀ p ∈ combF rows w, p.1 < w ∧ p.2.length = w + rows.length ∧ Bd (bk w) p.2) ∧
    ∃ e : Vec, InS ((markedP rows).map vec) e ∧ ∀ i, vec (combH rows w t) i = vec (t ++ zeros rows.length) i - e i := by
  have S := stairs_ok (marked_len h) (fun r hr => bit_bd (marked_bit hb r hr)) w (by omega)
  have tb : bitR (t ++ zeros rows.length) := fun x hx => by
    rcases List.mem_append.mp hx with z | z
    · exact htb x z
    · exact zeros_bit _ x z
  have hF : ∀ p ∈ combF rows w, p.2.length = w + rows.length ∧ Bd (bk w) p.2 := fun p hp => ⟨S.lenF p hp, S.bdF p hp⟩
  obtain ⟨h1, h2, e, h3, h4⟩ := here_ok (bk_pos w) (F := combF rows w) (t := t ++ zeros rows.length) (N := w + rows.length) (H := 1) (Nat.le_refl _) (by simp [zeros, ht]) (bit_bd tb) hF
  refine ⟨h1, h2, S.few, fun p hp => ⟨(S.piv p hp).1, hF p hp⟩, e, ?_, h4⟩
  rw [← S.span]
  refine ins_trans (fun v hv => ins_mem (List.mem_append_right _ hv)) h3
theorem comb_iff {rows : List Row} {w : Nat} {t : Row} (h : ∀ r ∈ rows, r.length = w) (hb : ∀ r ∈ rows, bitR r) (ht : t.length = w) (htb : bitR t) :
    (∀ i, i < w → vec (combH rows w t) i = 0) ↔ InS (rows.map vec) (vec t) := by
  have S := stairs_ok (marked_len h) (fun r hr => bit_bd (marked_bit hb r hr)) w (by omega)
  obtain ⟨_, _, _, hF, e, he, hv⟩ := comb_facts h hb ht htb
  have tb : bitR (t ++ zeros rows.length) := fun x hx => by
    rcases List.mem_append.mp hx with z | z
    · exact htb x z
    · exact zeros_bit _ x z
  have pt : pr w (vec (t ++ zeros rows.length)) = vec t := by
    funext i
    unfold pr
    by_cases z : i < w
    · rw [if_pos z]; unfold vec; rw [ent_left (by omega)]
    · rw [if_neg z, vec_out (by omega)]
  constructor
  · intro hz
    have e1 : pr w e = vec t := by
      rw [← pt]
      funext i
      unfold pr
      by_cases z : i < w
      · rw [if_pos z, if_pos z]
        have a := hz i z
        rw [hv] at a
        grind
      · rw [if_neg z, if_neg z]
    have := ins_pr (w := w) he
    rw [marked_pr h, e1] at this
    exact this
  · intro hin
    rw [← marked_pr h] at hin
    obtain ⟨u, hu, eu⟩ := ins_lift hin
    -- what is left of t is made of the stairs' rows
    have hd : InS ((markedP rows).map vec) (fun i => 1 * u i + (-1) * e i) := ins_lin 1 (-1) hu he
    rw [← S.span] at hd
    have hp := ins_pr (w := w) hd
    have e2 : pr w (fun i => 1 * u i + (-1) * e i) = pr w (vec (combH rows w t)) := by
      funext i
      unfold pr
      by_cases z : i < w
      · rw [if_pos z, if_pos z, hv]
        have a := congrFun eu i
        have b := congrFun pt i
        unfold pr at a b
        rw [if_pos z] at a b
        grind
      · rw [if_neg z, if_neg z]
    rw [e2, List.map_append] at hp
    have left0 : ∀ v ∈ (List.map vec (stairsS (markedP rows) w).1).map (pr w), ∀ i, v i = 0 := fun v hv i => by
      obtain ⟨x, hx, rfl⟩ := List.mem_map.mp hv
      obtain ⟨r, hr, rfl⟩ := List.mem_map.mp hx
      unfold pr
      split
      · rename_i hi; exact S.zero r hr i hi
      · rfl
    have hq : InS (((combF rows w).map fun p => (p.1, pr w (vec p.2))).map fun p => p.2) (pr w (vec (combH rows w t))) := by
      refine ins_trans (fun v hv => ?_) hp
      rcases List.mem_append.mp hv with z | z
      · have : v = fun _ => 0 := funext fun i => left0 v z i
        rw [this]; exact ins_zero _
      · refine ins_mem ?_
        rw [List.map_map] at z ⊢
        exact z
    have z := ech_zero (fun p hp => by
      obtain ⟨q, hq, rfl⟩ := List.mem_map.mp hp
      have := S.piv q hq
      show pr w (vec q.2) q.1 = 1
      unfold pr; rw [if_pos this.1]; exact this.2) (by
      rw [List.pairwise_map]
      refine List.Pairwise.imp_of_mem (fun {a b} ha hb q => ?_) S.ech
      show pr w (vec b.2) a.1 = 0
      unfold pr; rw [if_pos (S.piv a ha).1]; exact q.2) hq (fun p hp => by
      obtain ⟨q, hq, rfl⟩ := List.mem_map.mp hp
      show pr w (vec (combH rows w t)) q.1 = 0
      unfold pr; rw [if_pos (S.piv q hq).1]
      exact here_piv (bk_pos w) (N := w + rows.length) (H := 1) (Nat.le_refl _) (by simp [zeros, ht]) (bit_bd tb) (fun p hp => (hF p hp).2) (fun p hp => (S.piv p hp).2) S.ech q hq)
    intro i hi
    have := z i
    unfold pr at this
    rwa [if_pos hi] at this
end TD

set_option Elab.async false
set_option linter.all false
set_option maxRecDepth 100000
set_option maxHeartbeats 4000000
set_option autoImplicit false
/-! WM: fractions and rows of them at work. -/
namespace TD
open PySem
open L2 (V)
def pD (x : Q2) : D := .tup [.int x.1, .int x.2]
def rowD (r : Row) : D := .lst (r.map pD)
/-- the steps allowed are many -/
def Wide (W : Nat) : Prop := ∀ k, k ≤ 9000 → 2 ^ k ≤ W
theorem Wide.sixty {W : Nat} (h : Wide W) : 1000 ≤ W := Nat.le_trans (by decide) (h 10 (by omega))
/-- numbers below a power of two -/
abbrev Ub (a : Nat) (i : Int) : Prop := i.natAbs < 2 ^ a
structure UbQ (a : Nat) (x : Q2) : Prop where
  fst : Ub a x.1
  snd : Ub a x.2
theorem ub_mul {a b : Nat} {i j : Int} (h1 : Ub a i) (h2 : Ub b j) : Ub (a + b) (i * j) := by
  unfold Ub at *
  rw [Int.natAbs_mul, Nat.pow_add]
  exact Nat.mul_lt_mul'' h1 h2
theorem ub_mono {a b : Nat} {i : Int} (h : Ub a i) (l : a ≤ b) : Ub b i := Nat.lt_of_lt_of_le h (Nat.pow_le_pow_right (by omega) l)
theorem ub_sub {a : Nat} {i j : Int} (h1 : Ub a i) (h2 : Ub a j) : Ub (a + 1) (i - j) := by
  unfold Ub at *
  rw [Nat.pow_succ]
  omega
theorem ub_log {a : Nat} {i : Int} (h : Ub a i) : i.natAbs.log2 ≤ a := by
  by_cases z : i.natAbs = 0
  · rw [z]; exact Nat.zero_le _
  · have := (Nat.log2_lt z).mpr h; omega
theorem mulOk_ub {a b : Nat} {i j : Int} (h1 : Ub a i) (h2 : Ub b j) (h : a + b < 1000000) : mulOk i j = true := by
  have := ub_log h1
  have := ub_log h2
  unfold mulOk
  rw [decide_eq_true (p := i.natAbs.log2 + j.natAbs.log2 < 1000000) (by omega), Bool.or_true]
theorem ar_mul_ub {a b : Nat} {i j : Int} (h1 : Ub a i) (h2 : Ub b j) (h : a + b < 1000000) : arith .mul i j = some (i * j) := ar_mul (mulOk_ub h1 h2 h)
theorem ar_sub {i j : Int} : arith .sub i j = some (i - j) := rfl
theorem divOk_ub {a : Nat} {j : Int} (h0 : j ≠ 0) (h : Ub a j) (h9 : a < 9000) : divOk j = true := by
  have := ub_log h
  unfold divOk
  rw [decide_eq_true_eq]
  exact ⟨h0, by omega⟩
theorem fmod_abs (a : Int) {b : Int} (h : b ≠ 0) : (a.fmod b).natAbs < b.natAbs := by
  rcases (by omega : 0 < b ∨ b < 0) with z | z
  · have h1 := Int.fmod_nonneg_of_pos a z
    have h2 := Int.fmod_lt_of_pos a z
    omega
  · have e := Int.neg_fmod_neg (-a) (-b)
    have h1 := Int.fmod_nonneg_of_pos (-a) (show 0 < -b by omega)
    have h2 := Int.fmod_lt_of_pos (-a) (show 0 < -b by omega)
    rw [Int.neg_neg, Int.neg_neg] at e
    omega
theorem gcd_fmod (a b : Int) : Int.gcd b (a.fmod b) = Int.gcd a b := by
  rw [Int.fmod_def, Int.gcd_sub_mul_left_right, Int.gcd_comm]
@[simp] theorem pD_lo {x : Q2} {k : Nat} : (pD x).lo k = true := rfl
theorem rowD_lo {r : Row} {k : Nat} : (rowD r).lo k = true := by
  show D.loL k _ = true
  rw [loL_iff]; intro x hx
  obtain ⟨y, _, rfl⟩ := List.mem_map.mp hx
  rfl
section
variable {P : Prog} {W n b : Nat} {S : Store}
theorem pD_0 {c : Cn} {x : Q2} : opIdx c (pD x) (.int 0) S = .ok (.int x.1) S := rfl
theorem pD_1 {c : Cn} {x : Q2} : opIdx c (pD x) (.int 1) S = .ok (.int x.2) S := rfl
theorem rowD_idx {c : Cn} {r : Row} {k : Nat} (h : k < r.length) : opIdx c (rowD r) (.int (k : Int)) S = .ok (pD (ent r k)) S := by
  unfold rowD
  refine idx_lst ?_
  rw [List.getElem?_map, ent, List.getElem?_eq_getElem h]; rfl
theorem divisor_ok [T52 P] {t u : Int} (hW : u.natAbs < W) : callF P W (n + 1) b 52 [.int t, .int u] S = .ok (.int (Int.gcd t u)) S := by
  rw [callF_def (P := P) (fd := c52) hc52 rfl rfl rfl]
  simp only [c52, TD.start, List.map_cons, List.map_nil, List.length_cons, List.length_nil, List.cons_append, List.nil_append, List.replicate]
  simp
  generalize hw : whileL _ _ _ _ _ = r
  obtain ⟨σ', S', rfl, rfl, g, hg, rfl⟩ := whileL_inv_e hw (fun (s : Int × Int) σ S => S = [] ∧ Int.gcd s.1 s.2 = Int.gcd t u ∧ σ = [some (.int s.1), some (.int s.2)]) (fun σ S => S = [] ∧ ∃ g : Int, g.natAbs = Int.gcd t u ∧ σ = [some (.int g), some (.int 0)]) (fun s => s.2.natAbs) (fun s σ S hI => by
    obtain ⟨x, y⟩ := s
    obtain ⟨rfl, hg, rfl⟩ := hI
    by_cases z : y = 0
    · left
      subst z
      exact ⟨kwh_ (by simp [i_ne]), rfl, x, by rw [← hg]; simp, rfl⟩
    · right
      refine ⟨kwh_ (by simp [i_ne, z]), (y, x.fmod y), [some (.int y), some (.int (x.fmod y))], [], ?_, ⟨rfl, by rw [← hg]; exact gcd_fmod x y, rfl⟩, fmod_abs x z⟩
      simp [b_int, ar_mod z, putAll]) (t, u) ⟨rfl, rfl, rfl⟩ hW
  simp [fin, opBf]
  omega
theorem lowest_ok [T53 P] {t u : Int} {k : Nat} (h0 : u ≠ 0) (hk : Ub k u) (h9 : k < 9000) (hW : Wide W) : callF P W (n + 2) b 53 [.int t, .int u] S = .ok (pD (lowestP t u)) S := by
  rw [callF_def (P := P) (fd := c53) hc53 rfl rfl rfl]
  have d := divisor_ok (P := P) (W := W) (n := n) (b := 0) (S := []) (t := t) (u := u) (Nat.lt_of_lt_of_le hk (hW k (by omega)))
  have g0 : Int.gcd t u ≠ 0 := fun e => h0 (Int.eq_zero_of_gcd_eq_zero_right e)
  have gl : Int.gcd t u ≤ u.natAbs := Nat.le_of_dvd (by omega) (Int.natAbs_dvd_natAbs.mpr (Int.gcd_dvd_right (a := t) (b := u)))
  have hg : Ub k (Int.gcd t u : Int) := by unfold Ub at *; omega
  have hg' : Ub k (-(Int.gcd t u : Int)) := by unfold Ub at *; omega
  have q1 := fun x => ar_div (i := x) (divOk_ub (by omega) hg h9)
  have q2 := fun x => ar_div (i := x) (divOk_ub (by omega) hg' h9)
  generalize hG : ((Int.gcd t u : Nat) : Int) = G at *
  by_cases neg : u < 0
  · have e : lowestP t u = (t.fdiv (-G), u.fdiv (-G)) := by unfold lowestP; simp only [if_pos neg, hG]
    rw [e]
    simp [c53, TD.start, d, i_lt, neg, negB, b_int, q2, fin, pD]
    rfl
  · have e : lowestP t u = (t.fdiv G, u.fdiv G) := by unfold lowestP; simp only [if_neg neg, hG]
    rw [e]
    simp [c53, TD.start, d, i_lt, neg, negB, b_int, q1, fin, pD]
    rfl
theorem minus_ok [T54 P] {x y : Q2} {a c : Nat} (hx : UbQ a x) (hy : UbQ c y) (lx : Low x) (ly : Low y) (h9 : a + c < 9000) (hW : Wide W) : callF P W (n + 3) b 54 [pD x, pD y] S = .ok (pD (minusP x y)) S := by
  rw [callF_def (P := P) (fd := c54) hc54 rfl rfl rfl]
  have m1 := ar_mul_ub hx.fst hy.snd (by omega)
  have m2 := ar_mul_ub hy.fst hx.snd (by omega)
  have m3 := ar_mul_ub hx.snd hy.snd (by omega)
  have l := lowest_ok (P := P) (W := W) (n := n) (b := 0) (S := []) (t := x.1 * y.2 - y.1 * x.2) (mul_ne lx.ne ly.ne) (ub_mul hx.snd hy.snd) h9 hW
  simp [c54, TD.start, pD_0, pD_1, b_int, m1, m2, m3, ar_sub, l, fin, minusP, frz_pure pD_lo]
theorem times_ok [T55 P] {x y : Q2} {a c : Nat} (hx : UbQ a x) (hy : UbQ c y) (lx : Low x) (ly : Low y) (h9 : a + c < 9000) (hW : Wide W) : callF P W (n + 3) b 55 [pD x, pD y] S = .ok (pD (timesP x y)) S := by
  rw [callF_def (P := P) (fd := c55) hc55 rfl rfl rfl]
  have m1 := ar_mul_ub hx.fst hy.fst (by omega)
  have m3 := ar_mul_ub hx.snd hy.snd (by omega)
  have l := lowest_ok (P := P) (W := W) (n := n) (b := 0) (S := []) (t := x.1 * y.1) (mul_ne lx.ne ly.ne) (ub_mul hx.snd hy.snd) h9 hW
  simp [c55, TD.start, pD_0, pD_1, b_int, m1, m3, l, fin, timesP, frz_pure pD_lo]
theorem over_ok [T56 P] {x y : Q2} {a c : Nat} (hx : UbQ a x) (hy : UbQ c y) (lx : Low x) (y0 : y.1 ≠ 0) (h9 : a + c < 9000) (hW : Wide W) : callF P W (n + 3) b 56 [pD x, pD y] S = .ok (pD (overP x y)) S := by
  rw [callF_def (P := P) (fd := c56) hc56 rfl rfl rfl]
  have m1 := ar_mul_ub hx.fst hy.snd (by omega)
  have m3 := ar_mul_ub hx.snd hy.fst (by omega)
  have l := lowest_ok (P := P) (W := W) (n := n) (b := 0) (S := []) (t := x.1 * y.2) (mul_ne lx.ne y0) (ub_mul hx.snd hy.fst) h9 hW
  simp [c56, TD.start, pD_0, pD_1, b_int, m1, m3, l, fin, overP, frz_pure pD_lo]
theorem times_ub {x y : Q2} {a c : Nat} (hx : UbQ a x) (hy : UbQ c y) (lx : Low x) (ly : Low y) : UbQ (a + c) (timesP x y) := by
  have l := lowest_le (x.1 * y.1) (mul_ne lx.ne ly.ne)
  exact ⟨Nat.lt_of_le_of_lt l.1 (ub_mul hx.fst hy.fst), Nat.lt_of_le_of_lt l.2 (ub_mul hx.snd hy.snd)⟩
def wholeR (q : List Int) : Row := q.map fun i => (i, 1)
theorem whole_row_ok [T57 P] {q : List Int} (hq : q.length ≤ 1000) : callF P W (n + 1) b 57 [iL q] S = .ok (rowD (wholeR q)) S := by
  rw [callF_def (P := P) (fd := c57) hc57 rfl rfl (by simp [D.loL])]
  simp [c57, TD.start]
  rw [compB_pure1 (as := [iL q]) (l := q) (e := D.int) (v := fun i => pD (i, 1)) (by simp) rfl rfl (fun i _ => turn_1 rfl (by simp) (by simp [wipeD]; rfl)) (by simp [szl]; omega)]
  have : D.lst (q.map fun i => pD (i, 1)) = rowD (wholeR q) := by unfold rowD wholeR; rw [List.map_map]; rfl
  rw [this]
  simp [fin, frz_pure rowD_lo]
theorem zip_rows (r s : Row) : List.zipWith (fun x y => D.tup [x, y]) (r.map pD) (s.map pD) = (r.zip s).map fun q => D.tup [pD q.1, pD q.2] := by
  induction r generalizing s with
  | nil => simp
  | cons x r ih =>
    cases s with
    | nil => simp
    | cons y s => simp [ih]
theorem list_row {c : Cn} {r : Row} : opBf c .list false [rowD r] S = if r.length ≤ szl then .ok (rowD r) S else .bad := by
  have e : opBf c .list false [rowD r] S = newL false (r.map pD) S := rfl
  rw [e]
  unfold newL
  simp only [List.length_map]
  by_cases h : r.length ≤ szl
  · rw [if_pos h, if_pos (Nat.ble_eq_true_of_le h)]; rfl
  · rw [if_neg h, if_neg (by rw [Nat.ble_eq]; exact h)]
theorem without_ok [T58 P] {r base : Row} {k a c : Nat} (hk : k < r.length) (hl : r.length ≤ 1000) (hr : ∀ x ∈ r, Low x ∧ UbQ a x) (hb : ∀ x ∈ base, Low x ∧ UbQ c x) (h9 : a + (a + c) < 9000) (hW : Wide W) : callF P W (n + 4) b 58 [rowD r, rowD base, .int (k : Int)] S = .ok (rowD (withoutP r base k)) S := by
  rw [callF_def (P := P) (fd := c58) hc58 rfl rfl (by simp [D.loL, rowD_lo])]
  have ix := fun c : Cn => rowD_idx (S := []) (c := c) hk
  obtain ⟨le, ue⟩ := hr _ (ent_mem hk)
  have ll : r.length ≤ szl := by unfold szl; omega
  unfold withoutP
  by_cases z : (ent r k).1 = 0
  · rw [if_pos z]
    simp [c58, TD.start, ix, pD_0, i_eq, z, list_row, ll, fin, frz_pure rowD_lo]
  · rw [if_neg z]
    simp [c58, TD.start, ix, pD_0, i_eq, z]
    rw [compB_pure1 (as := [rowD r, rowD base]) (l := r.zip base) (e := fun q => D.tup [pD q.1, pD q.2]) (v := fun q => pD (minusP q.1 (timesP (ent r k) q.2))) (by simp) (by
        have e : itemsOf .zip [rowD r, rowD base] [] = some (List.zipWith (fun x y => D.tup [x, y]) (r.map pD) (base.map pD)) := rfl
        rw [e, zip_rows]) rfl (fun q hq => by
      obtain ⟨m1, m2⟩ := List.of_mem_zip hq
      obtain ⟨l1, u1⟩ := hr _ m1
      obtain ⟨l2, u2⟩ := hb _ m2
      have t1 := times_ok (P := P) (W := W) (n := n) (b := 0) (S := []) ue u2 le l2 (by omega) hW
      have t2 := minus_ok (P := P) (W := W) (n := n) (b := 0) (S := []) u1 (times_ub ue u2 le l2) l1 (times_low le l2) (by omega) hW
      exact turn_1 rfl (by simp) (by simp [wipeD, t1, t2])) (by simp [szl]; omega)]
    have : D.lst ((r.zip base).map fun q => pD (minusP q.1 (timesP (ent r k) q.2))) = rowD ((r.zip base).map fun p => minusP p.1 (timesP (ent r k) p.2)) := by unfold rowD; rw [List.map_map]; rfl
    rw [this]
    simp [fin, frz_pure rowD_lo]
theorem scaled_ok [T59 P] {r : Row} {k a : Nat} (hk : k < r.length) (hl : r.length ≤ 1000) (h0 : (ent r k).1 ≠ 0) (hr : ∀ x ∈ r, Low x ∧ UbQ a x) (h9 : a + a < 9000) (hW : Wide W) : callF P W (n + 4) b 59 [rowD r, .int (k : Int)] S = .ok (rowD (scaledP r k)) S := by
  rw [callF_def (P := P) (fd := c59) hc59 rfl rfl (by simp [D.loL, rowD_lo])]
  have ix := fun c : Cn => rowD_idx (S := []) (c := c) hk
  obtain ⟨le, ue⟩ := hr _ (ent_mem hk)
  simp [c59, TD.start, ix]
  rw [compB_pure1 (as := [rowD r]) (l := r) (e := pD) (v := fun x => pD (overP x (ent r k))) (by simp) rfl rfl (fun x hx => by
    obtain ⟨l1, u1⟩ := hr _ hx
    have t1 := over_ok (P := P) (W := W) (n := n) (b := 0) (S := []) u1 ue l1 h0 h9 hW
    exact turn_1 rfl (by simp) (by simp [wipeD, t1])) (by simp [szl]; omega)]
  have : D.lst (r.map fun x => pD (overP x (ent r k))) = rowD (scaledP r k) := by unfold rowD scaledP; rw [List.map_map]; rfl
  rw [this]
  simp [fin, frz_pure rowD_lo]
end
end TD

set_option Elab.async false
set_option linter.all false
set_option maxRecDepth 100000
set_option maxHeartbeats 4000000
set_option autoImplicit false
/-! WN: the stairs at work. -/
namespace TD
open PySem
open L2 (V)
theorem range_items {S : Store} {d : Nat} (hd : d ≤ 90) : itemsOf .range [.int (d : Int)] S = some ((List.range d).map fun (i : Nat) => D.int (i : Int)) := by
  have e : itemsOf .range [.int (d : Int)] S = if rgOk 0 (d : Int) then some (rangeL 0 (d : Int)) else none := by simp only [itemsOf]
  rw [e, rgOk_ok (by omega) (by omega) (by omega) (by omega), if_pos rfl]
  refine congrArg some ?_
  unfold rangeL
  have : ((d : Int) - 0).toNat = d := by omega
  rw [this]
  apply List.map_congr_left
  intro i _
  simp
def rowsQ (R : List Row) : D := .lst (R.map rowD)
def fndD (F : Fnd) : D := .lst (F.map fun p => .tup [.int (p.1 : Int), rowD p.2])
theorem rowsQ_lo {R : List Row} {k : Nat} : (rowsQ R).lo k = true := by
  show D.loL k _ = true
  rw [loL_iff]; intro x hx
  obtain ⟨y, _, rfl⟩ := List.mem_map.mp hx
  exact rowD_lo
theorem fndD_lo {F : Fnd} {k : Nat} : (fndD F).lo k = true := by
  show D.loL k _ = true
  rw [loL_iff]; intro x hx
  obtain ⟨y, _, rfl⟩ := List.mem_map.mp hx
  show D.loL k _ = true
  simp [D.loL, rowD_lo]
section
variable {S : Store}
theorem rowsQ_idx {c : Cn} {R : List Row} {k : Nat} (h : k < R.length) : opIdx c (rowsQ R) (.int (k : Int)) S = .ok (rowD (rowK R k)) S := by
  unfold rowsQ
  refine idx_lst ?_
  rw [List.getElem?_map, rowK, List.getElem?_eq_getElem h]; rfl
theorem rowsQ_len {c : Cn} {mu : Bool} {R : List Row} : opBf c .len mu [rowsQ R] S = .ok (.int R.length) S := by
  unfold rowsQ; rw [len_lst, List.length_map]
theorem rowD_len {c : Cn} {mu : Bool} {r : Row} : opBf c .len mu [rowD r] S = .ok (.int r.length) S := by
  unfold rowD; rw [len_lst, List.length_map]
def eQ (R : List Row) (i : Nat) : D := .tup [.int (i : Int), rowD (rowK R i)]
theorem rowsQ_enum {R : List Row} : itemsOf .enum [rowsQ R] S = some ((List.range R.length).map (eQ R)) := by
  unfold rowsQ itemsOf
  simp only [seqA, seqL, Option.map_some]
  congr 1
  apply List.ext_getElem?
  intro i
  simp only [List.getElem?_mapIdx, List.getElem?_map]
  by_cases h : i < R.length
  · rw [List.getElem?_eq_getElem h, List.getElem?_range h]; simp [eQ, rowK, h]
  · rw [List.getElem?_eq_none (by omega), List.getElem?_eq_none (by simp; omega)]; simp
end
/-! ### places of a list -/
theorem range_cut {L k : Nat} (h : k < L) : List.range L = List.range k ++ k :: (List.range (L - k - 1)).map fun i => i + (k + 1) := by
  have : L = k + ((L - k - 1) + 1) := by omega
  rw (occs := [1]) [this]
  rw [List.range_add, List.range_succ_eq_map, List.map_cons, List.map_map]
  congr 2
  apply List.map_congr_left
  intro i _
  simp only [Function.comp, Nat.succ_eq_add_one]; omega
def goodL (c : Nat) (l : List Row) : List Nat := (List.range l.length).filter fun i => nz c (rowK l i)
theorem rowK_eq {l : List Row} {i : Nat} (h : i < l.length) : rowK l i = l[i] := by unfold rowK; rw [List.getElem?_eq_getElem h]; rfl
theorem good_find (c : Nat) (l : List Row) : match l.findIdx? (nz c) with
  | none => goodL c l = []
  | some k => k < l.length ∧ nz c (rowK l k) = true ∧ ∃ t, goodL c l = k :: t := by
  split
  · rename_i h
    have hn := List.findIdx?_eq_none_iff.mp h
    unfold goodL
    rw [List.filter_eq_nil_iff]
    intro i hi
    have hi := List.mem_range.mp hi
    rw [rowK_eq hi]
    have := hn _ (List.getElem_mem hi)
    simp [this]
  · rename_i k h
    obtain ⟨h1, h2, h3⟩ := List.findIdx?_eq_some_iff_getElem.mp h
    refine ⟨h1, by rw [rowK_eq h1]; exact h2, ?_⟩
    unfold goodL
    rw [range_cut h1, List.filter_append]
    have e : (List.range k).filter (fun i => nz c (rowK l i)) = [] := by
      rw [List.filter_eq_nil_iff]
      intro i hi
      have hi := List.mem_range.mp hi
      rw [rowK_eq (by omega)]
      have := h3 i hi
      simpa using this
    rw [e, List.nil_append, List.filter_cons_of_pos (by rw [rowK_eq h1]; exact h2)]
    exact ⟨_, rfl⟩
theorem erase_map {l : List Row} {k : Nat} (h : k < l.length) : ((List.range l.length).filter fun i => !decide (i = k)).map (rowK l) = l.eraseIdx k := by
  have e1 : (List.range k).filter (fun i => !decide (i = k)) = List.range k := by
    rw [List.filter_eq_self]; intro i hi; have := List.mem_range.mp hi; simp; omega
  have e2 : ((List.range (l.length - k - 1)).map fun i => i + (k + 1)).filter (fun i => !decide (i = k)) = (List.range (l.length - k - 1)).map fun i => i + (k + 1) := by
    rw [List.filter_eq_self]; intro i hi
    obtain ⟨j, _, rfl⟩ := List.mem_map.mp hi
    simp; omega
  rw [range_cut h, List.filter_append, e1, List.filter_cons_of_neg (by simp), e2, List.map_append, List.map_map, List.eraseIdx_eq_take_drop_succ]
  congr 1
  · apply List.ext_getElem
    · simp; omega
    · intro i h1 h2
      have : i < k := by simpa using h1
      simp [rowK_eq (show i < l.length by omega)]
  · apply List.ext_getElem
    · simp; omega
    · intro i h1 h2
      have : i < l.length - k - 1 := by simpa using h1
      simp [rowK_eq (show i + (k + 1) < l.length by omega)]
      congr 1; omega
theorem bk6 : bk 6 = 2 ^ 63 := by decide
theorem bd_ub {k : Nat} (hk : k ≤ 6) {r : Row} (h : Bd (bk k) r) : ∀ x ∈ r, Low x ∧ UbQ 64 x := fun x hx => by
  have l := h.le x hx
  have m := bk_mono hk
  rw [bk6] at m
  have e : (2 : Nat) ^ 63 = 9223372036854775808 := by rfl
  have e2 : (2 : Nat) ^ 64 = 18446744073709551616 := by rfl
  refine ⟨h.low x hx, ?_, ?_⟩ <;> (unfold Ub; omega)
section
variable {P : Prog} {W n b : Nat} {S : Store}
theorem st_len {N : Nat} {rows : List Vec} {s : List Row × Fnd} {c B : Nat} (h : St N rows s c B) (r : List Row) (hr : s.1.length ≤ r.length) : (colStep s c).1.length ≤ r.length := by
  unfold colStep
  split
  · exact hr
  · simp only [List.length_map]
    exact Nat.le_trans (List.length_eraseIdx_le _ _) hr
theorem stairs_left (R : List Row) : ∀ w, (stairsS R w).1.length ≤ R.length
  | 0 => Nat.le_refl _
  | w + 1 => by
    have e : stairsS R (w + 1) = colStep (stairsS R w) w := by
      unfold stairsS
      rw [List.range_succ, List.foldl_append]; rfl
    rw [e]
    unfold colStep
    split
    · exact stairs_left R w
    · simp only [List.length_map]
      exact Nat.le_trans (List.length_eraseIdx_le _ _) (stairs_left R w)
theorem stairs_call [T60 P] {R : List Row} {N w : Nat} (hN : N ≤ 1000) (hw : w ≤ N) (h6 : w ≤ 6) (hR : R.length ≤ 1000) (hl : ∀ r ∈ R, r.length = N) (hb : ∀ r ∈ R, Bd 1 r) (hW : Wide W) : callF P W (n + 5) b 60 [rowsQ R, .int (w : Int)] S = .ok (fndD (stairsS R w).2) S := by
  rw [callF_def (P := P) (fd := c60) hc60 rfl rfl (by simp [D.loL, rowsQ_lo])]
  simp only [c60, TD.start, List.map_cons, List.map_nil, List.length_cons, List.length_nil, List.cons_append, List.nil_append, List.replicate]
  simp
  rw [compB_pure1 (as := [rowsQ R]) (l := R) (e := rowD) (v := rowD) (by simp) rfl rfl (fun r hr => by
    have := hl r hr
    exact turn_1 rfl (by simp) (by simp [wipeD, list_row, show r.length ≤ szl by unfold szl; omega])) (by simp [szl]; omega)]
  have eR : D.lst (R.map rowD) = rowsQ R := rfl
  rw [eR]
  simp [putAll]
  rw [s_loop (as := [.int (w : Int)]) (by simp) (range_items (by omega)) rfl]
  generalize hf : forL _ _ _ _ = r
  obtain ⟨σ', S', rfl, rfl, x2, x5, x6, x7, x8, x9, rfl⟩ := forL_pre_e hf rfl (fun a σ S => S = [] ∧ ∃ x2 x5 x6 x7 x8 x9, σ = [some (rowsQ R), some (.int (w : Int)), x2, some (rowsQ (stairsS R a.length).1), some (fndD (stairsS R a.length).2), x5, x6, x7, x8, x9]) (fun a i c hac σ S hI => by
    obtain ⟨rfl, x2, x5, x6, x7, x8, x9, rfl⟩ := hI
    obtain ⟨ha, hi⟩ := range_pre hac
    have la : a.length = i := by rw [ha]; simp
    have e : stairsS R (a ++ [i]).length = colStep (stairsS R i) i := by
      rw [List.length_append, la]
      unfold stairsS
      rw [show i + [i].length = i + 1 from rfl, List.range_succ, List.foldl_append]; rfl
    rw [e, la]
    have st := stairs_ok hl hb i (by omega)
    have few := st.few
    have ll := stairs_left R i
    generalize stairsS R i = s at st few ll ⊢
    obtain ⟨L, F⟩ := s
    dsimp only at st few ll ⊢
    have ubL : ∀ r ∈ L, ∀ x ∈ r, Low x ∧ UbQ 64 x := fun r hr => bd_ub (by omega) (st.bd r hr)
    have ubF : ∀ p ∈ F, ∀ x ∈ p.2, Low x ∧ UbQ 64 x := fun p hp => bd_ub (by omega) (st.bdF p hp)
    have lenL := st.len
    have lenF := st.lenF
    dsimp only at lenL lenF
    have kL : ∀ i, i < L.length → rowK L i ∈ L := fun i h => by rw [rowK_eq h]; exact List.getElem_mem h
    have cg : compB false [("at", 8), ("row", 7)] (.cons (.nm 8) (.cons (.nm 7) .nil)) .enum (ev ⟨callF P W (n + 4), P, 0, W⟩ (.cons (.var 3) .nil)) (ev ⟨callF P W (n + 4), P, 0, W⟩ (.cons (.cmp .ne (.idx (.idx (.var 7) (.var 2)) (.lit (.int (0)))) (.lit (.int (0)))) .nil)) (ev ⟨callF P W (n + 4), P, 0, W⟩ (.var 8)) [some (rowsQ R), some (.int (w : Int)), some (.int (i : Int)), some (rowsQ L), some (fndD F), x5, x6, x7, x8, x9] [] = .ok (iL (natsZ (goodL i L))) [] := by
      rw [compB_pure (as := [rowsQ L]) (l := List.range L.length) (e := eQ L) (v := fun (j : Nat) => D.int (j : Int)) (p := fun j => nz i (rowK L j)) (by simp) rowsQ_enum rfl (fun j hj => by
        have hj := List.mem_range.mp hj
        have := lenL _ (kL j hj)
        have ix := fun c : Cn => rowD_idx (S := []) (c := c) (r := rowK L j) (k := i) (by omega)
        exact turn_if rfl (by simp [eQ, wipeD, ix, pD_0, i_ne, nz]) fun _ => by simp [eQ, wipeD]) (by simp [szl]; omega)]
      unfold iL natsZ goodL; rw [List.map_map]; rfl
    have gf := good_find i L
    unfold colStep
    dsimp only
    cases hfi : L.findIdx? (nz i) with
    | none =>
      rw [hfi] at gf
      dsimp only at gf
      refine ⟨[some (rowsQ R), some (.int (w : Int)), some (.int (i : Int)), some (rowsQ L), some (fndD F), some (iL (natsZ (goodL i L))), x6, x7, x8, x9], [], ?_, rfl, _, _, _, _, _, _, rfl⟩
      rw [loopF_nm]
      simp [cg, iL_ne0, gf, natsZ]
    | some k =>
      rw [hfi] at gf
      dsimp only at gf
      obtain ⟨hk, nzk, t, gt⟩ := gf
      dsimp only
      have ne : ¬ natsZ (goodL i L) = [] := by rw [gt]; simp [natsZ]
      have g0 : ∀ c : Cn, opIdx c (iL (natsZ (goodL i L))) (.int 0) [] = .ok (.int (k : Int)) [] := fun c => by
        rw [gt]; exact idx_lst (k := 0) rfl
      have ik := fun c : Cn => rowsQ_idx (S := []) (c := c) hk
      have mk := kL k hk
      have nzk' : (ent (rowK L k) i).1 ≠ 0 := by unfold nz at nzk; simpa using nzk
      have sc := scaled_ok (P := P) (W := W) (n := n) (b := 0) (S := []) (r := rowK L k) (k := i) (a := 64) (by have := lenL _ mk; omega) (by have := lenL _ mk; omega) nzk' (ubL _ mk) (by omega) hW
      have lb : (scaledP (rowK L k) i).length = N := by rw [scaled_len]; exact lenL _ mk
      have bb := scaled_bd (st.bd _ mk) (c := i) (by have := lenL _ mk; omega) nzk'
      have ubB := bd_ub (by omega) bb
      generalize scaledP (rowK L k) i = base at sc lb ubB ⊢
      have nn : ∀ c : Cn, opCmp c .ne (iL (natsZ (goodL i L))) (.lst []) [] = .ok (.bl true) [] := fun c => by rw [iL_ne0]; simp [ne]
      generalize iL (natsZ (goodL i L)) = G at g0 cg nn ⊢
      refine ⟨[some (rowsQ R), some (.int (w : Int)), some (.int (i : Int)), some (rowsQ ((L.eraseIdx k).map fun r => withoutP r base i)), some (fndD (F.map (fun p => (p.1, withoutP p.2 base i)) ++ [(i, base)])), some G, some (rowD base), x7, x8, x9], [], ?_, rfl, _, _, _, _, _, _, rfl⟩
      rw [loopF_nm]
      simp [cg, nn, g0, ik, sc]
      rw [compB_pure (as := [rowsQ L]) (l := List.range L.length) (e := eQ L) (v := fun j => rowD (withoutP (rowK L j) base i)) (p := fun j => !decide (j = k)) (by simp) rowsQ_enum rfl (fun j hj => by
        have hj := List.mem_range.mp hj
        have lj := lenL _ (kL j hj)
        have wo := without_ok (P := P) (W := W) (n := n) (b := 0) (S := []) (r := rowK L j) (base := base) (k := i) (a := 64) (c := 64) (by omega) (by omega) (ubL _ (kL j hj)) ubB (by omega) hW
        have cj : decide ((j : Int) = (k : Int)) = decide (j = k) := decide_eq_decide.mpr (by omega)
        exact turn_if rfl (by simp [eQ, wipeD, g0, i_ne]; omega) fun _ => by simp [eQ, wipeD, wo]) (by simp [szl]; omega)]
      have eL : D.lst (((List.range L.length).filter fun j => !decide (j = k)).map fun j => rowD (withoutP (rowK L j) base i)) = rowsQ ((L.eraseIdx k).map fun r => withoutP r base i) := by
        unfold rowsQ
        rw [← erase_map hk, List.map_map, List.map_map]; rfl
      rw [eL]
      simp
      rw [compB_pure1 (as := [fndD F]) (l := F) (e := fun p => D.tup [.int (p.1 : Int), rowD p.2]) (v := fun p => D.tup [.int (p.1 : Int), rowD (withoutP p.2 base i)]) (by simp) rfl rfl (fun p hp => by
        have lj := lenF p hp
        have wo := without_ok (P := P) (W := W) (n := n) (b := 0) (S := []) (r := p.2) (base := base) (k := i) (a := 64) (c := 64) (by omega) (by omega) (ubF p hp) ubB (by omega) hW
        exact turn_1 rfl (by simp) (by simp [wipeD, wo])) (by simp [szl]; omega)]
      have eF : newL false ((F.map fun p => D.tup [.int (p.1 : Int), rowD (withoutP p.2 base i)]) ++ [D.tup [.int (i : Int), rowD base]]) [] = .ok (fndD (F.map (fun p => (p.1, withoutP p.2 base i)) ++ [(i, base)])) [] := by
        rw [newL_ok (by simp [szl]; omega)]
        unfold fndD; rw [List.map_append, List.map_map]; rfl
      simp [opBin, seqL, eF]) ⟨rfl, _, _, _, _, _, _, rfl⟩
  simp [fin, frz_pure fndD_lo]
end
end TD

set_option Elab.async false
set_option linter.all false
set_option maxRecDepth 100000
set_option maxHeartbeats 4000000
set_option autoImplicit false
/-! WP: lots at work. -/
namespace TD
open PySem
open L2 (V)
def lotsD (ls : List (List Nat)) : D := .lst (ls.map oT)
theorem oT_tI (o : List Nat) : oT o = tI (natsZ o) := rfl
theorem oT_lo {o : List Nat} {k : Nat} : (oT o).lo k = true := (pl_tI (n := 0) (natsZ o)).lo k
theorem oT_pl {n : Nat} (o : List Nat) : Pl (n + 1) (oT o) := pl_tI _
theorem lotsD_lo {ls : List (List Nat)} {k : Nat} : (lotsD ls).lo k = true := by
  show D.loL k _ = true
  rw [loL_iff]; intro x hx
  obtain ⟨y, _, rfl⟩ := List.mem_map.mp hx
  exact oT_lo
theorem lots_pl {n : Nat} (ls : List (List Nat)) : ∀ x ∈ ls.map oT, Pl (n + 1) x := fun x hx => by
  obtain ⟨y, _, rfl⟩ := List.mem_map.mp hx
  exact oT_pl y
theorem natsZ_inj {a b : List Nat} (h : natsZ a = natsZ b) : a = b := by
  unfold natsZ at h
  exact (List.map_inj_right fun x y e => by exact_mod_cast e).mp h
theorem oT_inj {a b : List Nat} (h : oT a = oT b) : a = b := by
  unfold oT at h
  have h := D.tup.inj h
  exact natsZ_inj ((List.map_inj_right fun x y e => D.int.inj e).mp h)
theorem oT_dec {a b : List Nat} : decide (oT a = oT b) = decide (a = b) := decide_eq_decide.mpr ⟨oT_inj, fun e => by rw [e]⟩
theorem oT_mem {a : List Nat} {ls : List (List Nat)} : decide (oT a ∈ ls.map oT) = decide (a ∈ ls) := decide_eq_decide.mpr ⟨fun h => by
  obtain ⟨x, hx, e⟩ := List.mem_map.mp h
  rwa [← oT_inj e], fun h => List.mem_map_of_mem h⟩
theorem int_mem {a : Nat} {o : List Nat} : decide (D.int (a : Int) ∈ (natsZ o).map D.int) = decide (a ∈ o) := decide_eq_decide.mpr ⟨fun h => by
  obtain ⟨x, hx, e⟩ := List.mem_map.mp h
  unfold natsZ at hx
  obtain ⟨y, hy, rfl⟩ := List.mem_map.mp hx
  have := D.int.inj e
  have : y = a := by exact_mod_cast this
  rwa [← this], fun h => List.mem_map_of_mem (List.mem_map_of_mem (f := fun k : Nat => (k : Int)) h)⟩
section
variable {S : Store}
theorem oT_len {c : Cn} {mu : Bool} {o : List Nat} : opBf c .len mu [oT o] S = .ok (.int o.length) S := by
  have : opBf c .len mu [oT o] S = .ok (.int ((natsZ o).map D.int).length) S := rfl
  rw [this, List.length_map]; simp [natsZ]
theorem oT_items {o : List Nat} : itemsOf .val [oT o] S = some (o.map fun k => D.int ((k : Nat) : Int)) := by
  unfold oT natsZ; simp [itemsOf, seqA, Function.comp_def]
theorem lotsD_len {c : Cn} {mu : Bool} {ls : List (List Nat)} : opBf c .len mu [lotsD ls] S = .ok (.int ls.length) S := by
  unfold lotsD; rw [len_lst, List.length_map]
theorem lotsD_items {ls : List (List Nat)} : itemsOf .val [lotsD ls] S = some (ls.map oT) := rfl
theorem lotsD_idx {c : Cn} {ls : List (List Nat)} {k : Nat} (h : k < ls.length) : opIdx c (lotsD ls) (.int (k : Int)) S = .ok (oT ls[k]) S := by
  unfold lotsD
  refine idx_lst ?_
  rw [List.getElem?_map, List.getElem?_eq_getElem h]; rfl
theorem lots_eq {c : Cn} {a b : List (List Nat)} : opCmp c .eq (lotsD a) (lotsD b) S = .ok (.bl (decide (a = b))) S := by
  show opCmp c .eq (.lst (a.map oT)) (.lst (b.map oT)) S = _
  rw [op_eq_pl (n := 2) (m := 2) (.lst 1 _ (lots_pl a)) (.lst 1 _ (lots_pl b)) (by omega) (by omega)]
  congr 2
  rw [decide_eq_decide]
  exact ⟨fun h => (List.map_inj_right fun x y e => oT_inj e).mp (D.lst.inj h), fun h => by rw [h]⟩
theorem lots_ne {c : Cn} {a b : List (List Nat)} : opCmp c .ne (lotsD a) (lotsD b) S = .ok (.bl (!decide (a = b))) S := by
  show opCmp c .ne (.lst (a.map oT)) (.lst (b.map oT)) S = _
  rw [op_ne_pl (n := 2) (m := 2) (.lst 1 _ (lots_pl a)) (.lst 1 _ (lots_pl b)) (by omega) (by omega)]
  congr 3
  rw [decide_eq_decide]
  exact ⟨fun h => (List.map_inj_right fun x y e => oT_inj e).mp (D.lst.inj h), fun h => by rw [h]⟩
theorem lot_eq {c : Cn} {a b : List Nat} : opCmp c .eq (oT a) (oT b) S = .ok (.bl (decide (a = b))) S := by
  rw [op_eq_pl (n := 1) (m := 1) (oT_pl a) (oT_pl b) (by omega) (by omega), oT_dec]
theorem lot_ne {c : Cn} {a b : List Nat} : opCmp c .ne (oT a) (oT b) S = .ok (.bl (!decide (a = b))) S := by
  rw [op_ne_pl (n := 1) (m := 1) (oT_pl a) (oT_pl b) (by omega) (by omega), oT_dec]
theorem lot_in {c : Cn} {a : List Nat} {ls : List (List Nat)} : opCmp c .isin (oT a) (lotsD ls) S = .ok (.bl (decide (a ∈ ls))) S := by
  rw [op_in_pl (n := 1) (m := 1) (xs := ls.map oT) rfl (fun z => by unfold lotsD; simp) (oT_pl a) (lots_pl ls) (by omega) (by omega), oT_mem]
theorem lot_notin {c : Cn} {a : List Nat} {ls : List (List Nat)} : opCmp c .notin (oT a) (lotsD ls) S = .ok (.bl (!decide (a ∈ ls))) S := by
  rw [op_notin_pl (n := 1) (m := 1) (xs := ls.map oT) rfl (fun z => by unfold lotsD; simp) (oT_pl a) (lots_pl ls) (by omega) (by omega), oT_mem]
theorem nat_in {c : Cn} {a : Nat} {o : List Nat} : opCmp c .isin (.int (a : Int)) (oT o) S = .ok (.bl (decide (a ∈ o))) S := by
  rw [op_in_pl (n := 0) (m := 0) (xs := (natsZ o).map .int) rfl (fun z => by unfold oT; simp) (.int 0 _) (pl_ints _) (by omega) (by omega), int_mem]
theorem nat_notin {c : Cn} {a : Nat} {o : List Nat} : opCmp c .notin (.int (a : Int)) (oT o) S = .ok (.bl (!decide (a ∈ o))) S := by
  rw [op_notin_pl (n := 0) (m := 0) (xs := (natsZ o).map .int) rfl (fun z => by unfold oT; simp) (.int 0 _) (pl_ints _) (by omega) (by omega), int_mem]
theorem iL_nat_in {c : Cn} {a : Nat} {o : List Nat} : opCmp c .isin (.int (a : Int)) (iL (natsZ o)) S = .ok (.bl (decide (a ∈ o))) S := by
  rw [op_in_pl (n := 0) (m := 0) (xs := (natsZ o).map .int) rfl (fun z => by unfold iL; simp) (.int 0 _) (pl_ints _) (by omega) (by omega), int_mem]
theorem any_lst {c : Cn} {mu : Bool} {ι : Type} {l : List ι} {f : ι → Bool} : opBf c .any mu [.lst (l.map fun i => .bl (f i))] S = .ok (.bl (l.any f)) S := by
  have e : opBf c .any mu [.lst (l.map fun i => .bl (f i))] S = Res.of ((boolsOf (l.map fun i => .bl (f i))).map fun bs => D.bl (bs.any id)) S := rfl
  rw [e, bools_map]
  simp
end
/-! ### the order of lots -/
def keyL (l : List Nat) : Int × List Int := ((l.length : Int), natsZ l)
def ltL (a b : List Nat) : Bool := lexN (keyL a) (keyL b)
def SortedL (ls : List (List Nat)) : Prop := ls.Pairwise fun x y => ltL y x = false
instance (ls : List (List Nat)) : Decidable (SortedL ls) := by unfold SortedL; infer_instance
theorem lots_sorted : ∀ m, m < 8 → SortedL (lotsL m) := by decide +kernel
theorem lots_nodup : ∀ m, m < 8 → (lotsL m).Nodup := by decide +kernel
theorem lots_count : ∀ m, m < 8 → (lotsL m).length = 2 ^ m := by decide +kernel
theorem sorted_filter {ls : List (List Nat)} (h : SortedL ls) (p : List Nat → Bool) : SortedL (ls.filter p) := h.sublist List.filter_sublist
def insB (a b : List Nat) : Bool := a.all fun x => decide (x ∈ b)
def restL (m : Nat) (l : List Nat) : List Nat := (List.range m).filter fun x => !decide (x ∈ l)
def leastF (ls : List (List Nat)) : List (List Nat) := ls.foldl (fun f l => if f.any (fun o => insB o l) then f else f ++ [l]) []
def leastG (ls : List (List Nat)) : List (List Nat) := ls.filter fun l => !(ls.any fun o => !decide (o = l) && insB o l)
def meetL (ls : List (List Nat)) (m : Nat) : List (List Nat) := leastG ((lotsL m).filter fun l => ls.all fun one => one.any fun x => decide (x ∈ l))
section
variable {P : Prog} {W n b : Nat} {S : Store}
theorem by_size_ok [KB P] {ls : List (List Nat)} (h : SortedL ls) (hl : ls.length ≤ 70) (hW : 1000 ≤ W) (hlen : ∀ l ∈ ls, l.length ≤ 100) : callF P W (n + 3) b 22 [lotsD ls] S = .ok (lotsD ls) S := by
  rw [callF_def (P := P) (fd := c22) hc22 rfl rfl (by simp [D.loL, lotsD_lo])]
  simp [c22, TD.start]
  have pa : ∀ x y, ltL y x = false → Asc (nI (keyL x)) (nI (keyL y)) := fun x y hxy S c => by
    rw [show nI (keyL y) = .tup [.int (keyL y).1, tI (keyL y).2] from rfl, show nI (keyL x) = .tup [.int (keyL x).1, tI (keyL x).2] from rfl]
    exact op_lt_tup (by
      have := lt_nI (S := S) (keyL y) (keyL x)
      rw [show lexN (keyL y) (keyL x) = ltL y x from rfl, hxy] at this
      exact this)
  have oi := fun S => ordered_id (P := P) (W := W) (n := n) (b := 0) (S := S) (t := .lst (ls.map fun l => nI (keyL l))) (A := ls.map fun l => nI (keyL l)) (m := 2) (.inl rfl) (by simpa using hl) hW (fun x hx => by
    obtain ⟨l, _, rfl⟩ := List.mem_map.mp hx; exact pl_nI _) (by omega) (by
    rw [List.pairwise_map]
    exact List.Pairwise.imp (fun {x y} q => pa x y q) h)
  have c1 : ∀ σ : Sl, getS σ 0 = some (lotsD ls) → getS (wipeD σ [2]) 0 = some (lotsD ls) → compB false [("pair", 1)] (.nm 1) .val (ev ⟨callF P W (n + 2), P, 0, W⟩ (.cons (.call 21 (.cons (.comp false [("lot", 2)] (.tup (.cons (.bf .len false (.cons (.var 2) (.nil))) (.cons (.var 2) (.nil)))) (.nm 2) .val (.cons (.var 0) .nil) .nil) (.nil))) .nil)) (ev ⟨callF P W (n + 2), P, 0, W⟩ .nil) (ev ⟨callF P W (n + 2), P, 0, W⟩ (.idx (.var 1) (.lit (.int (1))))) [some (lotsD ls), none, none] [] = .ok (lotsD ls) [] := fun _ _ _ => by
    rw [compB_pure1 (as := [.lst (ls.map fun l => nI (keyL l))]) (l := ls) (e := fun l => nI (keyL l)) (v := oT) (by
      simp
      rw [compB_pure1 (as := [lotsD ls]) (l := ls) (e := oT) (v := fun l => nI (keyL l)) (by simp) lotsD_items rfl (fun l _ => turn_1 rfl (by simp) (by simp [wipeD, oT_len]; rfl)) (by simp [szl]; omega)]
      simp [oi]) rfl rfl (fun l _ => turn_1 rfl (by simp) (by simp [wipeD]; rfl)) (by simp [szl]; omega)]
    rfl
  rw [c1 [some (lotsD ls), none, none] rfl rfl]
  simp [fin, frz_pure lotsD_lo]
theorem rest_ok [T68 P] {m : Nat} {lot : List Nat} (hm : m ≤ 90) : callF P W (n + 1) b 68 [.int (m : Int), oT lot] S = .ok (oT (restL m lot)) S := by
  rw [callF_def (P := P) (fd := c68) hc68 rfl rfl (by simp [D.loL, oT_lo])]
  simp [c68, TD.start]
  rw [compB_pure (as := [.int (m : Int)]) (l := List.range m) (e := fun (k : Nat) => D.int (k : Int)) (v := fun (k : Nat) => D.int (k : Int)) (p := fun k => !decide (k ∈ lot)) (by simp) (range_items hm) rfl (fun k _ => turn_if rfl (by simp [wipeD, nat_notin]) fun _ => by simp [wipeD]) (by simp [szl]; omega)]
  have e : ∀ c : Cn, opBf c .tuple false [.lst (((List.range m).filter fun k => !decide (k ∈ lot)).map fun (k : Nat) => D.int (k : Int))] [] = .ok (oT (restL m lot)) [] := fun c => by
    have q : ∀ ds : List D, opBf c .tuple false [.lst ds] [] = .ok (.tup ds) [] := fun ds => rfl
    rw [q]
    unfold oT natsZ restL; rw [List.map_map]; rfl
  simp [e, fin, frz_pure oT_lo]
theorem law_rest_ok [T81 P] {m : Nat} {lot : List Nat} (hm : m ≤ 90) : callF P W (n + 1) b 81 [.int (m : Int), oT lot] S = .ok (oT (restL m lot)) S := by
  rw [callF_def (P := P) (fd := c81) hc81 rfl rfl (by simp [D.loL, oT_lo])]
  simp [c81, TD.start]
  rw [compB_pure (as := [.int (m : Int)]) (l := List.range m) (e := fun (k : Nat) => D.int (k : Int)) (v := fun (k : Nat) => D.int (k : Int)) (p := fun k => !decide (k ∈ lot)) (by simp) (range_items hm) rfl (fun k _ => turn_if rfl (by simp [wipeD, nat_notin]) fun _ => by simp [wipeD]) (by simp [szl]; omega)]
  have e : ∀ c : Cn, opBf c .tuple false [.lst (((List.range m).filter fun k => !decide (k ∈ lot)).map fun (k : Nat) => D.int (k : Int))] [] = .ok (oT (restL m lot)) [] := fun c => by
    have q : ∀ ds : List D, opBf c .tuple false [.lst ds] [] = .ok (.tup ds) [] := fun ds => rfl
    rw [q]
    unfold oT natsZ restL; rw [List.map_map]; rfl
  simp [e, fin, frz_pure oT_lo]
theorem inside_ok [T69 P] {x y : List Nat} (hx : x.length ≤ 1000) : callF P W (n + 1) b 69 [oT x, oT y] S = .ok (.bl (insB x y)) S := by
  rw [callF_def (P := P) (fd := c69) hc69 rfl rfl (by simp [D.loL, oT_lo])]
  simp [c69, TD.start]
  rw [compB_pure1 (as := [oT x]) (l := x) (e := fun (k : Nat) => D.int (k : Int)) (v := fun (k : Nat) => D.bl (decide (k ∈ y))) (by simp) oT_items rfl (fun k _ => turn_1 rfl (by simp) (by simp [wipeD, nat_in])) (by simp [szl]; omega)]
  have := fun c => all_lst (c := c) (mu := false) (S := []) (l := x) (f := fun k => decide (k ∈ y))
  simp [this, fin, insB]
theorem law_inside_ok [T77 P] {x y : List Nat} (hx : x.length ≤ 1000) : callF P W (n + 1) b 77 [oT x, oT y] S = .ok (.bl (insB x y)) S := by
  rw [callF_def (P := P) (fd := c77) hc77 rfl rfl (by simp [D.loL, oT_lo])]
  simp [c77, TD.start]
  rw [compB_pure1 (as := [oT x]) (l := x) (e := fun (k : Nat) => D.int (k : Int)) (v := fun (k : Nat) => D.bl (decide (k ∈ y))) (by simp) oT_items rfl (fun k _ => turn_1 rfl (by simp) (by simp [wipeD, nat_in])) (by simp [szl]; omega)]
  have := fun c => all_lst (c := c) (mu := false) (S := []) (l := x) (f := fun k => decide (k ∈ y))
  simp [this, fin, insB]
theorem leastF_len (ls : List (List Nat)) : (leastF ls).length ≤ ls.length := by
  have : ∀ (ls f : List (List Nat)), (ls.foldl (fun f l => if f.any (fun o => insB o l) then f else f ++ [l]) f).length ≤ f.length + ls.length := fun ls => by
    induction ls with
    | nil => intro f; simp
    | cons l ls ih =>
      intro f
      simp only [List.foldl_cons, List.length_cons]
      refine Nat.le_trans (ih _) ?_
      split <;> simp <;> omega
  simpa [leastF] using this ls []
theorem leastF_mem (ls : List (List Nat)) : ∀ x ∈ leastF ls, x ∈ ls := by
  have : ∀ (ls f : List (List Nat)), ∀ x ∈ ls.foldl (fun f l => if f.any (fun o => insB o l) then f else f ++ [l]) f, x ∈ f ∨ x ∈ ls := fun ls => by
    induction ls with
    | nil => intro f x hx; exact .inl hx
    | cons l ls ih =>
      intro f x hx
      rcases ih _ x hx with z | z
      · dsimp only at z
        split at z
        · exact .inl z
        · rcases List.mem_append.mp z with z | z
          · exact .inl z
          · simp at z; exact .inr (by simp [z])
      · exact .inr (List.mem_cons_of_mem _ z)
  intro x hx
  rcases this ls [] x hx with z | z
  · simp at z
  · exact z
theorem least_ok [T70 P] {ls : List (List Nat)} (h : SortedL ls) (hl : ls.length ≤ 70) (hW : 1000 ≤ W) (hlen : ∀ l ∈ ls, l.length ≤ 100) : callF P W (n + 4) b 70 [lotsD ls] S = .ok (lotsD (leastF ls)) S := by
  rw [callF_def (P := P) (fd := c70) hc70 rfl rfl (by simp [D.loL, lotsD_lo])]
  simp [c70, TD.start]
  rw [s_loop (as := [lotsD ls]) (by simp [by_size_ok h hl hW hlen]) lotsD_items rfl]
  generalize hf : forL _ _ _ _ = r
  obtain ⟨σ', S', rfl, rfl, x2, x3, rfl⟩ := forL_pre_e hf rfl (fun a σ S => S = [.lst ((leastF a).map oT)] ∧ ∃ x2 x3, σ = [some (lotsD ls), some (.ref 0), x2, x3]) (fun a l c hac σ S hI => by
    obtain ⟨rfl, x2, x3, rfl⟩ := hI
    have e : leastF (a ++ [l]) = if (leastF a).any (fun o => insB o l) then leastF a else leastF a ++ [l] := by
      unfold leastF; rw [List.foldl_append]; rfl
    have la : a.length ≤ 70 := by
      have := congrArg List.length hac
      simp at this; omega
    have lf := leastF_len a
    have lin : ∀ o ∈ leastF a, o.length ≤ 100 := fun o ho => hlen o (by rw [hac]; exact List.mem_append_left _ (leastF_mem a o ho))
    rw [loopF_nm]
    simp
    have hcb : compB false [("other", 3)] (.nm 3) .val (ev ⟨callF P W (n + 3), P, 0, W⟩ (.cons (.var 1) .nil)) (ev ⟨callF P W (n + 3), P, 0, W⟩ .nil) (ev ⟨callF P W (n + 3), P, 0, W⟩ (.call 69 (.cons (.var 3) (.cons (.var 2) (.nil))))) [some (lotsD ls), some (.ref 0), some (oT l), x3] [.lst ((leastF a).map oT)] = .ok (.lst ((leastF a).map fun o => .bl (insB o l))) [.lst ((leastF a).map oT)] := by
      unfold compB
      have e1 : itemsOf .val [.ref 0] [.lst ((leastF a).map oT)] = some ((leastF a).map oT) := rfl
      simp [e1, refsOf]
      have e2 : ∀ (f : Store → Res (List D)) (ys : List D), f [.lck ((leastF a).map oT)] = .ok ys [.lck ((leastF a).map oT)] → within [.lst ((leastF a).map oT)] [0] f = .ok ys [.lst ((leastF a).map oT)] := fun f ys h => by
        unfold within
        simp [lockS, openS, h, unlockS]
      rw [e2 _ ((leastF a).map fun o => .bl (insB o l)) (compL_map1 (leastF a) fun o ho => turn_1 rfl (by simp) (by simp [wipeD, inside_ok (Nat.le_trans (lin o ho) (by omega : 100 ≤ 1000))]))]
      simp [newL_ok (show ((leastF a).map fun o => D.bl (insB o l)).length ≤ szl by simp [szl]; omega), noExc_o]
    have an := fun c S => any_lst (c := c) (mu := false) (S := S) (l := leastF a) (f := fun o => insB o l)
    have ap := bm_append (c := ⟨callF P W (n + 3), P, 0, W⟩) (v := oT l) (S1 := [.lst ((leastF a).map oT)]) (S := [.lst ((leastF a).map oT)]) (k := 0) rfl rfl (.inl (Nat.le_refl 0)) (by simp [szl]; omega)
    rw [hcb]
    rw [e]
    generalize (leastF a).any (fun o => insB o l) = q at an ⊢
    cases q
    · refine ⟨[some (lotsD ls), some (.ref 0), some (oT l), x3], [.lst ((leastF a ++ [l]).map oT)], ?_, rfl, _, _, rfl⟩
      simp [an, ap]
    · refine ⟨[some (lotsD ls), some (.ref 0), some (oT l), x3], [.lst ((leastF a).map oT)], ?_, rfl, _, _, rfl⟩
      simp [an]) ⟨rfl, _, _, rfl⟩
  have : frz P [.lst ((leastF ls).map oT)] 0 64 (.ref 0) = some (lotsD (leastF ls)) := frz_ref rfl (Nat.le_refl 0) fun d hd => by
    obtain ⟨x, _, rfl⟩ := List.mem_map.mp hd; exact oT_lo
  simp [fin, this]
theorem law_least_ok [T78 P] {ls : List (List Nat)} (hl : ls.length ≤ 1000) (hlen : ∀ l ∈ ls, l.length ≤ 1000) : callF P W (n + 2) b 78 [lotsD ls] S = .ok (lotsD (leastG ls)) S := by
  rw [callF_def (P := P) (fd := c78) hc78 rfl rfl (by simp [D.loL, lotsD_lo])]
  simp [c78, TD.start]
  rw [compB_pure (as := [lotsD ls]) (l := ls) (e := oT) (v := oT) (p := fun l => !(ls.any fun o => !decide (o = l) && insB o l)) (by simp) lotsD_items rfl (fun l hl' => by
    refine turn_if rfl ?_ fun _ => by simp [wipeD]
    simp [wipeD]
    rw [compB_pure1 (as := [lotsD ls]) (l := ls) (e := oT) (v := fun o => .bl (!decide (o = l) && insB o l)) (by simp) lotsD_items rfl (fun o ho => turn_1 rfl (by simp) (by
      simp [wipeD, lot_ne, law_inside_ok (hlen o ho)]
      by_cases z : o = l <;> simp [z])) (by simp [szl]; omega)]
    have an := fun c S => any_lst (c := c) (mu := false) (S := S) (l := ls) (f := fun o => !decide (o = l) && insB o l)
    simp only [bind_o, kcons2_, kbf_, argsOf_, an, kcons1_]
    simp [an]) (by simp [szl]; omega)]
  have : D.lst ((ls.filter fun l => !(ls.any fun o => !decide (o = l) && insB o l)).map oT) = lotsD (leastG ls) := rfl
  rw [this]
  simp [fin, frz_pure lotsD_lo]
end
end TD

set_option Elab.async false
set_option linter.all false
set_option autoImplicit false
/-! LF: the law's own rank of rows of integers. -/
namespace TD
def vecI (q : List Int) : Vec := fun i => ((q.getD i 0 : Int) : Rat)
def lrStep (base : List Int) (k : Nat) (row : List Int) : List Int := (row.zip base).map fun p => base.getD k 0 * p.1 - row.getD k 0 * p.2
def lr : Nat → List (List Int) → Nat
  | 0, _ => 0
  | f + 1, left => match left.getLast? with
    | none => 0
    | some base => match base.findIdx? fun x => decide (x ≠ 0) with
      | none => lr f left.dropLast
      | some k => lr f (left.dropLast.map (lrStep base k)) + 1
theorem lrStep_len {base row : List Int} (h : base.length = row.length) (k : Nat) : (lrStep base k row).length = row.length := by simp [lrStep, h]
theorem lrStep_vec {base row : List Int} (h : base.length = row.length) (k i : Nat) : vecI (lrStep base k row) i = vecI base k * vecI row i - vecI row k * vecI base i := by
  unfold vecI
  by_cases hi : i < row.length
  · have e : (lrStep base k row).getD i 0 = base.getD k 0 * row.getD i 0 - row.getD k 0 * base.getD i 0 := by
      have hz : (row.zip base)[i]? = some (row[i], base[i]'(by omega)) := by
        rw [List.getElem?_zip_eq_some]
        exact ⟨List.getElem?_eq_getElem hi, List.getElem?_eq_getElem (by omega)⟩
      have e1 : row.getD i 0 = row[i] := by rw [List.getD_eq_getElem?_getD, List.getElem?_eq_getElem hi]; rfl
      have e2 : base.getD i 0 = base[i]'(by omega) := by rw [List.getD_eq_getElem?_getD, List.getElem?_eq_getElem (by omega : i < base.length)]; rfl
      rw [e1, e2, lrStep, List.getD_eq_getElem?_getD, List.getElem?_map, hz]; rfl
    rw [e, Rat.intCast_sub, Rat.intCast_mul, Rat.intCast_mul]
  · have e1 : (lrStep base k row).getD i 0 = 0 := by rw [List.getD_eq_getElem?_getD, List.getElem?_eq_none (by rw [lrStep_len h]; omega)]; rfl
    have e2 : row.getD i 0 = 0 := by rw [List.getD_eq_getElem?_getD, List.getElem?_eq_none (by omega)]; rfl
    have e3 : base.getD i 0 = 0 := by rw [List.getD_eq_getElem?_getD, List.getElem?_eq_none (by omega)]; rfl
    rw [e1, e2, e3, Rat.intCast_zero]; grind
theorem lr_rk : ∀ (f : Nat) (left : List (List Int)) (N : Nat), left.length ≤ f → (∀ r ∈ left, r.length = N) → lr f left = rk (left.map vecI)
  | 0, left, N, h, _ => by
    have : left = [] := List.length_eq_zero_iff.mp (by omega)
    subst this; rfl
  | f + 1, left, N, h, hl => by
    unfold lr
    cases e : left.getLast? with
    | none =>
      have : left = [] := List.getLast?_eq_none_iff.mp e
      subst this; rfl
    | some base =>
      have ne : left ≠ [] := by rintro rfl; simp at e
      have eb : base = left.getLast ne := by
        rw [List.getLast?_eq_some_getLast ne] at e; exact (Option.some.inj e).symm
      have el : left = left.dropLast ++ [base] := by rw [eb]; exact (List.dropLast_concat_getLast ne).symm
      have lb : base.length = N := hl base (by rw [el]; simp)
      have ld : ∀ r ∈ left.dropLast, r.length = N := fun r hr => hl r (List.dropLast_subset _ hr)
      have len : left.dropLast.length ≤ f := by simp; omega
      have em : rk (left.map vecI) = rk (left.dropLast.map vecI ++ [vecI base]) := by
        rw (occs := [1]) [el]
        rw [List.map_append]; rfl
      rw [em]
      dsimp only
      cases q : base.findIdx? fun x => decide (x ≠ 0) with
      | none =>
        dsimp only
        rw [lr_rk f left.dropLast N len ld]
        have hn := List.findIdx?_eq_none_iff.mp q
        have z : ∀ i, vecI base i = 0 := fun i => by
          unfold vecI
          by_cases hi : i < base.length
          · have := hn base[i] (List.getElem_mem hi)
            rw [List.getD_eq_getElem?_getD, List.getElem?_eq_getElem hi]
            have : base[i] = 0 := by simpa using this
            simp [this]
          · rw [List.getD_eq_getElem?_getD, List.getElem?_eq_none (by omega)]; simp
        have z' : vecI base = fun _ => 0 := funext z
        rw [rk_perm (List.perm_append_comm (l₁ := left.dropLast.map vecI) (l₂ := [vecI base])), List.singleton_append, rk_in (by rw [z']; exact ins_zero _)]
      | some k =>
        dsimp only
        obtain ⟨h1, h2, _⟩ := List.findIdx?_eq_some_iff_getElem.mp q
        have bk0 : vecI base k ≠ 0 := by
          unfold vecI
          rw [List.getD_eq_getElem?_getD, List.getElem?_eq_getElem h1]
          have : base[k] ≠ 0 := by simpa using h2
          exact fun e => this (by exact_mod_cast e)
        have e3 := rk_elim (base := vecI base) (φ := fun (v : Vec) => fun i => vecI base k * v i - (vecI base k * v k * (vecI base k)⁻¹) * vecI base i) (at_ := k) (a := vecI base k) bk0 bk0 (fun v => rfl) (left.dropLast.map vecI)
        rw [e3, lr_rk f (left.dropLast.map (lrStep base k)) N (by simpa using len) (fun r hr => by
          obtain ⟨x, hx, rfl⟩ := List.mem_map.mp hr
          rw [lrStep_len (by rw [lb, ld x hx])]; exact ld x hx)]
        congr 2
        rw [List.map_map, List.map_map]
        refine List.map_congr_left fun r hr => ?_
        funext i
        show vecI (lrStep base k r) i = _
        rw [lrStep_vec (by rw [lb, ld r hr])]
        have : vecI base k * (vecI base k)⁻¹ = 1 := Rat.mul_inv_cancel _ bk0
        show _ = vecI base k * vecI r i - (vecI base k * vecI r k * (vecI base k)⁻¹) * vecI base i
        grind
def lawRank (M : List (List Int)) : Nat := lr M.length M
theorem lawRank_eq {M : List (List Int)} {N : Nat} (h : ∀ r ∈ M, r.length = N) : lawRank M = rk (M.map vecI) := lr_rk _ _ N (Nat.le_refl _) h
theorem vec_whole (q : List Int) : vec (q.map fun i => ((i, 1) : Q2)) = vecI q := by
  funext i
  unfold vec vecI ent
  rw [List.getElem?_map, List.getD_eq_getElem?_getD]
  cases q[i]? with
  | none => show val (0, 1) = _; rw [val01]; rfl
  | some x =>
    show val (x, 1) = ((x : Int) : Rat)
    unfold val; show (x : Rat) / ((1 : Int) : Rat) = _
    rw [Rat.intCast_one]; grind
end TD

set_option Elab.async false
set_option linter.all false
set_option maxRecDepth 100000
set_option maxHeartbeats 4000000
set_option autoImplicit false
/-! WQ: counts of regions as rows; what is told; the law's rank. -/
namespace TD
open PySem
open L2 (V)
def itemsI (U xs : List Cl) : List Int := U.map fun c => if c ∈ xs then 1 else 0
def rowsM (U : List Cl) (rs : List (List Cl)) : List (List Int) := rs.map (itemsI U)
def rowsD (M : List (List Int)) : D := .lst (M.map iL)
def qs (M : List (List Int)) : List Row := M.map wholeR
def pickQ (R : List Row) (lot : List Nat) : List Row := lot.map (rowK R)
def pickM (M : List (List Int)) (lot : List Nat) : List (List Int) := lot.map fun i => M.getD i []
theorem rowsD_lo {M : List (List Int)} {k : Nat} : (rowsD M).lo k = true := by
  show D.loL k _ = true
  rw [loL_iff]; intro x hx
  obtain ⟨r, _, rfl⟩ := List.mem_map.mp hx
  exact lo_mono (Nat.zero_le _) _ (iL_lo r)
theorem pick_qs (M : List (List Int)) (lot : List Nat) : pickQ (qs M) lot = qs (pickM M lot) := by
  unfold pickQ pickM qs
  rw [List.map_map]
  apply List.map_congr_left
  intro k _
  simp only [rowK, Function.comp, List.getD_eq_getElem?_getD, List.getElem?_map]
  cases M[k]? <;> rfl
theorem bitR_whole {U xs : List Cl} : bitR (wholeR (itemsI U xs)) := by
  intro x hx
  unfold wholeR itemsI at hx
  rw [List.map_map] at hx
  obtain ⟨c, _, rfl⟩ := List.mem_map.mp hx
  simp only [Function.comp]
  split
  · exact .inr rfl
  · exact .inl rfl
/-- a table of 0 and 1 with rows as long as w -/
def Bits (M : List (List Int)) (w : Nat) : Prop := ∀ r ∈ M, r.length = w ∧ ∀ x ∈ r, x = 0 ∨ x = 1
theorem bits_rows {U : List Cl} {rs : List (List Cl)} : Bits (rowsM U rs) U.length := by
  intro r hr
  obtain ⟨xs, _, rfl⟩ := List.mem_map.mp hr
  refine ⟨by simp [itemsI], fun x hx => ?_⟩
  obtain ⟨c, _, rfl⟩ := List.mem_map.mp hx
  split
  · exact .inr rfl
  · exact .inl rfl
theorem Bits.qs {M : List (List Int)} {w : Nat} (h : Bits M w) : (∀ r ∈ qs M, r.length = w) ∧ ∀ r ∈ qs M, bitR r := by
  constructor
  · intro r hr
    obtain ⟨q, hq, rfl⟩ := List.mem_map.mp hr
    simp [wholeR, (h q hq).1]
  · intro r hr
    obtain ⟨q, hq, rfl⟩ := List.mem_map.mp hr
    intro x hx
    obtain ⟨i, hi, rfl⟩ := List.mem_map.mp hx
    rcases (h q hq).2 i hi with rfl | rfl
    · exact .inl rfl
    · exact .inr rfl
theorem getD_mem {M : List (List Int)} {i : Nat} (h : i < M.length) : M.getD i [] ∈ M := by
  rw [List.getD_eq_getElem?_getD, List.getElem?_eq_getElem h]; exact List.getElem_mem h
theorem Bits.pick {M : List (List Int)} {w : Nat} (h : Bits M w) {lot : List Nat} (hl : ∀ i ∈ lot, i < M.length) : Bits (pickM M lot) w := by
  intro r hr
  obtain ⟨i, hi, rfl⟩ := List.mem_map.mp hr
  exact h _ (getD_mem (hl i hi))
def combR (R : List Row) (w : Nat) (t : Row) : Option Row := if (List.range w).all (fun i => decide ((ent (combH R w t) i).1 = 0)) then some (((combH R w t).drop w).map fun x => lowestP (-x.1) x.2) else none
def combD : Option Row → D
  | some r => rowD r
  | none => .non
/-- made of the rows of the lot -/
def tellQ (M : List (List Int)) (w : Nat) (lot : List Nat) (t : List Int) : Bool := (combR (qs (pickM M lot)) w (wholeR t)).isSome
theorem combR_iff {R : List Row} {w : Nat} {t : Row} (h : ∀ r ∈ R, r.length = w) (hb : ∀ r ∈ R, bitR r) (ht : t.length = w) (htb : bitR t) : (combR R w t).isSome = true ↔ InS (R.map vec) (vec t) := by
  rw [← comb_iff h hb ht htb]
  unfold combR
  have hbd := (comb_facts h hb ht htb).2.1
  have e : ((List.range w).all fun i => decide ((ent (combH R w t) i).1 = 0)) = true ↔ ∀ i, i < w → vec (combH R w t) i = 0 := by
    rw [List.all_eq_true]
    constructor
    · intro q i hi
      rw [vec_zero hbd]
      simpa using q i (List.mem_range.mpr hi)
    · intro q i hi
      have := q i (List.mem_range.mp hi)
      rw [vec_zero hbd] at this
      simpa using this
  rw [← e]
  split <;> simp_all
theorem qs_vec (M : List (List Int)) : (qs M).map vec = M.map vecI := by
  unfold qs
  rw [List.map_map]
  exact List.map_congr_left fun q _ => vec_whole q
section
variable {S : Store}
theorem rowsD_idx {c : Cn} {M : List (List Int)} {k : Nat} (hk : k < M.length) : opIdx c (rowsD M) (.int (k : Int)) S = .ok (iL (M.getD k [])) S := by
  unfold rowsD
  refine idx_lst ?_
  rw [List.getElem?_map, List.getD_eq_getElem?_getD, List.getElem?_eq_getElem hk]; rfl
theorem rowsD_len {c : Cn} {mu : Bool} {M : List (List Int)} : opBf c .len mu [rowsD M] S = .ok (.int M.length) S := by
  unfold rowsD; rw [len_lst, List.length_map]
theorem cut_hi {ds : List D} {k : Nat} (hk : k ≤ ds.length) (hl : ds.length ≤ 1000) : opSl false (.lst ds) (some none) (some (some (k : Int))) S = .ok (.lst (ds.take k)) S := by
  have e : opSl false (.lst ds) (some none) (some (some (k : Int))) S = newL false (cutL ds none (some (k : Int))) S := rfl
  rw [e]
  unfold cutL
  rw [HT.sIx_nat, HT.sIx_none, List.drop_zero, Nat.sub_zero, Nat.min_eq_left hk, newL_ok (by simp [szl]; omega)]
theorem cut_lo {ds : List D} {k : Nat} (hk : k ≤ ds.length) (hl : ds.length ≤ 1000) : opSl false (.lst ds) (some (some (k : Int))) (some none) S = .ok (.lst (ds.drop k)) S := by
  have e : opSl false (.lst ds) (some (some (k : Int))) (some none) S = newL false (cutL ds (some (k : Int)) none) S := rfl
  rw [e]
  unfold cutL
  rw [HT.sIx_nat, HT.sIx_none, Nat.min_eq_left hk, List.take_of_length_le (by simp), newL_ok (by simp [szl]; omega)]
theorem take_ent (r : Row) (w : Nat) (h : w ≤ r.length) : r.take w = (List.range w).map (ent r) := by
  apply List.ext_getElem
  · simp; omega
  · intro i h1 h2
    have : i < r.length := by simp at h1; omega
    simp [ent, List.getElem?_eq_getElem this]
end
section
variable {ax : D} {U xs : List Cl} {P : Prog} {W n b : Nat} {S : Store} {rs : List (List Cl)}
theorem items_iL [KA P] (h : OkS ax U) (px : Part U xs) : callF P W (n + 1) b 19 [Rg ax U xs] S = .ok (iL (itemsI U xs)) S := by
  rw [callF_def (P := P) (fd := c19) hc19 rfl rfl (by simp [D.loL, rg_pure h])]
  simp [c19, TD.start]
  rw [compB_pure1 (as := [.tup (U.map cellD)]) (l := U) (e := cellD) (v := fun c => .int (if c ∈ xs then 1 else 0)) (by simp) rfl rfl (fun c hc => turn_1 rfl (by simp) (by simp [wipeD, opCmp, dunOf, in_tup (List.all_eq_true.mp h.ok c hc) (px.ok h), opBf])) (Nat.le_trans h.len (by decide))]
  have : D.lst (U.map fun c => .int (if c ∈ xs then 1 else 0)) = iL (itemsI U xs) := by unfold iL itemsI; rw [List.map_map]; rfl
  rw [this]
  simp [fin, frz_pure (iL_lo _)]
theorem law_items_ok [KA P] (h : OkS ax U) (px : Part U xs) : callF P W (n + 2) b 45 [Rg ax U xs] S = .ok (iL (itemsI U xs)) S := by
  rw [callF_def (P := P) (fd := c45) hc45 rfl rfl (by simp [D.loL, rg_pure h])]
  simp [c45, TD.start]
  rw [compB_pure1 (as := [.tup (U.map cellD)]) (l := U) (e := cellD) (v := fun c => .int (if c ∈ xs then 1 else 0)) (by simp) rfl rfl (fun c hc => by
    have oc := List.all_eq_true.mp h.ok c hc
    refine turn_1 rfl (by simp) ?_
    have e : opBf ⟨callF P W (n + 1), P, 0, W⟩ .int false [.bl (decide (c ∈ xs))] [] = .ok (.int (if c ∈ xs then 1 else 0)) [] := by
      by_cases q : c ∈ xs
      · simp [q]; rfl
      · simp [q]; rfl
    simp [wipeD, o_in h px oc, e]) (by have := h.len; simp [szl]; omega)]
  have : D.lst (U.map fun c => .int (if c ∈ xs then 1 else 0)) = iL (itemsI U xs) := by unfold iL itemsI; rw [List.map_map]; rfl
  rw [this]
  simp [fin, frz_pure (iL_lo _)]
theorem rows_of_ok [T66 P] (h : OkS ax U) (hp : ∀ r ∈ rs, Part U r) (hl : rs.length ≤ 100) : callF P W (n + 2) b 66 [Rs ax U rs] S = .ok (rowsQ (qs (rowsM U rs))) S := by
  rw [callF_def (P := P) (fd := c66) hc66 rfl rfl (by simp [D.loL, rs_pure h])]
  simp [c66, TD.start]
  rw [compB_pure1 (as := [Rs ax U rs]) (l := rs) (e := Rg ax U) (v := fun r => rowD (wholeR (itemsI U r))) (by simp) rs_items rfl (fun r hr => turn_1 rfl (by simp) (by
    have := whole_row_ok (P := P) (W := W) (n := n) (b := 0) (S := []) (q := itemsI U r) (by have := h.len; simp [itemsI]; omega)
    simp [wipeD, items_iL h (hp r hr), this])) (by simp [szl]; omega)]
  have : D.lst (rs.map fun r => rowD (wholeR (itemsI U r))) = rowsQ (qs (rowsM U rs)) := by unfold rowsQ qs rowsM; rw [List.map_map, List.map_map]; rfl
  rw [this]
  simp [fin, frz_pure rowsQ_lo]
theorem check_like_ok [T63 P] (h : OkS ax U) (hr : OkR U rs) : callF P W (n + 3) b 63 [Rs ax U rs, Rg ax U xs] S = .ok .non S := by
  rw [callF_def (P := P) (fd := c63) hc63 rfl rfl (by simp [D.loL, rs_pure h, rg_pure h])]
  have ix := fun c : Cn => rs_idx (ax := ax) (U := U) (rs := rs) (S := []) (c := c) (k := 0) (by have := hr.pos; omega)
  simp at ix
  simp [c63, TD.start, check_ok h hr, ix, o_neS h, fin]
theorem isint_ka [KA P] {i : Int} : callF P W (n + 1) b 1 [.int i] S = .ok (.bl true) S := by
  rw [callF_def (P := P) (fd := c1) hc1 rfl rfl rfl]; rfl
theorem is_lot_ok [T64 P] {m : Nat} {lot : List Nat} (hlot : lot ∈ lotsL m) (hm : m ≤ 90) : callF P W (n + 2) b 64 [oT lot, .int (m : Int)] S = .ok (.bl true) S := by
  have sub := mem_lots.mp hlot
  have lt : ∀ k ∈ lot, k < m := fun k hk => List.mem_range.mp (sub.mem hk)
  have pw : lot.Pairwise (· < ·) := List.pairwise_lt_range.sublist sub
  have ll : lot.length ≤ 90 := Nat.le_trans (lots_len hlot) hm
  rw [callF_def (P := P) (fd := c64) hc64 rfl rfl (by simp [D.loL, oT_lo])]
  have ty : ∀ S, tyOf S (oT lot) = some (.bi "tuple") := fun S => rfl
  simp [c64, TD.start, ty]
  rw [compB_pure1 (as := [oT lot]) (l := lot) (e := fun (k : Nat) => D.int (k : Int)) (v := fun (k : Nat) => D.bl true) (by simp) oT_items rfl (fun k hk => turn_1 rfl (by simp) (by
    have := lt k hk
    have l1 : (0 : Int) ≤ (k : Int) := by omega
    have l2 : (k : Int) < (m : Int) := by omega
    simp [wipeD, isint_ka, i_le, i_lt, l1, l2, this])) (by simp [szl]; omega)]
  have al : ∀ (c : Cn) (S : Store), opBf c .all false [.lst (lot.map fun _ => D.bl true)] S = .ok (.bl true) S := fun c S => by
    rw [all_lst (f := fun _ => true)]; simp
  simp [al]
  have sl : opSl false (oT lot) (some (some 1)) (some none) [] = .ok (oT lot.tail) [] := by
    have e : opSl false (oT lot) (some (some 1)) (some none) [] = .ok (.tup (cutL ((natsZ lot).map .int) (some ((1 : Nat) : Int)) none)) [] := rfl
    rw [e]
    unfold cutL
    rw [HT.sIx_nat, HT.sIx_none]
    cases lot with
    | nil => rfl
    | cons a l =>
      have : min 1 ((natsZ (a :: l)).map D.int).length = 1 := by simp [natsZ]
      rw [this, List.take_of_length_le (by simp)]
      rfl
  have zz : ∀ (a c : List Nat), List.zipWith (fun x y => D.tup [x, y]) ((natsZ a).map D.int) ((natsZ c).map D.int) = (a.zip c).map fun q => D.tup [.int (q.1 : Int), .int (q.2 : Int)] := fun a => by
    induction a with
    | nil => intro c; simp [natsZ]
    | cons x a ih =>
      intro c
      cases c with
      | nil => simp [natsZ]
      | cons y c => have := ih c; simp [natsZ] at this ⊢; exact this
  rw [compB_pure1 (as := [oT lot, oT lot.tail]) (l := lot.zip lot.tail) (e := fun q => D.tup [.int (q.1 : Int), .int (q.2 : Int)]) (v := fun _ => D.bl true) (by simp [partOf, sl]) (by
      have e : itemsOf .zip [oT lot, oT lot.tail] [] = some (List.zipWith (fun x y => D.tup [x, y]) ((natsZ lot).map D.int) ((natsZ lot.tail).map D.int)) := rfl
      rw [e, zz]) rfl (fun q hq => turn_1 rfl (by simp) (by
    have : q.1 < q.2 := by
      obtain ⟨i, hi, rfl⟩ := List.mem_iff_getElem.mp hq
      rw [List.getElem_zip]
      simp only [List.getElem_tail]
      exact List.pairwise_iff_getElem.mp pw i (i + 1) _ _ (by omega)
    simp [wipeD, i_lt, this])) (by simp [szl]; omega)]
  have al : ∀ (c : Cn) (S : Store), opBf c .all false [.lst ((lot.zip lot.tail).map fun _ => D.bl true)] S = .ok (.bl true) S := fun c S => by
    rw [all_lst (f := fun _ => true)]; simp
  simp [al, fin]
theorem check_lot_ok [T65 P] {m : Nat} {lot : List Nat} (hlot : lot ∈ lotsL m) (hm : m ≤ 90) : callF P W (n + 3) b 65 [oT lot, .int (m : Int)] S = .ok .non S := by
  rw [callF_def (P := P) (fd := c65) hc65 rfl rfl (by simp [D.loL, oT_lo])]
  simp [c65, TD.start, is_lot_ok hlot hm, fin]
theorem picked_ok [T67 P] {R : List Row} {lot : List Nat} (hlot : ∀ k ∈ lot, k < R.length) (hl : lot.length ≤ 1000) : callF P W (n + 1) b 67 [rowsQ R, oT lot] S = .ok (rowsQ (pickQ R lot)) S := by
  rw [callF_def (P := P) (fd := c67) hc67 rfl rfl (by simp [D.loL, oT_lo, rowsQ_lo])]
  simp [c67, TD.start]
  rw [compB_pure1 (as := [oT lot]) (l := lot) (e := fun (k : Nat) => D.int (k : Int)) (v := fun (k : Nat) => rowD (rowK R k)) (by simp) oT_items rfl (fun k hk => turn_1 rfl (by simp) (by simp [wipeD, rowsQ_idx (hlot k hk)])) (by simp [szl]; omega)]
  have : D.lst (lot.map fun k => rowD (rowK R k)) = rowsQ (pickQ R lot) := by unfold rowsQ pickQ; rw [List.map_map]; rfl
  rw [this]
  simp [fin, frz_pure rowsQ_lo]
theorem marked_ok [T61 P] {R : List Row} (hR : R.length ≤ 90) (hl : ∀ r ∈ R, r.length ≤ 1000) : callF P W (n + 1) b 61 [rowsQ R] S = .ok (rowsQ (markedP R)) S := by
  rw [callF_def (P := P) (fd := c61) hc61 rfl rfl (by simp [D.loL, rowsQ_lo])]
  simp [c61, TD.start]
  rw [s_loop (as := [rowsQ R]) (by simp) rowsQ_enum rfl]
  have mrow : ∀ i, i < R.length → rowK (markedP R) i = rowK R i ++ (List.range R.length).map fun place => ((if i = place then 1 else 0, 1) : Q2) := fun i hi => by
    unfold rowK markedP
    rw [List.getElem?_mapIdx, List.getElem?_eq_getElem hi]; rfl
  generalize hf : forL _ _ _ _ = r
  obtain ⟨σ', S', rfl, rfl, x2, x3, x4, rfl⟩ := forL_pre_e hf rfl (fun a σ S => S = [.lst (a.map fun i => rowD (rowK (markedP R) i))] ∧ ∃ x2 x3 x4, σ = [some (rowsQ R), some (.ref 0), x2, x3, x4]) (fun a i c hac σ S hI => by
    obtain ⟨rfl, x2, x3, x4, rfl⟩ := hI
    obtain ⟨ha, hi⟩ := range_pre hac
    have lr : (rowK R i).length ≤ 1000 := hl _ (by rw [rowK_eq hi]; exact List.getElem_mem hi)
    have la : a.length ≤ 90 := by rw [ha]; simp; omega
    have ap := bm_append (c := ⟨callF P W n, P, 0, W⟩) (v := rowD (rowK (markedP R) i)) (S1 := [.lst (a.map fun i => rowD (rowK (markedP R) i))]) (S := [.lst (a.map fun i => rowD (rowK (markedP R) i))]) (k := 0) rfl rfl (.inl (Nat.le_refl 0)) (by simp [szl]; omega)
    refine ⟨[some (rowsQ R), some (.ref 0), some (.int (i : Int)), some (rowD (rowK R i)), x4], [.lst ((a ++ [i]).map fun i => rowD (rowK (markedP R) i))], ?_, rfl, _, _, _, rfl⟩
    unfold eQ
    rw [loopF_2]
    simp [list_row, show (rowK R i).length ≤ szl by unfold szl; omega]
    rw [compB_pure1 (as := [.int (R.length : Int)]) (l := List.range R.length) (e := fun (k : Nat) => D.int (k : Int)) (v := fun (k : Nat) => pD ((if i = k then 1 else 0, 1) : Q2)) (by simp [rowsQ_len]) (range_items hR) rfl (fun k _ => turn_1 rfl (by simp) (by
      have cz : decide ((i : Int) = (k : Int)) = decide (i = k) := decide_eq_decide.mpr (by omega)
      by_cases z : i = k
      · subst z; simp [wipeD, i_eq, opBf]; rfl
      · have z' : ¬ (i : Int) = (k : Int) := by omega
        simp [wipeD, i_eq, opBf, z, z']; rfl)) (by simp [szl]; omega)]
    have ea : opBin ⟨callF P W n, P, 0, W⟩ false .add (rowD (rowK R i)) (.lst ((List.range R.length).map fun k => pD ((if i = k then 1 else 0, 1) : Q2))) [.lst (a.map fun i => rowD (rowK (markedP R) i))] = .ok (rowD (rowK (markedP R) i)) [.lst (a.map fun i => rowD (rowK (markedP R) i))] := by
      have e : opBin ⟨callF P W n, P, 0, W⟩ false .add (rowD (rowK R i)) (.lst ((List.range R.length).map fun k => pD ((if i = k then 1 else 0, 1) : Q2))) [.lst (a.map fun i => rowD (rowK (markedP R) i))] = newL false ((rowK R i).map pD ++ (List.range R.length).map fun k => pD ((if i = k then 1 else 0, 1) : Q2)) [.lst (a.map fun i => rowD (rowK (markedP R) i))] := rfl
      rw [e, newL_ok (by simp [szl]; omega), mrow i hi]
      unfold rowD
      rw [List.map_append, List.map_map]; rfl
    simp [ea, ap]) ⟨rfl, _, _, _, rfl⟩
  have e1 : (List.range R.length).map (fun i => rowD (rowK (markedP R) i)) = (markedP R).map rowD := by
    have hlm : (markedP R).length = R.length := by simp [markedP]
    apply List.ext_getElem
    · simp [hlm]
    · intro i h1 h2
      have : i < (markedP R).length := by simpa using h2
      simp [rowK_eq this]
  rw [e1]
  have : frz P [.lst ((markedP R).map rowD)] 0 64 (.ref 0) = some (rowsQ (markedP R)) := frz_ref rfl (Nat.le_refl 0) fun d hd => by
    obtain ⟨x, _, rfl⟩ := List.mem_map.mp hd; exact rowD_lo
  simp [fin, this]
end
end TD

set_option Elab.async false
set_option linter.all false
set_option maxRecDepth 100000
set_option maxHeartbeats 4000000
set_option autoImplicit false
/-! WR: combination, tells_by; the law's rank, tells, meets. -/
namespace TD
open PySem
open L2 (V)
theorem bd_pow {w k : Nat} (hw : w ≤ 6) (hk : k ≤ 6) {r : Row} (h : Bd (1 * (2 * bk w) ^ k) r) : ∀ x ∈ r, Low x ∧ UbQ 385 x := fun x hx => by
  have l := h.le x hx
  have m := bk_mono hw
  rw [bk6] at m
  have p1 : (2 * bk w) ^ k ≤ (2 ^ 64) ^ k := Nat.pow_le_pow_left (by rw [show (2 : Nat) ^ 64 = 2 * 2 ^ 63 by decide]; omega) k
  have p2 : ((2 : Nat) ^ 64) ^ k ≤ (2 ^ 64) ^ 6 := Nat.pow_le_pow_right (by decide) hk
  have p3 : ((2 : Nat) ^ 64) ^ 6 < 2 ^ 385 := by
    rw [← Nat.pow_mul]; exact Nat.pow_lt_pow_right (by omega) (by omega)
  refine ⟨h.low x hx, ?_, ?_⟩ <;> (unfold Ub; omega)
section
variable {P : Prog} {W n b : Nat} {S : Store}
theorem combination_ok [T62 P] {R : List Row} {t : Row} {w : Nat} (hR : R.length ≤ 90) (hw : w ≤ 6) (hl : ∀ r ∈ R, r.length = w) (hb : ∀ r ∈ R, bitR r) (ht : t.length = w) (htb : bitR t) (hW : Wide W) : callF P W (n + 6) b 62 [rowsQ R, rowD t] S = .ok (combD (combR R w t)) S := by
  obtain ⟨f1, f2, f3, f4, _⟩ := comb_facts hl hb ht htb
  have hg : (P.globs[8]?).map (fun p => p.2) = some (D.tup [D.int 0, D.int 1]) := pg8_62
  have mk := marked_ok (P := P) (W := W) (n := n + 4) (b := 0) (S := []) hR (fun r hr => by rw [hl r hr]; omega)
  have st := stairs_call (P := P) (W := W) (n := n) (b := 0) (S := []) (R := markedP R) (N := w + R.length) (w := w) (by omega) (by omega) hw (by simp [markedP]; omega) (marked_len hl) (fun r hr => bit_bd (marked_bit hb r hr)) hW
  have e0 : opBin ⟨callF P W (n + 5), P, 0, W⟩ false .add (rowD t) (.lst (List.replicate R.length (.tup [.int 0, .int 1]))) [] = .ok (rowD (t ++ zeros R.length)) [] := by
    have e : opBin ⟨callF P W (n + 5), P, 0, W⟩ false .add (rowD t) (.lst (List.replicate R.length (.tup [.int 0, .int 1]))) [] = newL false (t.map pD ++ List.replicate R.length (.tup [.int 0, .int 1])) [] := rfl
    rw [e, newL_ok (by simp [szl]; omega)]
    unfold rowD zeros
    rw [List.map_append, List.map_replicate]; rfl
  have er : opBin ⟨callF P W (n + 5), P, 0, W⟩ false .mul (.lst [.tup [.int 0, .int 1]]) (.int (R.length : Int)) [] = .ok (.lst (List.replicate R.length (.tup [.int 0, .int 1]))) [] := by
    have e : opBin ⟨callF P W (n + 5), P, 0, W⟩ false .mul (.lst [.tup [.int 0, .int 1]]) (.int (R.length : Int)) [] = if ((0 : Int) ≤ R.length ∧ (R.length : Int) ≤ 1000) ∧ ([D.tup [.int 0, .int 1]] : List D).length ≤ 1000 then newL false (List.replicate (R.length : Int).toNat [D.tup [.int 0, .int 1]]).flatten [] else .bad := rfl
    rw [e, if_pos ⟨⟨by omega, by omega⟩, by simp⟩]
    have : (List.replicate (R.length : Int).toNat [D.tup [.int 0, .int 1]]).flatten = List.replicate R.length (.tup [.int 0, .int 1]) := by
      rw [Int.toNat_natCast]
      generalize R.length = k
      induction k with
      | zero => rfl
      | succ k ih => rw [List.replicate_succ, List.flatten_cons, ih]; rfl
    rw [this, newL_ok (by simp [szl]; omega)]
  rw [callF_def (P := P) (fd := c62) hc62 rfl rfl (by simp [D.loL, rowD_lo, rowsQ_lo])]
  simp [c62, TD.start, rowD_len, list_row, show t.length ≤ szl by unfold szl; omega, show w ≤ szl by unfold szl; omega, hg, rowsQ_len, er, e0, ht]
  rw [s_loop (as := [fndD (combF R w)]) (by simp [mk, st]; rfl) rfl rfl]
  generalize hf : forL _ _ _ _ = r
  obtain ⟨σ', S', rfl, rfl, x4, x5, x6, rfl⟩ := forL_pre_e hf rfl (fun a σ S => S = [] ∧ ∃ x4 x5 x6, σ = [some (rowsQ R), some (rowD t), some (.int (w : Int)), some (rowD (hereS a (t ++ zeros R.length))), x4, x5, x6]) (fun a p c hac σ S hI => by
    obtain ⟨rfl, x4, x5, x6, rfl⟩ := hI
    have la : a.length ≤ 6 := by
      have := congrArg List.length hac
      simp at this; omega
    have tb : bitR (t ++ zeros R.length) := fun x hx => by
      rcases List.mem_append.mp hx with z | z
      · exact htb x z
      · exact zeros_bit _ x z
    have mem : ∀ q ∈ a, q ∈ combF R w := fun q hq => by rw [hac]; exact List.mem_append_left _ hq
    have hp : p ∈ combF R w := by rw [hac]; exact List.mem_append_right _ List.mem_cons_self
    obtain ⟨g1, g2, _⟩ := here_ok (bk_pos w) (F := a) (t := t ++ zeros R.length) (N := w + R.length) (H := 1) (Nat.le_refl _) (by simp [zeros, ht]) (bit_bd tb) (fun q hq => (f4 q (mem q hq)).2)
    obtain ⟨p1, p2, p3⟩ := f4 p hp
    have wo := without_ok (P := P) (W := W) (n := n + 1) (b := 0) (S := []) (r := hereS a (t ++ zeros R.length)) (base := p.2) (k := p.1) (a := 385) (c := 64) (by omega) (by omega) (bd_pow hw la g2) (bd_ub hw p3) (by omega) hW
    have e : hereS (a ++ [p]) (t ++ zeros R.length) = withoutP (hereS a (t ++ zeros R.length)) p.2 p.1 := by unfold hereS; rw [List.foldl_append]; rfl
    rw [e]
    refine ⟨[some (rowsQ R), some (rowD t), some (.int (w : Int)), some (rowD (withoutP (hereS a (t ++ zeros R.length)) p.2 p.1)), some (.int (p.1 : Int)), some (rowD p.2), x6], [], ?_, rfl, _, _, _, rfl⟩
    rw [loopF_2]
    simp [wo]) ⟨rfl, none, none, none, rfl⟩
  have eH : hereS (combF R w) (t ++ zeros R.length) = combH R w t := rfl
  rw [eH]
  have ubH := bd_pow hw (by omega) f2
  unfold combR
  generalize combH R w t = H at f1 ubH ⊢
  have hh : opSl false (rowD H) (some none) (some (some (w : Int))) [] = .ok (.lst ((List.range w).map fun i => pD (ent H i))) [] := by
    unfold rowD
    rw [cut_hi (by simp; omega) (by simp; omega), ← List.map_take, take_ent H w (by omega), List.map_map]; rfl
  have hd : opSl false (rowD H) (some (some (w : Int))) (some none) [] = .ok (rowD (H.drop w)) [] := by
    unfold rowD
    rw [cut_lo (by simp; omega) (by simp; omega), ← List.map_drop]
  simp
  rw [compB_pure1 (as := [.lst ((List.range w).map fun i => pD (ent H i))]) (l := List.range w) (e := fun i => pD (ent H i)) (v := fun i => .bl (!decide ((ent H i).1 = 0))) (by simp [partOf, hh]) rfl rfl (fun i _ => turn_1 rfl (by simp) (by simp [wipeD, pD_0, i_ne])) (by simp [szl]; omega)]
  have an := fun c S => any_lst (c := c) (mu := false) (S := S) (l := List.range w) (f := fun i => !decide ((ent H i).1 = 0))
  have qe : (List.range w).any (fun i => !decide ((ent H i).1 = 0)) = !((List.range w).all fun i => decide ((ent H i).1 = 0)) := by
    rw [List.not_all_eq_any_not]
  rw [qe] at an
  generalize hq : (List.range w).all (fun i => decide ((ent H i).1 = 0)) = q at an
  have al : (∀ x, x < w → (ent H x).1 = 0) ↔ q = true := by
    rw [← hq, List.all_eq_true]; simp
  cases q
  · have al' : ¬ ∀ x, x < w → (ent H x).1 = 0 := fun z => by have := al.mp z; cases this
    rw [if_neg al']
    simp [an, fin, combD]
  · rw [if_pos (al.mpr rfl)]
    simp [an]
    rw [compB_pure1 (as := [rowD (H.drop w)]) (l := H.drop w) (e := pD) (v := fun x => pD (lowestP (-x.1) x.2)) (by simp [partOf, hd]) rfl rfl (fun x hx => by
      obtain ⟨lx, ux⟩ := ubH x (List.mem_of_mem_drop hx)
      have lo := lowest_ok (P := P) (W := W) (n := n + 3) (b := 0) (S := []) (t := -x.1) lx.ne ux.snd (by omega) hW
      exact turn_1 rfl (by simp) (by simp [wipeD, pD_0, pD_1, negB, lo])) (by simp [szl]; omega)]
    have : D.lst ((H.drop w).map fun x => pD (lowestP (-x.1) x.2)) = rowD ((H.drop w).map fun x => lowestP (-x.1) x.2) := by unfold rowD; rw [List.map_map]; rfl
    rw [this]
    simp [fin, frz_pure rowD_lo, combD]
theorem tells_by_ok [T71 P] {M : List (List Int)} {w : Nat} {lot : List Nat} {t : List Int} (hb : Bits M w) (hw : w ≤ 6) (hlot : ∀ k ∈ lot, k < M.length) (hll : lot.length ≤ 90) (ht : t.length = w) (htb : ∀ x ∈ t, x = 0 ∨ x = 1) (hW : Wide W) : callF P W (n + 7) b 71 [rowsQ (qs M), oT lot, rowD (wholeR t)] S = .ok (.bl (tellQ M w lot t)) S := by
  rw [callF_def (P := P) (fd := c71) hc71 rfl rfl (by simp [D.loL, rowD_lo, rowsQ_lo, oT_lo])]
  have pk := picked_ok (P := P) (W := W) (n := n + 5) (b := 0) (S := []) (R := qs M) (lot := lot) (fun k hk => by simpa [qs] using hlot k hk) (by omega)
  rw [pick_qs] at pk
  have bq := (hb.pick hlot).qs
  have tb : bitR (wholeR t) := fun x hx => by
    obtain ⟨i, hi, rfl⟩ := List.mem_map.mp hx
    rcases htb i hi with rfl | rfl
    · exact .inl rfl
    · exact .inr rfl
  have cb := combination_ok (P := P) (W := W) (n := n) (b := 0) (S := []) (R := qs (pickM M lot)) (t := wholeR t) (w := w) (by simp [qs, pickM]; exact hll) hw bq.1 bq.2 (by simp [wholeR, ht]) tb hW
  unfold tellQ
  cases h : combR (qs (pickM M lot)) w (wholeR t) with
  | none => rw [h] at cb; simp [c71, TD.start, pk, cb, combD, iscB, fin]
  | some r =>
    rw [h] at cb
    have i : iscB true .non (rowD r) ([] : Store) = .ok (.bl true) [] := rfl
    simp [c71, TD.start, pk, cb, combD, i, fin]
theorem tellQ_iff {M : List (List Int)} {w : Nat} {lot : List Nat} {t : List Int} (hb : Bits M w) (hlot : ∀ k ∈ lot, k < M.length) (ht : t.length = w) (htb : ∀ x ∈ t, x = 0 ∨ x = 1) : tellQ M w lot t = true ↔ InS ((pickM M lot).map vecI) (vecI t) := by
  have bq := (hb.pick hlot).qs
  have tb : bitR (wholeR t) := fun x hx => by
    obtain ⟨i, hi, rfl⟩ := List.mem_map.mp hx
    rcases htb i hi with rfl | rfl
    · exact .inl rfl
    · exact .inr rfl
  unfold tellQ
  rw [combR_iff bq.1 bq.2 (by simp [wholeR, ht]) tb, qs_vec]
  have : vec (wholeR t) = vecI t := vec_whole t
  rw [this]
end
end TD

set_option Elab.async false
set_option linter.all false
set_option maxRecDepth 100000
set_option maxHeartbeats 4000000
set_option autoImplicit false
/-! WS: the law's rank at work; what meets; lists of lots. -/
namespace TD
open PySem
open L2 (V)
theorem lrStep_ub {e : Nat} {base row : List Int} (hb : ∀ x ∈ base, Ub e x) (hr : ∀ x ∈ row, Ub e x) (h0 : 1 ≤ e) (k : Nat) : ∀ x ∈ lrStep base k row, Ub (2 * e + 1) x := by
  have z : ∀ l : List Int, (∀ x ∈ l, Ub e x) → Ub e (l.getD k 0) := fun l hl => by
    rw [List.getD_eq_getElem?_getD]
    by_cases hk : k < l.length
    · rw [List.getElem?_eq_getElem hk]; exact hl _ (List.getElem_mem hk)
    · rw [List.getElem?_eq_none (by omega)]
      unfold Ub; have := Nat.pow_pos (n := e) (show 0 < 2 by omega); simpa using this
  intro x hx
  unfold lrStep at hx
  obtain ⟨p, hp, rfl⟩ := List.mem_map.mp hx
  obtain ⟨p1, p2⟩ := List.of_mem_zip hp
  have a := ub_mul (z base hb) (hr _ p1)
  have b := ub_mul (z row hr) (hb _ p2)
  rw [show e + e = 2 * e by omega] at a b
  exact ub_sub a b
section
variable {P : Prog} {W n b : Nat} {S : Store}
theorem iL_pl {n : Nat} (q : List Int) : Pl (n + 1) (iL q) := .lst n _ (pl_ints q)
theorem rows_plI {n : Nat} (M : List (List Int)) : ∀ x ∈ M.map iL, Pl (n + 1) x := fun x hx => by
  obtain ⟨q, _, rfl⟩ := List.mem_map.mp hx
  exact iL_pl q
theorem i_enum {q : List Int} : itemsOf .enum [iL q] S = some ((List.range q.length).map fun (i : Nat) => D.tup [.int (i : Int), .int (q.getD i 0)]) := by
  unfold iL itemsOf
  simp only [seqA, seqL, Option.map_some]
  congr 1
  apply List.ext_getElem?
  intro i
  simp only [List.getElem?_mapIdx, List.getElem?_map]
  by_cases h : i < q.length
  · rw [List.getElem?_eq_getElem h, List.getElem?_range h]; simp [h]
  · rw [List.getElem?_eq_none (by omega), List.getElem?_eq_none (by simp; omega)]; simp
theorem zip_ints (r s : List Int) : List.zipWith (fun x y => D.tup [x, y]) (r.map D.int) (s.map D.int) = (r.zip s).map fun q => D.tup [.int q.1, .int q.2] := by
  induction r generalizing s with
  | nil => simp
  | cons x r ih =>
    cases s with
    | nil => simp
    | cons y s => simp [ih]
theorem list_iL {c : Cn} {q : List Int} (h : q.length ≤ 1000) : opBf c .list false [iL q] S = .ok (iL q) S := by
  have e : opBf c .list false [iL q] S = newL false (q.map .int) S := rfl
  rw [e, newL_ok (by simp [szl]; omega)]; rfl
def placesN (q : List Int) : List Nat := (List.range q.length).filter fun i => decide (q.getD i 0 ≠ 0)
theorem places_find (q : List Int) : match q.findIdx? fun x => decide (x ≠ 0) with
  | none => placesN q = []
  | some k => k < q.length ∧ ∃ t, placesN q = k :: t := by
  have g : ∀ i (h : i < q.length), q.getD i 0 = q[i] := fun i h => by rw [List.getD_eq_getElem?_getD, List.getElem?_eq_getElem h]; rfl
  split
  · rename_i h
    have hn := List.findIdx?_eq_none_iff.mp h
    unfold placesN
    rw [List.filter_eq_nil_iff]
    intro i hi
    have hi := List.mem_range.mp hi
    rw [g i hi]
    have := hn _ (List.getElem_mem hi)
    simpa using this
  · rename_i k h
    obtain ⟨h1, h2, h3⟩ := List.findIdx?_eq_some_iff_getElem.mp h
    refine ⟨h1, ?_⟩
    unfold placesN
    rw [range_cut h1, List.filter_append]
    have e : (List.range k).filter (fun i => decide (q.getD i 0 ≠ 0)) = [] := by
      rw [List.filter_eq_nil_iff]
      intro i hi
      have hi := List.mem_range.mp hi
      rw [g i (by omega)]
      have := h3 i hi
      simpa using this
    rw [e, List.nil_append, List.filter_cons_of_pos (by rw [g k h1]; exact h2)]
    exact ⟨_, rfl⟩
theorem lr_succ (f : Nat) (L : List (List Int)) : lr (f + 1) L = match L.getLast? with
  | none => 0
  | some base => match base.findIdx? fun x => decide (x ≠ 0) with
    | none => lr f L.dropLast
    | some k => lr f (L.dropLast.map (lrStep base k)) + 1 := rfl
theorem lr_nil (f : Nat) : lr f [] = 0 := by cases f <;> rfl
theorem compB_refT {ι : Type} {own : List (Str × Nat)} {t : Tg} {src cs elt : Ev} {σ : Sl} {k : Nat} {l : List ι} {e v : ι → D} (hs : src σ S = .ok (.tup [.ref k]) S) (hk : S[k]? = some (.lst (l.map e))) (ht : ∀ i ∈ l, turnB t cs elt (wipeD σ (own.map (·.2))) (e i) (S.set k (.lck (l.map e))) = .ok [v i] (S.set k (.lck (l.map e)))) (hl : l.length ≤ szl) : compB true own t .val src cs elt σ S = .ok (.ref S.length) (S ++ [.lst (l.map v)]) := by
  have hkl : k < S.length := (List.getElem?_eq_some_iff.mp hk).1
  unfold compB
  have e1 : itemsOf .val [.ref k] S = some (l.map e) := by simp [itemsOf, seqA, seqL, hk]
  simp only [hs, bind_o, argsOf, e1, refsOf]
  unfold within
  simp only [lockS, openS, hk, compL_map1 l ht, unlockS]
  rw [List.getElem?_set_self hkl]
  simp only [List.set_set]
  have es : S.set k (.lst (l.map e)) = S := by
    apply List.ext_getElem?
    intro i
    by_cases hi : k = i
    · subst hi; rw [List.getElem?_set_self hkl, hk]
    · rw [List.getElem?_set_ne hi]
  rw [es]
  simp only [bind_o]
  rw [newL_mu (by simpa using hl)]; rfl
theorem law_rank_ok [T79 P] {M : List (List Int)} {w : Nat} (hM : M.length ≤ 16) (hw : w ≤ 100) (hl : ∀ r ∈ M, r.length = w) (hu : ∀ r ∈ M, ∀ x ∈ r, Ub 1 x) (hW : 1000 ≤ W) : callF P W (n + 1) b 79 [rowsD M] S = .ok (.int (lawRank M : Nat)) S := by
  rw [callF_def (P := P) (fd := c79) hc79 rfl rfl (by simp [D.loL, rowsD_lo])]
  have key : ∃ S1, exec ⟨callF P W n, P, 0, W⟩ c79.body [some (rowsD M), none, none, none, none, none, none, none, none, none] [] = .ok (.rt (.int (lawRank M : Nat))) S1 := by
    simp only [c79]
    simp
    have c0 : compB true [("row", 5)] (.nm 5) .val (ev ⟨callF P W n, P, 0, W⟩ (.cons (.var 0) .nil)) (ev ⟨callF P W n, P, 0, W⟩ .nil) (ev ⟨callF P W n, P, 0, W⟩ (.bf .list false (.cons (.var 5) (.nil)))) [some (rowsD M), none, none, none, none, none, none, none, none, none] [] = .ok (.ref 0) [.lst (M.map iL)] := by
      unfold compB
      have e1 : itemsOf .val [rowsD M] [] = some (M.map iL) := rfl
      have e2 : refsOf [rowsD M] = [] := rfl
      simp only [ev, getS, Res.of, bind_o, argsOf, List.getElem?_cons_zero, Option.join_some, e1, e2, within_nil]
      rw [compL_map1 (e := iL) (v := iL) M fun r hr => turn_1 rfl (by simp) (by simp [wipeD, list_iL (by rw [hl r hr]; omega : r.length ≤ 1000)])]
      simp only [bind_o]
      rw [newL_mu (by simp [szl]; omega)]; rfl
    rw [c0]
    simp [putAll]
    generalize hw' : whileL _ _ _ _ _ = r
    obtain ⟨σ', S', rfl, k, x3, x4, x5, x6, x7, x8, x9, rfl⟩ := whileL_inv_e hw' (fun (L : List (List Int)) σ S => ∃ k f x3 x4 x5 x6 x7 x8 x9, σ = [some (rowsD M), some (.ref k), some (.int (f : Nat)), x3, x4, x5, x6, x7, x8, x9] ∧ S[k]? = some (.lst (L.map iL)) ∧ L.length ≤ 16 ∧ f + lr L.length L = lawRank M ∧ (∀ r ∈ L, r.length = w) ∧ (∀ r ∈ L, ∀ x ∈ r, Ub (2 ^ (18 - L.length) - 1) x))
      (fun σ S => ∃ k x3 x4 x5 x6 x7 x8 x9, σ = [some (rowsD M), some (.ref k), some (.int (lawRank M : Nat)), x3, x4, x5, x6, x7, x8, x9]) (fun L => L.length) (fun L σ S hI => by
        obtain ⟨k, f, x3, x4, x5, x6, x7, x8, x9, rfl, hk, h16, hf, hlen, hub⟩ := hI
        have hkl : k < S.length := (List.getElem?_eq_some_iff.mp hk).1
        have cn : ∀ c, opCmp c .ne (.ref k) (.lst []) S = .ok (.bl (!decide (L = []))) S := fun c => by
          rw [op_ne_ref hk (n := 2) (m := 1) (.lst 1 _ (rows_plI L)) (.lst 0 _ fun _ h => by simp at h) (by omega) (by omega)]
          congr 3
          rw [decide_eq_decide]
          constructor
          · intro e; have := D.lst.inj e; simpa using this
          · rintro rfl; rfl
        by_cases ne : L = []
        · left
          subst ne
          refine ⟨kwh_ (by simp [cn]), k, x3, x4, x5, x6, x7, x8, x9, ?_⟩
          rw [lr_nil, Nat.add_zero] at hf
          rw [hf]
        · right
          refine ⟨kwh_ (by simp [cn, ne]), ?_⟩
          have el : L = L.dropLast ++ [L.getLast ne] := (List.dropLast_concat_getLast ne).symm
          have gl : L.getLast? = some (L.getLast ne) := List.getLast?_eq_some_getLast ne
          generalize hB : L.getLast ne = base at el gl
          have hbm : base ∈ L := by rw [← hB]; exact List.getLast_mem ne
          have lb := hlen base hbm
          have lL : 1 ≤ L.length := List.length_pos_iff.mpr ne
          have ldl : L.dropLast.length = L.length - 1 := by simp
          have dm : ∀ r ∈ L.dropLast, r ∈ L := fun r hr => List.dropLast_subset _ hr
          have pop : bmB ⟨callF P W n, P, 0, W⟩ .pop (.ref k) S (.tup []) S = .ok (iL base) (S.set k (.lst (L.dropLast.map iL))) := by
            have e2 : (L.map iL).getLast? = some (iL base) := by rw [List.getLast?_map, gl]; rfl
            have e3 : (L.map iL).dropLast = L.dropLast.map iL := by rw [List.map_dropLast]
            unfold bmB
            simp only [recvT, hk, if_true, opBm, e2, e3, argsOf_]
          generalize hS1 : S.set k (.lst (L.dropLast.map iL)) = S1 at pop
          have hk1 : S1[k]? = some (.lst (L.dropLast.map iL)) := by rw [← hS1, List.getElem?_set_self hkl]
          have cpl : ∀ {y3 y4 y5 y6 y7 y8 y9 : Option D}, compB false [("place", 7), ("one", 8)] (.cons (.nm 7) (.cons (.nm 8) .nil)) .enum (ev ⟨callF P W n, P, 0, W⟩ (.cons (.var 3) .nil)) (ev ⟨callF P W n, P, 0, W⟩ (.cons (.cmp .ne (.var 8) (.lit (.int (0)))) .nil)) (ev ⟨callF P W n, P, 0, W⟩ (.var 7)) [some (rowsD M), some (.ref k), some (.int (f : Nat)), some (iL base), y4, y5, y6, y7, y8, y9] S1 = .ok (iL (natsZ (placesN base))) S1 := by
            intro y3 y4 y5 y6 y7 y8 y9
            rw [compB_pure (as := [iL base]) (l := List.range base.length) (e := fun (i : Nat) => D.tup [.int (i : Int), .int (base.getD i 0)]) (v := fun (i : Nat) => D.int (i : Int)) (p := fun i => decide (base.getD i 0 ≠ 0)) (by simp) i_enum rfl (fun i _ => turn_if rfl (by simp [-List.getD_eq_getElem?_getD, wipeD, i_ne]) fun _ => by simp [wipeD]) (by simp [szl]; omega)]
            unfold iL natsZ placesN; rw [List.map_map]; rfl
          have pf := places_find base
          have elr : lr L.length L = match base.findIdx? fun x => decide (x ≠ 0) with
            | none => lr (L.length - 1) L.dropLast
            | some j => lr (L.length - 1) (L.dropLast.map (lrStep base j)) + 1 := by
            obtain ⟨q, hq⟩ : ∃ q, L.length = q + 1 := ⟨L.length - 1, by omega⟩
            rw [hq, lr_succ, gl]; rfl
          have pmono : 2 ^ (18 - L.length) - 1 ≤ 2 ^ (18 - (L.length - 1)) - 1 := Nat.sub_le_sub_right (Nat.pow_le_pow_right (by omega) (by omega)) 1
          cases hfi : base.findIdx? fun x => decide (x ≠ 0) with
          | none =>
            rw [hfi] at pf elr
            dsimp only at pf elr
            have c2 := cpl (y3 := x3) (y4 := x4) (y5 := x5) (y6 := x6) (y7 := x7) (y8 := x8) (y9 := x9)
            rw [pf] at c2
            refine ⟨L.dropLast, [some (rowsD M), some (.ref k), some (.int (f : Nat)), some (iL base), some (iL []), x5, x6, x7, x8, x9], S1, ?_, ⟨k, f, _, _, _, _, _, _, _, rfl, hk1, by omega, by rw [ldl, ← elr]; exact hf, fun r hr => hlen r (dm r hr), fun r hr x hx => by rw [ldl]; exact ub_mono (hub r (dm r hr) x hx) pmono⟩, by rw [ldl]; omega⟩
            simp [pop, c2, natsZ, iL_ne0]
          | some j =>
            rw [hfi] at pf elr
            dsimp only at pf elr
            obtain ⟨hj, t, gt⟩ := pf
            have c2 := cpl (y3 := x3) (y4 := x4) (y5 := x5) (y6 := x6) (y7 := x7) (y8 := x8) (y9 := x9)
            have nn : ∀ c S, opCmp c .ne (iL (natsZ (placesN base))) (.lst []) S = .ok (.bl true) S := fun c S => by rw [iL_ne0]; simp [gt, natsZ]
            have g0 : ∀ (c : Cn) S, opIdx c (iL (natsZ (placesN base))) (.int 0) S = .ok (.int (j : Int)) S := fun c S => by
              rw [gt]; exact idx_lst (k := 0) rfl
            generalize iL (natsZ (placesN base)) = G at c2 nn g0
            have c3 := compB_refT (S := S1) (own := [("row", 5)]) (t := .nm 5) (k := k) (l := L.dropLast) (e := iL) (v := fun r => iL (lrStep base j r)) (src := ev ⟨callF P W n, P, 0, W⟩ (.cons (.var 1) .nil)) (cs := ev ⟨callF P W n, P, 0, W⟩ .nil) (elt := ev ⟨callF P W n, P, 0, W⟩ (.comp false [("one", 8), ("other", 9)] (.bin false .sub (.bin false .mul (.idx (.var 3) (.var 6)) (.var 8)) (.bin false .mul (.idx (.var 5) (.var 6)) (.var 9))) (.cons (.nm 8) (.cons (.nm 9) (.nil))) .zip (.cons (.var 5) (.cons (.var 3) (.nil))) .nil)) (σ := [some (rowsD M), some (.ref k), some (.int ((f : Int) + 1)), some (iL base), some G, x5, some (.int (j : Int)), x7, x8, x9]) (by simp) hk1 (fun r hr => by
              have lr' := hlen r (dm r hr)
              refine turn_1 rfl (by simp) ?_
              simp [wipeD]
              rw [compB_pure1 (as := [iL r, iL base]) (l := r.zip base) (e := fun q => D.tup [.int q.1, .int q.2]) (v := fun q => .int (base.getD j 0 * q.1 - r.getD j 0 * q.2)) (by simp) (by
                have e : ∀ S, itemsOf .zip [iL r, iL base] S = some (List.zipWith (fun x y => D.tup [x, y]) (r.map D.int) (base.map D.int)) := fun S => rfl
                rw [e, zip_ints]) rfl (fun q hq => by
                obtain ⟨m1, m2⟩ := List.of_mem_zip hq
                have i1 : ∀ (c : Cn) S, opIdx c (iL base) (.int (j : Int)) S = .ok (.int (base.getD j 0)) S := fun c S => by
                  rw [iL_idx hj, List.getD_eq_getElem?_getD, List.getElem?_eq_getElem hj]; rfl
                have i2 : ∀ (c : Cn) S, opIdx c (iL r) (.int (j : Int)) S = .ok (.int (r.getD j 0)) S := fun c S => by
                  rw [iL_idx (by omega), List.getD_eq_getElem?_getD, List.getElem?_eq_getElem (by omega : j < r.length)]; rfl
                have gm : ∀ l : List Int, j < l.length → l.getD j 0 ∈ l := fun l h => by
                  rw [List.getD_eq_getElem?_getD, List.getElem?_eq_getElem h]; exact List.getElem_mem h
                have pl : 2 ^ (18 - L.length) ≤ 2 ^ 17 := Nat.pow_le_pow_right (by omega) (by omega)
                have p16 : (2 : Nat) ^ 17 = 131072 := by rfl
                have m3 := ar_mul_ub (hub base hbm _ (gm base hj)) (hub r (dm r hr) _ m1) (by omega)
                have m4 := ar_mul_ub (hub r (dm r hr) _ (gm r (by omega))) (hub base hbm _ m2) (by omega)
                exact turn_1 rfl (by simp) (by simp [-List.getD_eq_getElem?_getD, wipeD, i1, i2, b_int, m3, m4, ar_sub])) (by simp [szl]; omega)]
              unfold iL lrStep; rw [List.map_map]; rfl) (by simp [szl]; omega)
            have em : L.dropLast.map (fun r => iL (lrStep base j r)) = (L.dropLast.map (lrStep base j)).map iL := by rw [List.map_map]; rfl
            rw [em] at c3
            refine ⟨L.dropLast.map (lrStep base j), [some (rowsD M), some (.ref S1.length), some (.int ((f + 1 : Nat) : Int)), some (iL base), some G, x5, some (.int (j : Int)), x7, x8, x9], S1 ++ [.lst ((L.dropLast.map (lrStep base j)).map iL)], ?_, ⟨S1.length, f + 1, _, _, _, _, _, _, _, rfl, by simp, by simp; omega, ?_, fun r hr => ?_, fun r hr => ?_⟩, by simp; omega⟩
            · simp [pop, c2, nn, g0, b_int, ar_add, putAll, c3]
            · have e9 : lr L.length L = lr (L.length - 1) (L.dropLast.map (lrStep base j)) + 1 := elr
              rw [List.length_map, ldl]
              generalize lr L.length L = u1 at *
              generalize lr (L.length - 1) (L.dropLast.map (lrStep base j)) = u2 at *
              omega
            · obtain ⟨x, hx, rfl⟩ := List.mem_map.mp hr
              rw [lrStep_len (by rw [lb, hlen x (dm x hx)])]; exact hlen x (dm x hx)
            · obtain ⟨x, hx, rfl⟩ := List.mem_map.mp hr
              intro y hy
              have p1 : 2 ^ 1 ≤ 2 ^ (18 - L.length) := Nat.pow_le_pow_right (by omega) (by omega)
              have := lrStep_ub (hub base hbm) (hub x (dm x hx)) (by omega) j y hy
              rw [List.length_map, ldl, show 18 - (L.length - 1) = (18 - L.length) + 1 by omega, Nat.pow_succ]
              exact ub_mono this (by omega)) M ⟨0, 0, none, none, none, none, none, none, none, rfl, rfl, hM, by simp [lawRank], hl, fun r hr x hx => ub_mono (hu r hr x hx) (by
      have : 2 ^ 1 ≤ 2 ^ (18 - M.length) := Nat.pow_le_pow_right (by omega) (by omega)
      omega)⟩ (by omega)
    refine ⟨S', ?_⟩
    simp
  obtain ⟨S1, e⟩ := key
  have st : TD.start c79 [rowsD M] = [some (rowsD M), none, none, none, none, none, none, none, none, none] := rfl
  rw [st, e]
  simp [fin]
end
end TD

set_option Elab.async false
set_option linter.all false
set_option maxRecDepth 100000
set_option maxHeartbeats 4000000
set_option autoImplicit false
/-! WT: _law_tells, _law_meets, _law_is, all lots. -/
namespace TD
open PySem
open L2 (V)
def tellL (M : List (List Int)) (lot : List Nat) (t : List Int) : Bool := decide (lawRank (pickM M lot ++ [t]) = lawRank (pickM M lot))
theorem filter_snoc {α : Type} (p : α → Bool) (a : List α) (l : α) : (a ++ [l]).filter p = if p l = true then a.filter p ++ [l] else a.filter p := by
  rw [List.filter_append]
  by_cases h : p l = true
  · rw [if_pos h, List.filter_cons_of_pos h]; rfl
  · rw [if_neg h, List.filter_cons_of_neg h]; simp
theorem set_back {S : Store} {k : Nat} {x : Cell} (h : S[k]? = some x) : S.set k x = S := by
  have hkl : k < S.length := (List.getElem?_eq_some_iff.mp h).1
  apply List.ext_getElem?
  intro i
  by_cases hi : k = i
  · subst hi; rw [List.getElem?_set_self hkl, h]
  · rw [List.getElem?_set_ne hi]
section
variable {P : Prog} {W n b : Nat} {S : Store}
theorem compB_refF {ι : Type} {own : List (Str × Nat)} {t : Tg} {src cs elt : Ev} {σ : Sl} {k : Nat} {l : List ι} {e v : ι → D} {p : ι → Bool} (hs : src σ S = .ok (.tup [.ref k]) S) (hk : S[k]? = some (.lst (l.map e))) (ht : ∀ i ∈ l, turnB t cs elt (wipeD σ (own.map (·.2))) (e i) (S.set k (.lck (l.map e))) = .ok (if p i then [v i] else []) (S.set k (.lck (l.map e)))) (hl : l.length ≤ szl) : compB false own t .val src cs elt σ S = .ok (.lst ((l.filter p).map v)) S := by
  have hkl : k < S.length := (List.getElem?_eq_some_iff.mp hk).1
  unfold compB
  have e1 : itemsOf .val [.ref k] S = some (l.map e) := by simp [itemsOf, seqA, seqL, hk]
  simp only [hs, bind_o, argsOf, e1, refsOf]
  unfold within
  simp only [lockS, openS, hk, compL_map l ht, unlockS]
  rw [List.getElem?_set_self hkl]
  simp only [List.set_set]
  rw [set_back hk]
  simp only [bind_o]
  rw [newL_ok (by rw [List.length_map]; exact Nat.le_trans (List.length_filter_le _ _) hl)]; rfl
theorem compB_lckF {ι : Type} {own : List (Str × Nat)} {t : Tg} {src cs elt : Ev} {σ : Sl} {k : Nat} {l : List ι} {e v : ι → D} {p : ι → Bool} (hs : src σ S = .ok (.tup [.ref k]) S) (hk : S[k]? = some (.lck (l.map e))) (ht : ∀ i ∈ l, turnB t cs elt (wipeD σ (own.map (·.2))) (e i) S = .ok (if p i then [v i] else []) S) (hl : l.length ≤ szl) : compB false own t .val src cs elt σ S = .ok (.lst ((l.filter p).map v)) S := by
  unfold compB
  have e1 : itemsOf .val [.ref k] S = some (l.map e) := by simp [itemsOf, seqA, seqL, hk]
  simp only [hs, bind_o, argsOf, e1, refsOf]
  unfold within
  simp only [lockS, openS, hk, compL_map l ht, unlockS]
  simp only [bind_o]
  rw [newL_ok (by rw [List.length_map]; exact Nat.le_trans (List.length_filter_le _ _) hl)]; rfl
theorem law_least_st [T78 P] {ls : List (List Nat)} {k : Nat} (hk : S[k]? = some (.lst (ls.map oT))) (hl : ls.length ≤ 1000) (hlen : ∀ l ∈ ls, l.length ≤ 1000) : callF P W (n + 2) b 78 [.ref k] S = .ok (lotsD (leastG ls)) S := by
  have hkl : k < S.length := (List.getElem?_eq_some_iff.mp hk).1
  rw [callF_st (P := P) (fd := c78) hc78 rfl (by simp [c78])]
  have st : TD.start c78 [.ref k] = [some (.ref k), none, none] := rfl
  rw [st]
  have cb : ∀ base, compB false [("lot", 1)] (.nm 1) .val (ev ⟨callF P W (n + 1), P, base, W⟩ (.cons (.var 0) .nil)) (ev ⟨callF P W (n + 1), P, base, W⟩ (.cons (.not (.bf .any false (.cons (.comp false [("other", 2)] (.and (.cmp .ne (.var 2) (.var 1)) (.call 77 (.cons (.var 2) (.cons (.var 1) (.nil))))) (.nm 2) .val (.cons (.var 0) .nil) .nil) (.nil)))) .nil)) (ev ⟨callF P W (n + 1), P, base, W⟩ (.var 1)) [some (.ref k), none, none] S = .ok (lotsD (leastG ls)) S := fun base => by
    rw [compB_refF (S := S) (k := k) (l := ls) (e := oT) (v := oT) (p := fun l => !(ls.any fun o => !decide (o = l) && insB o l)) (by simp) hk (fun l hl' => by
      have hk' : (S.set k (.lck (ls.map oT)))[k]? = some (.lck (ls.map oT)) := by rw [List.getElem?_set_self hkl]
      generalize S.set k (.lck (ls.map oT)) = S' at hk' ⊢
      refine turn_if rfl ?_ fun _ => by simp [wipeD]
      simp [wipeD]
      rw [compB_lckF (S := S') (k := k) (l := ls) (e := oT) (v := fun o => .bl (!decide (o = l) && insB o l)) (p := fun _ => true) (by simp) hk' (fun o ho => by
        have := turn_1 (t := .nm 2) (S := S') (σ := [some (.ref k), some (oT l), none]) (x := oT o) (y := .bl (!decide (o = l) && insB o l)) (cs := ev ⟨callF P W (n + 1), P, base, W⟩ .nil) (elt := ev ⟨callF P W (n + 1), P, base, W⟩ (.and (.cmp .ne (.var 2) (.var 1)) (.call 77 (.cons (.var 2) (.cons (.var 1) (.nil)))))) rfl (by simp) (by
          simp [lot_ne, law_inside_ok (hlen o ho)]
          by_cases z : o = l <;> simp [z])
        simpa [wipeD] using this) (by simp [szl]; omega)]
      have an := fun c S => any_lst (c := c) (mu := false) (S := S) (l := ls) (f := fun o => !decide (o = l) && insB o l)
      have fe : ls.filter (fun _ => true) = ls := List.filter_eq_self.mpr fun _ _ => rfl
      simp only [fe, bind_o, kcons2_, kbf_, argsOf_, an, kcons1_]
      simp [an]) (by simp [szl]; omega)]
    rfl
  simp [c78, cb, finL, leave, frz_lo lotsD_lo]
theorem law_tells_ok [T80 P] {M : List (List Int)} {w : Nat} {lot : List Nat} {t : List Int} (hb : Bits M w) (hw : w ≤ 100) (hlot : ∀ k ∈ lot, k < M.length) (hll : lot.length ≤ 15) (ht : t.length = w) (htb : ∀ x ∈ t, x = 0 ∨ x = 1) (hW : 1000 ≤ W) : callF P W (n + 2) b 80 [rowsD M, oT lot, iL t] S = .ok (.bl (tellL M lot t)) S := by
  rw [callF_def (P := P) (fd := c80) hc80 rfl rfl (by simp [D.loL, rowsD_lo, oT_lo])]
  simp [c80, TD.start]
  rw [compB_pure1 (as := [oT lot]) (l := lot) (e := fun (k : Nat) => D.int (k : Int)) (v := fun (k : Nat) => iL (M.getD k [])) (by simp) oT_items rfl (fun k hk => turn_1 rfl (by simp) (by simp [-List.getD_eq_getElem?_getD, wipeD, rowsD_idx (hlot k hk)])) (by simp [szl]; omega)]
  have e1 : D.lst (lot.map fun k => iL (M.getD k [])) = rowsD (pickM M lot) := by unfold rowsD pickM; rw [List.map_map]; rfl
  rw [e1]
  have bp := hb.pick hlot
  have ub01 : ∀ x : Int, x = 0 ∨ x = 1 → Ub 1 x := fun x h => by rcases h with rfl | rfl <;> (unfold Ub; decide)
  have pl : (pickM M lot).length ≤ 15 := by simp [pickM]; exact hll
  have r1 := law_rank_ok (P := P) (W := W) (n := n) (b := 0) (S := []) (M := pickM M lot) (w := w) (by omega) hw (fun r hr => (bp r hr).1) (fun r hr x hx => ub01 x ((bp r hr).2 x hx)) hW
  have r2 := law_rank_ok (P := P) (W := W) (n := n) (b := 0) (S := []) (M := pickM M lot ++ [t]) (w := w) (by simp; omega) hw (fun r hr => by
    rcases List.mem_append.mp hr with z | z
    · exact (bp r z).1
    · simp at z; subst z; exact ht) (fun r hr x hx => by
    rcases List.mem_append.mp hr with z | z
    · exact ub01 x ((bp r z).2 x hx)
    · simp at z; subst z; exact ub01 x (htb x hx)) hW
  have ea : ∀ c : Cn, opBin c false .add (rowsD (pickM M lot)) (.lst [iL t]) [] = .ok (rowsD (pickM M lot ++ [t])) [] := fun c => by
    have e : opBin c false .add (rowsD (pickM M lot)) (.lst [iL t]) [] = newL false ((pickM M lot).map iL ++ [iL t]) [] := rfl
    rw [e, newL_ok (by simp [szl]; omega)]
    unfold rowsD; rw [List.map_append]; rfl
  have cz : decide (((lawRank (pickM M lot ++ [t]) : Nat) : Int) = ((lawRank (pickM M lot) : Nat) : Int)) = tellL M lot t := decide_eq_decide.mpr (by omega)
  generalize hp : pickM M lot ++ [t] = M2 at *
  simp [ea, r1, r2, i_eq, fin]
  exact cz
theorem tellL_iff {M : List (List Int)} {w : Nat} {lot : List Nat} {t : List Int} (hb : Bits M w) (hlot : ∀ k ∈ lot, k < M.length) (ht : t.length = w) : tellL M lot t = true ↔ InS ((pickM M lot).map vecI) (vecI t) := by
  have bp := hb.pick hlot
  unfold tellL
  rw [decide_eq_true_eq, lawRank_eq (N := w) (fun r hr => by
    rcases List.mem_append.mp hr with z | z
    · exact (bp r z).1
    · simp at z; subst z; exact ht), lawRank_eq (N := w) (fun r hr => (bp r hr).1), List.map_append, rk_perm (List.perm_append_comm)]
  exact rk_iff
theorem law_lots_ok [KB P] {m : Nat} (hm : m ≤ 6) (hW : 1000 ≤ W) : callF P W (n + 3) b 38 [.int (m : Int)] S = .ok (lotsD (lotsL m)) S := by
  obtain ⟨W', rfl⟩ : ∃ W', W = W' + 60 := ⟨W - 60, by omega⟩
  rcases m with _ | _ | _ | _ | _ | _ | _ | m
  · exact KB.ll0 W' n b S
  · exact KB.ll1 W' n b S
  · exact KB.ll2 W' n b S
  · exact KB.ll3 W' n b S
  · exact KB.ll4 W' n b S
  · exact KB.ll5 W' n b S
  · exact KB.ll6 W' n b S
  · omega
theorem all_lots_ok [KB P] {m : Nat} (h1 : 1 ≤ m) (hm : m ≤ 6) (hW : 1000 ≤ W) : callF P W (n + 5) b 24 [.int (m : Int)] S = .ok (lotsD (lotsL m)) S := by
  obtain ⟨W', rfl⟩ : ∃ W', W = W' + 140 := ⟨W - 140, by omega⟩
  rcases m with _ | _ | _ | _ | _ | _ | _ | m
  · omega
  · exact KB.al1 W' n b S
  · exact KB.al2 W' n b S
  · exact KB.al3 W' n b S
  · exact KB.al4 W' n b S
  · exact KB.al5 W' n b S
  · exact KB.al6 W' n b S
  · omega
theorem law_meets_ok [T82 P] {ls : List (List Nat)} {m : Nat} (hm : m ≤ 6) (hl : ls.length ≤ 1000) (hlen : ∀ l ∈ ls, l.length ≤ 1000) (hW : 1000 ≤ W) : callF P W (n + 4) b 82 [lotsD ls, .int (m : Int)] S = .ok (lotsD (meetL ls m)) S := by
  rw [callF_def (P := P) (fd := c82) hc82 rfl rfl (by simp [D.loL, lotsD_lo])]
  simp [c82, TD.start]
  rw [s_loop (as := [lotsD (lotsL m)]) (by simp [law_lots_ok hm hW]) lotsD_items rfl]
  have cnt := lots_count m (by omega)
  have p2 : 2 ^ m ≤ 2 ^ 6 := Nat.pow_le_pow_right (by omega) hm
  generalize hf : forL _ _ _ _ = r
  obtain ⟨σ', S', rfl, rfl, x3, x4, x5, rfl⟩ := forL_pre_e hf rfl (fun a σ S => S = [.lst ((a.filter fun l => ls.all fun one => one.any fun x => decide (x ∈ l)).map oT)] ∧ ∃ x3 x4 x5, σ = [some (lotsD ls), some (.int (m : Int)), some (.ref 0), x3, x4, x5]) (fun a l c hac σ S hI => by
    obtain ⟨rfl, x3, x4, x5, rfl⟩ := hI
    have la : a.length ≤ 64 := by
      have := congrArg List.length hac
      simp at this; omega
    have lfl : (a.filter fun l => ls.all fun one => one.any fun x => decide (x ∈ l)).length ≤ 64 := Nat.le_trans (List.length_filter_le _ _) la
    have ef : (a ++ [l]).filter (fun l => ls.all fun one => one.any fun x => decide (x ∈ l)) = if (ls.all fun one => one.any fun x => decide (x ∈ l)) = true then a.filter (fun l => ls.all fun one => one.any fun x => decide (x ∈ l)) ++ [l] else a.filter (fun l => ls.all fun one => one.any fun x => decide (x ∈ l)) := by
      exact filter_snoc _ _ _
    rw [ef]
    generalize a.filter (fun l => ls.all fun one => one.any fun x => decide (x ∈ l)) = F at lfl ⊢
    have cb : compB false [("one", 4)] (.nm 4) .val (ev ⟨callF P W (n + 3), P, 0, W⟩ (.cons (.var 0) .nil)) (ev ⟨callF P W (n + 3), P, 0, W⟩ .nil) (ev ⟨callF P W (n + 3), P, 0, W⟩ (.bf .any false (.cons (.comp false [("place", 5)] (.cmp .isin (.var 5) (.var 3)) (.nm 5) .val (.cons (.var 4) .nil) .nil) (.nil)))) [some (lotsD ls), some (.int (m : Int)), some (.ref 0), some (oT l), x4, x5] [.lst (F.map oT)] = .ok (.lst (ls.map fun one => .bl (one.any fun x => decide (x ∈ l)))) [.lst (F.map oT)] := by
      rw [compB_pure1 (as := [lotsD ls]) (l := ls) (e := oT) (v := fun one => .bl (one.any fun x => decide (x ∈ l))) (by simp) lotsD_items rfl (fun one ho => turn_1 rfl (by simp) (by
        simp [wipeD]
        rw [compB_pure1 (as := [oT one]) (l := one) (e := fun (k : Nat) => D.int (k : Int)) (v := fun (k : Nat) => .bl (decide (k ∈ l))) (by simp) oT_items rfl (fun k _ => turn_1 rfl (by simp) (by simp [wipeD, nat_in])) (by have := hlen one ho; simp [szl]; omega)]
        have an := fun c S => any_lst (c := c) (mu := false) (S := S) (l := one) (f := fun k => decide (k ∈ l))
        generalize one.any (fun k => decide (k ∈ l)) = q at an ⊢
        simp [an])) (by simp [szl]; omega)]
    have al := fun c S => all_lst (c := c) (mu := false) (S := S) (l := ls) (f := fun one => one.any fun x => decide (x ∈ l))
    have ap := bm_append (c := ⟨callF P W (n + 3), P, 0, W⟩) (v := oT l) (S1 := [.lst (F.map oT)]) (S := [.lst (F.map oT)]) (k := 0) rfl rfl (.inl (Nat.le_refl 0)) (by simp [szl]; omega)
    rw [loopF_nm]
    generalize ls.all (fun one => one.any fun x => decide (x ∈ l)) = q at al ⊢
    cases q
    · refine ⟨[some (lotsD ls), some (.int (m : Int)), some (.ref 0), some (oT l), x4, x5], [.lst (F.map oT)], ?_, rfl, _, _, _, rfl⟩
      simp [cb, al]
    · refine ⟨[some (lotsD ls), some (.int (m : Int)), some (.ref 0), some (oT l), x4, x5], [.lst ((F ++ [l]).map oT)], ?_, rfl, _, _, _, rfl⟩
      simp [cb, al, ap]) ⟨rfl, _, _, _, rfl⟩
  have gl : ∀ l ∈ (lotsL m).filter (fun l => ls.all fun one => one.any fun x => decide (x ∈ l)), l.length ≤ 1000 := fun l hl' => by
    have := lots_len (List.mem_filter.mp hl').1; omega
  have gn : ((lotsL m).filter fun l => ls.all fun one => one.any fun x => decide (x ∈ l)).length ≤ 1000 := by
    refine Nat.le_trans (List.length_filter_le _ _) ?_
    omega
  have lst := law_least_st (P := P) (W := W) (n := n + 1) (b := 0) (k := 0) (S := [.lst (((lotsL m).filter fun l => ls.all fun one => one.any fun x => decide (x ∈ l)).map oT)]) rfl gn gl
  simp [lst, fin, meetL, frz_pure lotsD_lo]
/-- plain data of bounded length -/
inductive Pz : Nat → D → Prop
  | non (n : Nat) : Pz n .non
  | int (n : Nat) (i : Int) : Pz n (.int i)
  | tup (n : Nat) (xs : List D) : xs.length ≤ 1000 → (∀ x ∈ xs, Pz n x) → Pz (n + 1) (.tup xs)
  | lst (n : Nat) (xs : List D) : xs.length ≤ 1000 → (∀ x ∈ xs, Pz n x) → Pz (n + 1) (.lst xs)
theorem Pz.pl {m : Nat} {d : D} (h : Pz m d) : Pl m d := by
  induction h with
  | non n => exact .non n
  | int n i => exact .int n i
  | tup n xs _ _ ih => exact .tup n xs ih
  | lst n xs _ _ ih => exact .lst n xs ih
theorem zip_self (xs : List D) : List.zipWith (fun x y => D.tup [x, y]) xs xs = xs.map fun x => D.tup [x, x] := by
  induction xs with
  | nil => rfl
  | cons x xs ih => simp [ih]
theorem is_refl [KA P] {m : Nat} {d : D} (h : Pz m d) : ∀ (n b : Nat) (S : Store), callF P W (n + m + 1) b 46 [d, d] S = .ok (.bl true) S := by
  induction h with
  | non m =>
    intro n b S
    rw [callF_def (P := P) (fd := c46) hc46 rfl rfl (by simp [D.loL])]
    simp [c46, TD.start, tyOf, isTy, iscB, fin]
  | int m i =>
    intro n b S
    rw [callF_def (P := P) (fd := c46) hc46 rfl rfl (by simp [D.loL])]
    simp [c46, TD.start, tyOf, isTy, iscB, fin, i_eq, b_ne, b_eq]
  | tup m xs hl hx ih =>
    intro n b S
    have lo : D.loL 0 xs = true := loL_iff.mpr fun x hx' => (hx x hx').pl.lo 0
    rw [show n + (m + 1) + 1 = (n + m + 1) + 1 by omega, callF_def (P := P) (fd := c46) hc46 rfl rfl (by simp [D.loL, D.lo, lo])]
    simp [c46, TD.start, tyOf, isTy, iscB, b_ne, b_eq, i_eq, len_tup]
    rw [compB_pure1 (as := [.tup xs, .tup xs]) (l := xs) (e := fun x => D.tup [x, x]) (v := fun _ => D.bl true) (by simp) (by
      have e : itemsOf .zip [.tup xs, .tup xs] [] = some (List.zipWith (fun x y => D.tup [x, y]) xs xs) := rfl
      rw [e, zip_self]) rfl (fun x hx' => turn_1 rfl (by simp) (by simp [wipeD, ih x hx' n 0 []])) (by simp [szl]; omega)]
    have al : ∀ (c : Cn) (S : Store), opBf c .all false [.lst (xs.map fun _ => D.bl true)] S = .ok (.bl true) S := fun c S => by
      rw [all_lst (f := fun _ => true)]; simp
    simp [al, fin]
  | lst m xs hl hx ih =>
    intro n b S
    have lo : D.loL 0 xs = true := loL_iff.mpr fun x hx' => (hx x hx').pl.lo 0
    rw [show n + (m + 1) + 1 = (n + m + 1) + 1 by omega, callF_def (P := P) (fd := c46) hc46 rfl rfl (by simp [D.loL, D.lo, lo])]
    simp [c46, TD.start, tyOf, isTy, iscB, b_ne, b_eq, i_eq, len_lst]
    rw [compB_pure1 (as := [.lst xs, .lst xs]) (l := xs) (e := fun x => D.tup [x, x]) (v := fun _ => D.bl true) (by simp) (by
      have e : itemsOf .zip [.lst xs, .lst xs] [] = some (List.zipWith (fun x y => D.tup [x, y]) xs xs) := rfl
      rw [e, zip_self]) rfl (fun x hx' => turn_1 rfl (by simp) (by simp [wipeD, ih x hx' n 0 []])) (by simp [szl]; omega)]
    have al : ∀ (c : Cn) (S : Store), opBf c .all false [.lst (xs.map fun _ => D.bl true)] S = .ok (.bl true) S := fun c S => by
      rw [all_lst (f := fun _ => true)]; simp
    simp [al, fin]
theorem is_bool [KA P] {p q : Bool} : callF P W (n + 1) b 46 [.bl p, .bl q] S = .ok (.bl (decide (p = q))) S := by
  rw [callF_def (P := P) (fd := c46) hc46 rfl rfl (by simp [D.loL])]
  simp [c46, TD.start, tyOf, isTy, iscB, fin, b_eq, b_ne]
theorem pz_oT {m : Nat} {o : List Nat} (h : o.length ≤ 1000) : Pz (m + 1) (oT o) := .tup m _ (by simp [natsZ, h]) fun x hx => by
  obtain ⟨i, _, rfl⟩ := List.mem_map.mp hx; exact .int m i
theorem pz_lots {m : Nat} {ls : List (List Nat)} (h : ls.length ≤ 1000) (h2 : ∀ l ∈ ls, l.length ≤ 1000) : Pz (m + 2) (lotsD ls) := .lst (m + 1) _ (by simp [h]) fun x hx => by
  obtain ⟨o, ho, rfl⟩ := List.mem_map.mp hx; exact pz_oT (h2 o ho)
end
end TD

set_option Elab.async false
set_option linter.all false
set_option maxRecDepth 100000
set_option autoImplicit false
/-! LG: least lots, what meets them; a family of lots that grows. -/
namespace TD
section
variable {m : Nat}
theorem lot_lt {x : List Nat} (h : x ∈ lotsL m) : ∀ k ∈ x, k < m := fun k hk => List.mem_range.mp ((mem_lots.mp h).mem hk)
theorem insB_iff {a b : List Nat} : insB a b = true ↔ ∀ x ∈ a, x ∈ b := by simp [insB]
theorem insB_refl (a : List Nat) : insB a a = true := insB_iff.mpr fun _ h => h
theorem insB_trans {a b c : List Nat} (h1 : insB a b = true) (h2 : insB b c = true) : insB a c = true := insB_iff.mpr fun x hx => insB_iff.mp h2 x (insB_iff.mp h1 x hx)
theorem lot_filter {x : List Nat} (h : x ∈ lotsL m) : x = (List.range m).filter fun k => decide (k ∈ x) := by
  have s := mem_lots.mp h
  have pw : x.Pairwise (· < ·) := List.pairwise_lt_range.sublist s
  have p1 : ((List.range m).filter fun k => decide (k ∈ x)).Pairwise (· < ·) := List.pairwise_lt_range.sublist List.filter_sublist
  have nd : ∀ {l : List Nat}, l.Pairwise (· < ·) → l.Nodup := fun h => h.imp fun h => Nat.ne_of_lt h
  have pm : List.Perm x ((List.range m).filter fun k => decide (k ∈ x)) := (List.perm_ext_iff_of_nodup (nd pw) (nd p1)).mpr fun k => by
    simp only [List.mem_filter, List.mem_range, decide_eq_true_eq]
    exact ⟨fun z => ⟨lot_lt h k z, z⟩, fun z => z.2⟩
  exact List.Perm.eq_of_pairwise (le := (· < ·)) (fun a b _ _ h1 h2 => absurd h1 (by omega)) pw p1 pm
theorem filter_lot (p : Nat → Bool) : (List.range m).filter p ∈ lotsL m := mem_lots.mpr List.filter_sublist
theorem lot_ext {x y : List Nat} (hx : x ∈ lotsL m) (hy : y ∈ lotsL m) (h : ∀ k, k ∈ x ↔ k ∈ y) : x = y := by
  rw [lot_filter hx, lot_filter hy]
  apply List.filter_congr
  intro k _
  simp [h]
theorem ins_len {x y : List Nat} (hx : x ∈ lotsL m) (hy : y ∈ lotsL m) (h : insB x y = true) (ne : x ≠ y) : x.length < y.length := by
  have s : x.Sublist y := by
    have e : x = y.filter fun k => decide (k ∈ x) := lot_ext hx (mem_lots.mpr (List.filter_sublist.trans (mem_lots.mp hy))) fun k => by
      simp only [List.mem_filter, decide_eq_true_eq]
      exact ⟨fun z => ⟨insB_iff.mp h k z, z⟩, fun z => z.2⟩
    rw [e]; exact List.filter_sublist
  rcases Nat.lt_or_ge x.length y.length with z | z
  · exact z
  · exact absurd (s.eq_of_length (Nat.le_antisymm s.length_le z)) ne
theorem rest_lot (x : List Nat) : restL m x ∈ lotsL m := filter_lot _
theorem mem_rest {x : List Nat} {k : Nat} : k ∈ restL m x ↔ k < m ∧ k ∉ x := by simp [restL]
theorem rest_rest {x : List Nat} (hx : x ∈ lotsL m) : restL m (restL m x) = x := lot_ext (rest_lot _) hx fun k => by
  rw [mem_rest, mem_rest]
  have := lot_lt hx k
  by_cases z : k ∈ x
  · simp [z, this z]
  · simp [z]
theorem snoc_ind {α : Type} {p : List α → Prop} (h0 : p []) (h1 : ∀ a l, p a → p (a ++ [l])) (l : List α) : p l := by
  have : ∀ r : List α, p r.reverse := fun r => by
    induction r with
    | nil => exact h0
    | cons x r ih => rw [List.reverse_cons]; exact h1 _ _ ih
  have := this l.reverse
  rwa [List.reverse_reverse] at this
theorem leastF_snoc (a : List (List Nat)) (l : List Nat) : leastF (a ++ [l]) = if (leastF a).any (fun o => insB o l) then leastF a else leastF a ++ [l] := by
  unfold leastF; rw [List.foldl_append]; rfl
theorem least_spec (ls : List (List Nat)) : SortedL ls → ls.Nodup → (∀ l ∈ ls, l ∈ lotsL m) → leastF ls = leastG ls ∧ ∀ o ∈ ls, ∃ o' ∈ leastF ls, insB o' o = true := by
  induction ls using snoc_ind with
  | h0 => intro _ _ _; exact ⟨rfl, by simp⟩
  | h1 a l ih =>
    intro hs hn hm
    have hs' := List.pairwise_append.mp hs
    have hn' := List.nodup_append.mp hn
    have lm : l ∈ lotsL m := hm l (by simp)
    have am : ∀ x ∈ a, x ∈ lotsL m := fun x hx => hm x (List.mem_append_left _ hx)
    obtain ⟨i1, i2⟩ := ih hs'.1 hn'.1 am
    have lna : ∀ x ∈ a, x ≠ l := fun x hx => hn'.2.2 x hx l (by simp)
    have ord : ∀ x ∈ a, ¬ l.length < x.length := fun x hx z => by
      have := hs'.2.2 x hx l (by simp)
      unfold ltL lexN keyL at this
      have c : decide ((l.length : Int) < (x.length : Int)) = true := by
        rw [decide_eq_true_eq]; omega
      simp only [c, Bool.true_or] at this
      cases this
    have any_iff : (leastF a).any (fun o => insB o l) = a.any (fun o => !decide (o = l) && insB o l) := by
      rw [Bool.eq_iff_iff, List.any_eq_true, List.any_eq_true]
      constructor
      · rintro ⟨o, ho, h⟩
        have := leastF_mem a o ho
        exact ⟨o, this, by simp [lna o this, h]⟩
      · rintro ⟨o, ho, h⟩
        simp only [Bool.and_eq_true] at h
        obtain ⟨o', ho', h'⟩ := i2 o ho
        exact ⟨o', ho', insB_trans h' h.2⟩
    have self : (!decide (l = l) && insB l l) = false := by simp
    have eG : leastG (a ++ [l]) = leastG a ++ (if a.any (fun o => !decide (o = l) && insB o l) then [] else [l]) := by
      unfold leastG
      rw [List.filter_append]
      congr 1
      · apply List.filter_congr
        intro x hx
        rw [List.any_append]
        have : ([l].any fun o => !decide (o = x) && insB o x) = false := by
          simp only [List.any_cons, List.any_nil, Bool.or_false]
          by_cases z : insB l x = true
          · exact absurd (ins_len lm (am x hx) z (fun e => lna x hx e.symm)) (ord x hx)
          · simp [z]
        rw [this, Bool.or_false]
      · rw [List.filter_cons]
        simp only [List.any_append, List.any_cons, List.any_nil, self, Bool.or_false, List.filter_nil]
        cases a.any fun o => !decide (o = l) && insB o l <;> rfl
    have eF : leastF (a ++ [l]) = leastF a ++ (if a.any (fun o => !decide (o = l) && insB o l) then [] else [l]) := by
      rw [leastF_snoc, any_iff]
      cases a.any fun o => !decide (o = l) && insB o l <;> simp
    refine ⟨by rw [eF, eG, i1], fun o ho => ?_⟩
    rcases List.mem_append.mp ho with z | z
    · obtain ⟨o', h1, h2⟩ := i2 o z
      exact ⟨o', by rw [eF]; exact List.mem_append_left _ h1, h2⟩
    · simp only [List.mem_singleton] at z
      subst z
      by_cases q : (leastF a).any (fun p => insB p o) = true
      · obtain ⟨o', h1, h2⟩ := List.any_eq_true.mp q
        exact ⟨o', by rw [eF]; exact List.mem_append_left _ h1, h2⟩
      · refine ⟨o, ?_, insB_refl o⟩
        rw [leastF_snoc, if_neg q]; simp
/-- the least lots of a family -/
def minL (m : Nat) (p : List Nat → Bool) : List (List Nat) := leastG ((lotsL m).filter p)
theorem minF {p : List Nat → Bool} (hm : m < 8) : leastF ((lotsL m).filter p) = minL m p := (least_spec _ (sorted_filter (lots_sorted m hm) p) ((lots_nodup m hm).filter p) fun l hl => (List.mem_filter.mp hl).1).1
theorem min_mem {p : List Nat → Bool} : ∀ x ∈ minL m p, x ∈ lotsL m ∧ p x = true := fun x hx => List.mem_filter.mp (List.mem_filter.mp hx).1
theorem min_below {p : List Nat → Bool} (hm : m < 8) {x : List Nat} (hx : x ∈ lotsL m) (h : p x = true) : ∃ o ∈ minL m p, insB o x = true := by
  have := (least_spec (m := m) _ (sorted_filter (lots_sorted m hm) p) ((lots_nodup m hm).filter p) fun l hl => (List.mem_filter.mp hl).1).2 x (List.mem_filter.mpr ⟨hx, h⟩)
  rw [minF hm] at this
  exact this
def hits (l one : List Nat) : Bool := one.any fun x => decide (x ∈ l)
theorem meetL_eq (ls : List (List Nat)) : meetL ls m = minL m fun l => ls.all (hits l) := rfl
theorem min_congr {p q : List Nat → Bool} (h : ∀ x ∈ lotsL m, p x = q x) : minL m p = minL m q := by
  unfold minL
  rw [List.filter_congr h]
theorem no_hit {l one : List Nat} (ho : one ∈ lotsL m) (h : hits l one = false) : insB one (restL m l) = true := insB_iff.mpr fun x hx => mem_rest.mpr ⟨lot_lt ho x hx, fun z => by
  unfold hits at h
  rw [List.any_eq_false] at h
  have := h x hx
  simp [z] at this⟩
theorem hit_no {l one : List Nat} (h : insB one (restL m l) = true) : hits l one = false := by
  unfold hits
  rw [List.any_eq_false]
  intro x hx
  have := (mem_rest.mp (insB_iff.mp h x hx)).2
  simpa using this
/-- where a family grows, the least lots of it are met just by what leaves no lot of it -/
theorem meet_min {p : List Nat → Bool} (hm : m < 8) (hp : ∀ x ∈ lotsL m, ∀ y ∈ lotsL m, insB x y = true → p x = true → p y = true) : meetL (minL m p) m = minL m fun l => !p (restL m l) := by
  rw [meetL_eq]
  refine min_congr fun l hl => ?_
  rw [Bool.eq_iff_iff, List.all_eq_true, Bool.not_eq_true']
  constructor
  · intro h
    by_cases z : p (restL m l) = true
    · obtain ⟨o, ho, h2⟩ := min_below hm (rest_lot l) z
      have := h o ho
      rw [hit_no h2] at this
      cases this
    · simpa using z
  · intro h o ho
    obtain ⟨o1, o2⟩ := min_mem o ho
    cases z : hits l o with
    | true => rfl
    | false =>
      have := hp o o1 (restL m l) (rest_lot l) (no_hit o1 z) o2
      rw [h] at this; cases this
theorem meet_rest {p : List Nat → Bool} (hm : m < 8) (hp : ∀ x ∈ lotsL m, ∀ y ∈ lotsL m, insB x y = true → p x = true → p y = true) : meetL (minL m fun l => !p (restL m l)) m = minL m p := by
  rw [meet_min hm fun x hx y hy hi h => ?_]
  · refine min_congr fun l hl => ?_
    rw [rest_rest hl, Bool.not_not]
  · cases z : p (restL m y) with
    | false => rfl
    | true =>
      have := hp (restL m y) (rest_lot y) (restL m x) (rest_lot x) (insB_iff.mpr fun k hk => by
        rw [mem_rest] at hk ⊢
        exact ⟨hk.1, fun z => hk.2 (insB_iff.mp hi k z)⟩) z
      rw [this] at h; cases h
theorem min_any {p : List Nat → Bool} (hm : m < 8) (hp : ∀ x ∈ lotsL m, ∀ y ∈ lotsL m, insB x y = true → p x = true → p y = true) {x : List Nat} (hx : x ∈ lotsL m) : (minL m p).any (fun o => insB o x) = p x := by
  rw [Bool.eq_iff_iff, List.any_eq_true]
  constructor
  · rintro ⟨o, ho, h⟩
    obtain ⟨o1, o2⟩ := min_mem o ho
    exact hp o o1 x hx h o2
  · intro h; exact min_below hm hx h
theorem min_all : ∀ m, m < 8 → minL m (fun _ => true) = [[]] := by decide +kernel
end
end TD

set_option Elab.async false
set_option linter.all false
set_option maxRecDepth 100000
set_option maxHeartbeats 4000000
set_option autoImplicit false
/-! WU: the law's hand, more of regions. -/
namespace TD
open PySem
open L2 (V)
def hand0 (ns : List Int) : Hd := ⟨ns.map Int.natAbs, 0, 0, 83 + 7 * ns.length, 0⟩
section
variable {ax : D} {U xs ys : List Cl} {P : Prog} {W n b : Nat} {S : Store} {rs : List (List Cl)}
theorem hand_ok [KA P] {ns : List Int} (hl : ns.length ≤ 63) : callF P W (n + 1) 0 39 [.lst (ns.map .int)] [] = .ok (.ref 0) [handC (hand0 ns)] := by
  have st : TD.start c39 [.lst (ns.map .int)] = [some (.lst (ns.map .int)), none, none] := rfl
  rw [callF_st (P := P) (fd := c39) hc39 rfl rfl, st]
  have sl : opSl false (.lst (ns.map .int)) (some none) (some (some 63)) [] = .ok (.lst (ns.map .int)) [] := by
    have e : opSl false (.lst (ns.map .int)) (some none) (some (some 63)) [] = newL false (cutL (ns.map .int) none (some ((63 : Nat) : Int))) [] := rfl
    have e2 : cutL (ns.map D.int) none (some ((63 : Nat) : Int)) = ns.map D.int := by
      unfold cutL
      rw [HT.sIx_nat, HT.sIx_none]
      have : (ns.map D.int).length = ns.length := by simp
      rw [this, Nat.min_eq_right hl]
      rw [List.drop_zero, Nat.sub_zero]
      exact List.take_of_length_le (by simp)
    rw [e, e2, newL_ok (by simp [szl]; omega)]
  have ab : ∀ i : Int, opBf ⟨callF P W n, P, 0, W⟩ .abs false [.int i] [] = .ok (.int ((i.natAbs : Nat) : Int)) [] := fun i => by
    have e : opBf ⟨callF P W n, P, 0, W⟩ .abs false [.int i] [] = .ok (.int (if i < 0 then -i else i)) [] := rfl
    rw [e]
    congr 2
    split <;> omega
  have cb := compB_pure1 (S := []) (own := [("cell", 2)]) (t := .nm 2) (k := .val) (src := ev ⟨callF P W n, P, 0, W⟩ (.cons (.sl false (.var 0) .om (.lit (.int (63)))) .nil)) (cs := ev ⟨callF P W n, P, 0, W⟩ .nil) (elt := ev ⟨callF P W n, P, 0, W⟩ (.bf .abs false (.cons (.bf .int false (.cons (.var 2) (.nil))) (.nil)))) (σ := [some (.lst (ns.map .int)), none, none]) (as := [.lst (ns.map .int)]) (l := ns) (e := D.int) (v := fun i => .int ((i.natAbs : Nat) : Int)) (by simp [partOf, sl]) rfl rfl (fun i _ => turn_1 rfl (by simp) (by simp [wipeD, bf_int, ab])) (by simp [szl]; omega)
  have e5 : newL true [.lst (ns.map fun i => .int ((i.natAbs : Nat) : Int)), .int 0, .int 0, .int (83 + 7 * (ns.length : Int)), .int 0] [] = .ok (.ref 0) [handC (hand0 ns)] := by
    have e : newL true [.lst (ns.map fun i => .int ((i.natAbs : Nat) : Int)), .int 0, .int 0, .int (83 + 7 * (ns.length : Int)), .int 0] [] = .ok (.ref 0) [.lst [.lst (ns.map fun i => .int ((i.natAbs : Nat) : Int)), .int 0, .int 0, .int (83 + 7 * (ns.length : Int)), .int 0]] := rfl
    rw [e]
    unfold handC hC hand0
    simp
  have m7 : arith .mul 7 (ns.length : Int) = some (7 * (ns.length : Int)) := ar_mul (mul_c' (by omega) (by omega))
  have kp : (if c39.keep = true then 0 else ([] : Store).length) = 0 := rfl
  rw [kp]
  simp [c39, cb, len_lst, b_int, ar_add, m7, e5, finL, leave]
theorem xor_ok [KA P] (h : OkS ax U) (px : Part U xs) (py : Part U ys) : callF P W (n + 3) b 13 [Rg ax U xs, Rg ax U ys] S = .ok (Rg ax U (pick U (xs.filter (fun c => !decide (c ∈ ys)) ++ ys.filter fun c => !decide (c ∈ xs)))) S := by
  rw [callF_def (P := P) (fd := c13) hc13 rfl rfl (by simp [D.loL, rg_pure h])]
  simp [c13, TD.start, same_space h]
  rw [compB_pure (as := [.tup (xs.map cellD)]) (l := xs) (e := cellD) (v := cellD) (p := fun c => !decide (c ∈ ys)) (by simp) rfl rfl (fun c hc => turn_if rfl (by simp [wipeD, opCmp, dunOf, in_tup (List.all_eq_true.mp (px.ok h) c hc) (py.ok h)]) fun _ => by simp [wipeD]) (px.szl h)]
  simp
  rw [compB_pure (as := [.tup (ys.map cellD)]) (l := ys) (e := cellD) (v := cellD) (p := fun c => !decide (c ∈ xs)) (by simp) rfl rfl (fun c hc => turn_if rfl (by simp [wipeD, opCmp, dunOf, in_tup (List.all_eq_true.mp (py.ok h) c hc) (px.ok h)]) fun _ => by simp [wipeD]) (py.szl h)]
  have l1 := px.len h
  have l2 := py.len h
  have f1 := List.length_filter_le (fun c => !decide (c ∈ ys)) xs
  have f2 := List.length_filter_le (fun c => !decide (c ∈ xs)) ys
  have ea : ∀ c : Cn, opBin c false .add (.lst ((xs.filter fun c => !decide (c ∈ ys)).map cellD)) (.lst ((ys.filter fun c => !decide (c ∈ xs)).map cellD)) [] = .ok (.lst ((xs.filter (fun c => !decide (c ∈ ys)) ++ ys.filter fun c => !decide (c ∈ xs)).map cellD)) [] := fun c => by
    have e : opBin c false .add (.lst ((xs.filter fun c => !decide (c ∈ ys)).map cellD)) (.lst ((ys.filter fun c => !decide (c ∈ xs)).map cellD)) [] = newL false ((xs.filter fun c => !decide (c ∈ ys)).map cellD ++ (ys.filter fun c => !decide (c ∈ xs)).map cellD) [] := rfl
    rw [e, newL_ok (by simp [szl]; omega), List.map_append]
  have m := mk_ok (P := P) (W := W) (n := n) (mb := 0) (S := []) h (zs := xs.filter (fun c => !decide (c ∈ ys)) ++ ys.filter fun c => !decide (c ∈ xs)) (fun z hz => by
    rcases List.mem_append.mp hz with z | z
    · exact px.sub _ (List.mem_filter.mp z).1
    · exact py.sub _ (List.mem_filter.mp z).1) (.inr rfl)
  simp [-List.map_append, ea, m, fin, frz_pure (rg_pure h)]
theorem o_xor [KA P] (h : OkS ax U) (px : Part U xs) (py : Part U ys) {mu : Bool} : opBin ⟨callF P W (n + 3), P, b, W⟩ mu .bxor (Rg ax U xs) (Rg ax U ys) S = .ok (Rg ax U (pick U (xs.filter (fun c => !decide (c ∈ ys)) ++ ys.filter fun c => !decide (c ∈ xs)))) S := by
  simp [opBin, BOp.dun, xor_ok h px py]
@[simp] theorem newT_0 : newT [] S = .ok (.tup []) S := id rfl
theorem empty_ok [T76 P] (h : OkS ax U) : callF P W (n + 3) b 76 [Sp ax U] S = .ok (Rg ax U (pick U [])) S := by
  rw [callF_def (P := P) (fd := c76) hc76 rfl rfl (by simp [D.loL, sp_pure h])]
  have m := mk_ok (P := P) (W := W) (n := n) (mb := 0) (S := []) h (zs := []) (fun z hz => by simp at hz) (.inl rfl)
  simp at m
  simp [c76, TD.start, m, fin, frz_pure (rg_pure h)]
theorem rs_last (hr : 0 < rs.length) {c : Cn} : ∃ r ∈ rs, opIdx c (Rs ax U rs) (.int (-1)) S = .ok (Rg ax U r) S := by
  have ne : rs ≠ [] := List.length_pos_iff.mp hr
  refine ⟨rs.getLast ne, List.getLast_mem ne, ?_⟩
  have e : ixOf (rs.map (Rg ax U)).length (-1) = some (rs.length - 1) := by
    rw [List.length_map]
    unfold ixOf L2.ixN
    simp
    omega
  have e2 : opIdx c (Rs ax U rs) (.int (-1)) S = Res.of ((ixOf (rs.map (Rg ax U)).length (-1)).bind fun n => (rs.map (Rg ax U))[n]?) S := rfl
  rw [e2, e, Option.bind_some, List.getElem?_map, ← List.getLast?_eq_getElem?, List.getLast?_eq_some_getLast ne]; rfl
theorem rs_last_eq (ne : rs ≠ []) {c : Cn} : opIdx c (Rs ax U rs) (.int (-1)) S = .ok (Rg ax U (rs.getLast ne)) S := by
  have e : ixOf (rs.map (Rg ax U)).length (-1) = some (rs.length - 1) := by
    have := List.length_pos_iff.mpr ne
    rw [List.length_map]
    unfold ixOf L2.ixN
    simp
    omega
  have e2 : opIdx c (Rs ax U rs) (.int (-1)) S = Res.of ((ixOf (rs.map (Rg ax U)).length (-1)).bind fun n => (rs.map (Rg ax U))[n]?) S := rfl
  rw [e2, e, Option.bind_some, List.getElem?_map, ← List.getLast?_eq_getElem?, List.getLast?_eq_some_getLast ne]; rfl
theorem items_row [KA P] (h : OkS ax U) (hr : ∀ r ∈ rs, Part U r) (hl : rs.length ≤ 1000) {own : List (Str × Nat)} {v j : Nat} {σ : Sl} (hown : own.map (·.2) = [v]) (g1 : getS σ j = some (Rs ax U rs)) (g2 : ∀ k : D, getS ((wipeD σ [v]).set v (some k)) v = some k) : compB false own (.nm v) .val (ev ⟨callF P W (n + 2), P, b, W⟩ (.cons (.var j) .nil)) (ev ⟨callF P W (n + 2), P, b, W⟩ .nil) (ev ⟨callF P W (n + 2), P, b, W⟩ (.call 45 (.cons (.var v) .nil))) σ S = .ok (rowsD (rowsM U rs)) S := by
  rw [compB_pure1 (as := [Rs ax U rs]) (l := rs) (e := Rg ax U) (v := fun r => iL (itemsI U r)) (by simp [g1]) rs_items rfl (fun r hr' => turn_1 rfl (by simp) (by
    rw [hown]
    simp [g2, law_items_ok h (hr r hr')])) (by simp [szl]; omega)]
  unfold rowsD rowsM; rw [List.map_map]; rfl
end
end TD

set_option Elab.async false
set_option linter.all false
set_option maxRecDepth 100000
set_option maxHeartbeats 4000000
set_option autoImplicit false
/-! WV: telling_lots, losing_lots, strength, is_left. -/
namespace TD
open PySem
open L2 (V)
def tellP (U : List Cl) (rs : List (List Cl)) (xs : List Cl) (l : List Nat) : Bool := tellQ (rowsM U rs) U.length l (itemsI U xs)
def loseP (U : List Cl) (rs : List (List Cl)) (xs : List Cl) (l : List Nat) : Bool := !tellP U rs xs (restL rs.length l)
theorem rowsM_len {U : List Cl} {rs : List (List Cl)} : (rowsM U rs).length = rs.length := by simp [rowsM]
theorem items_len {U xs : List Cl} : (itemsI U xs).length = U.length := by simp [itemsI]
theorem items_bit {U xs : List Cl} : ∀ x ∈ itemsI U xs, x = 0 ∨ x = 1 := by
  intro x hx
  obtain ⟨c, _, rfl⟩ := List.mem_map.mp hx
  split
  · exact .inr rfl
  · exact .inl rfl
structure OkT (ax : D) (U : List Cl) (rs : List (List Cl)) : Prop where
  sp : OkS ax U
  rg : OkR U rs
  u6 : U.length ≤ 6
  r6 : rs.length ≤ 6
section
variable {ax : D} {U xs ys : List Cl} {P : Prog} {W n b : Nat} {S : Store} {rs : List (List Cl)}
theorem tells_lot [T71 P] (o : OkT ax U rs) (hW : Wide W) {l : List Nat} (hl : l ∈ lotsL rs.length) : callF P W (n + 7) b 71 [rowsQ (qs (rowsM U rs)), oT l, rowD (wholeR (itemsI U xs))] S = .ok (.bl (tellP U rs xs l)) S :=
  tells_by_ok bits_rows o.u6 (fun k hk => by rw [rowsM_len]; exact lot_lt hl k hk) (by have := lots_len hl; have := o.r6; omega) items_len items_bit hW
theorem target_ok [KA P] [T57 P] (o : OkT ax U rs) (px : Part U xs) : callF P W (n + 1) b 57 [iL (itemsI U xs)] S = .ok (rowD (wholeR (itemsI U xs))) S := whole_row_ok (by rw [items_len]; have := o.u6; omega)
theorem lots_fits {m : Nat} (hm : m ≤ 6) (p : List Nat → Bool) : ((lotsL m).filter p).length ≤ 70 := by
  refine Nat.le_trans (List.length_filter_le _ _) ?_
  rw [lots_count m (by omega)]
  have : 2 ^ m ≤ 2 ^ 6 := Nat.pow_le_pow_right (by omega) hm
  omega
theorem telling_ok [T73 P] (o : OkT ax U rs) (px : Part U xs) (hW : Wide W) : callF P W (n + 8) b 73 [Rs ax U rs, Rg ax U xs] S = .ok (lotsD (minL rs.length (tellP U rs xs))) S := by
  have r6 := o.r6
  rw [callF_def (P := P) (fd := c73) hc73 rfl rfl (by simp [D.loL, rs_pure o.sp, rg_pure o.sp])]
  have cl := check_like_ok (P := P) (W := W) (n := n + 4) (b := 0) (S := []) (xs := xs) o.sp o.rg
  have ro := rows_of_ok (P := P) (W := W) (n := n + 5) (b := 0) (S := []) o.sp o.rg.part (by omega)
  have il := items_iL (P := P) (W := W) (n := n + 6) (b := 0) (S := []) o.sp px
  have ta := target_ok (P := P) (W := W) (n := n + 6) (b := 0) (S := []) o px
  have al := all_lots_ok (P := P) (W := W) (n := n + 2) (b := 0) (S := []) o.rg.pos r6 hW.sixty
  simp [c73, TD.start, cl, ro, il, ta, putAll]
  rw [compB_pure (as := [lotsD (lotsL rs.length)]) (l := lotsL rs.length) (e := oT) (v := oT) (p := tellP U rs xs) (by simp [al]) lotsD_items rfl (fun l hl => by
    have tl := tells_lot (P := P) (W := W) (n := n) (b := 0) (S := []) (xs := xs) o hW hl
    exact turn_if rfl (by simp [wipeD, tl]) fun _ => by simp [wipeD]) (by rw [lots_count _ (by omega)]; have : 2 ^ rs.length ≤ 2 ^ 6 := Nat.pow_le_pow_right (by omega) r6; simp [szl]; omega)]
  have ls := least_ok (P := P) (W := W) (n := n + 3) (b := 0) (S := []) (ls := (lotsL rs.length).filter (tellP U rs xs)) (sorted_filter (lots_sorted _ (by omega)) _) (lots_fits r6 _) hW.sixty (fun l hl => by have := lots_len (List.mem_filter.mp hl).1; omega)
  rw [minF (by omega)] at ls
  have e : D.lst (((lotsL rs.length).filter (tellP U rs xs)).map oT) = lotsD ((lotsL rs.length).filter (tellP U rs xs)) := rfl
  rw [e]
  simp [ls, fin, frz_pure lotsD_lo]
theorem losing_ok [T74 P] (o : OkT ax U rs) (px : Part U xs) (hW : Wide W) : callF P W (n + 8) b 74 [Rs ax U rs, Rg ax U xs] S = .ok (lotsD (minL rs.length (loseP U rs xs))) S := by
  have r6 := o.r6
  rw [callF_def (P := P) (fd := c74) hc74 rfl rfl (by simp [D.loL, rs_pure o.sp, rg_pure o.sp])]
  have cl := check_like_ok (P := P) (W := W) (n := n + 4) (b := 0) (S := []) (xs := xs) o.sp o.rg
  have ro := rows_of_ok (P := P) (W := W) (n := n + 5) (b := 0) (S := []) o.sp o.rg.part (by omega)
  have il := items_iL (P := P) (W := W) (n := n + 6) (b := 0) (S := []) o.sp px
  have ta := target_ok (P := P) (W := W) (n := n + 6) (b := 0) (S := []) o px
  have al := all_lots_ok (P := P) (W := W) (n := n + 2) (b := 0) (S := []) o.rg.pos r6 hW.sixty
  simp [c74, TD.start, cl, ro, il, ta, putAll]
  rw [compB_pure (as := [lotsD (lotsL rs.length)]) (l := lotsL rs.length) (e := oT) (v := oT) (p := loseP U rs xs) (by simp [al]) lotsD_items rfl (fun l hl => by
    have re := rest_ok (P := P) (W := W) (n := n + 6) (b := 0) (S := []) (m := rs.length) (lot := l) (by omega)
    have tl := tells_lot (P := P) (W := W) (n := n) (b := 0) (S := []) (xs := xs) o hW (rest_lot (m := rs.length) l)
    exact turn_if rfl (by simp [wipeD, re, tl, loseP]) fun _ => by simp [wipeD]) (by rw [lots_count _ (by omega)]; have : 2 ^ rs.length ≤ 2 ^ 6 := Nat.pow_le_pow_right (by omega) r6; simp [szl]; omega)]
  have ls := least_ok (P := P) (W := W) (n := n + 3) (b := 0) (S := []) (ls := (lotsL rs.length).filter (loseP U rs xs)) (sorted_filter (lots_sorted _ (by omega)) _) (lots_fits r6 _) hW.sixty (fun l hl => by have := lots_len (List.mem_filter.mp hl).1; omega)
  rw [minF (by omega)] at ls
  have e : D.lst (((lotsL rs.length).filter (loseP U rs xs)).map oT) = lotsD ((lotsL rs.length).filter (loseP U rs xs)) := rfl
  rw [e]
  simp [ls, fin, frz_pure lotsD_lo]
def lenFst (ls : List (List Nat)) : D := match ls with
  | [] => .non
  | l :: _ => .int l.length
theorem lots_nil {c : Cn} {ls : List (List Nat)} : opCmp c .eq (lotsD ls) (.lst []) S = .ok (.bl (decide (ls = []))) S := lots_eq (b := [])
theorem lots_nnil {c : Cn} {ls : List (List Nat)} : opCmp c .ne (lotsD ls) (.lst []) S = .ok (.bl (!decide (ls = []))) S := lots_ne (b := [])
theorem strength_ok [T75 P] (o : OkT ax U rs) (px : Part U xs) (hW : Wide W) : callF P W (n + 9) b 75 [Rs ax U rs, Rg ax U xs] S = .ok (lenFst (minL rs.length (loseP U rs xs))) S := by
  rw [callF_def (P := P) (fd := c75) hc75 rfl rfl (by simp [D.loL, rs_pure o.sp, rg_pure o.sp])]
  have lo := losing_ok (P := P) (W := W) (n := n) (b := 0) (S := []) o px hW
  generalize minL rs.length (loseP U rs xs) = L at lo ⊢
  cases L with
  | nil => simp [c75, TD.start, lo, lots_nil, fin, lenFst]
  | cons l L =>
    have i0 : ∀ c : Cn, opIdx c (lotsD (l :: L)) (.int 0) [] = .ok (oT l) [] := fun c => idx_lst (k := 0) rfl
    simp [c75, TD.start, lo, lots_nil, i0, oT_len, fin, lenFst]
theorem is_left_ok [T72 P] (o : OkT ax U rs) (px : Part U xs) (hW : Wide W) {l : List Nat} (hl : l ∈ lotsL rs.length) : callF P W (n + 8) b 72 [Rs ax U rs, oT l, Rg ax U xs] S = .ok (.bl (tellP U rs xs (restL rs.length l))) S := by
  have r6 := o.r6
  rw [callF_def (P := P) (fd := c72) hc72 rfl rfl (by simp [D.loL, rs_pure o.sp, rg_pure o.sp, oT_lo])]
  have cl := check_like_ok (P := P) (W := W) (n := n + 4) (b := 0) (S := []) (xs := xs) o.sp o.rg
  have ro := rows_of_ok (P := P) (W := W) (n := n + 5) (b := 0) (S := []) o.sp o.rg.part (by omega)
  have il := items_iL (P := P) (W := W) (n := n + 6) (b := 0) (S := []) o.sp px
  have ta := target_ok (P := P) (W := W) (n := n + 6) (b := 0) (S := []) o px
  have ck := check_lot_ok (P := P) (W := W) (n := n + 4) (b := 0) (S := []) hl (by omega)
  have re := rest_ok (P := P) (W := W) (n := n + 6) (b := 0) (S := []) (m := rs.length) (lot := l) (by omega)
  have tl := tells_lot (P := P) (W := W) (n := n) (b := 0) (S := []) (xs := xs) o hW (rest_lot (m := rs.length) l)
  simp [c72, TD.start, cl, ck, ro, il, ta, re, tl, fin]
end
/-! ### what is told grows -/
section
variable {U xs : List Cl} {rs : List (List Cl)}
theorem tellP_iff {l : List Nat} (hl : l ∈ lotsL rs.length) : tellP U rs xs l = true ↔ InS ((pickM (rowsM U rs) l).map vecI) (vecI (itemsI U xs)) :=
  tellQ_iff bits_rows (fun k hk => by rw [rowsM_len]; exact lot_lt hl k hk) items_len items_bit
theorem tellP_law {l : List Nat} (hl : l ∈ lotsL rs.length) : tellL (rowsM U rs) l (itemsI U xs) = tellP U rs xs l := by
  rw [Bool.eq_iff_iff, tellP_iff hl, tellL_iff bits_rows (fun k hk => by rw [rowsM_len]; exact lot_lt hl k hk) items_len]
theorem tellP_mono : ∀ x ∈ lotsL rs.length, ∀ y ∈ lotsL rs.length, insB x y = true → tellP U rs xs x = true → tellP U rs xs y = true := by
  intro x hx y hy h hp
  rw [tellP_iff hx] at hp
  rw [tellP_iff hy]
  refine ins_trans (fun v hv => ?_) hp
  obtain ⟨r, hr, rfl⟩ := List.mem_map.mp hv
  obtain ⟨k, hk, rfl⟩ := List.mem_map.mp hr
  exact ins_mem (List.mem_map_of_mem (List.mem_map_of_mem (f := fun i => (rowsM U rs).getD i []) (insB_iff.mp h k hk)))
end
end TD

set_option Elab.async false
set_option linter.all false
set_option maxRecDepth 100000
set_option maxHeartbeats 4000000
set_option autoImplicit false
/-! L01: law k01 is true. -/
namespace TD
open PySem
open L2 (V)
section
variable {W : Nat}
abbrev cn (W : Nat) : Cn := ⟨callF prog W 39, prog, 0, W⟩
theorem step_nx {c : Cn} {s r : Sx} {σ σ' : Sl} {S S' : Store} (h : exec c s σ S = .ok (.nx σ') S') : exec c (.cons s r) σ S = exec c r σ' S' := by rw [s_cons, h]; rfl
theorem turn_01 (hW : Wide W) (h : Hd) (x0 x2 x3 x4 x5 x6 x7 x8 x9 x10 x11 x12 x13 : Option D) : ∃ σ' h', exec (cn W) t01_1B [x0, some (.ref 0), x2, x3, x4, x5, x6, x7, x8, x9, x10, x11, x12, x13] [handC h] = .ok (.nx σ') [handC h'] ∧ ∃ y2 y3 y4 y5 y6 y7 y8 y9 y10 y11 y12 y13, σ' = [x0, some (.ref 0), y2, y3, y4, y5, y6, y7, y8, y9, y10, y11, y12, y13] := by
  unfold t01_1B
  -- the space
  obtain ⟨ax, U, h1, os, _, e0⟩ := space_ok (P := prog) (W := W) (n := 35) (b := 0) (T := []) h
  have s0 : exec (cn W) t01_1_0 [x0, some (.ref 0), x2, x3, x4, x5, x6, x7, x8, x9, x10, x11, x12, x13] [handC h] = .ok (.nx [x0, some (.ref 0), x2, some (Sp ax U), x4, x5, x6, x7, x8, x9, x10, x11, x12, x13]) [handC h1] := by
    unfold t01_1_0; simp [e0]
  rw [step_nx s0]
  -- the regions
  obtain ⟨rs, h2, or_, r6, _, e1⟩ := regions_ok (P := prog) (W := W) (n := 35) (b := 0) (T := []) (mo := 6) (by omega) (by omega) os.1 h1
  obtain ⟨xs, h3, px, _, e2⟩ := region_ok (P := prog) (W := W) (n := 36) (b := 0) (T := []) os.1 h2
  have s1 : exec (cn W) t01_1_1 [x0, some (.ref 0), x2, some (Sp ax U), x4, x5, x6, x7, x8, x9, x10, x11, x12, x13] [handC h1] = .ok (.nx [x0, some (.ref 0), x2, some (Sp ax U), x4, x5, x6, some (Rs ax U rs), some (Rg ax U xs), x9, x10, x11, x12, x13]) [handC h3] := by
    simp at e1
    unfold t01_1_1; simp [e1, e2, putAll]
  rw [step_nx s1]
  have ne : rs ≠ [] := List.length_pos_iff.mp or_.pos
  -- the region asked
  have s2 : ∃ ys h4, Part U ys ∧ exec (cn W) t01_1_2 [x0, some (.ref 0), x2, some (Sp ax U), x4, x5, x6, some (Rs ax U rs), some (Rg ax U xs), x9, x10, x11, x12, x13] [handC h3] = .ok (.nx [x0, some (.ref 0), x2, some (Sp ax U), x4, x5, x6, some (Rs ax U rs), some (Rg ax U ys), x9, x10, x11, x12, x13]) [handC h4] := by
    have d2 := draw_ok (P := prog) (W := W) (n := 38) (b := 0) (h := h3) (T := []) (m := 2) (by omega) (by omega)
    simp at d2
    by_cases z : (draw h3 2).1 = 0
    · have p0 := or_.at_ (i := 0) or_.pos
      have pl := or_.part _ (List.getLast_mem ne)
      have i0 : ∀ S, opIdx (cn W) (Rs ax U rs) (.int 0) S = .ok (Rg ax U (rAt rs 0)) S := fun S => by
        have := rs_idx (ax := ax) (U := U) (rs := rs) (S := S) (c := cn W) (k := 0) or_.pos
        simpa using this
      have i1 : ∀ S, opIdx (cn W) (Rs ax U rs) (.int (-1)) S = .ok (Rg ax U (rs.getLast ne)) S := fun S => rs_last_eq ne
      have em := fun S => empty_ok (P := prog) (W := W) (n := 36) (b := 0) (S := S) os.1
      have me : ∀ S, methB (cn W) 24 (Sp ax U) S (.tup []) S = .ok (Rg ax U (pick U [])) S := fun S => by
        have q : dunOf (cn W) S (Sp ax U) 24 = some 76 := by simp [dunOf]
        simp [methB, q, em]
      obtain ⟨x, hx, e5⟩ := some_lst (P := prog) (W := W) (n := 37) (b := 0) (h := (draw h3 2).2) (T := []) (ds := [Rg ax U (pick U (rAt rs 0 ++ rs.getLast ne)), Rg ax U (pick U ((rAt rs 0).filter (fun c => !decide (c ∈ rs.getLast ne)) ++ (rs.getLast ne).filter fun c => !decide (c ∈ rAt rs 0))), Rg ax U (rs.getLast ne), Rg ax U (pick U [])]) (by simp) (by simp) (by
        intro d hd
        simp at hd
        rcases hd with rfl | rfl | rfl | rfl <;> exact rg_pure os.1)
      have pp : ∃ ys, Part U ys ∧ x = Rg ax U ys := by
        simp only [List.mem_cons, List.not_mem_nil, or_false] at hx
        rcases hx with rfl | rfl | rfl | rfl
        · exact ⟨_, part_pick U _, rfl⟩
        · exact ⟨_, part_pick U _, rfl⟩
        · exact ⟨_, pl, rfl⟩
        · exact ⟨_, part_pick U _, rfl⟩
      obtain ⟨ys, py, rfl⟩ := pp
      refine ⟨ys, (draw (draw h3 2).2 4).2, py, ?_⟩
      have b1 := fun S => o_or (P := prog) (W := W) (n := 36) (b := 0) (S := S) os.1 p0 pl (mu := false)
      have b2 := fun S => o_xor (P := prog) (W := W) (n := 36) (b := 0) (S := S) os.1 p0 pl (mu := false)
      simp only [List.length_cons, List.length_nil] at e5
      unfold t01_1_2
      generalize pick U (rAt rs 0 ++ rs.getLast ne) = R1 at *
      generalize pick U ((rAt rs 0).filter (fun c => !decide (c ∈ rs.getLast ne)) ++ (rs.getLast ne).filter fun c => !decide (c ∈ rAt rs 0)) = R2 at *
      simp [d2, i_eq, z, i0, i1, negB, b1, b2, me, e5]
    · refine ⟨xs, (draw h3 2).2, px, ?_⟩
      unfold t01_1_2
      simp [d2, i_eq, z]
  obtain ⟨ys, h4, py, s2⟩ := s2
  rw [step_nx s2]
  have o : OkT ax U rs := ⟨os.1, or_, os.2.2, r6⟩
  -- rows, target, many
  have s3 : exec (cn W) t01_1_3 [x0, some (.ref 0), x2, some (Sp ax U), x4, x5, x6, some (Rs ax U rs), some (Rg ax U ys), x9, x10, x11, x12, x13] [handC h4] = .ok (.nx [x0, some (.ref 0), x2, some (Sp ax U), x4, x5, x6, some (Rs ax U rs), some (Rg ax U ys), some (rowsD (rowsM U rs)), some (iL (itemsI U ys)), some (.int rs.length), x12, x13]) [handC h4] := by
    have c1 := items_row (P := prog) (W := W) (n := 37) (b := 0) (S := [handC h4]) (own := [("one", 13)]) (v := 13) (j := 7) (σ := [x0, some (.ref 0), x2, some (Sp ax U), x4, x5, x6, some (Rs ax U rs), some (Rg ax U ys), x9, x10, x11, x12, x13]) os.1 or_.part (by omega) rfl rfl (fun _ => rfl)
    have c2 := law_items_ok (P := prog) (W := W) (n := 37) (b := 0) (S := [handC h4]) os.1 py
    unfold t01_1_3
    simp [c1, c2, putAll]
  rw [step_nx s3]
  have hm8 : rs.length < 8 := by omega
  have ll := fun (b : Nat) (S : Store) => law_lots_ok (P := prog) (W := W) (n := 36) (b := b) (S := S) r6 hW.sixty
  have szl64 : (lotsL rs.length).length ≤ szl := by
    rw [lots_count _ hm8]; have : 2 ^ rs.length ≤ 2 ^ 6 := Nat.pow_le_pow_right (by omega) r6; simp [szl]; omega
  have lt := fun (b : Nat) (S : Store) (l : List Nat) (hl : l ∈ lotsL rs.length) => law_tells_ok (P := prog) (W := W) (n := 37) (b := b) (S := S) (M := rowsM U rs) (w := U.length) (lot := l) (t := itemsI U ys) bits_rows (by have := o.u6; omega) (fun k hk => by rw [rowsM_len]; exact lot_lt hl k hk) (by have := lots_len hl; omega) items_len items_bit hW.sixty
  have lr := fun (b : Nat) (S : Store) (l : List Nat) => law_rest_ok (P := prog) (W := W) (n := 38) (b := b) (S := S) (m := rs.length) (lot := l) (by omega)
  have min1000 : ∀ p, (minL rs.length p).length ≤ 1000 ∧ ∀ l ∈ minL rs.length p, l.length ≤ 1000 := fun p => by
    constructor
    · refine Nat.le_trans (List.length_filter_le _ _) (Nat.le_trans (lots_fits r6 p) (by omega))
    · intro l hl; have := lots_len (min_mem l hl).1; omega
  have fit1000 : ∀ p : List Nat → Bool, ((lotsL rs.length).filter p).length ≤ 1000 ∧ ∀ l ∈ (lotsL rs.length).filter p, l.length ≤ 1000 := fun p => by
    constructor
    · exact Nat.le_trans (lots_fits r6 p) (by omega)
    · intro l hl; have := lots_len (List.mem_filter.mp hl).1; omega
  have lle := fun (b : Nat) (S : Store) (p : List Nat → Bool) => law_least_ok (P := prog) (W := W) (n := 37) (b := b) (S := S) (ls := (lotsL rs.length).filter p) (fit1000 p).1 (fit1000 p).2
  -- the least lots that tell
  have s4 : exec (cn W) t01_1_4 [x0, some (.ref 0), x2, some (Sp ax U), x4, x5, x6, some (Rs ax U rs), some (Rg ax U ys), some (rowsD (rowsM U rs)), some (iL (itemsI U ys)), some (.int rs.length), x12, x13] [handC h4] = .ok (.nx [x0, some (.ref 0), x2, some (Sp ax U), some (lotsD (minL rs.length (tellP U rs ys))), x5, x6, some (Rs ax U rs), some (Rg ax U ys), some (rowsD (rowsM U rs)), some (iL (itemsI U ys)), some (.int rs.length), x12, x13]) [handC h4] := by
    unfold t01_1_4
    simp
    rw [compB_pure (as := [lotsD (lotsL rs.length)]) (l := lotsL rs.length) (e := oT) (v := oT) (p := tellP U rs ys) (by simp [ll]) lotsD_items rfl (fun l hl => by
      have := lt 0 [handC h4] l hl
      rw [tellP_law hl] at this
      exact turn_if rfl (by simp [wipeD, this]) fun _ => by simp [wipeD]) szl64]
    have e : D.lst (((lotsL rs.length).filter (tellP U rs ys)).map oT) = lotsD ((lotsL rs.length).filter (tellP U rs ys)) := rfl
    rw [e]
    simp [lle]
    rfl
  rw [step_nx s4]
  have s5 : exec (cn W) t01_1_5 [x0, some (.ref 0), x2, some (Sp ax U), some (lotsD (minL rs.length (tellP U rs ys))), x5, x6, some (Rs ax U rs), some (Rg ax U ys), some (rowsD (rowsM U rs)), some (iL (itemsI U ys)), some (.int rs.length), x12, x13] [handC h4] = .ok (.nx [x0, some (.ref 0), x2, some (Sp ax U), some (lotsD (minL rs.length (tellP U rs ys))), some (lotsD (minL rs.length (loseP U rs ys))), x6, some (Rs ax U rs), some (Rg ax U ys), some (rowsD (rowsM U rs)), some (iL (itemsI U ys)), some (.int rs.length), x12, x13]) [handC h4] := by
    unfold t01_1_5
    simp
    rw [compB_pure (as := [lotsD (lotsL rs.length)]) (l := lotsL rs.length) (e := oT) (v := oT) (p := loseP U rs ys) (by simp [ll]) lotsD_items rfl (fun l hl => by
      have := lt 0 [handC h4] (restL rs.length l) (rest_lot l)
      rw [tellP_law (rest_lot l)] at this
      exact turn_if rfl (by simp [wipeD, lr, this, loseP]) fun _ => by simp [wipeD]) szl64]
    have e : D.lst (((lotsL rs.length).filter (loseP U rs ys)).map oT) = lotsD ((lotsL rs.length).filter (loseP U rs ys)) := rfl
    rw [e]
    simp [lle]
    rfl
  rw [step_nx s5]
  have ta := fun (b : Nat) (S : Store) => telling_ok (P := prog) (W := W) (n := 31) (b := b) (S := S) o py hW
  have lo := fun (b : Nat) (S : Store) => losing_ok (P := prog) (W := W) (n := 31) (b := b) (S := S) o py hW
  have sg := fun (b : Nat) (S : Store) => strength_ok (P := prog) (W := W) (n := 30) (b := b) (S := S) o py hW
  have lm := fun (b : Nat) (S : Store) (p : List Nat → Bool) => law_meets_ok (P := prog) (W := W) (n := 35) (b := b) (S := S) (ls := minL rs.length p) (m := rs.length) r6 (min1000 p).1 (min1000 p).2 hW.sixty
  have q1 : meetL (minL rs.length (tellP U rs ys)) rs.length = minL rs.length (loseP U rs ys) := meet_min hm8 tellP_mono
  have q2 : meetL (minL rs.length (loseP U rs ys)) rs.length = minL rs.length (tellP U rs ys) := meet_rest hm8 tellP_mono
  have q3 : meetL [] rs.length = [[]] := min_all _ hm8
  have pzT := pz_lots (m := 0) (min1000 (tellP U rs ys)).1 (min1000 (tellP U rs ys)).2
  have pzL := pz_lots (m := 0) (min1000 (loseP U rs ys)).1 (min1000 (loseP U rs ys)).2
  have lmT := fun b S => lm b S (tellP U rs ys)
  have lmL := fun b S => lm b S (loseP U rs ys)
  have anyL : ∀ l ∈ lotsL rs.length, (minL rs.length (loseP U rs ys)).any (fun one => insB one l) = loseP U rs ys l := fun l hl => min_any hm8 (fun x hx y hy hi h => by
    unfold loseP at h ⊢
    rw [Bool.not_eq_true'] at h ⊢
    cases z : tellP U rs ys (restL rs.length y) with
    | false => rfl
    | true =>
      have := tellP_mono (U := U) (rs := rs) (xs := ys) (restL rs.length y) (rest_lot y) (restL rs.length x) (rest_lot x) (insB_iff.mpr fun k hk => by
        rw [mem_rest] at hk ⊢
        exact ⟨hk.1, fun z => hk.2 (insB_iff.mp hi k z)⟩) z
      rw [this] at h; cases h) hl
  have lenL : ∀ l ∈ minL rs.length (loseP U rs ys), l.length ≤ 1000 := (min1000 _).2
  have szL : (minL rs.length (loseP U rs ys)).length ≤ szl := Nat.le_trans (min1000 _).1 (by decide)
  generalize minL rs.length (tellP U rs ys) = T at *
  generalize minL rs.length (loseP U rs ys) = L at *
  generalize hσ : [x0, some (D.ref 0), x2, some (Sp ax U), some (lotsD T), some (lotsD L), x6, some (Rs ax U rs), some (Rg ax U ys), some (rowsD (rowsM U rs)), some (iL (itemsI U ys)), some (D.int rs.length), x12, x13] = σ
  have s6 : exec (cn W) t01_1_6 σ [handC h4] = .ok (.nx σ) [handC h4] := by
    have ir := is_refl (P := prog) (W := W) (m := 3) (d := .lst [lotsD T, lotsD L]) (.lst 2 _ (by simp) fun x hx => by
      simp at hx
      rcases hx with rfl | rfl
      · exact pzT
      · exact pzL) 35 0 [handC h4]
    have n2 : newL false [lotsD T, lotsD L] [handC h4] = .ok (.lst [lotsD T, lotsD L]) [handC h4] := rfl
    subst hσ
    unfold t01_1_6
    simp [ta, lo, n2, ir]
  rw [step_nx s6]
  have s7 : exec (cn W) t01_1_7 σ [handC h4] = .ok (.nx σ) [handC h4] := by
    have ir := is_refl (P := prog) (W := W) (m := 0) (d := lenFst L) (by cases L with | nil => exact .non 0 | cons l L => exact .int 0 _) 38 0 [handC h4]
    subst hσ
    unfold t01_1_7
    cases L with
    | nil => simp [sg, lots_nnil, lenFst] at ir ⊢; simp [ir]
    | cons l L =>
      have i0 : ∀ S, opIdx (cn W) (lotsD (l :: L)) (.int 0) S = .ok (oT l) S := fun S => idx_lst (k := 0) rfl
      simp [lenFst] at ir
      simp [sg, lots_nnil, i0, oT_len, lenFst, ir]
  rw [step_nx s7]
  have z1 : ∀ A : List (List Nat), opCmp (cn W) .ne (lotsD A) (.lst [.tup []]) [handC h4] = .ok (.bl (!decide (A = [[]]))) [handC h4] := fun A => lots_ne (b := [[]])
  have s8 : exec (cn W) t01_1_8 σ [handC h4] = .ok (.nx σ) [handC h4] := by
    subst hσ
    unfold t01_1_8
    by_cases zT : T = []
    · subst zT
      simp [lmT, lots_nnil, q3, z1]
    · simp [lmT, lots_nnil, zT, q1, lots_ne]
  rw [step_nx s8]
  have s9 : exec (cn W) t01_1_9 σ [handC h4] = .ok (.nx σ) [handC h4] := by
    have ni : ∃ p, opCmp (cn W) .notin (lotsD L) (.tup [.lst [], .lst [.tup []]]) [handC h4] = .ok (.bl p) [handC h4] := ⟨_, op_notin_pl (n := 2) (m := 2) (xs := [.lst [], .lst [.tup []]]) rfl (fun z => by simp) (.lst 1 _ (lots_pl L)) (fun x hx => by
      simp at hx
      rcases hx with rfl | rfl
      · exact .lst 1 _ (by simp)
      · exact .lst 1 _ fun x hx => by simp at hx; subst hx; exact .tup 0 _ (by simp)) (by omega) (by omega)⟩
    obtain ⟨p, ni⟩ := ni
    subst hσ
    unfold t01_1_9
    cases p
    · simp [ni]
    · simp [ni, lmL, q2, lots_ne]
  rw [step_nx s9]
  -- lots lost
  subst hσ
  unfold t01_1_10
  rw [s_cons, s_loop (as := [.int (4 : Nat)]) (by simp) (range_items (by omega)) rfl]
  generalize hf : forL _ _ _ _ = r
  obtain ⟨σ', S', rfl, h', y6, y12, y13, rfl, rfl⟩ := forL_pre_e hf rfl (fun a σ S => ∃ h' y6 y12 y13, S = [handC h'] ∧ σ = [x0, some (D.ref 0), x2, some (Sp ax U), some (lotsD T), some (lotsD L), y6, some (Rs ax U rs), some (Rg ax U ys), some (rowsD (rowsM U rs)), some (iL (itemsI U ys)), some (D.int rs.length), y12, y13]) (fun a i c hac σ S hI => by
    obtain ⟨h', y6, y12, y13, rfl, rfl⟩ := hI
    rw [loopF_nm]
    simp only [List.set_cons_succ, List.set_cons_zero]
    obtain ⟨x, hx, e5⟩ := some_lst (P := prog) (W := W) (n := 37) (b := 0) (h := h') (T := []) (ds := (lotsL rs.length).map oT) (by rw [List.length_map, lots_count _ hm8]; exact Nat.pow_pos (by omega)) (by rw [List.length_map, lots_count _ hm8]; have : 2 ^ rs.length ≤ 2 ^ 6 := Nat.pow_le_pow_right (by omega) r6; omega) (by
      intro d hd
      obtain ⟨l, _, rfl⟩ := List.mem_map.mp hd
      exact oT_lo)
    obtain ⟨l, hl, rfl⟩ := List.mem_map.mp hx
    generalize hh2 : (draw h' ((lotsL rs.length).map oT).length).2 = h2' at e5
    have il := is_left_ok (P := prog) (W := W) (n := 31) (b := 0) (S := [handC h2']) o py hW hl
    have lt' := lt 0 [handC h2'] (restL rs.length l) (rest_lot l)
    rw [tellP_law (rest_lot l)] at lt'
    have al := anyL l hl
    have e5' : callF prog W 39 0 42 [.ref 0, lotsD (lotsL rs.length)] [handC h'] = .ok (oT l) [handC h2'] := e5
    have ib := fun p => is_bool (P := prog) (W := W) (n := 38) (b := 0) (S := [handC h2']) (p := p) (q := p)
    have lp : loseP U rs ys l = !tellP U rs ys (restL rs.length l) := rfl
    refine ⟨[x0, some (D.ref 0), x2, some (Sp ax U), some (lotsD T), some (lotsD L), some (.int (i : Int)), some (Rs ax U rs), some (Rg ax U ys), some (rowsD (rowsM U rs)), some (iL (itemsI U ys)), some (D.int rs.length), some (oT l), y13], [handC h2'], ?_, h2', _, _, _, rfl, rfl⟩
    generalize tellP U rs ys (restL rs.length l) = q at il lt' lp
    unfold t01_1_10B
    have a0 : exec (cn W) t01_1_10_0 [x0, some (D.ref 0), x2, some (Sp ax U), some (lotsD T), some (lotsD L), some (.int (i : Int)), some (Rs ax U rs), some (Rg ax U ys), some (rowsD (rowsM U rs)), some (iL (itemsI U ys)), some (D.int rs.length), y12, y13] [handC h'] = .ok (.nx [x0, some (D.ref 0), x2, some (Sp ax U), some (lotsD T), some (lotsD L), some (.int (i : Int)), some (Rs ax U rs), some (Rg ax U ys), some (rowsD (rowsM U rs)), some (iL (itemsI U ys)), some (D.int rs.length), some (oT l), y13]) [handC h2'] := by
      unfold t01_1_10_0
      simp [ll, e5']
    rw [step_nx a0]
    have a1 : exec (cn W) t01_1_10_1 [x0, some (D.ref 0), x2, some (Sp ax U), some (lotsD T), some (lotsD L), some (.int (i : Int)), some (Rs ax U rs), some (Rg ax U ys), some (rowsD (rowsM U rs)), some (iL (itemsI U ys)), some (D.int rs.length), some (oT l), y13] [handC h2'] = .ok (.nx [x0, some (D.ref 0), x2, some (Sp ax U), some (lotsD T), some (lotsD L), some (.int (i : Int)), some (Rs ax U rs), some (Rg ax U ys), some (rowsD (rowsM U rs)), some (iL (itemsI U ys)), some (D.int rs.length), some (oT l), y13]) [handC h2'] := by
      unfold t01_1_10_1
      simp [il, lr, lt', ib]
    rw [step_nx a1]
    have a2 : exec (cn W) t01_1_10_2 [x0, some (D.ref 0), x2, some (Sp ax U), some (lotsD T), some (lotsD L), some (.int (i : Int)), some (Rs ax U rs), some (Rg ax U ys), some (rowsD (rowsM U rs)), some (iL (itemsI U ys)), some (D.int rs.length), some (oT l), y13] [handC h2'] = .ok (.nx [x0, some (D.ref 0), x2, some (Sp ax U), some (lotsD T), some (lotsD L), some (.int (i : Int)), some (Rs ax U rs), some (Rg ax U ys), some (rowsD (rowsM U rs)), some (iL (itemsI U ys)), some (D.int rs.length), some (oT l), y13]) [handC h2'] := by
      unfold t01_1_10_2
      have cb : compB false [("one", 13)] (.nm 13) .val (ev (cn W) (.cons (.var 5) .nil)) (ev (cn W) .nil) (ev (cn W) (.call 77 (.cons (.var 13) (.cons (.var 12) .nil)))) [x0, some (D.ref 0), x2, some (Sp ax U), some (lotsD T), some (lotsD L), some (.int (i : Int)), some (Rs ax U rs), some (Rg ax U ys), some (rowsD (rowsM U rs)), some (iL (itemsI U ys)), some (D.int rs.length), some (oT l), y13] [handC h2'] = .ok (.lst (L.map fun one => .bl (insB one l))) [handC h2'] := by
        rw [compB_pure1 (as := [lotsD L]) (l := L) (e := oT) (v := fun one => .bl (insB one l)) (by simp) lotsD_items rfl (fun one ho => turn_1 rfl (by simp) (by simp [wipeD, law_inside_ok (lenL one ho)])) szL]
      have an := fun c S => any_lst (c := c) (mu := false) (S := S) (l := L) (f := fun one => insB one l)
      rw [al, lp] at an
      simp [il, cb, an, b_ne]
    rw [step_nx a2]
    simp) ⟨h4, x6, x12, x13, rfl, rfl⟩
  rw [bind_o, cont_nx, _root_.TD.s0]
  exact ⟨_, h', rfl, _, _, _, _, _, _, _, _, _, _, _, _, rfl⟩
theorem law_true : ∀ ns : List Int, ns.length ≤ 63 → ∃ W S, callF prog W 40 0 83 [.lst (ns.map .int)] [] = .ok (.bl true) S := by
  intro ns hl
  obtain ⟨W, hW⟩ : ∃ W, Wide W := ⟨2 ^ 9000, fun k hk => Nat.pow_le_pow_right (by omega) hk⟩
  refine ⟨W, [], ?_⟩
  have h83 : prog.fns[83]? = some c83 := rfl
  rw [callF_def (P := prog) (fd := c83) h83 rfl rfl (by simp [D.loL, D.lo, ints_pure]), c83_body]
  have st : TD.start c83 [.lst (ns.map .int)] = [some (.lst (ns.map .int)), none, none, none, none, none, none, none, none, none, none, none, none, none] := rfl
  rw [st]
  have h0 := hand_ok (P := prog) (W := W) (n := 38) (ns := ns) hl
  have s0 : exec (cn W) t01_0 [some (.lst (ns.map .int)), none, none, none, none, none, none, none, none, none, none, none, none, none] [] = .ok (.nx [some (.lst (ns.map .int)), some (.ref 0), none, none, none, none, none, none, none, none, none, none, none, none]) [handC (hand0 ns)] := by
    unfold t01_0; simp [h0]
  rw [step_nx s0]
  unfold t01_1
  rw [s_cons, s_loop (as := [.int (3 : Nat)]) (by simp) (range_items (by omega)) rfl]
  generalize hf : forL _ _ _ _ = r
  obtain ⟨σ', S', rfl, h', y2, y3, y4, y5, y6, y7, y8, y9, y10, y11, y12, y13, rfl, rfl⟩ := forL_pre_e hf rfl (fun a σ S => ∃ h' y2 y3 y4 y5 y6 y7 y8 y9 y10 y11 y12 y13, S = [handC h'] ∧ σ = [some (.lst (ns.map .int)), some (.ref 0), y2, y3, y4, y5, y6, y7, y8, y9, y10, y11, y12, y13]) (fun a i c hac σ S hI => by
    obtain ⟨h', y2, y3, y4, y5, y6, y7, y8, y9, y10, y11, y12, y13, rfl, rfl⟩ := hI
    rw [loopF_nm]
    simp only [List.set_cons_succ, List.set_cons_zero]
    obtain ⟨σ', h2, e, z2, z3, z4, z5, z6, z7, z8, z9, z10, z11, z12, z13, rfl⟩ := turn_01 hW h' (some (.lst (ns.map .int))) (some (.int (i : Int))) y3 y4 y5 y6 y7 y8 y9 y10 y11 y12 y13
    exact ⟨_, _, e, h2, _, _, _, _, _, _, _, _, _, _, _, _, rfl, rfl⟩) ⟨_, _, _, _, _, _, _, _, _, _, _, _, _, rfl, rfl⟩
  unfold t01_2
  simp [fin]
end
end TD

set_option Elab.async false
set_option linter.all false
set_option maxRecDepth 100000
set_option maxHeartbeats 0
open PySem PySem.W PySem.Calls PyProof.Rows
theorem PySem.Challenge.cw_countstell_k01_whole_lots_that_tell_and_holds : PySem.Challenge.rw_countstell_k01_whole_lots_that_tell_and.Holds := by
  w_on; o_law
  refine HandSHeadRun.head_any (r := OpenLaw.row PySem.Challenge.rw_countstell_k01_whole_lots_that_tell_and) (q := view (OpenLaw.row PySem.Challenge.rw_countstell_k01_whole_lots_that_tell_and).prog [82]) (H := TD.hk) (ob := TD.ob) (M := 30000) (loose := TD.loose) (d := HandSHeadRun.topDef (OpenLaw.row PySem.Challenge.rw_countstell_k01_whole_lots_that_tell_and).prog 82) (kwd := []) TD.ob_eq
    (by kernel_rfl) (fun s => by kernel_rfl) TD.head_run (by kernel_rfl) (by kernel_rfl) (by kernel_rfl) (by rfl) (by first | assumption | decide +kernel) (by decide +kernel) ⟨rfl, rfl, rfl, rfl, rfl, by decide +kernel⟩ ?hw ?hc
  case hw => w_witness2
  case hc =>
    exact TD.law_end (l := PySem.Challenge.rw_countstell_k01_whole_lots_that_tell_and) (P := TD.prog) (fn := TD.fn) (N := 40) (f := 83) (n := 63) (fd := TD.c83) (dd := TD.d83) (x := "law") rfl (by decide) (by kernel_rfl) ⟨rfl, by decide, by decide⟩ (by kernel_rfl) rfl rfl rfl rfl (by decide +kernel) rfl rfl
      (fun _ _ _ _ _ _ us hl => match us, hl with | [_], _ => rfl) (by decide +kernel) (by decide +kernel) TD.match_ok TD.binds TD.law_true
