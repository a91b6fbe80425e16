import PyProof.Rows.All
import HandS.ForMost
import HandS.Exc
import HandS.ExcOwn
import HandS.WordsExc
import HandS.CallSlots
import HandS.Zip
import HandS.Wide
import HandS.Gcd
import HandS.TupAny
import HandS.TupMul
import HandS.Style
import HandS.IsInst
import HandS.Defaults
import HandS.Deep
import HandS.More
import KE.SortData
import KE.DataCmp
import KE.DataEq
import KE.DataMinMax
import PyProof.ReprRoads
import HandS.EndBits
import HandS.Flow
import HandS.Dict
import HandS.NoneIn
import KE.GoesNew
import KE.GoesMore
import HandS.TryMany
import HandS.ExcField
import HandS.ExcIs
import HandS.Conv
import KE.KExcSuper
import HandS.ExcInit
import HandS.TupSets
import KE.KDictPairs
import KE.KDictKeyed
import KE.KDictSum
import HandS.ExcValue
import HandS.Keys
import HandS.Words
import HandS.Head2
import HandS.Head3
import HandS.HeadEnd
import HandS.HeadHook4
import PyProof.ReprLen
import PyProof.StrLawsRepr
import PySem.Challenge.RW_gridloops_k67_grids
set_option Elab.async false
set_option linter.all false
/-! GV: an evaluator over plain data. Part a: data, the small language, the evaluator. -/
namespace GV
open PySem L2

/-! ### data -/
inductive D where
  | non | bl (b : Bool) | int (i : Int) | str (x : Str)
  | tup (ds : List D) | lst (ds : List D)
  /-- a list that nobody writes (the script) -/
  | fz (ds : List D)
  /-- a dict that nobody writes -/
  | dk (ks : List L2.Key) (ds : List D)
  /-- the i-th cell of the store -/
  | ref (i : Nat)
  /-- an exception that is held: its address, its dict, what that says -/
  | exo (a : Addr) (d : Option Addr) (fs : List (Str × L2.V))
inductive Cell where
  | lst (ds : List D) | dk (kvs : List (L2.Key × D))
abbrev Sto := List Cell
abbrev Rho := List (Option D)
noncomputable instance : DecidableEq Cell := fun _ _ => Classical.propDecidable _

/-- how an evaluation ends: a value and the store; an exception (its class's number, its field); no answer -/
inductive R (α : Type) where
  | ok (a : α) (S : Sto) | exc (c : Nat) (v : Option D) (S : Sto) | no
def R.bind {α β : Type} : R α → (α → Sto → R β) → R β
  | .ok a S, f => f a S
  | .exc c v S, _ => .exc c v S
  | .no, _ => .no
@[simp] theorem R.bind_ok {α β : Type} (a : α) (S : Sto) (f : α → Sto → R β) : (R.ok a S).bind f = f a S := rfl
@[simp] theorem R.bind_exc {α β : Type} (c : Nat) (v : Option D) (S : Sto) (f : α → Sto → R β) : (R.exc c v S).bind f = .exc c v S := rfl
@[simp] theorem R.bind_no {α β : Type} (f : α → Sto → R β) : (R.no : R α).bind f = .no := rfl
/-- no exception goes through -/
def R.nox {α : Type} : R α → R α
  | .ok a S => .ok a S
  | _ => .no
@[simp] theorem R.nox_ok {α : Type} (a : α) (S : Sto) : (R.ok a S).nox = .ok a S := rfl
/-- an answer or none -/
def R.of {α : Type} (S : Sto) : Option α → R α
  | some a => .ok a S
  | none => .no
@[simp] theorem R.of_some {α : Type} (S : Sto) (a : α) : R.of S (some a) = .ok a S := rfl
@[simp] theorem R.of_none {α : Type} (S : Sto) : R.of S (none : Option α) = .no := rfl

/-! ### the library's data -/
def mapO {α β : Type} (f : α → Option β) : List α → Option (List β)
  | [] => some []
  | a :: as => match f a with
    | some b => (match mapO f as with
      | some bs => some (b :: bs)
      | none => none)
    | none => none
def keyPy : L2.Key → PyData
  | .inl i => .int i
  | .inr x => .str x
def pyF (S : Sto) : Nat → D → Option PyData
  | 0, _ => none
  | _ + 1, .non => some .none
  | _ + 1, .bl b => some (.bool b)
  | _ + 1, .int i => some (.int i)
  | _ + 1, .str x => some (.str x)
  | n + 1, .tup ds => (mapO (pyF S n) ds).map .tuple
  | n + 1, .lst ds => (mapO (pyF S n) ds).map .list
  | n + 1, .fz ds => (mapO (pyF S n) ds).map .list
  | n + 1, .dk ks ds => (mapO (pyF S n) ds).map fun ps => .dict ((ks.map keyPy).zip ps)
  | n + 1, .ref i => match S[i]? with
    | some (.lst ds) => (mapO (pyF S n) ds).map .list
    | _ => none
  | _ + 1, .exo _ _ _ => none
/-- data at most 24 deep -/
def py (S : Sto) (d : D) : Option PyData := pyF S 24 d
/-- the items of a list or tuple -/
def items (S : Sto) : D → Option (List D)
  | .tup ds => some ds
  | .lst ds => some ds
  | .fz ds => some ds
  | .ref i => match S[i]? with
    | some (.lst ds) => some ds
    | _ => none
  | _ => none
/-- the cell on which a walk leans -/
def dep (S : Sto) : D → Option (Nat × Cell)
  | .ref i => match S[i]? with
    | some c => some (i, c)
    | none => none
  | _ => none
def depOk (S : Sto) : Option (Nat × Cell) → Prop
  | some (i, c) => S[i]? = some c
  | none => True
noncomputable instance (S : Sto) (d : Option (Nat × Cell)) : Decidable (depOk S d) := Classical.propDecidable _
def szOk (n : Nat) : Prop := n ≤ 16777216
instance (n : Nat) : Decidable (szOk n) := inferInstanceAs (Decidable (n ≤ 16777216))

/-- truth -/
def truth (S : Sto) : D → Option Bool
  | .non => some false
  | .bl b => some b
  | .int i => some (i != 0)
  | .str x => if szOk x.length then some ((x.length : Int) != 0) else none
  | .tup ds => some (!ds.isEmpty)
  | .lst ds => some (!ds.isEmpty)
  | .fz ds => some (!ds.isEmpty)
  | .dk ks ds => none
  | .ref i => match S[i]? with
    | some (.lst ds) => some (!ds.isEmpty)
    | _ => none
  | .exo _ _ _ => none

/-! ### operators by values -/
inductive Bop where | add | sub | mul | fdiv | mod | pow deriving DecidableEq
inductive Cop where | eq | ne | lt | le | gt | ge | isN | notN | isin | notin deriving DecidableEq
def mulOk (a b : Int) : Prop := a.natAbs.log2 + b.natAbs.log2 < 100000000
instance (a b : Int) : Decidable (mulOk a b) := inferInstanceAs (Decidable (_ < _))
def fdivOk (b : Int) : Prop := b ≠ 0 ∧ b.natAbs < 1073741824
instance (b : Int) : Decidable (fdivOk b) := inferInstanceAs (Decidable (_ ∧ _))
def fdivW (b : Int) : Prop := 0 < b ∧ b.natAbs.log2 < 9000
instance (b : Int) : Decidable (fdivW b) := inferInstanceAs (Decidable (_ ∧ _))
def powOk (a b : Int) : Prop := 0 ≤ b ∧ b ≤ 1000000 ∧ a.natAbs < 2 ^ 64
instance (a b : Int) : Decidable (powOk a b) := inferInstanceAs (Decidable (_ ∧ _))
def repOk (n : Nat) (k : Int) : Prop := -(2 ^ 63) ≤ k ∧ k < 2 ^ 63 ∧ n * k.toNat ≤ 16777216
instance (n : Nat) (k : Int) : Decidable (repOk n k) := inferInstanceAs (Decidable (_ ∧ _))
def repTOk (n : Nat) (k : Int) : Prop := n ≠ 0 ∧ -1000 ≤ k ∧ k ≤ 1000 ∧ n ≤ 1000
instance (n : Nat) (k : Int) : Decidable (repTOk n k) := inferInstanceAs (Decidable (_ ∧ _))

/-- the items of a list that a list operator takes -/
def litems (S : Sto) : D → Option (List D)
  | .lst ds => some ds
  | .ref i => match S[i]? with
    | some (.lst ds) => some ds
    | _ => none
  | _ => none
def bin (S : Sto) : Bop → D → D → Option D
  | .add, .int a, .int b => some (.int (a + b))
  | .add, .int a, .bl b => some (.int (a + if b then 1 else 0))
  | .add, .str a, .str b => if szOk (a.length + b.length) then some (.str (a ++ b)) else none
  | .add, .tup a, .tup b => if szOk (a.length + b.length) then some (.tup (a ++ b)) else none
  | .add, x, y => match litems S x, litems S y with
    | some a, some b => if szOk (a.length + b.length) then some (.lst (a ++ b)) else none
    | _, _ => none
  | .sub, .int a, .int b => some (.int (a - b))
  | .mul, .int a, .int b => if mulOk a b then some (.int (a * b)) else none
  | .mul, .tup a, .int k => if repTOk a.length k then some (.tup (List.replicate k.toNat a).flatten) else none
  | .mul, x, .int k => match litems S x with
    | some a => if repOk a.length k then some (.lst (List.replicate k.toNat a).flatten) else none
    | none => none
  | .fdiv, .int a, .int b => if fdivOk b ∨ fdivW b then some (.int (a.fdiv b)) else none
  | .mod, .int a, .int b => if b ≠ 0 then some (.int (a.fmod b)) else none
  | .pow, .int a, .int b => if powOk a b then some (.int (a ^ b.toNat)) else none
  | _, _, _ => none

/-- == of what can be read as data -/
def eqD (S : Sto) (x y : D) : Option Bool := match py S x, py S y with
  | some p, some q => if p.plain = true ∧ q.plain = true then some (PyData.eqv p q) else none
  | _, _ => none
def notNone : PyData → Bool
  | .none => false
  | _ => true
/-- < of alike data -/
def ltP (p q : PyData) : Option Bool := if PySem.W.alike p q = true ∧ notNone p = true then some (PySem.W.dataLt p q) else none
def ltD (S : Sto) (x y : D) : Option Bool := match py S x, py S y with
  | some p, some q => ltP p q
  | _, _ => none
def isLst : D → Bool
  | .lst _ => true
  | .fz _ => true
  | .ref _ => true
  | _ => false
/-- x in y -/
def inD (S : Sto) (x y : D) : Option Bool := match items S y with
  | some ys => (match py S x, mapO (pyF S 23) ys with
    | some p, some qs => if p.plain = true ∧ PyData.plainAll qs = true then some (qs.any fun q => PyData.eqv q p) else none
    | _, _ => none)
  | none => none
def bnot (b : Bool) : Bool := !b
def isNon : D → Bool
  | .non => true
  | _ => false
def cmp (S : Sto) : Cop → D → D → Option Bool
  | .eq, x, y => eqD S x y
  | .ne, x, y => (eqD S x y).map bnot
  | .lt, x, y => ltD S x y
  | .le, x, y => (ltD S y x).map bnot
  | .gt, x, y => ltD S y x
  | .ge, x, y => (ltD S x y).map bnot
  | .isN, x, y => if isNon y = true then some (isNon x) else none
  | .notN, x, y => if isNon y = true then some (!isNon x) else none
  | .isin, x, y => inD S x y
  | .notin, x, y => (inD S x y).map bnot

/-! ### built-ins by values -/
mutual
def noList : PyData → Bool
  | .list xs => noListAll xs
  | .tuple xs => noListAll xs
  | .dict kvs => noListKv kvs
  | _ => true
def noListAll : List PyData → Bool
  | [] => true
  | x :: xs => noList x && noListAll xs
def noListKv : List (PyData × PyData) → Bool
  | [] => true
  | (k, v) :: r => noList k && noList v && noListKv r
end
mutual
theorem noList_all : ∀ p : PyData, noList p = true
  | .list xs => by rw [noList]; exact noListAll_all xs
  | .tuple xs => by rw [noList]; exact noListAll_all xs
  | .dict kvs => by rw [noList]; exact noListKv_all kvs
  | .none => by simp [noList]
  | .bool _ => by simp [noList]
  | .int _ => by simp [noList]
  | .str _ => by simp [noList]
theorem noListAll_all : ∀ ps : List PyData, noListAll ps = true
  | [] => by simp [noListAll]
  | p :: ps => by rw [noListAll, noList_all p, noListAll_all ps]; rfl
theorem noListKv_all : ∀ ps : List (PyData × PyData), noListKv ps = true
  | [] => by simp [noListKv]
  | (k, v) :: ps => by rw [noListKv, noList_all k, noList_all v, noListKv_all ps]; rfl
end
inductive B1 where
  | len | abs | int | repr | tuple | list | sorted | sum | max | min | all | any | str
  deriving DecidableEq
inductive B2 where | max | min | gcd deriving DecidableEq
def asInt : D → Option Int
  | .int i => some i
  | _ => none
def asBl : D → Option Bool
  | .bl b => some b
  | _ => none
/-- the order of a sort -/
def leP (p q : D × PyData) : Bool := !PySem.W.dataLt q.2 p.2
def withPy (S : Sto) (d : D) : Option (D × PyData) := (pyF S 23 d).map fun p => (d, p)
def allAlike (ps : List PyData) : Bool := ps.all fun p => ps.all fun q => PySem.W.alike p q
def isTupC : PyData → Bool
  | .tuple (_ :: _) => true
  | _ => false
def isTup : PyData → Bool
  | .tuple _ => true
  | _ => false
def sortable (ps : List PyData) : Bool := ps.all isTupC || ps.all fun p => notNone p && !isTup p
def sortD (S : Sto) (ds : List D) : Option (List D) := match mapO (withPy S) ds with
  | some es => if allAlike (es.map (·.2)) = true ∧ sortable (es.map (·.2)) = true then some ((es.mergeSort leP).map (·.1)) else none
  | none => none
/-- numbers, texts, truth values, None and tuples of these -/
def pureF : Nat → D → Bool
  | 0, _ => false
  | n + 1, .tup ds => ds.all (pureF n)
  | _ + 1, .lst _ => false
  | _ + 1, .fz _ => false
  | _ + 1, .dk _ _ => false
  | _ + 1, .ref _ => false
  | _ + 1, .exo _ _ _ => false
  | _ + 1, _ => true
def b1 (S : Sto) : B1 → D → Option D
  | .len, .str x => if szOk x.length then some (.int x.length) else none
  | .len, d => (items S d).map fun ds => .int ds.length
  | .abs, .int i => some (.int (if i < 0 then -i else i))
  | .int, .int i => some (.int i)
  | .int, .bl k => some (.int (if k then 1 else 0))
  | .repr, d => match py S d with
    | some p => if p.showable = true ∧ (p.hasDict = false ∨ noList p = true) ∧ szOk p.shown.length then some (.str p.shown) else none
    | none => none
  | .str, .int i => if i.natAbs.log2 < 1920 then some (.str (toString i)) else none
  | .tuple, d => (items S d).map .tup
  | .list, d => (items S d).map .lst
  | .sorted, d => match litems S d with
    | some ds => (sortD S ds).map .lst
    | none => none
  | .sum, d => match litems S d with
    | some ds => (mapO asInt ds).map fun ns => .int ns.sum
    | none => none
  | .max, d => match items S d with
    | some ds => (match mapO (withPy S) ds with
      | some (e :: es) => if allAlike ((e :: es).map (·.2)) = true ∧ (e :: es).all (fun q => notNone q.2 && pureF 23 q.1) = true then some (es.foldl (fun a y => if PySem.W.dataLt a.2 y.2 = true then y else a) e).1 else none
      | _ => none)
    | none => none
  | .min, d => match items S d with
    | some ds => (match mapO (withPy S) ds with
      | some (e :: es) => if allAlike ((e :: es).map (·.2)) = true ∧ (e :: es).all (fun q => notNone q.2 && pureF 23 q.1) = true then some (es.foldl (fun a y => if PySem.W.dataLt y.2 a.2 = true then y else a) e).1 else none
      | _ => none)
    | none => none
  | .all, d => match litems S d with
    | some ds => (mapO asBl ds).map fun bs => .bl (bs.all id)
    | none => none
  | .any, d => match litems S d with
    | some ds => (mapO asBl ds).map fun bs => .bl (bs.any id)
    | none => none
  | _, _ => none
def b2 : B2 → D → D → Option D
  | .max, .int a, .int b => some (.int (if b > a then b else a))
  | .min, .int a, .int b => some (.int (if b < a then b else a))
  | .gcd, .int a, .int b => some (.int (Nat.gcd a.natAbs b.natAbs : Nat))
  | _, _, _ => none

/-! ### types -/
inductive Ty where | int | bool | str | tuple | list | dict deriving DecidableEq
def tyName : Ty → String
  | .int => "int" | .bool => "bool" | .str => "str" | .tuple => "tuple" | .list => "list" | .dict => "dict"
def typeD (S : Sto) : D → Option String
  | .non => some "NoneType"
  | .bl _ => some "bool"
  | .int _ => some "int"
  | .str _ => some "str"
  | .tup _ => some "tuple"
  | .lst _ => some "list"
  | .fz _ => some "list"
  | .dk _ _ => some "dict"
  | .ref i => match S[i]? with
    | some (.lst _) => some "list"
    | some (.dk _) => some "dict"
    | none => none
  | .exo _ _ _ => none
/-- is a value of the built-in type t one of T -/
def isa : String → Ty → Bool
  | "bool", .int => true
  | t, T => t == tyName T

/-! ### subscripts -/
def lookK (k : L2.Key) : List (L2.Key × D) → Option D
  | [] => none
  | (k', d) :: r => if k' = k then some d else lookK k r
def asKey : D → Option L2.Key
  | .int i => some (.inl i)
  | .str x => some (.inr x)
  | _ => none
def idx (S : Sto) : D → D → Option D
  | .str z, .int i => if szOk z.length then (atI z.cps.toList i).map fun c => .str ⟨#[c]⟩ else none
  | .ref r, k => match S[r]? with
    | some (.lst ds) => (match k with
      | .int i => atI ds i
      | _ => none)
    | some (.dk kvs) => (match asKey k with
      | some k => lookK k kvs
      | none => none)
    | none => none
  | x, .int i => match items S x with
    | some ds => atI ds i
    | none => none
  | _, _ => none
def sIx := HT.sIx
def cut {α : Type} (xs : List α) (lo hi : Option Int) : List α := (xs.drop (HT.sIx xs.length 0 lo)).take (HT.sIx xs.length xs.length hi - HT.sIx xs.length 0 lo)
def slice (S : Sto) (x : D) (lo hi : Option Int) : Option D := match x with
  | .tup ds => some (.tup (cut ds lo hi))
  | .str z => if szOk z.length then some (.str ⟨(cut z.cps.toList lo hi).toArray⟩) else none
  | x => (items S x).map fun ds => .lst (cut ds lo hi)
def rev (S : Sto) : D → Option D
  | .lst ds => some (.lst ds.reverse)
  | .fz ds => some (.lst ds.reverse)
  | .tup ds => some (.tup ds.reverse)
  | .ref i => (items S (.ref i)).map fun ds => .lst ds.reverse
  | _ => none

/-! ### methods that write a cell -/
inductive Mt where | append | extend | pop | popAt | insert | index deriving DecidableEq
def insAt {α : Type} (xs : List α) (i : Nat) (x : α) : List α := xs.take i ++ x :: xs.drop i
/-- the value, the store -/
def meth (S : Sto) : Mt → D → List D → Option (D × Sto)
  | .append, .ref r, [x] => match S[r]? with
    | some (.lst ds) => if szOk (ds.length + 1) then some (.non, S.set r (.lst (ds ++ [x]))) else none
    | _ => none
  | .extend, .ref r, [x] => match S[r]?, litems S x with
    | some (.lst ds), some es => if szOk (ds.length + es.length) then some (.non, S.set r (.lst (ds ++ es))) else none
    | _, _ => none
  | .pop, .ref r, [] => match S[r]? with
    | some (.lst ds) => (match ds[ds.length - 1]? with
      | some x => some (x, S.set r (.lst ds.dropLast))
      | none => none)
    | _ => none
  | .popAt, .ref r, [.int i] => match S[r]? with
    | some (.lst ds) => if -(2 ^ 63) ≤ i ∧ i < 2 ^ 63 then (match seqIndex? i ds.length with
      | some k => (match ds[k]? with
        | some x => some (x, S.set r (.lst (ds.eraseIdx k)))
        | none => none)
      | none => none) else none
    | _ => none
  | .insert, .ref r, [.int i, x] => match S[r]? with
    | some (.lst ds) => if 0 ≤ i ∧ i ≤ ds.length ∧ szOk (ds.length + 1) then some (.non, S.set r (.lst (insAt ds i.toNat x))) else none
    | _ => none
  | .index, x, [y] => (py S y).bind fun p => ((litems S x).bind (mapO (pyF S 23))).bind fun qs =>
      if p.plain = true ∧ PyData.plainAll qs = true then (qs.findIdx? fun q => PyData.eqv q p).map fun k => (.int (k : Nat), S) else none
  | _, _, _ => none
def putK (k : L2.Key) (d : D) (kvs : List (L2.Key × D)) : List (L2.Key × D) :=
  if (kvs.any fun kv => decide (kv.1 = k)) = true then kvs.map (fun kv => if kv.1 = k then (kv.1, d) else kv) else kvs ++ [(k, d)]
def setx (S : Sto) : D → D → D → Option Sto
  | .ref r, k, x => match S[r]? with
    | some (.lst ds) => (match k with
      | .int i => (match ixN ds.length i with
        | some j => some (S.set r (.lst (ds.set j x)))
        | none => none)
      | _ => none)
    | some (.dk kvs) => (match asKey k with
      | some k => if szOk (kvs.length + 1) then some (S.set r (.dk (putK k x kvs))) else none
      | none => none)
    | none => none
  | _, _, _ => none

/-! ### targets -/
inductive Tg where | nm (i : Nat) | tp (t : Tg) | nil | cons (t r : Tg)
def seqD : D → Option (List D)
  | .tup ds => some ds
  | .lst ds => some ds
  | .fz ds => some ds
  | _ => none
def asgs : Tg → List D → Rho → Option Rho
  | .nil, [], ρ => some ρ
  | .cons (.nm i) r, d :: ds, ρ => asgs r ds (ρ.set i (some d))
  | .cons (.tp t) r, d :: ds, ρ => match seqD d with
    | some es => (match asgs t es ρ with
      | some ρ' => asgs r ds ρ'
      | none => none)
    | none => none
  | _, _, _ => none
def asg : Tg → D → Rho → Option Rho
  | .nm i, d, ρ => some (ρ.set i (some d))
  | .tp t, d, ρ => match seqD d with
    | some es => asgs t es ρ
    | none => none
  | _, _, _ => none
def Tg.slots : Tg → List Nat
  | .nm i => [i]
  | .tp t => t.slots
  | .nil => []
  | .cons t r => t.slots ++ r.slots
def wipeD (ρ : Rho) : List Nat → Rho
  | [] => ρ
  | v :: vs => (wipeD ρ vs).set v none

/-! ### expressions -/
inductive G where
  | loc (i : Nat) | cst (d : D)
  | bin (o : Bop) (a b : G) | neg (a : G) | not (a : G)
  | cmp (o : Cop) (a b : G) | chain (o p : Cop) (a b c : G)
  | and (a b : G) | or (a b : G) | ife (c a b : G)
  | tup (es : G) | lst (es : G) | alc (a : G)
  | nil | cons (a r : G)
  | idx (a i : G) | sl (a lo hi : G) | slh (a hi : G) | sll (a lo : G) | sla (a : G) | rev (a : G)
  | call (f : Nat) (es : G) | callK (f : Nat) (n : Nat) (is : List Nat) (es : G)
  | b1 (o : B1) (a : G) | b2 (o : B2) (a b : G)
  | isa (T : Ty) (a : G)
  | rng1 (a : G) | rng2 (a b : G) | enm (a : G) | zip (a b : G)
  | comp (own : List Nat) (tg : Tg) (it c e : G)
  | meth (m : Mt) (o es : G)
  | dct (ks : List L2.Key) (es : G)
  /-- cells made on the way are told, nobody writes them again -/
  | frz (a : G)
  /-- sorted(set(a)), sorted(dict(a)) of rows of whole numbers; list(zip(a, b)); {k: v}; a.upper() -/
  | sset (a : G) | sdct (a : G) | lzip (a b : G) | dct1 (k v : G) | upr (a : G)

def rngOk (i : Int) : Prop := -(2 ^ 62) ≤ i ∧ i < 2 ^ 62
instance (i : Int) : Decidable (rngOk i) := inferInstanceAs (Decidable (_ ∧ _))
def rngL (lo : Int) (n : Nat) : List D := (List.range n).map fun (k : Nat) => D.int (lo + k)
def enmL (k : Nat) : List D → List D
  | [] => []
  | d :: ds => .tup [.int k, d] :: enmL (k + 1) ds
def zipL : List D → List D → List D
  | d :: ds, e :: es => .tup [d, e] :: zipL ds es
  | _, _ => []

/-- the turns of a comprehension -/
noncomputable def compL (dp : Option (Nat × Cell)) (f : D → Sto → R (Option D)) : List D → List D → Sto → R (List D)
  | [], acc, S => .ok acc S
  | x :: xs, acc, S => (f x S).bind fun o S' => if depOk S' dp then
      (match o with
        | some d => if szOk (acc.length + 1) then compL dp f xs (acc ++ [d]) S' else .no
        | none => compL dp f xs acc S')
      else .no

abbrev CallF := Nat → List D → Sto → R D
def lsOf : D → List D
  | .tup ds => ds
  | _ => []
/-- what walks: for an iterable the value that it leans on, and the items -/
def permL {α : Type} : List Nat → List α → List α
  | [], _ => []
  | i :: is, xs => match xs[i]? with
    | some x => x :: permL is xs
    | none => permL is xs
def chn (S : Sto) (o p : Cop) (x y : D) (rc : Sto → R D) : R D := (R.of S (cmp S o x y)).bind fun b S1 =>
  if b = true then (rc S1).bind fun z S2 => (R.of S2 (cmp S2 p y z)).bind fun b' S3 => .ok (.bl b') S3 else .ok (.bl false) S1
def alc (S : Sto) : D → R D
  | .lst ds => .ok (.ref S.length) (S ++ [.lst ds])
  | _ => .no

/-- no reference beyond n -/
def ltF (n : Nat) : Nat → D → Bool
  | 0, _ => false
  | m + 1, .tup ds => ds.all (ltF n m)
  | m + 1, .lst ds => ds.all (ltF n m)
  | m + 1, .fz ds => ds.all (ltF n m)
  | m + 1, .dk _ ds => ds.all (ltF n m)
  | _ + 1, .ref i => decide (i < n)
  | _ + 1, _ => true
/-- what new cells say, put in their place -/
def resF (S : Sto) (n : Nat) : Nat → D → Option D
  | 0, _ => none
  | m + 1, .tup ds => (mapO (resF S n m) ds).map .tup
  | m + 1, .lst ds => (mapO (resF S n m) ds).map .lst
  | m + 1, .fz ds => if ds.all (ltF n m) = true then some (.fz ds) else none
  | m + 1, .dk ks ds => (mapO (resF S n m) ds).map (.dk ks)
  | m + 1, .ref i => if i < n then some (.ref i) else match S[i]? with
    | some (.lst ds) => (mapO (resF S n m) ds).map .lst
    | some (.dk kvs) => (mapO (resF S n m) (kvs.map (·.2))).map (.dk (kvs.map (·.1)))
    | none => none
  | _ + 1, d => some d
def cellLt (n : Nat) : Cell → Bool
  | .lst ds => ds.all (ltF n 24)
  | .dk kvs => kvs.all fun q => ltF n 24 q.2
/-- the store behind a def, new cells gone -/
noncomputable def trimS (S S' : Sto) : Option Sto :=
  if S'.length = S.length then some S' else if S'.take S.length = S ∨ (S'.take S.length).all (cellLt S.length) = true then some (S'.take S.length) else none
noncomputable def exitR (keep : Bool) (S : Sto) (d : D) (S' : Sto) : R D :=
  if keep = true ∨ S'.length = S.length then .ok d S' else
    match resF S' S.length 24 d, trimS S S' with
    | some d', some S2 => .ok d' S2
    | _, _ => .no
/-- rows of whole numbers -/
def rowD : D → Option (List Int)
  | .tup ds => mapO asInt ds
  | _ => none
def rowE (k : List Int) : D := .tup (k.map D.int)
def keyRow : D → Option (List Int)
  | .tup [x, _] => rowD x
  | _ => none
def ded : List (List Int) → List (List Int)
  | [] => []
  | k :: ks => if k ∈ ks then ded ks else k :: ded ks
def rowsSrt (ks : List (List Int)) : D := .lst (((ded ks).mergeSort fun a b => decide (a ≤ b)).map rowE)
def ssetD (S : Sto) (d : D) : Option D := (litems S d).bind fun ds => (mapO rowD ds).bind fun ks => if ds.length < 64 ∧ (ks.all fun k => !k.isEmpty) = true then some (rowsSrt ks) else none
def sdctD (S : Sto) (d : D) : Option D := (litems S d).bind fun ds => (mapO keyRow ds).bind fun ks => if (ks.all fun k => !k.isEmpty) = true then some (rowsSrt ks) else none
/-- list(zip(x, y)) -/
def lzipD (S : Sto) (x y : D) : Option D := match items S x with
  | some ds => (match items S y with
    | some es => if szOk (zipL ds es).length then some (.lst (zipL ds es)) else none
    | none => none)
  | none => none
noncomputable def ev (C : CallF) : G → Rho → Sto → R D
  | .loc i, ρ, S => match ρ[i]? with
    | some (some d) => .ok d S
    | _ => .no
  | .cst d, _, S => .ok d S
  | .bin o a b, ρ, S => (ev C a ρ S).bind fun x S1 => (ev C b ρ S1).bind fun y S2 => R.of S2 (bin S2 o x y)
  | .neg a, ρ, S => (ev C a ρ S).bind fun x S1 => match x with
    | .int i => .ok (.int (-i)) S1
    | _ => .no
  | .not a, ρ, S => (ev C a ρ S).bind fun x S1 => (R.of S1 (truth S1 x)).bind fun k S2 => .ok (.bl (!k)) S2
  | .cmp o a b, ρ, S => (ev C a ρ S).bind fun x S1 => (ev C b ρ S1).bind fun y S2 => (R.of S2 (cmp S2 o x y)).bind fun k S3 => .ok (.bl k) S3
  | .chain o p a b c, ρ, S => (ev C a ρ S).bind fun x S1 => (ev C b ρ S1).bind fun y S2 => chn S2 o p x y fun S3 => ev C c ρ S3
  | .and a b, ρ, S => (ev C a ρ S).bind fun x S1 => (R.of S1 (truth S1 x)).bind fun k S2 => if k = true then ev C b ρ S2 else .ok x S2
  | .or a b, ρ, S => (ev C a ρ S).bind fun x S1 => (R.of S1 (truth S1 x)).bind fun k S2 => if k = true then .ok x S2 else ev C b ρ S2
  | .ife c a b, ρ, S => ((ev C c ρ S).bind fun x S1 => R.of S1 (truth S1 x)).bind fun k S2 => if k = true then ev C a ρ S2 else ev C b ρ S2
  | .tup es, ρ, S => (ev C es ρ S).bind fun x S1 => if szOk (lsOf x).length then .ok (.tup (lsOf x)) S1 else .no
  | .lst es, ρ, S => (ev C es ρ S).bind fun x S1 => if szOk (lsOf x).length then .ok (.lst (lsOf x)) S1 else .no
  | .alc a, ρ, S => (ev C a ρ S).bind fun x S1 => alc S1 x
  | .nil, _, S => .ok (.tup []) S
  | .cons a r, ρ, S => (ev C a ρ S).bind fun x S1 => (ev C r ρ S1).bind fun y S2 => .ok (.tup (x :: lsOf y)) S2
  | .idx a i, ρ, S => (ev C a ρ S).bind fun x S1 => (ev C i ρ S1).bind fun y S2 => R.of S2 (idx S2 x y)
  | .sl a lo hi, ρ, S => (ev C a ρ S).bind fun x S1 => (ev C lo ρ S1).bind fun y S2 => match y with
    | .int l => (ev C hi ρ S2).bind fun z S3 => (match z with
      | .int h => R.of S3 (slice S3 x (some l) (some h))
      | _ => .no)
    | _ => .no
  | .slh a hi, ρ, S => (ev C a ρ S).bind fun x S1 => (ev C hi ρ S1).bind fun z S3 => match z with
    | .int h => R.of S3 (slice S3 x none (some h))
    | _ => .no
  | .sll a lo, ρ, S => (ev C a ρ S).bind fun x S1 => (ev C lo ρ S1).bind fun y S2 => match y with
    | .int l => R.of S2 (slice S2 x (some l) none)
    | _ => .no
  | .sla a, ρ, S => (ev C a ρ S).bind fun x S1 => R.of S1 (slice S1 x none none)
  | .rev a, ρ, S => (ev C a ρ S).bind fun x S1 => R.of S1 (rev S1 x)
  | .call f es, ρ, S => (ev C es ρ S).bind fun x S1 => C f (lsOf x) S1
  | .callK f n is es, ρ, S => (ev C es ρ S).bind fun x S1 => if (lsOf x).length = n then C f (permL is (lsOf x)) S1 else .no
  | .b1 o a, ρ, S => (ev C a ρ S).bind fun x S1 => R.of S1 (b1 S1 o x)
  | .b2 o a b, ρ, S => (ev C a ρ S).bind fun x S1 => (ev C b ρ S1).bind fun y S2 => R.of S2 (b2 o x y)
  | .isa T a, ρ, S => (ev C a ρ S).bind fun x S1 => (R.of S1 (typeD S1 x)).bind fun t S2 => .ok (.bl (isa t T)) S2
  | .rng1 a, ρ, S => (ev C a ρ S).bind fun x S1 => match x with
    | .int j => if rngOk j then .ok (.tup (rngL 0 j.toNat)) S1 else .no
    | _ => .no
  | .rng2 a b, ρ, S => (ev C a ρ S).bind fun x S1 => (ev C b ρ S1).bind fun y S2 => match x, y with
    | .int i, .int j => if rngOk i ∧ rngOk j then .ok (.tup (rngL i (j - i).toNat)) S2 else .no
    | _, _ => .no
  | .enm a, ρ, S => (ev C a ρ S).bind fun x S1 => match x with
    | .ref _ => .no
    | x => (match items S1 x with
      | some ds => .ok (.tup (enmL 0 ds)) S1
      | none => .no)
  | .zip a b, ρ, S => (ev C a ρ S).bind fun x S1 => (ev C b ρ S1).bind fun y S2 => match x, y with
    | .ref _, _ => .no
    | _, .ref _ => .no
    | x, y => (match items S2 x, items S2 y with
      | some ds, some es => .ok (.tup (zipL ds es)) S2
      | _, _ => .no)
  | .comp own tg it c e, ρ, S => (ev C it ρ S).bind fun x S1 => match items S1 x with
    | some ds => (compL (dep S1 x) (fun d S2 => match asg tg d (wipeD ρ own) with
        | some ρ' => ((ev C c ρ' S2).bind fun t S3 => R.of S3 (truth S3 t)).nox.bind fun k S4 =>
            if k = true then (ev C e ρ' S4).nox.bind fun y S5 => .ok (some y) S5 else .ok none S4
        | none => .no) ds [] S1).bind fun l S2 => .ok (.lst l) S2
    | none => .no
  | .meth m o es, ρ, S => (ev C o ρ S).bind fun x S1 => match litems S1 x with
    | some _ => ((ev C es ρ S1).bind fun y S2 => match meth S2 m x (lsOf y) with
      | some (d, S3) => .ok d S3
      | none => .no)
    | none => .no
  | .dct ks es, ρ, S => (ev C es ρ (S ++ [.dk []])).bind fun x S1 =>
      if ks.length = (lsOf x).length ∧ ks.length ≤ 15 ∧ ks.Nodup ∧ S1[S.length]? = some (.dk []) then .ok (.ref S.length) (S1.set S.length (.dk (ks.zip (lsOf x)))) else .no
  | .frz a, ρ, S => (ev C a ρ S).bind fun x S1 => exitR false S x S1
  | .sset a, ρ, S => (ev C a ρ S).bind fun x S1 => R.of S1 (ssetD S1 x)
  | .sdct a, ρ, S => (ev C a ρ S).bind fun x S1 => R.of S1 (sdctD S1 x)
  | .lzip a b, ρ, S => (ev C a ρ S).bind fun x S1 => (ev C b ρ S1).bind fun y S2 => R.of S2 (lzipD S2 x y)
  | .dct1 k v, ρ, S => (ev C k ρ (S ++ [.dk []])).bind fun x S1 => (ev C v ρ S1).bind fun y S2 => match asKey x with
    | some kk => if S2[S.length]? = some (.dk []) then .ok (.ref S.length) (S2.set S.length (.dk [(kk, y)])) else .no
    | none => .no
  | .upr a, ρ, S => (ev C a ρ S).bind fun x S1 => match x with
    | .str z => if z.length ≤ 5592405 then .ok (.str (Txt.upper z)) S1 else .no
    | _ => .no

/-! ### statements -/
inductive St where
  | skip | cont | set (i : Nat) (e : G) | unp (tg : Tg) (e : G) | par (is : List Nat) (es : G)
  | setx (o i e : G) | ex (e : G) | ret (e : G) | retN
  | ite (c : G) (a b : St) | whl (c : G) (b : St) | for_ (tg : Tg) (it : G) (b : St)
  | raise (c : Nat) (a : Option G)
  /-- what this language has no word for -/
  | bad
  /-- try; its clauses; no clause -/
  | try_ (b hs : St) | hnd (m : Nat) (i : Option Nat) (s r : St) | hend
  | seq (a b : St)
inductive SR where
  | nx (ρ : Rho) (S : Sto) | rt (d : D) (S : Sto) | ct (ρ : Rho) (S : Sto) | exc (c : Nat) (v : Option D) (ρ : Rho) (S : Sto) | no
def R.st {α : Type} (ρ : Rho) : R α → (α → Sto → SR) → SR
  | .ok a S, f => f a S
  | .exc c v S, _ => .exc c v ρ S
  | .no, _ => .no
@[simp] theorem R.st_ok {α : Type} (ρ : Rho) (a : α) (S : Sto) (f : α → Sto → SR) : (R.ok a S).st ρ f = f a S := rfl
@[simp] theorem R.st_exc {α : Type} (ρ : Rho) (c : Nat) (v : Option D) (S : Sto) (f : α → Sto → SR) : (R.exc c v S : R α).st ρ f = .exc c v ρ S := rfl
@[simp] theorem R.st_no {α : Type} (ρ : Rho) (f : α → Sto → SR) : (R.no : R α).st ρ f = .no := rfl

noncomputable def forL (dp : Option (Nat × Cell)) (f : D → Rho → Sto → SR) : List D → Rho → Sto → SR
  | [], ρ, S => .nx ρ S
  | x :: xs, ρ, S => match f x ρ S with
    | .nx ρ' S' => if depOk S' dp then forL dp f xs ρ' S' else .no
    | .ct ρ' S' => if depOk S' dp then forL dp f xs ρ' S' else .no
    | r => r
def whlN (c : Rho → Sto → R Bool) (f : Rho → Sto → SR) : Nat → Rho → Sto → SR
  | 0, _, _ => .no
  | n + 1, ρ, S => (c ρ S).st ρ fun k S1 => if k = true then (match f ρ S1 with
      | .nx ρ' S' => whlN c f n ρ' S'
      | .ct ρ' S' => whlN c f n ρ' S'
      | r => r) else .nx ρ S1
open Classical in
noncomputable def whlR (c : Rho → Sto → R Bool) (f : Rho → Sto → SR) (ρ : Rho) (S : Sto) : SR :=
  if h : ∃ n, whlN c f n ρ S ≠ .no then whlN c f (Classical.choose h) ρ S else .no
def setMany : List Nat → List D → Rho → Option Rho
  | [], [], ρ => some ρ
  | i :: is, d :: ds, ρ => setMany is ds (ρ.set i (some d))
  | _, _, _ => none
/-! exceptions: classes by numbers, 0 above all others -/
def xsub (a b : Nat) : Bool := decide (a = b) || decide (b = 0)
abbrev XR0 : Nat := 1000000
abbrev XF0 : Nat := 1000001
abbrev XI0 : Nat := 1000100
/-- which field a class's own __init__ sets -/
def fldNo : Nat → Nat
  | 2 => 1 | 3 => 2 | 4 => 3 | 5 => 3 | 6 => 2 | 7 => 4 | 10 => 5 | 11 => 5 | _ => 0
def fldNm : Nat → Str
  | 1 => "limit" | 2 => "place" | 3 => "error" | 4 => "word" | _ => "given"
def vOf : D → Option L2.V
  | .non => some .non
  | .bl b => some (.bl b)
  | .int i => some (.int i)
  | .str x => some (.str x)
  | _ => none
/-- the dict of such an exception -/
def XFit (c : Nat) (v : Option D) (d : Option Addr) (fs : List (Str × L2.V)) : Prop :=
  (v = none → d = none) ∧ ∀ x, v = some x → ∃ dd y, d = some dd ∧ vOf x = some y ∧ fs.lookup (fldNm (fldNo c)) = some y
/-- the calls in a clause: raise again -/
def xR (C : CallF) (c : Nat) (v : Option D) : CallF := fun f ds S => if f = XR0 then .exc c v S else C f ds S
open Classical in
/-- .. is it one of a class, its field -/
noncomputable def xC (C : CallF) (c : Nat) (v : Option D) (a : Addr) (d : Option Addr) (fs : List (Str × L2.V)) : CallF := fun f ds S =>
  if f < 1000000 then C f ds S else if ds = [.exo a d fs] then
    (if f < XI0 then (if fldNo c ≠ 0 ∧ f = XF0 + fldNo c then R.of S v else .no) else .ok (.bl (xsub c (f - XI0))) S) else .no
def slx (i : Option Nat) (ρ : Rho) (d : D) : Rho := match i with
  | some i => ρ.set i (some d)
  | none => ρ
def SR.gone (i : Option Nat) : SR → SR
  | .nx ρ S => .nx (match i with | some i => ρ.set i none | none => ρ) S
  | .ct ρ S => .ct (match i with | some i => ρ.set i none | none => ρ) S
  | .rt d S => .rt d S
  | _ => .no
open Classical in
/-- what is so whatever the exception's address -/
noncomputable def hndR (c : Nat) (v : Option D) (f : Addr → Option Addr → List (Str × L2.V) → SR) : SR :=
  if h : ∃ r, ∀ a d fs, XFit c v d fs → f a d fs = r then Classical.choose h else .no
noncomputable def evS : CallF → St → Rho → Sto → SR
  | _, .skip, ρ, S => .nx ρ S
  | _, .bad, _, _ => .no
  | C, .try_ b hs, ρ, S => match evS C b ρ S with
    | .exc c v ρ' S' => evS (xR C c v) hs ρ' S'
    | r => r
  | C, .hnd m i s r, ρ, S => match C XR0 [] S with
    | .exc c v S1 => if xsub c m = true then hndR c v (fun a d fs => (evS (xC C c v a d fs) s (slx i ρ (.exo a d fs)) S1).gone i) else evS C r ρ S1
    | _ => .no
  | C, .hend, ρ, S => match C XR0 [] S with
    | .exc c v S1 => .exc c v ρ S1
    | _ => .no
  | _, .cont, ρ, S => .ct ρ S
  | C, .set i e, ρ, S => (ev C e ρ S).st ρ fun d S1 => .nx (ρ.set i (some d)) S1
  | C, .unp tg e, ρ, S => (ev C e ρ S).st ρ fun d S1 => match asg tg d ρ with
    | some ρ' => .nx ρ' S1
    | none => .no
  | C, .par is es, ρ, S => (ev C es ρ S).st ρ fun x S1 => match setMany is (lsOf x) ρ with
    | some ρ' => .nx ρ' S1
    | none => .no
  | C, .setx o i e, ρ, S => (ev C e ρ S).st ρ fun d S1 => (ev C o ρ S1).st ρ fun x S2 => (ev C i ρ S2).st ρ fun k S3 => match setx S3 x k d with
    | some S4 => .nx ρ S4
    | none => .no
  | C, .ex e, ρ, S => (ev C e ρ S).st ρ fun _ S1 => .nx ρ S1
  | C, .ret e, ρ, S => (ev C e ρ S).st ρ fun d S1 => .rt d S1
  | C, .retN, _, S => .rt .non S
  | C, .ite c a b, ρ, S => ((ev C c ρ S).bind fun x S1 => R.of S1 (truth S1 x)).st ρ fun k S1 => if k = true then evS C a ρ S1 else evS C b ρ S1
  | C, .whl c b, ρ, S => whlR (fun ρ S => (ev C c ρ S).bind fun x S1 => R.of S1 (truth S1 x)) (evS C b) ρ S
  | C, .for_ tg it b, ρ, S => (ev C it ρ S).st ρ fun x S1 => match items S1 x with
    | some ds => forL (dep S1 x) (fun d ρ' S2 => match asg tg d ρ' with
        | some ρ2 => evS C b ρ2 S2
        | none => .no) ds ρ S1
    | none => .no
  | C, .raise c none, ρ, S => .exc c none ρ S
  | C, .raise c (some a), ρ, S => (ev C a ρ S).st ρ fun d S1 => if (vOf d).isSome then .exc c (some d) ρ S1 else .no
  | C, .seq a b, ρ, S => match evS C a ρ S with
    | .nx ρ' S' => evS C b ρ' S'
    | r => r

/-! ### calls -/
/-- a def: how many names, how many parameters, may cells that it makes live on -/
structure Df where
  names : Nat
  pars : Nat
  keep : Bool
  body : St
def startD (n : Nat) (ds : List D) : Rho := ds.map some ++ List.replicate (n - ds.length) none
noncomputable def runD (C : CallF) (df : Df) (ds : List D) (S : Sto) : R D :=
  if ds.length = df.pars then (match evS C df.body (startD df.names ds) S with
    | .nx _ S' => exitR df.keep S .non S'
    | .rt d S' => exitR df.keep S d S'
    | .ct _ _ => .no
    | .exc c v _ S' => if df.keep = true ∨ S'.length = S.length then .exc c v S' else
        match trimS S S' with
        | some S2 => .exc c v S2
        | none => .no
    | .no => .no) else .no
noncomputable def callN (T : List Df) : Nat → CallF
  | 0 => fun _ _ _ => .no
  | k + 1 => fun f ds S => match T[f]? with
    | some df => runD (callN T k) df ds S
    | none => .no
end GV

set_option linter.all false
set_option maxHeartbeats 1000000
/-! GV, part b: how data lies in the heap; canonical readings. -/
namespace GV
open PySem PySem.Spec PyProof.Rows L2

/-- the cells' addresses; the addresses of objects in the making, which no value may name -/
structure Ad where
  c : List Addr
  g : List Addr
instance : HAppend Ad (List Addr) Ad := ⟨fun ι l => ⟨ι.c ++ l, ι.g⟩⟩
def Ad.gh (ι : Ad) (a : Addr) : Ad := ⟨ι.c, a :: ι.g⟩
theorem Ad.app_c (ι : Ad) (l : List Addr) : (ι ++ l).c = ι.c ++ l := rfl
theorem Ad.app_g (ι : Ad) (l : List Addr) : (ι ++ l).g = ι.g := rfl
def Ad.out (ι : Ad) (a : Addr) : Prop := a ∉ ι.c ∧ a ∉ ι.g
/-- a list that is never written: locked, or the module's -/
def FzL (K : PySem.W.Frag) (H : Hp) (a : Addr) (xs : List V) : Prop := (∃ o, H a = some (.frz o (.lst xs))) ∨ SqL K (fun _ => none) a xs
theorem FzL.sq {K : PySem.W.Frag} {H : Hp} {a : Addr} {xs : List V} (h : FzL K H a xs) : SqL K H a xs := by
  rcases h with ⟨o, h⟩ | h
  · exact .inl (.inr ⟨o, h⟩)
  · rcases h with h | h
    · rcases h with h | ⟨o, h⟩ <;> cases h
    · exact .inr h
mutual
inductive Rp (K : PySem.W.Frag) (H : Hp) (ι : Ad) : V → D → Prop
  | non : Rp K H ι .non .non
  | bl (b : Bool) : Rp K H ι (.bl b) (.bl b)
  | int (i : Int) : Rp K H ι (.int i) (.int i)
  | str (x : Str) : Rp K H ι (.str x) (.str x)
  | tup {a : Addr} {xs : List V} {ds : List D} : SqT K H a xs → RpL K H ι xs ds → Rp K H ι (.ref a) (.tup ds)
  | lst {a : Addr} {xs : List V} {ds : List D} : H a = some (.lst xs) → ι.out a → RpL K H ι xs ds → Rp K H ι (.ref a) (.lst ds)
  | fz {a : Addr} {xs : List V} {ds : List D} : FzL K H a xs → RpL K H ι xs ds → Rp K H ι (.ref a) (.fz ds)
  | dk {a : Addr} {kvs : List (L2.Key × V)} {ks : List L2.Key} {xs : List V} {ds : List D} : H a = some (.dK kvs) → ι.out a → kvs.map (·.1) = ks → kvs.map (·.2) = xs → RpL K H ι xs ds → Rp K H ι (.ref a) (.dk ks ds)
  | ref {i : Nat} {a : Addr} : ι.c[i]? = some a → Rp K H ι (.ref a) (.ref i)
  | exo {a : Addr} {d : Option Addr} {fs : List (Str × V)} : (∀ dd, d = some dd → H dd = some (.xd fs) ∧ ι.out dd) → Rp K H ι (.ref a) (.exo a d fs)
inductive RpL (K : PySem.W.Frag) (H : Hp) (ι : Ad) : List V → List D → Prop
  | nil : RpL K H ι [] []
  | cons {v : V} {vs : List V} {d : D} {ds : List D} : Rp K H ι v d → RpL K H ι vs ds → RpL K H ι (v :: vs) (d :: ds)
end

/-- what may have happened: cells written, new objects, new cells, new objects in the making -/
structure Ext (ι : Ad) (H : Hp) (ι' : Ad) (H' : Hp) : Prop where
  more : ∃ l m, ι'.c = ι.c ++ l ∧ ι'.g = m ++ ι.g ∧ (∀ a ∈ l, H a = none) ∧ ∀ a ∈ m, H a = none
  keep : ∀ a o, H a = some o → a ∉ ι.c → H' a = some o
  tups : ∀ a xs, H a = some (.tup xs) → H' a = some (.tup xs)
  frzs : ∀ a o u, H a = some (.frz o u) → H' a = some (.frz o u)
  dom : ∀ a o, H a = some o → ∃ o', H' a = some o'

section
variable {K : PySem.W.Frag} {ι ι' ι1 ι2 : Ad} {H H' H1 H2 : Hp}
theorem Ext.refl (ι : Ad) (H : Hp) : Ext ι H ι H := ⟨⟨[], [], by simp, rfl, by simp, by simp⟩, fun _ _ h _ => h, fun _ _ h => h, fun _ _ _ h => h, fun _ o h => ⟨o, h⟩⟩
theorem Ext.fresh (e : Ext ι H ι' H') {a : Addr} (h : H' a = none) : H a = none := by
  cases q : H a with
  | none => rfl
  | some o =>
    obtain ⟨o', h'⟩ := e.dom a o q
    rw [h] at h'; cases h'
theorem Ext.trans (a : Ext ι H ι1 H1) (b : Ext ι1 H1 ι2 H2) : Ext ι H ι2 H2 := by
  obtain ⟨l, m, hc, hg, hl, hm⟩ := a.more
  obtain ⟨l2, m2, hc2, hg2, hl2, hm2⟩ := b.more
  refine ⟨⟨l ++ l2, m2 ++ m, by rw [hc2, hc, List.append_assoc], by rw [hg2, hg, List.append_assoc], fun c h => ?_, fun c h => ?_⟩, fun c o h hn => ?_, fun c xs h => b.tups c xs (a.tups c xs h), fun c o u h => b.frzs c o u (a.frzs c o u h), fun c o h => ?_⟩
  · rcases List.mem_append.mp h with h | h
    · exact hl c h
    · exact a.fresh (hl2 c h)
  · rcases List.mem_append.mp h with h | h
    · exact a.fresh (hm2 c h)
    · exact hm c h
  · refine b.keep c o (a.keep c o h hn) fun h2 => ?_
    rw [hc] at h2
    rcases List.mem_append.mp h2 with h2 | h2
    · exact hn h2
    · rw [hl c h2] at h; cases h
  · obtain ⟨o', h'⟩ := a.dom c o h
    exact b.dom c o' h'
theorem Ext.out (e : Ext ι H ι' H') {a : Addr} {o : HO} (h : H a = some o) (hn : ι.out a) : ι'.out a := by
  obtain ⟨l, m, hc, hg, hl, hm⟩ := e.more
  refine ⟨fun h2 => ?_, fun h2 => ?_⟩
  · rw [hc] at h2
    rcases List.mem_append.mp h2 with h2 | h2
    · exact hn.1 h2
    · rw [hl a h2] at h; cases h
  · rw [hg] at h2
    rcases List.mem_append.mp h2 with h2 | h2
    · rw [hm a h2] at h; cases h
    · exact hn.2 h2
theorem Ext.ix (e : Ext ι H ι' H') {i : Nat} {a : Addr} (h : ι.c[i]? = some a) : ι'.c[i]? = some a := by
  obtain ⟨l, m, hc, _⟩ := e.more
  rw [hc, List.getElem?_append_left]
  · exact h
  · exact (List.getElem?_eq_some_iff.mp h).1
theorem Ext.sqT (e : Ext ι H ι' H') {a : Addr} {xs : List V} (h : SqT K H a xs) : SqT K H' a xs := by
  rcases h with h | h
  · rcases h with h | ⟨o, h⟩
    · exact .inl (.inl (e.tups a xs h))
    · exact .inl (.inr ⟨o, e.frzs a o _ h⟩)
  · exact .inr h
theorem Ext.sqL (e : Ext ι H ι' H') {a : Addr} {xs : List V} (hn : a ∉ ι.c) (h : SqL K H a xs) : SqL K H' a xs := by
  rcases h with h | h
  · rcases h with h | ⟨o, h⟩
    · exact .inl (.inl (e.keep a _ h hn))
    · exact .inl (.inr ⟨o, e.frzs a o _ h⟩)
  · exact .inr h
theorem FzL.mono {a : Addr} {xs : List V} (hf : ∀ o u, H a = some (.frz o u) → H' a = some (.frz o u)) (h : FzL K H a xs) : FzL K H' a xs := by
  rcases h with ⟨o, h⟩ | h
  · exact .inl ⟨o, hf _ _ h⟩
  · exact .inr h

mutual
theorem Rp.ext (e : Ext ι H ι' H') : ∀ {v : V} {d : D}, Rp K H ι v d → Rp K H' ι' v d
  | _, _, .non => .non
  | _, _, .bl b => .bl b
  | _, _, .int i => .int i
  | _, _, .str x => .str x
  | _, _, .tup h r => .tup (e.sqT h) (RpL.ext e r)
  | _, _, .lst h n r => .lst (e.keep _ _ h n.1) (e.out h n) (RpL.ext e r)
  | _, _, .fz h r => .fz (h.mono fun o u => e.frzs _ o u) (RpL.ext e r)
  | _, _, .dk h n a b r => .dk (e.keep _ _ h n.1) (e.out h n) a b (RpL.ext e r)
  | _, _, .ref h => .ref (e.ix h)
  | _, _, .exo h => .exo fun dd q => ⟨e.keep _ _ (h dd q).1 (h dd q).2.1, e.out (h dd q).1 (h dd q).2⟩
theorem RpL.ext (e : Ext ι H ι' H') : ∀ {vs : List V} {ds : List D}, RpL K H ι vs ds → RpL K H' ι' vs ds
  | _, _, .nil => .nil
  | _, _, .cons h t => .cons (Rp.ext e h) (RpL.ext e t)
end

theorem RpL.length : ∀ {vs : List V} {ds : List D}, RpL K H ι vs ds → vs.length = ds.length
  | _, _, .nil => rfl
  | _, _, .cons _ t => by simp [RpL.length t]
theorem RpL.append : ∀ {vs ws : List V} {ds es : List D}, RpL K H ι vs ds → RpL K H ι ws es → RpL K H ι (vs ++ ws) (ds ++ es)
  | _, _, _, _, .nil, r => r
  | _, _, _, _, .cons h t, r => .cons h (RpL.append t r)
theorem RpL.get : ∀ {vs : List V} {ds : List D} {i : Nat} {d : D}, RpL K H ι vs ds → ds[i]? = some d → ∃ v, vs[i]? = some v ∧ Rp K H ι v d
  | _, _, _, _, .nil, e => by simp at e
  | _, _, 0, _, .cons h _, e => by simp at e; subst e; exact ⟨_, rfl, h⟩
  | _, _, i + 1, d, .cons _ t, e => by
    obtain ⟨v, h1, h2⟩ := RpL.get (i := i) (d := d) t (by simpa using e)
    exact ⟨v, by simpa using h1, h2⟩
theorem RpL.getV : ∀ {vs : List V} {ds : List D} {i : Nat} {v : V}, RpL K H ι vs ds → vs[i]? = some v → ∃ d, ds[i]? = some d ∧ Rp K H ι v d
  | _, _, _, _, .nil, e => by simp at e
  | _, _, 0, _, .cons h _, e => by simp at e; subst e; exact ⟨_, rfl, h⟩
  | _, _, i + 1, d, .cons _ t, e => by
    obtain ⟨v, h1, h2⟩ := RpL.getV (i := i) (v := d) t (by simpa using e)
    exact ⟨v, by simpa using h1, h2⟩
theorem RpL.set {x : V} {u : D} (r : Rp K H ι x u) : ∀ {xs : List V} {us : List D} (i : Nat), RpL K H ι xs us → RpL K H ι (xs.set i x) (us.set i u)
  | _, _, _, .nil => .nil
  | _, _, 0, .cons _ t => .cons r t
  | _, _, i + 1, .cons q t => .cons q (RpL.set r i t)
theorem RpL.take : ∀ {xs : List V} {us : List D} (n : Nat), RpL K H ι xs us → RpL K H ι (xs.take n) (us.take n)
  | _, _, 0, _ => .nil
  | _, _, _ + 1, .nil => .nil
  | _, _, n + 1, .cons r t => .cons r (RpL.take n t)
theorem RpL.drop : ∀ {xs : List V} {us : List D} (n : Nat), RpL K H ι xs us → RpL K H ι (xs.drop n) (us.drop n)
  | _, _, 0, r => r
  | _, _, _ + 1, .nil => .nil
  | _, _, n + 1, .cons _ t => RpL.drop n t
theorem RpL.erase : ∀ {xs : List V} {us : List D} (i : Nat), RpL K H ι xs us → RpL K H ι (xs.eraseIdx i) (us.eraseIdx i)
  | _, _, _, .nil => .nil
  | _, _, 0, .cons _ t => t
  | _, _, i + 1, .cons q t => .cons q (RpL.erase i t)
theorem RpL.dropLast {xs : List V} {us : List D} (h : RpL K H ι xs us) : RpL K H ι xs.dropLast us.dropLast := by
  have e := h.length
  rw [List.dropLast_eq_take, List.dropLast_eq_take, e]
  exact h.take _
theorem RpL.reverse : ∀ {xs : List V} {us : List D}, RpL K H ι xs us → RpL K H ι xs.reverse us.reverse
  | _, _, .nil => .nil
  | _, _, .cons h t => by simp only [List.reverse_cons]; exact (RpL.reverse t).append (.cons h .nil)
theorem RpL.rep {xs : List V} {us : List D} (h : RpL K H ι xs us) : ∀ k : Nat, RpL K H ι (List.replicate k xs).flatten (List.replicate k us).flatten
  | 0 => .nil
  | k + 1 => by simp only [List.replicate_succ, List.flatten_cons]; exact h.append (RpL.rep h k)
theorem RpL.cut {xs : List V} {us : List D} (h : RpL K H ι xs us) (lo hi : Option Int) : RpL K H ι (cutV xs lo hi) (GV.cut us lo hi) := by
  unfold cutV GV.cut
  rw [h.length]
  exact (h.drop _).take _

/-! ### the store -/
inductive CellOk (K : PySem.W.Frag) (H : Hp) (ι : Ad) (a : Addr) : Cell → Prop
  | lst {xs : List V} {ds : List D} : H a = some (.lst xs) → RpL K H ι xs ds → CellOk K H ι a (.lst ds)
  | dk {vs : List (L2.Key × V)} {kvs : List (L2.Key × D)} : H a = some (.dK vs) → vs.map (·.1) = kvs.map (·.1) → RpL K H ι (vs.map (·.2)) (kvs.map (·.2)) → CellOk K H ι a (.dk kvs)
structure StOk (K : PySem.W.Frag) (H : Hp) (ι : Ad) (S : Sto) : Prop where
  len : ι.c.length = S.length
  nd : ι.c.Nodup
  cell : ∀ (i : Nat) (a : Addr) (c : Cell), ι.c[i]? = some a → S[i]? = some c → CellOk K H ι a c
  gh : ∀ a ∈ ι.g, a ∉ ι.c ∧ ∃ xs, H a = some (.lst xs)
theorem CellOk.some {a : Addr} {c : Cell} (h : CellOk K H ι a c) : ∃ o, H a = some o ∧ ((∃ xs, o = .lst xs) ∨ ∃ kvs, o = .dK kvs) := by
  cases h with
  | lst h _ => exact ⟨_, h, .inl ⟨_, rfl⟩⟩
  | dk h _ _ => exact ⟨_, h, .inr ⟨_, rfl⟩⟩
variable {S S' : Sto}
theorem StOk.there (st : StOk K H ι S) {a : Addr} (h : a ∈ ι.c) : ∃ o, H a = some o ∧ ((∃ xs, o = .lst xs) ∨ ∃ kvs, o = .dK kvs) := by
  obtain ⟨i, hi, e⟩ := List.getElem_of_mem h
  have hS : i < S.length := by rw [← st.len]; exact hi
  exact (st.cell i a S[i] (by rw [List.getElem?_eq_getElem hi, e]) (List.getElem?_eq_getElem hS)).some
theorem StOk.at (st : StOk K H ι S) {i : Nat} {c : Cell} (h : S[i]? = some c) : ∃ a, ι.c[i]? = some a ∧ CellOk K H ι a c := by
  have hS : i < ι.c.length := by rw [st.len]; exact (List.getElem?_eq_some_iff.mp h).1
  exact ⟨ι.c[i], List.getElem?_eq_getElem hS, st.cell i _ c (List.getElem?_eq_getElem hS) h⟩
theorem StOk.out (st : StOk K H ι S) {p : Addr} (h : H p = none) : ι.out p := ⟨fun hp => (by
    obtain ⟨o, e, _⟩ := st.there hp
    rw [h] at e
    cases e), fun hp => (by
    obtain ⟨_, xs, e⟩ := st.gh p hp
    rw [h] at e
    cases e)⟩
theorem CellOk.ext {a : Addr} {c : Cell} (e : Ext ι H ι' H') (hh : H' a = H a) (h : CellOk K H ι a c) : CellOk K H' ι' a c := by
  cases h with
  | lst h r => exact .lst (hh.trans h) (r.ext e)
  | dk h k r => exact .dk (hh.trans h) k (r.ext e)
/-- a new object -/
theorem Ext.new (ι : Ad) {p : Addr} {o : HO} (hp : H p = none) : Ext ι H ι (upd H p o) := by
  have ne : ∀ a u, H a = some u → a ≠ p := fun a u h => ne_of_none h hp
  refine ⟨⟨[], [], by simp, rfl, by simp, by simp⟩, fun a u h _ => ?_, fun a u h => ?_, fun a u w h => ?_, fun a u h => ⟨u, ?_⟩⟩ <;> (rw [upd_ne (ne _ _ h)]; exact h)
theorem StOk.new (st : StOk K H ι S) {p : Addr} {o : HO} (hp : H p = none) : StOk K (upd H p o) ι S :=
  ⟨st.len, st.nd, fun i a c h1 h2 => by
    have c0 := st.cell i a c h1 h2
    obtain ⟨u, hu, _⟩ := c0.some
    exact c0.ext (Ext.new ι hp) (upd_ne (ne_of_none hu hp)), fun a ha => by
    obtain ⟨h1, xs, h2⟩ := st.gh a ha
    exact ⟨h1, xs, by rw [upd_ne (ne_of_none h2 hp)]; exact h2⟩⟩
/-- a cell is written -/
theorem Ext.write (st : StOk K H ι S) {i : Nat} {a : Addr} {o : HO} (h : ι.c[i]? = some a) : Ext ι H ι (upd H a o) := by
  have hm : a ∈ ι.c := List.mem_of_getElem? h
  obtain ⟨u, hu, hk⟩ := st.there hm
  refine ⟨⟨[], [], by simp, rfl, by simp, by simp⟩, fun b w hb hn => ?_, fun b xs hb => ?_, fun b w x hb => ?_, fun b w hb => ?_⟩
  · rw [upd_ne (fun e => hn (by rw [e]; exact hm))]; exact hb
  · rw [upd_ne]; exact hb
    rintro rfl
    rw [hu] at hb; cases hb
    rcases hk with ⟨_, hk⟩ | ⟨_, hk⟩ <;> cases hk
  · rw [upd_ne]; exact hb
    rintro rfl
    rw [hu] at hb; cases hb
    rcases hk with ⟨_, hk⟩ | ⟨_, hk⟩ <;> cases hk
  · by_cases e : b = a
    · subst e; exact ⟨_, upd_same⟩
    · exact ⟨w, by rw [upd_ne e]; exact hb⟩
theorem StOk.write (st : StOk K H ι S) {i : Nat} {a : Addr} {o : HO} {c : Cell} (h : ι.c[i]? = some a) (hc : CellOk K (upd H a o) ι a c) : StOk K (upd H a o) ι (S.set i c) := by
  refine ⟨by rw [List.length_set]; exact st.len, st.nd, fun j b d h1 h2 => ?_, fun b hb => ?_⟩
  · by_cases e : i = j
    · subst e
      rw [h] at h1; cases h1
      have hl : i < S.length := by rw [← st.len]; exact (List.getElem?_eq_some_iff.mp h).1
      rw [List.getElem?_set_self hl] at h2
      cases h2
      exact hc
    · rw [List.getElem?_set_ne e] at h2
      have hne : b ≠ a := by
        rintro rfl
        obtain ⟨l1, e1⟩ := List.getElem?_eq_some_iff.mp h
        obtain ⟨l2, e2⟩ := List.getElem?_eq_some_iff.mp h1
        exact e ((List.getElem_inj st.nd).mp (e1.trans e2.symm))
      exact (st.cell j b d h1 h2).ext (Ext.write st h) (upd_ne hne)
  · obtain ⟨h1, xs, h2⟩ := st.gh b hb
    exact ⟨h1, xs, by rw [upd_ne (fun z => h1 (by rw [z]; exact List.mem_of_getElem? h))]; exact h2⟩
/-- a new cell -/
theorem new_cell {p : Addr} {o : HO} {c : Cell} (st : StOk K H ι S) (hp : H p = none) (hc : CellOk K (upd H p o) (ι ++ [p]) p c) :
    Ext ι H (ι ++ [p]) (upd H p o) ∧ StOk K (upd H p o) (ι ++ [p]) (S ++ [c]) := by
  have n1 := st.out hp
  have ex : Ext ι H (ι ++ [p]) (upd H p o) := by
    have e := Ext.new ι hp (o := o)
    exact ⟨⟨[p], [], rfl, rfl, fun b hb => by simp at hb; subst hb; exact hp, by simp⟩, e.keep, e.tups, e.frzs, e.dom⟩
  refine ⟨ex, by simp [Ad.app_c, st.len], List.nodup_append.mpr ⟨st.nd, by simp, fun x hx y hy => by simp at hy; subst hy; exact fun z => n1.1 (z ▸ hx)⟩, fun j b d h1 h2 => ?_, fun b hb => ?_⟩
  · rw [Ad.app_c] at h1
    by_cases hj : j < S.length
    · rw [List.getElem?_append_left hj] at h2
      rw [List.getElem?_append_left (by rw [st.len]; exact hj)] at h1
      have c0 := st.cell j b d h1 h2
      obtain ⟨u, hu, _⟩ := c0.some
      exact c0.ext ex (upd_ne (ne_of_none hu hp))
    · have hj' : j = S.length := by
        have := (List.getElem?_eq_some_iff.mp h2).1
        simp at this; omega
      subst hj'
      rw [List.getElem?_append_right (by simp)] at h2
      rw [← st.len, List.getElem?_append_right (by simp)] at h1
      simp at h1 h2
      subst h1 h2
      exact hc
  · obtain ⟨h1, xs, h2⟩ := st.gh b hb
    refine ⟨fun z => ?_, xs, by rw [upd_ne (ne_of_none h2 hp)]; exact h2⟩
    rw [Ad.app_c] at z
    rcases List.mem_append.mp z with z | z
    · exact h1 z
    · simp at z; subst z
      rw [hp] at h2; cases h2

/-! ### objects in the making -/
/-- a new one -/
theorem Ext.ghost (ι : Ad) {p : Addr} {o : HO} (hp : H p = none) : Ext ι H (ι.gh p) (upd H p o) := by
  have e := Ext.new ι hp (o := o)
  exact ⟨⟨[], [p], by simp [Ad.gh], rfl, by simp, fun b hb => by simp at hb; subst hb; exact hp⟩, e.keep, e.tups, e.frzs, e.dom⟩
theorem StOk.ghost (st : StOk K H ι S) {p : Addr} {xs : List V} (hp : H p = none) : StOk K (upd H p (.lst xs)) (ι.gh p) S := by
  refine ⟨st.len, st.nd, fun i a c h1 h2 => ?_, fun b hb => ?_⟩
  · have c0 := st.cell i a c h1 h2
    obtain ⟨u, hu, _⟩ := c0.some
    exact c0.ext (Ext.ghost ι hp) (upd_ne (ne_of_none hu hp))
  · rcases List.mem_cons.mp hb with rfl | hb
    · exact ⟨(st.out hp).1, xs, upd_same⟩
    · obtain ⟨h1, ys, h2⟩ := st.gh b hb
      exact ⟨h1, ys, by rw [upd_ne (ne_of_none h2 hp)]; exact h2⟩
/-- it is written -/
theorem Ext.gwrite (st : StOk K H ι S) {p : Addr} (hp : p ∈ ι.g) {ys : List V} {ι0 : Ad} {H0 : Hp} (e : Ext ι0 H0 ι H) (h0 : H0 p = none) : Ext ι0 H0 ι (upd H p (.lst ys)) := by
  have ne : ∀ a u, H0 a = some u → a ≠ p := fun a u h => ne_of_none h h0
  refine ⟨e.more, fun a u h hn => ?_, fun a u h => ?_, fun a u w h => ?_, fun a u h => ?_⟩
  · rw [upd_ne (ne _ _ h)]; exact e.keep a u h hn
  · rw [upd_ne (ne _ _ h)]; exact e.tups a u h
  · rw [upd_ne (ne _ _ h)]; exact e.frzs a u w h
  · rw [upd_ne (ne _ _ h)]; exact e.dom a u h
theorem ghost_lst (st : StOk K H ι S) {p : Addr} (hp : p ∈ ι.g) : ∃ xs, H p = some (.lst xs) := (st.gh p hp).2
mutual
theorem Rp.gw {p : Addr} {ys xs0 : List V} (hp : p ∈ ι.g) (h0 : H p = some (.lst xs0)) : ∀ {v : V} {d : D}, Rp K H ι v d → Rp K (upd H p (.lst ys)) ι v d
  | _, _, .non => .non
  | _, _, .bl b => .bl b
  | _, _, .int i => .int i
  | _, _, .str x => .str x
  | _, _, .tup h r => .tup (by
      rcases h with h | h
      · rcases h with h | ⟨o, h⟩
        · refine .inl (.inl ?_)
          rw [upd_ne]; exact h
          rintro rfl; rw [h0] at h; cases h
        · refine .inl (.inr ⟨o, ?_⟩)
          rw [upd_ne]; exact h
          rintro rfl; rw [h0] at h; cases h
      · exact .inr h) (RpL.gw hp h0 r)
  | _, _, .lst h n r => .lst (by rw [upd_ne (fun z => n.2 (by rw [z]; exact hp))]; exact h) n (RpL.gw hp h0 r)
  | _, _, .fz h r => .fz (by
      rcases h with ⟨o, h⟩ | h
      · refine .inl ⟨o, ?_⟩
        rw [upd_ne]; exact h
        rintro rfl; rw [h0] at h; cases h
      · exact .inr h) (RpL.gw hp h0 r)
  | _, _, .dk h n a b r => .dk (by rw [upd_ne (fun z => n.2 (by rw [z]; exact hp))]; exact h) n a b (RpL.gw hp h0 r)
  | _, _, .ref h => .ref h
  | _, _, .exo h => .exo fun dd q => ⟨by rw [upd_ne (fun z => (h dd q).2.2 (by rw [z]; exact hp))]; exact (h dd q).1, (h dd q).2⟩
theorem RpL.gw {p : Addr} {ys xs0 : List V} (hp : p ∈ ι.g) (h0 : H p = some (.lst xs0)) : ∀ {vs : List V} {ds : List D}, RpL K H ι vs ds → RpL K (upd H p (.lst ys)) ι vs ds
  | _, _, .nil => .nil
  | _, _, .cons h t => .cons (Rp.gw hp h0 h) (RpL.gw hp h0 t)
end
theorem StOk.gw (st : StOk K H ι S) {p : Addr} {ys : List V} (hp : p ∈ ι.g) : StOk K (upd H p (.lst ys)) ι S := by
  obtain ⟨nc, xs0, h0⟩ := st.gh p hp
  refine ⟨st.len, st.nd, fun i a c h1 h2 => ?_, fun b hb => ?_⟩
  · have ne : a ≠ p := fun z => nc (by rw [← z]; exact List.mem_of_getElem? h1)
    cases st.cell i a c h1 h2 with
    | lst e r => exact .lst (by rw [upd_ne ne]; exact e) (r.gw hp h0)
    | dk e k r => exact .dk (by rw [upd_ne ne]; exact e) k (r.gw hp h0)
  · obtain ⟨h1, xs, h2⟩ := st.gh b hb
    by_cases e : b = p
    · subst e; exact ⟨h1, ys, upd_same⟩
    · exact ⟨h1, xs, by rw [upd_ne e]; exact h2⟩
/-- fewer of them -/
structure Sub (ι ι' : Ad) : Prop where
  c : ι'.c = ι.c
  g : ∀ a ∈ ι'.g, a ∈ ι.g
mutual
theorem Rp.sub (s : Sub ι ι') : ∀ {v : V} {d : D}, Rp K H ι v d → Rp K H ι' v d
  | _, _, .non => .non
  | _, _, .bl b => .bl b
  | _, _, .int i => .int i
  | _, _, .str x => .str x
  | _, _, .tup h r => .tup h (RpL.sub s r)
  | _, _, .lst h n r => .lst h ⟨by rw [s.c]; exact n.1, fun z => n.2 (s.g _ z)⟩ (RpL.sub s r)
  | _, _, .fz h r => .fz h (RpL.sub s r)
  | _, _, .dk h n a b r => .dk h ⟨by rw [s.c]; exact n.1, fun z => n.2 (s.g _ z)⟩ a b (RpL.sub s r)
  | _, _, .ref h => .ref (by rw [s.c]; exact h)
  | _, _, .exo h => .exo fun dd q => ⟨(h dd q).1, by rw [s.c]; exact (h dd q).2.1, fun z => (h dd q).2.2 (s.g _ z)⟩
theorem RpL.sub (s : Sub ι ι') : ∀ {vs : List V} {ds : List D}, RpL K H ι vs ds → RpL K H ι' vs ds
  | _, _, .nil => .nil
  | _, _, .cons h t => .cons (Rp.sub s h) (RpL.sub s t)
end
theorem StOk.sub (st : StOk K H ι S) (s : Sub ι ι') : StOk K H ι' S :=
  ⟨by rw [s.c]; exact st.len, by rw [s.c]; exact st.nd, fun i a c h1 h2 => by
    rw [s.c] at h1
    cases st.cell i a c h1 h2 with
    | lst e r => exact .lst e (r.sub s)
    | dk e k r => exact .dk e k (r.sub s), fun a ha => by
    rw [s.c]; exact st.gh a (s.g a ha)⟩
mutual
theorem Rp.gc {p : Addr} (hp : p ∈ ι.g) (s : Sub ι ι') : ∀ {v : V} {d : D}, Rp K H ι v d → Rp K H (ι' ++ [p]) v d
  | _, _, .non => .non
  | _, _, .bl b => .bl b
  | _, _, .int i => .int i
  | _, _, .str x => .str x
  | _, _, .tup h r => .tup h (RpL.gc hp s r)
  | _, _, .lst h n r => .lst h ⟨by rw [Ad.app_c, s.c]; intro z; rcases List.mem_append.mp z with z | z; exact n.1 z; simp at z; subst z; exact n.2 hp, fun z => n.2 (s.g _ z)⟩ (RpL.gc hp s r)
  | _, _, .fz h r => .fz h (RpL.gc hp s r)
  | _, _, .dk h n a b r => .dk h ⟨by rw [Ad.app_c, s.c]; intro z; rcases List.mem_append.mp z with z | z; exact n.1 z; simp at z; subst z; exact n.2 hp, fun z => n.2 (s.g _ z)⟩ a b (RpL.gc hp s r)
  | _, _, .ref h => .ref (by rw [Ad.app_c, s.c, List.getElem?_append_left (List.getElem?_eq_some_iff.mp h).1]; exact h)
  | _, _, .exo h => .exo fun dd q => ⟨(h dd q).1, by rw [Ad.app_c, s.c]; intro z; rcases List.mem_append.mp z with z | z; exact (h dd q).2.1 z; simp at z; subst z; exact (h _ q).2.2 hp, fun z => (h dd q).2.2 (s.g _ z)⟩
theorem RpL.gc {p : Addr} (hp : p ∈ ι.g) (s : Sub ι ι') : ∀ {vs : List V} {ds : List D}, RpL K H ι vs ds → RpL K H (ι' ++ [p]) vs ds
  | _, _, .nil => .nil
  | _, _, .cons h t => .cons (Rp.gc hp s h) (RpL.gc hp s t)
end
theorem StOk.gc (st : StOk K H ι S) {p : Addr} (hp : p ∈ ι.g) (s : Sub ι ι') (n : p ∉ ι'.g) {xs : List V} {ds : List D} (e : H p = some (.lst xs)) (r : RpL K H ι xs ds) : StOk K H (ι' ++ [p]) (S ++ [.lst ds]) := by
  have nc := (st.gh p hp).1
  refine ⟨by simp [Ad.app_c, s.c, st.len], List.nodup_append.mpr ⟨by rw [s.c]; exact st.nd, by simp, fun x hx y hy => by simp at hy; subst hy; exact fun z => nc (by rw [← s.c]; exact z ▸ hx)⟩, fun j b d h1 h2 => ?_, fun b hb => ?_⟩
  · rw [Ad.app_c, s.c] at h1
    by_cases hj : j < S.length
    · rw [List.getElem?_append_left hj] at h2
      rw [List.getElem?_append_left (by rw [st.len]; exact hj)] at h1
      cases st.cell j b d h1 h2 with
      | lst e r => exact .lst e (r.gc hp s)
      | dk e k r => exact .dk e k (r.gc hp s)
    · have hj' : j = S.length := by
        have := (List.getElem?_eq_some_iff.mp h2).1
        simp at this; omega
      subst hj'
      rw [List.getElem?_append_right (by simp)] at h2
      rw [← st.len, List.getElem?_append_right (by simp)] at h1
      simp at h1 h2
      subst h1 h2
      exact .lst e (r.gc hp s)
  · obtain ⟨h1, ys, h2⟩ := st.gh b (s.g b hb)
    refine ⟨fun z => ?_, ys, h2⟩
    rw [Ad.app_c, s.c] at z
    rcases List.mem_append.mp z with z | z
    · exact h1 z
    · simp at z; subst z; exact n hb

/-! ### the names -/
structure EnvOk (K : PySem.W.Frag) (H : Hp) (ι : Ad) (σ : L2.St) (ρ : Rho) : Prop where
  len : ρ.length = σ.length
  get : ∀ (i : Nat) (d : D), ρ[i]? = some (some d) → ∃ v, σ[i]? = some (some v) ∧ Rp K H ι v d
variable {σ : L2.St} {ρ : Rho}
theorem EnvOk.ext (h : EnvOk K H ι σ ρ) (e : Ext ι H ι' H') : EnvOk K H' ι' σ ρ :=
  ⟨h.len, fun i d hd => let ⟨v, h1, h2⟩ := h.get i d hd; ⟨v, h1, h2.ext e⟩⟩
theorem EnvOk.set {v : V} {d : D} (h : EnvOk K H ι σ ρ) (i : Nat) (r : Rp K H ι v d) : EnvOk K H ι (σ.set i (some v)) (ρ.set i (some d)) := by
  refine ⟨by simp [h.len], fun j e he => ?_⟩
  by_cases hj : i = j
  · subst hj
    by_cases hl : i < ρ.length
    · rw [List.getElem?_set_self hl] at he
      cases he
      exact ⟨v, by rw [List.getElem?_set_self (by rw [← h.len]; exact hl)], r⟩
    · rw [List.set_eq_of_length_le (by omega)] at he
      have := (List.getElem?_eq_some_iff.mp he).1
      omega
  · rw [List.getElem?_set_ne hj] at he
    obtain ⟨w, h1, h2⟩ := h.get j e he
    exact ⟨w, by rw [List.getElem?_set_ne hj]; exact h1, h2⟩
theorem EnvOk.unset (h : EnvOk K H ι σ ρ) (i : Nat) : EnvOk K H ι (σ.set i none) (ρ.set i none) := by
  refine ⟨by simp [h.len], fun j e he => ?_⟩
  by_cases hj : i = j
  · subst hj
    by_cases hl : i < ρ.length
    · rw [List.getElem?_set_self hl] at he
      cases he
    · rw [List.set_eq_of_length_le (by omega)] at he
      have := (List.getElem?_eq_some_iff.mp he).1
      omega
  · rw [List.getElem?_set_ne hj] at he
    obtain ⟨w, h1, h2⟩ := h.get j e he
    exact ⟨w, by rw [List.getElem?_set_ne hj]; exact h1, h2⟩
theorem EnvOk.wipe (h : EnvOk K H ι σ ρ) : ∀ vs : List Nat, EnvOk K H ι (wipe σ vs) (wipeD ρ vs)
  | [] => h
  | v :: vs => (EnvOk.wipe h vs).unset v
end
end GV

set_option linter.all false
set_option maxHeartbeats 1000000
/-! GV, part c: readings by the evaluator; operators. -/
namespace GV
open PySem PySem.Spec PyProof.Rows L2

/-- how an exception of the evaluator lies in the heap -/
abbrev XRT := Nat → Option D → Value → Option Addr → Hp → Ad → Prop
/-- what an answer is to be worth -/
def EndG (K : PySem.W.Frag) (XR : XRT) (W : WX) (ι : Ad) (H : Hp) (σ : L2.St) {α β : Type} (rep : β → α → Hp → Ad → Sto → Prop) (r : R α) (Q : β → Hp → Prop) : Prop := match r with
  | .ok a S' => ∀ b H' ι', Ext ι H ι' H' → StOk K H' ι' S' → rep b a H' ι' S' → Q b H'
  | .exc c e S' => ∀ cls dd H' ι', Ext ι H ι' H' → StOk K H' ι' S' → XR c e cls dd H' ι' → W cls dd σ H'
  | .no => False
/-- a new list which nothing else holds (H: the heap at the beginning) -/
def Frs (K : PySem.W.Frag) (H : Hp) (ι : Ad) (S : Sto) (v : V) : D → Hp → Prop
  | .lst ds, H' => ∃ a xs, v = .ref a ∧ H a = none ∧ ι.out a ∧ H' a = some (.lst xs) ∧ RpL K H' (ι.gh a) xs ds ∧ StOk K H' (ι.gh a) S
  | _, _ => True
def repE (K : PySem.W.Frag) (fr : Bool) (H : Hp) : V → D → Hp → Ad → Sto → Prop := fun v d H' ι' S' => Rp K H' ι' v d ∧ (fr = true → Frs K H ι' S' v d H')
def repA (K : PySem.W.Frag) : List V → D → Hp → Ad → Sto → Prop := fun vs d H' ι' _ => ∃ ds, d = .tup ds ∧ RpL K H' ι' vs ds
def tE (K : PySem.W.Frag) (XR : XRT) (W : WX) (fr : Bool) (r : Rho → Sto → R D) : TE := fun σ H Q => ∃ ι S ρ, EnvOk K H ι σ ρ ∧ StOk K H ι S ∧ EndG K XR W ι H σ (repE K fr H) (r ρ S) Q
def tA (K : PySem.W.Frag) (XR : XRT) (W : WX) (r : Rho → Sto → R D) : TA := fun σ H Q => ∃ ι S ρ, EnvOk K H ι σ ρ ∧ StOk K H ι S ∧ EndG K XR W ι H σ (repA K) (r ρ S) Q
/-- as a test -/
def tT (K : PySem.W.Frag) (XR : XRT) (W : WX) (r : Rho → Sto → R D) : TT := fun σ H Q => ∃ ι S ρ, EnvOk K H ι σ ρ ∧ StOk K H ι S ∧
  EndG K XR W ι H σ (fun b b' _ _ _ => b = b') ((r ρ S).bind fun x S1 => R.of S1 (truth S1 x)) Q

section
variable {K : PySem.W.Frag} {XR : XRT} {W : WX} {ι ι1 : Ad} {H H1 : Hp} {σ : L2.St} {α β gm δ : Type}
theorem EndG.shift {rep : β → α → Hp → Ad → Sto → Prop} {r : R α} {Q : β → Hp → Prop} (h : EndG K XR W ι H σ rep r Q) (e : Ext ι H ι1 H1) : EndG K XR W ι1 H1 σ rep r Q := by
  cases r with
  | ok a S => exact fun b H' ι' e' s rp => h b H' ι' (e.trans e') s rp
  | exc c v S => exact fun cls dd H' ι' e' s x => h cls dd H' ι' (e.trans e') s x
  | no => exact h
theorem EndG.imp {rep : β → α → Hp → Ad → Sto → Prop} {r : R α} {Q Q' : β → Hp → Prop} (h : EndG K XR W ι H σ rep r Q) (i : ∀ b H', Q b H' → Q' b H') : EndG K XR W ι H σ rep r Q' := by
  cases r with
  | ok a S => exact fun b H' ι' e' s rp => i b H' (h b H' ι' e' s rp)
  | exc c v S => exact h
  | no => exact h
theorem EndG.bind {rep : β → α → Hp → Ad → Sto → Prop} {rep' : δ → gm → Hp → Ad → Sto → Prop} {r : R α} {f : α → Sto → R gm} {Q : δ → Hp → Prop} (h : EndG K XR W ι H σ rep' (r.bind f) Q) :
    EndG K XR W ι H σ rep r fun b H1 => ∃ ι1 S1 a, Ext ι H ι1 H1 ∧ StOk K H1 ι1 S1 ∧ rep b a H1 ι1 S1 ∧ EndG K XR W ι1 H1 σ rep' (f a S1) Q := by
  cases r with
  | ok a S => exact fun b H' ι' e s rp => ⟨ι', S, a, e, s, rp, EndG.shift h e⟩
  | exc c v S => exact h
  | no => exact h
theorem EndG.of {rep : β → α → Hp → Ad → Sto → Prop} {S : Sto} {o : Option α} {Q : β → Hp → Prop} (h : EndG K XR W ι H σ rep (R.of S o) Q) : ∃ a, o = some a ∧ EndG K XR W ι H σ rep (.ok a S) Q := by
  cases o with
  | some a => exact ⟨a, rfl, h⟩
  | none => exact h.elim
theorem PE.imp {X : Cx} {e : Expr} {t t' : TE} (h : PE X e t) (i : ∀ σ H Q, t' σ H Q → t σ H Q) : PE X e t' := ⟨fun pins s σ H Q I q => h.run pins s σ H Q I (i σ H Q q)⟩
theorem PT.imp {X : Cx} {e : Expr} {t t' : TT} (h : PT X e t) (i : ∀ σ H Q, t' σ H Q → t σ H Q) : PT X e t' := ⟨fun pins s σ H Q I q => h.run pins s σ H Q I (i σ H Q q)⟩
theorem PW.imp {X : Cx} {e : Expr} {t t' : TT} (h : PW X e t) (i : ∀ σ H Q, t' σ H Q → t σ H Q) : PW X e t' := ⟨fun wh pins s σ H Q I q => h.run wh pins s σ H Q I (i σ H Q q)⟩
theorem PA.imp {X : Cx} {e : List Expr} {t t' : TA} (h : PA X e t) (i : ∀ σ H Q, t' σ H Q → t σ H Q) : PA X e t' := ⟨fun pos pins s σ H Q I q => h.run pos pins s σ H Q I (i σ H Q q)⟩

theorem Frs.back {H H1 : Hp} {ι ι1 ι2 : Ad} {S : Sto} {v : V} {d : D} {H' : Hp} (e : Ext ι H ι1 H1) (h : Frs K H1 ι2 S v d H') : Frs K H ι2 S v d H' := by
  cases d with
  | lst ds => obtain ⟨a, xs, q, n, r⟩ := h; exact ⟨a, xs, q, e.fresh n, r⟩
  | _ => trivial
/-- a two-place operation by values and by data -/
def OpOk (K : PySem.W.Frag) (r : R2) (sem : Sto → D → D → Option D) : Prop := ∀ {H : Hp} {ι : Ad} {S : Sto} {x y : V} {dx dy d : D} {Q : VK}, StOk K H ι S → Rp K H ι x dx → Rp K H ι y dy → sem S dx dy = some d →
  (∀ v H', Ext ι H ι H' → StOk K H' ι S → Rp K H' ι v d → Frs K H ι S v d H' → Q v H') → r x y H Q
variable {X : Cx}
theorem two_in {fa fb : Bool} {ra rb : Rho → Sto → R D} {r : R2} {sem : Sto → D → D → Option D} (ho : OpOk K r sem) {σ : L2.St} {H : Hp} {Q : VK}
    (h : tE K XR W true (fun ρ S => (ra ρ S).bind fun x S1 => (rb ρ S1).bind fun y S2 => R.of S2 (sem S2 x y)) σ H Q) : tOp r (tE K XR W fa ra) (tE K XR W fb rb) σ H Q := by
  obtain ⟨ι, S, ρ, hE, hS, h⟩ := h
  refine ⟨ι, S, ρ, hE, hS, (EndG.bind h).imp fun x H1 ⟨ι1, S1, dx, e1, s1, r1, h1⟩ => ?_⟩
  refine ⟨ι1, S1, ρ, hE.ext e1, s1, (EndG.bind h1).imp fun y H2 ⟨ι2, S2, dy, e2, s2, r2, h2⟩ => ?_⟩
  obtain ⟨d, hd, h2⟩ := h2.of
  exact ho s2 (r1.1.ext e2) r2.1 hd fun v H' e3 s3 rp fr => h2 v H' ι2 e3 s3 ⟨rp, fun _ => Frs.back (e1.trans e2) fr⟩
end

/-! ### sequences by data -/
section
variable {K : PySem.W.Frag} {ι : Ad} {H : Hp} {S : Sto}
theorem lit_ok {x : V} {d : D} {ds : List D} (st : StOk K H ι S) (r : Rp K H ι x d) (h : litems S d = some ds) : ∃ a xs, x = .ref a ∧ H a = some (.lst xs) ∧ RpL K H ι xs ds := by
  cases r with
  | lst h1 _ r1 => simp only [litems, Option.some.injEq] at h; subst h; exact ⟨_, _, rfl, h1, r1⟩
  | ref hi =>
    rename_i i a
    simp only [litems] at h
    split at h
    · rename_i ds' e
      cases h
      obtain ⟨a', ha, c⟩ := st.at e
      rw [hi] at ha; cases ha
      cases c with
      | lst h1 r1 => exact ⟨_, _, rfl, h1, r1⟩
    · cases h
  | _ => simp [litems] at h
/-- items: a list or a tuple -/
theorem items_ok {x : V} {d : D} {ds : List D} (st : StOk K H ι S) (r : Rp K H ι x d) (h : items S d = some ds) : ∃ a xs, x = .ref a ∧ RpL K H ι xs ds ∧ ((SqL K H a xs ∧ isLst d = true) ∨ (SqT K H a xs ∧ d = .tup ds)) := by
  cases r with
  | tup h1 r1 => simp only [items, Option.some.injEq] at h; subst h; exact ⟨_, _, rfl, r1, .inr ⟨h1, rfl⟩⟩
  | lst h1 _ r1 => simp only [items, Option.some.injEq] at h; subst h; exact ⟨_, _, rfl, r1, .inl ⟨SqL.of h1, rfl⟩⟩
  | fz h1 r1 => simp only [items, Option.some.injEq] at h; subst h; exact ⟨_, _, rfl, r1, .inl ⟨h1.sq, rfl⟩⟩
  | ref hi =>
    rename_i i a
    simp only [items] at h
    split at h
    · rename_i ds' e
      cases h
      obtain ⟨a', ha, c⟩ := st.at e
      rw [hi] at ha; cases ha
      cases c with
      | lst h1 r1 => exact ⟨_, _, rfl, r1, .inl ⟨SqL.of h1, rfl⟩⟩
    · cases h
  | _ => simp [items] at h
theorem sz_ok {n : Nat} (h : szOk n) : n ≤ sizeLine := by rw [sizeLine_eq]; exact h
/-- a new tuple, list -/
theorem new_tup {xs : List V} {ds : List D} {Q : VK} (st : StOk K H ι S) (r : RpL K H ι xs ds) (q : ∀ v H', Ext ι H ι H' → StOk K H' ι S → Rp K H' ι v (.tup ds) → Frs K H ι S v (.tup ds) H' → Q v H') : ∀ p, H p = none → Q (.ref p) (upd H p (.tup xs)) :=
  fun p hp => q _ _ (Ext.new ι hp) (st.new hp) (.tup (SqT.of upd_same) (r.ext (Ext.new ι hp))) trivial
theorem new_lst {xs : List V} {ds : List D} {Q : VK} (st : StOk K H ι S) (r : RpL K H ι xs ds) (q : ∀ v H', Ext ι H ι H' → StOk K H' ι S → Rp K H' ι v (.lst ds) → Frs K H ι S v (.lst ds) H' → Q v H') : ∀ p, H p = none → Q (.ref p) (upd H p (.lst xs)) :=
  fun p hp => q _ _ (Ext.new ι hp) (st.new hp) (.lst upd_same (st.out hp) (r.ext (Ext.new ι hp))) ⟨p, xs, rfl, hp, st.out hp, upd_same, r.ext (Ext.ghost ι hp), st.ghost hp⟩

/-! ### + - * // % ** -/
theorem mulOk_ok {i j : Int} (h : mulOk i j) : IntMulOk i j := by
  have few : ∀ x : Int, Builtin.Int.intBits x ≤ x.natAbs.log2 + 1 := by
    intro x
    unfold Builtin.Int.intBits
    split <;> omega
  have line : bitsLine = 134217728 := by decide
  have bi := few i
  have bj := few j
  have sum : i.natAbs.log2 + j.natAbs.log2 < 100000000 := h
  intro big
  have much := (Bool.and_eq_true_iff.mp big).2
  unfold Builtin.Int.intTooBig at much
  have more := of_decide_eq_true much
  rw [line] at more
  omega
theorem op_mulG {X : Cx} : OpR X (binaryOp .Mult) (rI mulOk fun i j => .int (i * j)) := opI fun _ _ _ _ _ _ _ ok q => mul_int q (mulOk_ok ok)

/-! ### a tuple once, not at all -/
theorem tuple_mulS (l : Addr) (items : Array Value) (n : Nat) (dd : Option Addr) (sl : Array (Option Value)) (u : Tok) :
    Meets (Builtin.«tuple.__mul__» ⟨[.ref l, .int 1 u], []⟩) (fun _ R s => s.heap.get? l = some { cls := .type "tuple", dict := dd, data := .seq items n, slots := sl } ∧ R (.ok (.ret (Value.ref l))) s) :=
  .of_wp fun prog w A R s h => by
    obtain ⟨hp, g, d, tk, os⟩ := s
    obtain ⟨hl, h⟩ := h
    have f1 := AutoSeq1.idx_int
    wp_walk using wpAny_loadPart' hl
    all_goals exact ⟨_, rfl, h⟩
theorem tuple_mulZ (l : Addr) (items : Array Value) (n : Nat) (dd : Option Addr) (sl : Array (Option Value)) (x : Int) (u : Tok) (c0 : (decide (x < -(2 ^ 63)) || decide (x ≥ 2 ^ 63)) = false) (c1 : (items.isEmpty || x == 1) = false) (c2 : (decide (x ≤ 0) || items.isEmpty) = true) :
    Meets (Builtin.«tuple.__mul__» ⟨[.ref l, .int x u], []⟩) (fun _ R s => s.heap.get? l = some { cls := .type "tuple", dict := dd, data := .seq items n, slots := sl } ∧
      R (.ok (.ret (Value.ref s.heap.objs.size))) { s with heap := s.heap.push { cls := Value.type "tuple", data := Data.seq #[] }, toks := s.toks }) :=
  .of_wp fun prog w A R s h => by
    obtain ⟨hp, g, d, tk, os⟩ := s
    obtain ⟨hl, h⟩ := h
    have f1 := AutoSeq1.idx_int
    wp_walk using wpAny_loadPart' hl
    repeat (first
      | (refine wpAny_ite_false (decide_eq_false (by rw [c0]; exact Bool.false_ne_true)) ?_; wp_walk using wpAny_loadPart' hl)
      | (refine wpAny_ite_false (decide_eq_false (by rw [c1]; exact Bool.false_ne_true)) ?_; wp_walk using wpAny_loadPart' hl)
      | (refine wpAny_ite_true (decide_eq_true (by rw [c2])) ?_; wp_walk using wpAny_loadPart' hl))
    all_goals exact ⟨_, rfl, h⟩
def rRepT0 (K : PySem.W.Frag) : R2 := fun x y H Q => ∃ l k xs, x = .ref l ∧ y = .int k ∧ SqT K H l xs ∧ xs ≠ [] ∧ -1000 ≤ k ∧ k ≤ 0 ∧ xs.length ≤ 1000 ∧ ∀ p, H p = none → Q (.ref p) (upd H p (.tup []))
def rRepT1 (K : PySem.W.Frag) : R2 := fun x y H Q => ∃ l xs, x = .ref l ∧ y = .int 1 ∧ SqT K H l xs ∧ xs ≠ [] ∧ Q (.ref l) H
theorem op_repT0 {X : Cx} : OpR X (binaryOp .Mult) (rRepT0 X.K) := by
  intro pins s σ H x y v u Q I rx ry h
  obtain ⟨l, k, xs, rfl, rfl, hT, hne, h1, h2, hz, q⟩ := h
  cases rx
  obtain ⟨t, rfl⟩ := ry
  obtain ⟨its, r, ⟨⟨cls, dd, data, sl⟩, ho, hc, n, hd⟩, hs⟩ := I.tuple hT
  simp only at hc hd
  subst hc hd
  have hle : its.length = xs.length := r.length.symm
  have hi : its.toArray.isEmpty = false := by
    cases its with
    | nil => exact absurd (List.eq_nil_of_length_eq_zero hle.symm) hne
    | cons a b => rfl
  have c0 : (decide (k < -(2 ^ 63)) || decide (k ≥ 2 ^ 63)) = false := by
    rw [decide_eq_false (by omega), decide_eq_false (by omega)] <;> rfl
  have c1 : (its.toArray.isEmpty || k == 1) = false := by
    rw [hi, Bool.false_or]
    exact beq_eq_false_iff_ne.mpr (by omega)
  have c2 : (decide (k ≤ 0) || its.toArray.isEmpty) = true := by
    rw [decide_eq_true h2]; rfl
  refine wpAny_binaryOp_repeat_ref (T := "tuple") (U := "int") (by decide) ⟨_, ho, rfl⟩ (fun s' => typeIs_int s' k t) noFill_tuple_mul F.fills_int_mul F.slot_int_rmul repeat_tuple F.slot_int_index.lookup
    (call_meets F.slot_int_rmul (typeIs_int s k t) F.entry_int_rmul (F.args_int_rmul_2 _ _) (int_rmul_tuple k t l its.toArray n dd sl)
      ⟨ho, rfl, ⟨_, ho, rfl⟩, call_meets F.slot_tuple_mul ⟨_, ho, rfl⟩ F.entry_tuple_mul (F.args_tuple_mul_2 _ _) (tuple_mulZ l its.toArray n dd sl k t c0 c1 c2) ⟨ho, ?_⟩⟩)
  refine ⟨.ref s.heap.objs.size, _, I.laid (t' := s.toks) (o := .tup []) (fun b ob q => Heap.get?_push_of_some _ q) (Nat.le_refl _) ?_, rfl, q _ (I.hok.fresh (Nat.le_refl _))⟩
  exact ⟨Nat.zero_le _, [], .nil, IsTup.new _ _⟩
theorem op_repT1 {X : Cx} : OpR X (binaryOp .Mult) (rRepT1 X.K) := by
  intro pins s σ H x y v u Q I rx ry h
  obtain ⟨l, xs, rfl, rfl, hT, hne, q⟩ := h
  cases rx
  obtain ⟨t, rfl⟩ := ry
  obtain ⟨its, r, ⟨⟨cls, dd, data, sl⟩, ho, hc, n, hd⟩, hs⟩ := I.tuple hT
  simp only at hc hd
  subst hc hd
  refine wpAny_binaryOp_repeat_ref (T := "tuple") (U := "int") (by decide) ⟨_, ho, rfl⟩ (fun s' => typeIs_int s' 1 t) noFill_tuple_mul F.fills_int_mul F.slot_int_rmul repeat_tuple F.slot_int_index.lookup
    (call_meets F.slot_int_rmul (typeIs_int s 1 t) F.entry_int_rmul (F.args_int_rmul_2 _ _) (int_rmul_tuple 1 t l its.toArray n dd sl)
      ⟨ho, rfl, ⟨_, ho, rfl⟩, call_meets F.slot_tuple_mul ⟨_, ho, rfl⟩ F.entry_tuple_mul (F.args_tuple_mul_2 _ _) (tuple_mulS l its.toArray n dd sl t) ⟨ho, ?_⟩⟩)
  exact ⟨.ref l, H, I, rfl, q⟩
def rBin (K : PySem.W.Frag) : Bop → R2
  | .add => fun x y H Q => rI0 (fun i j => .int (i + j)) x y H Q ∨ (∃ i k, x = .int i ∧ y = .bl k ∧ Q (.int (i + b2i k)) H) ∨ (∃ i j, x = .str i ∧ y = .str j ∧ i.length + j.length ≤ sizeLine ∧ Q (.str (i ++ j)) H) ∨ rCatA K x y H Q ∨ rCat x y H Q
  | .sub => rI0 fun i j => .int (i - j)
  | .mul => fun x y H Q => rI mulOk (fun i j => .int (i * j)) x y H Q ∨ rRepT K x y H Q ∨ rRepT0 K x y H Q ∨ rRepT1 K x y H Q ∨ rRep x y H Q
  | .fdiv => fun x y H Q => rI CDivN (fun i j => .int (i.fdiv j)) x y H Q ∨ rI CDivW (fun i j => .int (i / j)) x y H Q
  | .mod => rI (fun _ j => j ≠ 0) fun i j => .int (i.fmod j)
  | .pow => rI CPow fun i j => .int (i ^ j.toNat)
def opOf : Bop → Operator
  | .add => .Add | .sub => .Sub | .mul => .Mult | .fdiv => .FloorDiv | .mod => .Mod | .pow => .Pow
theorem op_bin {X : Cx} (o : Bop) : OpR X (binaryOp (opOf o)) (rBin X.K o) := by
  cases o with
  | add => exact op_add.or (op_add_ib.or (op_add_str.or (op_catA.or op_cat)))
  | sub => exact op_sub
  | mul => exact op_mulG.or (op_repT.or (op_repT0.or (op_repT1.or op_rep)))
  | fdiv => exact op_fdivN.or op_fdivW
  | mod => exact op_modN
  | pow => exact op_pow
theorem bin_ok (o : Bop) : OpOk K (rBin K o) (fun S => bin S o) := by
  intro H ι S x y dx dy d Q st rx ry h q
  have pure : ∀ v, Rp K H ι v d → Frs K H ι S v d H → Q v H := fun v r f => q v H (Ext.refl ι H) st r f
  have lists : ∀ {a b : List D}, litems S dx = some a → litems S dy = some b → szOk (a.length + b.length) → d = .lst (a ++ b) → rBin K .add x y H Q := fun {a b} ha hb hz hd => by
    obtain ⟨l, xs, rfl, h1, r1⟩ := lit_ok st rx ha
    obtain ⟨m, ys, rfl, h2, r2⟩ := lit_ok st ry hb
    subst hd
    exact .inr (.inr (.inr (.inr ⟨l, m, xs, ys, rfl, rfl, h1, h2, by rw [r1.length, r2.length]; exact sz_ok hz, new_lst st (r1.append r2) q⟩)))
  cases o with
  | add =>
    cases rx with
    | int i =>
      cases ry with
      | int j => simp only [bin, Option.some.injEq] at h; subst h; exact .inl ⟨i, j, rfl, rfl, pure _ (.int _) trivial⟩
      | bl k =>
        simp only [bin, Option.some.injEq] at h; subst h
        refine .inr (.inl ⟨i, k, rfl, rfl, ?_⟩)
        have e : b2i k = if k then 1 else 0 := by cases k <;> rfl
        rw [e]
        exact pure _ (.int _) trivial
      | _ => simp [bin, litems] at h
    | str a =>
      cases ry with
      | str b =>
        simp only [bin] at h
        split at h
        · rename_i hz
          cases h
          exact .inr (.inr (.inl ⟨a, b, rfl, rfl, sz_ok hz, pure _ (.str _) trivial⟩))
        · cases h
      | _ => simp [bin, litems] at h
    | tup hx r1 =>
      rename_i l xs ds
      cases ry with
      | tup hy r2 =>
        rename_i m ys es
        simp only [bin] at h
        split at h
        · rename_i hz
          cases h
          refine .inr (.inr (.inr (.inl ⟨l, m, xs, ys, rfl, rfl, hx, hy, by rw [r1.length, r2.length]; exact sz_ok hz, fun e => ?_, fun _ e => ?_, fun _ _ => new_tup st (r1.append r2) q⟩)))
          · subst e
            cases r1
            exact pure _ (.tup hy r2) trivial
          · subst e
            cases r2
            rw [List.append_nil] at q
            exact q _ _ (Ext.refl ι H) st (.tup hx r1) trivial
        · cases h
      | _ => simp [bin, litems] at h
    | lst hx nx r1 =>
      have h' := h
      simp only [bin] at h'
      split at h'
      · rename_i a b ha hb
        split at h'
        · rename_i hz
          cases h'
          exact lists ha hb hz rfl
        · cases h'
      · cases h'
    | ref hi =>
      have h' := h
      simp only [bin] at h'
      split at h'
      · rename_i a b ha hb
        split at h'
        · rename_i hz
          cases h'
          exact lists ha hb hz rfl
        · cases h'
      · cases h'
    | _ => simp [bin, litems] at h
  | sub =>
    cases rx with
    | int i =>
      cases ry with
      | int j => simp only [bin, Option.some.injEq] at h; subst h; exact ⟨i, j, rfl, rfl, pure _ (.int _) trivial⟩
      | _ => simp [bin] at h
    | _ => simp [bin] at h
  | mul =>
    cases ry with
    | int k =>
      have lst : ∀ {a : List D}, litems S dx = some a → repOk a.length k → d = .lst (List.replicate k.toNat a).flatten → rBin K .mul x (.int k) H Q := fun {a} ha hz hd => by
        obtain ⟨l, xs, rfl, h1, r1⟩ := lit_ok st rx ha
        subst hd
        refine .inr (.inr (.inr (.inr ⟨l, k, xs, rfl, rfl, h1, hz.1, hz.2.1, by rw [r1.length]; exact sz_ok hz.2.2, new_lst st (r1.rep _) q⟩)))
      cases rx with
      | int i =>
        simp only [bin] at h
        split at h
        · rename_i hm
          cases h
          exact .inl ⟨i, k, rfl, rfl, hm, pure _ (.int _) trivial⟩
        · cases h
      | tup hx r1 =>
        rename_i l xs ds
        simp only [bin] at h
        split at h
        · rename_i hm
          cases h
          obtain ⟨h0, h2, h3, h4⟩ := hm
          have hl := r1.length
          have hne : xs ≠ [] := fun e => h0 (by rw [← hl, e]; rfl)
          by_cases k2 : 2 ≤ k
          · exact .inr (.inl ⟨l, k, xs, rfl, rfl, hx, hne, k2, h3, by omega, new_tup st (r1.rep _) q⟩)
          by_cases k0 : k ≤ 0
          · have e : k.toNat = 0 := by omega
            rw [e] at q
            exact .inr (.inr (.inl ⟨l, k, xs, rfl, rfl, hx, hne, h2, k0, by omega, new_tup st .nil q⟩))
          · have e : k = 1 := by omega
            subst e
            have e2 : (List.replicate (1 : Int).toNat ds).flatten = ds := by simp
            rw [e2] at q pure
            exact .inr (.inr (.inr (.inl ⟨l, xs, rfl, rfl, hx, hne, pure _ (.tup hx r1) trivial⟩)))
        · cases h
      | lst hx nx r1 =>
        simp only [bin] at h
        split at h
        · rename_i a ha
          split at h
          · rename_i hz
            cases h
            exact lst ha hz rfl
          · cases h
        · cases h
      | ref hi =>
        simp only [bin] at h
        split at h
        · rename_i a ha
          split at h
          · rename_i hz
            cases h
            exact lst ha hz rfl
          · cases h
        · cases h
      | _ => simp [bin, litems] at h
    | _ => cases rx <;> simp [bin] at h
  | fdiv =>
    cases rx with
    | int i =>
      cases ry with
      | int j =>
        simp only [bin] at h
        split at h
        · rename_i hm
          cases h
          rcases hm with hm | hm
          · exact .inl ⟨i, j, rfl, rfl, hm, pure _ (.int _) trivial⟩
          · refine .inr ⟨i, j, rfl, rfl, hm, ?_⟩
            show Q (.int (i / j)) H
            rw [← Int.fdiv_eq_ediv_of_nonneg i (Int.le_of_lt hm.1)]
            exact pure _ (.int _) trivial
        · cases h
      | _ => simp [bin] at h
    | _ => simp [bin] at h
  | mod =>
    cases rx with
    | int i =>
      cases ry with
      | int j =>
        simp only [bin] at h
        split at h
        · rename_i hm
          cases h
          exact ⟨i, j, rfl, rfl, hm, pure _ (.int _) trivial⟩
        · cases h
      | _ => simp [bin] at h
    | _ => simp [bin] at h
  | pow =>
    cases rx with
    | int i =>
      cases ry with
      | int j =>
        simp only [bin] at h
        split at h
        · rename_i hm
          cases h
          exact ⟨i, j, rfl, rfl, hm, pure _ (.int _) trivial⟩
        · cases h
      | _ => simp [bin] at h
    | _ => simp [bin] at h
end
end GV

set_option linter.all false
set_option maxHeartbeats 1000000
/-! GV, part d: what lies in the heap, read as the library's data; comparisons. -/
namespace GV
open PySem PySem.Spec PyProof.Rows L2

theorem mapO_cons {α β : Type} {f : α → Option β} {a : α} {as : List α} {bs : List β} (h : mapO f (a :: as) = some bs) : ∃ b cs, f a = some b ∧ mapO f as = some cs ∧ bs = b :: cs := by
  simp only [mapO] at h
  split at h
  · rename_i b e
    split at h
    · rename_i cs e2
      cases h
      exact ⟨b, cs, e, e2, rfl⟩
    · cases h
  · cases h
theorem mapO_length {α β : Type} {f : α → Option β} : ∀ {as : List α} {bs : List β}, mapO f as = some bs → as.length = bs.length
  | [], bs, h => by simp only [mapO, Option.some.injEq] at h; subst h; rfl
  | a :: as, bs, h => by
    obtain ⟨b, cs, _, h2, rfl⟩ := mapO_cons h
    simp [mapO_length h2]
theorem mapO_get {α β : Type} {f : α → Option β} : ∀ {as : List α} {bs : List β} {i : Nat} {b : β}, mapO f as = some bs → bs[i]? = some b → ∃ a, as[i]? = some a ∧ f a = some b
  | [], bs, i, b, h, hb => by simp only [mapO, Option.some.injEq] at h; subst h; simp at hb
  | a :: as, bs, i, b, h, hb => by
    obtain ⟨c, cs, h1, h2, rfl⟩ := mapO_cons h
    cases i with
    | zero => simp at hb; subst hb; exact ⟨a, rfl, h1⟩
    | succ i => exact mapO_get (i := i) h2 (by simpa using hb)
theorem mapO_mem {α β : Type} {f : α → Option β} {as : List α} {bs : List β} {b : β} (h : mapO f as = some bs) (hb : b ∈ bs) : ∃ a, a ∈ as ∧ f a = some b := by
  obtain ⟨i, hi, e⟩ := List.getElem_of_mem hb
  obtain ⟨a, ha, hf⟩ := mapO_get (i := i) (b := b) h (by rw [List.getElem?_eq_getElem hi, e])
  exact ⟨a, List.mem_of_getElem? ha, hf⟩
/-- the table of the modules lies in the written part -/
def SmOk (K : PySem.W.Frag) : Prop := ∃ o es n, K.lookup sysModules = some o ∧ o.data = .dict es n
structure Rd0 (G : Prop) (h : Heap) (n : Nat) (u : Value) (p : PyData) : Prop where
  ex : ∃ as, Reads h u p as ∧ (G → sysModules ∉ as)
  dep : p.depth ≤ n
structure RdL (G : Prop) (h : Heap) (n : Nat) (us : List Value) (ps : List PyData) : Prop where
  ex : ∃ as, ReadsAll h us ps as ∧ (G → sysModules ∉ as)
  dep : PyData.depthAll ps ≤ n
theorem RdL.nil {G : Prop} {h : Heap} {n : Nat} : RdL G h n [] [] := ⟨⟨_, .nil, fun _ => by simp⟩, by rw [PyData.depthAll]; omega⟩
theorem RdL.cons {G : Prop} {h : Heap} {n : Nat} {u : Value} {us : List Value} {p : PyData} {ps : List PyData} (a : Rd0 G h n u p) (b : RdL G h n us ps) : RdL G h n (u :: us) (p :: ps) := by
  obtain ⟨⟨as, r, m⟩, d⟩ := a
  obtain ⟨⟨bs, r2, m2⟩, d2⟩ := b
  refine ⟨⟨_, .cons r r2, fun hn => ?_⟩, by rw [PyData.depthAll]; omega⟩
  rw [List.mem_append]
  exact fun z => z.elim (m hn) (m2 hn)
section
variable {X : Cx} {pins : List (Addr × Obj)} {σ : L2.St} {H : Hp} {s : Shared} {ι : Ad} {S : Sto}
theorem readsL_of {n : Nat} (f : ∀ (d : D) (v : V) (u : Value) (p : PyData), Rp X.K H ι v d → RelV v u → pyF S n d = some p → Rd0 (SmOk X.K) s.heap n u p) :
    ∀ (ds : List D) (vs : List V) (us : List Value) (ps : List PyData), RpL X.K H ι vs ds → Vals vs us → mapO (pyF S n) ds = some ps → RdL (SmOk X.K) s.heap n us ps
  | [], _, _, ps, .nil, .nil, h => by simp only [mapO, Option.some.injEq] at h; subst h; exact .nil
  | d :: ds, _, _, ps, .cons r rs, .cons q qs, h => by
    obtain ⟨p, qs', h1, h2, rfl⟩ := mapO_cons h
    exact .cons (f d _ _ p r q h1) (readsL_of f ds _ _ qs' rs qs h2)
theorem keys_read {G : Prop} {h : Heap} : ∀ {ks : List L2.Key} {us : List Value}, Paired (fun (k : L2.Key) (u : Value) => keyIs k u = true) ks us → RdL G h 0 us (ks.map keyPy)
  | [], _, .nil => .nil
  | k :: ks, _, .cons r t => by
    refine .cons ?_ (keys_read t)
    rcases keyIs_shape r with ⟨i, t, rfl, rfl⟩ | ⟨x, t, rfl, rfl⟩
    · exact ⟨⟨_, .int i t, fun _ => by simp⟩, by simp [keyPy, PyData.depth]⟩
    · exact ⟨⟨_, .str x t, fun _ => by simp⟩, by simp [keyPy, PyData.depth]⟩
theorem zip_fst {α β : Type} : ∀ {as : List α} {bs : List β}, as.length = bs.length → (as.zip bs).map (·.1) = as
  | [], [], _ => rfl
  | a :: as, [], h => by simp at h
  | [], b :: bs, h => by simp at h
  | a :: as, b :: bs, h => by simp [zip_fst (as := as) (bs := bs) (by simpa using h)]
theorem zip_snd {α β : Type} : ∀ {as : List α} {bs : List β}, as.length = bs.length → (as.zip bs).map (·.2) = bs
  | [], [], _ => rfl
  | a :: as, [], h => by simp at h
  | [], b :: bs, h => by simp at h
  | a :: as, b :: bs, h => by simp [zip_snd (as := as) (bs := bs) (by simpa using h)]
theorem depthKv_le {n : Nat} : ∀ {ks ps : List PyData}, PyData.depthAll ks ≤ n → PyData.depthAll ps ≤ n → PyData.depthKv (ks.zip ps) ≤ n
  | [], _, _, _ => by simp [PyData.depthKv]
  | _ :: _, [], _, _ => by simp [PyData.depthKv]
  | k :: ks, p :: ps, h1, h2 => by
    rw [PyData.depthAll] at h1 h2
    have := depthKv_le (n := n) (ks := ks) (ps := ps) (by omega) (by omega)
    rw [List.zip_cons_cons, PyData.depthKv]
    omega
theorem noListKv_of {ks ps : List PyData} : ks.length = ps.length → noListKv (ks.zip ps) = true → noListAll ks = true ∧ noListAll ps = true := by
  induction ks generalizing ps with
  | nil => intro e _; cases ps with
    | nil => exact ⟨rfl, rfl⟩
    | cons _ _ => simp at e
  | cons k ks ih =>
    intro e h
    cases ps with
    | nil => simp at e
    | cons p ps =>
      rw [List.zip_cons_cons, noListKv] at h
      obtain ⟨h1, h2⟩ := Bool.and_eq_true_iff.mp h
      obtain ⟨h3, h4⟩ := Bool.and_eq_true_iff.mp h1
      obtain ⟨h5, h6⟩ := ih (by simpa using e) h2
      exact ⟨by rw [noListAll, h3, h5]; rfl, by rw [noListAll, h4, h6]; rfl⟩
theorem pairs_keys {P : Program} {w : World} : ∀ {kvs : List (L2.Key × V)} {vs : List (L2.Key × Value)} {el : List DictEntry}, KV kvs vs → Pairs (mixKind P w) el vs → Paired (fun (k : L2.Key) (u : Value) => keyIs k u = true) (kvs.map (·.1)) (el.map (·.key))
  | _, _, _, .nil, .nil => .nil
  | _, _, _, .cons r t, .cons h1 h2 ih => .cons (by have h1' : keyIs _ _ = true := h1; rw [← r.1] at h1'; exact h1') (pairs_keys t ih)
theorem pairs_vals {P : Program} {w : World} : ∀ {kvs : List (L2.Key × V)} {vs : List (L2.Key × Value)} {el : List DictEntry}, KV kvs vs → Pairs (mixKind P w) el vs → Vals (kvs.map (·.2)) (el.map (·.val))
  | _, _, _, .nil, .nil => .nil
  | _, _, _, .cons r t, .cons h1 h2 ih => .cons (by have z := r.2; rw [← h2] at z; exact z) (pairs_vals t ih)
theorem dict_parts {P : Program} {w : World} {h : Heap} {a : Addr} {kvs : List (L2.Key × V)} (ok : ObjOk P w H h a (.dK kvs)) :
    (a == sysModules) = false ∧ ∃ (o : Obj) (es : Array DictEntry) (n : Nat), h.get? a = some o ∧ o.cls = .type "dict" ∧ o.data = .dict es n ∧
      Paired (fun (k : L2.Key) (u : Value) => keyIs k u = true) (kvs.map (·.1)) (es.toList.map (·.key)) ∧ Vals (kvs.map (·.2)) (es.toList.map (·.val)) := by
  obtain ⟨_, hs, vs, kv, o, es, ep, ho, hx, hd, _, hp, _⟩ := ok
  exact ⟨hs, o, es, ep, ho, hx.1, hd, pairs_keys kv hp, pairs_vals kv hp⟩
theorem keys_noList : ∀ ks : List L2.Key, noListAll (ks.map keyPy) = true
  | [] => rfl
  | .inl i :: ks => by simp [noListAll, keyPy, noList, keys_noList ks]
  | .inr i :: ks => by simp [noListAll, keyPy, noList, keys_noList ks]
/-- a list's reading -/
theorem read_list {a : Addr} {xs : List V} {n : Nat} {ps : List PyData} (I : Inv X pins σ H s) (hq : SqL X.K H a xs) (g : ∀ us, Vals xs us → RdL (SmOk X.K) s.heap n us ps) : Rd0 (SmOk X.K) s.heap (n + 1) (.ref a) (.list ps) := by
  obtain ⟨its, rv, ⟨o, m, ho, hc, _, hd⟩, _⟩ := I.list hq
  obtain ⟨⟨as, ra, hm⟩, hdp⟩ := g its rv
  refine ⟨⟨_, .list ho hc hd (by simpa using ra), fun hn => ?_⟩, by rw [PyData.depth]; omega⟩
  rw [List.mem_cons, not_or]
  refine ⟨fun z => ?_, hm hn⟩
  obtain ⟨o2, es, n2, lk, dt⟩ := hn
  have h2 := I.kIn _ _ lk
  rw [z, ho] at h2
  cases h2
  rw [hd] at dt
  cases dt
theorem read_tup {a : Addr} {xs : List V} {n : Nat} {ps : List PyData} (I : Inv X pins σ H s) (hq : SqT X.K H a xs) (g : ∀ us, Vals xs us → RdL (SmOk X.K) s.heap n us ps) : Rd0 (SmOk X.K) s.heap (n + 1) (.ref a) (.tuple ps) := by
  obtain ⟨its, rv, ⟨o, ho, hc, m, hd⟩, _⟩ := I.tuple hq
  obtain ⟨⟨as, ra, hm⟩, hdp⟩ := g its rv
  exact ⟨⟨_, .tuple ho hc hd (by simpa using ra), hm⟩, by rw [PyData.depth]; omega⟩
theorem reads (I : Inv X pins σ H s) (st : StOk X.K H ι S) : ∀ (n : Nat) (d : D) (v : V) (u : Value) (p : PyData), Rp X.K H ι v d → RelV v u → pyF S n d = some p → Rd0 (SmOk X.K) s.heap n u p
  | 0, d, v, u, p, _, _, h => by simp [pyF] at h
  | n + 1, d, v, u, p, r, q, h => by
    have ih := readsL_of (s := s) (reads I st n)
    cases r with
    | exo _ => simp [pyF] at h
    | non => simp only [pyF, Option.some.injEq] at h; subst h; cases q; exact ⟨⟨_, .none, fun _ => by simp⟩, by simp [PyData.depth]⟩
    | bl b => simp only [pyF, Option.some.injEq] at h; subst h; cases q; exact ⟨⟨_, .bool b, fun _ => by simp⟩, by simp [PyData.depth]⟩
    | int i => simp only [pyF, Option.some.injEq] at h; subst h; obtain ⟨t, rfl⟩ := q; exact ⟨⟨_, .int i t, fun _ => by simp⟩, by simp [PyData.depth]⟩
    | str x => simp only [pyF, Option.some.injEq] at h; subst h; obtain ⟨t, rfl⟩ := q; exact ⟨⟨_, .str x t, fun _ => by simp⟩, by simp [PyData.depth]⟩
    | tup hq rs =>
      simp only [pyF, Option.map_eq_some_iff] at h
      obtain ⟨ps, h, rfl⟩ := h
      cases q
      exact read_tup I hq fun us vs => ih _ _ us ps rs vs h
    | lst hq _ rs =>
      simp only [pyF, Option.map_eq_some_iff] at h
      obtain ⟨ps, h, rfl⟩ := h
      cases q
      exact read_list I (SqL.of hq) fun us vs => ih _ _ us ps rs vs h
    | fz hq rs =>
      simp only [pyF, Option.map_eq_some_iff] at h
      obtain ⟨ps, h, rfl⟩ := h
      cases q
      exact read_list I hq.sq fun us vs => ih _ _ us ps rs vs h
    | dk hq _ e1 e2 rs =>
      simp only [pyF, Option.map_eq_some_iff] at h
      obtain ⟨ps, h, rfl⟩ := h
      cases q
      obtain ⟨hs, o, es, m, ho, hc, hd, hk, hv⟩ := dict_parts (I.hok _ _ hq)
      rw [e1] at hk
      rw [e2] at hv
      have lk := Paired.length hk
      obtain ⟨⟨as, ra, ma⟩, da⟩ := keys_read (G := SmOk X.K) (h := s.heap) hk
      obtain ⟨⟨bs, rb, mb⟩, db⟩ := ih _ _ _ ps rs hv h
      have l1 := mapO_length h
      have l2 := rs.length
      have l3 := hv.length
      simp only [List.length_map] at lk l3
      rename_i kvs0 ks0 xs0 ds0 _
      have le : (List.map keyPy ks0).length = ps.length := by rw [List.length_map, lk, ← l3, l2, l1]
      refine ⟨⟨_, .dict ho hc hd (by rw [zip_fst le]; exact ra) (by rw [zip_snd le]; exact rb), fun hn => ?_⟩, ?_⟩
      · simp only [List.cons_append, List.mem_cons, List.mem_append, not_or]
        exact ⟨fun z => by rw [← z] at hs; simp at hs, ma hn, mb hn⟩
      · rw [PyData.depth]
        have := depthKv_le (n := n) (Nat.le_trans da (Nat.zero_le n)) db
        omega
    | ref hi =>
      simp only [pyF] at h
      split at h
      · rename_i ds e
        simp only [Option.map_eq_some_iff] at h
        obtain ⟨ps, h, rfl⟩ := h
        obtain ⟨a', ha, c⟩ := st.at e
        rw [hi] at ha; cases ha
        cases q
        cases c with
        | lst hq rs => exact read_list I (SqL.of hq) fun us vs => ih _ _ us ps rs vs h
      · cases h

/-! ### comparisons -/
def rCmpD (K : PySem.W.Frag) (P : PyData → PyData → Bool → Prop) : R2 := fun x y H Q => ∃ (ι : Ad) (S : Sto) (dx dy : D) (p q : PyData) (b : Bool), StOk K H ι S ∧ Rp K H ι x dx ∧ Rp K H ι y dy ∧ py S dx = some p ∧ py S dy = some q ∧ P p q b ∧ Q (.bl b) H
theorem opCmp {op : CmpOp} {P : PyData → PyData → Bool → Prop}
    (rule : ∀ (p q : PyData) (b : Bool) (s : Shared) (u v : Value) (as bs : List Addr) (Q : Value → Shared → Prop), Reads s.heap u p as → Reads s.heap v q bs → P p q b → p.depth ≤ 24 → q.depth ≤ 24 → Q (.bool b) s → wpAny (model X.prog X.w) X.A (compareOp op u v) Q X.xe s) : OpR X (compareOp op) (rCmpD X.K P) := by
  intro pins s σ H x y u v Q I rx ry h
  obtain ⟨ι, S, dx, dy, p, q, b, st, r1, r2, h1, h2, hp, hq⟩ := h
  obtain ⟨⟨as, ra, _⟩, da⟩ := reads I st 24 dx x u p r1 rx h1
  obtain ⟨⟨bs, rb, _⟩, db⟩ := reads I st 24 dy y v q r2 ry h2
  exact rule p q b s u v as bs _ ra rb hp da db ⟨.bl b, H, I, rfl, hq⟩
def pEq (p q : PyData) (b : Bool) : Prop := p.plain = true ∧ q.plain = true ∧ b = PyData.eqv p q
def pNe (p q : PyData) (b : Bool) : Prop := p.plain = true ∧ q.plain = true ∧ b = !PyData.eqv p q
def pLt (p q : PyData) (b : Bool) : Prop := PySem.W.alike p q = true ∧ p ≠ .none ∧ b = PySem.W.dataLt p q
def pGt (p q : PyData) (b : Bool) : Prop := PySem.W.alike p q = true ∧ p ≠ .none ∧ b = PySem.W.dataLt q p
def pLe (p q : PyData) (b : Bool) : Prop := PySem.W.alike p q = true ∧ p ≠ .none ∧ b = !PySem.W.dataLt q p
def pGe (p q : PyData) (b : Bool) : Prop := PySem.W.alike p q = true ∧ p ≠ .none ∧ b = !PySem.W.dataLt p q
theorem rp_non {K : PySem.W.Frag} {x : V} {d : D} (r : Rp K H ι x d) : decide (x = V.non) = isNon d := by
  cases r <;> rfl
def rIn (K : PySem.W.Frag) (neg : Bool) : R2 := fun x y H Q => ∃ (ι : Ad) (S : Sto) (dx dy : D) (p : PyData) (ys : List D) (qs : List PyData), StOk K H ι S ∧ Rp K H ι x dx ∧ Rp K H ι y dy ∧ py S dx = some p ∧ items S dy = some ys ∧
  mapO (pyF S 23) ys = some qs ∧ p.plain = true ∧ PyData.plainAll qs = true ∧ Q (.bl (neg != qs.any fun q => PyData.eqv q p)) H
/-- what holds of a sequence: read as a list or a tuple -/
theorem reads_items {x : V} {u : Value} {d : D} {ds : List D} {ps : List PyData} (I : Inv X pins σ H s) (st : StOk X.K H ι S) (r : Rp X.K H ι x d) (q : RelV x u) (h : items S d = some ds) (hp : mapO (pyF S 23) ds = some ps) :
    Rd0 (SmOk X.K) s.heap 24 u (.list ps) ∨ Rd0 (SmOk X.K) s.heap 24 u (.tuple ps) := by
  obtain ⟨a, xs, rfl, rl, hk⟩ := items_ok st r h
  cases q
  rcases hk with ⟨hk, _⟩ | ⟨hk, _⟩
  · exact .inl (read_list I hk fun us vs => readsL_of (reads I st 23) _ _ us ps rl vs hp)
  · exact .inr (read_tup I hk fun us vs => readsL_of (reads I st 23) _ _ us ps rl vs hp)
theorem op_inX (hu : X.A.units + 64 < cLine) : OpR X (compareOp .In) (rIn X.K false) := by
  intro pins s σ H x y u v Q I rx ry h
  obtain ⟨ι, S, dx, dy, p, ys, qs, st, r1, r2, h1, h2, h3, hp, hq, q⟩ := h
  obtain ⟨⟨as, ra, _⟩, da⟩ := reads I st 24 dx x u p r1 rx h1
  rcases reads_items I st r2 ry h2 h3 with ⟨⟨bs, rb, _⟩, db⟩ | ⟨⟨bs, rb, _⟩, db⟩
  · rw [PyData.depth] at db
    exact SeqAt.in_list_data rb ra hq hp (by omega) ⟨.bl _, H, I, rfl, by simpa using q⟩
  · rw [PyData.depth] at db
    exact SeqAt.in_tuple_data rb ra hq hp (by omega) ⟨.bl _, H, I, rfl, by simpa using q⟩
theorem op_notInX (hu : X.A.units + 64 < cLine) : OpR X (compareOp .NotIn) (rIn X.K true) := by
  intro pins s σ H x y u v Q I rx ry h
  obtain ⟨ι, S, dx, dy, p, ys, qs, st, r1, r2, h1, h2, h3, hp, hq, q⟩ := h
  obtain ⟨⟨as, ra, _⟩, da⟩ := reads I st 24 dx x u p r1 rx h1
  rcases reads_items I st r2 ry h2 h3 with ⟨⟨bs, rb, _⟩, db⟩ | ⟨⟨bs, rb, _⟩, db⟩
  · rw [PyData.depth] at db
    exact SeqAt.notIn_list_data rb ra hq hp (by omega) ⟨.bl _, H, I, rfl, by simpa using q⟩
  · rw [PyData.depth] at db
    exact SeqAt.notIn_tuple_data rb ra hq hp (by omega) ⟨.bl _, H, I, rfl, by simpa using q⟩
def copOf : Cop → CmpOp
  | .eq => .Eq | .ne => .NotEq | .lt => .Lt | .le => .LtE | .gt => .Gt | .ge => .GtE | .isN => .Is | .notN => .IsNot | .isin => .In | .notin => .NotIn
def rCmp (K : PySem.W.Frag) : Cop → R2
  | .eq => rCmpD K pEq
  | .ne => rCmpD K pNe
  | .lt => rCmpD K pLt
  | .le => rCmpD K pLe
  | .gt => rCmpD K pGt
  | .ge => rCmpD K pGe
  | .isN => fun x y H Q => y = .non ∧ Q (.bl (decide (x = .non))) H
  | .notN => fun x y H Q => y = .non ∧ Q (.bl (!decide (x = .non))) H
  | .isin => rIn K false
  | .notin => rIn K true
theorem op_cmp (hu : X.A.units + 64 < cLine) (o : Cop) : OpR X (compareOp (copOf o)) (rCmp X.K o) := by
  cases o with
  | eq => exact opCmp fun p q b s u v as bs Q ra rb hp da db h => SeqAt.eq_plain ra rb hp.1 hp.2.1 (by omega) (by rw [← hp.2.2]; exact h)
  | ne => exact opCmp fun p q b s u v as bs Q ra rb hp da db h => SeqAt.ne_plain ra rb hp.1 hp.2.1 (by omega) (by rw [← hp.2.2]; exact h)
  | lt => exact opCmp fun p q b s u v as bs Q ra rb hp da db h => PySem.W.lt_data ra rb hp.1 hp.2.1 (by omega) (by rw [← hp.2.2]; exact h)
  | gt => exact opCmp fun p q b s u v as bs Q ra rb hp da db h => PySem.W.gt_data ra rb hp.1 hp.2.1 (by omega) (by rw [← hp.2.2]; exact h)
  | le => exact opCmp fun p q b s u v as bs Q ra rb hp da db h => PySem.W.le_data ra rb hp.1 hp.2.1 (by omega) (by rw [← hp.2.2]; exact h)
  | ge => exact opCmp fun p q b s u v as bs Q ra rb hp da db h => PySem.W.ge_data ra rb hp.1 hp.2.1 (by omega) (by rw [← hp.2.2]; exact h)
  | isN => exact op_isN
  | notN => exact op_notN
  | isin => exact op_inX hu
  | notin => exact op_notInX hu
end
theorem notNone_ne {p : PyData} (h : notNone p = true) : p ≠ .none := by rintro rfl; cases h
def cmpSem (o : Cop) (S : Sto) (x y : D) : Option D := (cmp S o x y).map .bl
theorem cmp_ok {K : PySem.W.Frag} (o : Cop) : OpOk K (rCmp K o) (cmpSem o) := by
  intro H ι S x y dx dy d Q st rx ry h q
  have fin : ∀ b, d = .bl b → Q (.bl b) H := fun b e => q _ H (Ext.refl ι H) st (by rw [e]; exact .bl b) (by rw [e]; trivial)
  have lt : ∀ {a b : D} {k : Bool}, ltD S a b = some k → ∃ p q, py S a = some p ∧ py S b = some q ∧ PySem.W.alike p q = true ∧ p ≠ .none ∧ k = PySem.W.dataLt p q := fun {a b k} h => by
    simp only [ltD] at h
    split at h
    · rename_i p q h1 h2
      simp only [ltP] at h
      split at h
      · rename_i hc
        cases h
        exact ⟨p, q, h1, h2, hc.1, notNone_ne hc.2, rfl⟩
      · cases h
    · cases h
  have eq : ∀ {k : Bool}, eqD S dx dy = some k → ∃ p q, py S dx = some p ∧ py S dy = some q ∧ p.plain = true ∧ q.plain = true ∧ k = PyData.eqv p q := fun {k} h => by
    simp only [eqD] at h
    split at h
    · rename_i p q h1 h2
      split at h
      · rename_i hc
        cases h
        exact ⟨p, q, h1, h2, hc.1, hc.2, rfl⟩
      · cases h
    · cases h
  have inn : ∀ {k : Bool}, inD S dx dy = some k → ∃ p ys qs, py S dx = some p ∧ items S dy = some ys ∧ mapO (pyF S 23) ys = some qs ∧ p.plain = true ∧ PyData.plainAll qs = true ∧ k = qs.any fun q => PyData.eqv q p := fun {k} h => by
    simp only [inD] at h
    split at h
    · rename_i ys hy
      split at h
      · rename_i p qs h1 h2
        split at h
        · rename_i hc
          cases h
          exact ⟨p, ys, qs, h1, hy, h2, hc.1, hc.2, rfl⟩
        · cases h
      · cases h
    · cases h
  have non : isNon dy = true → y = .non := fun h => by
    have e := rp_non ry
    rw [h] at e
    exact of_decide_eq_true e
  cases o with
  | eq =>
    simp only [cmpSem, cmp, Option.map_eq_some_iff] at h
    obtain ⟨b, h, rfl⟩ := h
    obtain ⟨p, q', h1, h2, h3, h4, rfl⟩ := eq h
    exact ⟨ι, S, dx, dy, p, q', _, st, rx, ry, h1, h2, ⟨h3, h4, rfl⟩, fin _ rfl⟩
  | ne =>
    simp only [cmpSem, cmp, Option.map_eq_some_iff] at h
    obtain ⟨b, ⟨c, h, rfl⟩, rfl⟩ := h
    obtain ⟨p, q', h1, h2, h3, h4, rfl⟩ := eq h
    exact ⟨ι, S, dx, dy, p, q', _, st, rx, ry, h1, h2, ⟨h3, h4, rfl⟩, fin _ rfl⟩
  | lt =>
    simp only [cmpSem, cmp, Option.map_eq_some_iff] at h
    obtain ⟨b, h, rfl⟩ := h
    obtain ⟨p, q', h1, h2, h3, h4, rfl⟩ := lt h
    exact ⟨ι, S, dx, dy, p, q', _, st, rx, ry, h1, h2, ⟨h3, h4, rfl⟩, fin _ rfl⟩
  | ge =>
    simp only [cmpSem, cmp, Option.map_eq_some_iff] at h
    obtain ⟨b, ⟨c, h, rfl⟩, rfl⟩ := h
    obtain ⟨p, q', h1, h2, h3, h4, rfl⟩ := lt h
    exact ⟨ι, S, dx, dy, p, q', _, st, rx, ry, h1, h2, ⟨h3, h4, rfl⟩, fin _ rfl⟩
  | gt =>
    simp only [cmpSem, cmp, Option.map_eq_some_iff] at h
    obtain ⟨b, h, rfl⟩ := h
    obtain ⟨p, q', h1, h2, h3, h4, rfl⟩ := lt h
    rw [PySem.W.alike_comm] at h3
    exact ⟨ι, S, dx, dy, q', p, _, st, rx, ry, h2, h1, ⟨h3, PySem.W.ne_none_both (by rw [PySem.W.alike_comm]; exact h3) h4, rfl⟩, fin _ rfl⟩
  | le =>
    simp only [cmpSem, cmp, Option.map_eq_some_iff] at h
    obtain ⟨b, ⟨c, h, rfl⟩, rfl⟩ := h
    obtain ⟨p, q', h1, h2, h3, h4, rfl⟩ := lt h
    rw [PySem.W.alike_comm] at h3
    exact ⟨ι, S, dx, dy, q', p, _, st, rx, ry, h2, h1, ⟨h3, PySem.W.ne_none_both (by rw [PySem.W.alike_comm]; exact h3) h4, rfl⟩, fin _ rfl⟩
  | isN =>
    simp only [cmpSem, cmp, Option.map_eq_some_iff] at h
    obtain ⟨b, h, rfl⟩ := h
    split at h
    · rename_i hn
      cases h
      exact ⟨non hn, by rw [rp_non rx]; exact fin _ rfl⟩
    · cases h
  | notN =>
    simp only [cmpSem, cmp, Option.map_eq_some_iff] at h
    obtain ⟨b, h, rfl⟩ := h
    split at h
    · rename_i hn
      cases h
      exact ⟨non hn, by rw [rp_non rx]; exact fin _ rfl⟩
    · cases h
  | isin =>
    simp only [cmpSem, cmp, Option.map_eq_some_iff] at h
    obtain ⟨b, h, rfl⟩ := h
    obtain ⟨p, ys, qs, h1, h2, h3, h4, h5, rfl⟩ := inn h
    exact ⟨ι, S, dx, dy, p, ys, qs, st, rx, ry, h1, h2, h3, h4, h5, by simpa using fin _ rfl⟩
  | notin =>
    simp only [cmpSem, cmp, Option.map_eq_some_iff] at h
    obtain ⟨b, ⟨c, h, rfl⟩, rfl⟩ := h
    obtain ⟨p, ys, qs, h1, h2, h3, h4, h5, rfl⟩ := inn h
    exact ⟨ι, S, dx, dy, p, ys, qs, st, rx, ry, h1, h2, h3, h4, h5, by simpa [bnot] using fin _ rfl⟩
end GV

set_option linter.all false
set_option maxHeartbeats 2000000
/-! GV, part e: built-ins, subscripts, methods. -/
namespace GV
open PySem PySem.Spec PyProof.Rows L2

section
variable {X : Cx} {pins : List (Addr × Obj)} {σ : L2.St} {H : Hp} {s : Shared} {ι : Ad} {S : Sto}
/-- a one-place operation by values and by data -/
def CallOk1 (K : PySem.W.Frag) (r : List V → Hp → VK → Prop) (sem : Sto → D → Option D) : Prop := ∀ {H : Hp} {ι : Ad} {S : Sto} {x : V} {dx d : D} {Q : VK}, StOk K H ι S → Rp K H ι x dx → sem S dx = some d →
  (∀ v H', Ext ι H ι H' → StOk K H' ι S → Rp K H' ι v d → Frs K H ι S v d H' → Q v H') → r [x] H Q
def CallOk2 (K : PySem.W.Frag) (r : List V → Hp → VK → Prop) (sem : D → D → Option D) : Prop := ∀ {H : Hp} {ι : Ad} {S : Sto} {x y : V} {dx dy d : D} {Q : VK}, StOk K H ι S → Rp K H ι x dx → Rp K H ι y dy → sem dx dy = some d →
  (∀ v H', Ext ι H ι H' → StOk K H' ι S → Rp K H' ι v d → Frs K H ι S v d H' → Q v H') → r [x, y] H Q

/-! ### repr -/
def rRepr (K : PySem.W.Frag) : List V → Hp → VK → Prop := fun xs H Q => ∃ (x : V) (ι : Ad) (S : Sto) (d : D) (p : PyData), xs = [x] ∧ StOk K H ι S ∧ Rp K H ι x d ∧ py S d = some p ∧ p.showable = true ∧ (p.hasDict = false ∨ noList p = true) ∧ p.shown.length ≤ sizeLine ∧ Q (.str p.shown) H
theorem call_reprX (hsm : SmOk X.K) (hg : X.A.guards = some []) (hu : X.A.units + 64 < cLine) : CallR X (.builtin "repr") (rRepr X.K) := by
  intro pins s σ H xs us Q I r h
  obtain ⟨x, ι, S, d, p, rfl, st, rp, h1, hs, hd, hz, q⟩ := h
  obtain ⟨u, rfl, rx⟩ := vals1 r
  obtain ⟨⟨as, ra, ma⟩, da⟩ := reads I st 24 d x u p rp rx h1
  have hm : p.hasDict = true → sysModules ∉ as := fun e => ma hsm
  cases ra with
  | none => exact PySem.P.repr_of_none ⟨.str _, H, I.tok _, ⟨_, rfl⟩, q⟩
  | bool b => exact PySem.P.repr_of_bool ⟨.str _, H, I.tok _, ⟨_, rfl⟩, q⟩
  | int i t =>
    rw [PyData.showable] at hs
    exact PySem.P.repr_of_int (of_decide_eq_true hs) ⟨.str _, H, I.tok _, ⟨_, rfl⟩, q⟩
  | str z t => exact PySem.P.repr_of_str ⟨.str _, H, I.tok _, ⟨_, rfl⟩, q⟩ hz
  | list h2 h3 h4 h5 => exact repr_of_reads' (h₀ := s.heap) (.list h2 h3 h4 h5) hs hm hg (by omega) (fun _ _ e => e) (fun h' u tk hk => ⟨.str _, H, I.kept hk, ⟨_, rfl⟩, q⟩) hz
  | tuple h2 h3 h4 h5 => exact repr_of_reads' (h₀ := s.heap) (.tuple h2 h3 h4 h5) hs hm hg (by omega) (fun _ _ e => e) (fun h' u tk hk => ⟨.str _, H, I.kept hk, ⟨_, rfl⟩, q⟩) hz
  | dict h2 h3 h4 h5 h6 => exact repr_of_reads' (h₀ := s.heap) (.dict h2 h3 h4 h5 h6) hs hm hg (by omega) (fun _ _ e => e) (fun h' u tk hk => ⟨.str _, H, I.kept hk, ⟨_, rfl⟩, q⟩) hz

/-! ### sorted -/
theorem each_of {K : PySem.W.Frag} {n : Nat} (f : ∀ (d : D) (v : V) (u : Value) (p : PyData), Rp K H ι v d → RelV v u → pyF S n d = some p → Rd0 (SmOk K) s.heap n u p) :
    ∀ (ds : List D) (vs : List V) (us : List Value) (es : List (D × PyData)), RpL K H ι vs ds → Vals vs us → mapO (fun d => (pyF S n d).map fun p => (d, p)) ds = some es →
      ∃ ts : List (V × D × PyData), ts.map (·.2) = es ∧ ts.map (·.1) = vs ∧ PySem.W.EachIs (fun (u : Value) (t : V × D × PyData) => RelV t.1 u) us ts ∧ (∀ t ∈ ts, Rp K H ι t.1 t.2.1) ∧
        PySem.W.EachIs (fun (u : Value) (t : V × D × PyData) => ∃ as, Reads s.heap u t.2.2 as) us ts ∧ ∀ t ∈ ts, t.2.2.depth ≤ n
  | [], _, _, es, .nil, .nil, h => by simp only [mapO, Option.some.injEq] at h; subst h; exact ⟨[], rfl, rfl, .nil, by simp, .nil, by simp⟩
  | d :: ds, _, _, es, .cons r rs, .cons q qs, h => by
    obtain ⟨e, es', h1, h2, rfl⟩ := mapO_cons h
    simp only [Option.map_eq_some_iff] at h1
    obtain ⟨p, h1, rfl⟩ := h1
    obtain ⟨ts, e1, e2, e3, e4, e5, e6⟩ := each_of f ds _ _ es' rs qs h2
    obtain ⟨⟨as, ra, _⟩, da⟩ := f d _ _ p r q h1
    refine ⟨(_, d, p) :: ts, by simp [e1], by simp [e2], .cons q e3, fun t ht => ?_, .cons ⟨as, ra⟩ e5, fun t ht => ?_⟩
    · rcases List.mem_cons.mp ht with rfl | ht
      · exact r
      · exact e4 t ht
    · rcases List.mem_cons.mp ht with rfl | ht
      · exact da
      · exact e6 t ht
theorem each_vals : ∀ {us : List Value} {ts : List (V × D × PyData)}, PySem.W.EachIs (fun (u : Value) (t : V × D × PyData) => RelV t.1 u) us ts → Vals (ts.map (·.1)) us
  | _, _, .nil => .nil
  | _, _, .cons h t => .cons h (each_vals t)
theorem rpl_of {K : PySem.W.Frag} : ∀ {ts : List (V × D × PyData)}, (∀ t ∈ ts, Rp K H ι t.1 t.2.1) → RpL K H ι (ts.map (·.1)) (ts.map (·.2.1))
  | [], _ => .nil
  | t :: ts, h => .cons (h t List.mem_cons_self) (rpl_of fun u hu => h u (List.mem_cons_of_mem _ hu))
def rSortX (K : PySem.W.Frag) : List V → Hp → VK → Prop := fun xs H Q => ∃ (a : Addr) (vs : List V) (ι : Ad) (S : Sto) (ds : List D) (es : List (D × PyData)), xs = [.ref a] ∧ StOk K H ι S ∧ SqL K H a vs ∧ RpL K H ι vs ds ∧ mapO (withPy S) ds = some es ∧
  allAlike (es.map (·.2)) = true ∧ sortable (es.map (·.2)) = true ∧ ∀ p ws, H p = none → RpL K H ι ws ((es.mergeSort leP).map (·.1)) → Q (.ref p) (upd H p (.lst ws))
theorem allAlike_ok {ps : List PyData} (h : allAlike ps = true) : PySem.W.AllAlike ps := fun d hd d' hd' => List.all_eq_true.mp (List.all_eq_true.mp h d hd) d' hd'
theorem sortable_ok {ps : List PyData} (h : sortable ps = true) : PySem.W.Sortable ps := by
  rcases Bool.or_eq_true_iff.mp h with h | h
  · refine .inl fun d hd => ?_
    have := List.all_eq_true.mp h d hd
    cases d with
    | tuple xs => cases xs with
      | nil => cases this
      | cons x r => exact ⟨x, r, rfl⟩
    | _ => cases this
  · refine .inr fun d hd => ?_
    have := List.all_eq_true.mp h d hd
    obtain ⟨h1, h2⟩ := Bool.and_eq_true_iff.mp this
    refine ⟨notNone_ne h1, ?_⟩
    rintro xs rfl
    cases h2
theorem call_sortedX (hu : X.A.units + 64 < cLine) : CallR X (.builtin "sorted") (rSortX X.K) := by
  intro pins s σ H xs us Q I r h
  obtain ⟨a, vs, ι, S, ds, es, rfl, st, hl, rl, hm, hal, hso, q⟩ := h
  obtain ⟨u, rfl, rx⟩ := vals1 r
  cases rx
  obtain ⟨its, rv, pl, hz⟩ := I.list hl
  obtain ⟨ts, e1, e2, e3, e4, e5, e6⟩ := each_of (s := s) (reads I st 23) ds vs its es rl rv hm
  have eenc : ts.map (fun t => t.2.2) = es.map (·.2) := by rw [← e1, List.map_map]; rfl
  have hlen : ts.length = vs.length := by rw [← e2, List.length_map]
  refine PySem.W.sorted_data (enc := fun t : V × D × PyData => t.2.2) pl.isList e3 e5 (by rw [eenc]; exact allAlike_ok hal) (by rw [eenc]; exact sortable_ok hso) (by rw [hlen]; exact hz) (fun t ht => by have := e6 t ht; show X.A.units + 2 + t.2.2.depth < cLine; omega) fun out ho eo => ?_
  have hle : (ts.mergeSort (PySem.W.dataLe false fun t : V × D × PyData => t.2.2)).map (·.2) = es.mergeSort leP := by
    rw [← e1]
    exact List.map_mergeSort fun x _ y _ => by rw [PySem.W.dataLe_eq]; rfl
  have hmem : ∀ t ∈ ts.mergeSort (PySem.W.dataLe false fun t : V × D × PyData => t.2.2), Rp X.K H ι t.1 t.2.1 := fun t ht => e4 t (List.mem_mergeSort.mp ht)
  obtain ⟨c, hc⟩ := sortedAll_at s.heap its out.toArray
  have hv := each_vals eo
  refine ⟨.ref (s.heap.objs.size + 1), _, I.laid (t' := s.toks) (o := .lst ((ts.mergeSort (PySem.W.dataLe false fun t : V × D × PyData => t.2.2)).map (·.1))) (fun _ _ => sortedAll_old) (Nat.le_succ _) ⟨?_, out, c, hv, hc⟩, rfl, q _ _ (I.hok.fresh (Nat.le_succ _)) ?_⟩
  · rw [List.length_map, List.length_mergeSort, hlen]; exact hz
  · rw [← hle, List.map_map]
    exact rpl_of hmem

/-! ### min, max -/
def better (mx : Bool) (p q : PyData) : Bool := if mx = true then PySem.W.dataLt p q else PySem.W.dataLt q p
def rMM (mx : Bool) (K : PySem.W.Frag) : List V → Hp → VK → Prop := fun xs H Q => ∃ (x : V) (ι : Ad) (S : Sto) (dx : D) (ds : List D) (e : D × PyData) (es : List (D × PyData)), xs = [x] ∧ StOk K H ι S ∧ Rp K H ι x dx ∧ items S dx = some ds ∧
  mapO (withPy S) ds = some (e :: es) ∧ allAlike ((e :: es).map (·.2)) = true ∧ (e :: es).all (fun q => notNone q.2 && pureF 23 q.1) = true ∧
  ∀ v, Rp K H ι v (es.foldl (fun a y => if better mx a.2 y.2 = true then y else a) e).1 → Q v H
theorem fold_snd (mx : Bool) : ∀ (es : List (D × PyData)) (e : D × PyData), (es.foldl (fun a y => if better mx a.2 y.2 = true then y else a) e).2 = (es.map (·.2)).foldl (fun a y => if better mx a y = true then y else a) e.2
  | [], e => rfl
  | f :: es, e => by
    simp only [List.foldl_cons, List.map_cons]
    rw [fold_snd mx es]
    congr 1
    split <;> rfl
theorem fold_mem (mx : Bool) : ∀ (es : List (D × PyData)) (e : D × PyData), es.foldl (fun a y => if better mx a.2 y.2 = true then y else a) e ∈ e :: es
  | [], e => List.mem_cons_self
  | f :: es, e => by
    simp only [List.foldl_cons]
    have := fold_mem mx es (if better mx e.2 f.2 = true then f else e)
    rcases List.mem_cons.mp this with h | h
    · rw [h]; split
      · exact List.mem_cons_of_mem _ List.mem_cons_self
      · exact List.mem_cons_self
    · exact List.mem_cons_of_mem _ (List.mem_cons_of_mem _ h)
theorem mapO_inj {α β : Type} {f : α → Option β} : ∀ {as as' : List α} {bs : List β}, (∀ a ∈ as, ∀ a' ∈ as', ∀ b, f a = some b → f a' = some b → a = a') → mapO f as = some bs → mapO f as' = some bs → as = as'
  | [], [], _, _, _, _ => rfl
  | [], a :: as', bs, _, h, h' => by
    simp only [mapO, Option.some.injEq] at h; subst h
    obtain ⟨b, cs, _, _, e⟩ := mapO_cons h'; cases e
  | a :: as, [], bs, _, h, h' => by
    simp only [mapO, Option.some.injEq] at h'; subst h'
    obtain ⟨b, cs, _, _, e⟩ := mapO_cons h; cases e
  | a :: as, a' :: as', bs, inj, h, h' => by
    obtain ⟨b, cs, h1, h2, rfl⟩ := mapO_cons h
    obtain ⟨b', cs', h1', h2', e⟩ := mapO_cons h'
    cases e
    rw [inj a List.mem_cons_self a' List.mem_cons_self b h1 h1', mapO_inj (fun x hx y hy b => inj x (List.mem_cons_of_mem _ hx) y (List.mem_cons_of_mem _ hy) b) h2 h2']
theorem py_inj : ∀ (m n k : Nat) (d d' : D) (p : PyData), pureF m d = true → pureF k d' = true → pyF S n d = some p → pyF S n d' = some p → d = d'
  | 0, _, _, _, _, _, h, _, _, _ => by simp [pureF] at h
  | _ + 1, _, 0, _, _, _, _, h, _, _ => by simp [pureF] at h
  | _ + 1, 0, _ + 1, _, _, _, _, _, h, _ => by simp [pyF] at h
  | m + 1, n + 1, k + 1, d, d', p, hp, hp', h, h' => by
    cases d with
    | tup ds =>
      simp only [pyF, Option.map_eq_some_iff] at h
      obtain ⟨ps, h, rfl⟩ := h
      cases d' with
      | tup ds' =>
        simp only [pyF, Option.map_eq_some_iff] at h'
        obtain ⟨ps', h', e⟩ := h'
        cases e
        simp only [pureF] at hp hp'
        rw [mapO_inj (fun a ha a' ha' b hb hb' => py_inj m n k a a' b (List.all_eq_true.mp hp a ha) (List.all_eq_true.mp hp' a' ha') hb hb') h h']
      | lst _ => simp [pureF] at hp'
      | fz _ => simp [pureF] at hp'
      | dk _ _ => simp [pureF] at hp'
      | ref _ => simp [pureF] at hp'
      | exo _ _ _ => simp [pureF] at hp'
      | _ => simp [pyF] at h'
    | lst _ => simp [pureF] at hp
    | fz _ => simp [pureF] at hp
    | dk _ _ => simp [pureF] at hp
    | ref _ => simp [pureF] at hp
    | exo _ _ _ => simp [pureF] at hp
    | non =>
      simp only [pyF, Option.some.injEq] at h; subst h
      cases d' with
      | non => rfl
      | tup _ => simp [pyF] at h'
      | lst _ => simp [pureF] at hp'
      | fz _ => simp [pureF] at hp'
      | dk _ _ => simp [pureF] at hp'
      | ref _ => simp [pureF] at hp'
      | exo _ _ _ => simp [pureF] at hp'
      | _ => simp [pyF] at h'
    | bl b =>
      simp only [pyF, Option.some.injEq] at h; subst h
      cases d' with
      | bl b' => simp only [pyF, Option.some.injEq, PyData.bool.injEq] at h'; rw [h']
      | tup _ => simp [pyF] at h'
      | lst _ => simp [pureF] at hp'
      | fz _ => simp [pureF] at hp'
      | dk _ _ => simp [pureF] at hp'
      | ref _ => simp [pureF] at hp'
      | exo _ _ _ => simp [pureF] at hp'
      | _ => simp [pyF] at h'
    | int b =>
      simp only [pyF, Option.some.injEq] at h; subst h
      cases d' with
      | int b' => simp only [pyF, Option.some.injEq, PyData.int.injEq] at h'; rw [h']
      | tup _ => simp [pyF] at h'
      | lst _ => simp [pureF] at hp'
      | fz _ => simp [pureF] at hp'
      | dk _ _ => simp [pureF] at hp'
      | ref _ => simp [pureF] at hp'
      | exo _ _ _ => simp [pureF] at hp'
      | _ => simp [pyF] at h'
    | str b =>
      simp only [pyF, Option.some.injEq] at h; subst h
      cases d' with
      | str b' => simp only [pyF, Option.some.injEq, PyData.str.injEq] at h'; rw [h']
      | tup _ => simp [pyF] at h'
      | lst _ => simp [pureF] at hp'
      | fz _ => simp [pureF] at hp'
      | dk _ _ => simp [pureF] at hp'
      | ref _ => simp [pureF] at hp'
      | exo _ _ _ => simp [pureF] at hp'
      | _ => simp [pyF] at h'
end
end GV

set_option linter.all false
set_option maxHeartbeats 2000000
/-! GV, part f: min, max; the table of built-ins. -/
namespace GV
open PySem PySem.Spec PyProof.Rows L2

section
variable {X : Cx} {pins : List (Addr × Obj)} {σ : L2.St} {H : Hp} {s : Shared} {ι : Ad} {S : Sto}
theorem withPy_ex : ∀ {ds : List D} {es : List (D × PyData)}, mapO (withPy S) ds = some es → mapO (pyF S 23) ds = some (es.map (·.2)) ∧ es.map (·.1) = ds ∧ ∀ e ∈ es, pyF S 23 e.1 = some e.2
  | [], es, h => by simp only [mapO, Option.some.injEq] at h; subst h; exact ⟨rfl, rfl, by simp⟩
  | d :: ds, es, h => by
    obtain ⟨e, es', h1, h2, rfl⟩ := mapO_cons h
    simp only [withPy, Option.map_eq_some_iff] at h1
    obtain ⟨p, h1, rfl⟩ := h1
    obtain ⟨e1, e2, e3⟩ := withPy_ex h2
    refine ⟨by simp [mapO, h1, e1], by simp [e2], fun e he => ?_⟩
    rcases List.mem_cons.mp he with rfl | he
    · exact h1
    · exact e3 e he
theorem call_mmX (mx : Bool) (hh : X.calm = true) (hu : X.A.units + 64 < cLine) : CallR X (.builtin (if mx = true then "max" else "min")) (rMM mx X.K) := by
  intro pins s σ H xs us Q I r h
  obtain ⟨x, ι, S, dx, ds, e, es, rfl, st, rp, hi, hm, hal, hall, q⟩ := h
  obtain ⟨u, rfl, rx⟩ := vals1 r
  obtain ⟨hp, hfst, heach⟩ := withPy_ex hm
  have hA : PySem.W.AlikeAll (e.2 :: es.map (·.2)) := ⟨fun p hp q hq => allAlike_ok hal p hp q hq, fun p hp => by
    obtain ⟨z, hz, rfl⟩ := List.mem_map.mp (show p ∈ (e :: es).map (·.2) from hp)
    exact notNone_ne (Bool.and_eq_true_iff.mp (List.all_eq_true.mp hall z hz)).1⟩
  have hps : mapO (pyF S 23) ds = some (e.2 :: es.map (·.2)) := hp
  -- from the value that is found to ours
  have fin : ∀ (vs : Array Value) (xs : List V) (i : Nat) (v : Value) (h' : Heap) (bs : List Addr) (tk : Nat), RpL X.K H ι xs ds → Vals xs vs.toList → vs[i]? = some v →
      Reads h' v ((es.map (·.2)).foldl (fun a y => if better mx a y = true then y else a) e.2) bs → (∀ b o, s.heap.get? b = some o → h'.get? b = some o) → EP X pins σ Q v { s with heap := h', toks := tk } := by
    intro vs xs i v h' bs tk rl rv hv rd hk
    have hv' : vs.toList[i]? = some v := by simpa using hv
    have hx : ∃ x, xs[i]? = some x := by
      cases q : xs[i]? with
      | none => rw [rv.none_of q] at hv'; cases hv'
      | some x => exact ⟨x, rfl⟩
    obtain ⟨x, hx⟩ := hx
    obtain ⟨u, hu', ru⟩ := rv.get hx
    rw [hv'] at hu'; cases hu'
    obtain ⟨d, hd, rd'⟩ := rl.getV hx
    rw [← hfst] at hd
    obtain ⟨z, hz, rfl⟩ : ∃ z, (e :: es)[i]? = some z ∧ z.1 = d := by
      rw [List.getElem?_map] at hd
      cases q : (e :: es)[i]? with
      | none => rw [q] at hd; cases hd
      | some z => rw [q] at hd; exact ⟨z, rfl, Option.some.inj hd⟩
    have hzm : z ∈ e :: es := List.mem_of_getElem? hz
    have hfm := fold_mem mx es e
    obtain ⟨⟨as, ra, _⟩, _⟩ := reads I st 23 z.1 x v z.2 rd' ru (heach z hzm)
    have pz := Bool.and_eq_true_iff.mp (List.all_eq_true.mp hall z hzm)
    have pf := Bool.and_eq_true_iff.mp (List.all_eq_true.mp hall _ hfm)
    have eqp : z.2 = (es.foldl (fun a y => if better mx a.2 y.2 = true then y else a) e).2 := by
      rw [← fold_snd] at rd
      exact PySem.W.alike_unique _ _ v _ _ (allAlike_ok hal _ (List.mem_map.mpr ⟨z, hzm, rfl⟩) _ (List.mem_map.mpr ⟨_, hfm, rfl⟩)) (PyProof.Rows.Reads.keeps hk ra) rd
    have eqd : z.1 = (es.foldl (fun a y => if better mx a.2 y.2 = true then y else a) e).1 :=
      py_inj 23 23 23 _ _ z.2 pz.2 pf.2 (heach z hzm) (by rw [eqp]; exact heach _ hfm)
    exact ⟨x, H, I.kept hk, ru, q x (eqd ▸ rd')⟩
  obtain ⟨a, xs, rfl, rl, hk⟩ := items_ok st rp hi
  cases rx
  rcases hk with ⟨hk, _⟩ | ⟨hk, _⟩
  · obtain ⟨its, rv, pl, hz⟩ := I.list hk
    obtain ⟨⟨as, ra, _⟩, da⟩ := readsL_of (s := s) (reads I st 23) _ _ its _ rl rv hps
    cases mx with
    | true => exact PySem.W.max_list_data (I.ok.hd hh) pl.isList (by simpa using ra) hA (by omega) fun i v h' tk bs hv rd hk' => fin _ xs i v h' bs tk rl (by simpa using rv) hv (by simpa [better, PySem.W.maxD] using rd) hk'
    | false => exact PySem.W.min_list_data (I.ok.hd hh) pl.isList (by simpa using ra) hA (by omega) fun i v h' tk bs hv rd hk' => fin _ xs i v h' bs tk rl (by simpa using rv) hv (by simpa [better, PySem.W.minD] using rd) hk'
  · obtain ⟨its, rv, pl, hz⟩ := I.tuple hk
    obtain ⟨⟨as, ra, _⟩, da⟩ := readsL_of (s := s) (reads I st 23) _ _ its _ rl rv hps
    have hT : s.heap.IsTuple a its.toArray := pl
    cases mx with
    | true => exact PySem.W.max_tuple_data (I.ok.hd hh) hT (by simpa using ra) hA (by omega) fun i v h' tk bs hv rd hk' => fin _ xs i v h' bs tk rl (by simpa using rv) hv (by simpa [better, PySem.W.maxD] using rd) hk'
    | false => exact PySem.W.min_tuple_data (I.ok.hd hh) hT (by simpa using ra) hA (by omega) fun i v h' tk bs hv rd hk' => fin _ xs i v h' bs tk rl (by simpa using rv) hv (by simpa [better, PySem.W.minD] using rd) hk'
end
end GV

set_option linter.all false
set_option maxHeartbeats 2000000
/-! GV, part g: the table of built-ins; types; subscripts; slices; methods. -/
namespace GV
open PySem PySem.Spec PyProof.Rows L2

def f1 : B1 → Value
  | .len => .builtin "len" | .abs => .builtin "abs" | .int => .type "int" | .repr => .builtin "repr" | .tuple => .type "tuple" | .list => .type "list" | .sorted => .builtin "sorted"
  | .sum => .builtin "sum" | .max => .builtin "max" | .min => .builtin "min" | .all => .builtin "all" | .any => .builtin "any" | .str => .type "str"
def r1 (K : PySem.W.Frag) : B1 → List V → Hp → VK → Prop
  | .len => fun xs H Q => ∃ x n, xs = [x] ∧ LenV K x H n ∧ Q (.int n) H
  | .abs => fun xs H Q => ∃ i, xs = [.int i] ∧ Q (.int (if i < 0 then -i else i)) H
  | .int => fun xs H Q => (∃ i, xs = [.int i] ∧ Q (.int i) H) ∨ ∃ k, xs = [.bl k] ∧ Q (.int (if k then 1 else 0)) H
  | .repr => rRepr K
  | .tuple => fun xs H Q => ∃ p ys, xs = [.ref p] ∧ ((SqL K H p ys ∧ ∀ l, H l = none → Q (.ref l) (upd H l (.tup ys))) ∨ (SqT K H p ys ∧ Q (.ref p) H))
  | .list => fun xs H Q => ∃ p ys, xs = [.ref p] ∧ (SqL K H p ys ∨ SqT K H p ys) ∧ ∀ l, H l = none → Q (.ref l) (upd H l (.lst ys))
  | .sorted => rSortX K
  | .sum => rSum K
  | .max => rMM true K
  | .min => rMM false K
  | .all => rAll K
  | .any => rAny K
  | .str => fun xs H Q => ∃ i, xs = [.int i] ∧ i.natAbs.log2 < 1920 ∧ Q (.str (toString i)) H
theorem call_b1 {X : Cx} (hsm : SmOk X.K) (hc : X.calm = true) (hg : X.A.guards = some []) (hu : X.A.units + 64 < cLine) (o : B1) : CallR X (f1 o) (r1 X.K o) := by
  cases o with
  | len => exact call_len
  | abs => exact call_abs
  | int => exact call_int1
  | repr => exact call_reprX hsm hg hu
  | tuple => exact call_tuple_of
  | list => exact call_list_of
  | sorted => exact call_sortedX hu
  | sum => exact cr_sum hc
  | max => exact call_mmX true hc hu
  | min => exact call_mmX false hc hu
  | all => exact cr_all hc
  | any => exact cr_any hc
  | str => exact call_str_int
theorem ints_of {K : PySem.W.Frag} {H : Hp} {ι : Ad} : ∀ {ds : List D} {vs : List V} {ns : List Int}, RpL K H ι vs ds → mapO asInt ds = some ns → vs = ns.map V.int
  | [], _, ns, .nil, h => by simp only [mapO, Option.some.injEq] at h; subst h; rfl
  | d :: ds, _, ns, .cons r rs, h => by
    obtain ⟨n, ms, h1, h2, rfl⟩ := mapO_cons h
    cases r <;> simp [asInt] at h1
    subst h1
    rw [ints_of rs h2]; rfl
theorem bls_of {K : PySem.W.Frag} {H : Hp} {ι : Ad} : ∀ {ds : List D} {vs : List V} {ns : List Bool}, RpL K H ι vs ds → mapO asBl ds = some ns → vs = ns.map V.bl
  | [], _, ns, .nil, h => by simp only [mapO, Option.some.injEq] at h; subst h; rfl
  | d :: ds, _, ns, .cons r rs, h => by
    obtain ⟨n, ms, h1, h2, rfl⟩ := mapO_cons h
    cases r <;> simp [asBl] at h1
    subst h1
    rw [bls_of rs h2]; rfl
theorem b1_ok {K : PySem.W.Frag} (o : B1) : CallOk1 K (r1 K o) (fun S => b1 S o) := by
  intro H ι S x dx d Q st rx h q
  have pure : ∀ v, Rp K H ι v d → Frs K H ι S v d H → Q v H := fun v r f => q v H (Ext.refl ι H) st r f
  cases o with
  | len =>
    have seq : ∀ ds, items S dx = some ds → d = .int ds.length → r1 K .len [x] H Q := fun ds hi e => by
      subst e
      obtain ⟨a, xs, rfl, rl, hk⟩ := items_ok st rx hi
      refine ⟨_, ds.length, rfl, ?_, pure _ (.int _) trivial⟩
      rw [← rl.length]
      rcases hk with ⟨hk, _⟩ | ⟨hk, _⟩
      · exact .inl ⟨xs, hk, rfl⟩
      · exact .inr ⟨xs, hk, rfl⟩
    cases rx with
    | str z =>
      simp only [b1] at h
      split at h
      · rename_i hz
        cases h
        exact ⟨_, z.length, rfl, ⟨sz_ok hz, rfl⟩, pure _ (.int _) trivial⟩
      · cases h
    | tup h1 r1 => simp only [b1, Option.map_eq_some_iff] at h; obtain ⟨ds, h2, e⟩ := h; exact seq ds h2 e.symm
    | lst h1 n r1 => simp only [b1, Option.map_eq_some_iff] at h; obtain ⟨ds, h2, e⟩ := h; exact seq ds h2 e.symm
    | fz h1 r1 => simp only [b1, Option.map_eq_some_iff] at h; obtain ⟨ds, h2, e⟩ := h; exact seq ds h2 e.symm
    | ref hi => simp only [b1, Option.map_eq_some_iff] at h; obtain ⟨ds, h2, e⟩ := h; exact seq ds h2 e.symm
    | _ => simp [b1, items] at h
  | abs =>
    cases rx with
    | int i => simp only [b1, Option.some.injEq] at h; subst h; exact ⟨i, rfl, pure _ (.int _) trivial⟩
    | _ => simp [b1] at h
  | str =>
    cases rx with
    | int i =>
      simp only [b1] at h
      split at h
      · rename_i hb
        cases h
        exact ⟨i, rfl, hb, pure _ (.str _) trivial⟩
      · cases h
    | _ => simp [b1] at h
  | int =>
    cases rx with
    | int i => simp only [b1, Option.some.injEq] at h; subst h; exact .inl ⟨i, rfl, pure _ (.int _) trivial⟩
    | bl k => simp only [b1, Option.some.injEq] at h; subst h; exact .inr ⟨k, rfl, pure _ (.int _) trivial⟩
    | _ => simp [b1] at h
  | repr =>
    simp only [b1] at h
    split at h
    · rename_i p hp
      split at h
      · rename_i hc
        cases h
        exact ⟨x, ι, S, dx, p, rfl, st, rx, hp, hc.1, hc.2.1, sz_ok hc.2.2, pure _ (.str _) trivial⟩
      · cases h
    · cases h
  | tuple =>
    simp only [b1, Option.map_eq_some_iff] at h
    obtain ⟨ds, hi, rfl⟩ := h
    obtain ⟨a, xs, rfl, rl, hk⟩ := items_ok st rx hi
    rcases hk with ⟨hk, _⟩ | ⟨hk, _⟩
    · exact ⟨a, xs, rfl, .inl ⟨hk, new_tup st rl q⟩⟩
    · exact ⟨a, xs, rfl, .inr ⟨hk, pure _ (.tup hk rl) trivial⟩⟩
  | list =>
    simp only [b1, Option.map_eq_some_iff] at h
    obtain ⟨ds, hi, rfl⟩ := h
    obtain ⟨a, xs, rfl, rl, hk⟩ := items_ok st rx hi
    exact ⟨a, xs, rfl, hk.imp (·.1) (·.1), new_lst st rl q⟩
  | sorted =>
    simp only [b1] at h
    split at h
    · rename_i ds hi
      simp only [Option.map_eq_some_iff] at h
      obtain ⟨es', h, rfl⟩ := h
      simp only [sortD] at h
      split at h
      · rename_i es hm
        split at h
        · rename_i hc
          cases h
          obtain ⟨a, xs, rfl, hl, rl⟩ := lit_ok st rx hi
          exact ⟨a, xs, ι, S, ds, es, rfl, st, SqL.of hl, rl, hm, hc.1, hc.2, fun p ws hp rw' => new_lst st rw' q p hp⟩
        · cases h
      · cases h
    · cases h
  | sum =>
    simp only [b1] at h
    split at h
    · rename_i ds hi
      simp only [Option.map_eq_some_iff] at h
      obtain ⟨ns, h, rfl⟩ := h
      obtain ⟨a, xs, rfl, hl, rl⟩ := lit_ok st rx hi
      exact ⟨a, ns, rfl, by rw [← ints_of rl h]; exact SqL.of hl, pure _ (.int _) trivial⟩
    · cases h
  | all =>
    simp only [b1] at h
    split at h
    · rename_i ds hi
      simp only [Option.map_eq_some_iff] at h
      obtain ⟨ns, h, rfl⟩ := h
      obtain ⟨a, xs, rfl, hl, rl⟩ := lit_ok st rx hi
      exact ⟨a, ns, rfl, by rw [← bls_of rl h]; exact SqL.of hl, pure _ (.bl _) trivial⟩
    · cases h
  | any =>
    simp only [b1] at h
    split at h
    · rename_i ds hi
      simp only [Option.map_eq_some_iff] at h
      obtain ⟨ns, h, rfl⟩ := h
      obtain ⟨a, xs, rfl, hl, rl⟩ := lit_ok st rx hi
      exact ⟨a, ns, rfl, by rw [← bls_of rl h]; exact SqL.of hl, pure _ (.bl _) trivial⟩
    · cases h
  | max =>
    simp only [b1] at h
    split at h
    · rename_i ds hi
      split at h
      · rename_i e es hm
        split at h
        · rename_i hc
          cases h
          refine ⟨x, ι, S, dx, ds, e, es, rfl, st, rx, hi, hm, hc.1, hc.2, fun v r => pure v (by simpa [better] using r) ?_⟩
          have hp := (Bool.and_eq_true_iff.mp (List.all_eq_true.mp hc.2 _ (fold_mem true es e))).2
          simp only [better, if_true] at hp
          revert hp
          cases (es.foldl (fun a y => if PySem.W.dataLt a.2 y.2 = true then y else a) e).1 <;> simp [pureF, Frs]
        · cases h
      · cases h
    · cases h
  | min =>
    simp only [b1] at h
    split at h
    · rename_i ds hi
      split at h
      · rename_i e es hm
        split at h
        · rename_i hc
          cases h
          refine ⟨x, ι, S, dx, ds, e, es, rfl, st, rx, hi, hm, hc.1, hc.2, fun v r => pure v (by simpa [better] using r) ?_⟩
          have hp := (Bool.and_eq_true_iff.mp (List.all_eq_true.mp hc.2 _ (fold_mem false es e))).2
          simp only [better, if_false, Bool.false_eq_true] at hp
          revert hp
          cases (es.foldl (fun a y => if PySem.W.dataLt y.2 a.2 = true then y else a) e).1 <;> simp [pureF, Frs]
        · cases h
      · cases h
    · cases h
def f2 : B2 → Value
  | .max => .builtin "max" | .min => .builtin "min" | .gcd => .builtin "math.gcd"
def r2 : B2 → List V → Hp → VK → Prop
  | .max => fun xs H Q => ∃ i j, xs = [.int i, .int j] ∧ Q (.int (if j > i then j else i)) H
  | .min => fun xs H Q => ∃ i j, xs = [.int i, .int j] ∧ Q (.int (if j < i then j else i)) H
  | .gcd => rGcd
theorem call_b2 {X : Cx} (hc : X.calm = true) (o : B2) : CallR X (f2 o) (r2 o) := by
  cases o with
  | max => exact call_max2 hc
  | min => exact call_min2 hc
  | gcd => exact cr_gcd
theorem b2_ok {K : PySem.W.Frag} (o : B2) : CallOk2 K (r2 o) (b2 o) := by
  intro H ι S x y dx dy d Q st rx ry h q
  have pure : ∀ v, Rp K H ι v d → Frs K H ι S v d H → Q v H := fun v r f => q v H (Ext.refl ι H) st r f
  cases o <;> cases rx <;> cases ry <;> simp [b2] at h <;> subst h <;> exact ⟨_, _, rfl, pure _ (.int _) trivial⟩

/-! ### isinstance of one built-in type -/
def tyTag : String → Option String
  | s => if s = "NoneType" ∨ s = "bool" ∨ s = "int" ∨ s = "str" ∨ s = "tuple" ∨ s = "list" ∨ s = "dict" then some s else none
theorem typeD_tag {S : Sto} {d : D} {t : String} (h : typeD S d = some t) : t ∈ ["NoneType", "bool", "int", "str", "tuple", "list", "dict"] := by
  cases d with
  | ref i =>
    simp only [typeD] at h
    split at h
    · cases h; decide
    · cases h; decide
    · cases h
  | exo _ _ _ => cases h
  | _ => simp only [typeD, Option.some.injEq] at h; subst h; decide
theorem kit_all : ∀ T : Ty, ∀ t ∈ ["NoneType", "bool", "int", "str", "tuple", "list", "dict"], kitB t (tyName T) = some (isa t T) := by
  intro T
  cases T <;> decide +kernel
theorem typeD_ok {K : PySem.W.Frag} {H : Hp} {ι : Ad} {S : Sto} {x : V} {d : D} {t : String} (st : StOk K H ι S) (r : Rp K H ι x d) (h : typeD S d = some t) : TyX K H x (.type t) := by
  cases r with
  | exo _ => cases h
  | non => simp only [typeD, Option.some.injEq] at h; subst h; exact .base .non
  | bl b => simp only [typeD, Option.some.injEq] at h; subst h; exact .base (.bl b)
  | int b => simp only [typeD, Option.some.injEq] at h; subst h; exact .base (.int b)
  | str b => simp only [typeD, Option.some.injEq] at h; subst h; exact .base (.str b)
  | tup h1 _ =>
    simp only [typeD, Option.some.injEq] at h; subst h
    rcases h1 with h1 | ⟨o, its, n, hk, hc, _⟩
    · rcases h1 with h1 | ⟨o, h1⟩
      · exact .base (.tup h1)
      · exact .fTuple h1
    · exact .kTuple hk hc
  | lst h1 _ _ => simp only [typeD, Option.some.injEq] at h; subst h; exact .base (.lst h1)
  | fz h1 _ =>
    simp only [typeD, Option.some.injEq] at h; subst h
    rcases h1 with ⟨o, h1⟩ | h1
    · exact .base (.frz h1)
    · rcases h1 with h1 | ⟨o, its, n, hk, hc, _⟩
      · rcases h1 with h1 | ⟨o, h1⟩ <;> cases h1
      · exact .kList hk hc
  | dk h1 _ _ _ _ => simp only [typeD, Option.some.injEq] at h; subst h; exact .base (.dK h1)
  | ref hi =>
    simp only [typeD] at h
    split at h
    · rename_i ds e
      cases h
      obtain ⟨a', ha, c⟩ := st.at e
      rw [hi] at ha; cases ha
      cases c with
      | lst h1 _ => exact .base (.lst h1)
    · rename_i ds e
      cases h
      obtain ⟨a', ha, c⟩ := st.at e
      rw [hi] at ha; cases ha
      cases c with
      | dk h1 _ _ => exact .base (.dK h1)
    · cases h
theorem isa_ok {K : PySem.W.Frag} {H : Hp} {ι : Ad} {S : Sto} {x : V} {d : D} {t : String} {Q : VK} (T : Ty) (st : StOk K H ι S) (r : Rp K H ι x d) (h : typeD S d = some t) (q : Q (.bl (isa t T)) H) :
    rIsi K [x, .ty (tyName T)] H Q :=
  ⟨x, .ty (tyName T), _, _, isa t T, rfl, .ty _, typeD_ok st r h, kit_ty (kit_all T t (typeD_tag h)), q⟩

/-! ### subscripts -/
section
variable {X : Cx}
theorem ix_dict (hu : X.A.units + 64 < cLine) : IxR X (fun x y H Q => ∃ a v, x = .ref a ∧ DGet H a y (some v) ∧ Q v H) := by
  intro value slice pins s σ H x y v u Q I rx ry h hs
  obtain ⟨a, w, rfl, g, q⟩ := h
  cases rx
  have run : wpAny (model X.prog X.w) X.A (getItem (.ref a) u) (EP X pins σ Q) X.xe s := d_getItem (by omega) I g ry fun w' s' I' r => ⟨w, H, I', r, q⟩
  unfold subscriptTail
  refine wpAny_bind ?_
  rw [getitemInPython_of_ne (dict_typeIs I g).not_modules]
  refine wpAny_bind (wpAny_specialOf (dict_typeIs I g) PySem.F.slot_dict_getitem.lookup ?_)
  have fin : wpAny (model X.prog X.w) X.A (subscripted slice false (.ref a) u) (fun r s₃ => wpAny (model X.prog X.w) X.A (letTemporaryGo value (.ref a) r >>= fun _ => pure r) (EP X pins σ Q) X.xe s₃) X.xe s := by
    rw [hs]
    exact wpAny_operating (wpAny_mono run (fun r s₃ h₃ => wpAny_bind (wpAny_letTemporaryGo (wpAny_pure h₃))) fun _ _ x => x)
  first
    | exact wpAny_pure (wpAny_bind fin)
    | exact wpAny_bind (wpAny_pure (wpAny_bind fin))
def rIdx (K : PySem.W.Frag) : R2 := fun x y H Q => rIx K x y H Q ∨ ∃ a v, x = .ref a ∧ DGet H a y (some v) ∧ Q v H
theorem ix_all (hu : X.A.units + 64 < cLine) : IxR X (rIdx X.K) := ix_seq.or (ix_dict hu)
end
theorem lookK_ok {K : PySem.W.Frag} {H : Hp} {ι : Ad} {k : L2.Key} {d : D} : ∀ {vs : List (L2.Key × V)} {kvs : List (L2.Key × D)}, vs.map (·.1) = kvs.map (·.1) → RpL K H ι (vs.map (·.2)) (kvs.map (·.2)) → lookK k kvs = some d →
    ∃ v, valV vs k = some v ∧ Rp K H ι v d
  | [], [], _, _, h => by simp [lookK] at h
  | [], _ :: _, e, _, _ => by simp at e
  | _ :: _, [], e, _, _ => by simp at e
  | (k1, v1) :: vs, (k2, d2) :: kvs, e, r, h => by
    simp only [List.map_cons, List.cons.injEq] at e
    obtain ⟨rfl, e⟩ := e
    simp only [List.map_cons] at r
    cases r with
    | cons r1 r2 =>
      simp only [lookK] at h
      split at h
      · rename_i hk
        cases h
        exact ⟨v1, valV_pos hk, r1⟩
      · rename_i hk
        obtain ⟨v, hv, rv⟩ := lookK_ok e r2 h
        exact ⟨v, (valV_neg hk).trans hv, rv⟩
theorem key_ok {K : PySem.W.Frag} {H : Hp} {ι : Ad} {y : V} {dy : D} {k : L2.Key} (r : Rp K H ι y dy) (h : asKey dy = some k) : y = kV k := by
  cases r <;> simp [asKey] at h <;> subst h <;> rfl
theorem atI_rp {K : PySem.W.Frag} {H : Hp} {ι : Ad} {xs : List V} {ds : List D} {i : Int} {d : D} (r : RpL K H ι xs ds) (h : atI ds i = some d) : ∃ v, atI xs i = some v ∧ Rp K H ι v d := by
  unfold atI at h ⊢
  rw [r.length]
  cases q : ixN ds.length i with
  | none => rw [q] at h; cases h
  | some j =>
    rw [q] at h
    exact r.get h
/-- as OpOk, the answer an old object -/
def OpOld (K : PySem.W.Frag) (r : R2) (sem : Sto → D → D → Option D) : Prop := ∀ {H : Hp} {ι : Ad} {S : Sto} {x y : V} {dx dy d : D} {Q : VK}, StOk K H ι S → Rp K H ι x dx → Rp K H ι y dy → sem S dx dy = some d →
  (∀ v, Rp K H ι v d → Q v H) → r x y H Q
theorem idx_ok {K : PySem.W.Frag} : OpOld K (rIdx K) idx := by
  intro H ι S x y dx dy d Q st rx ry h q
  have seq : ∀ {ds : List D} {i : Int}, items S dx = some ds → y = .int i → atI ds i = some d → rIdx K x y H Q := fun {ds i} hi ey ha => by
    obtain ⟨a, xs, rfl, rl, hk⟩ := items_ok st rx hi
    obtain ⟨v, hv, rv⟩ := atI_rp rl ha
    rcases hk with ⟨hk, _⟩ | ⟨hk, _⟩
    · exact .inl (.inl ⟨a, xs, i, v, rfl, ey, hk, hv, q v rv⟩)
    · exact .inl (.inr (.inl ⟨a, xs, i, v, rfl, ey, hk, hv, q v rv⟩))
  cases rx with
  | str z =>
    cases ry with
    | int i =>
      simp only [idx] at h
      split at h
      · rename_i hz
        simp only [Option.map_eq_some_iff] at h
        obtain ⟨c, hc, rfl⟩ := h
        exact .inl (.inr (.inr ⟨z, i, c, rfl, rfl, sz_ok hz, hc, q _ (.str _)⟩))
      · cases h
    | _ => simp [idx] at h
  | ref hi =>
    rename_i r a
    simp only [idx] at h
    split at h
    · rename_i ds e
      cases ry with
      | int i => exact seq (by simp [items, e]) rfl h
      | _ => simp at h
    · rename_i kvs e
      split at h
      · rename_i k hk
        obtain ⟨a', ha, c⟩ := st.at e
        rw [hi] at ha; cases ha
        cases c with
        | dk h1 h2 h3 =>
          obtain ⟨v, hv, rv⟩ := lookK_ok h2 h3 h
          refine .inr ⟨a, v, rfl, ?_, q v rv⟩
          rw [key_ok ry hk, ← hv]
          exact DGet.k h1
      · cases h
    · cases h
  | tup h1 r1 =>
    cases ry with
    | int i => simp only [idx, items] at h; exact seq rfl rfl h
    | _ => simp [idx] at h
  | lst h1 n r1 =>
    cases ry with
    | int i => simp only [idx, items] at h; exact seq rfl rfl h
    | _ => simp [idx] at h
  | fz h1 r1 =>
    cases ry with
    | int i => simp only [idx, items] at h; exact seq rfl rfl h
    | _ => simp [idx] at h
  | _ => cases ry <;> simp [idx, items] at h

/-! ### slices -/
def rSlX (K : PySem.W.Frag) : V → Option Int → Option Int → Hp → VK → Prop := fun x lo hi H Q => rSlA K x lo hi H Q ∨ rSlL K x lo hi H Q ∨ rSlS x lo hi H Q
theorem sl_all {X : Cx} : SlR X (rSlX X.K) := sl_tupA.or (sl_list.or sl_str)
theorem sIx_le0 (n : Nat) (o : Option Int) : HT.sIx n 0 o ≤ n := HT.sIx_le n 0 (Nat.zero_le n) o
theorem cut_whole {α : Type} (xs : List α) (lo hi : Option Int) (h : HT.sIx xs.length 0 lo = 0 ∧ HT.sIx xs.length xs.length hi = xs.length) : cut xs lo hi = xs := by
  unfold cut
  rw [h.1, h.2]
  simp
theorem slice_ok {K : PySem.W.Frag} {H : Hp} {ι : Ad} {S : Sto} {x : V} {dx d : D} {lo hi : Option Int} {Q : VK} (st : StOk K H ι S) (rx : Rp K H ι x dx) (h : slice S dx lo hi = some d)
    (q : ∀ v H', Ext ι H ι H' → StOk K H' ι S → Rp K H' ι v d → Frs K H ι S v d H' → Q v H') : rSlX K x lo hi H Q := by
  have lst : ∀ {ds : List D}, items S dx = some ds → isLst dx = true → d = .lst (cut ds lo hi) → rSlX K x lo hi H Q := fun {ds} hi' hl e => by
    subst e
    obtain ⟨a, xs, rfl, rl, hk⟩ := items_ok st rx hi'
    rcases hk with ⟨hk, _⟩ | ⟨_, hk⟩
    · exact .inr (.inl ⟨a, xs, rfl, hk, new_lst st (rl.cut lo hi) q⟩)
    · rw [hk] at hl; cases hl
  cases rx with
  | tup h1 r1 =>
    rename_i a xs ds
    simp only [slice, Option.some.injEq] at h
    subst h
    refine .inl ⟨a, xs, rfl, h1, fun hw => ?_, fun _ => new_tup st (r1.cut lo hi) q⟩
    have e : GV.cut ds lo hi = ds := cut_whole ds lo hi (by rw [← r1.length]; exact hw)
    rw [e] at q
    exact q _ _ (Ext.refl ι H) st (.tup h1 r1) trivial
  | str z =>
    simp only [slice] at h
    split at h
    · rename_i hz
      cases h
      refine .inr (.inr ⟨z, rfl, sz_ok hz, ?_⟩)
      have e : cutS z lo hi = ⟨(cut z.cps.toList lo hi).toArray⟩ := by
        unfold cutS cut
        have : z.length = z.cps.toList.length := by simp [Str.length]
        rw [this]
      rw [e]
      exact q _ _ (Ext.refl ι H) st (.str _) trivial
    · cases h
  | lst h1 n r1 => simp only [slice, Option.map_eq_some_iff] at h; obtain ⟨ds, h2, e⟩ := h; exact lst h2 rfl e.symm
  | fz h1 r1 => simp only [slice, Option.map_eq_some_iff] at h; obtain ⟨ds, h2, e⟩ := h; exact lst h2 rfl e.symm
  | ref hi => simp only [slice, Option.map_eq_some_iff] at h; obtain ⟨ds, h2, e⟩ := h; exact lst h2 rfl e.symm
  | _ => simp [slice, items] at h
/-! ### methods -/
def rIndexP (K : PySem.W.Frag) : V → List V → Hp → VK → Prop := fun x vs H Q => ∃ (ι : Ad) (S : Sto) (dx dy : D) (a : Addr) (y : V) (p : PyData) (ys : List D) (qs : List PyData) (k : Nat), x = .ref a ∧ vs = [y] ∧ StOk K H ι S ∧ Rp K H ι x dx ∧ Rp K H ι y dy ∧ py S dy = some p ∧
  litems S dx = some ys ∧ mapO (pyF S 23) ys = some qs ∧ p.plain = true ∧ PyData.plainAll qs = true ∧ (qs.findIdx? fun q => PyData.eqv q p) = some k ∧ Q (.int (k : Nat)) H
theorem mt_idx {X : Cx} (hu : X.A.units + 64 < cLine) : MtR X "list.index" (rIndexP X.K) := by
  intro pins s σ H x xs v us Q I rx rxs h
  obtain ⟨ι, S, dx, dy, a, y, p, ys, qs, k, rfl, rfl, st, r1, r2, h2, hl, hq, pp, pq, hk, q⟩ := h
  cases rx
  cases rxs with
  | cons ry rt =>
    rename_i uy ut
    cases rt
    obtain ⟨⟨bs, rb, _⟩, db⟩ := reads I st 24 dy y uy p r2 ry h2
    obtain ⟨a', zs, e, hH, rl⟩ := lit_ok st r1 hl
    cases e
    obtain ⟨its, rv, ⟨⟨cls, dd, data, sls⟩, n, ho, hc, hdn, hdt⟩, hlen⟩ := I.list (SqL.of hH)
    simp only at hc hdt
    subst hc hdt
    obtain ⟨⟨as, h4, _⟩, hdp⟩ := readsL_of (reads I st 23) _ _ its qs rl rv hq
    have hmap : its.map (SeqAt.readOf s.heap) = qs := SeqAt.readsAll_map_plain qs its as pq h4
    obtain ⟨hkl, hk1, hk2⟩ := List.findIdx?_eq_some_iff_getElem.mp hk
    have hn : its.length = qs.length := by rw [← hmap, List.length_map]
    have hvl := rv.length
    have hsl := sizeLine_eq
    have hj : k < its.toArray.size := by simp; omega
    have at_ : ∀ (m : Nat) (hm : m < its.toArray.size) (hm2 : m < qs.length), SeqAt.readOf s.heap its.toArray[m] = qs[m] := by
      intro m hm hm2
      subst hmap
      simp
    refine call_meets PySem.F.slot_list_index ⟨_, ho, rfl⟩ PySem.F.entry_list_index (PySem.F.args_list_index_2 _ _)
      (SeqAt.list_indexAt a its.toArray n dd sls uy (fun u => PyData.eqv (SeqAt.readOf s.heap u) p) k hj (by omega) ?_ ?_) ⟨ho, SeqAt.items_plain (vs := its.toArray) (show ReadsAll s.heap its.toArray.toList qs as from h4) rb pq pp (by omega), ?_⟩
    · show PyData.eqv (SeqAt.readOf s.heap its.toArray[k]) p = true
      rw [at_ k hj hkl]
      exact hk1
    · intro m hm hmj
      show PyData.eqv (SeqAt.readOf s.heap its.toArray[m]) p = false
      rw [at_ m hm (by omega)]
      simpa using hk2 m hmj
    · exact ⟨.int (k : Nat), H, I.tok _, ⟨_, rfl⟩, q⟩
def rMt (K : PySem.W.Frag) : Mt → V → List V → Hp → VK → Prop
  | .append => rAppend
  | .extend => rExtend
  | .pop => rPop
  | .popAt => rPopAt
  | .insert => fun x vs H Q => ∃ (l : Addr) (xs : List V) (i : Int) (y : V), x = .ref l ∧ vs = [.int i, y] ∧ H l = some (.lst xs) ∧ xs.length < sizeLine ∧ 0 ≤ i ∧ i < 2 ^ 63 ∧ Q .non (upd H l (.lst (xs.take i.toNat ++ [y] ++ xs.drop i.toNat)))
  | .index => rIndexP K
def mtId : Mt → String
  | .append => "list.append" | .extend => "list.extend" | .pop => "list.pop" | .popAt => "list.pop" | .insert => "list.insert" | .index => "list.index"
def mtName : Mt → Str
  | .append => "append" | .extend => "extend" | .pop => "pop" | .popAt => "pop" | .insert => "insert" | .index => "index"
theorem mt_all {X : Cx} (hu : X.A.units + 64 < cLine) (m : Mt) : MtR X (mtId m) (rMt X.K m) := by
  cases m with
  | append => exact mt_append
  | extend => exact mt_extend
  | pop => exact mt_pop
  | popAt => exact mt_popAt
  | insert => exact mt_insert
  | index => exact mt_idx hu
/-- the list at a cell -/
theorem cell_lst {K : PySem.W.Frag} {H : Hp} {ι : Ad} {S : Sto} {x : V} {r : Nat} {ds : List D} (st : StOk K H ι S) (rx : Rp K H ι x (.ref r)) (h : S[r]? = some (.lst ds)) :
    ∃ a xs, x = .ref a ∧ ι.c[r]? = some a ∧ H a = some (.lst xs) ∧ RpL K H ι xs ds := by
  cases rx with
  | ref hi =>
    obtain ⟨a', ha, c⟩ := st.at h
    rw [hi] at ha; cases ha
    cases c with
    | lst h1 r1 => exact ⟨_, _, rfl, hi, h1, r1⟩
/-- the list at a cell is written -/
theorem write_lst {K : PySem.W.Frag} {H : Hp} {ι : Ad} {S : Sto} {r : Nat} {a : Addr} {xs : List V} {ds : List D} (st : StOk K H ι S) (hi : ι.c[r]? = some a) (rl : RpL K H ι xs ds) :
    Ext ι H ι (upd H a (.lst xs)) ∧ StOk K (upd H a (.lst xs)) ι (S.set r (.lst ds)) :=
  ⟨Ext.write st hi, st.write hi (.lst upd_same (rl.ext (Ext.write st hi)))⟩
theorem meth_ok {K : PySem.W.Frag} {H : Hp} {ι : Ad} {S S' : Sto} {m : Mt} {x : V} {dx d : D} {ys : List V} {ds : List D} {Q : VK} (st : StOk K H ι S) (rx : Rp K H ι x dx) (ry : RpL K H ι ys ds) (h : meth S m dx ds = some (d, S'))
    (q : ∀ v H', Ext ι H ι H' → StOk K H' ι S' → Rp K H' ι v d → Q v H') : (∃ a xs, x = .ref a ∧ H a = some (.lst xs)) ∧ rMt K m x ys H Q := by
  have hlen := ry.length
  cases m with
  | append =>
    cases dx with
    | ref r =>
      match ds, h with
      | [e], h =>
        simp only [meth] at h
        split at h
        · rename_i es hs
          split at h
          · rename_i hz
            cases h
            obtain ⟨a, xs, rfl, hi, hH, rl⟩ := cell_lst st rx hs
            cases ry with
            | cons r1 r2 =>
              cases r2
              obtain ⟨e1, s1⟩ := write_lst st hi (rl.append (.cons r1 .nil))
              refine ⟨⟨a, xs, rfl, hH⟩, a, xs, _, rfl, rfl, hH, ?_, q _ _ e1 s1 .non⟩
              rw [rl.length, sizeLine_eq]
              exact hz
          · cases h
        · cases h
    | _ => simp [meth] at h
  | extend =>
    cases dx with
    | ref r =>
      match ds, h with
      | [e], h =>
        simp only [meth] at h
        split at h
        · rename_i es fs hs hf
          split at h
          · rename_i hz
            cases h
            obtain ⟨a, xs, rfl, hi, hH, rl⟩ := cell_lst st rx hs
            cases ry with
            | cons r1 r2 =>
              cases r2
              obtain ⟨b, zs, rfl, hB, rz⟩ := lit_ok st r1 hf
              obtain ⟨e1, s1⟩ := write_lst st hi (rl.append rz)
              exact ⟨⟨a, xs, rfl, hH⟩, a, b, xs, zs, rfl, rfl, hH, hB, by rw [rl.length, rz.length]; exact sz_ok hz, q _ _ e1 s1 .non⟩
          · cases h
        · cases h
    | _ => simp [meth] at h
  | pop =>
    cases dx with
    | ref r =>
      match ds, h with
      | [], h =>
        simp only [meth] at h
        split at h
        · rename_i es hs
          split at h
          · rename_i z hz
            cases h
            obtain ⟨a, xs, rfl, hi, hH, rl⟩ := cell_lst st rx hs
            cases ry
            obtain ⟨e1, s1⟩ := write_lst st hi rl.dropLast
            rw [← rl.length] at hz
            obtain ⟨v, hv, rv⟩ := rl.get hz
            exact ⟨⟨a, xs, rfl, hH⟩, a, xs, v, rfl, rfl, hH, hv, q _ _ e1 s1 (rv.ext e1)⟩
          · cases h
        · cases h
    | _ => simp [meth] at h
  | popAt =>
    cases dx with
    | ref r =>
      match ds, h with
      | [.int i], h =>
        simp only [meth] at h
        split at h
        · rename_i es hs
          split at h
          · rename_i hb
            split at h
            · rename_i k hk
              split at h
              · rename_i z hz
                cases h
                obtain ⟨a, xs, rfl, hi, hH, rl⟩ := cell_lst st rx hs
                cases ry with
                | cons r1 r2 =>
                  cases r2
                  cases r1
                  obtain ⟨e1, s1⟩ := write_lst st hi (rl.erase k)
                  obtain ⟨v, hv, rv⟩ := rl.get hz
                  exact ⟨⟨a, xs, rfl, hH⟩, a, xs, i, k, v, rfl, rfl, hH, hb.1, hb.2, by rw [rl.length]; exact hk, hv, q _ _ e1 s1 (rv.ext e1)⟩
              · cases h
            · cases h
          · cases h
        · cases h
    | _ => simp [meth] at h
  | insert =>
    cases dx with
    | ref r =>
      match ds, h with
      | [.int i, e], h =>
        simp only [meth] at h
        split at h
        · rename_i es hs
          split at h
          · rename_i hb
            cases h
            obtain ⟨a, xs, rfl, hi, hH, rl⟩ := cell_lst st rx hs
            cases ry with
            | cons r1 r2 =>
              cases r1
              cases r2 with
              | @cons ve _ _ _ r2 r3 =>
                cases r3
                have rr : RpL K H ι (xs.take i.toNat ++ [ve] ++ xs.drop i.toNat) (insAt es i.toNat e) := by
                  unfold insAt
                  have := ((rl.take i.toNat).append (.cons r2 .nil)).append (rl.drop i.toNat)
                  simpa using this
                obtain ⟨e1, s1⟩ := write_lst st hi rr
                have hl := rl.length
                have hz : es.length + 1 ≤ 16777216 := hb.2.2
                exact ⟨⟨a, xs, rfl, hH⟩, a, xs, i, _, rfl, rfl, hH, by rw [sizeLine_eq]; omega, hb.1, by omega, q _ _ e1 s1 .non⟩
          · cases h
        · cases h
    | _ => simp [meth] at h
  | index =>
    match ds, h with
    | [e], h =>
      simp only [meth, Option.bind_eq_some_iff] at h
      obtain ⟨p, h1, qs, ⟨ys, h2, h3⟩, h⟩ := h
      split at h
      · rename_i hp
        simp only [Option.map_eq_some_iff, Prod.mk.injEq] at h
        obtain ⟨k, hk, rfl, rfl⟩ := h
        obtain ⟨a, xs, rfl, hH, rl⟩ := lit_ok st rx h2
        cases ry with
        | cons r1 r2 =>
          cases r2
          exact ⟨⟨a, xs, rfl, hH⟩, ι, S, dx, e, a, _, p, ys, qs, k, rfl, rfl, st, rx, r1, h1, h2, h3, hp.1, hp.2, hk, q _ _ (Ext.refl ι H) st (.int _)⟩
      · cases h
theorem any_keys {α β : Type} {k : L2.Key} : ∀ {vs : List (L2.Key × α)} {kvs : List (L2.Key × β)}, vs.map (·.1) = kvs.map (·.1) → (vs.any fun kv => decide (kv.1 = k)) = kvs.any fun kv => decide (kv.1 = k)
  | [], [], _ => rfl
  | [], _ :: _, e => by simp at e
  | _ :: _, [], e => by simp at e
  | p :: vs, q :: kvs, e => by
    simp only [List.map_cons, List.cons.injEq] at e
    rw [List.any_cons, List.any_cons, e.1, any_keys e.2]
theorem put_map {K : PySem.W.Frag} {H : Hp} {ι : Ad} {k : L2.Key} {v : V} {d : D} (r : Rp K H ι v d) : ∀ {vs : List (L2.Key × V)} {kvs : List (L2.Key × D)}, vs.map (·.1) = kvs.map (·.1) → RpL K H ι (vs.map (·.2)) (kvs.map (·.2)) →
    (vs.map (fun kv => if kv.1 = k then (kv.1, v) else kv)).map (·.1) = (kvs.map (fun kv => if kv.1 = k then (kv.1, d) else kv)).map (·.1) ∧
    RpL K H ι ((vs.map (fun kv => if kv.1 = k then (kv.1, v) else kv)).map (·.2)) ((kvs.map (fun kv => if kv.1 = k then (kv.1, d) else kv)).map (·.2))
  | [], [], _, _ => ⟨rfl, .nil⟩
  | [], _ :: _, e, _ => by simp at e
  | _ :: _, [], e, _ => by simp at e
  | p :: vs, q :: kvs, e, rr => by
    simp only [List.map_cons, List.cons.injEq] at e rr
    cases rr with
    | cons r1 r2 =>
      obtain ⟨i1, i2⟩ := put_map r e.2 r2
      obtain ⟨p1, p2⟩ := p
      obtain ⟨q1, q2⟩ := q
      obtain ⟨e1, e2⟩ := e
      simp only at e1
      subst e1
      by_cases hk : p1 = k
      · simp only [List.map_cons, if_pos hk]
        exact ⟨by rw [i1], .cons r i2⟩
      · simp only [List.map_cons, if_neg hk]
        exact ⟨by rw [i1], .cons r1 i2⟩
theorem putK_eq {K : PySem.W.Frag} {H : Hp} {ι : Ad} {k : L2.Key} {v : V} {d : D} (r : Rp K H ι v d) {vs : List (L2.Key × V)} {kvs : List (L2.Key × D)} (e : vs.map (·.1) = kvs.map (·.1)) (rr : RpL K H ι (vs.map (·.2)) (kvs.map (·.2))) :
    (L2.putK vs k v).map (·.1) = (GV.putK k d kvs).map (·.1) ∧ RpL K H ι ((L2.putK vs k v).map (·.2)) ((GV.putK k d kvs).map (·.2)) := by
  unfold L2.putK GV.putK
  rw [any_keys e]
  split
  · exact put_map r e rr
  · simp only [List.map_append, List.map_cons, List.map_nil]
    exact ⟨by rw [e], rr.append (.cons r .nil)⟩
/-- o[i] = v, by values -/
def rSet : V → V → V → Hp → (Hp → Prop) → Prop := fun o i v H Q => rSetL o i v H Q ∨ ∃ a H', o = .ref a ∧ DPut H a i v H' ∧ Q H'
theorem setx_ok {K : PySem.W.Frag} {H : Hp} {ι : Ad} {S S' : Sto} {x y v : V} {dx dy d : D} {Q : Hp → Prop} (st : StOk K H ι S) (rx : Rp K H ι x dx) (ry : Rp K H ι y dy) (rv : Rp K H ι v d) (h : setx S dx dy d = some S')
    (q : ∀ H', Ext ι H ι H' → StOk K H' ι S' → Q H') : rSet x y v H Q := by
  cases dx with
  | ref r =>
    simp only [setx] at h
    split at h
    · rename_i ds hs
      split at h
      · rename_i i
        cases ry
        split at h
        · rename_i j hj
          cases h
          obtain ⟨a, xs, rfl, hi, hH, rl⟩ := cell_lst st rx hs
          obtain ⟨e1, s1⟩ := write_lst st hi (rl.set rv j)
          exact .inl ⟨a, xs, i, j, rfl, rfl, hH, by rw [rl.length]; exact hj, q _ e1 s1⟩
        · cases h
      · cases h
    · rename_i kvs hs
      split at h
      · rename_i k hk
        split at h
        · rename_i hz
          cases h
          cases rx with
          | ref hi =>
            rename_i a
            obtain ⟨a', ha, c⟩ := st.at hs
            rw [hi] at ha; cases ha
            cases c with
            | @dk vs _ h1 h2 h3 =>
              have hl : vs.length = kvs.length := by
                have := congrArg List.length h2
                simpa using this
              obtain ⟨e1, e2⟩ := putK_eq rv h2 h3 (k := k)
              have ex : Ext ι H ι (upd H a (.dK (L2.putK vs k v))) := Ext.write st hi
              refine .inr ⟨a, _, rfl, by rw [key_ok ry hk]; exact DPut.k h1 (by rw [hl, sizeLine_eq]; exact hz), q _ ex (st.write hi (.dk upd_same e1 (e2.ext ex)))⟩
        · cases h
      · cases h
    · cases h
  | _ => simp [setx] at h
theorem set_all {X : Cx} (hu : X.A.units + 64 < cLine) : PSet X rSet := by
  intro pins s σ H o i v ov iv u Q I ro ri rv h
  rcases h with h | ⟨a, H', rfl, g, q⟩
  · exact set_list pins s σ H o i v ov iv u Q I ro ri rv h
  · cases ro
    exact d_setItem (by omega) I g ri rv fun s' I' => ⟨H', I', q⟩
end GV

set_option linter.all false
set_option maxHeartbeats 2000000
set_option maxRecDepth 100000
/-! GV, part h: contracts of defs (also: no repr under way), calls by place and by name, the law's end. -/
namespace GV
open PySem PySem.Spec PyProof.Rows L2

theorem guards_deeper (A : Around) (env : Env) : (A.deeper env).guards = A.guards := by
  obtain ⟨h, d, f, g, u⟩ := A
  cases g <;> rfl

/-- what a def promises, where no repr is under way -/
structure FnG (P : Program) (w : World) (K : PySem.W.Frag) (mg : Str → Option Value) (base : Heap) (k : Nat) (f : Addr) (fd : FuncData) (ps : List Str) (sp : Sp) : Prop where
  arity : ∀ vs H Q E, sp vs H Q E → vs.length = ps.length
  goes : ∀ (A : Around) (out : List Env) (s : Shared) (H : Hp) (args : Args) (us : List Value) (vs : List V) (Q : VK) (E : XK),
    A.guards = some [] → Room k A → Env0 P w K mg base A out s H → BindsTo s fd args (ps.zip us) → Vals vs us → sp vs H Q E →
    codeAny (model P w) A (.call (.ref f) args) (CR (L2.CX P w) out P w H s Q E) s

/-- a def of the module, as K holds it (no defaults) -/
structure DefAt (K : PySem.W.Frag) (name qual : Str) (params : Arguments) (body : List Stmt) (scope : Scope) (f : Addr) (fd : FuncData) : Prop where
  at_ : ∃ (cl : Value) (od : Option Addr) (dV kV doc pm cdv ct : Value) (an : Option Addr) (sl : Array (Option Value)),
    fd = PySem.W.fnOf name qual params body scope dV kV doc pm an cdv ct ∧ K.lookup f = some ⟨cl, od, .func fd, sl⟩ ∧ PySem.W.codeIn K cdv qual = true
  keep : PySem.W.keepIn K (.ref f) = true

/-- the body's context -/
abbrev bodyX (P : Program) (w : World) (K : PySem.W.Frag) (mg : Str → Option Value) (base : Heap) (N : List Str) (qual : Str) (scope : Scope) (f : Addr) (cd : Value) (A : Around) (out : List Env) (s : Shared) (H : Hp) (E : XK) : Cx :=
  cxOf (L2.CX P w) P w K mg base N qual scope f cd A out s H E

theorem DefAt.contract {P : Program} {w : World} {K : PySem.W.Frag} {mg : Str → Option Value} {base : Heap} {name qual : Str} {params : Arguments} {body : List Stmt} {scope : Scope} {f : Addr} {fd : FuncData} {N ps : List Str} {k : Nat} {sp : Sp}
    (F : DefAt K name qual params body scope f fd) (S : FnScope N ps scope) (ar : ∀ vs H Q E, sp vs H Q E → vs.length = ps.length)
    (walk : ∀ (cd : Value) (A : Around) (out : List Env) (s : Shared) (H : Hp) (vs : List V) (Q : VK) (E : XK), A.guards = some [] → Room k (A.deeper (envOfC qual scope s.heap.objs.size f cd)) → sp vs H Q E →
      ∃ t, PSs (bodyX P w K mg base N qual scope f cd A out s H E) body t ∧ t { nx := fun _ H' => Q .non H', rt := Q } (start N vs) H) :
    FnG P w K mg base (k + 1) f fd ps sp := by
  obtain ⟨cl, od, dV, kV, doc, pm, cdv, ct, an, sl, rfl, here, hcode⟩ := F.at_
  refine ⟨ar, fun A out s H args us vs Q E hgd room e0 bd rel prom => ?_⟩
  have many := ar vs H Q E prom
  have up : ∀ b o, base.get? b = some o → s.heap.get? b = some o := fun b o e => (e0.bs b o e).1
  have inH : K.In s.heap := e0.mod.kin.keeps up
  have noL : s.heap.NoLimit := e0.mod.nolimit.keeps up
  have kinds : ∀ q ∈ ps.zip us, scope.names.lookup q.1 = some .local ∨ (scope.names.lookup q.1 = some .cell ∧ ((cellsFrom (s.heap.objs.size + 1) scope.names []).lookup q.1).isSome = true) := by
    intro q hq
    have hm : q.1 ∈ ps := (List.of_mem_zip (a := q.1) (b := q.2) hq).1
    rcases S.par q.1 hm with z | z
    · exact Or.inl z
    · exact Or.inr ⟨z, PySem.W.cellsFrom_some _ _ _ (Or.inl z)⟩
  apply codeAny_call_function room.depth (inH _ _ here) rfl S.co S.gen rfl (PySem.W.codeRec_of inH hcode)
  apply bd
  apply wpAny_newFunctionEnv_cells S.kind kinds
  intro env eenv s1 entered
  subst eenv
  refine ⟨noL.keeps entered.toInCall.keep, codeAny_func ?_⟩
  obtain ⟨t, ht, ready⟩ := walk cdv A out s H vs Q E hgd (room.deeper _) prom
  have I := inv_start (CX := L2.CX P w) (N := N) (E := E) S room.hd e0 many rel entered
  apply wpAny_mono (ht.run [] s1 (start N vs) H _ I ready)
  · intro fl s' ends
    cases fl with
    | ret u => exact let ⟨v, σ', H', J, rv, q⟩ := ends; ⟨v, H', J.os, J.bare, J.base, J.hok, rv, q⟩
    | next => exact let ⟨σ', H', J, q⟩ := ends; ⟨V.non, H', J.os, J.bare, J.base, J.hok, rfl, q⟩
    | brk => exact let ⟨_, _, _, q⟩ := ends; False.elim q
    | cont => exact let ⟨_, _, _, q⟩ := ends; False.elim q
  · exact fun _ _ z => z

/-! ### calls -/
section
variable {X : Cx} {k : Nat} {f : Addr} {fd : FuncData} {ps : List Str} {sp : Sp} {W : WX} {x : Str} {p pos : Pos} {e : Expr} {es : List Expr} {t : TA}
theorem run_g {pins : List (Addr × Obj)} {σ : L2.St} {H : Hp} {s : Shared} {Q : VK} {us ws : List Value} {vs : List V} {kw : List (Str × Value)} (F : FnG X.prog X.w X.K X.mg X.base k f fd ps sp) (gd : X.A.guards = some []) (hr : Room k X.A)
    (tk : Takes X W) (I : Inv X pins σ H s) (hb : BindsTo s fd ⟨us, kw⟩ (ps.zip ws)) (r : Vals vs ws) (h : sp vs H Q (WE W σ)) : wpAny (model X.prog X.w) X.A (call (.ref f) us kw) (EP X pins σ Q) X.xe s := by
  apply wpAny_call
  apply codeAny_mono (F.goes X.A X.stack s H ⟨us, kw⟩ ws vs Q (WE W σ) gd hr I.env0 hb r h)
  intro z s' hq
  match z, hq with
  | .error e, hq => exact passAt tk σ pins H s e s' I hq
  | .ok (.ret u), hq => exact I.after hq
def tCallG (sp : Sp) (W : WX) (t : TA) : TE := fun σ H Q => t σ H fun vs H1 => sp vs H1 Q (WE W σ)
/-- f(e, ..) -/
theorem pe_callG (F : FnG X.prog X.w X.K X.mg X.base k f fd ps sp) (gd : X.A.guards = some []) (hr : Room k X.A) (tk : Takes X W) (hg : Gl X x) (hm : X.mg x = some (.ref f)) (hk : PySem.W.keepIn X.K (.ref f) = true)
    (hb : Binds X.K fd ps []) (ha : PA X (e :: es) t) (hd : (x == ("__debug__" : Str)) = false) (he : starEach (e :: es) X.env = (false, eval e X.env) :: starEach es X.env) (hpl : (backTo pos (starEach es X.env)).any (·.1) = false) :
    PE X (.Call (.Name x p) (e :: es) [] pos) (tCallG sp W t) := by
  refine ⟨fun pins s σ H Q I h => wpAny_Call_Name_kw (ld_glob I hg hm ?_ hd)⟩
  refine PySem.W.callWith_K (h₀ := X.base) I.ok.mod.kin hk (thn (ha.run pos pins s σ H _ I h) fun us s1 ⟨vs, H1, I1, r, q⟩ => ⟨I1.kIn, ?_⟩) he hpl
  have hl : (us ++ []).length = ps.length := by rw [List.append_nil, ← r.length]; exact F.arity _ _ _ _ q
  have b := hb s1 us I1.kIn hl
  rw [List.append_nil] at b
  exact run_g F gd hr tk I1 b r q
/-- f() -/
theorem pe_callG0 (F : FnG X.prog X.w X.K X.mg X.base k f fd ps sp) (gd : X.A.guards = some []) (hr : Room k X.A) (tk : Takes X W) (hg : Gl X x) (hm : X.mg x = some (.ref f)) (hk : PySem.W.keepIn X.K (.ref f) = true)
    (hb : Binds X.K fd ps []) (hd : (x == ("__debug__" : Str)) = false) : PE X (.Call (.Name x p) [] [] pos) (tCallG sp W tNil) := by
  refine ⟨fun pins s σ H Q I h => wpAny_Call_Name_kw (ld_glob I hg hm ?_ hd)⟩
  refine PySem.W.callWith_K0 I.kIn hk ?_
  have q : sp [] H Q (WE W σ) := h
  have b := hb s [] I.kIn (by rw [← F.arity _ _ _ _ q]; rfl)
  exact run_g F gd hr tk I b .nil q
theorem permL_vals {vs : List V} {us : List Value} (r : Vals vs us) : ∀ is : List Nat, Vals (permL is vs) (permL is us)
  | [] => .nil
  | i :: is => by
    simp only [permL]
    cases e : vs[i]? with
    | none =>
      rw [r.none_of e]
      exact permL_vals r is
    | some v =>
      obtain ⟨u, hu, ru⟩ := r.get e
      rw [hu]
      exact .cons ru (permL_vals r is)
/-- how a call by names binds -/
structure KwTo (fd : FuncData) (ps ks : List Str) (is : List Nat) : Prop where
  to : ∀ (s : Shared) (us : List Value), us.length = ks.length → BindsTo s fd ⟨[], ks.zip us⟩ (ps.zip (permL is us))
def tCallGK (sp : Sp) (W : WX) (n : Nat) (is : List Nat) (t : TA) : TE := fun σ H Q => t σ H fun vs H1 => vs.length = n ∧ sp (permL is vs) H1 Q (WE W σ)
/-- f(k = e, ..) -/
theorem pe_callGK {kws : List Keyword} {ks : List Str} {is : List Nat} (F : FnG X.prog X.w X.K X.mg X.base k f fd ps sp) (gd : X.A.guards = some []) (hr : Room k X.A) (tk : Takes X W) (hg : Gl X x) (hm : X.mg x = some (.ref f)) (hk : PySem.W.keepIn X.K (.ref f) = true)
    (hb : KwTo fd ps ks is) (ha : PK X kws t) (hd : (x == ("__debug__" : Str)) = false) (hall : (backToKw pos (keywordEach kws X.env)).all (·.1.isSome) = true) (hks : (backToKw pos (keywordEach kws X.env)).filterMap (·.1) = ks)
    (hpl : ((backTo pos (starEach [] X.env)).any (·.1) || (backToKw pos (keywordEach kws X.env)).any (·.1.isNone)) = false) :
    PE X (.Call (.Name x p) [] kws pos) (tCallGK sp W ks.length is t) := by
  refine ⟨fun pins s σ H Q I h => wpAny_Call_Name_kw (ld_glob I hg hm ?_ hd)⟩
  refine PySem.W.callWith_KW0 (h₀ := X.base) I.ok.mod.kin hk hall (thn (ha.run pos pins s σ H _ I h) fun us s1 ⟨vs, H1, I1, r, hl, q⟩ => ⟨I1.kIn, ?_⟩) hpl
  rw [hks]
  exact run_g F gd hr tk I1 (hb.to s1 us (r.length.symm.trans hl)) (permL_vals r is) q
end

/-! ### the law's end -/
theorem room_top {k : Nat} (h : k ≤ 60) : Room k callerA := by
  refine ⟨rfl, ?_, ?_⟩
  · rw [depth_caller]; unfold recursionLimit; omega
  · have : callerA.units + 16 * 60 + 200 < cLine := by decide +kernel
    omega
theorem guards_top : callerA.guards = some [] := rfl
/-- the heap's picture at the law's entry: the script alone, known to the object (if it isn't one of the module's) -/
structure Entry (P : Program) (w : World) (K : PySem.W.Frag) (h : Heap) (a : Addr) (xs : List V) (H : Hp) : Prop where
  held : HOk P w H h
  sole : ∀ b u, H b = some u → b = a ∧ K.lookup a = none ∧ ∃ o ys, u = .frz o (.lst ys)
  fz : FzL K H a xs
theorem entry_ex {P : Program} {w : World} {K : PySem.W.Frag} {h : Heap} {a : Addr} {us : List Value} {ns : List Int} (inH : K.In h) (ha : h.get? a = some { cls := .type "list", data := .seq us.toArray }) (hi : IntsAre us ns) (hl : ns.length ≤ sizeLine) :
    ∃ H, Entry P w K h a (ns.map V.int) H := by
  have rel := vals_ints hi
  have same := hi.length
  cases e : K.lookup a with
  | none =>
    let u : HO := .frz { cls := .type "list", data := .seq us.toArray } (.lst (ns.map V.int))
    refine ⟨upd (fun _ => none) a u, ⟨fun b z hz => ?_, fun b z hz => ?_, Or.inl ⟨_, upd_same⟩⟩⟩
    · by_cases q : b = a
      · subst q
        rw [upd_same] at hz
        cases hz
        exact ⟨ha, by rw [List.length_map]; exact hl, us, _, rel, ha⟩
      · rw [upd_ne q] at hz; cases hz
    · by_cases q : b = a
      · subst q
        rw [upd_same] at hz
        cases hz
        exact ⟨rfl, e, _, _, rfl⟩
      · rw [upd_ne q] at hz; cases hz
  | some o =>
    have there := inH a o e
    rw [ha] at there
    cases there
    refine ⟨fun _ => none, ⟨fun b z hz => (by cases hz), fun b z hz => (by cases hz), Or.inr (Or.inr ⟨_, us.toArray, _, e, rfl, rfl, rfl, ?_, ?_⟩)⟩⟩
    · rw [List.size_toArray, same]; exact hl
    · simpa using rel
/-- the law called, from its promise -/
theorem top_call {P : Program} {w : World} {K : PySem.W.Frag} {mg mb : Str → Option Value} {k : Nat} {fa a : Addr} {fd : FuncData} {x : Str} {sp : Sp} {s1 : Shared} {us : List Value} {ns : List Int}
    (inH : K.In s1.heap) (gl : s1.heap.Ns mainGlobals mg) (bl : s1.heap.Ns builtinsNs mb) (bb : ∀ x : Str, x ≠ "__name__" → mb x = bootBuiltins x) (noL : s1.heap.NoLimit) (gn : s1.gens = #[])
    (ha : s1.heap.get? a = some { cls := .type "list", data := .seq us.toArray }) (hi : IntsAre us ns) (hl : ns.length ≤ sizeLine) (hk : k ≤ 60)
    (F : ∀ base : Heap, K.In base → base.Ns mainGlobals mg → FnG P w K mg base k fa fd [x] sp) (bind : ∀ (s : Shared) (u : Value), BindsTo s fd ⟨[u], []⟩ [(x, u)])
    (prom : ∀ H : Hp, FzL K H a (ns.map V.int) → sp [.ref a] H (fun v _ => v = .bl true) fun _ _ _ => False) :
    codeAny (model P w) callerA (.call (.ref fa) ⟨[.ref a], []⟩) (fun r s' => r = .ok (.ret (.bool true)) ∧ OldK s1.heap s'.heap ∧ s'.os = s1.os ∧ AllBare s'.gens) s1 := by
  obtain ⟨H, en⟩ := entry_ex (P := P) (w := w) inH ha hi hl
  let base := hidT s1.heap H
  have out : ∀ {b : Addr} {o : Obj}, s1.heap.get? b = some o → (∀ u, H b ≠ some u) → base.get? b = some o := fun {b o} e n => hidT_get e (by
    cases q : H b with
    | none => rfl
    | some u => exact absurd q (n u))
  have dict : ∀ {b : Addr} {m : Str → Option Value}, s1.heap.Ns b m → base.Ns b m := fun {b m} ⟨o, es, ep, e, d, z⟩ => ⟨o, es, ep, out e (fun u q => by
    obtain ⟨rfl, _⟩ := en.sole b u q
    rw [ha] at e
    cases e
    cases d), d, z⟩
  have inB : K.In base := fun b o e => out (inH b o e) fun u q => by
    obtain ⟨rfl, n, _⟩ := en.sole b u q
    rw [n] at e; cases e
  have lim : base.NoLimit := let ⟨mc, h1, h2⟩ := noL; ⟨mc, dict h1, h2⟩
  have modu : Mod K mg base := ⟨inB, dict gl, ⟨mb, dict bl, bb⟩, lim⟩
  have e0 : Env0 P w K mg base callerA [] s1 H := ⟨rfl, modu, fun _ _ e => of_hidT e, Nat.le_of_eq (hidT_size _ _), trivial, fun b hb => (by cases hb), en.held, .of_eq gn⟩
  have run := (F base inB (dict gl)).goes callerA [] s1 H ⟨[.ref a], []⟩ [.ref a] [.ref a] _ _ guards_top (room_top hk) e0 (bind s1 (.ref a)) (.cons rfl .nil) (prom H en.fz)
  refine codeAny_mono run fun r s' q => ?_
  match r, q with
  | .error e, ⟨_, _, _, _, _, _, _, _, _, _, _, _, bad⟩ => exact bad.elim
  | .ok (.ret u), ⟨v, H', os, bare, un, hok', rel, hv⟩ =>
    have hv' : v = .bl true := hv
    subst hv'
    have hu : u = Value.bool true := rel
    subst hu
    refine ⟨rfl, OldK.of_keep fun b o e => ?_, os, bare⟩
    cases z : H b with
    | none => exact un.keep b o e z (fun y => by cases y) (fun y => by cases y)
    | some c =>
      obtain ⟨_, _, ob, ys, rfl⟩ := en.sole b c z
      have h1 := (en.held b _ z).1
      have h2 := (hok' b _ (un.frzs b ob _ z)).1
      rw [e] at h1
      cases h1
      exact h2
/-- what k_head leaves, from the promise -/
theorem top_walk {l : PySem.W.OpenLaw} {n k : Nat} {q : Program} {loose : List Str} {XP : (Str → Option Value) → Heap → Prop} {YP : World → Heap → Prop} {d : DefRec} {K : Params → PySem.W.Frag} {sp : PySem.W.Frag → Sp} {x : Str}
    (hn : l.most = some n) (hn2 : n ≤ sizeLine) (hdf : d.params.defaults = []) (hk : k ≤ 60) (hY : ∀ (w : World) (h : Heap), YP w h → (K w.params).In h)
    (F : ∀ (w : World) (mg : Str → Option Value) (fa : Addr) (h : Heap), (K w.params).In h → h.Ns mainGlobals mg → mg d.name = some (.ref fa) →
      ∃ fd : FuncData, (∀ (s : Shared) (u : Value), BindsTo s fd ⟨[u], []⟩ [(x, u)]) ∧ ∀ base : Heap, (K w.params).In base → base.Ns mainGlobals mg → FnG l.prog w (K w.params) mg base k fa fd [x] (sp (K w.params)))
    (prom : ∀ (K : PySem.W.Frag) (H : Hp) (a : Addr) (ns : List Int), ns.length ≤ n → (∀ z ∈ ns, Builtin.Int.intBits z ≤ 1048576) → FzL K H a (ns.map V.int) → sp K [.ref a] H (fun v _ => v = .bl true) fun _ _ _ => False) :
    PySem.W.WalkO q loose XP YP l.row.toRowW d [] (fun f vs => PySem.call f vs) := by
  apply Att.attach_callB hn hdf
  intro w _ s1 mg mb fa _ _ _ _ a us ns G Y _ _ _ named script inz many bits gens
  have inH := hY w _ Y
  obtain ⟨fd, bind, fns⟩ := F w mg fa _ inH G.T.g named
  exact top_call inH G.T.g G.T.b G.T.builtins G.T.nolimit gens script inz (Nat.le_trans many hn2) hk fns bind fun H fz => prom _ H a ns many bits fz
end GV

set_option linter.all false
set_option maxHeartbeats 2000000
set_option maxRecDepth 100000
/-! GV, part i: a rule for each construct of the small language. -/
namespace GV
open PySem PySem.Spec PyProof.Rows L2

section
variable {X : Cx} {XR : XRT} {W : WX} {C : CallF} {a b c e : Expr} {es : List Expr} {pos : Pos} {ga gb gc g ge : G} {fa fb fc fr : Bool}

theorem weak {r : Rho → Sto → R D} (h : PE X e (tE X.K XR W true r)) (fr : Bool) : PE X e (tE X.K XR W fr r) := by
  refine PE.imp h fun σ H Q ⟨ι, S, ρ, hE, hS, q⟩ => ⟨ι, S, ρ, hE, hS, ?_⟩
  cases hr : r ρ S with
  | ok d S' => rw [hr] at q; exact fun v H' ι' e1 s1 rp => q v H' ι' e1 s1 ⟨rp.1, fun _ => rp.2 rfl⟩
  | exc k v S' => rw [hr] at q; exact q
  | no => rw [hr] at q; exact q
/-- an old value as the answer -/
theorem EndG.old {K : PySem.W.Frag} {ι : Ad} {H H0 : Hp} {σ : L2.St} {S : Sto} {d : D} {v : V} {Q : VK} (h : EndG K XR W ι H σ (repE K false H0) (.ok d S) Q) (st : StOk K H ι S) (r : Rp K H ι v d) : Q v H :=
  h v H ι (Ext.refl ι H) st ⟨r, fun q => by cases q⟩
theorem EndG.f {K : PySem.W.Frag} {ι : Ad} {H H0 H1 : Hp} {σ : L2.St} {r : R D} {Q : VK} (h : EndG K XR W ι H σ (repE K false H0) r Q) : EndG K XR W ι H σ (repE K false H1) r Q := by
  cases r with
  | ok d S => exact fun b H' ι' e s rp => h b H' ι' e s ⟨rp.1, fun q => by cases q⟩
  | exc c v S => exact h
  | no => exact h
/-! ### names, constants -/
theorem g_loc {i : Nat} {x : Str} (hN : X.N[i]? = some x) (hv : Vis X.env.scope x) (h1 : (x == ("__debug__" : Str)) = false) (h2 : (x == ("__classdict__" : Str)) = false) : PE X (.Name x pos) (tE X.K XR W false (ev C (.loc i))) := by
  refine PE.imp (pe_var hN hv h1 h2) fun σ H Q ⟨ι, S, ρ, hE, hS, q⟩ => ?_
  simp only [ev] at q
  split at q
  · rename_i d hd
    obtain ⟨v, hv, rv⟩ := hE.get i d hd
    exact ⟨v, hv, q.old hS rv⟩
  · exact q.elim
theorem g_cst {v : V} {d : D} (h : PE X e (tC v)) (r : ∀ H ι, Rp X.K H ι v d) : PE X e (tE X.K XR W false (ev C (.cst d))) :=
  PE.imp h fun σ H Q ⟨ι, S, ρ, hE, hS, q⟩ => EndG.old (show EndG X.K XR W ι H σ (repE X.K false H) (.ok d S) Q from q) hS (r H ι)
/-! ### operators -/
theorem g_bin (o : Bop) (ha : PE X a (tE X.K XR W fa (ev C ga))) (hb : PE X b (tE X.K XR W fb (ev C gb))) : PE X (.BinOp a (opOf o) b pos) (tE X.K XR W true (ev C (.bin o ga gb))) :=
  PE.imp (pe_op (op_bin o) ha hb) fun σ H Q h => two_in (bin_ok o) h
theorem g_neg (ha : PE X a (tE X.K XR W fa (ev C ga))) : PE X (.UnaryOp .USub a pos) (tE X.K XR W false (ev C (.neg ga))) := by
  refine PE.imp (pe_un un_neg ha) fun σ H Q ⟨ι, S, ρ, hE, hS, q⟩ => ⟨ι, S, ρ, hE, hS, (EndG.bind (show EndG _ _ _ _ _ _ _ ((ev C ga ρ S).bind _) _ from q)).imp fun v H1 ⟨ι1, S1, d, e1, s1, r1, q1⟩ => ?_⟩
  obtain ⟨r1, _⟩ := r1
  cases r1 with
  | int i => exact ⟨i, rfl, q1.old s1 (.int _)⟩
  | _ => exact q1.elim
theorem truth_ok {K : PySem.W.Frag} {H : Hp} {ι : Ad} {S : Sto} {x : V} {d : D} {k : Bool} (st : StOk K H ι S) (r : Rp K H ι x d) (h : truth S d = some k) : TruV K x H k := by
  have em : ∀ {vs : List V} {ds : List D}, RpL K H ι vs ds → (!ds.isEmpty) = !vs.isEmpty := fun h => by cases h <;> rfl
  cases r with
  | exo _ => cases h
  | non => simp only [truth, Option.some.injEq] at h; exact h.symm
  | bl b => simp only [truth, Option.some.injEq] at h; exact h.symm
  | int i => simp only [truth, Option.some.injEq] at h; exact h.symm
  | str z =>
    simp only [truth] at h
    split at h
    · rename_i hz
      cases h
      exact ⟨sz_ok hz, rfl⟩
    · cases h
  | tup h1 r1 => simp only [truth, Option.some.injEq] at h; exact .inr (.inl ⟨_, h1, by rw [← h, em r1]⟩)
  | lst h1 n r1 => simp only [truth, Option.some.injEq] at h; exact .inl ⟨_, SqL.of h1, by rw [← h, em r1]⟩
  | fz h1 r1 => simp only [truth, Option.some.injEq] at h; exact .inl ⟨_, h1.sq, by rw [← h, em r1]⟩
  | dk => simp [truth] at h
  | ref hi =>
    simp only [truth] at h
    split at h
    · rename_i ds e
      cases h
      obtain ⟨a', ha, c⟩ := st.at e
      rw [hi] at ha; cases ha
      cases c with
      | lst h1 r1 => exact .inl ⟨_, SqL.of h1, by rw [em r1]⟩
    · cases h
theorem g_not (ha : PE X a (tE X.K XR W fa (ev C ga))) : PE X (.UnaryOp .Not a pos) (tE X.K XR W false (ev C (.not ga))) := by
  refine PE.imp (pe_notT ha) fun σ H Q ⟨ι, S, ρ, hE, hS, q⟩ => ⟨ι, S, ρ, hE, hS, (EndG.bind (show EndG _ _ _ _ _ _ _ ((ev C ga ρ S).bind _) _ from q)).imp fun v H1 ⟨ι1, S1, d, e1, s1, r1, q1⟩ => ?_⟩
  cases hk : truth S1 d with
  | none => rw [hk] at q1; exact q1.elim
  | some k =>
    rw [hk] at q1
    exact ⟨k, truth_ok s1 r1.1 hk, EndG.old (show EndG X.K XR W ι1 H1 σ (repE X.K false H) (.ok (.bl (!k)) S1) Q from q1) s1 (.bl _)⟩
theorem g_and {rest : List Expr} (ha : PE X a (tE X.K XR W fa (ev C ga))) (hb : PE X (.BoolOp .And (b :: rest) pos) (tE X.K XR W false (ev C gb))) : PE X (.BoolOp .And (a :: b :: rest) pos) (tE X.K XR W false (ev C (.and ga gb))) := by
  refine PE.imp (pe_andT ha hb) fun σ H Q ⟨ι, S, ρ, hE, hS, q⟩ => ⟨ι, S, ρ, hE, hS, (EndG.bind (show EndG _ _ _ _ _ _ _ ((ev C ga ρ S).bind _) _ from q)).imp fun v H1 ⟨ι1, S1, d, e1, s1, r1, q1⟩ => ?_⟩
  cases hk : truth S1 d with
  | none => rw [hk] at q1; exact q1.elim
  | some k =>
    rw [hk] at q1
    refine ⟨k, truth_ok s1 r1.1 hk, ?_⟩
    cases k with
    | true => exact ⟨ι1, S1, ρ, hE.ext e1, s1, EndG.f q1⟩
    | false => exact EndG.old (show EndG X.K XR W ι1 H1 σ (repE X.K false H) (.ok d S1) Q from q1) s1 r1.1
theorem g_or {rest : List Expr} (ha : PE X a (tE X.K XR W fa (ev C ga))) (hb : PE X (.BoolOp .Or (b :: rest) pos) (tE X.K XR W false (ev C gb))) : PE X (.BoolOp .Or (a :: b :: rest) pos) (tE X.K XR W false (ev C (.or ga gb))) := by
  refine PE.imp (pe_orT ha hb) fun σ H Q ⟨ι, S, ρ, hE, hS, q⟩ => ⟨ι, S, ρ, hE, hS, (EndG.bind (show EndG _ _ _ _ _ _ _ ((ev C ga ρ S).bind _) _ from q)).imp fun v H1 ⟨ι1, S1, d, e1, s1, r1, q1⟩ => ?_⟩
  cases hk : truth S1 d with
  | none => rw [hk] at q1; exact q1.elim
  | some k =>
    rw [hk] at q1
    refine ⟨k, truth_ok s1 r1.1 hk, ?_⟩
    cases k with
    | false => exact ⟨ι1, S1, ρ, hE.ext e1, s1, EndG.f q1⟩
    | true => exact EndG.old (show EndG X.K XR W ι1 H1 σ (repE X.K false H) (.ok d S1) Q from q1) s1 r1.1
theorem g_ife (hc : PT X c (tT X.K XR W (ev C gc))) (ha : PE X a (tE X.K XR W false (ev C ga))) (hb : PE X b (tE X.K XR W false (ev C gb))) : PE X (.IfExp c a b pos) (tE X.K XR W false (ev C (.ife gc ga gb))) := by
  refine PE.imp (pe_ifExp hc ha hb) fun σ H Q ⟨ι, S, ρ, hE, hS, q⟩ => ⟨ι, S, ρ, hE, hS, (EndG.bind (show EndG _ _ _ _ _ _ _ (((ev C gc ρ S).bind _).bind _) _ from q)).imp fun k H1 ⟨ι1, S1, k', e1, s1, r1, q1⟩ => ?_⟩
  subst r1
  cases k with
  | true => exact ⟨ι1, S1, ρ, hE.ext e1, s1, EndG.f q1⟩
  | false => exact ⟨ι1, S1, ρ, hE.ext e1, s1, EndG.f q1⟩
/-! ### tests -/
theorem t_val (ha : PE X a (tE X.K XR W fa (ev C ga))) (he : ∀ whole, isTrue a X.env whole = (do let v ← whole; standAt a.pos; holding [v] (truthy v))) : PT X a (tT X.K XR W (ev C ga)) := by
  refine PT.imp (pt_truth ha he) fun σ H Q ⟨ι, S, ρ, hE, hS, q⟩ => ⟨ι, S, ρ, hE, hS, (EndG.bind q).imp fun v H1 ⟨ι1, S1, d, e1, s1, r1, q1⟩ => ?_⟩
  obtain ⟨k, hk, q1⟩ := q1.of
  exact ⟨k, truth_ok s1 r1.1 hk, q1 k H1 ι1 (Ext.refl _ _) s1 rfl⟩
theorem bind_assoc_R {α β gm : Type} (r : R α) (f : α → Sto → R β) (g : β → Sto → R gm) : (r.bind f).bind g = r.bind fun a S => (f a S).bind g := by cases r <;> rfl
theorem t_not (ha : PT X a (tT X.K XR W (ev C ga))) : PT X (.UnaryOp .Not a pos) (tT X.K XR W (ev C (.not ga))) := by
  refine PT.imp (pt_not ha) fun σ H Q ⟨ι, S, ρ, hE, hS, q⟩ => ⟨ι, S, ρ, hE, hS, ?_⟩
  simp only [ev, bind_assoc_R] at q
  rw [← bind_assoc_R] at q
  refine (EndG.bind q).imp fun k H1 ⟨ι1, S1, k', e1, s1, r1, q1⟩ => ?_
  subst r1
  exact q1 _ H1 ι1 (Ext.refl _ _) s1 rfl
theorem w_one_and (ha : PT X a (tT X.K XR W (ev C ga))) : PW X (.BoolOp .And [a] pos) (tT X.K XR W (ev C ga)) := pw_and1 ha
theorem w_one_or (ha : PT X a (tT X.K XR W (ev C ga))) : PW X (.BoolOp .Or [a] pos) (tT X.K XR W (ev C ga)) := pw_or1 ha
theorem truth_bl (S : Sto) (k : Bool) : truth S (.bl k) = some k := rfl
theorem w_and {rest : List Expr} (ha : PT X a (tT X.K XR W (ev C ga))) (hb : PW X (.BoolOp .And (b :: rest) pos) (tT X.K XR W (ev C gb))) : PW X (.BoolOp .And (a :: b :: rest) pos) (tT X.K XR W (ev C (.and ga gb))) := by
  refine PW.imp (pw_and ha hb) fun σ H Q ⟨ι, S, ρ, hE, hS, q⟩ => ⟨ι, S, ρ, hE, hS, ?_⟩
  simp only [ev] at q
  cases hr : ev C ga ρ S with
  | no => rw [hr] at q; exact q
  | exc c v S1 => rw [hr] at q; exact q
  | ok d S1 =>
    rw [hr] at q
    simp only [R.bind_ok] at q ⊢
    cases hk : truth S1 d with
    | none => rw [hk] at q; exact q
    | some k =>
      rw [hk] at q
      intro k' H1 ι1 e1 s1 ek
      subst ek
      cases k' with
      | true => exact ⟨ι1, S1, ρ, hE.ext e1, s1, EndG.shift q e1⟩
      | false =>
        simp only [R.of_some, R.bind_ok, Bool.false_eq_true, if_false, hk] at q
        exact q false H1 ι1 e1 s1 rfl
theorem w_or {rest : List Expr} (ha : PT X a (tT X.K XR W (ev C ga))) (hb : PW X (.BoolOp .Or (b :: rest) pos) (tT X.K XR W (ev C gb))) : PW X (.BoolOp .Or (a :: b :: rest) pos) (tT X.K XR W (ev C (.or ga gb))) := by
  refine PW.imp (pw_or ha hb) fun σ H Q ⟨ι, S, ρ, hE, hS, q⟩ => ⟨ι, S, ρ, hE, hS, ?_⟩
  simp only [ev] at q
  cases hr : ev C ga ρ S with
  | no => rw [hr] at q; exact q
  | exc c v S1 => rw [hr] at q; exact q
  | ok d S1 =>
    rw [hr] at q
    simp only [R.bind_ok] at q ⊢
    cases hk : truth S1 d with
    | none => rw [hk] at q; exact q
    | some k =>
      rw [hk] at q
      intro k' H1 ι1 e1 s1 ek
      subst ek
      cases k' with
      | false => exact ⟨ι1, S1, ρ, hE.ext e1, s1, EndG.shift q e1⟩
      | true =>
        simp only [R.of_some, R.bind_ok, if_true, hk] at q
        exact q true H1 ι1 e1 s1 rfl
/-! ### comparisons -/
theorem R_of_map {α β : Type} (S : Sto) (o : Option α) (f : α → β) : ((R.of S o).bind fun a S' => R.ok (f a) S') = R.of S (o.map f) := by cases o <;> rfl
theorem cmp_two {r : Rho → Sto → R D} (o : Cop) (ra rb : Rho → Sto → R D) (h : ∀ ρ S, r ρ S = (ra ρ S).bind fun x S1 => (rb ρ S1).bind fun y S2 => (R.of S2 (cmp S2 o x y)).bind fun k S3 => .ok (.bl k) S3) {σ : L2.St} {H : Hp} {Q : VK}
    (q : tE X.K XR W true r σ H Q) : tOp (rCmp X.K o) (tE X.K XR W fa ra) (tE X.K XR W fb rb) σ H Q := by
  obtain ⟨ι, S, ρ, hE, hS, q⟩ := q
  rw [h] at q
  simp only [R_of_map] at q
  exact two_in (cmp_ok o) ⟨ι, S, ρ, hE, hS, q⟩
theorem g_cmp (hu : X.A.units + 64 < cLine) (o : Cop) (ha : PE X a (tE X.K XR W fa (ev C ga))) (hb : PE X b (tE X.K XR W fb (ev C gb))) (hm : behindInMarks (copOf o) b = false) : PE X (.Compare a [copOf o] [b] pos) (tE X.K XR W true (ev C (.cmp o ga gb))) :=
  PE.imp (pe_cmpR (op_cmp hu o) ha hb hm) fun σ H Q q => cmp_two o _ _ (fun ρ S => rfl) q
theorem t_of_bl {t : TE} {r : Rho → Sto → R D} (hp : PT X e (tTest t)) (hi : ∀ σ H Q, tE X.K XR W true r σ H Q → t σ H Q) (hb : ∀ ρ S d S', r ρ S = .ok d S' → ∃ k, d = .bl k) : PT X e (tT X.K XR W r) := by
  refine PT.imp hp fun σ H Q ⟨ι, S, ρ, hE, hS, q⟩ => hi σ H _ ⟨ι, S, ρ, hE, hS, ?_⟩
  cases hr : r ρ S with
  | no => rw [hr] at q; exact q
  | exc c v S1 => rw [hr] at q; exact q
  | ok d S1 =>
    rw [hr] at q
    obtain ⟨k, rfl⟩ := hb ρ S d S1 hr
    intro v H1 ι1 e1 s1 r1
    obtain ⟨r1, _⟩ := r1
    cases r1
    exact ⟨k, rfl, q k H1 ι1 e1 s1 rfl⟩
theorem ok_bind {α β : Type} {r : R α} {f : α → Sto → R β} {b : β} {S' : Sto} (h : r.bind f = .ok b S') : ∃ a S1, r = .ok a S1 ∧ f a S1 = .ok b S' := by
  cases r with
  | ok a S1 => exact ⟨a, S1, rfl, h⟩
  | exc => cases h
  | no => cases h
theorem t_cmp (hu : X.A.units + 64 < cLine) (o : Cop) (ha : PE X a (tE X.K XR W fa (ev C ga))) (hb : PE X b (tE X.K XR W fb (ev C gb))) (hm : behindInMarks (copOf o) b = false) : PT X (.Compare a [copOf o] [b] pos) (tT X.K XR W (ev C (.cmp o ga gb))) :=
  t_of_bl (pt_cmpR (op_cmp hu o) ha hb hm) (fun σ H Q q => cmp_two o _ _ (fun ρ S => rfl) q) fun ρ S d S' h => by
    simp only [ev] at h
    obtain ⟨x, S1, _, h⟩ := ok_bind h
    obtain ⟨y, S2, _, h⟩ := ok_bind h
    obtain ⟨k, S3, _, h⟩ := ok_bind h
    cases h
    exact ⟨k, rfl⟩
theorem chain_in (o p : Cop) {σ : L2.St} {H : Hp} {Q : VK} (q : tE X.K XR W true (ev C (.chain o p ga gb gc)) σ H Q) :
    tChain (rCmp X.K o) (rCmp X.K p) (tE X.K XR W fa (ev C ga)) (tE X.K XR W fb (ev C gb)) (tE X.K XR W fc (ev C gc)) σ H Q := by
  obtain ⟨ι, S, ρ, hE, hS, q⟩ := q
  simp only [ev, chn] at q
  refine ⟨ι, S, ρ, hE, hS, (EndG.bind q).imp fun x H1 ⟨ι1, S1, dx, e1, s1, r1, q1⟩ => ?_⟩
  refine ⟨ι1, S1, ρ, hE.ext e1, s1, (EndG.bind q1).imp fun y H2 ⟨ι2, S2, dy, e2, s2, r2, q2⟩ => ?_⟩
  cases hk : cmp S2 o dx dy with
  | none => rw [hk] at q2; exact q2.elim
  | some k =>
    rw [hk] at q2
    refine cmp_ok o s2 (r1.1.ext e2) r2.1 (show cmpSem o S2 dx dy = some (.bl k) by rw [cmpSem, hk]; rfl) fun v H3 e3 s3 rv _ => ?_
    cases rv
    refine ⟨k, rfl, ?_⟩
    simp only [R.of_some, R.bind_ok] at q2
    cases k with
    | false => exact EndG.shift q2 e3 _ H3 ι2 (Ext.refl _ _) s3 ⟨.bl _, fun _ => trivial⟩
    | true =>
      simp only [if_true] at q2 ⊢
      refine ⟨ι2, S2, ρ, (hE.ext e1).ext (e2.trans e3), s3, (EndG.bind (EndG.shift q2 e3)).imp fun z H4 ⟨ι4, S4, dz, e4, s4, r4, q4⟩ => ?_⟩
      rw [R_of_map] at q4
      obtain ⟨d, hd, q4⟩ := q4.of
      exact cmp_ok p s4 ((r2.1.ext e3).ext e4) r4.1 hd fun v H5 e5 s5 rv fv => q4 v H5 ι4 e5 s5 ⟨rv, fun _ => Frs.back (((e1.trans e2).trans e3).trans e4) fv⟩
theorem g_chain (hu : X.A.units + 64 < cLine) (o p : Cop) (ha : PE X a (tE X.K XR W fa (ev C ga))) (hb : PE X b (tE X.K XR W fb (ev C gb))) (hc : PE X c (tE X.K XR W fc (ev C gc))) (hm : lastMarks [copOf o, copOf p] [b, c] = false) :
    PE X (.Compare a [copOf o, copOf p] [b, c] pos) (tE X.K XR W true (ev C (.chain o p ga gb gc))) :=
  PE.imp (pe_chain (op_cmp hu o) (op_cmp hu p) ha hb hc hm) fun σ H Q q => chain_in o p q
theorem t_chain (hu : X.A.units + 64 < cLine) (o p : Cop) (ha : PE X a (tE X.K XR W fa (ev C ga))) (hb : PE X b (tE X.K XR W fb (ev C gb))) (hc : PE X c (tE X.K XR W fc (ev C gc))) (hm : lastMarks [copOf o, copOf p] [b, c] = false) :
    PT X (.Compare a [copOf o, copOf p] [b, c] pos) (tT X.K XR W (ev C (.chain o p ga gb gc))) :=
  t_of_bl (pt_chain (op_cmp hu o) (op_cmp hu p) ha hb hc hm) (fun σ H Q q => chain_in o p q) fun ρ S d S' h => by
    simp only [ev, chn] at h
    obtain ⟨x, S1, _, h⟩ := ok_bind h
    obtain ⟨y, S2, _, h⟩ := ok_bind h
    obtain ⟨k, S3, _, h⟩ := ok_bind h
    split at h
    · obtain ⟨x, S4, _, h⟩ := ok_bind h
      obtain ⟨k, S5, _, h⟩ := ok_bind h
      cases h
      exact ⟨k, rfl⟩
    · cases h
      exact ⟨_, rfl⟩
/-! ### displays -/
theorem a_nil : PA X [] (tA X.K XR W (ev C .nil)) :=
  PA.imp pa_nil fun σ H Q ⟨ι, S, ρ, hE, hS, q⟩ => q [] H ι (Ext.refl _ _) hS ⟨[], rfl, .nil⟩
theorem a_cons (ha : PE X e (tE X.K XR W fa (ev C ga))) (hr : PA X es (tA X.K XR W (ev C gb))) (hs : starEach (e :: es) X.env = (false, eval e X.env) :: starEach es X.env) : PA X (e :: es) (tA X.K XR W (ev C (.cons ga gb))) := by
  refine PA.imp (pa_cons ha hr hs) fun σ H Q ⟨ι, S, ρ, hE, hS, q⟩ => ⟨ι, S, ρ, hE, hS, (EndG.bind (show EndG _ _ _ _ _ _ _ ((ev C ga ρ S).bind _) _ from q)).imp fun x H1 ⟨ι1, S1, dx, e1, s1, r1, q1⟩ => ?_⟩
  refine ⟨ι1, S1, ρ, hE.ext e1, s1, (EndG.bind q1).imp fun ys H2 ⟨ι2, S2, dy, e2, s2, ⟨ds, ed, r2⟩, q2⟩ => ?_⟩
  subst ed
  exact q2 _ H2 ι2 (Ext.refl _ _) s2 ⟨_, rfl, .cons (r1.1.ext e2) r2⟩
theorem g_tup {k : Nat} (h : PA X es (tA X.K XR W (ev C ge))) : PE X (.Tuple es k pos) (tE X.K XR W true (ev C (.tup ge))) := by
  refine PE.imp (pe_tup h) fun σ H Q ⟨ι, S, ρ, hE, hS, q⟩ => ⟨ι, S, ρ, hE, hS, (EndG.bind (show EndG _ _ _ _ _ _ _ ((ev C ge ρ S).bind _) _ from q)).imp fun xs H1 ⟨ι1, S1, d, e1, s1, ⟨ds, ed, r1⟩, q1⟩ => ?_⟩
  subst ed
  replace q1 : EndG X.K XR W ι1 H1 σ (repE X.K true H) (if szOk ds.length then R.ok (.tup ds) S1 else .no) Q := q1
  by_cases hz : szOk ds.length
  · rw [if_pos hz] at q1
    exact ⟨by rw [r1.length]; exact sz_ok hz, new_tup s1 r1 fun v H2 e2 s2 rv fv => q1 v H2 ι1 e2 s2 ⟨rv, fun _ => Frs.back e1 fv⟩⟩
  · rw [if_neg hz] at q1
    exact q1.elim
theorem g_lst (h : PA X es (tA X.K XR W (ev C ge))) : PE X (.List es pos) (tE X.K XR W true (ev C (.lst ge))) := by
  refine PE.imp (pe_lst h) fun σ H Q ⟨ι, S, ρ, hE, hS, q⟩ => ⟨ι, S, ρ, hE, hS, (EndG.bind (show EndG _ _ _ _ _ _ _ ((ev C ge ρ S).bind _) _ from q)).imp fun xs H1 ⟨ι1, S1, d, e1, s1, ⟨ds, ed, r1⟩, q1⟩ => ?_⟩
  subst ed
  replace q1 : EndG X.K XR W ι1 H1 σ (repE X.K true H) (if szOk ds.length then R.ok (.lst ds) S1 else .no) Q := q1
  by_cases hz : szOk ds.length
  · rw [if_pos hz] at q1
    exact ⟨by rw [r1.length]; exact sz_ok hz, new_lst s1 r1 fun v H2 e2 s2 rv fv => q1 v H2 ι1 e2 s2 ⟨rv, fun _ => Frs.back e1 fv⟩⟩
  · rw [if_neg hz] at q1
    exact q1.elim
/-- a new list becomes a cell -/
theorem alc_in {K : PySem.W.Frag} : ∀ σ H Q, tE K XR W false (ev C (.alc ga)) σ H Q → tE K XR W true (ev C ga) σ H Q := by
  intro σ H Q ⟨ι, S, ρ, hE, hS, q⟩
  refine ⟨ι, S, ρ, hE, hS, ?_⟩
  simp only [ev] at q
  cases hr : ev C ga ρ S with
  | no => rw [hr] at q; exact q
  | exc c v S1 => rw [hr] at q; exact q
  | ok d S1 =>
    rw [hr] at q
    cases d with
    | lst ds =>
      intro v H1 ι1 e1 s1 r1
      obtain ⟨p, xs, rfl, hH, out, hp, rl, s0⟩ := r1.2 rfl
      have sub : Sub (ι1.gh p) ι1 := ⟨rfl, fun a ha => List.mem_cons_of_mem _ ha⟩
      refine q _ _ (ι1 ++ [p]) ?_ (s0.gc List.mem_cons_self sub out.2 hp rl) ⟨.ref ?_, fun q => by cases q⟩
      · obtain ⟨l, m, hc, hg, hl, hm⟩ := e1.more
        refine ⟨⟨l ++ [p], m, by rw [Ad.app_c, hc, List.append_assoc], hg, fun b hb => ?_, hm⟩, e1.keep, e1.tups, e1.frzs, e1.dom⟩
        rcases List.mem_append.mp hb with hb | hb
        · exact hl b hb
        · simp at hb; subst hb; exact hH
      · rw [Ad.app_c, ← s1.len]
        simp
    | _ => exact q.elim
theorem g_alc (h : PE X e (tE X.K XR W true (ev C ga))) : PE X e (tE X.K XR W false (ev C (.alc ga))) := PE.imp h alc_in
end
end GV

set_option linter.all false
set_option maxHeartbeats 2000000
set_option maxRecDepth 100000
/-! GV, part u: a tuple backwards. -/
namespace GV
open PySem PySem.Spec PyProof.Rows L2
section
variable {prog : Program} {w : World} {A : Around} {E : Value → Shared → Prop} {s : Shared}
theorem adjust_rev (n : Nat) : Builtin.Slice.sliceAdjust none none (-1) (n : Int) = ((n : Int) - 1, -1) := by
  unfold Builtin.Slice.sliceAdjust
  simp
theorem places_rev (n : Nat) : Builtin.Slice.slicePlaces ((n : Int) - 1) (-1) (-1) = n := by
  unfold Builtin.Slice.slicePlaces
  simp
  omega
theorem applied_rev {sl : Addr} {vl vu vs : Value} {n : Nat} {Q : Int × Int × Nat → Shared → Prop} (hs : s.heap.IsSliceOf sl vl vu vs) (pl : IsPart vl none) (pu : IsPart vu none) (ps : IsPart vs (some (-1)))
    (h : Q ((n : Int) - 1, -1, n) s) : wpAny (model prog w) A (Builtin.Slice.sliceApplied (.ref sl) (pure (n : Int))) Q E s := by
  obtain ⟨os, hos, hcs, hds⟩ := id hs
  unfold Builtin.Slice.sliceApplied Builtin.Slice.sliceFields
  refine wpAny_bind (wpAny_bind (wpAny_field hos hds (x := vl) rfl (wpAny_bind (wpAny_field hos hds (x := vu) rfl (wpAny_bind (wpAny_field hos hds (x := vs) rfl (wpAny_pure ?_)))))))
  refine wpAny_bind (HT.slicePart_ ps ?_)
  show wpAny _ _ (if ((-1 : Int) == 0) = true then _ else _) _ _ s
  rw [if_neg (by decide)]
  refine wpAny_bind (HT.slicePart_ pl (wpAny_bind (HT.slicePart_ pu (wpAny_bind (wpAny_pure ?_)))))
  show wpAny _ _ (match Builtin.Slice.sliceAdjust none none (-1) (n : Int) with | (lo, hi) => pure (lo, (-1 : Int), Builtin.Slice.slicePlaces lo hi (-1))) _ _ s
  rw [adjust_rev n]
  show wpAny _ _ (pure ((n : Int) - 1, (-1 : Int), Builtin.Slice.slicePlaces ((n : Int) - 1) (-1) (-1))) _ _ s
  rw [places_rev]
  exact wpAny_pure h
theorem fm_congr {α β : Type} {f g : α → Option β} : ∀ {l : List α}, (∀ a ∈ l, f a = g a) → l.filterMap f = l.filterMap g
  | [], _ => rfl
  | a :: l, h => by
    rw [List.filterMap_cons, List.filterMap_cons, h a List.mem_cons_self, fm_congr fun b hb => h b (List.mem_cons_of_mem _ hb)]
theorem pick_rev (xs : Array Value) : ((List.range xs.size).filterMap fun (m : Nat) => xs[(((xs.size : Int) - 1) + (m : Int) * (-1)).toNat]?).toArray = xs.toList.reverse.toArray := by
  congr 1
  refine List.ext_getElem? fun i => ?_
  have e : (List.range xs.size).filterMap (fun (m : Nat) => xs[(((xs.size : Int) - 1) + (m : Int) * (-1)).toNat]?) = (List.range xs.size).map fun m => xs.toList[xs.size - 1 - m]?.getD .none := by
    rw [← List.filterMap_eq_map]
    refine fm_congr fun m hm => ?_
    have hm' : m < xs.size := List.mem_range.mp hm
    have e1 : (((xs.size : Int) - 1) + (m : Int) * (-1)).toNat = xs.size - 1 - m := by omega
    rw [e1]
    have : xs.size - 1 - m < xs.size := by omega
    simp [this]
  rw [e, List.getElem?_map]
  by_cases hi : i < xs.size
  · rw [List.getElem?_range hi, List.getElem?_reverse (by simpa using hi)]
    have : xs.size - 1 - i < xs.size := by omega
    simp [this]
  · rw [List.getElem?_eq_none (by simpa using hi), List.getElem?_eq_none (by simpa using hi)]
    rfl
theorem tuple_rev {t sl : Addr} {items : Array Value} {vl vu vs : Value} {Q : Value → Shared → Prop} (ht : IsTup s.heap t items) (hs : s.heap.IsSliceOf sl vl vu vs) (pl : IsPart vl none) (pu : IsPart vu none) (ps : IsPart vs (some (-1)))
    (h : Q (.ref s.heap.objs.size) { s with heap := s.heap.push { cls := .type "tuple", data := .seq items.toList.reverse.toArray } })
    (hsz : items.size ≤ sizeLine) : wpAny (model prog w) A (getItem (.ref t) (.ref sl)) Q E s := by
  have small : sizeOk (.seq items.toList.reverse.toArray) := by
    show items.toList.reverse.toArray.size ≤ sizeLine
    simpa using hsz
  obtain ⟨os, hos, hcs, hds⟩ := id hs
  have hTs : s.TypeIs (.ref sl) "slice" := ⟨os, hos, hcs⟩
  unfold getItem
  try with_reducible refine wpAny_holding ?_
  first | refine wpAny_bind (wpAny_pure ?_) | skip
  refine wpAny_bind (wpAny_sequenceKey ht.typeIs (by decide) ?_)
  refine wpAny_bind (wpAny_callSpecial?_slot (name := Str.ofString "__getitem__") ht.typeIs PyProof.Rows.slot_tuple_getitem
    (wpAny_call_entry PyProof.Rows.slot_tuple_getitem ht.typeIs entry_tuple_getitem ?_ (args_tuple_getitem _ _)))
  show wpAny _ _ (Builtin.Tuple.tupleItemsOf (.ref t) >>= _) _ _ s
  refine wpAny_bind (tupleItemsOf_ ht ?_)
  refine wpAny_bind (wpAny_typeOf hTs ?_)
  rw [if_pos (by decide)]
  refine wpAny_bind (applied_rev (n := items.size) hs pl pu ps ?_)
  show wpAny _ _ (if (((items.size : Int) - 1) == 0 && (-1 : Int) == 1 && items.size == items.size) = true then _ else _) _ _ s
  rw [if_neg (by simp), pick_rev]
  first
    | exact wpAny_bind (m := Builtin.Tuple.tupleExact _) (wpAny_newObj_type (wpAny_pure ⟨_, rfl, wpAny_pure h⟩) small)
    | exact wpAny_bind (m := Builtin.Tuple.tupleExact _) (wpAny_newObj_type (wpAny_bind (wpAny_pure (wpAny_pure ⟨_, rfl, wpAny_pure h⟩))) small)
    | exact wpAny_bind (wpAny_bind (m := Builtin.Tuple.tupleExact _) (wpAny_newObj_type (wpAny_pure (wpAny_pure ⟨_, rfl, wpAny_pure h⟩)) small))
    | exact wpAny_bind (wpAny_bind (m := Builtin.Tuple.tupleExact _) (wpAny_newObj_type (wpAny_pure ⟨_, rfl, wpAny_pure h⟩) small))
end
/-- v[::-1], v a list or a tuple -/
def tRevA (K : PySem.W.Frag) (te : TE) : TE := fun σ H Q => te σ H fun x H1 => ∃ a xs, x = .ref a ∧ ((SqL K H1 a xs ∧ ∀ p, H1 p = none → Q (.ref p) (upd H1 p (.lst xs.reverse))) ∨ (SqT K H1 a xs ∧ ∀ p, H1 p = none → Q (.ref p) (upd H1 p (.tup xs.reverse))))
theorem pe_revA {X : Cx} {e : Expr} {te : TE} {k : Nat} {p1 p2 p3 pos : Pos} (he : PE X e te) : PE X (.Subscript e (.Slice none none (some (.UnaryOp .USub (.Constant (.int 1) k p1) p2)) p3) pos) (tRevA X.K te) := by
  refine ⟨fun pins s σ H Q I h => Subscript_ (thn (he.run pins s σ H _ I h) fun v s1 ⟨x, H1, I1, r1, a, xs, ex, q⟩ => ?_)⟩
  subst ex
  cases r1
  have step : PO X (some (.UnaryOp .USub (.Constant (.int 1) k p1) p2)) (tPart (tUn (rU fun i => .int (-i)) (tC (.int 1)))) := po_some (pe_un un_neg pe_int)
  refine wpAny_Slice (thn (po_none.run pins s1 σ H1 (fun o H2 => o = none ∧ H2 = H1) I1 ⟨rfl, rfl⟩) fun vl s2 ⟨l, H2, I2, pl, el, e2⟩ => ?_)
  subst el e2
  refine thn (po_none.run pins s2 σ H2 (fun o H3 => o = none ∧ H3 = H2) I2 ⟨rfl, rfl⟩) fun vu s3 ⟨u, H3, I3, pu, eu, e3⟩ => ?_
  subst eu e3
  refine thn (step.run pins s3 σ H3 (fun o H4 => o = some (-1) ∧ H4 = H3) I3 ⟨1, rfl, -1, rfl, rfl, rfl⟩) fun vs s4 ⟨o, H4, I4, ps, eo, e4⟩ => ?_
  subst eo e4
  have I5 : Inv X pins σ H4 { s4 with heap := s4.heap.push { cls := .type "slice", data := .fields #[vl, vu, vs] } } := I4.kept (t' := s4.toks) fun b ob q => Heap.get?_push_of_some _ q
  have fresh := I5.hok.fresh (Nat.le_refl _)
  show wpAny (model X.prog X.w) X.A (subscriptTail e (.Slice none none (some (.UnaryOp .USub (.Constant (.int 1) k p1) p2)) p3) (.ref a) (.ref s4.heap.objs.size)) (EP X pins σ Q) X.xe { s4 with heap := s4.heap.push { cls := .type "slice", data := .fields #[vl, vu, vs] } }
  rcases q with ⟨hx, q⟩ | ⟨hx, q⟩
  · obtain ⟨its, r, ht, hz⟩ := I5.list hx
    have many := r.length
    refine tail_any (ops := [.ref a, .ref s4.heap.objs.size]) ht.isList.typeIs (PySem.slot_list_getitem.lookup) ?_ (by with_unfolding_all rfl)
    refine wpAny_getItem_list_slice ht.isList (Heap.IsSliceOf.new _ vl vu vs) pl pu ps (by decide) ?_ (by rw [List.size_toArray]; omega)
    rw [PySem.W.krv_pick]
    exact ⟨.ref _, _, I5.laid (t' := s4.toks) (o := .lst xs.reverse) (fun b ob q => Heap.get?_push_of_some _ q) (Nat.le_refl _) ⟨by rw [List.length_reverse]; exact hz, _, 0, r.reverse, Heap.get?_push_size _ rfl⟩, rfl, q _ fresh⟩
  · obtain ⟨its, r, ht, hz⟩ := I5.tuple hx
    have many := r.length
    refine tail_any (ops := [.ref a, .ref s4.heap.objs.size]) ht.typeIs (PyProof.Rows.slot_tuple_getitem.lookup) ?_ (by with_unfolding_all rfl)
    refine tuple_rev ht (Heap.IsSliceOf.new _ vl vu vs) pl pu ps ?_ (by rw [List.size_toArray]; omega)
    exact ⟨.ref _, _, I5.laid (t' := s4.toks) (o := .tup xs.reverse) (fun b ob q => Heap.get?_push_of_some _ q) (Nat.le_refl _) ⟨by rw [List.length_reverse]; exact hz, _, r.reverse, IsTup.new _ _⟩, rfl, q _ fresh⟩
end GV

set_option linter.all false
set_option maxHeartbeats 2000000
set_option maxRecDepth 100000
/-! GV, part j: subscripts, built-ins, methods, dicts, calls of defs. -/
namespace GV
open PySem PySem.Spec PyProof.Rows L2

section
variable {X : Cx} {XR : XRT} {W : WX} {C : CallF} {a b c e : Expr} {es : List Expr} {pos p2 : Pos} {ga gb gc g ge : G} {fa fb fc fr : Bool}
theorem g_idx (hu : X.A.units + 64 < cLine) (ha : PE X a (tE X.K XR W fa (ev C ga))) (hb : PE X b (tE X.K XR W fb (ev C gb))) (hs : PlainIx b) : PE X (.Subscript a b pos) (tE X.K XR W false (ev C (.idx ga gb))) := by
  refine PE.imp (pe_ix (ix_all hu) ha hb hs) fun σ H Q ⟨ι, S, ρ, hE, hS, q⟩ => ⟨ι, S, ρ, hE, hS, (EndG.bind (show EndG _ _ _ _ _ _ _ ((ev C ga ρ S).bind _) _ from q)).imp fun x H1 ⟨ι1, S1, dx, e1, s1, r1, q1⟩ => ?_⟩
  refine ⟨ι1, S1, ρ, hE.ext e1, s1, (EndG.bind q1).imp fun y H2 ⟨ι2, S2, dy, e2, s2, r2, q2⟩ => ?_⟩
  obtain ⟨d, hd, q2⟩ := q2.of
  exact idx_ok s2 (r1.1.ext e2) r2.1 hd fun v rv => q2.old s2 rv
/-! ### slices -/
theorem sl_end {ι ι1 ι2 : Ad} {H H1 H2 : Hp} {S2 : Sto} {σ : L2.St} {x : V} {dx : D} {lo hi : Option Int} {Q : VK} (e1 : Ext ι H ι1 H1) (e2 : Ext ι1 H1 ι2 H2) (s2 : StOk X.K H2 ι2 S2) (r1 : Rp X.K H1 ι1 x dx)
    (q : EndG X.K XR W ι2 H2 σ (repE X.K true H) (R.of S2 (slice S2 dx lo hi)) Q) : rSlX X.K x lo hi H2 Q := by
  obtain ⟨d, hd, q⟩ := q.of
  exact slice_ok s2 (r1.ext e2) hd fun v H' e3 s3 rv fv => q v H' ι2 e3 s3 ⟨rv, fun _ => Frs.back (e1.trans e2) fv⟩
theorem part_in {ι : Ad} {S : Sto} {ρ : Rho} {H : Hp} {σ : L2.St} {K : PySem.W.Frag} {Q : Option Int → Hp → Prop} {f : D → Sto → R D} {QQ : VK} {rep : V → D → Hp → Ad → Sto → Prop} (hE : EnvOk K H ι σ ρ) (hS : StOk K H ι S)
    (q : EndG K XR W ι H σ rep ((ev C ga ρ S).bind f) QQ)
    (hf : ∀ d S' H' ι', Ext ι H ι' H' → StOk K H' ι' S' → EndG K XR W ι' H' σ rep (f d S') QQ → ∃ i, d = .int i ∧ Q (some i) H') : tPart (tE K XR W fa (ev C ga)) σ H Q := by
  refine ⟨ι, S, ρ, hE, hS, (EndG.bind q).imp fun y H2 ⟨ι2, S2, dy, e2, s2, r2, q2⟩ => ?_⟩
  obtain ⟨i, rfl, q3⟩ := hf dy S2 H2 ι2 e2 s2 q2
  obtain ⟨r2, _⟩ := r2
  cases r2
  exact ⟨i, rfl, q3⟩
theorem g_sl (ha : PE X a (tE X.K XR W fa (ev C ga))) (hb : PE X b (tE X.K XR W fb (ev C gb))) (hc : PE X c (tE X.K XR W fc (ev C gc))) : PE X (.Subscript a (.Slice (some b) (some c) none p2) pos) (tE X.K XR W true (ev C (.sl ga gb gc))) := by
  refine PE.imp (pe_slice sl_all ha (po_some hb) (po_some hc)) fun σ H Q ⟨ι, S, ρ, hE, hS, q⟩ => ⟨ι, S, ρ, hE, hS, (EndG.bind (show EndG _ _ _ _ _ _ _ ((ev C ga ρ S).bind _) _ from q)).imp fun x H1 ⟨ι1, S1, dx, e1, s1, r1, q1⟩ => ?_⟩
  refine part_in (hE.ext e1) s1 q1 fun d S2 H2 ι2 e2 s2 q2 => ?_
  cases d with
  | int i =>
    refine ⟨i, rfl, part_in ((hE.ext e1).ext e2) s2 q2 fun d S3 H3 ι3 e3 s3 q3 => ?_⟩
    cases d with
    | int j => exact ⟨j, rfl, sl_end e1 (e2.trans e3) s3 r1.1 q3⟩
    | _ => exact q3.elim
  | _ => exact q2.elim
theorem g_slh (ha : PE X a (tE X.K XR W fa (ev C ga))) (hc : PE X c (tE X.K XR W fc (ev C gc))) : PE X (.Subscript a (.Slice none (some c) none p2) pos) (tE X.K XR W true (ev C (.slh ga gc))) := by
  refine PE.imp (pe_slice sl_all ha po_none (po_some hc)) fun σ H Q ⟨ι, S, ρ, hE, hS, q⟩ => ⟨ι, S, ρ, hE, hS, (EndG.bind (show EndG _ _ _ _ _ _ _ ((ev C ga ρ S).bind _) _ from q)).imp fun x H1 ⟨ι1, S1, dx, e1, s1, r1, q1⟩ => ?_⟩
  show tPart (tE X.K XR W fc (ev C gc)) σ H1 fun u H3 => rSlX X.K x none u H3 Q
  refine part_in (hE.ext e1) s1 q1 fun d S2 H2 ι2 e2 s2 q2 => ?_
  cases d with
  | int i => exact ⟨i, rfl, sl_end e1 e2 s2 r1.1 q2⟩
  | _ => exact q2.elim
theorem g_sll (ha : PE X a (tE X.K XR W fa (ev C ga))) (hb : PE X b (tE X.K XR W fb (ev C gb))) : PE X (.Subscript a (.Slice (some b) none none p2) pos) (tE X.K XR W true (ev C (.sll ga gb))) := by
  refine PE.imp (pe_slice sl_all ha (po_some hb) po_none) fun σ H Q ⟨ι, S, ρ, hE, hS, q⟩ => ⟨ι, S, ρ, hE, hS, (EndG.bind (show EndG _ _ _ _ _ _ _ ((ev C ga ρ S).bind _) _ from q)).imp fun x H1 ⟨ι1, S1, dx, e1, s1, r1, q1⟩ => ?_⟩
  refine part_in (hE.ext e1) s1 q1 fun d S2 H2 ι2 e2 s2 q2 => ?_
  cases d with
  | int i => exact ⟨i, rfl, sl_end e1 e2 s2 r1.1 q2⟩
  | _ => exact q2.elim
theorem g_sla (ha : PE X a (tE X.K XR W fa (ev C ga))) : PE X (.Subscript a (.Slice none none none p2) pos) (tE X.K XR W true (ev C (.sla ga))) := by
  refine PE.imp (pe_slice sl_all ha po_none po_none) fun σ H Q ⟨ι, S, ρ, hE, hS, q⟩ => ⟨ι, S, ρ, hE, hS, (EndG.bind (show EndG _ _ _ _ _ _ _ ((ev C ga ρ S).bind _) _ from q)).imp fun x H1 ⟨ι1, S1, dx, e1, s1, r1, q1⟩ => ?_⟩
  exact sl_end e1 (Ext.refl _ _) s1 r1.1 q1
theorem g_rev {k : Nat} {p3 p4 p5 : Pos} (ha : PE X a (tE X.K XR W fa (ev C ga))) : PE X (.Subscript a (.Slice none none (some (.UnaryOp .USub (.Constant (.int 1) k p3) p4)) p5) pos) (tE X.K XR W true (ev C (.rev ga))) := by
  refine PE.imp (pe_revA ha) fun σ H Q ⟨ι, S, ρ, hE, hS, q⟩ => ⟨ι, S, ρ, hE, hS, (EndG.bind (show EndG _ _ _ _ _ _ _ ((ev C ga ρ S).bind _) _ from q)).imp fun x H1 ⟨ι1, S1, dx, e1, s1, r1, q1⟩ => ?_⟩
  obtain ⟨d, hd, q1⟩ := q1.of
  have both : (∃ ds, items S1 dx = some ds ∧ isLst dx = true ∧ d = .lst ds.reverse) ∨ ∃ ds, dx = .tup ds ∧ d = .tup ds.reverse := by
    cases dx with
    | lst ds => simp only [rev, Option.some.injEq] at hd; exact .inl ⟨ds, rfl, rfl, hd.symm⟩
    | fz ds => simp only [rev, Option.some.injEq] at hd; exact .inl ⟨ds, rfl, rfl, hd.symm⟩
    | tup ds => simp only [rev, Option.some.injEq] at hd; exact .inr ⟨ds, rfl, hd.symm⟩
    | ref i => simp only [rev, Option.map_eq_some_iff] at hd; obtain ⟨ds, h1, h2⟩ := hd; exact .inl ⟨ds, h1, rfl, h2.symm⟩
    | _ => simp [rev] at hd
  rcases both with ⟨ds, hi, hl, rfl⟩ | ⟨ds, rfl, rfl⟩
  · obtain ⟨p, xs, rfl, rl, hk⟩ := items_ok s1 r1.1 hi
    rcases hk with ⟨hk, _⟩ | ⟨_, hk⟩
    · exact ⟨p, xs, rfl, .inl ⟨hk, new_lst s1 rl.reverse fun v H' e3 s3 rv fv => q1 v H' ι1 e3 s3 ⟨rv, fun _ => Frs.back e1 fv⟩⟩⟩
    · rw [hk] at hl; cases hl
  · obtain ⟨r1, _⟩ := r1
    cases r1 with
    | tup h1 rl => exact ⟨_, _, rfl, .inr ⟨h1, new_tup s1 rl.reverse fun v H' e3 s3 rv fv => q1 v H' ι1 e3 s3 ⟨rv, fun _ => Frs.back e1 fv⟩⟩⟩
/-! ### built-in functions -/
def nm1 : B1 → Str
  | .len => "len" | .abs => "abs" | .int => "int" | .repr => "repr" | .tuple => "tuple" | .list => "list" | .sorted => "sorted"
  | .sum => "sum" | .max => "max" | .min => "min" | .all => "all" | .any => "any" | .str => "str"
theorem boot_b1 (o : B1) : bootBuiltins (nm1 o) = some (f1 o) := by cases o <;> decide +kernel
theorem nm1_ok (o : B1) : nm1 o ≠ "__name__" ∧ (nm1 o == ("__debug__" : Str)) = false := by cases o <;> decide +kernel
theorem pe_b1 {r : List V → Hp → VK → Prop} {p : Pos} {t : TA} {es : List Expr} (o : B1) (hc : CallR X (f1 o) r) (hg : Gl X (nm1 o)) (hm : X.mg (nm1 o) = none) (ha : PA X (e :: es) t)
    (he : starEach (e :: es) X.env = (false, eval e X.env) :: starEach es X.env) (hpl : (backTo pos (starEach es X.env)).any (·.1) = false) : PE X (.Call (.Name (nm1 o) p) (e :: es) [] pos) (tCB r t) := by
  have hv := boot_b1 o
  have hn := nm1_ok o
  cases o <;> first
    | exact pe_callB hc hg hm hv ha hn.1 hn.2 he hpl
    | exact pe_callTy hc hg hm hv ha hn.1 hn.2 he hpl
theorem g_b1 {p : Pos} (o : B1) (hsm : SmOk X.K) (hc : X.calm = true) (gd : X.A.guards = some []) (hu : X.A.units + 64 < cLine) (hg : Gl X (nm1 o)) (hm : X.mg (nm1 o) = none) (ha : PE X a (tE X.K XR W fa (ev C ga)))
    (he : starEach [a] X.env = (false, eval a X.env) :: starEach [] X.env) : PE X (.Call (.Name (nm1 o) p) [a] [] pos) (tE X.K XR W true (ev C (.b1 o ga))) := by
  refine PE.imp (pe_b1 o (call_b1 hsm hc gd hu o) hg hm (pa_cons ha pa_nil he) he rfl) fun σ H Q ⟨ι, S, ρ, hE, hS, q⟩ => ⟨ι, S, ρ, hE, hS, (EndG.bind (show EndG _ _ _ _ _ _ _ ((ev C ga ρ S).bind _) _ from q)).imp fun x H1 ⟨ι1, S1, dx, e1, s1, r1, q1⟩ => ?_⟩
  obtain ⟨d, hd, q1⟩ := q1.of
  exact b1_ok o s1 r1.1 hd fun v H' e3 s3 rv fv => q1 v H' ι1 e3 s3 ⟨rv, fun _ => Frs.back e1 fv⟩
theorem pair_in {r : List V → Hp → VK → Prop} {o : B2} (ho : CallOk2 X.K r (b2 o)) {σ : L2.St} {H : Hp} {Q : VK} (q : tE X.K XR W true (ev C (.b2 o ga gb)) σ H Q) :
    tCB r (tCons (tE X.K XR W fa (ev C ga)) (tCons (tE X.K XR W fb (ev C gb)) tNil)) σ H Q := by
  obtain ⟨ι, S, ρ, hE, hS, q⟩ := q
  refine ⟨ι, S, ρ, hE, hS, (EndG.bind (show EndG _ _ _ _ _ _ _ ((ev C ga ρ S).bind _) _ from q)).imp fun x H1 ⟨ι1, S1, dx, e1, s1, r1, q1⟩ => ?_⟩
  refine ⟨ι1, S1, ρ, hE.ext e1, s1, (EndG.bind q1).imp fun y H2 ⟨ι2, S2, dy, e2, s2, r2, q2⟩ => ?_⟩
  obtain ⟨d, hd, q2⟩ := q2.of
  exact ho s2 (r1.1.ext e2) r2.1 hd fun v H' e3 s3 rv fv => q2 v H' ι2 e3 s3 ⟨rv, fun _ => Frs.back (e1.trans e2) fv⟩
theorem g_b2max {p : Pos} (hc : X.calm = true) (hg : Gl X "max") (hm : X.mg "max" = none) (ha : PE X a (tE X.K XR W fa (ev C ga))) (hb : PE X b (tE X.K XR W fb (ev C gb)))
    (he : starEach [a, b] X.env = (false, eval a X.env) :: starEach [b] X.env) (he2 : starEach [b] X.env = (false, eval b X.env) :: starEach [] X.env) : PE X (.Call (.Name "max" p) [a, b] [] pos) (tE X.K XR W true (ev C (.b2 .max ga gb))) :=
  PE.imp (pe_b1 .max (call_b2 hc .max) hg hm (pa_cons ha (pa_cons hb pa_nil he2) he) he (by rw [he2]; rfl)) fun σ H Q q => pair_in (b2_ok .max) q
theorem g_b2min {p : Pos} (hc : X.calm = true) (hg : Gl X "min") (hm : X.mg "min" = none) (ha : PE X a (tE X.K XR W fa (ev C ga))) (hb : PE X b (tE X.K XR W fb (ev C gb)))
    (he : starEach [a, b] X.env = (false, eval a X.env) :: starEach [b] X.env) (he2 : starEach [b] X.env = (false, eval b X.env) :: starEach [] X.env) : PE X (.Call (.Name "min" p) [a, b] [] pos) (tE X.K XR W true (ev C (.b2 .min ga gb))) :=
  PE.imp (pe_b1 .min (call_b2 hc .min) hg hm (pa_cons ha (pa_cons hb pa_nil he2) he) he (by rw [he2]; rfl)) fun σ H Q q => pair_in (b2_ok .min) q
theorem g_gcd {p : Pos} {x : Str} (hc : X.calm = true) (hg : Gl X x) (hm : X.mg x = some (.builtin "math.gcd")) (hd : (x == ("__debug__" : Str)) = false) (ha : PE X a (tE X.K XR W fa (ev C ga))) (hb : PE X b (tE X.K XR W fb (ev C gb)))
    (he : starEach [a, b] X.env = (false, eval a X.env) :: starEach [b] X.env) (he2 : starEach [b] X.env = (false, eval b X.env) :: starEach [] X.env) : PE X (.Call (.Name x p) [a, b] [] pos) (tE X.K XR W true (ev C (.b2 .gcd ga gb))) :=
  PE.imp (pe_callBfun cr_gcd hg hm (pa_cons ha (pa_cons hb pa_nil he2) he) hd he (by rw [he2]; rfl)) fun σ H Q q => pair_in (b2_ok .gcd) q
def nmT : Ty → Str
  | .int => "int" | .bool => "bool" | .str => "str" | .tuple => "tuple" | .list => "list" | .dict => "dict"
theorem boot_ty (T : Ty) : bootBuiltins (nmT T) = some (.type (tyName T)) := by cases T <;> decide +kernel
theorem nmT_ok (T : Ty) : nmT T ≠ "__name__" ∧ (nmT T == ("__debug__" : Str)) = false := by cases T <;> decide +kernel
theorem g_isa {p p3 : Pos} (T : Ty) (hg : Gl X "isinstance") (hm : X.mg "isinstance" = none) (hgT : Gl X (nmT T)) (hmT : X.mg (nmT T) = none) (ha : PE X a (tE X.K XR W fa (ev C ga)))
    (he : starEach [a, .Name (nmT T) p3] X.env = (false, eval a X.env) :: starEach [.Name (nmT T) p3] X.env) : PE X (.Call (.Name "isinstance" p) [a, .Name (nmT T) p3] [] pos) (tE X.K XR W true (ev C (.isa T ga))) := by
  have hT : PE X (.Name (nmT T) p3) (tC (.ty (tyName T))) := pe_bltn hgT hmT (boot_ty T) rfl (nmT_ok T).1 (nmT_ok T).2
  refine PE.imp (pe_callB call_isi hg hm (by decide +kernel) (pa_cons ha (pa_cons hT pa_nil rfl) he) (by decide) (by decide) he rfl) fun σ H Q ⟨ι, S, ρ, hE, hS, q⟩ => ⟨ι, S, ρ, hE, hS, (EndG.bind (show EndG _ _ _ _ _ _ _ ((ev C ga ρ S).bind _) _ from q)).imp fun x H1 ⟨ι1, S1, dx, e1, s1, r1, q1⟩ => ?_⟩
  cases ht : typeD S1 dx with
  | none => rw [ht] at q1; exact q1.elim
  | some t =>
    rw [ht] at q1
    exact isa_ok T s1 r1.1 ht (q1 _ H1 ι1 (Ext.refl _ _) s1 ⟨.bl _, fun _ => trivial⟩)
/-! ### methods of lists -/
theorem g_meth0 {p : Pos} {o : Expr} {go : G} {fo : Bool} (hu : X.A.units + 64 < cLine) (ho : PE X o (tE X.K XR W fo (ev C go))) (hbase : attributeBase o "pop" X.env (eval o X.env) = eval o X.env) (hline : (p.endLine == pos.line) = true) :
    PE X (.Call (.Attribute o "pop" p) [] [] pos) (tE X.K XR W false (ev C (.meth .pop go .nil))) := by
  refine PE.imp (pe_bm0 PySem.F.plainAttrs_list PySem.F.slot_list_pop PySem.F.type_list_pop (mt_all hu .pop) ho hbase hline) fun σ H Q ⟨ι, S, ρ, hE, hS, q⟩ => ⟨ι, S, ρ, hE, hS, (EndG.bind (show EndG _ _ _ _ _ _ _ ((ev C go ρ S).bind _) _ from q)).imp fun x H1 ⟨ι1, S1, dx, e1, s1, r1, q1⟩ => ?_⟩
  cases hl : litems S1 dx with
  | none => rw [hl] at q1; exact q1.elim
  | some ds0 =>
    rw [hl] at q1
    simp only [ev, R.bind_ok, lsOf] at q1
    cases hm : meth S1 .pop dx [] with
    | none => rw [hm] at q1; exact q1.elim
    | some z =>
      obtain ⟨d, S3⟩ := z
      rw [hm] at q1
      obtain ⟨⟨l, xs, rfl, hx⟩, hr⟩ := meth_ok (Q := Q) s1 r1.1 .nil hm fun v H' e3 s3 rv => q1 v H' ι1 e3 s3 ⟨rv, fun q => by cases q⟩
      exact ⟨.inl ⟨rfl, xs, SqL.of hx⟩, hr⟩
theorem g_methA {p : Pos} {o : Expr} {go : G} {fo : Bool} (hu : X.A.units + 64 < cLine) (m : Mt) (ho : PE X o (tE X.K XR W fo (ev C go))) (ha : PA X (e :: es) (tA X.K XR W (ev C ge))) (hbase : attributeBase o (mtName m) X.env (eval o X.env) = eval o X.env) (hline : (p.endLine == pos.line) = true)
    (hfew : ((backTo pos (starEach (e :: es) X.env)).all (fun x => !x.1) && (backToKw pos (keywordEach [] X.env)).all (fun x => x.1.isSome)
      && decide ((e :: es).length + ([] : List Keyword).length + (if ([] : List Keyword).isEmpty then 0 else 1) < 30)) = true)
    (hs : starEach (e :: es) X.env = (false, eval e X.env) :: starEach es X.env) (hplain : (backTo pos (starEach es X.env)).any (·.1) = false) :
    PE X (.Call (.Attribute o (mtName m) p) (e :: es) [] pos) (tE X.K XR W false (ev C (.meth m go ge))) := by
  have key : PE X (.Call (.Attribute o (mtName m) p) (e :: es) [] pos) (tBM X.K "list" (rMt X.K m) (tE X.K XR W fo (ev C go)) (tA X.K XR W (ev C ge))) := by
    cases m with
    | append => exact pe_bm PySem.F.plainAttrs_list PySem.F.slot_list_append PySem.F.type_list_append (mt_all hu .append) ho ha hbase hfew hline hs hplain
    | extend => exact pe_bm PySem.F.plainAttrs_list PySem.F.slot_list_extend PySem.F.type_list_extend (mt_all hu .extend) ho ha hbase hfew hline hs hplain
    | pop => exact pe_bm PySem.F.plainAttrs_list PySem.F.slot_list_pop PySem.F.type_list_pop (mt_all hu .pop) ho ha hbase hfew hline hs hplain
    | popAt => exact pe_bm PySem.F.plainAttrs_list PySem.F.slot_list_pop PySem.F.type_list_pop (mt_all hu .popAt) ho ha hbase hfew hline hs hplain
    | insert => exact pe_bm PySem.F.plainAttrs_list PySem.F.slot_list_insert PySem.F.type_list_insert (mt_all hu .insert) ho ha hbase hfew hline hs hplain
    | index => exact pe_bm PySem.F.plainAttrs_list PySem.F.slot_list_index PySem.F.type_list_index (mt_all hu .index) ho ha hbase hfew hline hs hplain
  refine PE.imp key fun σ H Q ⟨ι, S, ρ, hE, hS, q⟩ => ⟨ι, S, ρ, hE, hS, (EndG.bind (show EndG _ _ _ _ _ _ _ ((ev C go ρ S).bind _) _ from q)).imp fun x H1 ⟨ι1, S1, dx, e1, s1, r1, q1⟩ => ?_⟩
  cases hl : litems S1 dx with
  | none => rw [hl] at q1; exact q1.elim
  | some ds0 =>
    rw [hl] at q1
    obtain ⟨l, xs, rfl, hx, _⟩ := lit_ok s1 r1.1 hl
    refine ⟨.inl ⟨rfl, xs, SqL.of hx⟩, ι1, S1, ρ, hE.ext e1, s1, (EndG.bind q1).imp fun ys H2 ⟨ι2, S2, dy, e2, s2, ⟨ds, ed, r2⟩, q2⟩ => ?_⟩
    subst ed
    simp only [lsOf] at q2
    cases hm : meth S2 m dx ds with
    | none => rw [hm] at q2; exact q2.elim
    | some z =>
      obtain ⟨d, S3⟩ := z
      rw [hm] at q2
      exact (meth_ok s2 (r1.1.ext e2) r2 hm fun v H' e3 s3 rv => q2 v H' ι2 e3 s3 ⟨rv, fun q => by cases q⟩).2
end
end GV

set_option linter.all false
set_option maxHeartbeats 2000000
set_option maxRecDepth 100000
/-! GV, part k: dict displays; calls of defs; a def's exit. -/
namespace GV
open PySem PySem.Spec PyProof.Rows L2

section
variable {X : Cx} {XR : XRT} {W : WX} {C : CallF}
inductive KeyOf : L2.Key → Expr → Prop
  | int {i : Int} {k : Nat} {p : Pos} : KeyOf (.inl i) (.Constant (.int i) k p)
  | str {x : Str} {k : Nat} {p : Pos} : KeyOf (.inr x) (.Constant (.str x) k p)
theorem KeyOf.pe {k : L2.Key} {e : Expr} (h : KeyOf k e) : PE X e (tC (kV k)) := by
  cases h with
  | int => exact pe_int
  | str => exact pe_str
inductive DctOk (X : Cx) (XR : XRT) (W : WX) (C : CallF) : List (Option Expr) → List Expr → List L2.Key → G → Prop
  | nil : DctOk X XR W C [] [] [] .nil
  | cons {k : L2.Key} {kx v : Expr} {ks : List (Option Expr)} {vs : List Expr} {kk : List L2.Key} {gv gr : G} {fv : Bool} : KeyOf k kx → PE X v (tE X.K XR W fv (ev C gv)) → DctOk X XR W C ks vs kk gr → DctOk X XR W C (some kx :: ks) (v :: vs) (k :: kk) (.cons gv gr)
theorem DctOk.pps {pos : Pos} : ∀ {keys : List (Option Expr)} {vals : List Expr} {kk : List L2.Key} {g : G}, DctOk X XR W C keys vals kk g →
    ∃ trs, PPs X pos keys vals trs ∧ keys.all (·.isSome) = true ∧ keys.length = vals.length ∧ keys.length = kk.length ∧
      ∀ (σ : L2.St) (H : Hp) (Q : List (V × V) → Hp → Prop) (ι : Ad) (S : Sto) (ρ : Rho), EnvOk X.K H ι σ ρ → StOk X.K H ι S →
        EndG X.K XR W ι H σ (repA X.K) (ev C g ρ S) (fun vs H' => Q ((kk.zip vs).map fun kv => (kV kv.1, kv.2)) H') → tPairs trs σ H Q
  | _, _, _, _, .nil => ⟨[], pps_nil, rfl, rfl, rfl, fun σ H Q ι S ρ hE hS q => q [] H ι (Ext.refl _ _) hS ⟨[], rfl, .nil⟩⟩
  | _, _, _, _, .cons (k := k) (kx := kx) (kk := kk) (gv := gv) (gr := gr) (fv := fv) hk hv hr => by
    obtain ⟨trs, p, a, l, l2, run⟩ := hr.pps (pos := pos)
    refine ⟨(tC (kV k), _) :: trs, pps_cons hk.pe hv p, by simpa using a, by simp [l], by simp [l2], fun σ H Q ι S ρ hE hS q => ?_⟩
    refine ⟨ι, S, ρ, hE, hS, (EndG.bind (show EndG _ _ _ _ _ _ _ ((ev C gv ρ S).bind _) _ from q)).imp fun x H1 ⟨ι1, S1, dx, e1, s1, r1, q1⟩ => ?_⟩
    refine run σ H1 _ ι1 S1 ρ (hE.ext e1) s1 ((EndG.bind q1).imp fun ys H2 ⟨ι2, S2, dy, e2, s2, ⟨ds, ed, r2⟩, q2⟩ => ?_)
    subst ed
    exact q2 (x :: ys) H2 ι2 (Ext.refl _ _) s2 ⟨_, rfl, .cons (r1.1.ext e2) r2⟩
theorem merge_app : ∀ (more acc : List (L2.Key × V)), ((acc ++ more).map (·.1)).Nodup → mergeK acc more = acc ++ more
  | [], acc, _ => by simp [mergeK]
  | p :: more, acc, h => by
    have hn : (acc.any fun kv => decide (kv.1 = p.1)) = false := by
      rw [List.any_eq_false]
      intro kv hkv
      simp only [decide_eq_true_eq]
      intro e
      rw [List.map_append, List.nodup_append] at h
      exact h.2.2 kv.1 (List.mem_map.mpr ⟨kv, hkv, rfl⟩) p.1 (by simp) e
    have e1 : L2.putK acc p.1 p.2 = acc ++ [p] := by
      unfold L2.putK
      rw [hn]
      rfl
    have := merge_app more (acc ++ [p]) (by simpa using h)
    show mergeK (L2.putK acc p.1 p.2) more = _
    rw [e1, this]
    simp
theorem zip_maps {α β : Type} : ∀ {as : List α} {bs : List β}, as.length = bs.length → (as.zip bs).map (·.1) = as ∧ (as.zip bs).map (·.2) = bs := fun h => ⟨zip_fst h, zip_snd h⟩
theorem g_dct {pos : Pos} {keys : List (Option Expr)} {vals : List Expr} {kk : List L2.Key} {g : G} (h : DctOk X XR W C keys vals kk g) (h0 : keys ≠ []) (h15 : keys.length ≤ 15) : PE X (.Dict keys vals pos) (tE X.K XR W false (ev C (.dct kk g))) := by
  obtain ⟨trs, p, a, l, l2, run⟩ := h.pps (pos := pos)
  refine PE.imp (pe_disp p a l h0 h15) fun σ H Q ⟨ι, S, ρ, hE, hS, q⟩ d hd => ?_
  obtain ⟨e1, s1⟩ := new_cell (K := X.K) (o := .dK []) (c := .dk []) hS hd (.dk upd_same rfl .nil)
  refine run σ _ _ _ _ ρ (hE.ext e1) s1 ((EndG.bind (EndG.shift (show EndG _ _ _ _ _ _ _ ((ev C g ρ (S ++ [.dk []])).bind _) _ from q) e1)).imp fun vs H2 ⟨ι2, S2, dx, e2, s2, ⟨ds, ed, r2⟩, q2⟩ => ?_)
  subst ed
  replace q2 : EndG X.K XR W ι2 H2 σ (repE X.K false H) (if kk.length = ds.length ∧ kk.length ≤ 15 ∧ kk.Nodup ∧ S2[S.length]? = some (.dk []) then .ok (.ref S.length) (S2.set S.length (.dk (kk.zip ds))) else .no) Q := q2
  by_cases hc : kk.length = ds.length ∧ kk.length ≤ 15 ∧ kk.Nodup ∧ S2[S.length]? = some (.dk [])
  · rw [if_pos hc] at q2
    obtain ⟨c1, c2, c3, c4⟩ := hc
    have hix : ι2.c[S.length]? = some d := e2.ix (by rw [Ad.app_c, ← hS.len]; simp)
    obtain ⟨d', hd', cell⟩ := s2.at c4
    rw [hix] at hd'; cases hd'
    cases cell with
    | @dk vs' _ h1 h2 h3 =>
      have hvs : vs' = [] := by
        cases vs' with
        | nil => rfl
        | cons _ _ => cases h2
      subst hvs
      have hl : kk.length = vs.length := by rw [r2.length]; exact c1
      refine ⟨h1, kk.zip vs, rfl, by rw [List.length_zip]; omega, ?_⟩
      rw [merge_app _ [] (by simp only [List.nil_append]; rw [zip_fst hl]; exact c3), List.nil_append]
      have ex : Ext ι2 H2 ι2 (upd H2 d (.dK (kk.zip vs))) := Ext.write s2 hix
      refine q2 _ _ ι2 ex (s2.write hix (.dk upd_same ?_ ?_)) ⟨.ref hix, fun q => by cases q⟩
      · rw [zip_fst hl, zip_fst c1]
      · rw [zip_snd hl, zip_snd c1]; exact r2.ext ex
  · rw [if_neg hc] at q2
    exact q2.elim
theorem g_dct0 {pos : Pos} : PE X (.Dict [] [] pos) (tE X.K XR W false (ev C (.dct [] .nil))) := by
  refine PE.imp pe_dnewK fun σ H Q ⟨ι, S, ρ, hE, hS, q⟩ d hd => ?_
  obtain ⟨e1, s1⟩ := new_cell (K := X.K) (o := .dK []) (c := .dk []) hS hd (.dk upd_same rfl .nil)
  replace q : EndG X.K XR W ι H σ (repE X.K false H) (if ([] : List L2.Key).length = ([] : List D).length ∧ ([] : List L2.Key).length ≤ 15 ∧ ([] : List L2.Key).Nodup ∧ (S ++ [Cell.dk []])[S.length]? = some (Cell.dk []) then .ok (.ref S.length) ((S ++ [Cell.dk []]).set S.length (Cell.dk (List.zip [] []))) else .no) Q := q
  rw [if_pos (by simp)] at q
  refine q _ _ _ e1 ?_ ⟨.ref (by rw [Ad.app_c, ← hS.len]; simp), fun q => by cases q⟩
  have : (S ++ [Cell.dk []]).set S.length (.dk (List.zip [] [])) = S ++ [.dk []] := by simp
  rw [this]
  exact s1

/-! ### calls -/
/-- what the i-th def promises -/
def spG (K : PySem.W.Frag) (XR : XRT) (C : CallF) (i : Nat) : Sp := fun vs H Q E => ∃ ι S ds, StOk K H ι S ∧ RpL K H ι vs ds ∧ EndG K XR (fun cls d _ H => E cls d H) ι H ([] : L2.St) (repE K false H) (C i ds S) Q
theorem EndG.slots {K : PySem.W.Frag} {ι : Ad} {H : Hp} {σ σ' : L2.St} {α β : Type} {rep : β → α → Hp → Ad → Sto → Prop} {r : R α} {Q : β → Hp → Prop} (h : EndG K XR W ι H σ rep r Q) : EndG K XR (fun cls d _ H => W cls d σ H) ι H σ' rep r Q := by
  cases r <;> exact h
section
variable {k i n : Nat} {f : Addr} {fd : FuncData} {ps : List Str} {x : Str} {p pos : Pos} {e : Expr} {es : List Expr} {ge : G}
theorem g_call (F : FnG X.prog X.w X.K X.mg X.base k f fd ps (spG X.K XR C i)) (gd : X.A.guards = some []) (hr : Room k X.A) (tk : Takes X W) (hg : Gl X x) (hm : X.mg x = some (.ref f)) (hk : PySem.W.keepIn X.K (.ref f) = true)
    (hb : Binds X.K fd ps []) (ha : PA X (e :: es) (tA X.K XR W (ev C ge))) (hd : (x == ("__debug__" : Str)) = false) (he : starEach (e :: es) X.env = (false, eval e X.env) :: starEach es X.env) (hpl : (backTo pos (starEach es X.env)).any (·.1) = false) :
    PE X (.Call (.Name x p) (e :: es) [] pos) (tE X.K XR W false (ev C (.call i ge))) := by
  refine PE.imp (pe_callG F gd hr tk hg hm hk hb ha hd he hpl) fun σ H Q ⟨ι, S, ρ, hE, hS, q⟩ => ⟨ι, S, ρ, hE, hS, (EndG.bind (show EndG _ _ _ _ _ _ _ ((ev C ge ρ S).bind _) _ from q)).imp fun vs H1 ⟨ι1, S1, d, e1, s1, ⟨ds, ed, r1⟩, q1⟩ => ?_⟩
  subst ed
  exact ⟨ι1, S1, ds, s1, r1, (EndG.f (H1 := H1) q1).slots⟩
theorem g_call0 (F : FnG X.prog X.w X.K X.mg X.base k f fd ps (spG X.K XR C i)) (gd : X.A.guards = some []) (hr : Room k X.A) (tk : Takes X W) (hg : Gl X x) (hm : X.mg x = some (.ref f)) (hk : PySem.W.keepIn X.K (.ref f) = true)
    (hb : Binds X.K fd ps []) (hd : (x == ("__debug__" : Str)) = false) : PE X (.Call (.Name x p) [] [] pos) (tE X.K XR W false (ev C (.call i .nil))) := by
  refine PE.imp (pe_callG0 F gd hr tk hg hm hk hb hd) fun σ H Q ⟨ι, S, ρ, hE, hS, q⟩ => ?_
  simp only [ev, R.bind_ok, lsOf] at q
  exact ⟨ι, S, [], hS, .nil, (EndG.f (H1 := H) q).slots⟩
/-- the keywords' values -/
inductive KwG (X : Cx) (XR : XRT) (W : WX) (C : CallF) : List Keyword → G → Prop
  | nil : KwG X XR W C [] .nil
  | cons {nm : Option Str} {e : Expr} {p : Pos} {kws : List Keyword} {ge gr : G} {fe : Bool} : PE X e (tE X.K XR W fe (ev C ge)) → KwG X XR W C kws gr → KwG X XR W C (⟨nm, e, p⟩ :: kws) (.cons ge gr)
theorem PK.imp {kws : List Keyword} {t t' : TA} (h : PK X kws t) (i : ∀ σ H Q, t' σ H Q → t σ H Q) : PK X kws t' := ⟨fun pos pins s σ H Q I q => h.run pos pins s σ H Q I (i σ H Q q)⟩
theorem KwG.pk : ∀ {kws : List Keyword} {g : G}, KwG X XR W C kws g → PK X kws (tA X.K XR W (ev C g))
  | _, _, .nil => PK.imp pk_nil fun σ H Q ⟨ι, S, ρ, hE, hS, q⟩ => q [] H ι (Ext.refl _ _) hS ⟨[], rfl, .nil⟩
  | _, _, .cons (ge := ge) ha hr => PK.imp (pk_cons ha hr.pk) fun σ H Q ⟨ι, S, ρ, hE, hS, q⟩ => ⟨ι, S, ρ, hE, hS, (EndG.bind (show EndG _ _ _ _ _ _ _ ((ev C ge ρ S).bind _) _ from q)).imp fun x H1 ⟨ι1, S1, dx, e1, s1, r1, q1⟩ =>
      ⟨ι1, S1, ρ, hE.ext e1, s1, (EndG.bind q1).imp fun ys H2 ⟨ι2, S2, dy, e2, s2, ⟨ds, ed, r2⟩, q2⟩ => by
        subst ed
        exact q2 _ H2 ι2 (Ext.refl _ _) s2 ⟨_, rfl, .cons (r1.1.ext e2) r2⟩⟩⟩
theorem permL_rp {K : PySem.W.Frag} {H : Hp} {ι : Ad} {vs : List V} {ds : List D} (r : RpL K H ι vs ds) : ∀ is : List Nat, RpL K H ι (permL is vs) (permL is ds)
  | [] => .nil
  | i :: is => by
    simp only [permL]
    cases e : ds[i]? with
    | none =>
      have : vs[i]? = none := by
        rw [List.getElem?_eq_none_iff] at e ⊢
        rw [r.length]; exact e
      rw [this]
      exact permL_rp r is
    | some d =>
      obtain ⟨v, hv, rv⟩ := r.get e
      rw [hv]
      exact .cons rv (permL_rp r is)
theorem g_callK {kws : List Keyword} {ks : List Str} {is : List Nat} (F : FnG X.prog X.w X.K X.mg X.base k f fd ps (spG X.K XR C i)) (gd : X.A.guards = some []) (hr : Room k X.A) (tk : Takes X W) (hg : Gl X x) (hm : X.mg x = some (.ref f)) (hk : PySem.W.keepIn X.K (.ref f) = true)
    (hb : KwTo fd ps ks is) (ha : KwG X XR W C kws ge) (hd : (x == ("__debug__" : Str)) = false) (hall : (backToKw pos (keywordEach kws X.env)).all (·.1.isSome) = true) (hks : (backToKw pos (keywordEach kws X.env)).filterMap (·.1) = ks)
    (hpl : ((backTo pos (starEach [] X.env)).any (·.1) || (backToKw pos (keywordEach kws X.env)).any (·.1.isNone)) = false) :
    PE X (.Call (.Name x p) [] kws pos) (tE X.K XR W false (ev C (.callK i ks.length is ge))) := by
  refine PE.imp (pe_callGK F gd hr tk hg hm hk hb ha.pk hd hall hks hpl) fun σ H Q ⟨ι, S, ρ, hE, hS, q⟩ => ⟨ι, S, ρ, hE, hS, (EndG.bind (show EndG _ _ _ _ _ _ _ ((ev C ge ρ S).bind _) _ from q)).imp fun vs H1 ⟨ι1, S1, d, e1, s1, ⟨ds, ed, r1⟩, q1⟩ => ?_⟩
  subst ed
  replace q1 : EndG X.K XR W ι1 H1 σ (repE X.K false H) (if ds.length = ks.length then C i (permL is ds) S1 else .no) Q := q1
  by_cases hl : ds.length = ks.length
  · rw [if_pos hl] at q1
    exact ⟨r1.length.trans hl, ι1, S1, _, s1, permL_rp r1 is, (EndG.f (H1 := H1) q1).slots⟩
  · rw [if_neg hl] at q1
    exact q1.elim
end
end

/-! ### a def's exit -/
section
variable {K : PySem.W.Frag} {H : Hp} {ι : Ad} {l : List Addr} {n : Nat}
theorem out_app {a : Addr} (h : (ι ++ l).out a) : ι.out a := ⟨fun z => h.1 (by rw [Ad.app_c]; exact List.mem_append_left _ z), h.2⟩
theorem rpl_all {p : D → Bool} (f : ∀ v d, Rp K H (ι ++ l) v d → p d = true → Rp K H ι v d) : ∀ {vs : List V} {ds : List D}, RpL K H (ι ++ l) vs ds → ds.all p = true → RpL K H ι vs ds
  | _, _, .nil, _ => .nil
  | _, _, .cons r t, h => by
    rw [List.all_cons] at h
    obtain ⟨h1, h2⟩ := Bool.and_eq_true_iff.mp h
    exact .cons (f _ _ r h1) (rpl_all f t h2)
theorem rpl_mapO {g : D → Option D} (f : ∀ v d d', Rp K H (ι ++ l) v d → g d = some d' → Rp K H ι v d') : ∀ {vs : List V} {ds ds' : List D}, RpL K H (ι ++ l) vs ds → mapO g ds = some ds' → RpL K H ι vs ds'
  | _, _, ds', .nil, h => by simp only [mapO, Option.some.injEq] at h; subst h; exact .nil
  | _, _, ds', .cons r t, h => by
    obtain ⟨b, cs, h1, h2, rfl⟩ := mapO_cons h
    exact .cons (f _ _ _ r h1) (rpl_mapO f t h2)
theorem Rp.less : ∀ (m : Nat) (v : V) (d : D), Rp K H (ι ++ l) v d → ltF ι.c.length m d = true → Rp K H ι v d
  | 0, _, _, _, h => by simp [ltF] at h
  | m + 1, v, d, r, h => by
    cases r with
    | exo h1 => exact .exo fun dd q => ⟨(h1 dd q).1, out_app (h1 dd q).2⟩
    | non => exact .non
    | bl b => exact .bl b
    | int i => exact .int i
    | str x => exact .str x
    | tup h1 r1 => exact .tup h1 (rpl_all (Rp.less m) r1 (by simpa [ltF] using h))
    | lst h1 n1 r1 => exact .lst h1 (out_app n1) (rpl_all (Rp.less m) r1 (by simpa [ltF] using h))
    | fz h1 r1 => exact .fz h1 (rpl_all (Rp.less m) r1 (by simpa [ltF] using h))
    | dk h1 n1 e1 e2 r1 => exact .dk h1 (out_app n1) e1 e2 (rpl_all (Rp.less m) r1 (by simpa [ltF] using h))
    | @ref i a hi =>
      have hl : i < ι.c.length := by simpa [ltF] using h
      rw [Ad.app_c, List.getElem?_append_left hl] at hi
      exact .ref hi
theorem Rp.res {S : Sto} (st : StOk K H (ι ++ l) S) : ∀ (m : Nat) (v : V) (d d' : D), Rp K H (ι ++ l) v d → resF S ι.c.length m d = some d' → Rp K H ι v d'
  | 0, _, _, _, _, h => by simp [resF] at h
  | m + 1, v, d, d', r, h => by
    have ih := Rp.res st m
    cases r with
    | exo h1 => simp only [resF, Option.some.injEq] at h; subst h; exact .exo fun dd q => ⟨(h1 dd q).1, out_app (h1 dd q).2⟩
    | non => simp only [resF, Option.some.injEq] at h; subst h; exact .non
    | bl b => simp only [resF, Option.some.injEq] at h; subst h; exact .bl b
    | int i => simp only [resF, Option.some.injEq] at h; subst h; exact .int i
    | str x => simp only [resF, Option.some.injEq] at h; subst h; exact .str x
    | tup h1 r1 =>
      simp only [resF, Option.map_eq_some_iff] at h
      obtain ⟨ds, h, rfl⟩ := h
      exact .tup h1 (rpl_mapO ih r1 h)
    | lst h1 n1 r1 =>
      simp only [resF, Option.map_eq_some_iff] at h
      obtain ⟨ds, h, rfl⟩ := h
      exact .lst h1 (out_app n1) (rpl_mapO ih r1 h)
    | fz h1 r1 =>
      simp only [resF] at h
      split at h
      · rename_i ha
        cases h
        exact .fz h1 (rpl_all (Rp.less m) r1 ha)
      · cases h
    | dk h1 n1 e1 e2 r1 =>
      simp only [resF, Option.map_eq_some_iff] at h
      obtain ⟨ds, h, rfl⟩ := h
      exact .dk h1 (out_app n1) e1 e2 (rpl_mapO ih r1 h)
    | @ref i a hi =>
      simp only [resF] at h
      split at h
      · rename_i hl
        cases h
        rw [Ad.app_c, List.getElem?_append_left hl] at hi
        exact .ref hi
      · rename_i hl
        have out : ι.out a := by
          refine ⟨fun ha => ?_, fun ha => (st.gh a ha).1 (List.mem_of_getElem? hi)⟩
          have nd := st.nd
          rw [Ad.app_c, List.nodup_append] at nd
          rw [Ad.app_c, List.getElem?_append_right (by omega)] at hi
          exact nd.2.2 a ha a (List.mem_of_getElem? hi) rfl
        split at h
        · rename_i ds e
          simp only [Option.map_eq_some_iff] at h
          obtain ⟨ds', h, rfl⟩ := h
          obtain ⟨a', ha, c⟩ := st.at e
          rw [hi] at ha; cases ha
          cases c with
          | lst h1 r1 => exact .lst h1 out (rpl_mapO ih r1 h)
        · rename_i kvs e
          simp only [Option.map_eq_some_iff] at h
          obtain ⟨ds', h, rfl⟩ := h
          obtain ⟨a', ha, c⟩ := st.at e
          rw [hi] at ha; cases ha
          cases c with
          | dk h1 h2 r1 => exact .dk h1 out h2 rfl (rpl_mapO ih r1 h)
        · cases h
mutual
theorem rp_lt1 {H0 : Hp} : ∀ {v : V} {d : D}, Rp K H0 ι v d → ∀ {w : V}, Rp K H (ι ++ l) w d → Rp K H ι w d
  | _, _, .non, _, r => by cases r; exact .non
  | _, _, .bl b, _, r => by cases r; exact .bl b
  | _, _, .int i, _, r => by cases r; exact .int i
  | _, _, .str x, _, r => by cases r; exact .str x
  | _, _, .tup _ r0, _, r => by cases r with | tup h1 r1 => exact .tup h1 (rp_lt r0 r1)
  | _, _, .lst _ _ r0, _, r => by cases r with | lst h1 n1 r1 => exact .lst h1 (out_app n1) (rp_lt r0 r1)
  | _, _, .fz _ r0, _, r => by cases r with | fz h1 r1 => exact .fz h1 (rp_lt r0 r1)
  | _, _, .dk _ _ _ _ r0, _, r => by cases r with | dk h1 n1 e1 e2 r1 => exact .dk h1 (out_app n1) e1 e2 (rp_lt r0 r1)
  | _, _, .ref hi0, _, r => by
    cases r with
    | ref hi =>
      rw [Ad.app_c, List.getElem?_append_left (List.getElem?_eq_some_iff.mp hi0).1] at hi
      exact .ref hi
  | _, _, .exo _, _, r => by cases r with | exo h1 => exact .exo fun dd q => ⟨(h1 dd q).1, out_app (h1 dd q).2⟩
theorem rp_lt {H0 : Hp} : ∀ {vs : List V} {ds : List D}, RpL K H0 ι vs ds → ∀ {ws : List V}, RpL K H (ι ++ l) ws ds → RpL K H ι ws ds
  | _, _, .nil, _, r => by cases r; exact .nil
  | _, _, .cons a b, _, r => by cases r with | cons r1 r2 => exact .cons (rp_lt1 a r1) (rp_lt b r2)
end
theorem trim_ok {H0 : Hp} {S S' S2 : Sto} (st0 : StOk K H0 ι S) (st : StOk K H (ι ++ l) S') (hl : S'.length ≠ S.length) (h : trimS S S' = some S2) : StOk K H ι S2 := by
  simp only [trimS, if_neg hl] at h
  split at h
  · rename_i hc
    cases h
    have ll := st.len
    rw [Ad.app_c, List.length_append, st0.len] at ll
    refine ⟨by rw [List.length_take, st0.len]; omega, (by have nd := st.nd; rw [Ad.app_c] at nd; exact (List.nodup_append.mp nd).1), fun i a c h1 h2 => ?_, fun a ha => ?_⟩
    have hi : i < S.length := by rw [← st0.len]; exact (List.getElem?_eq_some_iff.mp h1).1
    have h2' := h2
    rw [List.getElem?_take, if_pos hi] at h2
    have c0 := st.cell i a c (by rw [Ad.app_c, List.getElem?_append_left (by rw [st0.len]; exact hi)]; exact h1) h2
    rcases hc with hc | hc
    · rw [hc] at h2'
      have c1 := st0.cell i a c h1 h2'
      cases c0 with
      | lst e1 r1 => cases c1 with
        | lst e2 r2 => exact .lst e1 (rp_lt r2 r1)
      | dk e1 k1 r1 => cases c1 with
        | dk e2 k2 r2 => exact .dk e1 k1 (rp_lt r2 r1)
    · have hm := List.all_eq_true.mp hc c (List.mem_of_getElem? h2')
      rw [← st0.len] at hm
      cases c0 with
      | lst e1 r1 => exact .lst e1 (rpl_all (Rp.less 24) r1 hm)
      | @dk vs kvs e1 k1 r1 => exact .dk e1 k1 (rpl_all (Rp.less 24) r1 (by simp only [cellLt] at hm; rw [List.all_map]; exact hm))
    · obtain ⟨h1, xs, h2⟩ := st.gh a ha
      exact ⟨fun z => h1 (by rw [Ad.app_c]; exact List.mem_append_left _ z), xs, h2⟩
  · cases h
theorem Ext.trim {H0 : Hp} (e : Ext ι H0 (ι ++ l) H) : Ext ι H0 ι H := ⟨⟨[], [], by simp, rfl, by simp, by simp⟩, e.keep, e.tups, e.frzs, e.dom⟩
end
end GV

set_option linter.all false
set_option maxHeartbeats 2000000
set_option maxRecDepth 100000
/-! GV, part l: targets, what is walked, comprehensions, statements. -/
namespace GV
open PySem PySem.Spec PyProof.Rows L2

/-! ### targets -/
def gT (K : PySem.W.Frag) (tg : Tg) : TG := fun x σ H k => ∃ ι d ρ ρ', Rp K H ι x d ∧ EnvOk K H ι σ ρ ∧ asg tg d ρ = some ρ' ∧ ∀ σ', σ'.length = σ.length → (∀ j, j ∉ tg.slots → σ'[j]? = σ[j]?) → EnvOk K H ι σ' ρ' → k σ' H
def gTs (K : PySem.W.Frag) (tg : Tg) : TGs := fun xs σ H k => ∃ ι ds ρ ρ', RpL K H ι xs ds ∧ EnvOk K H ι σ ρ ∧ asgs tg ds ρ = some ρ' ∧ ∀ σ', σ'.length = σ.length → (∀ j, j ∉ tg.slots → σ'[j]? = σ[j]?) → EnvOk K H ι σ' ρ' → k σ' H
section
variable {X : Cx} {XR : XRT} {W : WX} {C : CallF} {pos : Pos}
theorem PG.imp {e : Expr} {t t' : TG} (h : PG X e t) (i : ∀ x σ H k, t' x σ H k → t x σ H k) : PG X e t' := ⟨fun pins s σ H v u Q I r q => h.run pins s σ H v u Q I r (i _ _ _ _ q)⟩
theorem PGs.imp {e : List Expr} {t t' : TGs} (h : PGs X e t) (i : ∀ x σ H k, t' x σ H k → t x σ H k) : PGs X e t' := ⟨fun pins s σ H v u Q I r q => h.run pins s σ H v u Q I r (i _ _ _ _ q)⟩
theorem PG.or {e : Expr} {t t' : TG} (h : PG X e t) (h' : PG X e t') : PG X e (fun x σ H k => t x σ H k ∨ t' x σ H k) := ⟨fun pins s σ H v u Q I r q => q.elim (h.run pins s σ H v u Q I r) (h'.run pins s σ H v u Q I r)⟩
theorem set_other {α : Type} {l : List α} {i j : Nat} {a : α} (h : j ≠ i) : (l.set i a)[j]? = l[j]? := List.getElem?_set_ne (Ne.symm h)
theorem t_nm {i : Nat} {x : Str} (hN : X.N.Nodup) (hi : X.N[i]? = some x) (hx : Loc X.env.scope x) (hf : X.fn x = true ∨ X.env.scope.names.lookup x = some .local) : PG X (.Name x pos) (gT X.K (.nm i)) :=
  PG.imp (pg_name hN hi hx hf) fun v σ H k ⟨ι, d, ρ, ρ', r, hE, ha, q⟩ => by
    simp only [asg, Option.some.injEq] at ha
    subst ha
    exact q _ (by simp) (fun j hj => set_other (by simpa [Tg.slots] using hj)) (hE.set i r)
theorem seqD_ok {K : PySem.W.Frag} {H : Hp} {ι : Ad} {v : V} {d : D} {ds : List D} (r : Rp K H ι v d) (h : seqD d = some ds) : ∃ a xs, v = .ref a ∧ RpL K H ι xs ds ∧ (SqT K H a xs ∨ SqL K H a xs) := by
  cases r with
  | tup h1 r1 => simp only [seqD, Option.some.injEq] at h; subst h; exact ⟨_, _, rfl, r1, .inl h1⟩
  | lst h1 _ r1 => simp only [seqD, Option.some.injEq] at h; subst h; exact ⟨_, _, rfl, r1, .inr (SqL.of h1)⟩
  | fz h1 r1 => simp only [seqD, Option.some.injEq] at h; subst h; exact ⟨_, _, rfl, r1, .inr h1.sq⟩
  | _ => simp [seqD] at h
theorem asgs_len : ∀ {tg : Tg} {ds : List D} {ρ ρ' : Rho}, asgs tg ds ρ = some ρ' → ρ'.length = ρ.length
  | .nil, [], ρ, ρ', h => by simp only [asgs, Option.some.injEq] at h; rw [h]
  | .nil, _ :: _, ρ, ρ', h => by simp [asgs] at h
  | .nm _, _, ρ, ρ', h => by simp [asgs] at h
  | .tp _, _, ρ, ρ', h => by simp [asgs] at h
  | .cons t r, [], ρ, ρ', h => by cases t <;> simp [asgs] at h
  | .cons (.nm i) r, d :: ds, ρ, ρ', h => by
    simp only [asgs] at h
    rw [asgs_len h]; simp
  | .cons (.tp t) r, d :: ds, ρ, ρ', h => by
    simp only [asgs] at h
    split at h
    · split at h
      · rename_i h2
        rw [asgs_len h, asgs_len h2]
      · cases h
    · cases h
  | .cons .nil r, d :: ds, ρ, ρ', h => by simp [asgs] at h
  | .cons (.cons _ _) r, d :: ds, ρ, ρ', h => by simp [asgs] at h
/-- how many targets -/
def Tg.len : Tg → Nat
  | .cons _ r => r.len + 1
  | _ => 0
theorem asgs_count : ∀ {tg : Tg} {ds : List D} {ρ ρ' : Rho}, asgs tg ds ρ = some ρ' → ds.length = tg.len
  | .nil, [], ρ, ρ', h => rfl
  | .nil, _ :: _, ρ, ρ', h => by simp [asgs] at h
  | .nm _, _, ρ, ρ', h => by simp [asgs] at h
  | .tp _, _, ρ, ρ', h => by simp [asgs] at h
  | .cons t r, [], ρ, ρ', h => by cases t <;> simp [asgs] at h
  | .cons (.nm i) r, d :: ds, ρ, ρ', h => by
    simp only [asgs] at h
    simp [Tg.len, asgs_count h]
  | .cons (.tp t) r, d :: ds, ρ, ρ', h => by
    simp only [asgs] at h
    split at h
    · split at h
      · simp [Tg.len, asgs_count h]
      · cases h
    · cases h
  | .cons .nil r, d :: ds, ρ, ρ', h => by simp [asgs] at h
  | .cons (.cons _ _) r, d :: ds, ρ, ρ', h => by simp [asgs] at h
theorem t_tp {es : List Expr} {k : Nat} {t : Tg} (hc : X.calm = true) (h : PGs X es (gTs X.K t)) (hn : (assignEach es X.env).length = t.len) (hst : (assignEach es X.env).findIdx? (·.1) = none) : PG X (.Tuple es k pos) (gT X.K (.tp t)) := by
  refine PG.imp (PG.or (pg_tup hc h hn hst) (pg_unl hc h hn hst)) fun v σ H kk ⟨ι, d, ρ, ρ', r, hE, ha, q⟩ => ?_
  simp only [asg] at ha
  split at ha
  · rename_i ds hd
    obtain ⟨a, xs, rfl, rl, hk⟩ := seqD_ok r hd
    have hl : xs.length = t.len := by rw [rl.length]; exact asgs_count ha
    rcases hk with hk | hk
    · exact .inl ⟨a, xs, rfl, hk, hl, ι, ds, ρ, ρ', rl, hE, ha, q⟩
    · exact .inr ⟨a, xs, rfl, hk, hl, ι, ds, ρ, ρ', rl, hE, ha, q⟩
  · cases ha
theorem ts_nil : PGs X [] (gTs X.K .nil) := PGs.imp pgs_nil fun xs σ H k ⟨ι, ds, ρ, ρ', r, hE, ha, q⟩ => by
  cases r with
  | nil =>
    simp only [asgs, Option.some.injEq] at ha
    subst ha
    exact ⟨rfl, q σ rfl (fun _ _ => rfl) hE⟩
  | cons _ _ => simp [asgs] at ha
theorem ts_cons {e : Expr} {es : List Expr} {t r : Tg} (h1 : PG X e (gT X.K t)) (h2 : PGs X es (gTs X.K r)) (hs : (assignEach (e :: es) X.env).map (·.2) = assign e X.env :: (assignEach es X.env).map (·.2)) : PGs X (e :: es) (gTs X.K (.cons t r)) :=
  PGs.imp (pgs_cons h1 h2 hs) fun xs σ H k ⟨ι, ds, ρ, ρ', rl, hE, ha, q⟩ => by
    cases rl with
    | nil => cases t <;> simp [asgs] at ha
    | @cons v vs d ds r1 r2 =>
      have key : ∃ ρ1, asg t d ρ = some ρ1 ∧ asgs r ds ρ1 = some ρ' := by
        cases t with
        | nm i => exact ⟨_, rfl, by simpa [asgs] using ha⟩
        | tp t =>
          simp only [asgs] at ha
          split at ha
          · rename_i es' he
            split at ha
            · rename_i ρ1 h1
              exact ⟨ρ1, by simp only [asg, he, h1], ha⟩
            · cases ha
          · cases ha
        | nil => simp [asgs] at ha
        | cons _ _ => simp [asgs] at ha
      obtain ⟨ρ1, ha1, ha2⟩ := key
      refine ⟨v, vs, rfl, ι, d, ρ, ρ1, r1, hE, ha1, fun σ1 hl1 ho1 hE1 => ⟨ι, ds, ρ1, ρ', r2, hE1, ha2, fun σ2 hl2 ho2 hE2 => q σ2 (hl2.trans hl1) (fun j hj => ?_) hE2⟩⟩
      simp only [Tg.slots, List.mem_append, not_or] at hj
      rw [ho2 j hj.2, ho1 j hj.1]
theorem wipe_get (σ : L2.St) : ∀ (vs : List Nat) (j : Nat), (wipe σ vs)[j]? = if j ∈ vs ∧ j < σ.length then some none else σ[j]?
  | [], j => by simp [wipe]
  | v :: vs, j => by
    simp only [wipe]
    by_cases e : v = j
    · subst e
      by_cases hl : v < σ.length
      · rw [List.getElem?_set_self (by rw [wipe_length]; exact hl), if_pos ⟨List.mem_cons_self, hl⟩]
      · rw [List.set_eq_of_length_le (by rw [wipe_length]; omega), wipe_get σ vs v, if_neg (fun z => hl z.2), if_neg (fun z => hl z.2)]
    · rw [List.getElem?_set_ne e, wipe_get σ vs j]
      by_cases h : j ∈ vs ∧ j < σ.length
      · rw [if_pos h, if_pos ⟨List.mem_cons_of_mem _ h.1, h.2⟩]
      · rw [if_neg h, if_neg]
        rintro ⟨h1, h2⟩
        rcases List.mem_cons.mp h1 with h1 | h1
        · exact e h1.symm
        · exact h ⟨h1, h2⟩
theorem wipe_same {σ σ2 : L2.St} {vs : List Nat} (hl : σ2.length = (wipe σ vs).length) (h : ∀ j, j ∉ vs → σ2[j]? = (wipe σ vs)[j]?) : wipe σ2 vs = wipe σ vs := by
  rw [wipe_length] at hl
  refine List.ext_getElem? fun j => ?_
  rw [wipe_get, wipe_get, hl]
  by_cases hj : j ∈ vs
  · by_cases hlt : j < σ.length
    · rw [if_pos ⟨hj, hlt⟩, if_pos ⟨hj, hlt⟩]
    · rw [if_neg (fun z => hlt z.2), if_neg (fun z => hlt z.2), List.getElem?_eq_none (by omega), List.getElem?_eq_none (by omega)]
  · rw [if_neg (fun z => hj z.1), if_neg (fun z => hj z.1), h j hj, wipe_get, if_neg (fun z => hj z.1)]

/-! ### what is walked -/
def ItOk (K : PySem.W.Frag) (J : It) (dp : Option (Nat × Cell)) (ds : List D) (H1 : Hp) (ι1 : Ad) : Prop := ∀ i H ι S, Ext ι1 H1 ι H → StOk K H ι S → depOk S dp →
  (i = ds.length → J.stop i H) ∧ ∀ d, ds[i]? = some d → J.go i H ∧ ∀ x H', J.yld i H x H' → Ext ι H ι H' ∧ StOk K H' ι S ∧ Rp K H' ι x d
def tI (K : PySem.W.Frag) (XR : XRT) (W : WX) (r : Rho → Sto → R (Option (Nat × Cell) × List D)) : TI := fun σ H R => ∃ ι S ρ, EnvOk K H ι σ ρ ∧ StOk K H ι S ∧
  EndG K XR W ι H σ (fun J p H' ι' S' => ItOk K J p.1 p.2 H' ι' ∧ depOk S' p.1) (r ρ S) R
noncomputable def evI (C : CallF) (it : G) (ρ : Rho) (S : Sto) : R (Option (Nat × Cell) × List D) := (ev C it ρ S).bind fun x S1 => match items S1 x with
  | some ds => .ok (dep S1 x, ds) S1
  | none => .no

/-! ### comprehensions -/
abbrev WF : WX := fun _ _ _ _ => False
theorem nox_in {K : PySem.W.Frag} {ι ι1 : Ad} {H H1 : Hp} {σ σ' : L2.St} {α β gm δ : Type} {rep : δ → gm → Hp → Ad → Sto → Prop} {rep' : β → α → Hp → Ad → Sto → Prop} {r : R α} {g : α → Sto → R gm} {Q : δ → Hp → Prop}
    (h : EndG K XR W ι1 H1 σ rep (r.nox.bind g) Q) : EndG K XR WF ι H σ' rep' r fun b H' => ∃ ι' S' a, Ext ι H ι' H' ∧ StOk K H' ι' S' ∧ rep' b a H' ι' S' ∧ EndG K XR W ι1 H1 σ rep (g a S') Q := by
  cases r with
  | ok a S => exact fun b H' ι' e s rp => ⟨ι', S, a, e, s, rp, h⟩
  | exc c v S => exact h.elim
  | no => exact h.elim
theorem g_comp {elt tg iter : Expr} {ifs : List Expr} {scope : Scope} {own : List (Str × Nat)} {tgt : Tg} {gi gc ge : G} (hc : X.calm = true) (hN : X.N.Nodup) (hi : PI X tg iter (tI X.K XR W (evI C gi))) (ok : BlkOk X.N X.env.scope scope own)
    (hg : ∀ (s : Shared) (H : Hp) (A : Addr) (cl : List (Str × Addr)) (fp : List Addr), PG (X.blk s H scope (compEnvC scope cl A X.env) fp) tg (gT X.K tgt))
    (ht : ∀ (s : Shared) (H : Hp) (A : Addr) (cl : List (Str × Addr)) (fp : List Addr), PTs (X.blk s H scope (compEnvC scope cl A X.env) fp) ifs (tT X.K XR WF (ev C gc)))
    (he : ∀ (s : Shared) (H : Hp) (A : Addr) (cl : List (Str × Addr)) (fp : List Addr), PE (X.blk s H scope (compEnvC scope cl A X.env) fp) elt (tE X.K XR WF false (ev C ge)))
    (hsl : ∀ j ∈ tgt.slots, j ∈ own.map (·.2)) : ∀ σ H Q, tE X.K XR W true (ev C (.comp (own.map (·.2)) tgt gi gc ge)) σ H Q → tLc (tI X.K XR W (evI C gi)) (gT X.K tgt) (tT X.K XR WF (ev C gc)) (tE X.K XR WF false (ev C ge)) (own.map (·.2)) σ H Q := by
  intro σ H Q ⟨ι, S, ρ, hE, hS, q⟩
  have q' : EndG X.K XR W ι H σ (repE X.K true H) ((evI C gi ρ S).bind fun p S1 => (compL p.1 (fun d S2 => match asg tgt d (wipeD ρ (own.map (·.2))) with
        | some ρ' => ((ev C gc ρ' S2).bind fun t S3 => R.of S3 (truth S3 t)).nox.bind fun k S4 =>
            if k = true then (ev C ge ρ' S4).nox.bind fun y S5 => .ok (some y) S5 else .ok none S4
        | none => .no) p.2 [] S1).bind fun l S2 => .ok (.lst l) S2) Q := by
    have e : ev C (.comp (own.map (·.2)) tgt gi gc ge) ρ S = (evI C gi ρ S).bind fun p S1 => (compL p.1 (fun d S2 => match asg tgt d (wipeD ρ (own.map (·.2))) with
        | some ρ' => ((ev C gc ρ' S2).bind fun t S3 => R.of S3 (truth S3 t)).nox.bind fun k S4 =>
            if k = true then (ev C ge ρ' S4).nox.bind fun y S5 => .ok (some y) S5 else .ok none S4
        | none => .no) p.2 [] S1).bind fun l S2 => .ok (.lst l) S2 := by
      simp only [ev, evI, bind_assoc_R]
      congr 1
      funext x S1
      cases items S1 x <;> rfl
    rw [← e]; exact q
  clear q
  refine ⟨ι, S, ρ, hE, hS, (EndG.bind q').imp fun J H1 ⟨ι1, S1, p, e1, s1, ⟨ito, dpo⟩, q1⟩ => ?_⟩
  obtain ⟨dp, ds⟩ := p
  intro A hA
  simp only at ito dpo q1
  have hA0 := s1.out hA
  let f : D → Sto → R (Option D) := fun d S2 => match asg tgt d (wipeD ρ (own.map (·.2))) with
        | some ρ' => ((ev C gc ρ' S2).bind fun t S3 => R.of S3 (truth S3 t)).nox.bind fun k S4 =>
            if k = true then (ev C ge ρ' S4).nox.bind fun y S5 => .ok (some y) S5 else .ok none S4
        | none => .no
  let Inv' : Nat → Hp → Prop := fun i H' => i ≤ ds.length ∧ ∃ ι' S' acc dacc, Ext ι1 H1 ι' H' ∧ StOk X.K H' ι' S' ∧ A ∈ ι'.g ∧ H' A = some (.lst acc) ∧ RpL X.K H' ι' acc dacc ∧ depOk S' dp ∧
      EndG X.K XR W ι1 H1 σ (repE X.K true H) ((compL dp f (ds.drop i) dacc S').bind fun l S2 => .ok (.lst l) S2) Q
  refine ⟨fun i m H' => m = ds.length - i ∧ Inv' i H', ⟨ds.length, rfl, Nat.zero_le _, ι1.gh A, S1, [], [], Ext.ghost ι1 hA, s1.ghost hA, List.mem_cons_self, upd_same, .nil, dpo, q1⟩, ?_⟩
  rintro i m H' ⟨rfl, hi, ι', S', acc, dacc, e', s', hAg, hAl, racc, dp', q'⟩
  obtain ⟨istop, igo⟩ := ito i H' ι' S' e' s' dp'
  by_cases hlt : i < ds.length
  · -- a turn
    right
    have hd : ds[i]? = some ds[i] := List.getElem?_eq_getElem hlt
    obtain ⟨go, yld⟩ := igo ds[i] hd
    refine ⟨go, Inv' (i + 1), fun H2 h2 => ⟨ds.length - (i + 1), by omega, rfl, h2⟩, fun x H2 hy => ?_⟩
    obtain ⟨e2, s2, r2⟩ := yld x H2 hy
    rw [List.drop_eq_getElem_cons hlt] at q'
    simp only [compL, bind_assoc_R] at q'
    have nc : A ∉ ι'.c := (s'.gh A hAg).1
    have hA2 : H2 A = some (.lst acc) := e2.keep A _ hAl nc
    have hE2 : EnvOk X.K H2 ι' (wipe σ (own.map (·.2))) (wipeD ρ (own.map (·.2))) := (((hE.ext e1).ext e').ext e2).wipe _
    show gT X.K tgt x (wipe σ (own.map (·.2))) H2 _
    cases ha : asg tgt ds[i] (wipeD ρ (own.map (·.2))) with
    | none =>
      have : f ds[i] S' = .no := by simp only [f, ha]
      rw [this] at q'
      exact q'.elim
    | some ρ' =>
      have hf : f ds[i] S' = ((ev C gc ρ' S').bind fun t S3 => R.of S3 (truth S3 t)).nox.bind fun k S4 => if k = true then (ev C ge ρ' S4).nox.bind fun y S5 => .ok (some y) S5 else .ok none S4 := by simp only [f, ha]
      rw [hf] at q'
      simp only [bind_assoc_R] at q'
      refine ⟨ι', ds[i], _, ρ', r2, hE2, ha, fun σ2 hl2 ho2 hE3 => ⟨wipe_same hl2 fun j hj => ho2 j fun z => hj (hsl j z), ι', S', ρ', hE3, s2, ?_⟩⟩
      refine (nox_in (ι := ι') (H := H2) (σ' := σ2) (rep' := fun b b' _ _ _ => b = b') q').imp fun k H3 ⟨ι3, S3, k', e3, s3, ek, q3⟩ => ?_
      subst ek
      cases k with
      | false =>
        simp only [Bool.false_eq_true, if_false, R.bind_ok] at q3 ⊢
        by_cases hdp : depOk S3 dp
        · rw [if_pos hdp] at q3
          have e13 := (e'.trans e2).trans e3
          exact ⟨hlt, ι3, S3, acc, dacc, e13, s3, by
            obtain ⟨l, m, _, hg3, _⟩ := (e2.trans e3).more
            rw [hg3]; exact List.mem_append_right _ hAg, e3.keep A _ hA2 nc, (racc.ext e2).ext e3, hdp, q3⟩
        · rw [if_neg hdp] at q3
          exact q3.elim
      | true =>
        simp only [if_true, bind_assoc_R] at q3 ⊢
        refine ⟨ι3, S3, ρ', hE3.ext e3, s3, (nox_in (ι := ι3) (H := H3) (σ' := σ2) (rep' := repE X.K false H3) q3).imp fun y H4 ⟨ι4, S4, dy, e4, s4, ry, q4⟩ => ?_⟩
        simp only [R.bind_ok] at q4
        by_cases hdp : depOk S4 dp
        · rw [if_pos hdp] at q4
          by_cases hz : szOk (dacc.length + 1)
          · rw [if_pos hz] at q4
            have e14 := ((e'.trans e2).trans e3).trans e4
            have e24 := (e2.trans e3).trans e4
            have hAg4 : A ∈ ι4.g := by
              obtain ⟨l, m, _, hg4, _⟩ := e24.more
              rw [hg4]; exact List.mem_append_right _ hAg
            have nc3 : A ∉ ι3.c := by
              have h3 := e3.out hA2
              intro z
              obtain ⟨l, m, hc3, _, hl, _⟩ := e3.more
              rw [hc3] at z
              rcases List.mem_append.mp z with z | z
              · exact nc z
              · rw [hl A z] at hA2; cases hA2
            have hA4 : H4 A = some (.lst acc) := e4.keep A _ (e3.keep A _ hA2 nc) nc3
            have hz' : acc.length + 1 ≤ 16777216 := by rw [racc.length]; exact hz
            refine ⟨acc, hA4, by rw [sizeLine_eq]; omega, hlt, ι4, S4, acc ++ [y], dacc ++ [dy], e14.gwrite s4 hAg4 hA, s4.gw hAg4, hAg4, upd_same, ?_, hdp, q4⟩
            exact RpL.append (((racc.ext e24)).gw hAg4 hA4) (.cons (ry.1.gw hAg4 hA4) .nil)
          · rw [if_neg hz] at q4
            exact q4.elim
        · rw [if_neg hdp] at q4
          exact q4.elim
  · -- the end
    left
    have hi' : i = ds.length := by omega
    refine ⟨istop hi', ?_⟩
    rw [hi', List.drop_length] at q'
    simp only [compL, R.bind_ok] at q'
    obtain ⟨l, m, hcc, hgg, hll, hmm⟩ := e'.more
    have sub : Sub ι' ⟨ι'.c, ι1.g⟩ := ⟨rfl, fun a ha => by rw [hgg]; exact List.mem_append_right _ ha⟩
    have sub2 : Sub ι' ((⟨ι'.c, ι1.g⟩ : Ad).gh A) := ⟨rfl, fun a ha => by
      rcases List.mem_cons.mp ha with rfl | ha
      · exact hAg
      · exact sub.g a ha⟩
    have out : (⟨ι'.c, ι1.g⟩ : Ad).out A := ⟨(s'.gh A hAg).1, hA0.2⟩
    exact q' (.ref A) H' ⟨ι'.c, ι1.g⟩ ⟨⟨l, [], hcc, rfl, hll, by simp⟩, e'.keep, e'.tups, e'.frzs, e'.dom⟩ (s'.sub sub) ⟨.lst hAl out (racc.sub sub), fun _ => ⟨A, acc, rfl, e1.fresh hA, out, hAl, racc.sub sub2, s'.sub sub2⟩⟩
theorem g_lc {elt tg iter : Expr} {ifs : List Expr} {scope : Scope} {own : List (Str × Nat)} {pos : Pos} {tgt : Tg} {gi gc ge : G} (hc : X.calm = true) (hN : X.N.Nodup) (hi : PI X tg iter (tI X.K XR W (evI C gi))) (ok : BlkOk X.N X.env.scope scope own)
    (hg : ∀ (s : Shared) (H : Hp) (A : Addr) (cl : List (Str × Addr)) (fp : List Addr), PG (X.blk s H scope (compEnvC scope cl A X.env) fp) tg (gT X.K tgt))
    (ht : ∀ (s : Shared) (H : Hp) (A : Addr) (cl : List (Str × Addr)) (fp : List Addr), PTs (X.blk s H scope (compEnvC scope cl A X.env) fp) ifs (tT X.K XR WF (ev C gc)))
    (he : ∀ (s : Shared) (H : Hp) (A : Addr) (cl : List (Str × Addr)) (fp : List Addr), PE (X.blk s H scope (compEnvC scope cl A X.env) fp) elt (tE X.K XR WF false (ev C ge)))
    (hsl : ∀ j ∈ tgt.slots, j ∈ own.map (·.2)) (hs : ∀ x, foldedSetIterable iter X.env x = pure x) : PE X (.ListComp elt [⟨tg, iter, ifs, 0⟩] scope pos) (tE X.K XR W true (ev C (.comp (own.map (·.2)) tgt gi gc ge))) :=
  PE.imp (pe_lc hc hN hi ok hg ht he hs) (g_comp hc hN hi ok hg ht he hsl)
theorem ts_yes : PTs X [] (tT X.K XR W (ev C (.cst (.bl true)))) := ⟨fun pins s σ H Q I ⟨ι, S, ρ, hE, hS, q⟩ => pts_nil.run pins s σ H Q I (q true H ι (Ext.refl _ _) hS rfl)⟩
end
end GV

set_option linter.all false
set_option maxHeartbeats 2000000
set_option maxRecDepth 100000
/-! GV, part m: statements. -/
namespace GV
open PySem PySem.Spec PyProof.Rows L2

def EndS (K : PySem.W.Frag) (XR : XRT) (W : WX) (ι : Ad) (H : Hp) (r : SR) (D : Ends) : Prop := match r with
  | .nx ρ' S' => ∀ σ' H' ι', Ext ι H ι' H' → StOk K H' ι' S' → EnvOk K H' ι' σ' ρ' → D.nx σ' H'
  | .ct ρ' S' => ∀ σ' H' ι', Ext ι H ι' H' → StOk K H' ι' S' → EnvOk K H' ι' σ' ρ' → D.ct σ' H'
  | .rt d S' => ∀ v H' ι', Ext ι H ι' H' → StOk K H' ι' S' → Rp K H' ι' v d → D.rt v H'
  | .exc c e ρ' S' => ∀ cls dd σ' H' ι', Ext ι H ι' H' → StOk K H' ι' S' → EnvOk K H' ι' σ' ρ' → XR c e cls dd H' ι' → W cls dd σ' H'
  | .no => False
def tS (K : PySem.W.Frag) (XR : XRT) (W : WX) (r : Rho → Sto → SR) : TS := fun D σ H => ∃ ι S ρ, EnvOk K H ι σ ρ ∧ StOk K H ι S ∧ EndS K XR W ι H (r ρ S) D
section
variable {K : PySem.W.Frag} {XR : XRT} {W : WX} {ι ι1 : Ad} {H H1 : Hp} {D : Ends}
theorem EndS.shift {r : SR} (h : EndS K XR W ι H r D) (e : Ext ι H ι1 H1) : EndS K XR W ι1 H1 r D := by
  cases r with
  | nx ρ S => exact fun σ' H' ι' e' => h σ' H' ι' (e.trans e')
  | ct ρ S => exact fun σ' H' ι' e' => h σ' H' ι' (e.trans e')
  | rt d S => exact fun v H' ι' e' => h v H' ι' (e.trans e')
  | exc c v ρ S => exact fun cls dd σ' H' ι' e' => h cls dd σ' H' ι' (e.trans e')
  | no => exact h
/-- from an expression to what follows -/
theorem EndS.st {α β : Type} {rep : β → α → Hp → Ad → Sto → Prop} {r : R α} {ρ : Rho} {f : α → Sto → SR} {σ : L2.St} (hE : EnvOk K H ι σ ρ) (h : EndS K XR W ι H (r.st ρ f) D) :
    EndG K XR W ι H σ rep r fun b H' => ∃ ι' S' a, Ext ι H ι' H' ∧ StOk K H' ι' S' ∧ rep b a H' ι' S' ∧ EndS K XR W ι' H' (f a S') D := by
  cases r with
  | ok a S => exact fun b H' ι' e s rp => ⟨ι', S, a, e, s, rp, EndS.shift h e⟩
  | exc c v S => exact fun cls dd H' ι' e s x => h cls dd σ H' ι' e s (hE.ext e) x
  | no => exact h
end
theorem PS.imp {X : Cx} {st : Stmt} {t t' : TS} (h : PS X st t) (i : ∀ D σ H, t' D σ H → t D σ H) : PS X st t' := ⟨fun pins s σ H D I q => h.run pins s σ H D I (i _ _ _ q)⟩
theorem PSs.imp {X : Cx} {st : List Stmt} {t t' : TS} (h : PSs X st t) (i : ∀ D σ H, t' D σ H → t D σ H) : PSs X st t' := ⟨fun pins s σ H D I q => h.run pins s σ H D I (i _ _ _ q)⟩
section
variable {X : Cx} {XR : XRT} {W : WX} {C : CallF} {pos : Pos} {fe : Bool} {e : Expr} {ge : G}
theorem s_skip : PS X (.Pass pos) (tS X.K XR W (evS C .skip)) := PS.imp ps_pass fun D σ H ⟨ι, S, ρ, hE, hS, q⟩ => q σ H ι (Ext.refl _ _) hS hE
theorem s_cont : PS X (.Continue pos) (tS X.K XR W (evS C .cont)) := PS.imp ps_continue fun D σ H ⟨ι, S, ρ, hE, hS, q⟩ => q σ H ι (Ext.refl _ _) hS hE
theorem s_retN : PS X (.Return none pos) (tS X.K XR W (evS C .retN)) := PS.imp ps_retN fun D σ H ⟨ι, S, ρ, hE, hS, q⟩ => q .non H ι (Ext.refl _ _) hS .non
theorem s_ret (he : PE X e (tE X.K XR W fe (ev C ge))) : PS X (.Return (some e) pos) (tS X.K XR W (evS C (.ret ge))) :=
  PS.imp (ps_ret he) fun D σ H ⟨ι, S, ρ, hE, hS, q⟩ => ⟨ι, S, ρ, hE, hS, (EndS.st hE (show EndS _ _ _ _ _ ((ev C ge ρ S).st ρ _) _ from q)).imp fun v H1 ⟨ι1, S1, d, e1, s1, r1, q1⟩ => q1 v H1 ι1 (Ext.refl _ _) s1 r1.1⟩
theorem s_ex (he : PE X e (tE X.K XR W fe (ev C ge))) (hs : swapsWith e none pos.line X.env = pure false) : PS X (.Expr e pos) (tS X.K XR W (evS C (.ex ge))) :=
  PS.imp (ps_expr he hs) fun D σ H ⟨ι, S, ρ, hE, hS, q⟩ => ⟨ι, S, ρ, hE, hS, (EndS.st hE (show EndS _ _ _ _ _ ((ev C ge ρ S).st ρ _) _ from q)).imp fun v H1 ⟨ι1, S1, d, e1, s1, r1, q1⟩ => q1 σ H1 ι1 (Ext.refl _ _) s1 (hE.ext e1)⟩
theorem s_doc {x : Str} {j : Nat} {p : Pos} : PS X (.Expr (.Constant (.str x) j p) pos) (tS X.K XR W (evS C .skip)) := PS.imp ps_doc fun D σ H ⟨ι, S, ρ, hE, hS, q⟩ => q σ H ι (Ext.refl _ _) hS hE
/-- a target of any form takes a value -/
theorem tgt_nx {tgt : Tg} {DD : Ends} {K : PySem.W.Frag} {σ : L2.St} {H : Hp} {ι : Ad} {S : Sto} {ρ : Rho} {x : V} {d : D} (hE : EnvOk K H ι σ ρ) (hS : StOk K H ι S) (r : Rp K H ι x d)
    (q : EndS K XR W ι H (match asg tgt d ρ with | some ρ' => .nx ρ' S | none => .no) DD) : gT K tgt x σ H DD.nx := by
  cases ha : asg tgt d ρ with
  | none => rw [ha] at q; exact q.elim
  | some ρ' =>
    rw [ha] at q
    exact ⟨ι, d, ρ, ρ', r, hE, ha, fun σ' _ _ hE' => q σ' H ι (Ext.refl _ _) hS hE'⟩
theorem asg_len {tg : Tg} {d : D} {ρ ρ' : Rho} (h : asg tg d ρ = some ρ') : ρ'.length = ρ.length := by
  cases tg with
  | nm i => simp only [asg, Option.some.injEq] at h; rw [← h]; simp
  | tp t =>
    simp only [asg] at h
    split at h
    · exact asgs_len h
    · cases h
  | nil => simp [asg] at h
  | cons _ _ => simp [asg] at h
theorem s_unp {tg : Expr} {tgt : Tg} (hg : PG X tg (gT X.K tgt)) (he : PE X e (tE X.K XR W fe (ev C ge))) (hs : swapsWithSole [tg] e pos.line X.env = pure false) (hw : swappedStores [tg] e X.env = pure none) (h1 : (assignEach [tg] X.env).map (·.2) = [assign tg X.env]) :
    PS X (.Assign [tg] e pos) (tS X.K XR W (evS C (.unp tgt ge))) :=
  PS.imp (ps_asg he hg hs hw h1) fun D σ H ⟨ι, S, ρ, hE, hS, q⟩ => ⟨ι, S, ρ, hE, hS, (EndS.st hE (show EndS _ _ _ _ _ ((ev C ge ρ S).st ρ _) _ from q)).imp fun v H1 ⟨ι1, S1, d, e1, s1, r1, q1⟩ => tgt_nx (hE.ext e1) s1 r1.1 q1⟩
theorem set_unp (C : CallF) (i : Nat) (g : G) : evS C (.set i g) = evS C (.unp (.nm i) g) := by
  funext ρ S
  simp only [evS, asg]
/-- name = [..] of one line -/
theorem s_setLc {i : Nat} {y : Str} {py : Pos} {elt tg iter : Expr} {ifs : List Expr} {scope : Scope} {own : List (Str × Nat)} {spos : Pos} {tgt : Tg} {gi gc gl : G} (hc : X.calm = true) (hN : X.N.Nodup) (hy : X.N[i]? = some y) (hyl : X.env.scope.names.lookup y = some .local)
    (hsw : swapsWith (.ListComp elt [⟨tg, iter, ifs, 0⟩] scope pos) (some (.Name y py)) spos.line X.env = pure true) (hi : PI X tg iter (tI X.K XR W (evI C gi))) (ok : BlkOk X.N X.env.scope scope own)
    (hg : ∀ (s : Shared) (H : Hp) (A : Addr) (cl : List (Str × Addr)) (fp : List Addr), PG (X.blk s H scope (compEnvC scope cl A X.env) fp) tg (gT X.K tgt))
    (ht : ∀ (s : Shared) (H : Hp) (A : Addr) (cl : List (Str × Addr)) (fp : List Addr), PTs (X.blk s H scope (compEnvC scope cl A X.env) fp) ifs (tT X.K XR WF (ev C gc)))
    (he : ∀ (s : Shared) (H : Hp) (A : Addr) (cl : List (Str × Addr)) (fp : List Addr), PE (X.blk s H scope (compEnvC scope cl A X.env) fp) elt (tE X.K XR WF false (ev C gl)))
    (hsl : ∀ j ∈ tgt.slots, j ∈ own.map (·.2)) (hs : ∀ x, foldedSetIterable iter X.env x = pure x) {a : Bool} :
    PS X (.Assign [.Name y py] (.ListComp elt [⟨tg, iter, ifs, 0⟩] scope pos) spos) (tS X.K XR W (evS C (.set i (if a = true then .alc (.comp (own.map (·.2)) tgt gi gc gl) else .comp (own.map (·.2)) tgt gi gc gl)))) := by
  refine PS.imp (ps_setLc hc hN hy hyl hsw hi ok hg ht he hs) fun D σ H ⟨ι, S, ρ, hE, hS, q⟩ => ?_
  refine g_comp hc hN hi ok hg ht he hsl σ H _ ?_
  cases a with
  | false =>
    refine ⟨ι, S, ρ, hE, hS, (EndS.st hE (show EndS _ _ _ _ _ ((ev C (.comp (own.map (·.2)) tgt gi gc gl) ρ S).st ρ _) _ from q)).imp fun v H1 ⟨ι1, S1, d, e1, s1, r1, q1⟩ => ?_⟩
    exact q1 _ H1 ι1 (Ext.refl _ _) s1 ((hE.ext e1).set i r1.1)
  | true =>
    refine alc_in σ H _ ⟨ι, S, ρ, hE, hS, (EndS.st hE (show EndS _ _ _ _ _ ((ev C (.alc (.comp (own.map (·.2)) tgt gi gc gl)) ρ S).st ρ _) _ from q)).imp fun v H1 ⟨ι1, S1, d, e1, s1, r1, q1⟩ => ?_⟩
    exact q1 _ H1 ι1 (Ext.refl _ _) s1 ((hE.ext e1).set i r1.1)
theorem s_if {c : Expr} {a b : List Stmt} {gc : G} {sa sb : St} (hc : PT X c (tT X.K XR W (ev C gc))) (ha : PSs X a (tS X.K XR W (evS C sa))) (hb : PSs X b (tS X.K XR W (evS C sb))) : PS X (.If c a b pos) (tS X.K XR W (evS C (.ite gc sa sb))) :=
  PS.imp (ps_if hc ha hb) fun D σ H ⟨ι, S, ρ, hE, hS, q⟩ => ⟨ι, S, ρ, hE, hS, (EndS.st hE (show EndS _ _ _ _ _ (((ev C gc ρ S).bind _).st ρ _) _ from q)).imp fun k H1 ⟨ι1, S1, k', e1, s1, ek, q1⟩ => by
    subst ek
    cases k with
    | true => exact ⟨ι1, S1, ρ, hE.ext e1, s1, q1⟩
    | false => exact ⟨ι1, S1, ρ, hE.ext e1, s1, q1⟩⟩
theorem ss_nil : PSs X [] (tS X.K XR W (evS C .skip)) := PSs.imp pss_nil fun D σ H ⟨ι, S, ρ, hE, hS, q⟩ => q σ H ι (Ext.refl _ _) hS hE
theorem ss_cons {st : Stmt} {r : List Stmt} {a b : St} (h1 : PS X st (tS X.K XR W (evS C a))) (h2 : PSs X r (tS X.K XR W (evS C b))) : PSs X (st :: r) (tS X.K XR W (evS C (.seq a b))) := by
  refine PSs.imp (pss_cons h1 h2) fun D σ H ⟨ι, S, ρ, hE, hS, q⟩ => ⟨ι, S, ρ, hE, hS, ?_⟩
  simp only [evS] at q
  cases hr : evS C a ρ S with
  | nx ρ' S' =>
    rw [hr] at q
    exact fun σ' H' ι' e s hE' => ⟨ι', S', ρ', hE', s, EndS.shift q e⟩
  | ct ρ' S' => rw [hr] at q; exact q
  | rt d S' => rw [hr] at q; exact q
  | exc c v ρ' S' => rw [hr] at q; exact q
  | no => rw [hr] at q; exact q
theorem ss_one {st : Stmt} {a : St} (h1 : PS X st (tS X.K XR W (evS C a))) : PSs X [st] (tS X.K XR W (evS C a)) := pss_one h1
theorem s_while {c : Expr} {body : List Stmt} {gc : G} {sb : St} (hp : PassesOwn (model X.prog X.w) X.A X.env X.xe) (hc : PT X c (tT X.K XR W (ev C gc))) (hb : PSs X body (tS X.K XR W (evS C sb))) : PS X (.While c body [] pos) (tS X.K XR W (evS C (.whl gc sb))) := by
  refine PS.imp (ps_while hp hc hb) fun D σ H ⟨ι, S, ρ, hE, hS, q⟩ => ?_
  simp only [evS, whlR] at q
  split at q
  · rename_i hx
    generalize Classical.choose hx = n at q
    refine ⟨fun m σ H => ∃ ι S ρ, EnvOk X.K H ι σ ρ ∧ StOk X.K H ι S ∧ EndS X.K XR W ι H (whlN (fun ρ S => (ev C gc ρ S).bind fun x S1 => R.of S1 (truth S1 x)) (evS C sb) m ρ S) D, ⟨n, ι, S, ρ, hE, hS, q⟩, ?_⟩
    rintro m σ H ⟨ι, S, ρ, hE, hS, q⟩
    cases m with
    | zero => exact q.elim
    | succ m =>
      simp only [whlN] at q
      refine ⟨ι, S, ρ, hE, hS, (EndS.st hE q).imp fun k H1 ⟨ι1, S1, k', e1, s1, ek, q1⟩ => ?_⟩
      subst ek
      cases k with
      | false => exact q1 σ H1 ι1 (Ext.refl _ _) s1 (hE.ext e1)
      | true =>
        simp only [if_true] at q1 ⊢
        refine ⟨_, fun σ' H' h => ⟨m, Nat.lt_succ_self m, h⟩, ι1, S1, ρ, hE.ext e1, s1, ?_⟩
        cases hr : evS C sb ρ S1 with
        | nx ρ' S' => rw [hr] at q1; exact fun σ' H' ι' e s hE' => ⟨ι', S', ρ', hE', s, EndS.shift q1 e⟩
        | ct ρ' S' => rw [hr] at q1; exact fun σ' H' ι' e s hE' => ⟨ι', S', ρ', hE', s, EndS.shift q1 e⟩
        | rt d S' => rw [hr] at q1; exact q1
        | exc c v ρ' S' => rw [hr] at q1; exact q1
        | no => rw [hr] at q1; exact q1
  · exact q.elim
theorem s_for {tg iter : Expr} {body : List Stmt} {tgt : Tg} {gi : G} {sb : St} (hp : PassesOwn (model X.prog X.w) X.A X.env X.xe) (hc : X.calm = true) (hi : PI X tg iter (tI X.K XR W (evI C gi))) (hg : PG X tg (gT X.K tgt)) (hb : PSs X body (tS X.K XR W (evS C sb))) (hs : ∀ x, foldedSetIterable iter X.env x = pure x) :
    PS X (.For tg iter body [] pos) (tS X.K XR W (evS C (.for_ tgt gi sb))) := by
  refine PS.imp (ps_for hp hc hi hg hb hs) fun D σ H ⟨ι, S, ρ, hE, hS, q⟩ => ⟨ι, S, ρ, hE, hS, ?_⟩
  let f : GV.D → Rho → Sto → SR := fun d ρ' S2 => match asg tgt d ρ' with
        | some ρ2 => evS C sb ρ2 S2
        | none => .no
  have q' : EndS X.K XR W ι H ((evI C gi ρ S).st ρ fun p S1 => forL p.1 f p.2 ρ S1) D := by
    have e : evS C (.for_ tgt gi sb) ρ S = (evI C gi ρ S).st ρ fun p S1 => forL p.1 f p.2 ρ S1 := by
      simp only [evS, evI]
      cases ev C gi ρ S with
      | ok x S1 =>
        simp only [R.st_ok, R.bind_ok]
        cases items S1 x <;> rfl
      | exc => rfl
      | no => rfl
    rw [← e]; exact q
  clear q
  refine (EndS.st hE q').imp fun J H1 ⟨ι1, S1, p, e1, s1, ⟨ito, dpo⟩, q1⟩ => ?_
  obtain ⟨dp, ds⟩ := p
  simp only at ito dpo q1
  let Inv' : Nat → L2.St → Hp → Prop := fun i σ' H' => i ≤ ds.length ∧ ∃ ι' S' ρ', Ext ι1 H1 ι' H' ∧ EnvOk X.K H' ι' σ' ρ' ∧ StOk X.K H' ι' S' ∧ depOk S' dp ∧ EndS X.K XR W ι' H' (forL dp f (ds.drop i) ρ' S') D
  refine ⟨fun i m σ' H' => m = ds.length - i ∧ Inv' i σ' H', ⟨ds.length, rfl, Nat.zero_le _, ι1, S1, ρ, Ext.refl _ _, hE.ext e1, s1, dpo, q1⟩, ?_⟩
  rintro i m σ' H' ⟨rfl, hi, ι', S', ρ', e', hE', s', dp', q'⟩
  obtain ⟨istop, igo⟩ := ito i H' ι' S' e' s' dp'
  by_cases hlt : i < ds.length
  · right
    have hd : ds[i]? = some ds[i] := List.getElem?_eq_getElem hlt
    obtain ⟨go, yld⟩ := igo ds[i] hd
    refine ⟨go, Inv' (i + 1), fun σ2 H2 h2 => ⟨ds.length - (i + 1), by omega, rfl, h2⟩, fun x H2 hy => ?_⟩
    obtain ⟨e2, s2, r2⟩ := yld x H2 hy
    rw [List.drop_eq_getElem_cons hlt] at q'
    simp only [forL] at q'
    cases ha : asg tgt ds[i] ρ' with
    | none =>
      have : f ds[i] ρ' S' = .no := by simp only [f, ha]
      rw [this] at q'
      exact q'.elim
    | some ρ2 =>
      have hf : f ds[i] ρ' S' = evS C sb ρ2 S' := by simp only [f, ha]
      rw [hf] at q'
      refine ⟨ι', ds[i], ρ', ρ2, r2, hE'.ext e2, ha, fun σ2 _ _ hE2 => ⟨ι', S', ρ2, hE2, s2, ?_⟩⟩
      have go : ∀ ρ3 S3, EndS X.K XR W ι' H' (if depOk S3 dp then forL dp f (ds.drop (i + 1)) ρ3 S3 else .no) D → ∀ σ3 H3 ι3, Ext ι' H2 ι3 H3 → StOk X.K H3 ι3 S3 → EnvOk X.K H3 ι3 σ3 ρ3 → Inv' (i + 1) σ3 H3 := fun ρ3 S3 q3 σ3 H3 ι3 e3 s3 hE3 => by
        by_cases hdp : depOk S3 dp
        · rw [if_pos hdp] at q3
          exact ⟨hlt, ι3, S3, ρ3, (e'.trans e2).trans e3, hE3, s3, hdp, EndS.shift q3 (e2.trans e3)⟩
        · rw [if_neg hdp] at q3
          exact q3.elim
      cases hr : evS C sb ρ2 S' with
      | nx ρ3 S3 => rw [hr] at q'; exact go ρ3 S3 q'
      | ct ρ3 S3 => rw [hr] at q'; exact go ρ3 S3 q'
      | rt d S3 => rw [hr] at q'; exact EndS.shift q' e2
      | exc c v ρ3 S3 => rw [hr] at q'; exact EndS.shift q' e2
      | no => rw [hr] at q'; exact q'
  · left
    have hi' : i = ds.length := by omega
    rw [hi', List.drop_length] at q'
    exact ⟨istop hi', q' σ' H' ι' (Ext.refl _ _) s' hE'⟩
end
end GV

set_option linter.all false
set_option maxHeartbeats 2000000
set_option maxRecDepth 100000
/-! GV, part n: several targets, stores, a def's contract. -/
namespace GV
open PySem PySem.Spec PyProof.Rows L2
section
variable {X : Cx} {XR : XRT} {W : WX} {C : CallF} {pos : Pos} {fe : Bool} {e : Expr} {ge : G}
theorem s_par2 {i j : Nat} {x y : Str} {a b : Expr} {px py pt : Pos} {kt k2 : Nat} {pt2 : Pos} {gs : G} (hc : X.calm = true) (hN : X.N.Nodup) (hi : X.N[i]? = some x) (hj : X.N[j]? = some y) (hij : i ≠ j)
    (hx : X.env.scope.names.lookup x = some .local) (hy : X.env.scope.names.lookup y = some .local) (ha : PA X [a, b] (tA X.K XR W (ev C gs)))
    (hw : swappedStores [.Tuple [.Name x px, .Name y py] kt pt] (.Tuple [a, b] k2 pt2) X.env = pure (some [x, y]))
    (hs : swapsWithSole [.Tuple [.Name x px, .Name y py] kt pt] (.Tuple [a, b] k2 pt2) pos.line X.env = pure false) :
    PS X (.Assign [.Tuple [.Name x px, .Name y py] kt pt] (.Tuple [a, b] k2 pt2) pos) (tS X.K XR W (evS C (.par [i, j] gs))) := by
  refine PS.imp (ps_par hc hN hi hj hij hx hy ha hw hs) fun D σ H ⟨ι, S, ρ, hE, hS, q⟩ => ⟨ι, S, ρ, hE, hS, (EndS.st hE (show EndS _ _ _ _ _ ((ev C gs ρ S).st ρ _) _ from q)).imp fun vs H1 ⟨ι1, S1, d, e1, s1, ⟨ds, ed, r1⟩, q1⟩ => ?_⟩
  subst ed
  simp only [lsOf] at q1
  cases r1 with
  | nil => exact q1.elim
  | cons ra rr => cases rr with
    | nil => exact q1.elim
    | cons rb rr => cases rr with
      | cons _ _ => exact q1.elim
      | nil => exact ⟨_, _, rfl, q1 _ H1 ι1 (Ext.refl _ _) s1 (((hE.ext e1).set i ra).set j rb)⟩
theorem s_par3 {i j l : Nat} {x y z : Str} {a b c : Expr} {px py pz pt : Pos} {kt k2 : Nat} {pt2 : Pos} {gs : G} (hc : X.calm = true) (hN : X.N.Nodup) (hi : X.N[i]? = some x) (hj : X.N[j]? = some y) (hl : X.N[l]? = some z) (hij : i ≠ j) (hil : i ≠ l) (hjl : j ≠ l)
    (hx : X.env.scope.names.lookup x = some .local) (hy : X.env.scope.names.lookup y = some .local) (hz : X.env.scope.names.lookup z = some .local) (ha : PA X [a, b, c] (tA X.K XR W (ev C gs)))
    (hw : swappedStores [.Tuple [.Name x px, .Name y py, .Name z pz] kt pt] (.Tuple [a, b, c] k2 pt2) X.env = pure (some [x, y, z]))
    (hs : swapsWithSole [.Tuple [.Name x px, .Name y py, .Name z pz] kt pt] (.Tuple [a, b, c] k2 pt2) pos.line X.env = pure false) :
    PS X (.Assign [.Tuple [.Name x px, .Name y py, .Name z pz] kt pt] (.Tuple [a, b, c] k2 pt2) pos) (tS X.K XR W (evS C (.par [i, j, l] gs))) := by
  refine PS.imp (ps_par3 hc hN hi hj hl hij hil hjl hx hy hz ha hw hs) fun D σ H ⟨ι, S, ρ, hE, hS, q⟩ => ⟨ι, S, ρ, hE, hS, (EndS.st hE (show EndS _ _ _ _ _ ((ev C gs ρ S).st ρ _) _ from q)).imp fun vs H1 ⟨ι1, S1, d, e1, s1, ⟨ds, ed, r1⟩, q1⟩ => ?_⟩
  subst ed
  simp only [lsOf] at q1
  cases r1 with
  | nil => exact q1.elim
  | cons ra rr => cases rr with
    | nil => exact q1.elim
    | cons rb rr => cases rr with
      | nil => exact q1.elim
      | cons rc rr => cases rr with
        | cons _ _ => exact q1.elim
        | nil => exact ⟨_, _, _, rfl, q1 _ H1 ι1 (Ext.refl _ _) s1 ((((hE.ext e1).set i ra).set j rb).set l rc)⟩
theorem s_setx {o i : Expr} {go gi : G} {fo fi : Bool} {p : Pos} (hu : X.A.units + 64 < cLine) (ho : PE X o (tE X.K XR W fo (ev C go))) (hi : PE X i (tE X.K XR W fi (ev C gi))) (he : PE X e (tE X.K XR W fe (ev C ge)))
    (hs : swapsWithSole [.Subscript o i p] e pos.line X.env = pure false) (hw : swappedStores [.Subscript o i p] e X.env = pure none)
    (hsub : ∀ v, assign (.Subscript o i p) X.env v = (do
      let ov ← holding [v] (eval o X.env)
      let iv ← holding [v, ov] (eval i X.env)
      standAt p
      holding [v, ov, iv] (setItem ov iv v)
      release [v, ov, iv] [])) : PS X (.Assign [.Subscript o i p] e pos) (tS X.K XR W (evS C (.setx go gi ge))) := by
  refine PS.imp (ps_asg he (pg_sub ho hi (set_all hu) hsub) hs hw) fun D σ H ⟨ι, S, ρ, hE, hS, q⟩ => ⟨ι, S, ρ, hE, hS, (EndS.st hE (show EndS _ _ _ _ _ ((ev C ge ρ S).st ρ _) _ from q)).imp fun v H1 ⟨ι1, S1, d, e1, s1, r1, q1⟩ => ?_⟩
  refine ⟨ι1, S1, ρ, hE.ext e1, s1, (EndS.st (hE.ext e1) q1).imp fun x H2 ⟨ι2, S2, dx, e2, s2, r2, q2⟩ => ?_⟩
  refine ⟨ι2, S2, ρ, (hE.ext e1).ext e2, s2, (EndS.st ((hE.ext e1).ext e2) q2).imp fun y H3 ⟨ι3, S3, dy, e3, s3, r3, q3⟩ => ?_⟩
  cases hx : setx S3 dx dy d with
  | none => rw [hx] at q3; exact q3.elim
  | some S4 =>
    rw [hx] at q3
    exact setx_ok s3 (r2.1.ext e3) r3.1 ((r1.1.ext e2).ext e3) hx fun H' e4 s4 => q3 σ H' ι3 e4 s4 ((((hE.ext e1).ext e2).ext e3).ext e4)
end

/-! ### a def's contract -/
theorem env_start {K : PySem.W.Frag} {H : Hp} {ι : Ad} {N : List Str} {vs : List V} {ds : List D} (r : RpL K H ι vs ds) : EnvOk K H ι (L2.start N vs) (startD N.length ds) := by
  have hl := r.length
  refine ⟨by simp [L2.start, startD, hl], fun i d hd => ?_⟩
  unfold startD at hd
  unfold L2.start
  by_cases h : i < ds.length
  · rw [List.getElem?_append_left (by simpa using h), List.getElem?_map] at hd
    rw [List.getElem?_append_left (by simpa [hl] using h), List.getElem?_map]
    obtain ⟨d', hd', e⟩ := Option.map_eq_some_iff.mp hd
    cases e
    obtain ⟨v, hv, rv⟩ := r.get hd'
    exact ⟨v, by rw [hv]; rfl, rv⟩
  · rw [List.getElem?_append_right (by simpa using Nat.le_of_not_lt h)] at hd
    rw [List.getElem?_replicate] at hd
    split at hd <;> cases hd
/-- the exceptions' reading does not lean on the cells -/
def XRok (XR : XRT) : Prop := ∀ c e cls dd H ι ι2, XR c e cls dd H ι → XR c e cls dd H ι2
theorem contract {P : Program} {w : World} {K : PySem.W.Frag} {mg : Str → Option Value} {base : Heap} {name qual : Str} {params : Arguments} {body : List Stmt} {scope : Scope} {f : Addr} {fd : FuncData} {N ps : List Str} {k i : Nat} {XR : XRT} {T : List Df} {keep : Bool} {st : St}
    (hX : XRok XR) (F : DefAt K name qual params body scope f fd) (S : FnScope N ps scope) (hT : T[i]? = some ⟨N.length, ps.length, keep, st⟩)
    (hbody : ∀ (cd : Value) (A : Around) (out : List Env) (s : Shared) (H : Hp) (E : XK) (W : WX), A.guards = some [] → Room k (A.deeper (envOfC qual scope s.heap.objs.size f cd)) → Takes (bodyX P w K mg base N qual scope f cd A out s H E) W →
      PSs (bodyX P w K mg base N qual scope f cd A out s H E) body (tS K XR W (evS (callN T k) st))) :
    FnG P w K mg base (k + 1) f fd ps (spG K XR (callN T (k + 1)) i) := by
  have open_ : ∀ ds S0, callN T (k + 1) i ds S0 = runD (callN T k) ⟨N.length, ps.length, keep, st⟩ ds S0 := fun ds S0 => by simp only [callN, hT]
  refine F.contract S (fun vs H Q E ⟨ι, S0, ds, _, r, q⟩ => ?_) fun cd A out s H vs Q E gd room ⟨ι, S0, ds, hS, r, q⟩ => ?_
  · rw [open_] at q
    simp only [runD] at q
    split at q
    · rename_i h; rw [r.length]; exact h
    · exact q.elim
  · rw [open_] at q
    simp only [runD] at q
    have tk : Takes (bodyX P w K mg base N qual scope f cd A out s H E) (fun cls d _ H => E cls d H) := takes_of rfl rfl rfl rfl
    refine ⟨_, hbody cd A out s H E _ gd room tk, ι, S0, startD N.length ds, env_start r, hS, ?_⟩
    split at q
    · -- the answer of an end
      have done : ∀ d S' v H' ι', EndG K XR (fun cls d _ H => E cls d H) ι H ([] : L2.St) (repE K false H) (exitR keep S0 d S') Q → Ext ι H ι' H' → StOk K H' ι' S' → Rp K H' ι' v d → Q v H' := by
        intro d S' v H' ι' q e s rv
        simp only [exitR] at q
        split at q
        · exact q v H' ι' e s ⟨rv, fun z => by cases z⟩
        · rename_i hk
          simp only [not_or] at hk
          obtain ⟨l, m, hc, hg, hl, hm⟩ := e.more
          have sub : Sub ι' (ι ++ l) := ⟨by rw [Ad.app_c, hc], fun a ha => by rw [hg]; exact List.mem_append_right _ ha⟩
          have s2 := s.sub sub
          have rv2 := rv.sub sub
          split at q
          · rename_i d' S2 h1 h2
            rw [← hS.len] at h1
            have e2 : Ext ι H ι H' := ⟨⟨[], [], by simp, rfl, by simp, by simp⟩, e.keep, e.tups, e.frzs, e.dom⟩
            exact q v H' ι e2 (trim_ok hS s2 hk.2 h2) ⟨Rp.res s2 24 v d d' rv2 h1, fun z => by cases z⟩
          · exact q.elim
      cases hr : evS (callN T k) st (startD N.length ds) S0 with
      | nx ρ' S' =>
        rw [hr] at q
        exact fun σ' H' ι' e s hE' => done .non S' .non H' ι' q e s .non
      | rt d S' =>
        rw [hr] at q
        exact fun v H' ι' e s rv => done d S' v H' ι' q e s rv
      | ct ρ' S' => rw [hr] at q; exact q.elim
      | no => rw [hr] at q; exact q.elim
      | exc c v ρ' S' =>
        rw [hr] at q
        intro cls dd σ' H' ι' e s hE' x
        simp only at q
        split at q
        · exact q cls dd H' ι' e s x
        · rename_i hk
          simp only [not_or] at hk
          obtain ⟨l, m, hc, hg, hl, hm⟩ := e.more
          have sub : Sub ι' (ι ++ l) := ⟨by rw [Ad.app_c, hc], fun a ha => by rw [hg]; exact List.mem_append_right _ ha⟩
          have s2 := s.sub sub
          split at q
          · rename_i S2 h2
            have e2 : Ext ι H ι H' := ⟨⟨[], [], by simp, rfl, by simp, by simp⟩, e.keep, e.tups, e.frzs, e.dom⟩
            exact q cls dd H' ι e2 (trim_ok hS s2 hk.2 h2) (hX _ _ _ _ _ _ _ x)
          · exact q.elim
    · exact q.elim
theorem g_frz {X : Cx} {XR : XRT} {W : WX} {C : CallF} {e : Expr} {g : G} (h : PE X e (tE X.K XR W false (ev C g))) : PE X e (tE X.K XR W false (ev C (.frz g))) := by
  refine PE.imp h fun σ H Q ⟨ι, S, ρ, hE, hS, q⟩ => ⟨ι, S, ρ, hE, hS, ?_⟩
  replace q : EndG X.K XR W ι H σ (repE X.K false H) ((ev C g ρ S).bind fun x S1 => exitR false S x S1) Q := q
  cases hr : ev C g ρ S with
  | ok d S' =>
    rw [hr] at q
    simp only [R.bind_ok] at q
    intro v H' ι' e s rv
    obtain ⟨rv, _⟩ := rv
    simp only [exitR] at q
    split at q
    · exact q v H' ι' e s ⟨rv, fun z => by cases z⟩
    · rename_i hk
      simp only [not_or] at hk
      obtain ⟨l, m, hc, hg, hl, hm⟩ := e.more
      have sub : Sub ι' (ι ++ l) := ⟨by rw [Ad.app_c, hc], fun a ha => by rw [hg]; exact List.mem_append_right _ ha⟩
      have s2 := s.sub sub
      have rv2 := rv.sub sub
      split at q
      · rename_i d' S2 h1 h2
        rw [← hS.len] at h1
        have e2 : Ext ι H ι H' := ⟨⟨[], [], by simp, rfl, by simp, by simp⟩, e.keep, e.tups, e.frzs, e.dom⟩
        exact q v H' ι e2 (trim_ok hS s2 hk.2 h2) ⟨Rp.res s2 24 v d d' rv2 h1, fun z => by cases z⟩
      · exact q.elim
  | exc c v S' => rw [hr] at q; exact q
  | no => rw [hr] at q; exact q
/-! ### calls with fewer values -/
/-- how a call with fewer values binds -/
def DfTo (K : PySem.W.Frag) (fd : FuncData) (ps : List Str) (ds : List D) : Prop := ∃ us vs, Vals vs us ∧ (∀ H ι, RpL K H ι vs ds) ∧ Binds K fd ps us
def G.csts : List D → G
  | [] => .nil
  | d :: ds => .cons (.cst d) (G.csts ds)
def G.app : G → List D → G
  | .cons a r, ds => .cons a (G.app r ds)
  | _, ds => G.csts ds
theorem ev_csts {C : CallF} {ρ : Rho} {S : Sto} : ∀ ds : List D, ev C (G.csts ds) ρ S = .ok (.tup ds) S
  | [] => rfl
  | d :: ds => by
    show (R.ok d S).bind (fun x S1 => (ev C (G.csts ds) ρ S1).bind fun y S2 => R.ok (D.tup (x :: lsOf y)) S2) = _
    rw [R.bind_ok, ev_csts ds]; rfl
/-- a list of expressions -/
def isLsG : G → Bool
  | .nil => true
  | .cons _ r => isLsG r
  | _ => false
theorem ev_app {C : CallF} {ρ : Rho} : ∀ {g : G} (_ : isLsG g = true) (ds : List D) (S : Sto), ev C (G.app g ds) ρ S = (ev C g ρ S).bind fun y S' => .ok (.tup (lsOf y ++ ds)) S'
  | .nil, _, ds, S => (ev_csts ds).trans rfl
  | .cons a r, h, ds, S => by
    have ih := fun S => ev_app (C := C) (ρ := ρ) (g := r) h ds S
    show (ev C a ρ S).bind (fun x S1 => (ev C (G.app r ds) ρ S1).bind fun y S2 => R.ok (D.tup (x :: lsOf y)) S2) = ((ev C a ρ S).bind fun x S1 => (ev C r ρ S1).bind fun y S2 => R.ok (D.tup (x :: lsOf y)) S2).bind _
    cases ev C a ρ S with
    | ok x S1 =>
      simp only [R.bind_ok, ih]
      cases ev C r ρ S1 with
      | ok y S2 => rfl
      | exc c v S2 => rfl
      | no => rfl
    | exc c v S2 => rfl
    | no => rfl
section
variable {X : Cx} {XR : XRT} {W : WX} {C : CallF} {k i : Nat} {f : Addr} {fd : FuncData} {ps : List Str} {sp : Sp} {x : Str} {p pos : Pos} {e : Expr} {es : List Expr} {t : TA} {us0 : List Value} {vs0 : List V} {ds0 : List D} {ge : G}
theorem RpL.cat {K : PySem.W.Frag} {H : Hp} {ι : Ad} : ∀ {vs : List V} {ds : List D}, RpL K H ι vs ds → ∀ {ws : List V} {es : List D}, RpL K H ι ws es → RpL K H ι (vs ++ ws) (ds ++ es)
  | _, _, .nil, _, _, h => h
  | _, _, .cons a b, _, _, h => .cons a (RpL.cat b h)
theorem pe_callGD (F : FnG X.prog X.w X.K X.mg X.base k f fd ps sp) (gd : X.A.guards = some []) (hr : Room k X.A) (tk : Takes X W) (hg : Gl X x) (hm : X.mg x = some (.ref f)) (hk : PySem.W.keepIn X.K (.ref f) = true)
    (hv : Vals vs0 us0) (hb : Binds X.K fd ps us0) (ha : PA X (e :: es) t) (hd : (x == ("__debug__" : Str)) = false) (he : starEach (e :: es) X.env = (false, eval e X.env) :: starEach es X.env) (hpl : (backTo pos (starEach es X.env)).any (·.1) = false) :
    PE X (.Call (.Name x p) (e :: es) [] pos) (tCallG (fun vs H Q E => sp (vs ++ vs0) H Q E) W t) := by
  refine ⟨fun pins s σ H Q I h => wpAny_Call_Name_kw (ld_glob I hg hm ?_ hd)⟩
  refine PySem.W.callWith_K (h₀ := X.base) I.ok.mod.kin hk (thn (ha.run pos pins s σ H _ I h) fun us s1 ⟨vs, H1, I1, r, q⟩ => ⟨I1.kIn, ?_⟩) he hpl
  have l1 := F.arity _ _ _ _ q
  have hl : (us ++ us0).length = ps.length := by rw [List.length_append, ← r.length, ← hv.length, ← List.length_append]; exact l1
  have b := hb s1 us I1.kIn hl
  exact run_g F gd hr tk I1 b (r.append hv) q
theorem g_callD (F : FnG X.prog X.w X.K X.mg X.base k f fd ps (spG X.K XR C i)) (gd : X.A.guards = some []) (hr : Room k X.A) (tk : Takes X W) (hg : Gl X x) (hm : X.mg x = some (.ref f)) (hk : PySem.W.keepIn X.K (.ref f) = true)
    (hb : DfTo X.K fd ps ds0) (hls : isLsG ge = true) (ha : PA X (e :: es) (tA X.K XR W (ev C ge))) (hd : (x == ("__debug__" : Str)) = false) (he : starEach (e :: es) X.env = (false, eval e X.env) :: starEach es X.env) (hpl : (backTo pos (starEach es X.env)).any (·.1) = false) :
    PE X (.Call (.Name x p) (e :: es) [] pos) (tE X.K XR W false (ev C (.call i (ge.app ds0)))) := by
  obtain ⟨us0, vs0, hv, hrp, hb⟩ := hb
  refine PE.imp (pe_callGD F gd hr tk hg hm hk hv hb ha hd he hpl) fun σ H Q ⟨ι, S, ρ, hE, hS, q⟩ => ?_
  have e0 : ev C (.call i (ge.app ds0)) ρ S = (ev C ge ρ S).bind fun y S1 => C i (lsOf y ++ ds0) S1 := by
    show (ev C (ge.app ds0) ρ S).bind (fun x S1 => C i (lsOf x) S1) = _
    rw [ev_app hls]
    cases ev C ge ρ S <;> rfl
  rw [e0] at q
  refine ⟨ι, S, ρ, hE, hS, (EndG.bind q).imp fun vs H1 ⟨ι1, S1, d, e1, s1, ⟨ds, ed, r1⟩, q1⟩ => ?_⟩
  subst ed
  exact ⟨ι1, S1, ds ++ ds0, s1, RpL.cat r1 (hrp _ _), (EndG.f (H1 := H1) q1).slots⟩
end
theorem s_bad {X : Cx} {XR : XRT} {W : WX} {C : CallF} {st : Stmt} : PS X st (tS X.K XR W (evS C .bad)) := ⟨fun pins s σ H D I ⟨ι, S, ρ, hE, hS, q⟩ => q.elim⟩
/-- a call that is too deep -/
theorem contract0 {P : Program} {w : World} {K : PySem.W.Frag} {mg : Str → Option Value} {base : Heap} {f : Addr} {fd : FuncData} {ps : List Str} {i : Nat} {XR : XRT} {T : List Df} : FnG P w K mg base 0 f fd ps (spG K XR (callN T 0) i) :=
  ⟨fun vs H Q E ⟨_, _, _, _, _, q⟩ => q.elim, fun _ _ _ _ _ _ _ _ _ _ _ _ _ _ ⟨_, _, _, _, _, q⟩ => q.elim⟩
end GV

set_option linter.all false
set_option maxHeartbeats 4000000
set_option maxRecDepth 100000
/-! GV, part o: what a for walks: lists and tuples, enumerate, zip, range. -/
namespace GV
open PySem PySem.Spec PyProof.Rows L2

/-! ### a list (true) or a tuple (false) -/
def SqV (K : PySem.W.Frag) : Bool → Hp → Addr → List V → Prop
  | true, H, a, xs => SqL K H a xs
  | false, H, a, xs => SqT K H a xs
def SqH : Bool → Heap → Addr → Array Value → Prop
  | true, h, a, xs => h.IsList a xs
  | false, h, a, xs => h.IsTuple a xs
def SqI : Bool → Heap → Addr → Addr → Nat → Prop
  | true, h, it, a, i => h.IsListIter it a i
  | false, h, it, a, i => h.IsTupleIter it a i
def itO : Bool → Addr → Obj
  | true, a => { cls := .type "list_iterator", data := .fields #[.ref a, .int 0 0] }
  | false, a => { cls := .type "tuple_iterator", data := .fields #[.ref a, .int 0 0] }
theorem sq_at {k : Bool} {h h' : Heap} {a : Addr} {xs : Array Value} (x : SqH k h a xs) (e : ∀ o, h.get? a = some o → h'.get? a = some o) : SqH k h' a xs := by
  cases k with
  | true => exact Heap.IsList.at x e
  | false => exact Heap.IsTuple.at x e
theorem si_at {k : Bool} {h h' : Heap} {it a : Addr} {i : Nat} (x : SqI k h it a i) (e : ∀ o, h.get? it = some o → h'.get? it = some o) : SqI k h' it a i := by
  cases k with
  | true => exact Heap.IsListIter.at x e
  | false => exact Heap.IsTupleIter.at x e
theorem si_obj {k : Bool} {h : Heap} {it a : Addr} {i : Nat} (x : SqI k h it a i) : ∃ o vs, h.get? it = some o ∧ o.data = .fields vs := by
  cases k with
  | true => obtain ⟨o, e, _, d⟩ := x; exact ⟨o, _, e, d⟩
  | false => obtain ⟨o, e, _, d⟩ := x; exact ⟨o, _, e, d⟩
theorem sq_obj {k : Bool} {h : Heap} {a : Addr} {xs : Array Value} (x : SqH k h a xs) : ∃ o n, h.get? a = some o ∧ o.data = .seq xs n := by
  cases k with
  | true => obtain ⟨o, e, _, n, d⟩ := x; exact ⟨o, n, e, d⟩
  | false => obtain ⟨o, e, _, n, d⟩ := x; exact ⟨o, n, e, d⟩
theorem sq_ne {k : Bool} {h : Heap} {a b : Addr} {xs : Array Value} {ob : Obj} {vs : Array Value} (x : SqH k h a xs) (e : h.get? b = some ob) (d : ob.data = .fields vs) : a ≠ b := by
  rintro rfl
  obtain ⟨o, n, e2, d2⟩ := sq_obj x
  rw [e] at e2; cases e2
  rw [d] at d2; cases d2
theorem draws_sq {prog : Program} {w : World} {A : Around} (k : Bool) (hh : A.handled = none) (it a : Addr) (hne : a ≠ it) (items : Array Value) :
    Draws prog w A it [it, a] items.size (fun i v => items[i]? = some v) (fun i h => SqI k h it a i ∧ SqH k h a items) := by
  cases k with
  | true => exact Draws.list hh it a hne items
  | false => exact Draws.tuple hh it a hne items
theorem begins_sq (k : Bool) (a : Addr) (items : Array Value) : Begins (.ref a) (itO k a) fun h => SqH k h a items := by
  cases k with
  | true => exact begins_list a items
  | false => exact begins_tuple a items
theorem itO_ok {k : Bool} {h : Heap} {it a : Addr} (e : h.get? it = some (itO k a)) : SqI k h it a 0 := by
  cases k with
  | true => exact ⟨_, e, rfl, rfl⟩
  | false => exact ⟨_, e, rfl, rfl⟩
section
variable {X : Cx} {pins : List (Addr × Obj)} {σ : L2.St} {H : Hp} {s : Shared}
theorem inv_sq {k : Bool} {a : Addr} {xs : List V} (I : Inv X pins σ H s) (h : SqV X.K k H a xs) : ∃ its : List Value, Vals xs its ∧ SqH k s.heap a its.toArray := by
  cases k with
  | true => obtain ⟨its, r, p, _⟩ := I.list h; exact ⟨its, r, p.isList⟩
  | false => obtain ⟨its, r, p, _⟩ := I.tuple h; exact ⟨its, r, p⟩
theorem inv_inj {k : Bool} {a : Addr} {xs ys : List V} (I : Inv X pins σ H s) (h : SqV X.K k H a xs) (h' : SqV X.K k H a ys) : xs = ys := by
  cases k with
  | true => exact I.list_inj h h'
  | false => exact I.tuple_inj h h'
end

/-! ### enumerate -/
/-- the items of a, each in a new pair with its number -/
def Itq (K : PySem.W.Frag) (k : Bool) (a : Addr) : It :=
  ⟨fun i H => ∃ (xs : List V) (x : V), SqV K k H a xs ∧ xs[i]? = some x,
   fun i H v H' => ∃ T x, v = .ref T ∧ H T = none ∧ H' = upd H T (.tup [.int (i : Nat), x]) ∧ ∀ xs, SqV K k H a xs → xs[i]? = some x,
   fun i H => ∃ xs : List V, SqV K k H a xs ∧ xs.length = i⟩
theorem tup_new {P : Program} {w : World} {H : Hp} {h : Heap} {T : Addr} {x y : V} {u v : Value} (hT : h.IsTuple T #[u, v]) (rx : RelV x u) (ry : RelV y v) : ObjOk P w (upd H T (.tup [x, y])) h T (.tup [x, y]) :=
  ⟨by show 2 ≤ sizeLine; rw [sizeLine_eq]; decide, [u, v], .cons rx (.cons ry .nil), hT⟩
theorem turn_enq {P : Program} {w : World} {K : PySem.W.Frag} {elts : List Expr} {kk : Nat} {tpos : Pos} (k : Bool) (a e it : Addr) :
    Turn P w K (.Tuple elts kk tpos) (Itq K k a) [e, it] e (fun i h => (∃ old, IsEnum h e it ((i : Nat) : Int) old) ∧ SqI k h it a i ∧ e ≠ it) where
  mem := by simp
  obj := fun i h ⟨⟨old, he⟩, hi, _⟩ b hb => by
    obtain ⟨o, vs, ho, hd⟩ := si_obj hi
    rcases (show b = e ∨ b = it by simpa using hb) with z | z
    · rw [z]; exact ⟨_, he, fun v q => nomatch q⟩
    · rw [z]; exact ⟨o, ho, fun v q => by rw [hd] at q; cases q⟩
  keep := fun i h h' ⟨⟨old, he⟩, hi, hne⟩ kp => ⟨⟨old, kp e (by simp) _ he⟩, si_at hi fun o q => kp it (by simp) o q, hne⟩
  item := by
    intro X hP hw hK hc i pins s σ H E I hf st hg
    subst hP hw hK
    obtain ⟨⟨old, he⟩, hi, hne⟩ := st
    obtain ⟨xs, x, hq, hx⟩ := hg
    obtain ⟨its, rv, sq⟩ := inv_sq I hq
    obtain ⟨oi, vsi, hoi, hdi⟩ := si_obj hi
    obtain ⟨u, hu, ru⟩ := rv.get hx
    have nai : a ≠ it := sq_ne sq hoi hdi
    have nae : a ≠ e := sq_ne sq he rfl
    have hil : i < its.toArray.size := by simpa using (List.getElem?_eq_some_iff.mp hu).1
    have W := GoesN.enumFrom (elts := elts) (x1 := kk) (pos := tpos) 0 (draws_sq (prog := X.prog) (w := X.w) (A := X.A.in1) k (I.ok.hd hc) it a nai its.toArray) e hne (by simp [hne, Ne.symm nae]) (by simp)
    have e0 : (0 : Int) + ((i : Nat) : Int) = (i : Nat) := by omega
    refine W.goes i s _ E hil ⟨⟨old, by rw [e0]; exact he⟩, hi, sq⟩ fun v h' tk hY st' kp htk => ?_
    obtain ⟨T, t, y, rfl, hT, hy, tupT⟩ := hY
    obtain ⟨⟨old', he'⟩, hi', _⟩ := st'
    have hxy : y = u := by
      have h2 : its[i]? = some y := by simpa using hy
      rw [hu] at h2; exact (Option.some.inj h2).symm
    subst hxy
    have hel : e < s.heap.objs.size := Heap.lt_size he
    have hil2 : it < s.heap.objs.size := Heap.lt_size hoi
    refine ⟨.ref T, upd H T (.tup [.int (i : Nat), x]), I.turnedNew (t' := tk) (ch := [e, it]) kp hf hT (tup_new tupT ⟨t, by rw [e0]⟩ ru), rfl, ⟨T, x, rfl, I.hok.fresh hT, rfl, fun ys hy => by rw [inv_inj I hy hq]; exact hx⟩, ⟨⟨old', ?_⟩, hi', hne⟩, fun b hb => ?_⟩
    · have e1 : ((i + 1 : Nat) : Int) = 0 + ((i + 1 : Nat) : Int) := by omega
      rw [e1]; exact he'
    · have hlt : b < s.heap.objs.size := by
        rcases (show b = e ∨ b = it by simpa using hb) with z | z
        · rw [z]; exact hel
        · rw [z]; exact hil2
      rw [upd_ne (Nat.ne_of_lt (Nat.lt_of_lt_of_le hlt hT))]
      exact (hf b hb).1
  done := by
    intro X hP hw hK hc i pins s σ H E I hf st hg
    subst hP hw hK
    obtain ⟨⟨old, he⟩, hi, hne⟩ := st
    obtain ⟨xs, hq, hx⟩ := hg
    obtain ⟨its, rv, sq⟩ := inv_sq I hq
    obtain ⟨oi, vsi, hoi, hdi⟩ := si_obj hi
    have nai : a ≠ it := sq_ne sq hoi hdi
    have nae : a ≠ e := sq_ne sq he rfl
    have hl : i = its.toArray.size := by rw [List.size_toArray, ← rv.length]; exact hx.symm
    have W := GoesN.enumFrom (elts := elts) (x1 := kk) (pos := tpos) 0 (draws_sq (prog := X.prog) (w := X.w) (A := X.A.in1) k (I.ok.hd hc) it a nai its.toArray) e hne (by simp [hne, Ne.symm nae]) (by simp)
    have e0 : (0 : Int) + ((i : Nat) : Int) = (i : Nat) := by omega
    exact W.stops s _ E (by rw [← hl]; exact ⟨⟨old, by rw [e0]; exact he⟩, hi, sq⟩) fun h' tk kp _ => I.turnedL (t' := tk) (ch := [e, it]) kp hf
  self := fun A i s Q E ⟨⟨_, he⟩, _⟩ h => wpAny_pyIter_enum he h
/-- enumerate(v), v a list or a tuple -/
theorem enum_new {v : Value} {o : Obj} {H : Heap → Prop} (B : Begins v o H) :
    Meets (Builtin.«enumerate.__new__» ⟨[.type "enumerate", v], []⟩) (fun _ R s => H s.heap ∧
      R (.ok (.ret (.ref (s.heap.push o).objs.size))) { s with heap := (s.heap.push o).push { cls := .type "enumerate", data := .fields #[.none, .bool false, .ref s.heap.objs.size, rawInt 0, .none, .none] } }) := by
  apply Meets.of_wp
  intro prog w A R s h
  obtain ⟨hp, g, d, tk, os⟩ := s
  obtain ⟨h1, hR⟩ := h
  have hsub := sub_enumerate
  have walk : ∀ {A' : Around} {E : Value → Shared → Prop} {Q : Value → Shared → Prop}, Q (.ref hp.objs.size) ⟨hp.push o, g, d, tk, os⟩ → wpAny (model prog w) A' (pyIter v) Q E ⟨hp, g, d, tk, os⟩ :=
    fun q => B.iter prog w _ _ ⟨hp, g, d, tk, os⟩ _ h1 q
  wp_walk using walk
  refine wpAny_stack_any fun st => wpAny_pure ?_
  split
  · rename_i c _ _ _ _ _
    cases (c == Value.type "enumerate") <;> (wp_walk using walk; exact ⟨_, rfl, hR⟩)
  · wp_walk using walk
    exact ⟨_, rfl, hR⟩
section
variable {prog : Program} {w : World} {A : Around} {E : Value → Shared → Prop} {s : Shared}
theorem enum_call {v : Value} {o : Obj} {H : Heap → Prop} {Q : Value → Shared → Prop} (B : Begins v o H) (h1 : H s.heap)
    (h : ∀ h', IsEnum h' (s.heap.objs.size + 1) s.heap.objs.size 0 .none → h'.get? s.heap.objs.size = some o → (∀ b o, s.heap.get? b = some o → h'.get? b = some o) → Q (.ref (s.heap.objs.size + 1)) { s with heap := h' }) :
    wpAny (model prog w) A (call (.type "enumerate") [v]) Q E s := by
  refine callType_new F.called_enumerate (by decide) (F.typeCall_enumerate_1 _) (F.newCall_enumerate_1 _) (fun obj => F.args_object_init_2 obj _) F.entry_enumerate_new (enum_new B) ⟨h1, ?_⟩
  have hz : (s.heap.push o).objs.size = s.heap.objs.size + 1 := by rw [Heap.size_push]
  have he := Heap.get?_push_size (s.heap.push o) (o := { cls := .type "enumerate", data := .fields #[.none, .bool false, .ref s.heap.objs.size, rawInt 0, .none, .none] }) rfl
  show _ ∧ _
  rw [hz] at he ⊢
  exact ⟨⟨_, he, rfl⟩, h _ he (Heap.get?_push_of_some _ (Heap.get?_push_size _ B.free)) fun b o x => Heap.get?_push_of_some _ (Heap.get?_push_of_some _ x)⟩
end
section
variable {X : Cx}
def iEnq (K : PySem.W.Frag) (ta : TA) : TI := fun σ H R => ta σ H fun vs H1 => ∃ k a xs, vs = [.ref a] ∧ SqV K k H1 a xs ∧ R (Itq K k a) H1
theorem pi_enq {e : Expr} {ta : TA} {p pos tpos : Pos} {elts : List Expr} {kk : Nat} (hg : Gl X "enumerate") (hm : X.mg "enumerate" = none) (ha : PA X [e] ta) (hs : starEach [e] X.env = [(false, eval e X.env)]) :
    PI X (.Tuple elts kk tpos) (.Call (.Name "enumerate" p) [e] [] pos) (iEnq X.K ta) := by
  refine ⟨fun pins s σ H R I h => ?_⟩
  refine Call_ (ld_blt I hg hm boot_enumerate (PyProof.Rows.callWith_type1 (thn (ha.run pos pins s σ H _ I h) fun us s1 ⟨vs, H1, I1, r1, q1⟩ => ?_) hs rfl))
  obtain ⟨k, a, xs, ex, hq, q⟩ := q1
  subst ex
  cases r1 with
  | cons r rr =>
    cases rr
    cases r
    obtain ⟨its, rv, sq⟩ := inv_sq I1 hq
    refine enum_call (begins_sq k a its.toArray) sq fun h' he hit hk => wpAny_pyIter_enum he ?_
    have I2 : Inv X pins σ H1 { s1 with heap := h' } := I1.kept (t' := s1.toks) hk
    refine ⟨s1.heap.objs.size + 1, [s1.heap.objs.size + 1, s1.heap.objs.size], _, _, H1, rfl, I2, turn_enq k a (s1.heap.objs.size + 1) s1.heap.objs.size, ⟨⟨.none, he⟩, itO_ok hit, Nat.succ_ne_self _⟩, fun b hb => ?_, q⟩
    have hle : s1.heap.objs.size ≤ b := by
      rcases (show b = s1.heap.objs.size + 1 ∨ b = s1.heap.objs.size by simpa using hb) with z | z <;> rw [z] <;> first | exact Nat.le_refl _ | exact Nat.le_add_right _ _
    exact I1.fpOk hle (I1.hok.fresh hle)

/-! ### lists and tuples themselves -/
def Its (K : PySem.W.Frag) : Bool → Addr → It
  | true, a => Itl K a
  | false, a => Itt K a
def iSeq (K : PySem.W.Frag) (te : TE) : TI := fun σ H R => te σ H fun x H1 => ∃ k a xs, x = .ref a ∧ SqV K k H1 a xs ∧ R (Its K k a) H1
theorem pi_seq {tg e : Expr} {te : TE} (he : PE X e te) : PI X tg e (iSeq X.K te) := by
  refine ⟨fun pins s σ H R I h => ?_⟩
  refine thn (he.run pins s σ H _ I h) fun v s1 ⟨x, H1, I1, r1, q1⟩ => ?_
  obtain ⟨k, a, xs, ex, hq, q⟩ := q1
  subst ex
  cases r1
  have fp : ∀ b ∈ [s1.heap.objs.size], FpOk X pins H1 b := fun b hb => by
    rw [show b = s1.heap.objs.size by simpa using hb]
    exact I1.fpOk (Nat.le_refl _) (I1.hok.fresh (Nat.le_refl _))
  cases k with
  | true =>
    obtain ⟨its, rv, p, _⟩ := I1.list hq
    exact wpAny_pyIter_list p.isList ⟨s1.heap.objs.size, [s1.heap.objs.size], _, _, H1, rfl, I1.kept (t' := s1.toks) fun b o e => Heap.get?_push_of_some _ e, turn_list a _, ⟨_, Heap.get?_push_size _ rfl, rfl, rfl⟩, fp, q⟩
  | false =>
    obtain ⟨its, rv, p, _⟩ := I1.tuple hq
    exact wpAny_pyIter_tuple (show s1.heap.IsTuple a its.toArray from p) ⟨s1.heap.objs.size, [s1.heap.objs.size], _, _, H1, rfl, I1.kept (t' := s1.toks) fun b o e => Heap.get?_push_of_some _ e, turn_tuple a _, ⟨_, Heap.get?_push_size _ rfl, rfl, rfl⟩, fp, q⟩
end

/-! ### zip -/
def Itzq (K : PySem.W.Frag) (k1 k2 : Bool) (a b : Addr) : It :=
  ⟨fun i H => ∃ (xs ys : List V) (x y : V), SqV K k1 H a xs ∧ SqV K k2 H b ys ∧ xs[i]? = some x ∧ ys[i]? = some y,
   fun i H v H' => ∃ T x y, v = .ref T ∧ H T = none ∧ H' = upd H T (.tup [x, y]) ∧ (∀ xs, SqV K k1 H a xs → xs[i]? = some x) ∧ ∀ ys, SqV K k2 H b ys → ys[i]? = some y,
   fun i H => ∃ xs ys : List V, SqV K k1 H a xs ∧ SqV K k2 H b ys ∧ min xs.length ys.length = i⟩
/-- the five records of a zip -/
structure Apart (z TI TO i1 i2 : Addr) : Prop where
  a : TI ≠ z
  b : TO ≠ z
  c : TI ≠ TO
  d : TI ≠ i1
  e : TI ≠ i2
  f : i1 ≠ z
  g : i2 ≠ z
  h : i1 ≠ TO
  i : i2 ≠ TO
  j : i1 ≠ i2
theorem apart_new (n : Nat) : Apart (n + 4) (n + 2) (n + 3) n (n + 1) := by
  constructor <;> (intro h; have h' : (_ : Nat) = _ := h; omega)
theorem turn_zq {P : Program} {w : World} {K : PySem.W.Frag} {elts : List Expr} {kk : Nat} {tpos : Pos} {z TI TO i1 i2 : Addr} (k1 k2 : Bool) (a b : Addr) (D : Apart z TI TO i1 i2) :
    Turn P w K (.Tuple elts kk tpos) (Itzq K k1 k2 a b) [z, TI, TO, i1, i2] z (fun i h => IsZip h z TI TO .none ∧ IsTupOf2 h TI (.ref i1) (.ref i2) ∧ (∃ x y, IsTupOf2 h TO x y) ∧ SqI k1 h i1 a i ∧ SqI k2 h i2 b i ∧ a ≠ TO ∧ b ≠ TO) where
  mem := by simp
  obj := fun i h ⟨hz, hTI, ⟨x, y, hTO⟩, h1, h2, _⟩ c hc => by
    obtain ⟨o1, v1, e1, d1⟩ := si_obj h1
    obtain ⟨o2, v2, e2, d2⟩ := si_obj h2
    rcases (show c = z ∨ c = TI ∨ c = TO ∨ c = i1 ∨ c = i2 by simpa using hc) with q | q | q | q | q
    · rw [q]; exact ⟨_, hz, fun v q => nomatch q⟩
    · rw [q]; exact ⟨_, hTI, fun v q => nomatch q⟩
    · rw [q]; exact ⟨_, hTO, fun v q => nomatch q⟩
    · rw [q]; exact ⟨o1, e1, fun v q => by rw [d1] at q; cases q⟩
    · rw [q]; exact ⟨o2, e2, fun v q => by rw [d2] at q; cases q⟩
  keep := fun i h h' ⟨hz, hTI, ⟨x, y, hTO⟩, h1, h2, n⟩ kp => ⟨kp z (by simp) _ hz, kp TI (by simp) _ hTI, ⟨x, y, kp TO (by simp) _ hTO⟩, si_at h1 fun o q => kp i1 (by simp) o q, si_at h2 fun o q => kp i2 (by simp) o q, n⟩
  item := by
    intro X hP hw hK hc i pins s σ H E I hf st hg
    subst hP hw hK
    obtain ⟨hz, hTI, ⟨x0, y0, hTO⟩, h1, h2, naO, nbO⟩ := st
    obtain ⟨xs, ys, x, y, hqx, hqy, hx, hy⟩ := hg
    obtain ⟨its, rv, sq⟩ := inv_sq I hqx
    obtain ⟨its2, rv2, sq2⟩ := inv_sq I hqy
    obtain ⟨u, hu, ru⟩ := rv.get hx
    obtain ⟨u2, hu2, ru2⟩ := rv2.get hy
    obtain ⟨o1, v1, e1, d1⟩ := si_obj h1
    obtain ⟨o2, v2, e2, d2⟩ := si_obj h2
    have l1 : i < its.toArray.size := by simpa using (List.getElem?_eq_some_iff.mp hu).1
    have l2 : i < its2.toArray.size := by simpa using (List.getElem?_eq_some_iff.mp hu2).1
    have n1 : a ≠ i1 := sq_ne sq e1 d1
    have n2 : b ≠ i2 := sq_ne sq2 e2 d2
    have n3 : a ≠ i2 := sq_ne sq e2 d2
    have n4 : b ≠ i1 := sq_ne sq2 e1 d1
    have n5 : a ≠ z := sq_ne sq hz rfl
    have n6 : b ≠ z := sq_ne sq2 hz rfl
    have sep : ZipSep2 z TI TO i1 i2 [i1, a] [i2, b] := ⟨D.a, D.b, D.c, D.d, by simp, by simp [Ne.symm D.f, Ne.symm n5], by simp [Ne.symm D.h, Ne.symm naO], D.e, by simp, by simp [Ne.symm D.g, Ne.symm n6], by simp [Ne.symm D.i, Ne.symm nbO], by simp [D.j, Ne.symm n4], by simp [Ne.symm D.j, Ne.symm n3]⟩
    have W := GoesN.zip2 (elts := elts) (x1 := kk) (pos := tpos) sep (draws_sq (prog := X.prog) (w := X.w) (A := X.A.in1) k1 (I.ok.hd hc) i1 a n1 its.toArray) (draws_sq (prog := X.prog) (w := X.w) (A := X.A.in1) k2 (I.ok.hd hc) i2 b n2 its2.toArray)
    refine W.goes i s _ E (Nat.lt_min.mpr ⟨l1, l2⟩) ⟨hz, hTI, ⟨x0, y0, hTO⟩, ⟨h1, sq⟩, h2, sq2⟩ fun v h' tk hY st' kp htk => ?_
    obtain ⟨T, p, q, rfl, hT, hp, hq, tupT⟩ := hY
    obtain ⟨hz', hTI', hTO', ⟨h1', _⟩, h2', _⟩ := st'
    have e3 : p = u := by
      have z : its[i]? = some p := by simpa using hp
      rw [hu] at z; exact (Option.some.inj z).symm
    have e4 : q = u2 := by
      have z : its2[i]? = some q := by simpa using hq
      rw [hu2] at z; exact (Option.some.inj z).symm
    subst e3 e4
    have kp' : ∀ c o, c ∉ [z, TI, TO, i1, i2] → s.heap.get? c = some o → h'.get? c = some o := fun c o hc => kp c o (fun hm => hc (by
      rcases (show c = z ∨ c = TO ∨ c = i1 ∨ c = i2 by simpa using hm) with q | q | q | q <;> simp [q]))
    have there : ∀ c ∈ [z, TI, TO, i1, i2], c < s.heap.objs.size := fun c hcm => by
      rcases (show c = z ∨ c = TI ∨ c = TO ∨ c = i1 ∨ c = i2 by simpa using hcm) with q | q | q | q | q
      · rw [q]; exact Heap.lt_size hz
      · rw [q]; exact Heap.lt_size hTI
      · rw [q]; exact Heap.lt_size hTO
      · rw [q]; exact Heap.lt_size e1
      · rw [q]; exact Heap.lt_size e2
    refine ⟨.ref T, upd H T (.tup [x, y]), I.turnedNew (t' := tk) (ch := [z, TI, TO, i1, i2]) kp' hf hT (tup_new tupT ru ru2), rfl, ⟨T, x, y, rfl, I.hok.fresh hT, rfl, fun l hl => by rw [inv_inj I hl hqx]; exact hx, fun l hl => by rw [inv_inj I hl hqy]; exact hy⟩, ⟨hz', hTI', hTO', h1', h2', naO, nbO⟩, fun c hcm => ?_⟩
    rw [upd_ne (Nat.ne_of_lt (Nat.lt_of_lt_of_le (there c hcm) hT))]
    exact (hf c hcm).1
  done := by
    intro X hP hw hK hc i pins s σ H E I hf st hg
    subst hP hw hK
    obtain ⟨hz, hTI, ⟨x0, y0, hTO⟩, h1, h2, naO, nbO⟩ := st
    obtain ⟨xs, ys, hqx, hqy, hl⟩ := hg
    obtain ⟨its, rv, sq⟩ := inv_sq I hqx
    obtain ⟨its2, rv2, sq2⟩ := inv_sq I hqy
    obtain ⟨o1, v1, e1, d1⟩ := si_obj h1
    obtain ⟨o2, v2, e2, d2⟩ := si_obj h2
    have n1 : a ≠ i1 := sq_ne sq e1 d1
    have n2 : b ≠ i2 := sq_ne sq2 e2 d2
    have n3 : a ≠ i2 := sq_ne sq e2 d2
    have n4 : b ≠ i1 := sq_ne sq2 e1 d1
    have n5 : a ≠ z := sq_ne sq hz rfl
    have n6 : b ≠ z := sq_ne sq2 hz rfl
    have sep : ZipSep2 z TI TO i1 i2 [i1, a] [i2, b] := ⟨D.a, D.b, D.c, D.d, by simp, by simp [Ne.symm D.f, Ne.symm n5], by simp [Ne.symm D.h, Ne.symm naO], D.e, by simp, by simp [Ne.symm D.g, Ne.symm n6], by simp [Ne.symm D.i, Ne.symm nbO], by simp [D.j, Ne.symm n4], by simp [Ne.symm D.j, Ne.symm n3]⟩
    have W := GoesN.zip2 (elts := elts) (x1 := kk) (pos := tpos) sep (draws_sq (prog := X.prog) (w := X.w) (A := X.A.in1) k1 (I.ok.hd hc) i1 a n1 its.toArray) (draws_sq (prog := X.prog) (w := X.w) (A := X.A.in1) k2 (I.ok.hd hc) i2 b n2 its2.toArray)
    have hi : min its.toArray.size its2.toArray.size = i := by rw [List.size_toArray, List.size_toArray, ← rv.length, ← rv2.length]; exact hl
    exact W.stops s _ E (by rw [hi]; exact ⟨hz, hTI, ⟨x0, y0, hTO⟩, ⟨h1, sq⟩, h2, sq2⟩) fun h' tk kp _ => I.turnedL (t' := tk) (ch := [z, TI, TO, i1, i2]) (fun c o hc => kp c o (fun hm => hc (by
      rcases (show c = z ∨ c = TO ∨ c = i1 ∨ c = i2 by simpa using hm) with q | q | q | q <;> simp [q]))) hf
  self := fun A i s Q E st h => wpAny_pyIter_zip st.1 h
section
variable {X : Cx}
def iZq (K : PySem.W.Frag) (ta : TA) : TI := fun σ H R => ta σ H fun vs H1 => ∃ k1 k2 a b xs ys, vs = [.ref a, .ref b] ∧ SqV K k1 H1 a xs ∧ SqV K k2 H1 b ys ∧ R (Itzq K k1 k2 a b) H1
theorem pi_zq {e e2 : Expr} {ta : TA} {p pos tpos : Pos} {elts : List Expr} {kk : Nat} (hg : Gl X "zip") (hm : X.mg "zip" = none) (ha : PA X [e, e2] ta)
    (hs : starEach [e, e2] X.env = (false, eval e X.env) :: starEach [e2] X.env) (hpl : (backTo pos (starEach [e2] X.env)).any (·.1) = false) :
    PI X (.Tuple elts kk tpos) (.Call (.Name "zip" p) [e, e2] [] pos) (iZq X.K ta) := by
  refine ⟨fun pins s σ H R I h => ?_⟩
  refine Call_ (ld_blt I hg hm PyProof.Rows.boot_zip (PyProof.Rows.callWith_type1 (thn (ha.run pos pins s σ H _ I h) fun us s1 ⟨vs, H1, I1, r1, q1⟩ => ?_) hs hpl))
  obtain ⟨k1, k2, a, b, xs, ys, ex, hqx, hqy, q⟩ := q1
  subst ex
  cases r1 with
  | cons r rr =>
    cases rr with
    | cons r' rr =>
      cases rr
      cases r
      cases r'
      obtain ⟨its, rv, sq⟩ := inv_sq I1 hqx
      obtain ⟨its2, rv2, sq2⟩ := inv_sq I1 hqy
      have la : a < s1.heap.objs.size := by obtain ⟨o, n, e, _⟩ := sq_obj sq; exact Heap.lt_size e
      have lb : b < s1.heap.objs.size := by obtain ⟨o, n, e, _⟩ := sq_obj sq2; exact Heap.lt_size e
      refine zip_begins2 (begins_sq k1 a its.toArray) (begins_sq k2 b its2.toArray) sq sq2 fun h' hz hTI hTO h1 h2 hsz hk => wpAny_pyIter_zip hz ?_
      have I2 : Inv X pins σ H1 { s1 with heap := h' } := I1.kept (t' := s1.toks) hk
      refine ⟨s1.heap.objs.size + 4, [s1.heap.objs.size + 4, s1.heap.objs.size + 2, s1.heap.objs.size + 3, s1.heap.objs.size, s1.heap.objs.size + 1], _, _, H1, rfl, I2,
        turn_zq k1 k2 a b (z := s1.heap.objs.size + 4) (TI := s1.heap.objs.size + 2) (TO := s1.heap.objs.size + 3) (i1 := s1.heap.objs.size) (i2 := s1.heap.objs.size + 1) (apart_new _),
        ⟨hz, hTI, ⟨_, _, hTO⟩, itO_ok h1, itO_ok h2, Nat.ne_of_lt (Nat.lt_of_lt_of_le la (Nat.le_add_right _ _)), Nat.ne_of_lt (Nat.lt_of_lt_of_le lb (Nat.le_add_right _ _))⟩, fun c hcm => ?_, q⟩
      have hle : s1.heap.objs.size ≤ c := by
        rcases (show c = s1.heap.objs.size + 4 ∨ c = s1.heap.objs.size + 2 ∨ c = s1.heap.objs.size + 3 ∨ c = s1.heap.objs.size ∨ c = s1.heap.objs.size + 1 by simpa using hcm) with z | z | z | z | z <;> rw [z] <;> first | exact Nat.le_refl _ | exact Nat.le_add_right _ _
      exact I1.fpOk hle (I1.hok.fresh hle)
end

/-! ### by data -/
section
variable {X : Cx} {XR : XRT} {W : WX} {C : CallF} {tg e e2 : Expr} {ge ge2 : G} {fe fe2 : Bool}
/-- the items of a list or tuple, at any time of the walk -/
def SqD (K : PySem.W.Frag) (k : Bool) (a : Addr) (dp : Option (Nat × Cell)) (ds : List D) (H1 : Hp) (ι1 : Ad) : Prop := ∀ H ι S, Ext ι1 H1 ι H → StOk K H ι S → depOk S dp → ∃ xs, SqV K k H a xs ∧ RpL K H ι xs ds
theorem ito_seq {K : PySem.W.Frag} {k : Bool} {a : Addr} {dp : Option (Nat × Cell)} {ds : List D} {H1 : Hp} {ι1 : Ad} (h : SqD K k a dp ds H1 ι1) : ItOk K (Its K k a) dp ds H1 ι1 := by
  intro i H ι S e s dpo
  obtain ⟨xs, hq, rl⟩ := h H ι S e s dpo
  have hl := rl.length
  refine ⟨fun hi => ?_, fun d hd => ?_⟩
  · cases k with
    | true => exact ⟨xs, hq, by omega⟩
    | false => exact ⟨xs, hq, by omega⟩
  · obtain ⟨x, hx, rx⟩ := rl.get hd
    cases k with
    | true =>
      refine ⟨⟨xs, x, hq, hx⟩, fun y H' hy => ?_⟩
      obtain ⟨rfl, hy⟩ := hy
      have := hy xs hq
      rw [hx] at this; cases this
      exact ⟨Ext.refl _ _, s, rx⟩
    | false =>
      refine ⟨⟨xs, x, hq, hx⟩, fun y H' hy => ?_⟩
      obtain ⟨rfl, hy⟩ := hy
      have := hy xs hq
      rw [hx] at this; cases this
      exact ⟨Ext.refl _ _, s, rx⟩
theorem dep_ok (S : Sto) (d : D) : depOk S (dep S d) := by
  cases d with
  | ref i =>
    simp only [dep]
    split
    · rename_i c e; exact e
    · trivial
  | _ => trivial
/-- what a value's items are, for as long as what it leans on stands -/
theorem seq_d {K : PySem.W.Frag} {H1 : Hp} {ι1 : Ad} {S1 : Sto} {x : V} {d : D} {ds : List D} (s1 : StOk K H1 ι1 S1) (r : Rp K H1 ι1 x d) (h : items S1 d = some ds) : ∃ k a, x = .ref a ∧ SqD K k a (dep S1 d) ds H1 ι1 := by
  cases r with
  | tup h1 r1 =>
    simp only [items, Option.some.injEq] at h; subst h
    exact ⟨false, _, rfl, fun H ι S e s _ => ⟨_, e.sqT h1, r1.ext e⟩⟩
  | lst h1 n r1 =>
    simp only [items, Option.some.injEq] at h; subst h
    exact ⟨true, _, rfl, fun H ι S e s _ => ⟨_, SqL.of (e.keep _ _ h1 n.1), r1.ext e⟩⟩
  | fz h1 r1 =>
    simp only [items, Option.some.injEq] at h; subst h
    exact ⟨true, _, rfl, fun H ι S e s _ => ⟨_, (h1.mono fun o u => e.frzs _ o u).sq, r1.ext e⟩⟩
  | @ref i a hi =>
    simp only [items] at h
    split at h
    · rename_i ds' es
      cases h
      refine ⟨true, a, rfl, fun H ι S e s dpo => ?_⟩
      simp only [dep, es] at dpo
      have dpo' : S[i]? = some (.lst ds) := dpo
      obtain ⟨a', ha, c⟩ := s.at dpo'
      rw [e.ix hi] at ha; cases ha
      cases c with
      | lst h1 r1 => exact ⟨_, SqL.of h1, r1⟩
    · cases h
  | _ => simp [items] at h
theorem PI.imp {wi wi' : TI} (h : PI X tg e wi) (i : ∀ σ H R, wi' σ H R → wi σ H R) : PI X tg e wi' := ⟨fun pins s σ H R I q => h.run pins s σ H R I (i _ _ _ q)⟩
theorem i_seq (he : PE X e (tE X.K XR W fe (ev C ge))) : PI X tg e (tI X.K XR W (evI C ge)) := by
  refine PI.imp (pi_seq he) fun σ H R ⟨ι, S, ρ, hE, hS, q⟩ => ⟨ι, S, ρ, hE, hS, (EndG.bind (show EndG _ _ _ _ _ _ _ ((ev C ge ρ S).bind _) _ from q)).imp fun x H1 ⟨ι1, S1, d, e1, s1, r1, q1⟩ => ?_⟩
  cases hi : items S1 d with
  | none => rw [hi] at q1; exact q1.elim
  | some ds =>
    rw [hi] at q1
    obtain ⟨k, a, rfl, sd⟩ := seq_d s1 r1.1 hi
    obtain ⟨xs, hq, _⟩ := sd H1 ι1 S1 (Ext.refl _ _) s1 (dep_ok S1 d)
    exact ⟨k, a, xs, rfl, hq, q1 _ H1 ι1 (Ext.refl _ _) s1 ⟨ito_seq sd, dep_ok S1 d⟩⟩
theorem enm_get : ∀ {ds : List D} {n i : Nat} {d : D}, (enmL n ds)[i]? = some d → ∃ x, ds[i]? = some x ∧ d = .tup [.int ((n + i : Nat) : Int), x]
  | [], n, i, d, h => by simp [enmL] at h
  | x :: ds, n, 0, d, h => by simp [enmL] at h; exact ⟨x, rfl, by simp [← h]⟩
  | x :: ds, n, i + 1, d, h => by
    obtain ⟨y, hy, e⟩ := enm_get (ds := ds) (n := n + 1) (i := i) (d := d) (by simpa [enmL] using h)
    exact ⟨y, by simpa using hy, by rw [e]; congr 3; omega⟩
theorem enm_len : ∀ (ds : List D) (n : Nat), (enmL n ds).length = ds.length
  | [], n => rfl
  | x :: ds, n => by simp [enmL, enm_len ds]
theorem pair_new {K : PySem.W.Frag} {H : Hp} {ι : Ad} {S : Sto} {T : Addr} {x y : V} {dx dy : D} (hT : H T = none) (s : StOk K H ι S) (rx : Rp K H ι x dx) (ry : Rp K H ι y dy) :
    Ext ι H ι (upd H T (.tup [x, y])) ∧ StOk K (upd H T (.tup [x, y])) ι S ∧ Rp K (upd H T (.tup [x, y])) ι (.ref T) (.tup [dx, dy]) :=
  ⟨Ext.new ι hT, s.new hT, .tup (SqT.of upd_same) (.cons (rx.ext (Ext.new ι hT)) (.cons (ry.ext (Ext.new ι hT)) .nil))⟩
theorem i_enm {p pos tpos : Pos} {elts : List Expr} {kk : Nat} (hg : Gl X "enumerate") (hm : X.mg "enumerate" = none) (he : PE X e (tE X.K XR W fe (ev C ge))) (hs : starEach [e] X.env = [(false, eval e X.env)]) :
    PI X (.Tuple elts kk tpos) (.Call (.Name "enumerate" p) [e] [] pos) (tI X.K XR W (evI C (.enm ge))) := by
  refine PI.imp (pi_enq hg hm (pa_cons he pa_nil hs) hs) fun σ H RR ⟨ι, S, ρ, hE, hS, q⟩ => ⟨ι, S, ρ, hE, hS, ?_⟩
  simp only [evI, ev, bind_assoc_R] at q
  refine (EndG.bind q).imp fun x H1 ⟨ι1, S1, d, e1, s1, r1, q1⟩ => ?_
  have fin : ∀ ds, items S1 d = some ds → dep S1 d = none → EndG X.K XR W ι1 H1 σ (fun J p H' ι' S' => ItOk X.K J p.1 p.2 H' ι' ∧ depOk S' p.1) (.ok (none, enmL 0 ds) S1 : R (Option (Nat × Cell) × List D)) RR →
      ∃ k a xs, [x] = [V.ref a] ∧ SqV X.K k H1 a xs ∧ RR (Itq X.K k a) H1 := by
    intro ds hi hd q1
    obtain ⟨k, a, rfl, sd⟩ := seq_d s1 r1.1 hi
    rw [hd] at sd
    obtain ⟨xs, hq, _⟩ := sd H1 ι1 S1 (Ext.refl _ _) s1 trivial
    refine ⟨k, a, xs, rfl, hq, q1 _ H1 ι1 (Ext.refl _ _) s1 ⟨fun i H2 ι2 S2 e2 s2 _ => ?_, trivial⟩⟩
    obtain ⟨xs2, hq2, rl2⟩ := sd H2 ι2 S2 e2 s2 trivial
    refine ⟨fun hi => ⟨xs2, hq2, by rw [hi, enm_len]; exact rl2.length⟩, fun d hd => ?_⟩
    obtain ⟨dx, hdx, rfl⟩ := enm_get hd
    obtain ⟨y, hy, ry⟩ := rl2.get hdx
    refine ⟨⟨xs2, y, hq2, hy⟩, fun v H3 hv => ?_⟩
    obtain ⟨T, y', rfl, hT, rfl, hy'⟩ := hv
    have := hy' xs2 hq2
    rw [hy] at this; cases this
    rw [Nat.zero_add]
    exact pair_new hT s2 (.int _) ry
  cases d with
  | ref i => exact q1.elim
  | tup ds => exact fin ds rfl rfl q1
  | lst ds => exact fin ds rfl rfl q1
  | fz ds => exact fin ds rfl rfl q1
  | _ => exact q1.elim
theorem zip_get : ∀ {ds es : List D} {i : Nat} {d : D}, (zipL ds es)[i]? = some d → ∃ x y, ds[i]? = some x ∧ es[i]? = some y ∧ d = .tup [x, y]
  | [], _, i, d, h => by simp [zipL] at h
  | _ :: _, [], i, d, h => by simp [zipL] at h
  | x :: ds, y :: es, 0, d, h => by simp [zipL] at h; exact ⟨x, y, rfl, rfl, h.symm⟩
  | x :: ds, y :: es, i + 1, d, h => by
    obtain ⟨u, v, h1, h2, e⟩ := zip_get (ds := ds) (es := es) (i := i) (d := d) (by simpa [zipL] using h)
    exact ⟨u, v, by simpa using h1, by simpa using h2, e⟩
theorem zip_len : ∀ (ds es : List D), (zipL ds es).length = min ds.length es.length
  | [], _ => by simp [zipL]
  | _ :: _, [] => by simp [zipL]
  | x :: ds, y :: es => by simp [zipL, zip_len ds es]
theorem i_zip {p pos tpos : Pos} {elts : List Expr} {kk : Nat} (hg : Gl X "zip") (hm : X.mg "zip" = none) (he : PE X e (tE X.K XR W fe (ev C ge))) (he2 : PE X e2 (tE X.K XR W fe2 (ev C ge2)))
    (hs : starEach [e, e2] X.env = (false, eval e X.env) :: starEach [e2] X.env) (hs2 : starEach [e2] X.env = (false, eval e2 X.env) :: starEach [] X.env) :
    PI X (.Tuple elts kk tpos) (.Call (.Name "zip" p) [e, e2] [] pos) (tI X.K XR W (evI C (.zip ge ge2))) := by
  refine PI.imp (pi_zq hg hm (pa_cons he (pa_cons he2 pa_nil hs2) hs) hs (by rw [hs2]; rfl)) fun σ H RR ⟨ι, S, ρ, hE, hS, q⟩ => ⟨ι, S, ρ, hE, hS, ?_⟩
  simp only [evI, ev, bind_assoc_R] at q
  refine (EndG.bind q).imp fun x H1 ⟨ι1, S1, d, e1, s1, r1, q1⟩ => ?_
  refine ⟨ι1, S1, ρ, hE.ext e1, s1, (EndG.bind q1).imp fun y H2 ⟨ι2, S2, d2, e2', s2, r2, q2⟩ => ?_⟩
  have fin : ∀ ds es, items S2 d = some ds → items S2 d2 = some es → dep S2 d = none → dep S2 d2 = none → EndG X.K XR W ι2 H2 σ (fun J p H' ι' S' => ItOk X.K J p.1 p.2 H' ι' ∧ depOk S' p.1) (.ok (none, zipL ds es) S2 : R (Option (Nat × Cell) × List D)) RR →
      ∃ k1 k2 a b xs ys, [x, y] = [V.ref a, V.ref b] ∧ SqV X.K k1 H2 a xs ∧ SqV X.K k2 H2 b ys ∧ RR (Itzq X.K k1 k2 a b) H2 := by
    intro ds es hi hi2 hd hd2 q1
    obtain ⟨k1, a, rfl, sd⟩ := seq_d s2 (r1.1.ext e2') hi
    obtain ⟨k2, b, rfl, sd2⟩ := seq_d s2 r2.1 hi2
    rw [hd] at sd
    rw [hd2] at sd2
    obtain ⟨xs, hq, _⟩ := sd H2 ι2 S2 (Ext.refl _ _) s2 trivial
    obtain ⟨ys, hq2, _⟩ := sd2 H2 ι2 S2 (Ext.refl _ _) s2 trivial
    refine ⟨k1, k2, a, b, xs, ys, rfl, hq, hq2, q1 _ H2 ι2 (Ext.refl _ _) s2 ⟨fun i H3 ι3 S3 e3 s3 _ => ?_, trivial⟩⟩
    obtain ⟨xs3, hq3, rl3⟩ := sd H3 ι3 S3 e3 s3 trivial
    obtain ⟨ys3, hr3, rm3⟩ := sd2 H3 ι3 S3 e3 s3 trivial
    refine ⟨fun hi => ⟨xs3, ys3, hq3, hr3, by rw [hi, zip_len, rl3.length, rm3.length]⟩, fun d hd => ?_⟩
    obtain ⟨dx, dy, hdx, hdy, rfl⟩ := zip_get hd
    obtain ⟨u, hu, ru⟩ := rl3.get hdx
    obtain ⟨v, hv, rv⟩ := rm3.get hdy
    refine ⟨⟨xs3, ys3, u, v, hq3, hr3, hu, hv⟩, fun z H4 hz => ?_⟩
    obtain ⟨T, u', v', rfl, hT, rfl, h1, h2⟩ := hz
    have t1 := h1 xs3 hq3
    have t2 := h2 ys3 hr3
    rw [hu] at t1; cases t1
    rw [hv] at t2; cases t2
    exact pair_new hT s3 ru rv
  cases d with
  | ref i => exact q2.elim
  | tup ds => cases d2 with
    | ref i => exact q2.elim
    | tup es => exact fin ds es rfl rfl rfl rfl q2
    | lst es => exact fin ds es rfl rfl rfl rfl q2
    | fz es => exact fin ds es rfl rfl rfl rfl q2
    | _ => exact q2.elim
  | lst ds => cases d2 with
    | ref i => exact q2.elim
    | tup es => exact fin ds es rfl rfl rfl rfl q2
    | lst es => exact fin ds es rfl rfl rfl rfl q2
    | fz es => exact fin ds es rfl rfl rfl rfl q2
    | _ => exact q2.elim
  | fz ds => cases d2 with
    | ref i => exact q2.elim
    | tup es => exact fin ds es rfl rfl rfl rfl q2
    | lst es => exact fin ds es rfl rfl rfl rfl q2
    | fz es => exact fin ds es rfl rfl rfl rfl q2
    | _ => exact q2.elim
  | _ => cases d2 <;> exact q2.elim
theorem rng_get {lo : Int} {n i : Nat} {d : D} (h : (rngL lo n)[i]? = some d) : i < n ∧ d = .int (lo + i) := by
  have hi : i < n := by
    have h2 := (List.getElem?_eq_some_iff.mp h).1
    simpa [rngL] using h2
  refine ⟨hi, ?_⟩
  unfold rngL at h
  rw [List.getElem?_map, List.getElem?_range hi] at h
  exact (Option.some.inj h).symm
theorem ito_rng {K : PySem.W.Frag} {lo : Int} {n : Nat} {H1 : Hp} {ι1 : Ad} : ItOk K (Itr lo n) none (rngL lo n) H1 ι1 := by
  intro i H ι S e s _
  refine ⟨fun hi => by
    have : (rngL lo n).length = n := by simp [rngL]
    show n ≤ i
    omega, fun d hd => ?_⟩
  obtain ⟨hi, rfl⟩ := rng_get hd
  exact ⟨hi, fun x H' ⟨h1, h2⟩ => by subst h1 h2; exact ⟨Ext.refl _ _, s, .int _⟩⟩
theorem i_rng1 {p pos : Pos} (hg : Gl X "range") (hm : X.mg "range" = none) (he : PE X e (tE X.K XR W fe (ev C ge))) (hs : starEach [e] X.env = [(false, eval e X.env)]) :
    PI X tg (.Call (.Name "range" p) [e] [] pos) (tI X.K XR W (evI C (.rng1 ge))) := by
  refine PI.imp (pi_range1 hg hm (pa_cons he pa_nil hs) hs) fun σ H R ⟨ι, S, ρ, hE, hS, q⟩ => ⟨ι, S, ρ, hE, hS, ?_⟩
  simp only [evI, ev, bind_assoc_R] at q
  refine (EndG.bind q).imp fun x H1 ⟨ι1, S1, d, e1, s1, r1, q1⟩ => ?_
  cases d with
  | int j =>
    obtain ⟨r1, _⟩ := r1
    cases r1
    simp only at q1
    by_cases hj : rngOk j
    · rw [if_pos hj] at q1
      exact ⟨j, rfl, hj.1, hj.2, q1 _ H1 ι1 (Ext.refl _ _) s1 ⟨ito_rng, trivial⟩⟩
    · rw [if_neg hj] at q1
      exact q1.elim
  | _ => exact q1.elim
theorem i_rng2 {p pos : Pos} (hg : Gl X "range") (hm : X.mg "range" = none) (he : PE X e (tE X.K XR W fe (ev C ge))) (he2 : PE X e2 (tE X.K XR W fe2 (ev C ge2)))
    (hs : starEach [e, e2] X.env = (false, eval e X.env) :: starEach [e2] X.env) (hs2 : starEach [e2] X.env = (false, eval e2 X.env) :: starEach [] X.env) :
    PI X tg (.Call (.Name "range" p) [e, e2] [] pos) (tI X.K XR W (evI C (.rng2 ge ge2))) := by
  refine PI.imp (pi_range2 hg hm (pa_cons he (pa_cons he2 pa_nil hs2) hs) (by rw [hs, hs2]; rfl) (by rw [hs2]; rfl)) fun σ H R ⟨ι, S, ρ, hE, hS, q⟩ => ⟨ι, S, ρ, hE, hS, ?_⟩
  simp only [evI, ev, bind_assoc_R] at q
  refine (EndG.bind q).imp fun x H1 ⟨ι1, S1, d, e1, s1, r1, q1⟩ => ?_
  refine ⟨ι1, S1, ρ, hE.ext e1, s1, (EndG.bind q1).imp fun y H2 ⟨ι2, S2, d2, e2', s2, r2, q2⟩ => ?_⟩
  cases d with
  | int i => cases d2 with
    | int j =>
      obtain ⟨r1, _⟩ := r1
      obtain ⟨r2, _⟩ := r2
      cases r1
      cases r2
      simp only at q2
      by_cases hj : rngOk i ∧ rngOk j
      · rw [if_pos hj] at q2
        exact ⟨i, j, rfl, ⟨hj.1.1, hj.1.2, hj.2.1, hj.2.2⟩, q2 _ H2 ι2 (Ext.refl _ _) s2 ⟨ito_rng, trivial⟩⟩
      · rw [if_neg hj] at q2
        exact q2.elim
    | _ => exact q2.elim
  | _ => cases d2 <;> exact q2.elim
end
end GV

set_option linter.all false
set_option maxHeartbeats 4000000
set_option maxRecDepth 100000
/-! GV, part v: exceptions of the module's own classes: raise, try. -/
namespace PySem.W
open PySem PySem.Spec PySem.Calls PyProof.Rows
section
variable {prog : Program} {w : World} {A : Around} {E : Value → Shared → Prop} {s : Shared} {K : Frag} {x D : Addr} {ox : Obj} {od : Option Obj}
theorem findObj_dataG {C : Addr} {name : Str} {a g : Value} (hc : (clsIn K C).isSome = true) (ha : findIn K (.ref C) name = some (some a)) (hg : specialIn K a "__get__" = some (some g)) (ht : takesIn K a = some true) : findObj K C od name = some (.bind g a) := by
  obtain ⟨cd, hc⟩ := Option.isSome_iff_exists.mp hc
  unfold findObj
  rw [hc, Option.bind_some, ha, Option.bind_some]
  simp [hg, ht]
theorem kin_classG {Q : Option Value → Shared → Prop} (hga : findIn K (.ref D) "__getattribute__" = some (some (.builtin "BaseException.__getattribute__"))) (hgt : findIn K (.ref D) "__getattr__" = some none) (hsub : subIn K (.ref D) (.type "BaseException") = some true)
    (hdct : hasDictIn K D = true) (ha : findIn K (.ref D) "__class__" = some (some (.builtin "object.__class__")))
    (hn : specialIn K (.builtin "object.__class__") "__get__" = some (some (.builtin "getset_descriptor.__get__"))) (htk : takesIn K (.builtin "object.__class__") = some true) (hm : mroIn K D (.type "object") = some true)
    (X : K.In s.heap) (I : InstAt s.heap x ox D od) (h : Q (some (.ref D)) { s with toks := s.toks + 1 }) : wpAny (model prog w) A (getAttr? (.ref x) "__class__") Q E s := by
  have hf : findObj K D od "__class__" = some (.bind (.builtin "getset_descriptor.__get__") (.builtin "object.__class__")) := findObj_dataG (by obtain ⟨cd, hc, _⟩ := any_some hdct; rw [hc]; rfl) ha hn htk
  obtain ⟨hp, g, d, t, os⟩ := s
  have L0 := I.type (M := model prog w)
  have L1 := looks_findIn (M := model prog w) X hga
  have L2 := looks_findIn (M := model prog w) X hgt
  have L3 := looks_find (M := model prog w) X I hf
  have sub : Looks (model prog w) hp (isInstance (.ref x) (.type "BaseException")) true := L0.andThen (looks_subIn X hsub)
  have hx0 : (false && onTheHeap (Value.builtin "BaseException.__getattribute__")) = false := rfl
  have hx2 : (Value.builtin "BaseException.__getattribute__" == Value.builtin "object.__getattribute__") = false := by decide +kernel
  have hx1 : (onTheHeap (Value.ref D) && Value.builtin "BaseException.__getattribute__" == Value.builtin "object.__getattribute__") = false := by rw [hx2]; rfl
  unfold getAttr? getAttrBy? getAttrBy
  refine wpAny_bind (wpAny_mkText (wpAny_bind (wpAny_attempt (wpAny_holding (wpAny_bind (L0.at (wpAny_bind (L1.at ?_))))))))
  show wpAny _ _ (if (onTheHeap (Value.ref D) && Value.builtin "BaseException.__getattribute__" == Value.builtin "object.__getattribute__") = true then _ else _) _ _ _
  rw [hx1, if_neg Bool.false_ne_true]
  unfold getAttrByItsOwn hookBefore
  refine wpAny_bind ?_
  rw [if_pos (show onTheHeap (Value.ref D) = true from rfl)]
  refine L2.at ?_
  refine wpAny_bind (wpAny_attempt (wpAny_holding ?_))
  unfold callGetattribute
  rw [hx0, if_neg Bool.false_ne_true]
  unfold boundAndCalled
  rw [PySem.F.excAttr_ValueError.ga.bind (.ref x)]
  refine wpAny_bind (wpAny_pure ?_)
  show wpAny _ _ (call (.builtin "BaseException.__getattribute__") [.ref x, .str "__class__" t]) _ _ _
  refine wpAny_call (codeAny_call_builtin PySem.F.excAttr_ValueError.ga.plain PySem.F.entry_bexc_ga ?_)
  refine @check_slot (model prog w) _ _ ⟨hp, g, d, t + 1, os⟩ "BaseException.__getattribute__" "BaseException" "__getattribute__" (.ref x) [.str "__class__" t] [] _ (by decide +kernel) (by decide +kernel) sub (PySem.F.args_bexc_ga (.ref x) (.str "__class__" t)) ?_
  unfold Builtin.«object.__getattribute__»
  refine wpAny_bind (wpAny_of_eq (a := ((Value.ref x : Value), [Value.str "__class__" t])) (by first | rfl | (simp only [slotArgs]; rfl)) ?_)
  refine wpAny_bind (wpAny_pure (wpAny_bind (L0.at (wpAny_bind (L3.at ?_)))))
  show wpAny _ _ (holding [Value.builtin "object.__class__"] (call (.builtin "getset_descriptor.__get__") [.builtin "object.__class__", .ref x, .ref D]) >>= ret) _ _ _
  refine wpAny_bind (wpAny_holding (wpAny_call (class_get (s := ⟨hp, g, d, t + 1, os⟩) (ox := ox) (od := od) X I hm ?_)))
  refine wpAny_pure ?_
  show wpAny _ _ (handedOut (.ref D)) _ _ _
  rw [handedOut_of (v := .ref D) rfl]
  first
    | exact wpAny_pure (wpAny_pure h)
    | exact wpAny_pure h
    | exact wpAny_pure (wpAny_bind (wpAny_pure (wpAny_pure h)))
theorem kitx_excG (hga : findIn K (.ref D) "__getattribute__" = some (some (.builtin "BaseException.__getattribute__"))) (hgt : findIn K (.ref D) "__getattr__" = some none) (hsub : subIn K (.ref D) (.type "BaseException") = some true) (hdct : hasDictIn K D = true) (ha : findIn K (.ref D) "__class__" = some (some (.builtin "object.__class__")))
    (hn : specialIn K (.builtin "object.__class__") "__get__" = some (some (.builtin "getset_descriptor.__get__"))) (htk : takesIn K (.builtin "object.__class__") = some true) (hm : mroIn K D (.type "object") = some true) :
    KitX K (.ref x) (.ref D) (fun h => ∃ od, InstAt h x ox D od) where
  ty := fun _ _ _ ⟨_, I⟩ => I.type
  it := fun _ _ X _ => by
    obtain ⟨cdD, hcD, _⟩ := any_some hdct
    unfold clsIn at hcD
    split at hcD
    · rename_i c' d' cd' sl' ho
      intro A' Q' E' s' k q
      unfold isType loadHead
      exact wpAny_bind (wpAny_loadPart (k _ _ (X _ _ ho)) (wpAny_pure q))
    · cases hcD
  ne := fun h tp dd its n sl X htp => by
    obtain ⟨cdD, hcD, _⟩ := any_some hdct
    refine Bool.eq_false_iff.mpr fun q => ?_
    have e : D = tp := Value.ref.inj (beq_iff_eq.mp q)
    subst e
    unfold clsIn at hcD
    split at hcD
    · rename_i c' d' cd' sl' ho
      have z := (X _ _ ho).symm.trans htp
      cases z
    · cases hcD
  ca := fun X ⟨_, I⟩ k => kin_classG hga hgt hsub hdct ha hn htk hm X I k
end
end PySem.W
namespace GV
open PySem PySem.Spec PyProof.Rows L2

/-! ### the classes -/
def clsNm : Nat → Str
  | 0 => "GridError" | 1 => "Unfit" | 2 => "TooMany" | 3 => "BadText" | 4 => "BadPolygon" | 5 => "BadFrame" | 6 => "BadLog" | 7 => "Refused" | 8 => "NothingToUndo" | 9 => "NothingToRedo" | 10 => "NoName" | _ => "NoVersion"
def cad (K : PySem.W.Frag) (n : Nat) : Option Addr := match PySem.W.nsIn K mainGlobals (clsNm n) with
  | some (some (.ref C)) => some C
  | _ => none
abbrev veB : List Value := [.type "ValueError", .type "Exception", .type "BaseException", .type "object"]
def clsB (K : PySem.W.Frag) (n : Nat) : Bool := match cad K n with
  | some C => PySem.W.keepIn K (.ref C) && (decide (PySem.W.subIn K (.ref C) (.type "BaseException") = some true) && (decide (PySem.W.typeIn K (.ref C) = some (.type "type")) && (PySem.W.hasDictIn K C &&
      (decide (PySem.W.findIn K (.ref C) "__getattribute__" = some (some (.builtin "BaseException.__getattribute__"))) && (decide (PySem.W.findIn K (.ref C) "__getattr__" = some none) &&
      (decide (PySem.W.findIn K (.ref C) "__class__" = some (some (.builtin "object.__class__"))) && (decide (PySem.W.mroIn K C (.type "object") = some true) &&
      (if fldNo n = 0 then PySem.W.excIn K C veB "ValueError.__new__" else decide (PySem.W.findIn K (.ref C) (fldNm (fldNo n)) = some none)))))))))
  | none => false
def pairB (K : PySem.W.Frag) (n m : Nat) : Bool := match cad K n, cad K m with
  | some C, some D => decide (PySem.W.kitOne K (.ref C) (.ref D) = some (xsub n m)) && decide (PySem.W.exmOne K (.ref C) (.ref D) = some (xsub n m))
  | _, _ => false
def metaB (K : PySem.W.Frag) : Bool := decide (PySem.W.specialIn K (.builtin "object.__class__") "__get__" = some (some (.builtin "getset_descriptor.__get__"))) && decide (PySem.W.takesIn K (.builtin "object.__class__") = some true)
def clssB (K : PySem.W.Frag) (ns : List Nat) : Bool := ns.isEmpty || (ns.all (clsB K) && (ns.all (fun n => ns.all (pairB K n)) && metaB K))
structure ClsOk (K : PySem.W.Frag) (n : Nat) (C : Addr) : Prop where
  ad : cad K n = some C
  keep : PySem.W.keepIn K (.ref C) = true
  xf : XfC K C
  ty : PySem.W.typeIn K (.ref C) = some (.type "type")
  cl : PySem.W.findIn K (.ref C) "__class__" = some (some (.builtin "object.__class__"))
  ob : PySem.W.mroIn K C (.type "object") = some true
  own : fldNo n = 0 → PySem.W.excIn K C veB "ValueError.__new__" = true
  fld : fldNo n ≠ 0 → PySem.W.findIn K (.ref C) (fldNm (fldNo n)) = some none
  gt : PySem.W.specialIn K (.builtin "object.__class__") "__get__" = some (some (.builtin "getset_descriptor.__get__"))
  tk : PySem.W.takesIn K (.builtin "object.__class__") = some true
/-- what is known of the classes -/
structure ClsKs (K : PySem.W.Frag) (ns : List Nat) : Prop where
  one : ∀ n ∈ ns, ∃ C, ClsOk K n C
  kit : ∀ n ∈ ns, ∀ m ∈ ns, ∀ C D, cad K n = some C → cad K m = some D → PySem.W.kitOne K (.ref C) (.ref D) = some (xsub n m)
  exm : ∀ n ∈ ns, ∀ m ∈ ns, ∀ C D, cad K n = some C → cad K m = some D → PySem.W.exmOne K (.ref C) (.ref D) = some (xsub n m)
theorem clss_ok {K : PySem.W.Frag} {ns : List Nat} (h : clssB K ns = true) : ClsKs K ns := by
  unfold clssB at h
  rcases Bool.or_eq_true_iff.mp h with h | h
  · have e : ns = [] := List.isEmpty_iff.mp h
    subst e
    exact ⟨fun n hn => (by cases hn), fun n hn => (by cases hn), fun n hn => (by cases hn)⟩
  obtain ⟨h1, h⟩ := Bool.and_eq_true_iff.mp h
  obtain ⟨h2, h3⟩ := Bool.and_eq_true_iff.mp h
  obtain ⟨m1, m2⟩ := Bool.and_eq_true_iff.mp h3
  have pr : ∀ n ∈ ns, ∀ m ∈ ns, pairB K n m = true := fun n hn m hm => List.all_eq_true.mp (List.all_eq_true.mp h2 n hn) m hm
  refine ⟨fun n hn => ?_, fun n hn m hm C D hC hD => ?_, fun n hn m hm C D hC hD => ?_⟩
  · have := List.all_eq_true.mp h1 n hn
    unfold clsB at this
    split at this
    · rename_i C hC
      obtain ⟨q1, t⟩ := Bool.and_eq_true_iff.mp this
      obtain ⟨q2, t⟩ := Bool.and_eq_true_iff.mp t
      obtain ⟨q3, t⟩ := Bool.and_eq_true_iff.mp t
      obtain ⟨q4, t⟩ := Bool.and_eq_true_iff.mp t
      obtain ⟨q5, t⟩ := Bool.and_eq_true_iff.mp t
      obtain ⟨q6, t⟩ := Bool.and_eq_true_iff.mp t
      obtain ⟨q7, t⟩ := Bool.and_eq_true_iff.mp t
      obtain ⟨q8, q9⟩ := Bool.and_eq_true_iff.mp t
      refine ⟨C, hC, q1, ⟨of_decide_eq_true q5, of_decide_eq_true q6, of_decide_eq_true q2, q4⟩, of_decide_eq_true q3, of_decide_eq_true q7, of_decide_eq_true q8, fun e => ?_, fun e => ?_, of_decide_eq_true m1, of_decide_eq_true m2⟩
      · rwa [if_pos e] at q9
      · rw [if_neg e] at q9; exact of_decide_eq_true q9
    · cases this
  · have := pr n hn m hm
    unfold pairB at this
    rw [hC, hD] at this
    exact of_decide_eq_true (Bool.and_eq_true_iff.mp this).1
  · have := pr n hn m hm
    unfold pairB at this
    rw [hC, hD] at this
    exact of_decide_eq_true (Bool.and_eq_true_iff.mp this).2
/-- how an exception lies in the heap -/
def XRx (K : PySem.W.Frag) (ns : List Nat) : XRT := fun c v cls dd H _ => c ∈ ns ∧ (∃ C, cad K c = some C ∧ cls = .ref C) ∧ ∃ fs, XFit c v dd fs ∧ ∀ d, dd = some d → H d = some (.xd fs)
theorem xrx_ok {K : PySem.W.Frag} {ns : List Nat} : XRok (XRx K ns) := fun _ _ _ _ _ _ _ h => h
theorem xd_out {K : PySem.W.Frag} {H : Hp} {ι : Ad} {S : Sto} {d : Addr} {fs : List (Str × V)} (st : StOk K H ι S) (h : H d = some (.xd fs)) : ι.out d := by
  refine ⟨fun hm => ?_, fun hm => ?_⟩
  · obtain ⟨o, e, q⟩ := st.there hm
    rw [h] at e; cases e
    rcases q with ⟨_, q⟩ | ⟨_, q⟩ <;> cases q
  · obtain ⟨_, xs, e⟩ := st.gh d hm
    rw [h] at e; cases e

/-! ### raise X() -/
section
variable {X : Cx} {W : WX} {C : CallF} {ns : List Nat} {n : Nat} {D : Addr}
theorem pmk_own0 {x : Str} {p pos : Pos} (K0 : ClsOk X.K n D) (h0 : fldNo n = 0) (gC : X.mg x = some (.ref D)) (hg : Gl X x) (hdb : (x == ("__debug__" : Str)) = false) :
    PMk X (.Call (.Name x p) [] [] pos) (fun _ H Q => Q (.ref D) none H) := by
  intro pins s σ H Q I h
  refine wpAny_Call_Name_kw (ld_glob I hg gC ?_ hdb)
  refine PySem.W.callWith_K0 I.kIn K0.keep ?_
  obtain ⟨bm, N, nm, qn, bs, hdct, sn, sub, ab, col, dd, k0, k1, k2, k3, k5, mN, hC, hN, hni, T⟩ := exc_obj I.kIn (K0.own h0)
  refine wpAny_call_exc_subT F.excBase_ValueError T hC hN hni (fun h' e hm => ?_) (by show 0 ≤ sizeLine; exact Nat.zero_le _)
  exact mk_of I hm (raises_own K0.xf.exC K0.ty) h (I.hok.gone hm.new)
theorem s_raise0 {x : Str} {p pos rp : Pos} (hc : X.calm = true) (tk : Takes X W) (hn : n ∈ ns) (K0 : ClsOk X.K n D) (h0 : fldNo n = 0) (gC : X.mg x = some (.ref D)) (hg : Gl X x) (hdb : (x == ("__debug__" : Str)) = false) :
    PS X (.Raise (some (.Call (.Name x p) [] [] pos)) none rp) (tS X.K (XRx X.K ns) W (evS C (.raise n none))) := by
  refine PS.imp (ps_raise hc tk (pmk_own0 K0 h0 gC hg hdb)) fun DD σ H ⟨ι, S, ρ, hE, hS, q⟩ => ?_
  exact q (.ref D) none σ H ι (Ext.refl _ _) hS hE ⟨hn, ⟨D, K0.ad, rfl⟩, [], ⟨fun _ => rfl, fun x e => by cases e⟩, fun d e => by cases e⟩

/-! ### try -/
inductive HdOk (X : Cx) (ns : List Nat) (C : CallF) : List ExceptHandler → St → Prop
  | nil : HdOk X ns C [] .hend
  | cons {x : Str} {m : Nat} {C0 : Addr} {b₀ : Stmt} {suite : List Stmt} {np pos' : Pos} {hds : List ExceptHandler} {nm : Option Str} {i : Option Nat} {s r : St} (hm : m ∈ ns) (ha : cad X.K m = some C0) (hc : Names X x (.ref C0))
      (hi : (nm = none ∧ i = none) ∨ ∃ n j, nm = some n ∧ i = some j ∧ X.N[j]? = some n ∧ X.env.kindOf n = some .local)
      (hsu : ∀ (a : Addr) (oe : Obj) (c : Nat) (v : Option GV.D) (Cc : Addr) (d : Option Addr) (fs : List (Str × V)) (pn : List (Addr × Obj)), Zc (.ref Cc) d oe → (∃ vs, oe.data = .fields vs) → c ∈ ns → cad X.K c = some Cc → XFit c v d fs →
        PSs (X.suite a ((a, oe) :: pn)) (b₀ :: suite) (tS X.K (XRx X.K ns) WF (evS (xC (xR C c v) c v a d fs) s)))
      (hr : HdOk X ns C hds r) : HdOk X ns C (.ExceptHandler (some (.Name x np)) nm (b₀ :: suite) pos' :: hds) (.hnd m i s r)
/-- what the clauses wish -/
def wTry (K : PySem.W.Frag) (ns : List Nat) (W : WX) (C : CallF) (sh : St) (D : Ends) : WX := fun cls d σ H =>
  ∃ c v ι S ρ, EnvOk K H ι σ ρ ∧ StOk K H ι S ∧ XRx K ns c v cls d H ι ∧ EndS K (XRx K ns) W ι H (evS (xR C c v) sh ρ S) D
theorem hndR_eq {c : Nat} {v : Option GV.D} {f : Addr → Option Addr → List (Str × V) → SR} {a : Addr} {d : Option Addr} {fs : List (Str × V)} (hx : XFit c v d fs) (h : hndR c v f ≠ .no) : hndR c v f = f a d fs := by
  unfold hndR at h ⊢
  split
  · rename_i hh
    exact (Classical.choose_spec hh a d fs hx).symm
  · rename_i hh
    rw [dif_neg hh] at h
    exact absurd rfl h
theorem endS_no {K : PySem.W.Frag} {XR : XRT} {W : WX} {ι : Ad} {H : Hp} {r : SR} {D : Ends} (h : EndS K XR W ι H r D) : r ≠ .no := fun e => by rw [e] at h; exact h
theorem endS_gone {K : PySem.W.Frag} {XR : XRT} {W : WX} {ι : Ad} {H : Hp} {r : SR} {D : Ends} {j : Nat} (h : EndS K XR W ι H (r.gone (some j)) D) :
    EndS K XR WF ι H r { nx := fun σ' H' => D.nx (σ'.set j none) H', rt := D.rt, bk := fun σ' H' => D.bk (σ'.set j none) H', ct := fun σ' H' => D.ct (σ'.set j none) H' } := by
  cases r with
  | nx ρ S => exact fun σ' H' ι' e s hE => h _ H' ι' e s (hE.unset j)
  | ct ρ S => exact fun σ' H' ι' e s hE => h _ H' ι' e s (hE.unset j)
  | rt d S => exact h
  | exc c v ρ S => exact h.elim
  | no => exact h.elim
theorem endS_gone0 {K : PySem.W.Frag} {XR : XRT} {W : WX} {ι : Ad} {H : Hp} {r : SR} {D : Ends} (h : EndS K XR W ι H (r.gone none) D) : EndS K XR WF ι H r D := by
  cases r with
  | nx ρ S => exact h
  | ct ρ S => exact h
  | rt d S => exact h
  | exc c v ρ S => exact h.elim
  | no => exact h.elim
theorem s_try {body : List Stmt} {h₀ : ExceptHandler} {hds : List ExceptHandler} {pos : Pos} {sb sh : St} (KS : ClsKs X.K ns) (hs : X.stack = X.env :: X.outer) (hf : X.env.frame = some X.env.locals) (hN : X.N.Nodup) (tk : Takes X W)
    (hb : ∀ (W' : WX) (pn : List (Addr × Obj)) (xe : Value → Shared → Prop), Takes (X.tr pn xe) W' → PassesOwn (model X.prog X.w) X.A X.env xe → PSs (X.tr pn xe) body (tS X.K (XRx X.K ns) W' (evS C sb)))
    (hh : HdOk X ns C (h₀ :: hds) sh) : PS X (.Try body (h₀ :: hds) [] [] pos) (tS X.K (XRx X.K ns) W (evS C (.try_ sb sh))) := by
  refine ⟨fun pins s σ H D I h => ?_⟩
  have ok := I.ok
  have hfr : X.A.frames = some (X.env :: X.outer) := by rw [ok.frames, hs]
  have hbody : tS X.K (XRx X.K ns) (wTry X.K ns W C sh D) (evS C sb) D σ H := by
    obtain ⟨ι, S, ρ, hE, hS, q⟩ := h
    refine ⟨ι, S, ρ, hE, hS, ?_⟩
    simp only [evS] at q
    cases hr : evS C sb ρ S with
    | nx ρ' S' => rw [hr] at q; exact q
    | ct ρ' S' => rw [hr] at q; exact q
    | rt d S' => rw [hr] at q; exact q
    | no => rw [hr] at q; exact q
    | exc c v ρ' S' =>
      rw [hr] at q
      exact fun cls dd σ' H' ι' e st hE' x => ⟨c, v, ι', S', ρ', hE', st, x, EndS.shift q e⟩
  refine wpAny_Try_except ?_
  refine wpAny_mono ((hb (wTry X.K ns W C sh D) (X.pn ++ pins) (fun e s₁ => wpAny (model X.prog X.w) X.A (noteFrame e X.env) (fun _ s₂ => wpAny (model X.prog X.w) X.A (setFlight e none) (fun _ s₃ =>
    wpAny (model X.prog X.w) X.A (handleBy e X.env (h₀ :: hds)) (SP X pins D) X.xe s₃) X.xe s₂) X.xe s₁) (fun u s' xx => ?_) PassesOwn.looking).run [] s σ H D (I.toTry _) hbody) (fun f s1 hsp => ?_) (fun e s1 he => he)
  · -- the catch
    obtain ⟨a, B, sI, pins', σ', H', cls, d, rfl, J', nb, up, sky, na, os, ag, w⟩ := xx
    have J : Inv X pins σ' H' sI := J'.ofTry ok
    have sky' : Sky B (X.env :: X.outer) a (Zc cls d) X.env.locals s'.heap := by rw [← hs]; exact sky
    show wpAny (model X.prog X.w) X.A (noteFrame (.ref a) X.env) _ _ _
    refine Sky.land Zc.steady hfr hf sky' fun h3 fl3 up3 => ?_
    have J3 : Inv X pins σ' H' { s' with heap := h3 } := J.landed nb fl3.1 (up.trans up3) os ag
    obtain ⟨oe3, vs3, he3, hz3, hd3⟩ := fl3.there
    have notFr : ∀ {h : Heap} {o : Obj} {vs : Array Value}, h.FunFrames B (X.env :: X.outer) → h.get? a = some o → o.data = .fields vs → a ∉ frs (X.env :: X.outer) := fun {h o vs} ff e dd hm => by
      obtain ⟨_, o', e', hnf⟩ := ff.mem hm
      rw [e] at e'; cases e'
      exact hnf _ dd
    have nfr := notFr fl3.2.2.1 he3 hd3
    have nL : a ≠ X.env.locals := fun z => nfr (List.mem_filterMap.mpr ⟨X.env, List.mem_cons_self, by rw [hf, z]⟩)
    have nF : a ∉ X.fs := fun hm => by
      obtain ⟨e, he, q⟩ := List.mem_filterMap.mp hm
      exact nfr (List.mem_filterMap.mpr ⟨e, List.mem_cons_of_mem _ he, q⟩)
    have S3 := J3.suite he3 hd3 na nL nF
    have go : ∀ {hds' : List ExceptHandler} {sh' : St}, HdOk X ns C hds' sh' → wTry X.K ns W C sh' D cls d σ' H' →
        wpAny (model X.prog X.w) X.A (handleBy (.ref a) X.env hds') (SP X pins D) X.xe { s' with heap := h3 } := by
      intro hds' sh' hk
      induction hk with
      | nil =>
        intro w
        have w' : W cls d σ' H' := by
          obtain ⟨c, v, ι, S, ρ, hE, hS, x, q⟩ := w
          simp only [evS, xR, if_true] at q
          exact q cls d σ' H' ι (Ext.refl _ _) hS hE x
        refine wpAny_handleBy_nil ?_
        obtain ⟨k1, k2, k3, oe, vs, T, oT, ts', he, hz, hd, h1, hr⟩ := id fl3
        unfold PySem.passOn
        refine wpAny_bind (wpAny_field he hd h1 ?_)
        rw [if_neg (show ¬ ((Value.ref T == Value.none) = true) from by simp)]
        have fin : wpAny (model X.prog X.w) X.A (setFlight (.ref a) X.env.frame) (fun _ s4 => wpAny (model X.prog X.w) X.A (throw (.ref a) : Sem Flow) (SP X pins D) X.xe s4) X.xe { s' with heap := h3 } := by
          rw [hf]
          refine HandSPX.setFlight_upZ fl3 fun h4 hh4 up4 => wpAny_throw (tk _ _ ?_)
          exact ⟨a, B, sI, pins, σ', H', cls, d, rfl, J, nb, (up.trans up3).trans up4, .inr (.inr (by rw [hs]; exact hh4)), na, os, ag, w'⟩
        first
          | exact wpAny_bind (wpAny_pure (wpAny_bind fin))
          | exact wpAny_bind fin
      | @cons x m C0 b₀ suite np pos' hds2 nm i s2 r hm ha hc hi hsu hr ih =>
        intro w
        obtain ⟨c, v, ι, S, ρ, hE, hS, x0, q⟩ := w
        have x1 := x0
        obtain ⟨hcn, ⟨Cc, hCc, rfl⟩, fs, fit, hxd⟩ := x1
        have hb1 := KS.exm c hcn m hm Cc C0 hCc ha
        refine wpAny_handleBy_cons (codeAny_handlers_test ?_) (by intro q; cases q)
        have LT : PySem.W.Looks (model X.prog X.w) h3 (typeOf (.ref a)) (.ref Cc) := fun A Q E s k q => wpAny_typeOf_ref (k _ _ he3) (by rw [hz3.1]; exact q)
        have LM := PySem.W.exm_one (M := model X.prog X.w) (J3.kIn) LT hb1
        have test : ∀ {Q : Value → Shared → Prop} {E : Value → Shared → Prop}, Q (.ref C0) { s' with heap := h3 } → wpAny (model X.prog X.w) (X.A.mark (some (.ref a))) (eval (.Name x np) X.env) Q E { s' with heap := h3 } := fun {Q E} q => by
          obtain ⟨hg, hdbg, hm | ⟨hm, hv, hnn⟩⟩ := hc
          · exact ld_glob (X := X.suite a ((a, oe3) :: (X.pn ++ pins))) S3 hg hm q hdbg
          · exact ld_blt (X := X.suite a ((a, oe3) :: (X.pn ++ pins))) S3 hg hm hv q hnn hdbg
        refine test (LM.here ?_)
        simp only [evS, xR, if_true] at q
        cases hbb : xsub c m with
        | true =>
          rw [hbb, if_pos rfl] at q
          rw [hndR_eq (a := a) fit (endS_no q)] at q
          have rpx : Rp X.K H' ι (.ref a) (.exo a d fs) := .exo fun dd e => ⟨hxd dd e, xd_out hS (hxd dd e)⟩
          rcases hi with ⟨rfl, rfl⟩ | ⟨n, j, rfl, rfl, hj, hln⟩
          · refine codeAny_handlers_suite ?_
            refine HandSPX.lands_againZ fl3 fun h4 fl4 up4 => ?_
            have J4 : Inv X pins σ' H' { s' with heap := h4 } := J.landed nb fl4.1 ((up.trans up3).trans up4) os ag
            obtain ⟨oe4, vs4, he4, hz4, hd4⟩ := fl4.there
            have S4 := J4.suite he4 hd4 na nL nF
            refine wpAny_mono ((hsu a oe4 c v Cc d fs (X.pn ++ pins) hz4 ⟨_, hd4⟩ hcn hCc fit).run [] _ _ H' D S4 ⟨ι, S, ρ, hE, hS, endS_gone0 q⟩) (fun f s6 hsp => ?_) (fun _ _ z => False.elim z)
            cases f with
            | next =>
              obtain ⟨σ6, H6, S6, q6⟩ := hsp
              exact ⟨_, _, S6.unsuite ok, q6⟩
            | brk =>
              obtain ⟨σ6, H6, S6, q6⟩ := hsp
              exact ⟨_, _, S6.unsuite ok, q6⟩
            | cont =>
              obtain ⟨σ6, H6, S6, q6⟩ := hsp
              exact ⟨_, _, S6.unsuite ok, q6⟩
            | ret u =>
              obtain ⟨v6, σ6, H6, S6, r6, q6⟩ := hsp
              exact ⟨_, _, _, S6.unsuite ok, r6, q6⟩
          · have hloc : Loc X.env.scope n := .inl hln
            refine codeAny_handlers_suite_as ?_
            refine HandSPX.lands_againZ fl3 fun h4 fl4 up4 => ?_
            have J4 : Inv X pins σ' H' { s' with heap := h4 } := J.landed nb fl4.1 ((up.trans up3).trans up4) os ag
            obtain ⟨oe4, vs4, he4, hz4, hd4⟩ := fl4.there
            have S4 := J4.suite he4 hd4 na nL nF
            refine store_ok (X := X.suite a ((a, oe4) :: (X.pn ++ pins))) (v := .ref a) S4 hN hj hloc rfl (fun s5 S5 => ?_) (.inr hln)
            refine wpAny_mono ((hsu a oe4 c v Cc d fs (X.pn ++ pins) hz4 ⟨_, hd4⟩ hcn hCc fit).run [] s5 _ H' _ S5 ⟨ι, S, _, hE.set j rpx, hS, endS_gone q⟩) (fun f s6 hsp => ?_) (fun _ _ z => False.elim z)
            have end_ : ∀ {σ6 : L2.St} {H6 : Hp} {Q : Shared → Prop}, Inv (X.suite a ((a, oe4) :: (X.pn ++ pins))) [] σ6 H6 s6 → (∀ s7, Inv X pins (σ6.set j none) H6 s7 → Q s7) →
                wpAny (model X.prog X.w) X.A (do bindName X.env n .none; unbindBehindTheSuite X.env n pos') (fun _ s7 => Q s7) X.xe s6 := fun {σ6 H6 Q} S6 hq => gone_ok (S6.unsuite ok) hN hj hln hq
            cases f with
            | next =>
              obtain ⟨σ6, H6, S6, q6⟩ := hsp
              exact end_ S6 fun s7 J7 => ⟨_, _, J7, q6⟩
            | brk =>
              obtain ⟨σ6, H6, S6, q6⟩ := hsp
              exact end_ S6 fun s7 J7 => ⟨_, _, J7, q6⟩
            | cont =>
              obtain ⟨σ6, H6, S6, q6⟩ := hsp
              exact end_ S6 fun s7 J7 => ⟨_, _, J7, q6⟩
            | ret u =>
              obtain ⟨v6, σ6, H6, S6, r6, q6⟩ := hsp
              exact end_ S6 fun s7 J7 => ⟨_, _, _, J7, r6, q6⟩
        | false =>
          rw [hbb, if_neg Bool.false_ne_true] at q
          show wpAny _ X.A (handleBy (.ref a) X.env hds2) _ _ _
          exact ih ⟨c, v, ι, S, ρ, hE, hS, x0, q⟩
    exact go hh w
  · cases f with
    | next =>
      obtain ⟨σ', H', J', q⟩ := hsp
      exact wpAny_execs_nil ⟨σ', H', J'.ofTry ok, q⟩
    | brk =>
      obtain ⟨σ', H', J', q⟩ := hsp
      exact ⟨σ', H', J'.ofTry ok, q⟩
    | cont =>
      obtain ⟨σ', H', J', q⟩ := hsp
      exact ⟨σ', H', J'.ofTry ok, q⟩
    | ret u =>
      obtain ⟨v, σ', H', J', r, q⟩ := hsp
      exact ⟨v, σ', H', J'.ofTry ok, r, q⟩
end
end GV
namespace GV
open PySem PySem.Spec PyProof.Rows L2
section
variable {X : Cx} {a : Addr} {oe : Obj} {pn : List (Addr × Obj)} {Cc : Addr} {d : Option Addr} {n : Nat}
theorem inst_at {pins : List (Addr × Obj)} {σ : L2.St} {H : Hp} {s : Shared} (I : Inv (X.suite a ((a, oe) :: pn)) pins σ H s) (hz : Zc (.ref Cc) d oe) (hf : ∃ vs, oe.data = .fields vs) (hd : ∀ dd, d = some dd → ∃ fs, H dd = some (.xd fs)) : ∃ od, PySem.W.InstAt s.heap a oe Cc od := by
  obtain ⟨hget, _⟩ := I.pin (a, oe) (List.mem_append.mpr (.inl List.mem_cons_self))
  obtain ⟨vs, hv⟩ := hf
  cases d with
  | none =>
    refine ⟨none, ?_⟩
    obtain ⟨oc, od, oda, osl⟩ := oe
    obtain ⟨h1, h2⟩ := hz
    dsimp only at h1 h2 hv
    subst h1 h2 hv
    exact ⟨hget, rfl, rfl, trivial⟩
  | some dd =>
    obtain ⟨fs, ea⟩ := hd dd rfl
    have hx : ObjOk X.prog X.w H s.heap dd (.xd fs) := I.hok dd _ ea
    obtain ⟨mA, hns, hr⟩ := hx
    obtain ⟨od, ho, hl⟩ := lookIn_ns hns
    exact ⟨some od, hget, hz.1, by unfold PySem.W.notCls; rw [hv] <;> rfl, by rw [hz.2]; exact ho⟩
theorem kitx_cls (K0 : ClsOk X.K n Cc) : PySem.W.KitX X.K (.ref a) (.ref Cc) (fun h => ∃ od, PySem.W.InstAt h a oe Cc od) :=
  PySem.W.kitx_excG K0.xf.ga K0.xf.gg K0.xf.exC K0.xf.hdC K0.cl K0.gt K0.tk K0.ob
theorem call_isX (K0 : ClsOk X.K n Cc) (hz : Zc (.ref Cc) d oe) (hf : ∃ vs, oe.data = .fields vs) : CallR (X.suite a ((a, oe) :: pn)) (.builtin "isinstance")
    (fun xs H Q => ∃ Dm b, xs = [.ref a, .ref Dm] ∧ PySem.W.kitOne X.K (.ref Cc) (.ref Dm) = some b ∧ (∀ dd, d = some dd → ∃ fs, H dd = some (.xd fs)) ∧ Q (.bl b) H) := by
  intro pins s σ H xs us Q I r h
  obtain ⟨Dm, b, rfl, e, hd, q⟩ := h
  obtain ⟨u1, u2, rfl, r1, r2⟩ := vals2 r
  cases (show u1 = Value.ref a from r1)
  cases (show u2 = Value.ref Dm from r2)
  exact PySem.W.kia_one (kitx_cls K0) I.kIn (inst_at I hz hf hd) e (fun z => nomatch z) fun tk => ⟨.bl b, H, I.tok tk, rfl, q⟩
theorem vals_refs : ∀ {Ds : List Addr} {us : List Value}, Vals (Ds.map V.ref) us → us = Ds.map Value.ref
  | [], _, .nil => rfl
  | D :: Ds, _, .cons r t => by
    cases (show _ = Value.ref D from r)
    rw [vals_refs t]; rfl
theorem call_isXT (K0 : ClsOk X.K n Cc) (hz : Zc (.ref Cc) d oe) (hf : ∃ vs, oe.data = .fields vs) : CallR (X.suite a ((a, oe) :: pn)) (.builtin "isinstance")
    (fun xs H Q => ∃ (tp : Addr) (Ds : List Addr) (b : Bool), xs = [.ref a, .ref tp] ∧ H tp = some (.tup (Ds.map V.ref)) ∧ PySem.W.kitAny X.K (.ref Cc) (Ds.map Value.ref) = some b ∧ (∀ dd, d = some dd → ∃ fs, H dd = some (.xd fs)) ∧ Q (.bl b) H) := by
  intro pins s σ H xs us Q I r h
  obtain ⟨tp, Ds, b, rfl, hT, e, hd, q⟩ := h
  obtain ⟨u1, u2, rfl, r1, r2⟩ := vals2 r
  cases (show u1 = Value.ref a from r1)
  cases (show u2 = Value.ref tp from r2)
  obtain ⟨_, its, rv, o, h1, h2, m, h3⟩ := (show ObjOk X.prog X.w H s.heap tp (.tup (Ds.map V.ref)) from I.hok tp _ hT)
  have e3 := vals_refs rv
  subst e3
  obtain ⟨oc, od, dt, sl⟩ := o
  simp only at h2 h3
  subst h2 h3
  exact PySem.W.kia_tup (kitx_cls K0) I.kIn (inst_at I hz hf hd) h1 e (fun z => nomatch z) fun tk => ⟨.bl b, H, I.tok tk, rfl, q⟩
end
end GV
/-! ### list(range(..)), tuple(range(..)) -/
namespace GV
open PySem PySem.Spec PyProof.Rows L2
section
variable {X : Cx} {XR : XRT} {W : WX} {C : CallF} {pos p p2 p3 : Pos} {e e2 : Expr} {ge ge2 : G} {fe fe2 : Bool}
theorem rpl_rng {K : PySem.W.Frag} {H : Hp} {ι : Ad} (i j : Int) : RpL K H ι (rgV i j) (rngL i (j - i).toNat ++ []) := by
  rw [List.append_nil]
  have : ∀ l : List Nat, RpL K H ι (l.map fun k : Nat => V.int (i + (k : Nat))) (l.map fun k : Nat => D.int (i + k)) := by
    intro l
    induction l with
    | nil => exact .nil
    | cons a l ih => exact .cons (.int _) ih
  exact this _
def lstRg (tup : Bool) (g : G) : G := if tup = true then .bin .add (.b1 .tuple g) (.cst (.tup [])) else .bin .add (.b1 .list g) (.cst (.lst []))
theorem ev_lstRg1 {tup : Bool} {ρ : Rho} {S : Sto} : ev C (lstRg tup (.rng1 ge)) ρ S = (ev C ge ρ S).bind fun x S1 => match x with
    | .int j => if rngOk j ∧ szOk (rngL 0 j.toNat).length then .ok (if tup = true then .tup (rngL 0 j.toNat ++ []) else .lst (rngL 0 j.toNat ++ [])) S1 else .no
    | _ => .no := by
  unfold lstRg
  cases tup <;> simp only [if_true, Bool.false_eq_true, if_false, ev]
  all_goals
    cases ev C ge ρ S with
    | ok x S1 =>
      simp only [R.bind_ok]
      cases x <;> first | rfl | skip
      rename_i j
      simp only
      by_cases h1 : rngOk j
      · by_cases h2 : szOk (rngL 0 j.toNat).length
        · simp [h1, h2, b1, items, bin, litems]
        · simp [h1, h2, b1, items, bin, litems]
      · simp [h1]
    | exc c v S1 => rfl
    | no => rfl
theorem ev_lstRg2 {tup : Bool} {ρ : Rho} {S : Sto} : ev C (lstRg tup (.rng2 ge ge2)) ρ S = (ev C ge ρ S).bind fun x S1 => (ev C ge2 ρ S1).bind fun y S2 => match x, y with
    | .int i, .int j => if (rngOk i ∧ rngOk j) ∧ szOk (rngL i (j - i).toNat).length then .ok (if tup = true then .tup (rngL i (j - i).toNat ++ []) else .lst (rngL i (j - i).toNat ++ [])) S2 else .no
    | _, _ => .no := by
  unfold lstRg
  cases tup <;> simp only [if_true, Bool.false_eq_true, if_false, ev]
  all_goals
    cases ev C ge ρ S with
    | ok x S1 =>
      simp only [R.bind_ok]
      cases ev C ge2 ρ S1 with
      | ok y S2 =>
        simp only [R.bind_ok]
        cases x <;> cases y <;> first | rfl | skip
        rename_i i j
        simp only
        by_cases h1 : rngOk i ∧ rngOk j
        · by_cases h2 : szOk (rngL i (j - i).toNat).length
          · simp [h1, h2, b1, items, bin, litems]
          · simp [h1, h2, b1, items, bin, litems]
        · simp [h1]
      | exc c v S1 => rfl
      | no => rfl
    | exc c v S1 => rfl
    | no => rfl
theorem rgOk_of {i j : Int} (h1 : rngOk i) (h2 : rngOk j) (h3 : szOk (rngL i (j - i).toNat).length) : RgOk i j := by
  unfold rngOk at h1 h2
  have : (j - i).toNat ≤ 16777216 := by simpa [rngL, szOk] using h3
  exact ⟨h1.1, h1.2, h2.1, h2.2, this⟩
theorem g_lstRg1 {tup : Bool} (hc : X.calm = true) (hg : Gl X (if tup = true then "tuple" else "list")) (hm : X.mg (if tup = true then "tuple" else "list") = none) (hg2 : Gl X "range") (hm2 : X.mg "range" = none) (he : PE X e (tE X.K XR W fe (ev C ge)))
    (hs : starEach [e] X.env = [(false, eval e X.env)]) : PE X (.Call (.Name (if tup = true then "tuple" else "list") p) [.Call (.Name "range" p2) [e] [] p3] [] pos) (tE X.K XR W true (ev C (lstRg tup (.rng1 ge)))) := by
  have pr := prg_1 (p := p2) (pos := p3) hg2 hm2 he hs
  have fin : ∀ {σ : L2.St} {H : Hp} {Q : VK}, tE X.K XR W true (ev C (lstRg tup (.rng1 ge))) σ H Q → tE X.K XR W fe (ev C ge) σ H fun x H1 => ∃ n, x = .int n ∧ RgOk 0 n ∧ ∀ q, H1 q = none → Q (.ref q) (upd H1 q (if tup = true then .tup (rgV 0 n) else .lst (rgV 0 n))) := by
    intro σ H Q ⟨ι, S, ρ, hE, hS, q⟩
    rw [ev_lstRg1] at q
    refine ⟨ι, S, ρ, hE, hS, (EndG.bind q).imp fun x H1 ⟨ι1, S1, dx, e1, s1, r1, q1⟩ => ?_⟩
    obtain ⟨r1, _⟩ := r1
    cases r1 with
    | int j =>
      simp only at q1
      by_cases hh : rngOk j ∧ szOk (rngL 0 j.toNat).length
      · rw [if_pos hh] at q1
        have z0 : rngOk 0 := by decide
        have ok : RgOk 0 j := rgOk_of z0 hh.1 (by rw [Int.sub_zero]; exact hh.2)
        have rl : RpL X.K H1 ι1 (rgV 0 j) (rngL 0 j.toNat ++ []) := by have := rpl_rng (K := X.K) (H := H1) (ι := ι1) 0 j; rwa [Int.sub_zero] at this
        refine ⟨j, rfl, ok, ?_⟩
        cases tup with
        | true => exact new_tup s1 rl fun v H2 e2 s2 rv fv => q1 v H2 ι1 e2 s2 ⟨rv, fun _ => Frs.back e1 fv⟩
        | false => exact new_lst s1 rl fun v H2 e2 s2 rv fv => q1 v H2 ι1 e2 s2 ⟨rv, fun _ => Frs.back e1 fv⟩
      · rw [if_neg hh] at q1; exact q1.elim
    | _ => exact q1.elim
  cases tup with
  | true => exact PE.imp (pe_tupRg hc hg hm pr (by rfl)) fun σ H Q q => (fin q)
  | false => exact PE.imp (pe_listRg hc hg hm pr (by rfl)) fun σ H Q q => (fin q)
theorem g_lstRg2 {tup : Bool} (hc : X.calm = true) (hg : Gl X (if tup = true then "tuple" else "list")) (hm : X.mg (if tup = true then "tuple" else "list") = none) (hg2 : Gl X "range") (hm2 : X.mg "range" = none) (he : PE X e (tE X.K XR W fe (ev C ge)))
    (he2 : PE X e2 (tE X.K XR W fe2 (ev C ge2)))
    (hs : starEach [e, e2] X.env = (false, eval e X.env) :: starEach [e2] X.env) (hs2 : starEach [e2] X.env = [(false, eval e2 X.env)]) (hp2 : (backTo p3 (starEach [e2] X.env)).any (·.1) = false) : PE X (.Call (.Name (if tup = true then "tuple" else "list") p) [.Call (.Name "range" p2) [e, e2] [] p3] [] pos) (tE X.K XR W true (ev C (lstRg tup (.rng2 ge ge2)))) := by
  have pr := prg_2 (p := p2) (pos := p3) hg2 hm2 he he2 hs hs2 hp2
  have fin : ∀ {σ : L2.St} {H : Hp} {Q : VK}, tE X.K XR W true (ev C (lstRg tup (.rng2 ge ge2))) σ H Q → tE X.K XR W fe (ev C ge) σ H fun x H1 => tE X.K XR W fe2 (ev C ge2) σ H1 fun y H2 => ∃ i j, x = .int i ∧ y = .int j ∧ RgOk i j ∧ ∀ q, H2 q = none → Q (.ref q) (upd H2 q (if tup = true then .tup (rgV i j) else .lst (rgV i j))) := by
    intro σ H Q ⟨ι, S, ρ, hE, hS, q⟩
    rw [ev_lstRg2] at q
    refine ⟨ι, S, ρ, hE, hS, (EndG.bind q).imp fun x H1 ⟨ι1, S1, dx, e1, s1, r1, q1⟩ => ?_⟩
    refine ⟨ι1, S1, ρ, hE.ext e1, s1, (EndG.bind q1).imp fun y H2 ⟨ι2, S2, dy, e2, s2, r2, q2⟩ => ?_⟩
    clear q1 q
    replace r1 := r1.1
    replace r2 := r2.1
    obtain ⟨i, rfl⟩ : ∃ i, dx = .int i := by cases dx <;> first | exact ⟨_, rfl⟩ | exact q2.elim
    obtain ⟨j, rfl⟩ : ∃ j, dy = .int j := by cases dy <;> first | exact ⟨_, rfl⟩ | exact q2.elim
    cases r1
    cases r2
    simp only at q2
    by_cases hh : (rngOk i ∧ rngOk j) ∧ szOk (rngL i (j - i).toNat).length
    · rw [if_pos hh] at q2
      refine ⟨i, j, rfl, rfl, rgOk_of hh.1.1 hh.1.2 hh.2, ?_⟩
      have rl := rpl_rng (K := X.K) (H := H2) (ι := ι2) i j
      cases tup with
      | true => exact new_tup s2 rl fun v H3 e3 s3 rv fv => q2 v H3 ι2 e3 s3 ⟨rv, fun _ => Frs.back (e1.trans e2) fv⟩
      | false => exact new_lst s2 rl fun v H3 e3 s3 rv fv => q2 v H3 ι2 e3 s3 ⟨rv, fun _ => Frs.back (e1.trans e2) fv⟩
    · rw [if_neg hh] at q2; exact q2.elim
  cases tup with
  | true => exact PE.imp (pe_tupRg hc hg hm pr (by rfl)) fun σ H Q q => (fin q)
  | false => exact PE.imp (pe_listRg hc hg hm pr (by rfl)) fun σ H Q q => (fin q)
end
end GV

set_option linter.all false
set_option maxHeartbeats 4000000
set_option maxRecDepth 100000
/-! GV, part w: raise X(e), X's own __init__ saying super().__init__('..') and keeping its one argument. -/
namespace GV
open PySem PySem.Spec PySem.W PySem.Calls PyProof.Rows
abbrev F0 : Str := "/claim/cut.py"
def PrOk (P : Program) : Prop := P.main.file = F0 ∧ (P.main.scope.names.lookup ("super" : Str)).isSome = false
/-- super().__init__('..') -/
def supB : Stmt → Bool
  | .Expr (.Call (.Attribute (.Call (.Name su _) [] [] _) ini p2) [.Constant (.str _) _ _] [] p4) _ => decide (su = ("super" : Str)) && (decide (ini = ("__init__" : Str)) && (p2.endLine == p4.line))
  | _ => false
/-- self.f = p -/
def slfB (f p : Str) : Stmt → Bool
  | .Assign [.Attribute (.Name s _) f2 _] (.Name p2 _) _ => decide (s = ("self" : Str)) && (decide (f2 = f) && decide (p2 = p))
  | _ => false
theorem supB_ok {st : Stmt} (h : supB st = true) : ∃ p0 p1 p2 m j p3 p4 p5, (p2.endLine == p4.line) = true ∧ st = .Expr (.Call (.Attribute (.Call (.Name "super" p0) [] [] p1) "__init__" p2) [.Constant (.str m) j p3] [] p4) p5 := by
  unfold supB at h
  split at h
  · obtain ⟨h1, h2⟩ := Bool.and_eq_true_iff.mp h
    obtain ⟨h2, h3⟩ := Bool.and_eq_true_iff.mp h2
    rw [of_decide_eq_true h1, of_decide_eq_true h2]
    exact ⟨_, _, _, _, _, _, _, _, h3, rfl⟩
  · cases h
theorem slfB_ok {f p : Str} {st : Stmt} (h : slfB f p st = true) : ∃ q0 q1 q2 q3, st = .Assign [.Attribute (.Name "self" q0) f q1] (.Name p q2) q3 := by
  unfold slfB at h
  split at h
  · obtain ⟨h1, h2⟩ := Bool.and_eq_true_iff.mp h
    obtain ⟨h2, h3⟩ := Bool.and_eq_true_iff.mp h2
    rw [of_decide_eq_true h1, of_decide_eq_true h2, of_decide_eq_true h3]
    exact ⟨_, _, _, _, rfl⟩
  · cases h
/-- the def at fI of the class at C: what is known of it -/
structure InitFn (K : Frag) (C fI : Addr) (f : Str) where
  name : Str
  qual : Str
  p : Str
  a1 : Option Expr
  a2 : Option Expr
  w1 : Pos
  w2 : Pos
  b1 : Stmt
  b2 : Stmt
  names : List (Str × NameKind)
  more : List (Str × Const)
  kV : Value
  doc : Value
  pm : Value
  an : Option Addr
  ct : Value
  cda : Addr
  cc : Addr
  oc : Value
  od : Option Addr
  osl : Array (Option Value)
  lk : K.lookup fI = some ⟨oc, od, .func (fnX name qual ⟨[], [⟨"self", a1, w1⟩, ⟨p, a2, w2⟩], none, [], [], none, []⟩ [b1, b2] ⟨.function, names, false, false, more⟩ [("__class__", cc)] .none kV doc pm an (.ref cda) ct), osl⟩
  sup : supB b1 = true
  slf : slfB f p b2 = true
  pne : p ≠ "self"
  pf : p = f
  pdb : (p == ("__debug__" : Str)) = false
  cd : codeIn K (.ref cda) qual = true
  s1 : names.lookup ("super" : Str) = some .globalImplicit
  s2 : names.lookup ("__class__" : Str) = some .free
  s3 : names.lookup ("self" : Str) = some .local
  s4 : names.lookup p = some .local
  scell : ∀ x ∈ names, x.2 ≠ .cell
  ce : ∃ cl cld csl, K.lookup cc = some ⟨cl, cld, .cell (some (.ref C)), csl⟩
  fi : ∃ ccl cdd vs ccs tf, K.lookup cda = some ⟨ccl, cdd, .fields vs, ccs⟩ ∧ vs[2]? = some (.str F0 tf)
/-- .. as a check -/
def fileB (K : Frag) (cda : Addr) : Bool := match K.lookup cda with
  | some ⟨_, _, .fields vs, _⟩ => (match (vs[2]? : Option Value) with | some (Value.str f _) => decide (f = F0) | _ => false)
  | _ => false
theorem fileB_ok {K : Frag} {cda : Addr} (h : fileB K cda = true) : ∃ ccl cdd vs ccs tf, K.lookup cda = some ⟨ccl, cdd, .fields vs, ccs⟩ ∧ vs[2]? = some (.str F0 tf) := by
  unfold fileB at h
  split at h
  · rename_i ho
    split at h
    · rename_i hv
      rw [of_decide_eq_true h] at hv
      exact ⟨_, _, _, _, _, ho, hv⟩
    · cases h
  · cases h
def cellB (K : Frag) (cc C : Addr) : Bool := match K.lookup cc with
  | some ⟨_, _, .cell (some (.ref D)), _⟩ => decide (D = C)
  | _ => false
theorem cellB_ok {K : Frag} {cc C : Addr} (h : cellB K cc C = true) : ∃ cl cld csl, K.lookup cc = some ⟨cl, cld, .cell (some (.ref C)), csl⟩ := by
  unfold cellB at h
  split at h
  · rename_i ho
    rw [of_decide_eq_true h] at ho
    exact ⟨_, _, _, ho⟩
  · cases h
def initFB (K : Frag) (C fI : Addr) (f : Str) : Bool := match K.lookup fI with
  | some ⟨_, _, .func ⟨_, qual, ⟨[], [⟨s, _, _⟩, ⟨p, _, _⟩], none, [], [], none, []⟩, .stmts [b1, b2], ⟨.function, names, false, false, more⟩, gl, [(cl, cc)], .none, _, _, _, _, .ref cda, _, bt⟩, _⟩ =>
    decide (s = ("self" : Str)) && (decide (gl = mainGlobals) && (decide (bt = builtinsNs) && (decide (cl = ("__class__" : Str)) && (supB b1 && (slfB f p b2 && (decide (p ≠ ("self" : Str)) && (decide (p = f) && (!(p == ("__debug__" : Str)) && (codeIn K (.ref cda) qual &&
    (decide (names.lookup ("super" : Str) = some .globalImplicit) && (decide (names.lookup ("__class__" : Str) = some .free) && (decide (names.lookup ("self" : Str) = some .local) && (decide (names.lookup p = some .local) &&
    (names.all (fun x => decide (x.2 ≠ .cell)) && (cellB K cc C && fileB K cda)))))))))))))))
  | _ => false
theorem initFB_ok {K : Frag} {C fI : Addr} {f : Str} (h : initFB K C fI f = true) : Nonempty (InitFn K C fI f) := by
  unfold initFB at h
  split at h
  · rename_i oc od nm qual s a1 w1 p a2 w2 b1 b2 names more gl cl cc kV doc pm an cda ct bt osl ho
    simp only [Bool.and_eq_true, decide_eq_true_eq, Bool.not_eq_true', List.all_eq_true] at h
    obtain ⟨rfl, rfl, rfl, rfl, h1, h2, h3, h4, h5, h6, h7, h8, h9, h10, h11, h12, h13⟩ := h
    exact ⟨⟨nm, qual, p, a1, a2, w1, w2, b1, b2, names, more, kV, doc, pm, an, ct, cda, cc, oc, od, osl, ho, h1, h2, h3, h4, h5, h6, h7, h8, h9, h10, h11, cellB_ok h12, fileB_ok h13⟩⟩
  · cases h
/-- what is known of a class with such an __init__ -/
structure InitOk (K : Frag) (C : Addr) (f : Str) : Prop where
  cls : ∃ nm q N bs bm sn sub ab col dd k0 k1 k2 k3 k5, K.lookup C = some (excClassObj nm q C N bs bm true sn sub ab col dd k0 k1 k2 k3 k5 "ValueError.__new__") ∧ PySem.HandSPX.refsVE bm = true ∧ alongIn K "__init__" bm = some (some (.builtin "ValueError.__init__"))
  sa : findIn K (.ref C) "__setattr__" = some (some (.builtin "object.__setattr__"))
  no : findIn K (.ref C) f = some none
  fn : ∃ fI, findIn K (.ref C) "__init__" = some (some (.ref fI)) ∧ typeIn K (.ref fI) = some (.type "function") ∧ Nonempty (InitFn K C fI f)
  sub : mroIn K C (.ref C) = some true
  ve : subIn K (.ref C) (.type "ValueError") = some true
  op : nsIn K cStatics "thirdparty.any" = some none
  su : nsIn K mainGlobals "super" = some none
def clsOB (K : Frag) (C : Addr) : Bool := match K.lookup C with
  | some ⟨.type "type", _, .cls cd, sl⟩ => (match cd.mro, sl.toList with
    | .ref C' :: bm, [_, _, _, _, some (.builtin n), _] => C' == C && (n == "ValueError.__new__" && (!cd.hasDel && (cd.hasDict && (PySem.HandSPX.refsVE bm && decide (alongIn K "__init__" bm = some (some (.builtin "ValueError.__init__")))))))
    | _, _ => false)
  | _ => false
theorem clsOB_ok {K : Frag} {C : Addr} (q : clsOB K C = true) : ∃ nm q N bs bm sn sub ab col dd k0 k1 k2 k3 k5, K.lookup C = some (excClassObj nm q C N bs bm true sn sub ab col dd k0 k1 k2 k3 k5 "ValueError.__new__") ∧ PySem.HandSPX.refsVE bm = true ∧ alongIn K "__init__" bm = some (some (.builtin "ValueError.__init__")) := by
  unfold clsOB at q
  split at q
  · rename_i dd cd sl ho
    split at q
    · rename_i C' bm k0 k1 k2 k3 n k5 hm hs
      simp only [Bool.and_eq_true, beq_iff_eq, Bool.not_eq_true', decide_eq_true_eq] at q
      obtain ⟨rfl, rfl, hdel, hd, ht, hal⟩ := q
      obtain ⟨nm, bs, mro, ns, qn, hdc, sn, sub, ab, col, del⟩ := cd
      dsimp only at hm hdel hd
      subst hm hdel hd
      have hsl : sl = #[k0, k1, k2, k3, some (.builtin "ValueError.__new__"), k5] := by
        obtain ⟨l⟩ := sl
        simp only at hs
        rw [hs]
      subst hsl
      exact ⟨nm, qn, ns, bs, bm, sn, sub, ab, col, dd, k0, k1, k2, k3, k5, ho, ht, hal⟩
    · cases q
  · cases q
def initB (K : Frag) (n : Nat) : Bool := match cad K n with
  | some C => clsOB K C && (decide (findIn K (.ref C) "__setattr__" = some (some (.builtin "object.__setattr__"))) && (decide (findIn K (.ref C) (fldNm (fldNo n)) = some none) && (decide (mroIn K C (.ref C) = some true) &&
      (decide (subIn K (.ref C) (.type "ValueError") = some true) && (decide (nsIn K cStatics "thirdparty.any" = some none) && (decide (nsIn K mainGlobals "super" = some none) &&
      (match findIn K (.ref C) "__init__" with | some (some (.ref fI)) => decide (typeIn K (.ref fI) = some (.type "function")) && initFB K C fI (fldNm (fldNo n)) | _ => false)))))))
  | none => false
theorem initB_ok {K : Frag} {n : Nat} (h : initB K n = true) : ∃ C, cad K n = some C ∧ InitOk K C (fldNm (fldNo n)) := by
  unfold initB at h
  split at h
  · rename_i C hC
    simp only [Bool.and_eq_true, decide_eq_true_eq] at h
    obtain ⟨h1, h2, h3, h4, h5, h6, h7, h8⟩ := h
    refine ⟨C, hC, clsOB_ok h1, h2, h3, ?_, h4, h5, h6, h7⟩
    split at h8
    · rename_i fI hfI
      obtain ⟨a, b⟩ := Bool.and_eq_true_iff.mp h8
      exact ⟨fI, hfI, of_decide_eq_true a, initFB_ok b⟩
    · cases h8
  · cases h

/-! ### its run -/
section
variable {prog : Program} {w : World} {A : Around} {E : Value → Shared → Prop} {s : Shared}
theorem cw_str {u x : Addr} {i : String} {m : Str} {j : Nat} {p3 pos : Pos} {env : Env} {M : Model} {Q : Value → Shared → Prop} (hu : s.heap.get? u = some (kxs_mw i x))
    (h : wpAny M A (call (.ref u) [.str m s.toks]) Q E { s with toks := s.toks + 1 }) : wpAny M A (callWith pos (.ref u) [] (backTo pos (starEach [.Constant (.str m) j p3] env)) []) Q E s := by
  have he : backTo pos (starEach [.Constant (.str m) j p3] env) = [(false, eval (.Constant (.str m) j p3) env)] := by rfl
  rw [he]
  refine kxs_callWith (i := i) (x := x) rfl (evalArgs_plain (Calls.spliced_cons (Calls.Constant_str ?_)))
  exact Calls.spliced_nil ⟨hu, h⟩
theorem mw_call {hp : Heap} {g : Array GenState} {d : Drawn} {t : Nat} {os : OsState} {nm q : Str} {C N e u t0 : Addr} {bs bm : List Value} {sn : List Str} {sub : List Value} {ab : Bool} {col : Option Bool} {dd : Option Addr} {k0 k1 k2 k3 k5 : Option Value} {rest : List Value} {Q : Value → Shared → Prop}
    (hC : hp.get? C = some (excClassObj nm q C N bs bm true sn sub ab col dd k0 k1 k2 k3 k5 "ValueError.__new__")) (he : hp.get? e = some (PySem.HandSPX.excO C t0)) (hu : hp.get? u = some (kxs_mw "ValueError.__init__" e)) (hz : rest.length ≤ sizeLine)
    (hq : ∀ h' t1, (∀ b o, b ≠ e → hp.get? b = some o → h'.get? b = some o) → h'.get? e = some (PySem.HandSPX.excO C t1) → Q .none ⟨h', g, d, t, os⟩) :
    wpAny (model prog w) A (call (.ref u) rest) Q E ⟨hp, g, d, t, os⟩ := by
  refine wpAny_call (codeAny_of_tree ?_)
  show wpAny _ A.in1 (callAny (.ref u) ⟨rest, []⟩) _ _ _
  simp only [callAny]
  refine wpAny_bind (wpAny_load hu ?_)
  simp only [kxs_mw, show (Value.type "method-wrapper" == Value.type "method" || Value.type "method-wrapper" == Value.type "builtin_function_or_method" || Value.type "method-wrapper" == Value.type "method-wrapper") = true by decide, if_true]
  refine KFB.if_so (by decide) ?_
  refine wpAny_bind (check_bound_init F.excBase_ValueError.toExcCallFacts hC he rfl ?_)
  refine wpAny_bind (wpAny_pure (wpAny_pure ?_))
  refine ⟨plainId_quiet F.excBase_ValueError.init.plain _, codeAny_builtin F.excBase_ValueError.initEntry ?_⟩
  exact exc_init_tree (cls := .ref C) (t0 := t0) (dv := none) (c2 := .none) (c3 := .none) (b4 := .bool false) he hz fun h' k e' _ => hq h' _ k e'
theorem bind2 {name qual p : Str} {a1 a2 : Option Expr} {w1 w2 : Pos} {body : List Stmt} {scope : Scope} {cl : List (Str × Addr)} {kV doc pm : Value} {an : Option Addr} {cdv ct : Value} (hf : ∃ n : Nat, p = fldNm n) (_ : True) (a b : Value) :
    bindArgs (fnX name qual ⟨[], [⟨"self", a1, w1⟩, ⟨p, a2, w2⟩], none, [], [], none, []⟩ body scope cl .none kV doc pm an cdv ct) ⟨[a, b], []⟩ = pure [(("self" : Str), a), (p, b)] := by
  obtain ⟨n, rfl⟩ := hf
  unfold fldNm
  split <;> rfl
theorem he_sup {p0 p1 p2 p3 p4 : Pos} {m : Str} {j : Nat} {env : Env} (h : (p2.endLine == p4.line) = true) :
    eval (.Call (.Attribute (.Call (.Name "super" p0) [] [] p1) "__init__" p2) [.Constant (.str m) j p3] [] p4) env = (do
      let ov ← attributeBase (.Call (.Name "super" p0) [] [] p1) "__init__" env (eval (.Call (.Name "super" p0) [] [] p1) env)
      standAt p2.atName
      let (f, first) ← holding [ov] (getMethod ov "__init__" (do return (← importBound (.Call (.Name "super" p0) [] [] p1) env).getD true))
      callWith p4 f first (backTo p4 (starEach [.Constant (.str m) j p3] env)) []) := by
  show (do
      let ov ← attributeBase (.Call (.Name "super" p0) [] [] p1) "__init__" env (eval (.Call (.Name "super" p0) [] [] p1) env)
      standAt p2.atName
      methodCall (.Call (.Name "super" p0) [] [] p1) "__init__" p2 p4 env ov 1 (backTo p4 (starEach [.Constant (.str m) j p3] env)) []) = _
  have e1 : methodCallForm 1 (backTo p4 (starEach [.Constant (.str m) j p3] env)) [] = true := by rfl
  have e2 : methodCallPos true (.Call (.Name "super" p0) [] [] p1) env p2 p4 = pure p4 := by
    unfold methodCallPos
    rw [h]
    rfl
  unfold methodCall
  rw [e1, e2]
  unfold calleeOf
  simp only [if_true, pure_bind]
theorem init_run {K : Frag} {R : Result → Shared → Prop} {hp : Heap} {g : Array GenState} {d : Drawn} {t : Nat} {os : OsState} {C fI e t0 : Addr} {v : Value} {f : Str} {mg mb : Str → Option Value}
    (IF : InitFn K C fI f) (hP : PrOk prog) (hf : ∃ n : Nat, IF.p = fldNm n) (IC : InitOk K C f) (hK : K.In hp) (hKe : K.lookup e = none) (hg : hp.Ns mainGlobals mg) (hb : hp.Ns builtinsNs mb) (hbv : mb "super" = bootBuiltins "super") (hlim : hp.NoLimit) (hroom : A.depth < recursionLimit)
    (he : hp.get? e = some (PySem.HandSPX.excO C t0))
    (hq : ∀ h' tk' dx t1, (∀ b o, b ≠ e → hp.get? b = some o → h'.get? b = some o) → hp.objs.size ≤ dx → dx ≠ e → h'.get? e = some ({ cls := .ref C, dict := some dx, data := .fields #[.ref t1, .none, .none, .none, .bool false, .none] } : Obj) →
      h'.Ns1 dx (fun y => if y = f then some v else none) → R (.ok (.ret .none)) ⟨h', g, d, tk', os⟩) :
    codeAny (model prog w) A (.call (.ref fI) ⟨[.ref e, v], []⟩) R ⟨hp, g, d, t, os⟩ := by
  obtain ⟨nm, q, N, bs, bm, sn, sub, ab, col, dd, k0, k1, k2, k3, k5, hCK, hbm, hal⟩ := IC.cls
  obtain ⟨p0, p1, p2, m, j, p3, p4, p5, hpos, e1⟩ := supB_ok IF.sup
  obtain ⟨q0, q1, q2, q3, e2⟩ := slfB_ok IF.slf
  obtain ⟨cl, cld, csl, hcc⟩ := IF.ce
  obtain ⟨ccl, cdd, vs, ccs, tf, hcode, hvs⟩ := IF.fi
  have hlk := IF.lk
  rw [e1, e2] at hlk
  have hcl : PySem.W.clsIn K C = some { name := nm, bases := bs, mro := .ref C :: bm, ns := N, qualname := q, hasDict := true, slotNames := sn, subclasses := sub, abstract := ab, collection := col, hasDel := false } := by unfold PySem.W.clsIn; rw [hCK]
  refine ks_codeAny_call_defAt (fd := fnX IF.name IF.qual ⟨[], [⟨"self", IF.a1, IF.w1⟩, ⟨IF.p, IF.a2, IF.w2⟩], none, [], [], none, []⟩ _ ⟨.function, IF.names, false, false, IF.more⟩ [("__class__", IF.cc)] .none IF.kV IF.doc IF.pm IF.an (.ref IF.cda) IF.ct) (body := _) (binds := [(("self" : Str), .ref e), (IF.p, v)]) hroom (hK _ _ hlk) rfl hlim (codeRec_of hK IF.cd) rfl (BindsTo.of_eq (bind2 hf trivial _ _)) IF.scell ?_ (fun h1 hns hk1 => ?_) rfl rfl rfl
  · intro x hx
    rcases List.mem_cons.mp hx with rfl | hx
    · exact IF.s3
    · rcases List.mem_cons.mp hx with rfl | hx
      · exact IF.s4
      · cases hx
  have X1 : K.In h1 := fun b o z => hk1 b o (hK b o z)
  have he1 := hk1 _ _ he
  have heL : hp.objs.size ≠ e := fun z => Nat.lt_irrefl _ (by have := Heap.lt_size he; rw [← z] at this; exact this)
  refine ks_wpAt_execs_cons (ks_wpAt_Expr_any (ks_wpAt_MethodCall ?_ (he_sup hpos)))
  refine ks_wpAt_super_base IF.s1 IF.s2 (by decide) rfl (X1 _ _ hlk) rfl rfl rfl (X1 _ _ hcode) rfl hvs (by rw [hP.1]; exact beq_self_eq_true _) hP.2 ?_
  refine ks_loadName_global rfl IF.s1 (loadGlobal_builtin (hg.keeps hk1) (mg_none_of hK hg IC.su) (hb.keeps hk1) (hbv.trans (by first | boot_by_name | rfl | kernel_rfl)) ⟨rfl, ?_⟩)
  refine wpAny_loadName_free rfl IF.s2 rfl ⟨_, X1 _ _ hcc, rfl⟩ ?_
  refine wpAny_loadName_local rfl IF.s3 hns (v := .ref e) ?_ ?_
  · show List.lookup ("self" : Str) [(IF.p, v), (("self" : Str), .ref e)] = _
    have h0 : (("self" : Str) == IF.p) = false := beq_eq_false_iff_ne.mpr (Ne.symm IF.pne)
    rw [List.lookup_cons, h0, List.lookup_cons, beq_self_eq_true]
  refine ks_wpAny_isType_cls (X1 _ _ hCK) rfl ⟨rfl, ?_⟩
  refine ks_wpAny_call_super (X1 _ _ hCK) rfl he1 rfl (fun c z => by cases z) (looks_mroIn X1 IC.sub) (fun h2 hso k2 => ?_)
  have X2 : K.In h2 := fun b o z => k2 b o (X1 b o z)
  have he2 := k2 _ _ he1
  have J2 : InstAt h2 e (PySem.HandSPX.excO C t0) C none := ⟨he2, rfl, rfl, trivial⟩
  have hI : Looks (model prog w) h2 (isInstance (.ref e) (.type "ValueError")) true := J2.type.andThen (looks_subIn X2 IC.ve)
  have hmr : Looks (model prog w) h2 (mroOf (.ref C)) (.ref C :: bm) := (looks_clsIn X2 hcl).andThen .now
  have hdw : ((Value.ref C :: bm).dropWhile (· != .ref C)).drop 1 = bm := by simp [List.dropWhile_cons]
  refine kxs_getMethod kxs_ValueError hso (looks_opaque X2 IC.op) hmr hdw X2 hal hI (ks_ne X2 J2 hcl) (by decide) ?_
  have k3 : ∀ b o, h2.get? b = some o → (h2.push (kxs_mw "ValueError.__init__" e)).get? b = some o := fun b o z => Heap.get?_push_of_some _ z
  refine cw_str (i := "ValueError.__init__") (x := e) (by heap_get) ?_
  refine mw_call (k3 _ _ (X2 _ _ hCK)) (k3 _ _ he2) (by heap_get) (by show 1 ≤ sizeLine; rw [sizeLine_eq]; omega) (fun h4 t4 k4 he4 => ?_)
  have kk : ∀ b o, b ≠ e → h1.get? b = some o → h4.get? b = some o := fun b o hb z => k4 b o hb (k3 b o (k2 b o z))
  have hns4 : h4.Ns hp.objs.size (fun x => List.lookup x [(IF.p, v), (("self" : Str), .ref e)]) := by
    obtain ⟨o, es, ep, z, r⟩ := hns
    exact ⟨o, es, ep, kk _ _ heL z, r⟩
  have hCe : C ≠ e := fun z => by
    have := hK _ _ hCK
    rw [z, he] at this
    cases this
  have X4 : K.In h4 := fun b o z => by
    by_cases hb : b = e
    · rw [hb, hKe] at z
      cases z
    · exact kk b o hb (X1 b o z)
  refine ks_wpAt_execs_cons (ks_wpAt_mono (Q := fun fl s' => fl = .next ∧ ∃ h' tk' dx t1, s' = ⟨h', g, d, tk', os⟩ ∧ (∀ b o, b ≠ e → hp.get? b = some o → h'.get? b = some o) ∧ hp.objs.size ≤ dx ∧ dx ≠ e ∧ h'.get? e = some ({ cls := .ref C, dict := some dx, data := .fields #[.ref t1, .none, .none, .none, .bool false, .none] } : Obj) ∧ h'.Ns1 dx (fun y => if y = f then some v else none)) (ks_wpAt_Assign_Attr ?_) ?_ fun _ _ z => z)
  · refine wpAt_of_wpAny (wpAny_Name (wpAny_loadName_local rfl IF.s4 hns4 (v := v) ?_ ?_) IF.pdb)
    · show List.lookup IF.p [(IF.p, v), (("self" : Str), .ref e)] = _
      rw [List.lookup_cons, beq_self_eq_true]
    refine wpAny_Name (wpAny_loadName_local rfl IF.s3 hns4 (v := .ref e) ?_ ?_) (by decide)
    · show List.lookup ("self" : Str) [(IF.p, v), (("self" : Str), .ref e)] = _
      have h0 : (("self" : Str) == IF.p) = false := beq_eq_false_iff_ne.mpr (Ne.symm IF.pne)
      rw [List.lookup_cons, h0, List.lookup_cons, beq_self_eq_true]
    refine PySem.W.set_plain X4 (ox := PySem.HandSPX.excO C t4) (od := none) ⟨he4, rfl, rfl, trivial⟩ IC.sa ?_
    refine PySem.HandSPX.exc_osa X4 he4 hcl (show PySem.HandSPX.refsVE (.ref C :: bm) = true from hbm) rfl IC.no (fun h' tk' dx k dn dne hx hn => ?_)
    exact ⟨rfl, h', tk', dx, t4, rfl, fun b o hb z => k b o hb (kk b o hb (hk1 b o z)), Nat.le_trans (Nat.le_of_lt hns4.lt) dn, dne, hx, hn⟩
  · rintro fl s' ⟨rfl, h', tk', dx, t1, rfl, r1, r2, r3, r4, r5⟩
    exact wpAt_of_wpAny (wpAny_pure (hq h' tk' dx t1 r1 r2 r3 r4 r5))
end

/-! ### raise X(e) -/
section
open L2
variable {X : Cx} {W : WX} {Cf : CallF} {ns : List Nat} {n k : Nat} {C : Addr} {f : Str}
theorem oexc_of (K0 : ClsOk X.K n C) (IC : InitOk X.K C f) : OexC X.K C := by
  obtain ⟨nm, q, N, bs, bm, sn, sub, ab, col, dd, k0, k1, k2, k3, k5, hCK, hbm, hal⟩ := IC.cls
  exact ⟨⟨nm, q, N, bs, bm, sn, sub, ab, col, dd, k0, k1, k2, k3, k5, hCK, hbm⟩, IC.sa, K0.xf.exC, K0.ty, K0.keep⟩
theorem pmk_ini {x : Str} {p pos : Pos} {e : Expr} {ta : TA} (K0 : ClsOk X.K n C) (IC : InitOk X.K C f) (hP : PrOk X.prog) (hf : ∃ fI, findIn X.K (.ref C) "__init__" = some (some (.ref fI)) ∧ typeIn X.K (.ref fI) = some (.type "function") ∧ ∃ IF : InitFn X.K C fI f, ∃ n : Nat, IF.p = fldNm n)
    (hr : Room k X.A) (hg : Gl X x) (hm : X.mg x = some (.ref C)) (ha : PA X [e] ta) (hdb : (x == ("__debug__" : Str)) = false)
    (he : starEach (e :: []) X.env = (false, eval e X.env) :: starEach [] X.env := by rfl) (hpl : (backTo pos (starEach [] X.env)).any (·.1) = false := by rfl) :
    PMk X (.Call (.Name x p) [e] [] pos) (fun σ H Q => ta σ H fun vs H1 => ∃ y, vs = [y] ∧ ∀ d, H1 d = none → Q (.ref C) (some d) (upd H1 d (.xd [(f, y)]))) := by
  intro pins s σ H Q I h
  have T := oexc_of K0 IC
  obtain ⟨nm, q, N, bs, bm, sn, sub, ab, col, dd, k0, k1, k2, k3, k5, hC, hbm, hal⟩ := IC.cls
  obtain ⟨fI, iC, tI, IF, hfp⟩ := hf
  refine wpAny_Call_Name_kw (ld_glob I hg hm ?_ hdb)
  refine PySem.W.callWith_K (h₀ := X.base) I.ok.mod.kin T.kC (thn (ha.run pos pins s σ H _ I h) fun us s1 ⟨vs, H1, I1, r1, y, hv, q1⟩ => ⟨I1.kIn, ?_⟩) he hpl
  show wpAny _ _ (call (.ref C) us) _ _ _
  subst hv
  obtain ⟨u, hus, ru⟩ : ∃ u, us = [u] ∧ RelV y u := by
    cases r1 with
    | @cons _ u0 _ ur ra rw' =>
      cases rw'
      exact ⟨u0, rfl, ra⟩
  subst hus
  obtain ⟨hp, g, dr, tk, os⟩ := s1
  have hsz : hp.objs.size ≤ hp.objs.size + 1 := Nat.le_succ _
  have hn : H1 (hp.objs.size + 1) = none := I1.hok.fresh hsz
  have kk : ∀ b o, hp.get? b = some o → ((hp.push (PySem.W.kdv_tup [u])).push (PySem.HandSPX.excO C hp.objs.size)).get? b = some o := fun b o e => Heap.get?_push_of_some _ (Heap.get?_push_of_some _ e)
  have hget : ((hp.push (PySem.W.kdv_tup [u])).push (PySem.HandSPX.excO C hp.objs.size)).get? (hp.objs.size + 1) = some (PySem.HandSPX.excO C hp.objs.size) := by heap_get
  have I2 : Inv X pins σ (upd H1 (hp.objs.size + 1) (exo (hp.objs.size + 1) C none)) ⟨(hp.push (PySem.W.kdv_tup [u])).push (PySem.HandSPX.excO C hp.objs.size), g, dr, tk, os⟩ :=
    I1.laid (t' := tk) (a := hp.objs.size + 1) (o := exo (hp.objs.size + 1) C none) (h' := (hp.push (PySem.W.kdv_tup [u])).push (PySem.HandSPX.excO C hp.objs.size)) kk hsz (exo_ok hget)
  have hKe : X.K.lookup (hp.objs.size + 1) = none := by
    cases z : X.K.lookup (hp.objs.size + 1) with
    | none => rfl
    | some o => exact absurd (Heap.lt_size (I1.kIn _ _ z)) (by simp)
  obtain ⟨mb, hb1, hb2⟩ := I2.mod.blt
  refine wpAny_call (PySem.HandSPX.call_own F.excBase_ValueError (fun Y => PySem.HandSPX.refsVE_contains Y bm hbm) (I1.kIn _ _ hC) (PySem.W.looks_findIn I1.kIn iC) (fun self => PySem.W.bind_fn I1.kIn self tI) (by show 1 ≤ sizeLine; rw [sizeLine_eq]; omega)
    (init_run IF hP hfp IC I2.kIn hKe (I2.mod.glob.keeps I2.bk) (hb1.keeps I2.bk) (hb2 _ (by decide)) (I2.mod.nolimit.keeps I2.bk) (by rw [make_depth]; have := hr.dp; omega) hget fun h' tk' dx t1 ke hdx hne hx hns => ?_))
  generalize hAa : hp.objs.size + 1 = a at *
  generalize hH2 : (hp.push (PySem.W.kdv_tup [u])).push (PySem.HandSPX.excO C hp.objs.size) = hp2 at *
  have e1 : upd H1 a (exo a C none) a = some (exo a C none) := upd_same
  have hnd : upd H1 a (exo a C none) dx = none := I2.hok.fresh hdx
  have hd1 : H1 dx = none := by rw [upd_ne hne] at hnd; exact hnd
  have nd : ∀ {b : Addr} {o : Obj}, hp2.get? b = some o → b ≠ dx := fun {b o} q => Nat.ne_of_lt (Nat.lt_of_lt_of_le (Heap.lt_size q) hdx)
  have na : ∀ {b : Addr}, upd H1 a (exo a C none) b = none → b ≠ a := fun {b} n z => by
    rw [z, e1] at n
    cases n
  have Un1 : Un (frs X.stack) [] (upd H1 a (exo a C none)) (upd (upd (upd H1 a (exo a C none)) dx (exd dx [(f, y)])) a (exo a C (some dx))) hp2 h' := {
    keep := fun b o q n _ _ => ke b o (na n) q
    slot := fun b o q n _ _ => ⟨o.slots, ke b o (na n) q⟩
    free := fun b o q n _ => by rw [upd_ne (na n), upd_ne (nd q)]; exact n
    there := fun b o q _ => by
      by_cases hb : b = a
      · exact ⟨_, by rw [hb]; exact hx⟩
      · exact ⟨o, ke b o hb q⟩
    tups := fun b xs q => by rw [upd_ne (at_ne e1 q exo_tup), upd_ne (ne_of_none q hnd)]; exact q
    frzs := fun b o v q => by rw [upd_ne (at_ne e1 q exo_frz), upd_ne (ne_of_none q hnd)]; exact q
    tbls := fun b ps q => ⟨#[], by rw [upd_ne (at_ne e1 q exo_tbl), upd_ne (ne_of_none q hnd), q]; simp⟩ }
  have hok : HOk X.prog X.w (upd (upd (upd H1 a (exo a C none)) dx (exd dx [(f, y)])) a (exo a C (some dx))) h' := fun b o q => by
    by_cases hb : b = a
    · subst hb
      rw [upd_same] at q
      cases q
      exact exo_ok hx
    · rw [upd_ne hb] at q
      by_cases hd : b = dx
      · subst hd
        rw [upd_same] at q
        cases q
        exact exd_ok hns (relO_put (fs := []) ru fun g => True.intro)
      · rw [upd_ne hd] at q
        exact (I2.hok b o q).stay (fun c v hc z => ke c v (by
            rcases hc with hc | hc
            · rw [hc]
              exact hb
            · exact at_ne e1 hc exo_own) z)
          (fun c hc => by rw [upd_ne (at_ne e1 hc exo_own), upd_ne (ne_of_none hc hnd)]; exact hc) (fun c xs hc => by rw [upd_ne (at_ne e1 hc exo_tup), upd_ne (ne_of_none hc hnd)]; exact hc)
  have ea : (upd (upd (upd H1 a (exo a C none)) dx (exd dx [(f, y)])) a (exo a C (some dx))) a = some (exo a C (some dx)) := upd_same
  have ed : (upd (upd (upd H1 a (exo a C none)) dx (exd dx [(f, y)])) a (exo a C (some dx))) dx = some (exd dx [(f, y)]) := by rw [upd_ne hne, upd_same]
  have eq0 : upd (del (upd (upd (upd H1 a (exo a C none)) dx (exd dx [(f, y)])) a (exo a C (some dx))) a) dx (.xd [(f, y)]) = upd H1 dx (.xd [(f, y)]) := by
    funext b
    by_cases hb : b = dx
    · subst hb
      rw [upd_same, upd_same]
    · rw [upd_ne hb, upd_ne hb]
      by_cases hba : b = a
      · rw [hba, del_same, hn]
      · rw [del_ne hba, upd_ne hba, upd_ne hb, upd_ne hba]
  exact ⟨rfl, mk_end (raises_own T.exC T.tyC) I1 (by omega) kk Un1 hok rfl I1.bare ea ed hd1 (by rw [eq0]; exact q1 dx hd1)⟩
theorem vOf_rp {K : Frag} {H : Hp} {ι : Ad} {v y : V} {d : GV.D} (r : Rp K H ι v d) (h : vOf d = some y) : v = y := by
  cases r <;> simp [vOf] at h <;> exact h
theorem s_raise1 {x : Str} {p pos rp : Pos} {e : Expr} {ge : G} {fe : Bool} (hc : X.calm = true) (tk : Takes X W) (hn : n ∈ ns) (K0 : ClsOk X.K n C) (IC : InitOk X.K C (fldNm (fldNo n))) (hP : PrOk X.prog) (hr : Room k X.A) (gC : X.mg x = some (.ref C)) (hg : Gl X x) (hdb : (x == ("__debug__" : Str)) = false)
    (ha : PE X e (tE X.K (XRx X.K ns) W fe (ev Cf ge))) (he : starEach (e :: []) X.env = (false, eval e X.env) :: starEach [] X.env := by rfl) :
    PS X (.Raise (some (.Call (.Name x p) [e] [] pos)) none rp) (tS X.K (XRx X.K ns) W (evS Cf (.raise n (some ge)))) := by
  obtain ⟨fI, iC, tI, ⟨IF⟩⟩ := IC.fn
  refine PS.imp (ps_raise hc tk (pmk_ini K0 IC hP ⟨fI, iC, tI, IF, fldNo n, IF.pf⟩ hr hg gC (pa_cons ha pa_nil he) hdb he)) fun DD σ H ⟨ι, S, ρ, hE, hS, q⟩ => ?_
  have q' : EndS X.K (XRx X.K ns) W ι H ((ev Cf ge ρ S).st ρ fun d S1 => if (vOf d).isSome then .exc n (some d) ρ S1 else .no) DD := q
  refine ⟨ι, S, ρ, hE, hS, (EndS.st hE q').imp fun v H1 ⟨ι1, S1, d, e1, s1, r1, q1⟩ => ?_⟩
  refine ⟨v, rfl, fun dx hd => ?_⟩
  cases hv : vOf d with
  | none => rw [hv] at q1; exact q1.elim
  | some y =>
    rw [hv] at q1
    have hy := vOf_rp r1.1 hv
    subst hy
    refine q1 (.ref C) (some dx) σ _ ι1 (Ext.new ι1 hd) (s1.new hd) ((hE.ext e1).ext (Ext.new ι1 hd)) ⟨hn, ⟨C, K0.ad, rfl⟩, [(fldNm (fldNo n), v)], ⟨fun z => (by cases z), fun x ex => ?_⟩, fun d' ed => ?_⟩
    · cases ex
      exact ⟨dx, v, rfl, hv, by simp [List.lookup]⟩
    · cases ed
      exact upd_same
end
end GV

set_option linter.all false
set_option maxHeartbeats 2000000
set_option maxRecDepth 100000
/-! GV, part x: sorted(set(..)), sorted(dict(..)) of rows of whole numbers. -/
namespace GV
open PySem PySem.Spec PyProof.Rows L2

def encR (k : List Int) : PyData := .tuple (k.map .int)
theorem dataLe_tups {β : Type} (x : β → List Int) : PySem.W.dataLe false (fun b => encR (x b)) = fun p q => decide (x p ≤ x q) := by
  funext p q
  show (!PySem.W.dataLt (.tuple ((x q).map .int)) (.tuple ((x p).map .int))) = _
  rw [PySem.W.dataLt_tuple]
  show (!PySem.W.rowLt ((x q).map .int) ((x p).map .int)) = _
  rw [PySem.W.dataLt_ints]
  by_cases h : x q < x p
  · have h' : ¬ x p ≤ x q := fun r => List.not_lt.mpr r h
    simp [h, h']
  · have h' : x p ≤ x q := List.not_lt.mp h
    simp [h, h']
section
variable {P : Program} {w : World} {A : Around} {E : Value → Shared → Prop} {s : Shared}
theorem flat_ints {h : Heap} : ∀ {vs : List Value} {ks : List Int}, IntsAre vs ks → ReadsAll h vs (ks.map .int) []
  | _, _, .nil => .nil
  | _, _, .cons n t r => by
    have := ReadsAll.cons (h := h) (Reads.int n t) (flat_ints r)
    simpa using this
theorem reads_row {h : Heap} {k : List Int} {b : Addr} (x : IsT P w h k b) : Reads h (.ref b) (encR k) [] := by
  obtain ⟨o, its, n, ho, hc, hd, hi⟩ := x
  exact .tuple ho hc hd (flat_ints (ints_of_items hi))
theorem each_rows {h : Heap} {a : Addr} : ∀ {L : List (Addr × List Int)}, (∀ p ∈ L, IsT P w h p.2 p.1) →
    PySem.W.EachIs (fun (v : Value) (p : Addr × List Int) => v = .ref p.1) (L.map fun p => Value.ref p.1) L ∧ PySem.W.EachIs (fun (v : Value) (p : Addr × List Int) => ∃ as, Reads h v (encR p.2) as ∧ a ∉ as) (L.map fun p => Value.ref p.1) L
  | [], _ => ⟨.nil, .nil⟩
  | p :: L, hx => by
    obtain ⟨h1, h2⟩ := each_rows (L := L) fun q hq => hx q (List.mem_cons_of_mem _ hq)
    exact ⟨.cons rfl h1, .cons ⟨[], reads_row (hx p List.mem_cons_self), by simp⟩ h2⟩
theorem each_eq {L : List (Addr × List Int)} : ∀ {vs : List Value}, PySem.W.EachIs (fun (v : Value) (p : Addr × List Int) => v = .ref p.1) vs L → vs = L.map fun p => Value.ref p.1 := by
  induction L with
  | nil => intro vs h; cases h; rfl
  | cons p L ih => intro vs h; cases h with | cons h1 h2 => rw [h1, ih h2]; rfl
/-- sorted(..) of what collects the rows at L -/
theorem sorted_col {v : Value} {L : List (Addr × List Int)} {Q : Value → Shared → Prop} (hne : ∀ p ∈ L, p.2 ≠ []) (hT : ∀ p ∈ L, IsT P w s.heap p.2 p.1) (hu : A.units + 64 < cLine) (hn : L.length ≤ sizeLine)
    (hcol : ∀ R : List Value → Shared → Prop, (∀ s1 (L1 : List (Addr × List Int)), L1.Perm L → (∀ b o, s.heap.get? b = some o → s1.heap.get? b = some o) → s1.gens = s.gens → s1.os = s.os → R (L1.map fun p => Value.ref p.1) s1) → wpAny (model P w) A.in1 (collect v) R E s)
    (hQ : ∀ s' p (out : Array Value) (c : Nat) (L1 : List (Addr × List Int)), L1.Perm L → (∀ b o, s.heap.get? b = some o → s'.heap.get? b = some o) → s'.gens = s.gens → s'.os = s.os → (∃ h1 : Heap, (∀ b o, s.heap.get? b = some o → h1.get? b = some o) ∧ p = h1.objs.size) →
      s'.heap.get? p = some (seqObj "list" out c) → out.toList = (L1.mergeSort fun p q => decide (p.2 ≤ q.2)).map (fun q => Value.ref q.1) → Q (.ref p) s') :
    wpAny (model P w) A (call (.builtin "sorted") [v]) Q E s := by
  refine Calls.call_function_entry kind_sorted plain_sorted entry_sorted (args_sorted1 _) ?_
  unfold Builtin.«sorted»
  refine wpAny_bind (m := checkCount "sorted" 1 1 _) (wpAny_pure ?_)
  refine wpAny_bind (hcol _ fun s1 L1 pm k1 g1 o1 => ?_)
  have hl : L1.length = L.length := pm.length_eq
  refine wpAny_bind (wpAny_newList ?_ (by rw [List.length_map, hl]; exact hn))
  have hoL : (s1.heap.push (seqObj "list" (L1.map fun p => Value.ref p.1).toArray 0)).get? s1.heap.objs.size = some (seqObj "list" (L1.map fun p => Value.ref p.1).toArray 0) := Heap.get?_push_size _ rfl
  have k2 : ∀ b o, s.heap.get? b = some o → (s1.heap.push (seqObj "list" (L1.map fun p => Value.ref p.1).toArray 0)).get? b = some o := fun b o e => Heap.get?_push_of_some _ (k1 b o e)
  have hT1 : ∀ p ∈ L1, IsT P w (s1.heap.push (seqObj "list" (L1.map fun p => Value.ref p.1).toArray 0)) p.2 p.1 := fun p hp => isT_keep (hT p (pm.mem_iff.mp hp)) fun b u e => k2 b u e
  obtain ⟨e1, e2⟩ := each_rows (a := s1.heap.objs.size) hT1
  have dep : ∀ p : Addr × List Int, (encR p.2).depth ≤ 2 := fun p => by
    show (PyData.tuple (p.2.map .int)).depth ≤ 2
    rw [PyData.depth, PySem.W.depth_ints]
    omega
  refine wpAny_bind (wpAny_holding (PySem.W.list_sort_data (s := { s1 with heap := s1.heap.push (seqObj "list" (L1.map fun p => Value.ref p.1).toArray 0) }) (enc := fun p : Addr × List Int => encR p.2) hoL e1 e2 ?_ ?_ (by rw [hl]; exact hn) (fun p _ => ?_) fun out _ eo => ?_))
  · refine PySem.W.AllAlike.of fun b b' => ?_
    show PySem.W.alike (.tuple (b.2.map .int)) (.tuple (b'.2.map .int)) = true
    simpa [PySem.W.alike] using PySem.W.alike_ints b.2 b'.2
  · refine .inl fun d hd => ?_
    obtain ⟨p, hp, rfl⟩ := List.mem_map.mp hd
    have := hne p (pm.mem_iff.mp hp)
    obtain ⟨x, r, e⟩ := List.exists_cons_of_ne_nil this
    exact ⟨.int x, r.map .int, by show encR p.2 = _; rw [e]; rfl⟩
  · have := dep p
    show A.in1.units + 1 + (encR p.2).depth < cLine
    have : A.in1.units ≤ A.units + 1 := Nat.le_refl _
    omega
  · obtain ⟨c, hc⟩ := sortedHeap_at (vs := L1.map fun p => Value.ref p.1) (out := out.toArray) hoL
    rw [dataLe_tups (fun p : Addr × List Int => p.2)] at eo
    refine wpAny_pure ⟨_, rfl, hQ _ s1.heap.objs.size out.toArray c L1 pm (fun b u e => ?_) g1 o1 ⟨s1.heap, k1, rfl⟩ hc (by simpa using each_eq eo)⟩
    · have q := k1 b u e
      have hlt := Heap.lt_size q
      show (sortedHeap (s1.heap.push (seqObj "list" (L1.map fun p => Value.ref p.1).toArray 0)) s1.heap.objs.size _ out.toArray).get? b = some u
      rw [sortedHeap_old (Nat.ne_of_lt hlt) (by rw [size_push']; exact Nat.lt_succ_of_lt hlt)]
      exact Heap.get?_push_of_some _ q
end
/-! ### contracts -/
section
variable {X : Cx}
/-- sorted(set), the rows not empty -/
def rSortSet (K : PySem.W.Frag) (P : Program) (w : World) : List V → Hp → VK → Prop := fun vs H Q => ∃ (a : Addr) (L : List (Addr × List Int)), vs = [V.ref a] ∧ H a = some (SetTO P w a L) ∧ (∀ p ∈ L, SqT K H p.1 (p.2.map V.int)) ∧ (∀ p ∈ L, p.2 ≠ []) ∧
  ∀ (L1 : List (Addr × List Int)) (p : Addr), L1.Perm L → (L.map (·.2)).Nodup → H p = none → Q (.ref p) (upd H p (.lst ((L1.mergeSort fun p q => decide (p.2 ≤ q.2)).map fun q => V.ref q.1)))
theorem cr_sortSet (hc : X.calm = true) (hu : X.A.units + 64 < cLine) : CallR X (.builtin "sorted") (rSortSet X.K X.prog X.w) := by
  intro pins s σ H vs us Q I r h
  obtain ⟨a, L, rfl, ha, hk, hne, q⟩ := h
  have R0 : SetT0 X.prog X.w s.heap a L := (I.hok a _ ha).1
  obtain ⟨es, ep, t, R⟩ := R0.full fun p hp => I.isT (hk p hp)
  rw [Vals.ref1 r]
  have hfew : L.length < 64 := R.few
  have hln : ∀ L1 : List (Addr × List Int), L1.Perm L → (L1.mergeSort fun p q => decide (p.2 ≤ q.2)).length ≤ sizeLine := fun L1 pm => by rw [List.length_mergeSort, pm.length_eq, sizeLine_eq]; omega
  refine sorted_col (L := L) hne (fun p hp => I.isT (hk p hp)) hu (by rw [sizeLine_eq]; omega) (fun R' hR' => ?_) fun s' p out c L1 pm k g o hp hg hout => ?_
  · obtain ⟨ob, ho, hex, hd⟩ := R.ob
    refine collect_set (A := X.A.in1) (I.ok.hd hc) ⟨ob, ho, hex.1, hd⟩ R.fits (by have := R.size; unfold scanBound; omega) R.tab.ris R.led fun s1 vs k1 hz g1 o1 pm => ?_
    have hes : es.toList.map (·.2) = L.map fun q => Value.ref q.1 := by
      rw [R.rows]; unfold rowsOf; rw [List.map_map]; rfl
    rw [hes] at pm
    obtain ⟨L1, hp, e⟩ := perm_lift (fun q : Addr × List Int => Value.ref q.1) pm L rfl
    rw [← e]
    exact hR' s1 L1 hp k1 g1 o1
  · obtain ⟨h1, kh, rfl⟩ := hp
    have hn : H h1.objs.size = none := (I.kept (h' := h1) (t' := s.toks) kh).hok.fresh (Nat.le_refl _)
    have hg0 : s.heap.get? h1.objs.size = none := by
      cases q : s.heap.get? h1.objs.size with
      | none => rfl
      | some u => exact absurd (Heap.lt_size (kh _ _ q)) (Nat.lt_irrefl _)
    have hv : Vals ((L1.mergeSort fun p q => decide (p.2 ≤ q.2)).map fun q => V.ref q.1) out.toList := by rw [hout]; exact vals_of_refs _
    have J : Inv X pins σ (upd H h1.objs.size (.lst ((L1.mergeSort fun p q => decide (p.2 ≤ q.2)).map fun q => V.ref q.1))) { s with heap := s'.heap, gens := s'.gens, drawn := s'.drawn, toks := s'.toks } :=
      I.call (ch := []) (Un.laidN k hg0 hn) (I.hok.laidN k hn ⟨by rw [List.length_map]; exact hln L1 pm, out.toList, c, hv, hg⟩) (by rw [g]; exact I.bare) (fun _ z => nomatch z)
    have e : s' = { s with heap := s'.heap, gens := s'.gens, drawn := s'.drawn, toks := s'.toks } := by
      cases s'
      cases s
      cases o
      rfl
    rw [e]
    exact ⟨.ref _, _, J, rfl, q L1 _ pm R.nd hn⟩
/-- a dict at a, its keys at these addresses -/
def DicT (a : Addr) (bs : List Addr) : HO := .ext fun h => ∃ o es ep, h.get? a = some o ∧ o.ExactDict ∧ o.data = .dict es ep ∧ es.toList.map (·.key) = bs.map Value.ref
theorem dicT_new {P : Program} {w : World} {H : Hp} {h : Heap} {a : Addr} {bs : List Addr} (R : ∃ o es ep, h.get? a = some o ∧ o.ExactDict ∧ o.data = .dict es ep ∧ es.toList.map (·.key) = bs.map Value.ref) : ObjOk P w H h a (DicT a bs) := by
  obtain ⟨o, es, ep, ho, r⟩ := R
  refine ⟨⟨o, es, ep, ho, r⟩, ⟨o, ho⟩, fun h1 h2 p k => ?_⟩
  obtain ⟨o', es', ep', ho', r'⟩ := p
  exact ⟨o', es', ep', k o' ho', r'⟩
/-- dict(xs), xs a list of pairs (row, any value) -/
def rDictP (K : PySem.W.Frag) : List V → Hp → VK → Prop := fun xs H Q => ∃ (l : Addr) (ts : List (Addr × Addr × List Int × V)), xs = [V.ref l] ∧ SqL K H l (ts.map fun p => V.ref p.1) ∧ (∀ p ∈ ts, SqT K H p.1 [.ref p.2.1, p.2.2.2] ∧ SqT K H p.2.1 (p.2.2.1.map V.int)) ∧
  ∀ (a : Addr) (L : List (Addr × List Int)), H a = none → (a == sysModules) = false → (L.map (·.2)).Nodup → (∀ p ∈ L, p ∈ ts.map fun t => (t.2.1, t.2.2.1)) → (∀ t ∈ ts, t.2.2.1 ∈ L.map (·.2)) → L.length ≤ sizeLine → Q (.ref a) (upd H a (DicT a (L.map (·.1))))
theorem storedH_covers {xs : List (List Int × Addr × Value)} {k : List Int} {a : Addr} {v : Value} : k ∈ (storedH xs k a v).map (·.1) ∧ ∀ q ∈ xs.map (·.1), q ∈ (storedH xs k a v).map (·.1) := by
  cases e : atKey xs k with
  | none =>
    rw [storedH_new e]
    refine ⟨by simp, fun q h => ?_⟩
    rw [List.map_append]
    exact List.mem_append_left _ h
  | some p =>
    rw [storedH_old e]
    have h2 : (xs.map (putAt k v)).map (·.1) = xs.map (·.1) := by
      rw [List.map_map]
      refine List.map_congr_left fun x _ => ?_
      show (putAt k v x).1 = x.1
      unfold putAt
      split <;> rfl
    rw [h2]
    refine ⟨?_, fun q h => h⟩
    unfold atKey at e
    obtain ⟨x, hx, _⟩ := Option.map_eq_some_iff.mp e
    have h0 := List.find?_some hx
    have h1 : x.1 = k := by simpa using h0
    exact List.mem_map.mpr ⟨x, List.mem_of_find?_eq_some hx, h1⟩
theorem storedAllH_covers : ∀ {ps xs : List (List Int × Addr × Value)}, (∀ q ∈ xs.map (·.1), q ∈ (storedAllH xs ps).map (·.1)) ∧ ∀ p ∈ ps, p.1 ∈ (storedAllH xs ps).map (·.1)
  | [], xs => ⟨fun q h => h, fun p h => by cases h⟩
  | p :: ps, xs => by
    obtain ⟨h1, h2⟩ := storedAllH_covers (ps := ps) (xs := storedH xs p.1 p.2.1 p.2.2)
    obtain ⟨c1, c2⟩ := storedH_covers (xs := xs) (k := p.1) (a := p.2.1) (v := p.2.2)
    refine ⟨fun q h => h1 q (c2 q h), fun q h => ?_⟩
    rcases List.mem_cons.mp h with rfl | h
    · exact h1 _ c1
    · exact h2 q h
theorem cr_dictP (hc : X.calm = true) (hu : X.A.units + 64 < cLine) : CallR X (.type "dict") (rDictP X.K) := by
  intro pins s σ H xs us Q I r h
  obtain ⟨l, ts, rfl, hl, hk, q⟩ := h
  rw [Vals.ref1 r]
  obtain ⟨its, rv, pl, hz⟩ := I.list hl
  have hn : H s.heap.objs.size = none := I.hok.fresh (Nat.le_refl _)
  have hits : its = ts.map fun p => Value.ref p.1 := by
    clear hz pl q hk hl
    induction ts generalizing its with
    | nil => cases rv; rfl
    | cons p ts ih =>
      cases rv with
      | cons r t => cases r; rw [ih _ t]; rfl
  -- the pairs as values
  have hvs : ∃ ps : List (Value × Value), ps.length = ts.length ∧ ∀ (j : Nat) (k v : Value), ps[j]? = some (k, v) → ∃ p, ts[j]? = some p ∧ k = .ref p.2.1 ∧ PairAt s.heap p.1 k v := by
    clear hits rv pl hz q hl
    induction ts with
    | nil => exact ⟨[], rfl, fun j k v h => by simp at h⟩
    | cons p ts ih =>
      obtain ⟨ps, h1, h2⟩ := ih fun t ht => hk t (List.mem_cons_of_mem _ ht)
      obtain ⟨u, hu1⟩ : ∃ u, PairAt s.heap p.1 (.ref p.2.1) u := by
        obtain ⟨is, r1, t1, _⟩ := I.tuple (hk p List.mem_cons_self).1
        cases r1 with
        | cons a b =>
          cases a
          cases b with
          | cons c d =>
            cases d
            obtain ⟨o, ho, hc, n, hd⟩ := t1
            exact ⟨_, .inl ⟨o, ho, hc, n, hd⟩⟩
      refine ⟨(.ref p.2.1, u) :: ps, by simp [h1], fun j k v h => ?_⟩
      cases j with
      | zero => simp only [List.getElem?_cons_zero, Option.some.injEq] at h; cases h; exact ⟨p, rfl, rfl, hu1⟩
      | succ j => exact h2 j k v h
  obtain ⟨ps, hpl, hps⟩ := hvs
  have hz' : ts.length ≤ sizeLine := by simpa using hz
  have hst : (s.heap.objs.size == sysModules) = false := beq_eq_false_iff_ne.mpr (Ne.symm (Nat.ne_of_lt I.big))
  obtain ⟨o0, n0, ho0, hc0, hd0, hdat0⟩ := pl
  have items : PairItems s.heap its.toArray (fun j => ((ts[j]?).map (·.1)).getD 0) ps := by
    refine ⟨by rw [hits]; simp [hpl], fun j k v h => ?_⟩
    obtain ⟨p, hp, rfl, hpa⟩ := hps j k v h
    have e : ((ts[j]?).map (·.1)).getD 0 = p.1 := by rw [hp]; rfl
    refine ⟨?_, by simp only [e]; exact hpa⟩
    simp only [e]
    rw [hits]
    simp [hp]
  have hget : ∀ (j : Nat) (k v : Value), ps[j]? = some (k, v) → ∃ p, ts[j]? = some p ∧ k = .ref p.2.1 ∧ ((ts.zip ps).map fun z => (z.1.2.2.1, z.1.2.1, z.2.2))[j]? = some (p.2.2.1, p.2.1, v) := fun j k v h => by
    obtain ⟨p, hp, rfl, _⟩ := hps j k v h
    refine ⟨p, hp, rfl, ?_⟩
    have hzz : (ts.zip ps)[j]? = some (p, (Value.ref p.2.1, v)) := List.getElem?_zip_eq_some.mpr ⟨hp, h⟩
    rw [List.getElem?_map, hzz]; rfl
  have hmem : ∀ x ∈ (ts.zip ps).map fun z => (z.1.2.2.1, z.1.2.1, z.2.2), ∃ t ∈ ts, x.1 = t.2.2.1 ∧ x.2.1 = t.2.1 := fun x hx => by
    obtain ⟨z, hz, rfl⟩ := List.mem_map.mp hx
    exact ⟨z.1, (List.of_mem_zip hz).1, rfl, rfl⟩
  have hplen : ((ts.zip ps).map fun z => (z.1.2.2.1, z.1.2.1, z.2.2)).length = ts.length := by simp [hpl]
  generalize (ts.zip ps).map (fun z => (z.1.2.2.1, z.1.2.1, z.2.2)) = pr at hget hmem hplen
  have hcov : ∀ t ∈ ts, t.2.2.1 ∈ pr.map (·.1) := fun t ht => by
    obtain ⟨j, hj, e⟩ := List.getElem_of_mem ht
    have hj2 : j < ps.length := by omega
    obtain ⟨p, hp, _, h3⟩ := hget j _ _ (show ps[j]? = some (ps[j].1, ps[j].2) from List.getElem?_eq_getElem hj2)
    rw [List.getElem?_eq_getElem hj, e] at hp; cases hp
    exact List.mem_map.mpr ⟨_, List.mem_of_getElem? h3, rfl⟩
  have hAu : X.A.in1.in1.units ≤ X.A.units + 2 := Nat.le_refl _
  refine call_dict_pairsH (knd := tupleKind (intKind X.prog X.w)) (ps := pr) (PairArg.list l its.toArray (fun j => ((ts[j]?).map (·.1)).getD 0) ps) (I.ok.hd hc) (by show X.A.in1.in1.units < cLine; omega) ⟨⟨o0, n0, ho0, hc0, hd0, hdat0⟩, items⟩
    ⟨by omega, fun j k v h => by obtain ⟨p, _, e1, e2⟩ := hget j k v h; exact ⟨_, _, e2, e1⟩⟩ (fun h' hk' x hx => ?_) (by omega) fun h' tk hD hk' => ?_
  · obtain ⟨t, ht, e1, e2⟩ := hmem x hx
    show IsT X.prog X.w h' x.1 x.2.1
    rw [e1, e2]
    exact isT_keep (I.isT (hk t ht).2) fun b u e => hk' b u (Nat.ne_of_lt (Heap.lt_size e)) (by simp) e
  · obtain ⟨o, es, ep, ho, hex, hd, he, his, hnd⟩ := hD
    have hkeys : ∀ x ∈ storedAllH [] pr, ∃ t ∈ ts, x.1 = t.2.2.1 ∧ x.2.1 = t.2.1 := storedAllH_keys (P := fun k a => ∃ t ∈ ts, k = t.2.2.1 ∧ a = t.2.1) (fun x hx => by cases hx) fun x hx => hmem x hx
    have hlen := storedAllH_length pr []
    have e1 : ((storedAllH [] pr).map fun x => (x.2.1, x.1)).map (·.2) = (storedAllH [] pr).map (·.1) := by rw [List.map_map]; rfl
    have e2 : ((storedAllH [] pr).map fun x => (x.2.1, x.1)).map (·.1) = (storedAllH [] pr).map (·.2.1) := by rw [List.map_map]; rfl
    refine ⟨.ref s.heap.objs.size, upd H s.heap.objs.size (DicT s.heap.objs.size (((storedAllH [] pr).map fun x => (x.2.1, x.1)).map (·.1))), I.laid (t' := tk) (fun b u e => hk' b u (by simp) e) (Nat.le_refl _) (dicT_new ⟨o, es, ep, ho, hex, hd, ?_⟩), rfl,
      q _ ((storedAllH [] pr).map fun x => (x.2.1, x.1)) hn hst (by rw [e1]; exact hnd) (fun p hp => ?_) (fun t ht => ?_) (by simp at hlen ⊢; omega)⟩
    · rw [e2, he, List.map_map, List.map_map]; rfl
    · obtain ⟨x, hx, rfl⟩ := List.mem_map.mp hp
      obtain ⟨t, ht, e3, e4⟩ := hkeys x hx
      exact List.mem_map.mpr ⟨t, ht, by rw [e3, e4]⟩
    · rw [e1]
      obtain ⟨p, hp, e⟩ := List.mem_map.mp (hcov t ht)
      rw [← e]
      exact storedAllH_covers.2 p hp
/-- sorted(dict), its keys rows that are not empty -/
def rSortDict (K : PySem.W.Frag) : List V → Hp → VK → Prop := fun vs H Q => ∃ (a : Addr) (L : List (Addr × List Int)), vs = [V.ref a] ∧ H a = some (DicT a (L.map (·.1))) ∧ (a == sysModules) = false ∧ (∀ p ∈ L, SqT K H p.1 (p.2.map V.int)) ∧ (∀ p ∈ L, p.2 ≠ []) ∧ L.length ≤ sizeLine ∧
  ∀ (L1 : List (Addr × List Int)) (p : Addr), L1.Perm L → H p = none → Q (.ref p) (upd H p (.lst ((L1.mergeSort fun p q => decide (p.2 ≤ q.2)).map fun q => V.ref q.1)))
theorem cr_sortDict (hc : X.calm = true) (hu : X.A.units + 64 < cLine) : CallR X (.builtin "sorted") (rSortDict X.K) := by
  intro pins s σ H vs us Q I r h
  obtain ⟨a, L, rfl, ha, hsys, hk, hne, hln, q⟩ := h
  obtain ⟨o, es, ep, ho, hex, hd, hkeys⟩ := (I.hok a _ ha).1
  rw [Vals.ref1 r]
  have hes : es.size = L.length := by
    have := congrArg List.length hkeys
    simpa using this
  refine sorted_col (P := X.prog) (w := X.w) (L := L) hne (fun p hp => I.isT (hk p hp)) hu hln (fun R' hR' => ?_) fun s' p out c L1 pm k g o hp hg hout => ?_
  · refine PySem.W.kdu_collect (A := X.A.in1) (kdl_raw (prog := X.prog) (w := X.w) (d := a) hsys hex hd) (I.ok.hd hc) ho (by rw [hes]; exact hln) fun h' tk acc k1 hacc => ?_
    have e : acc.toList = L.map fun p => Value.ref p.1 := by
      refine List.ext_getElem? fun i => ?_
      by_cases hi : i < acc.size
      · have hi2 : i < L.length := by rw [← hes, ← hacc.1]; exact hi
        obtain ⟨en, h1, h2⟩ := hacc.2 i _ (Array.getElem?_eq_getElem hi)
        have h3 : (es.toList.map (·.key))[i]? = some en.key := by
          rw [List.getElem?_map, Array.getElem?_toList, h1]; rfl
        rw [hkeys] at h3
        rw [Array.getElem?_toList, Array.getElem?_eq_getElem hi, h2]
        rw [List.map_map] at h3
        exact h3.symm
      · rw [List.getElem?_eq_none (by simpa using hi), List.getElem?_eq_none (by rw [List.length_map, ← hes, ← hacc.1]; simpa using hi)]
    rw [e]
    exact hR' _ L (List.Perm.refl _) k1 rfl rfl
  · obtain ⟨h1, kh, rfl⟩ := hp
    have hn : H h1.objs.size = none := (I.kept (h' := h1) (t' := s.toks) kh).hok.fresh (Nat.le_refl _)
    have hg0 : s.heap.get? h1.objs.size = none := by
      cases q : s.heap.get? h1.objs.size with
      | none => rfl
      | some u => exact absurd (Heap.lt_size (kh _ _ q)) (Nat.lt_irrefl _)
    have hv : Vals ((L1.mergeSort fun p q => decide (p.2 ≤ q.2)).map fun q => V.ref q.1) out.toList := by rw [hout]; exact vals_of_refs _
    have J : Inv X pins σ (upd H h1.objs.size (.lst ((L1.mergeSort fun p q => decide (p.2 ≤ q.2)).map fun q => V.ref q.1))) { s with heap := s'.heap, gens := s'.gens, drawn := s'.drawn, toks := s'.toks } :=
      I.call (ch := []) (Un.laidN k hg0 hn) (I.hok.laidN k hn ⟨by rw [List.length_map]; exact by rw [List.length_mergeSort, pm.length_eq]; exact hln, out.toList, c, hv, hg⟩) (by rw [g]; exact I.bare) (fun _ z => nomatch z)
    have e : s' = { s with heap := s'.heap, gens := s'.gens, drawn := s'.drawn, toks := s'.toks } := by
      cases s'
      cases s
      cases o
      rfl
    rw [e]
    exact ⟨.ref _, _, J, rfl, q L1 _ pm hn⟩
end
/-! ### by data -/
theorem mem_ded {k : List Int} : ∀ {ks : List (List Int)}, k ∈ ded ks ↔ k ∈ ks
  | [] => Iff.rfl
  | a :: ks => by
    simp only [ded]
    split
    · rename_i h
      rw [mem_ded, List.mem_cons]
      exact ⟨.inr, fun q => q.elim (fun e => e ▸ h) id⟩
    · rw [List.mem_cons, List.mem_cons, mem_ded]
theorem nodup_ded : ∀ ks : List (List Int), (ded ks).Nodup
  | [] => List.nodup_nil
  | a :: ks => by
    simp only [ded]
    split
    · exact nodup_ded ks
    · rename_i h
      exact List.nodup_cons.mpr ⟨fun q => h (mem_ded.mp q), nodup_ded ks⟩
theorem leI_trans (a b c : List Int) (h1 : decide (a ≤ b) = true) (h2 : decide (b ≤ c) = true) : decide (a ≤ c) = true :=
  decide_eq_true (List.le_trans (of_decide_eq_true h1) (of_decide_eq_true h2))
theorem leI_total (a b : List Int) : (decide (a ≤ b) || decide (b ≤ a)) = true := by
  rcases List.le_total a b with h | h <;> simp [h]
theorem rows_uniq {L L1 : List (Addr × List Int)} {ks : List (List Int)} (pm : L1.Perm L) (nd : (L.map (·.2)).Nodup) (h1 : ∀ p ∈ L, p.2 ∈ ks) (h2 : ∀ k ∈ ks, k ∈ L.map (·.2)) :
    (L1.mergeSort fun p q => decide (p.2 ≤ q.2)).map (·.2) = (ded ks).mergeSort fun a b => decide (a ≤ b) := by
  have e : (L1.mergeSort fun p q => decide (p.2 ≤ q.2)).map (·.2) = (L1.map (·.2)).mergeSort fun a b => decide (a ≤ b) := List.map_mergeSort fun a _ b _ => rfl
  rw [e]
  refine List.Perm.eq_of_pairwise (le := fun a b => decide (a ≤ b) = true) (fun a b _ _ h1 h2 => List.le_antisymm (of_decide_eq_true h1) (of_decide_eq_true h2)) (List.pairwise_mergeSort leI_trans leI_total _) (List.pairwise_mergeSort leI_trans leI_total _) ?_
  refine (List.mergeSort_perm _ _).trans (List.Perm.trans ?_ (List.mergeSort_perm _ _).symm)
  refine (List.perm_ext_iff_of_nodup ((pm.map (·.2)).nodup_iff.mpr nd) (nodup_ded ks)).mpr fun k => ?_
  rw [mem_ded, (pm.map (·.2)).mem_iff]
  exact ⟨fun h => by obtain ⟨p, hp, rfl⟩ := List.mem_map.mp h; exact h1 p hp, h2 k⟩
section
variable {K : PySem.W.Frag} {H : Hp} {ι : Ad} {S : Sto}
theorem rpl_intsX : ∀ k : List Int, RpL K H ι (k.map V.int) (k.map D.int)
  | [] => .nil
  | _ :: k => .cons (.int _) (rpl_intsX k)
theorem row_ok {v : V} {d : D} {k : List Int} (r : Rp K H ι v d) (h : rowD d = some k) : ∃ a, v = .ref a ∧ SqT K H a (k.map V.int) := by
  cases r with
  | tup h1 rl =>
    rename_i a xs ds
    simp only [rowD] at h
    rw [← ints_of rl h]
    exact ⟨a, rfl, h1⟩
  | _ => simp [rowD] at h
theorem rows_ok : ∀ {ds : List D} {vs : List V} {ks : List (List Int)}, RpL K H ι vs ds → mapO rowD ds = some ks → ∃ rs : List (Addr × List Int), vs = rs.map (fun p => V.ref p.1) ∧ rs.map (·.2) = ks ∧ ∀ p ∈ rs, SqT K H p.1 (p.2.map V.int)
  | [], _, ks, .nil, h => by simp only [mapO, Option.some.injEq] at h; subst h; exact ⟨[], rfl, rfl, by simp⟩
  | d :: ds, _, ks, .cons r rs, h => by
    obtain ⟨k, ks', h1, h2, rfl⟩ := mapO_cons h
    obtain ⟨a, rfl, ha⟩ := row_ok r h1
    obtain ⟨rs', e1, e2, e3⟩ := rows_ok rs h2
    refine ⟨(a, k) :: rs', by rw [e1]; rfl, by rw [← e2]; rfl, fun p hp => ?_⟩
    rcases List.mem_cons.mp hp with rfl | hp
    · exact ha
    · exact e3 p hp
theorem keyrows_ok : ∀ {ds : List D} {vs : List V} {ks : List (List Int)}, RpL K H ι vs ds → mapO keyRow ds = some ks → ∃ ts : List (Addr × Addr × List Int × V), vs = ts.map (fun p => V.ref p.1) ∧ ts.map (·.2.2.1) = ks ∧ ∀ p ∈ ts, SqT K H p.1 [.ref p.2.1, p.2.2.2] ∧ SqT K H p.2.1 (p.2.2.1.map V.int)
  | [], _, ks, .nil, h => by simp only [mapO, Option.some.injEq] at h; subst h; exact ⟨[], rfl, rfl, by simp⟩
  | d :: ds, _, ks, .cons r rs, h => by
    obtain ⟨k, ks', h1, h2, rfl⟩ := mapO_cons h
    obtain ⟨ts', e1, e2, e3⟩ := keyrows_ok rs h2
    cases r with
    | tup hT rl =>
      rename_i a xs es
      unfold keyRow at h1
      split at h1
      · rename_i x y e
        cases e
        cases rl with
        | cons ra rb =>
          cases rb with
          | cons rc rd =>
            cases rd
            obtain ⟨b, rfl, hb⟩ := row_ok ra h1
            rename_i w
            refine ⟨(a, b, k, w) :: ts', by rw [e1]; rfl, by rw [← e2]; rfl, fun p hp => ?_⟩
            rcases List.mem_cons.mp hp with rfl | hp
            · exact ⟨hT, hb⟩
            · exact e3 p hp
      · cases h1
    | _ => simp [keyRow] at h1
theorem rpl_rows : ∀ {L : List (Addr × List Int)}, (∀ p ∈ L, SqT K H p.1 (p.2.map V.int)) → RpL K H ι (L.map fun q => V.ref q.1) ((L.map (·.2)).map rowE)
  | [], _ => .nil
  | p :: L, h => .cons (.tup (h p List.mem_cons_self) (rpl_intsX _)) (rpl_rows fun q hq => h q (List.mem_cons_of_mem _ hq))
/-- the sorted rows, a new list -/
theorem rows_end {L L1 : List (Addr × List Int)} {ks : List (List Int)} {Q : VK} (st : StOk K H ι S) (hT : ∀ p ∈ L, SqT K H p.1 (p.2.map V.int)) (pm : L1.Perm L) (nd : (L.map (·.2)).Nodup) (h1 : ∀ p ∈ L, p.2 ∈ ks) (h2 : ∀ k ∈ ks, k ∈ L.map (·.2))
    (q : ∀ v H', Ext ι H ι H' → StOk K H' ι S → Rp K H' ι v (rowsSrt ks) → Frs K H ι S v (rowsSrt ks) H' → Q v H') : ∀ p, H p = none → Q (.ref p) (upd H p (.lst ((L1.mergeSort fun p q => decide (p.2 ≤ q.2)).map fun q => V.ref q.1))) := by
  refine new_lst st ?_ q
  rw [← rows_uniq pm nd h1 h2]
  exact rpl_rows fun p hp => hT p (pm.mem_iff.mp (List.mem_mergeSort.mp hp))
end
section
variable {X : Cx} {XR : XRT} {W : WX} {C : CallF} {a : Expr} {pos p p2 p3 : Pos} {ga : G} {fa : Bool}
theorem all_ne {ks : List (List Int)} (h : (ks.all fun k => !k.isEmpty) = true) : ∀ k ∈ ks, k ≠ [] := fun k hk e => by
  have := List.all_eq_true.mp h k hk
  rw [e] at this; cases this
theorem g_sset (hc : X.calm = true) (hu : X.A.units + 64 < cLine) (hg : Gl X "sorted") (hm : X.mg "sorted" = none) (hg2 : Gl X "set") (hm2 : X.mg "set" = none) (ha : PE X a (tE X.K XR W fa (ev C ga)))
    (he : starEach [a] X.env = (false, eval a X.env) :: starEach [] X.env) : PE X (.Call (.Name "sorted" p) [.Call (.Name "set" p2) [a] [] p3] [] pos) (tE X.K XR W true (ev C (.sset ga))) := by
  refine PE.imp (pe_callB (cr_sortSet hc hu) hg hm (by decide +kernel) (pa_cons (pe_callTy (cr_setOfT hc hu) hg2 hm2 (by decide +kernel) (pa_cons ha pa_nil he) (by decide) (by decide) he) pa_nil)) fun σ H Q ⟨ι, S, ρ, hE, hS, q⟩ => ⟨ι, S, ρ, hE, hS, (EndG.bind (show EndG _ _ _ _ _ _ _ ((ev C ga ρ S).bind _) _ from q)).imp fun x H1 ⟨ι1, S1, dx, e1, s1, r1, q1⟩ => ?_⟩
  obtain ⟨d, hd, q1⟩ := q1.of
  simp only [ssetD, Option.bind_eq_some_iff] at hd
  obtain ⟨ds, h1, ks, h2, h3⟩ := hd
  split at h3
  · rename_i hcnd
    cases h3
    obtain ⟨l, xs, rfl, hl, rl⟩ := lit_ok s1 r1.1 h1
    obtain ⟨rs, rfl, rfl, hT⟩ := rows_ok rl h2
    have hlen := rl.length
    refine ⟨l, rs, rfl, SqL.of hl, hT, by simp at hlen; omega, fun b L hb hsub hcov => ?_⟩
    have ex := Ext.new ι1 hb (o := SetTO X.prog X.w b L)
    have s2 := s1.new hb (o := SetTO X.prog X.w b L)
    have hTL : ∀ p ∈ L, SqT X.K (upd H1 b (SetTO X.prog X.w b L)) p.1 (p.2.map V.int) := fun p hp => ex.sqT (hT p (hsub p hp))
    refine ⟨b, L, rfl, upd_same, hTL, fun p hp => all_ne hcnd.2 _ (List.mem_map.mpr ⟨p, hsub p hp, rfl⟩), fun L1 c pm nd hcn => ?_⟩
    exact rows_end s2 hTL pm nd (fun p hp => List.mem_map.mpr ⟨p, hsub p hp, rfl⟩) (fun k hk => by obtain ⟨p, hp, rfl⟩ := List.mem_map.mp hk; exact hcov p hp)
      (fun v H' e3 s3 rv fv => q1 v H' ι1 (ex.trans e3) s3 ⟨rv, fun _ => Frs.back e1 (Frs.back ex fv)⟩) c hcn
  · cases h3
theorem g_sdct (hc : X.calm = true) (hu : X.A.units + 64 < cLine) (hg : Gl X "sorted") (hm : X.mg "sorted" = none) (hg2 : Gl X "dict") (hm2 : X.mg "dict" = none) (ha : PE X a (tE X.K XR W fa (ev C ga)))
    (he : starEach [a] X.env = (false, eval a X.env) :: starEach [] X.env) : PE X (.Call (.Name "sorted" p) [.Call (.Name "dict" p2) [a] [] p3] [] pos) (tE X.K XR W true (ev C (.sdct ga))) := by
  refine PE.imp (pe_callB (cr_sortDict hc hu) hg hm (by decide +kernel) (pa_cons (pe_callTy (cr_dictP hc hu) hg2 hm2 (by decide +kernel) (pa_cons ha pa_nil he) (by decide) (by decide) he) pa_nil)) fun σ H Q ⟨ι, S, ρ, hE, hS, q⟩ => ⟨ι, S, ρ, hE, hS, (EndG.bind (show EndG _ _ _ _ _ _ _ ((ev C ga ρ S).bind _) _ from q)).imp fun x H1 ⟨ι1, S1, dx, e1, s1, r1, q1⟩ => ?_⟩
  obtain ⟨d, hd, q1⟩ := q1.of
  simp only [sdctD, Option.bind_eq_some_iff] at hd
  obtain ⟨ds, h1, ks, h2, h3⟩ := hd
  split at h3
  · rename_i hcnd
    cases h3
    obtain ⟨l, xs, rfl, hl, rl⟩ := lit_ok s1 r1.1 h1
    obtain ⟨ts, rfl, rfl, hT⟩ := keyrows_ok rl h2
    refine ⟨l, ts, rfl, SqL.of hl, hT, fun b L hb hsys nd hsub hcov hz => ?_⟩
    have ex := Ext.new ι1 hb (o := DicT b (L.map (·.1)))
    have s2 := s1.new hb (o := DicT b (L.map (·.1)))
    have hin : ∀ p ∈ L, p.2 ∈ ts.map (·.2.2.1) ∧ SqT X.K H1 p.1 (p.2.map V.int) := fun p hp => by
      obtain ⟨t, ht, rfl⟩ := List.mem_map.mp (hsub p hp)
      exact ⟨List.mem_map.mpr ⟨t, ht, rfl⟩, (hT t ht).2⟩
    have hTL : ∀ p ∈ L, SqT X.K (upd H1 b (DicT b (L.map (·.1)))) p.1 (p.2.map V.int) := fun p hp => ex.sqT (hin p hp).2
    refine ⟨b, L, rfl, upd_same, hsys, hTL, fun p hp => all_ne hcnd _ (hin p hp).1, hz, fun L1 c pm hcn => ?_⟩
    exact rows_end s2 hTL pm nd (fun p hp => (hin p hp).1) (fun k hk => by obtain ⟨t, ht, rfl⟩ := List.mem_map.mp hk; exact hcov t ht)
      (fun v H' e3 s3 rv fv => q1 v H' ι1 (ex.trans e3) s3 ⟨rv, fun _ => Frs.back e1 (Frs.back ex fv)⟩) c hcn
  · cases h3
theorem asKey_ok {K : PySem.W.Frag} {H : Hp} {ι : Ad} {v : V} {d : D} {k : L2.Key} (r : Rp K H ι v d) (h : asKey d = some k) : v = kV k := by
  cases r with
  | int i => simp only [asKey, Option.some.injEq] at h; subst h; rfl
  | str i => simp only [asKey, Option.some.injEq] at h; subst h; rfl
  | _ => simp [asKey] at h
theorem g_dct1 {kx vx : Expr} {gk gv : G} {fk fv : Bool} (hk : PE X kx (tE X.K XR W fk (ev C gk))) (hv : PE X vx (tE X.K XR W fv (ev C gv))) : PE X (.Dict [some kx] [vx] pos) (tE X.K XR W false (ev C (.dct1 gk gv))) := by
  refine PE.imp (pe_disp (pps_cons hk hv pps_nil) rfl rfl (by simp) (by simp)) fun σ H Q ⟨ι, S, ρ, hE, hS, q⟩ d hd => ?_
  obtain ⟨e1, s1⟩ := new_cell (K := X.K) (o := .dK []) (c := .dk []) hS hd (.dk upd_same rfl .nil)
  refine ⟨_, _, ρ, hE.ext e1, s1, (EndG.bind (EndG.shift (show EndG _ _ _ _ _ _ _ ((ev C gk ρ (S ++ [.dk []])).bind _) _ from q) e1)).imp fun x H1 ⟨ι1, S1, dx, e2, s2, r1, q1⟩ => ?_⟩
  refine ⟨ι1, S1, ρ, (hE.ext e1).ext e2, s2, (EndG.bind q1).imp fun y H2 ⟨ι2, S2, dy, e3, s3, r2, q2⟩ => ?_⟩
  show H2 d = some (.dK []) ∧ _
  cases hkk : asKey dx with
  | none => rw [hkk] at q2; exact q2.elim
  | some kk =>
    rw [hkk] at q2
    replace q2 : EndG X.K XR W ι2 H2 σ (repE X.K false H) (if S2[S.length]? = some (.dk []) then .ok (.ref S.length) (S2.set S.length (.dk [(kk, dy)])) else .no) Q := q2
    by_cases c4 : S2[S.length]? = some (.dk [])
    · rw [if_pos c4] at q2
      have hix : ι2.c[S.length]? = some d := (e2.trans e3).ix (by rw [Ad.app_c, ← hS.len]; simp)
      obtain ⟨d', hd', cell⟩ := s3.at c4
      rw [hix] at hd'; cases hd'
      cases cell with
      | @dk vs' _ h1 h2 h3 =>
        have hvs : vs' = [] := by
          cases vs' with
          | nil => rfl
          | cons _ _ => cases h2
        subst hvs
        refine ⟨h1, [(kk, y)], by rw [asKey_ok r1.1 hkk]; rfl, by simp, ?_⟩
        rw [merge_app _ [] (by simp), List.nil_append]
        have ex : Ext ι2 H2 ι2 (upd H2 d (.dK [(kk, y)])) := Ext.write s3 hix
        exact q2 _ _ ι2 ex (s3.write hix (.dk upd_same rfl (.cons (r2.1.ext ex) .nil))) ⟨.ref hix, fun q => by cases q⟩
    · rw [if_neg c4] at q2
      exact q2.elim
theorem g_upr (ha : PE X a (tE X.K XR W fa (ev C ga))) (hbase : attributeBase a "upper" X.env (eval a X.env) = eval a X.env) (hline : (p.endLine == pos.line) = true) :
    PE X (.Call (.Attribute a "upper" p) [] [] pos) (tE X.K XR W true (ev C (.upr ga))) := by
  refine PE.imp (pe_upper ha hbase hline) fun σ H Q ⟨ι, S, ρ, hE, hS, q⟩ => ⟨ι, S, ρ, hE, hS, (EndG.bind (show EndG _ _ _ _ _ _ _ ((ev C ga ρ S).bind _) _ from q)).imp fun x H1 ⟨ι1, S1, dx, e1, s1, r1, q1⟩ => ?_⟩
  obtain ⟨r1, _⟩ := r1
  cases r1 with
  | str z =>
    simp only at q1
    split at q1
    · rename_i hz
      exact ⟨⟨z, rfl⟩, z, rfl, rfl, hz, q1 _ H1 ι1 (Ext.refl _ _) s1 ⟨.str _, fun _ => trivial⟩⟩
    · exact q1.elim
  | _ => exact q1.elim
end
end GV

set_option linter.all false
set_option maxHeartbeats 2000000
set_option maxRecDepth 100000
/-! GV, part p: what is to be seen of the text. -/
namespace GV
open PySem PySem.Spec PyProof.Rows L2

/-! ### shapes -/
def plainE : Expr → Bool
  | .Starred _ _ => false
  | .Slice _ _ _ _ => false
  | .Set _ _ _ => false
  | .SetComp _ _ _ _ => false
  | .DictComp _ _ _ _ _ => false
  | _ => true
theorem star_ok {e : Expr} (h : plainE e = true) (es : List Expr) (env : Env) : starEach (e :: es) env = (false, eval e env) :: starEach es env := by
  cases e <;> first | rfl | cases h
theorem star_any {pos : Pos} {env : Env} : ∀ {es : List Expr}, es.all plainE = true → (backTo pos (starEach es env)).any (·.1) = false
  | [], _ => rfl
  | e :: es, h => by
    rw [List.all_cons] at h
    obtain ⟨h1, h2⟩ := Bool.and_eq_true_iff.mp h
    rw [star_ok h1]
    show (false || (backTo pos (starEach es env)).any (·.1)) = false
    rw [star_any h2]; rfl
theorem star_all {pos : Pos} {env : Env} : ∀ {es : List Expr}, es.all plainE = true → (backTo pos (starEach es env)).all (fun x => !x.1) = true
  | [], _ => rfl
  | e :: es, h => by
    rw [List.all_cons] at h
    obtain ⟨h1, h2⟩ := Bool.and_eq_true_iff.mp h
    rw [star_ok h1]
    show (true && (backTo pos (starEach es env)).all (fun x => !x.1)) = true
    rw [star_all h2]; rfl
theorem ix_plain {e : Expr} (h : plainE e = true) : PlainIx e := by
  intro o i
  cases e <;> first | rfl | cases h
theorem mark_plain {e : Expr} (h : plainE e = true) (op : CmpOp) : behindInMarks op e = false := by
  cases e <;> first | rfl | cases h
theorem fold_plain {e : Expr} (h : plainE e = true) (env : Env) (x : Value) : foldedSetIterable e env x = pure x := by
  cases e <;> first | rfl | cases h
theorem sub_store {o i : Expr} {p : Pos} (h : plainE i = true) (env : Env) (v : Value) : assign (.Subscript o i p) env v = (do
      let ov ← holding [v] (eval o env)
      let iv ← holding [v, ov] (eval i env)
      standAt p
      holding [v, ov, iv] (setItem ov iv v)
      release [v, ov, iv] []) := by
  cases i <;> first | rfl | cases h
/-- o of o.m(..) -/
def baseE : Expr → Bool
  | .Name _ _ => true
  | .Subscript _ _ _ => true
  | _ => false
theorem base_ok {o : Expr} (h : baseE o = true) (m : Str) (env : Env) : attributeBase o m env (eval o env) = eval o env := by
  cases o <;> first | rfl | cases h
/-- an expression whose test is its value's truth -/
def truthE : Expr → Bool
  | .UnaryOp .Not _ _ => false
  | .BoolOp _ _ _ => false
  | .IfExp _ _ _ _ => false
  | .Compare _ _ _ _ => false
  | _ => true
theorem truth_plain {e : Expr} (h : truthE e = true) (env : Env) : ∀ whole, isTrue e env whole = (do let v ← whole; standAt e.pos; holding [v] (truthy v)) := by
  intro whole
  cases e with
  | UnaryOp o a p => cases o <;> first | rfl | cases h
  | _ => first | rfl | cases h
def noComp : Expr → Bool
  | .ListComp _ _ _ _ => false
  | .SetComp _ _ _ _ => false
  | .DictComp _ _ _ _ _ => false
  | _ => true
theorem swaps_none {e : Expr} (h : noComp e = true) (t : Option Expr) (l : Nat) (env : Env) : swapsWith e t l env = pure false := by
  cases e <;> first | rfl | cases h
theorem sole_none {t e : Expr} (h : noComp e = true) (l : Nat) (env : Env) : swapsWithSole [t] e l env = pure false := swaps_none h _ _ _
theorem sole_tgt {t e : Expr} (h : ∀ x p, t ≠ .Name x p) (l : Nat) (env : Env) : swapsWithSole [t] e l env = pure false := by
  cases t with
  | Name x p => exact absurd rfl (h x p)
  | _ => cases e <;> rfl
/-! ### several targets -/
def isTupE : Expr → Bool
  | .Tuple _ _ _ => true
  | _ => false
def isListE : Expr → Bool
  | .List _ _ => true
  | _ => false
theorem sw_value {t e : Expr} (h : isTupE e = false) (env : Env) : swappedStores [t] e env = pure none := by
  cases e <;> first | (cases t <;> rfl) | cases h
theorem sw_target {t e : Expr} (h : isTupE t = false) (h2 : isListE t = false) (env : Env) : swappedStores [t] e env = pure none := by
  cases t with
  | List es p => cases h2
  | Tuple es k p => cases h
  | _ => cases e <;> rfl
def starE : Expr → Bool
  | .Starred _ _ => true
  | _ => false
/-- the plain local names among the targets -/
def parN (sc : Scope) (ts : List Expr) : List Str := ts.filterMap fun t => match t with
  | .Name id pos => if sc.names.lookup id == some .local && pos.line == (ts.head?.map (·.pos.line)).getD 0 then some id else none
  | _ => none
/-- which names take the values at once; none: the model does not say -/
def parS (sc : Scope) (ts vs : List Expr) : Option (Option (List Str)) :=
  if !(ts.length == 2 || ts.length == 3) || vs.length != ts.length || sc.kind != .function then some none else
  if vs.any starE then some none else
  if (parN sc ts).length != ts.length || (parN sc ts).eraseDups.length != (parN sc ts).length then some none else
  if vs.all (foldedForSure 8) then some none else
  if vs.all (constantsAlone 8) then none else some (some (parN sc ts))
theorem sw_par {ts vs : List Expr} {k k2 : Nat} {p p2 : Pos} {env : Env} {r : Option (List Str)} (hk : env.scope.kind = .function) (h : parS env.scope ts vs = some r) : swappedStores [.Tuple ts k p] (.Tuple vs k2 p2) env = pure r := by
  have hb : env.blockKind = .function := by unfold Env.blockKind; rw [hk]; rfl
  unfold parS at h
  unfold swappedStores
  simp only [hb]
  rw [hk] at h
  split at h
  · rename_i h1
    cases h
    rw [if_pos h1]
  · rename_i h1
    rw [if_neg h1]
    split at h
    · rename_i h2
      cases h
      rw [if_pos (by
        have : vs.any starE = true := h2
        exact this)]
    · rename_i h2
      rw [if_neg (by exact h2)]
      split at h
      · rename_i h3
        cases h
        rw [if_pos (by exact h3)]
      · rename_i h3
        rw [if_neg (by exact h3)]
        split at h
        · rename_i h4
          cases h
          rw [if_pos h4]
        · rename_i h4
          rw [if_neg h4]
          split at h
          · cases h
          · rename_i h5
            cases h
            rw [if_neg h5]
            rfl
/-! ### targets -/
theorem each_ok {env : Env} : ∀ {es : List Expr}, es.all plainE = true → (assignEach es env).length = es.length ∧ (assignEach es env).findIdx? (·.1) = none ∧ (assignEach es env).map (·.2) = es.map fun e => assign e env
  | [], _ => ⟨rfl, rfl, rfl⟩
  | e :: es, h => by
    rw [List.all_cons] at h
    obtain ⟨h1, h2⟩ := Bool.and_eq_true_iff.mp h
    obtain ⟨i1, i2, i3⟩ := each_ok (env := env) h2
    have e1 : assignEach (e :: es) env = (false, assign e env) :: assignEach es env := by
      cases e <;> first | rfl | cases h1
    rw [e1]
    refine ⟨by simp [i1], ?_, by simp [i3]⟩
    rw [List.findIdx?_cons, i2]
    rfl
end GV

set_option linter.all false
set_option maxHeartbeats 2000000
set_option maxRecDepth 100000
/-! GV, part q: from the text of an expression to the small language, and that this is right. -/
namespace GV
open PySem PySem.Spec PyProof.Rows L2

/-- what is known of the module -/
structure Tb where
  /-- defs: name, parameters -/
  defs : List (Str × List Str)
  /-- constants -/
  cst : List (Str × D)
  /-- names of built-ins that the module leaves alone -/
  free : List Str
  /-- names of math.gcd -/
  gcd : List Str
  /-- calls by names: which def, the names, their places -/
  kws : List (Nat × List Str × List Nat)
  /-- where a new list is to be a cell (places) -/
  alc : List Pos
  /-- where a dict is never written (places) -/
  frz : List Pos := []
  /-- calls with fewer values: which def, how many are given, the others -/
  dfl : List (Nat × Nat × List D) := []
  /-- the classes of exceptions, by numbers -/
  cls : List Nat := []
  /-- those that are raised with an argument -/
  ini : List Nat := []
/-- the scope that runs; the names whose cells are its own -/
structure Ct where
  sc : Scope
  fnl : List Str
  /-- in a clause; in a comprehension -/
  hot : Bool := false
  blk : Bool := false
structure Fx (tb : Tb) (XR : XRT) (C : CallF) (k : Nat) (P : Program) (w : World) (K : PySem.W.Frag) (mg : Str → Option Value) (base : Heap) : Prop where
  fn : ∀ i x ps, tb.defs[i]? = some (x, ps) → ∃ f fd, mg x = some (.ref f) ∧ PySem.W.keepIn K (.ref f) = true ∧ FnG P w K mg base k f fd ps (spG K XR C i) ∧ (∀ ks is, (i, ks, is) ∈ tb.kws → KwTo fd ps ks is) ∧ (∀ n ds, (i, n, ds) ∈ tb.dfl → DfTo K fd ps ds) ∧ Binds K fd ps []
  cst : ∀ x d, tb.cst.lookup x = some d → ∃ v u, mg x = some u ∧ RelV v u ∧ ∀ H ι, Rp K H ι v d
  free : ∀ x, x ∈ tb.free → mg x = none
  gcd : ∀ x, x ∈ tb.gcd → mg x = some (.builtin "math.gcd")
  xr : XR = XRx K tb.cls
  cls : ClsKs K tb.cls
  cnm : ∀ n ∈ tb.cls, ∀ D, cad K n = some D → mg (clsNm n) = some (.ref D)
  ini : ∀ n ∈ tb.ini, n ∈ tb.cls ∧ ∃ C, cad K n = some C ∧ InitOk K C (fldNm (fldNo n))
  prg : tb.ini ≠ [] → PrOk P
  sm : SmOk K
/-- a clause runs -/
structure HotX (tb : Tb) (C : CallF) (X : Cx) : Prop where
  ex : ∃ (X0 : Cx) (a : Addr) (oe : Obj) (pn : List (Addr × Obj)) (C0 : CallF) (n : Nat) (v : Option D) (Cc : Addr) (d : Option Addr) (fs : List (Str × V)),
    X = X0.suite a ((a, oe) :: pn) ∧ C = xC C0 n v a d fs ∧ Zc (.ref Cc) d oe ∧ (∃ vs, oe.data = .fields vs) ∧ n ∈ tb.cls ∧ cad X0.K n = some Cc ∧ XFit n v d fs
structure Gd (tb : Tb) (XR : XRT) (C : CallF) (k : Nat) (N : List Str) (X : Cx) (c : Ct) : Prop where
  fx : Fx tb XR C k X.prog X.w X.K X.mg X.base
  sc : X.env.scope = c.sc
  fnl : ∀ x ∈ c.fnl, X.fn x = true
  nn : X.N = N
  nd : N.Nodup
  calm : c.hot = false → X.calm = true
  gd : X.A.guards = some []
  room : c.hot = false → Room k X.A
  kind : c.sc.kind = .function
  hu : X.A.units + 64 < cLine
  hx : c.hot = true → HotX tb C X
  stk : c.blk = false → X.stack = X.env :: X.outer ∧ X.env.frame = some X.env.locals

/-! ### names -/
def ixOf : List Str → Str → Option Nat
  | [], _ => none
  | y :: ys, x => if y = x then some 0 else (ixOf ys x).map (· + 1)
theorem ixOf_ok : ∀ {N : List Str} {x : Str} {i : Nat}, ixOf N x = some i → N[i]? = some x
  | [], x, i, h => by simp [ixOf] at h
  | y :: ys, x, i, h => by
    simp only [ixOf] at h
    split at h
    · rename_i e; cases h; simp [e]
    · obtain ⟨j, hj, e⟩ := Option.map_eq_some_iff.mp h
      subst e
      simpa using ixOf_ok hj
def visB (sc : Scope) (x : Str) : Bool := match sc.names.lookup x with
  | some .local => true
  | some .cell => true
  | some .free => true
  | _ => false
theorem vis_ok {sc : Scope} {x : Str} (h : visB sc x = true) : Vis sc x := by
  unfold visB at h
  unfold Vis
  split at h <;> simp_all
def okName (x : Str) : Bool := !(x == ("__debug__" : Str)) && !(x == ("__classdict__" : Str))
theorem ok_dbg {x : Str} (h : okName x = true) : (x == ("__debug__" : Str)) = false ∧ (x == ("__classdict__" : Str)) = false := by
  simp only [okName, Bool.and_eq_true, Bool.not_eq_true'] at h
  exact h
def glB (sc : Scope) (x : Str) : Bool := decide (sc.names.lookup x = some .globalImplicit)
variable {tb : Tb} {XR : XRT} {C : CallF} {k : Nat} {N : List Str}
theorem gl_ok {X : Cx} {c : Ct} (g : Gd tb XR C k N X c) {x : Str} (h : glB c.sc x = true) : Gl X x := by
  show X.env.scope.names.lookup x = _
  rw [g.sc]
  exact of_decide_eq_true h
def cName (tb : Tb) (N : List Str) (sc : Scope) (x : Str) : Option G :=
  if okName x = true then (if visB sc x = true then (ixOf N x).map .loc else if glB sc x = true then (tb.cst.lookup x).map .cst else none) else none
def cConst : Const → Option G
  | .none => some (.cst .non)
  | .bool b => some (.cst (.bl b))
  | .int i => some (.cst (.int i))
  | .str x => some (.cst (.str x))
  | _ => none
section
variable {X : Cx} {W : WX} {c : Ct} {pos : Pos} {e : Expr} {g : G}
/-- right -/
abbrev PEg (X : Cx) (XR : XRT) (W : WX) (C : CallF) (e : Expr) (g : G) : Prop := PE X e (tE X.K XR W false (ev C g))
theorem name_ok (G0 : Gd tb XR C k N X c) {x : Str} (h : cName tb N c.sc x = some g) : PEg X XR W C (.Name x pos) g := by
  unfold cName at h
  split at h
  · rename_i h1
    obtain ⟨d1, d2⟩ := ok_dbg h1
    split at h
    · rename_i h2
      obtain ⟨i, hi, rfl⟩ := Option.map_eq_some_iff.mp h
      exact g_loc (by rw [G0.nn]; exact ixOf_ok hi) (by rw [G0.sc]; exact vis_ok h2) d1 d2
    · split at h
      · rename_i h3
        obtain ⟨d, hd, rfl⟩ := Option.map_eq_some_iff.mp h
        obtain ⟨v, u, m, r, rp⟩ := G0.fx.cst x d hd
        exact g_cst (pe_glob (gl_ok G0 h3) m r d1) rp
      · cases h
  · cases h
theorem const_ok {x : Const} {j : Nat} (h : cConst x = some g) : PEg X XR W C (.Constant x j pos) g := by
  cases x <;> simp only [cConst, Option.some.injEq] at h <;> first | (subst h) | (cases h)
  · exact g_cst pe_non fun _ _ => .non
  · exact g_cst pe_bl fun _ _ => .bl _
  · exact g_cst pe_int fun _ _ => .int _
  · exact g_cst pe_str fun _ _ => .str _
end
/-! ### operators -/
abbrev Rec := Ct → Expr → Option G
def bopO : Operator → Option Bop
  | .Add => some .add | .Sub => some .sub | .Mult => some .mul | .FloorDiv => some .fdiv | .Mod => some .mod | .Pow => some .pow
  | _ => none
theorem bop_ok {op : Operator} {o : Bop} (h : bopO op = some o) : op = opOf o := by
  cases op <;> simp [bopO] at h <;> subst h <;> rfl
def copO : CmpOp → Option Cop
  | .Eq => some .eq | .NotEq => some .ne | .Lt => some .lt | .LtE => some .le | .Gt => some .gt | .GtE => some .ge | .Is => some .isN | .IsNot => some .notN | .In => some .isin | .NotIn => some .notin
theorem cop_ok {op : CmpOp} {o : Cop} (h : copO op = some o) : op = copOf o := by
  cases op <;> simp [copO] at h <;> subst h <;> rfl
def alcIf (tb : Tb) (p : Pos) (g : G) : G := if tb.alc.contains p = true then .alc g else g
/-- two answers at once -/
def two {α β gm : Type} (a : Option α) (b : Option β) (f : α → β → gm) : Option gm := match a, b with
  | some x, some y => some (f x y)
  | _, _ => none
theorem two_ok {α β gm : Type} {a : Option α} {b : Option β} {f : α → β → gm} {z : gm} (h : two a b f = some z) : ∃ x y, a = some x ∧ b = some y ∧ z = f x y := by
  cases a <;> cases b <;> simp [two] at h
  exact ⟨_, _, rfl, rfl, h.symm⟩
structure Snd (tb : Tb) (XR : XRT) (C : CallF) (k : Nat) (N : List Str) (r : Rec) : Prop where
  pe : ∀ (X : Cx) (W : WX) (c : Ct) (e : Expr) (g : G), Gd tb XR C k N X c → Takes X W → r c e = some g → PEg X XR W C e g
  pl : ∀ (c : Ct) (e : Expr) (g : G), r c e = some g → plainE e = true
structure SndT (tb : Tb) (XR : XRT) (C : CallF) (k : Nat) (N : List Str) (r : Rec) : Prop where
  pt : ∀ (X : Cx) (W : WX) (c : Ct) (e : Expr) (g : G), Gd tb XR C k N X c → Takes X W → r c e = some g → PT X e (tT X.K XR W (ev C g))
section
variable {X : Cx} {W : WX} {c : Ct} {pos : Pos} {e : Expr} {g : G} {r t : Rec}
theorem alc_if (p : Pos) (h : PE X e (tE X.K XR W true (ev C g))) : PEg X XR W C e (alcIf tb p g) := by
  unfold alcIf
  split
  · exact g_alc h
  · exact weak h false
def cBin (tb : Tb) (r : Expr → Option G) (a : Expr) (o : Operator) (b : Expr) (p : Pos) : Option G := match bopO o with
  | some o => two (r a) (r b) fun x y => alcIf tb p (.bin o x y)
  | none => none
theorem bin_snd (S : Snd tb XR C k N r) (G0 : Gd tb XR C k N X c) (tk : Takes X W) {a b : Expr} {o : Operator} (h : cBin tb (r c) a o b pos = some g) : PEg X XR W C (.BinOp a o b pos) g := by
  unfold cBin at h
  split at h
  · rename_i o' ho
    obtain ⟨x, y, hx, hy, rfl⟩ := two_ok h
    rw [bop_ok ho]
    exact alc_if pos (g_bin o' (S.pe X W c a x G0 tk hx) (S.pe X W c b y G0 tk hy))
  · cases h
def cUn (r : Expr → Option G) (o : UnaryOp) (a : Expr) : Option G := match o with
  | .USub => (r a).map .neg
  | .Not => (r a).map .not
  | _ => none
theorem un_snd (S : Snd tb XR C k N r) (G0 : Gd tb XR C k N X c) (tk : Takes X W) {a : Expr} {o : UnaryOp} (h : cUn (r c) o a = some g) : PEg X XR W C (.UnaryOp o a pos) g := by
  cases o <;> simp only [cUn] at h <;> first | cases h | skip
  all_goals
    obtain ⟨x, hx, rfl⟩ := Option.map_eq_some_iff.mp h
    first
      | exact g_neg (S.pe X W c a x G0 tk hx)
      | exact g_not (S.pe X W c a x G0 tk hx)
def andOr : BoolOp → G → G → G
  | .And => .and
  | .Or => .or
def cBool (r : Expr → Option G) (o : BoolOp) : List Expr → Option G
  | [] => none
  | [a] => r a
  | a :: b :: es => two (r a) (cBool r o (b :: es)) (andOr o)
theorem bool_snd (S : Snd tb XR C k N r) (G0 : Gd tb XR C k N X c) (tk : Takes X W) {o : BoolOp} : ∀ {es : List Expr} {g : G}, cBool (r c) o es = some g → PEg X XR W C (.BoolOp o es pos) g
  | [], g, h => by simp [cBool] at h
  | [a], g, h => pe_one (S.pe X W c a g G0 tk h)
  | a :: b :: es, g, h => by
    obtain ⟨x, y, hx, hy, rfl⟩ := two_ok (show two (r c a) (cBool (r c) o (b :: es)) (andOr o) = some g from h)
    have ih := bool_snd S G0 tk (es := b :: es) hy
    cases o with
    | And => exact g_and (S.pe X W c a x G0 tk hx) ih
    | Or => exact g_or (S.pe X W c a x G0 tk hx) ih
theorem boolT_snd (S : SndT tb XR C k N t) (G0 : Gd tb XR C k N X c) (tk : Takes X W) {o : BoolOp} : ∀ {es : List Expr} {g : G}, cBool (t c) o es = some g → PW X (.BoolOp o es pos) (tT X.K XR W (ev C g))
  | [], g, h => by simp [cBool] at h
  | [a], g, h => by
    cases o with
    | And => exact w_one_and (S.pt X W c a g G0 tk h)
    | Or => exact w_one_or (S.pt X W c a g G0 tk h)
  | a :: b :: es, g, h => by
    obtain ⟨x, y, hx, hy, rfl⟩ := two_ok (show two (t c a) (cBool (t c) o (b :: es)) (andOr o) = some g from h)
    have ih := boolT_snd S G0 tk (es := b :: es) hy
    cases o with
    | And => exact w_and (S.pt X W c a x G0 tk hx) ih
    | Or => exact w_or (S.pt X W c a x G0 tk hx) ih
def cCmp (r : Expr → Option G) (a : Expr) (os : List CmpOp) (bs : List Expr) : Option G := match os, bs with
  | [o], [b] => (match copO o with
    | some o => two (r a) (r b) (.cmp o)
    | none => none)
  | [o, p], [b, d] => (match copO o, copO p with
    | some o, some p => (match r a with
      | some x => two (r b) (r d) (.chain o p x)
      | none => none)
    | _, _ => none)
  | _, _ => none
theorem cmp_snd (S : Snd tb XR C k N r) (G0 : Gd tb XR C k N X c) (tk : Takes X W) {a : Expr} {os : List CmpOp} {bs : List Expr} (h : cCmp (r c) a os bs = some g) :
    PEg X XR W C (.Compare a os bs pos) g ∧ PT X (.Compare a os bs pos) (tT X.K XR W (ev C g)) := by
  unfold cCmp at h
  split at h
  · rename_i o b
    split at h
    · rename_i o' ho
      obtain ⟨x, y, hx, hy, rfl⟩ := two_ok h
      rw [cop_ok ho]
      have m := mark_plain (S.pl c b y hy) (copOf o')
      exact ⟨weak (g_cmp G0.hu o' (S.pe X W c a x G0 tk hx) (S.pe X W c b y G0 tk hy) m) false, t_cmp G0.hu o' (S.pe X W c a x G0 tk hx) (S.pe X W c b y G0 tk hy) m⟩
    · cases h
  · rename_i o p b d
    split at h
    · rename_i o' p' ho hp
      split at h
      · rename_i x hx
        obtain ⟨y, z, hy, hz, rfl⟩ := two_ok h
        rw [cop_ok ho, cop_ok hp]
        have m : lastMarks [copOf o', copOf p'] [b, d] = false := by
          show behindInMarks (copOf p') d = false
          exact mark_plain (S.pl c d z hz) _
        exact ⟨weak (g_chain G0.hu o' p' (S.pe X W c a x G0 tk hx) (S.pe X W c b y G0 tk hy) (S.pe X W c d z G0 tk hz) m) false, t_chain G0.hu o' p' (S.pe X W c a x G0 tk hx) (S.pe X W c b y G0 tk hy) (S.pe X W c d z G0 tk hz) m⟩
      · cases h
    · cases h
  · cases h
def cIf (r t : Expr → Option G) (a b d : Expr) : Option G := match t a with
  | some x => two (r b) (r d) (.ife x)
  | none => none
theorem if_snd (S : Snd tb XR C k N r) (T : SndT tb XR C k N t) (G0 : Gd tb XR C k N X c) (tk : Takes X W) {a b d : Expr} (h : cIf (r c) (t c) a b d = some g) : PEg X XR W C (.IfExp a b d pos) g := by
  unfold cIf at h
  split at h
  · rename_i x hx
    obtain ⟨y, z, hy, hz, rfl⟩ := two_ok h
    exact g_ife (T.pt X W c a x G0 tk hx) (S.pe X W c b y G0 tk hy) (S.pe X W c d z G0 tk hz)
  · cases h
/-! ### lists of expressions -/
def cArgs (r : Expr → Option G) : List Expr → Option G
  | [] => some .nil
  | e :: es => two (r e) (cArgs r es) .cons
theorem args_snd (S : Snd tb XR C k N r) (G0 : Gd tb XR C k N X c) (tk : Takes X W) : ∀ {es : List Expr} {g : G}, cArgs (r c) es = some g → PA X es (tA X.K XR W (ev C g)) ∧ es.all plainE = true
  | [], g, h => by
    simp only [cArgs, Option.some.injEq] at h; subst h
    exact ⟨a_nil, rfl⟩
  | e :: es, g, h => by
    obtain ⟨x, y, hx, hy, rfl⟩ := two_ok (show two (r c e) (cArgs (r c) es) .cons = some g from h)
    obtain ⟨i1, i2⟩ := args_snd S G0 tk (es := es) hy
    have p := S.pl c e x hx
    exact ⟨a_cons (S.pe X W c e x G0 tk hx) i1 (star_ok p es X.env), by rw [List.all_cons, p, i2]; rfl⟩
def cDict (r : Expr → Option G) : List (Option Expr) → List Expr → Option (List L2.Key × G)
  | [], [] => some ([], .nil)
  | some (.Constant (.int i) _ _) :: ks, v :: vs => two (r v) (cDict r ks vs) fun x q => (.inl i :: q.1, .cons x q.2)
  | some (.Constant (.str z) _ _) :: ks, v :: vs => two (r v) (cDict r ks vs) fun x q => (.inr z :: q.1, .cons x q.2)
  | _, _ => none
theorem dict_snd (S : Snd tb XR C k N r) (G0 : Gd tb XR C k N X c) (tk : Takes X W) : ∀ {ks : List (Option Expr)} {vs : List Expr} {q : List L2.Key × G}, cDict (r c) ks vs = some q → DctOk X XR W C ks vs q.1 q.2 := by
  intro ks
  induction ks with
  | nil =>
    intro vs q h
    cases vs with
    | nil => simp only [cDict, Option.some.injEq] at h; subst h; exact .nil
    | cons _ _ => simp [cDict] at h
  | cons kx ks ih =>
    intro vs q h
    unfold cDict at h
    split at h
    · rename_i h1 h2; cases h2
    · rename_i i j p ks' v vs' h1
      cases h1
      obtain ⟨x, q', hx, hq, rfl⟩ := two_ok h
      exact .cons .int (S.pe X W c v x G0 tk hx) (ih hq)
    · rename_i z j p ks' v vs' h1
      cases h1
      obtain ⟨x, q', hx, hq, rfl⟩ := two_ok h
      exact .cons .str (S.pe X W c v x G0 tk hx) (ih hq)
    · cases h
def cDct (r : Expr → Option G) (ks : List (Option Expr)) (vs : List Expr) : Option G := match cDict r ks vs with
  | some q => if ks.length ≤ 15 then some (.dct q.1 q.2) else none
  | none => (match ks, vs with
    | [some kx], [v] => two (r kx) (r v) .dct1
    | _, _ => none)
theorem dct_snd (S : Snd tb XR C k N r) (G0 : Gd tb XR C k N X c) (tk : Takes X W) {ks : List (Option Expr)} {vs : List Expr} (h : cDct (r c) ks vs = some g) : PEg X XR W C (.Dict ks vs pos) g := by
  unfold cDct at h
  split at h
  · rename_i q hq
    split at h
    · rename_i h15
      cases h
      have d := dict_snd S G0 tk hq
      cases ks with
      | nil =>
        obtain ⟨q1, q2⟩ := q
        cases d
        exact g_dct0
      | cons _ _ => exact g_dct d (by simp) h15
    · cases h
  · split at h
    · obtain ⟨x, y, hx, hy, rfl⟩ := two_ok h
      exact g_dct1 (S.pe X W c _ x G0 tk hx) (S.pe X W c _ y G0 tk hy)
    · cases h
/-! ### subscripts -/
def cSub (tb : Tb) (r : Expr → Option G) (a i : Expr) (p : Pos) : Option G := match i with
  | .Slice (some b) (some d) none _ => (match r a with
    | some x => two (r b) (r d) fun y z => alcIf tb p (.sl x y z)
    | none => none)
  | .Slice none (some d) none _ => two (r a) (r d) fun x z => alcIf tb p (.slh x z)
  | .Slice (some b) none none _ => two (r a) (r b) fun x y => alcIf tb p (.sll x y)
  | .Slice none none none _ => (r a).map fun x => alcIf tb p (.sla x)
  | .Slice none none (some (.UnaryOp .USub (.Constant (.int 1) _ _) _)) _ => (r a).map fun x => alcIf tb p (.rev x)
  | i => two (r a) (r i) .idx
theorem sub_snd (S : Snd tb XR C k N r) (G0 : Gd tb XR C k N X c) (tk : Takes X W) {a i : Expr} (h : cSub tb (r c) a i pos = some g) : PEg X XR W C (.Subscript a i pos) g := by
  unfold cSub at h
  split at h
  · split at h
    · rename_i x hx
      obtain ⟨y, z, hy, hz, rfl⟩ := two_ok h
      exact alc_if pos (g_sl (S.pe X W c _ x G0 tk hx) (S.pe X W c _ y G0 tk hy) (S.pe X W c _ z G0 tk hz))
    · cases h
  · obtain ⟨x, z, hx, hz, rfl⟩ := two_ok h
    exact alc_if pos (g_slh (S.pe X W c _ x G0 tk hx) (S.pe X W c _ z G0 tk hz))
  · obtain ⟨x, z, hx, hz, rfl⟩ := two_ok h
    exact alc_if pos (g_sll (S.pe X W c _ x G0 tk hx) (S.pe X W c _ z G0 tk hz))
  · obtain ⟨x, hx, rfl⟩ := Option.map_eq_some_iff.mp h
    exact alc_if pos (g_sla (S.pe X W c _ x G0 tk hx))
  · obtain ⟨x, hx, rfl⟩ := Option.map_eq_some_iff.mp h
    exact alc_if pos (g_rev (S.pe X W c _ x G0 tk hx))
  · obtain ⟨x, y, hx, hy, rfl⟩ := two_ok h
    exact g_idx G0.hu (S.pe X W c _ x G0 tk hx) (S.pe X W c _ y G0 tk hy) (ix_plain (S.pl c _ y hy))
end
end GV

set_option linter.all false
set_option maxHeartbeats 2000000
set_option maxRecDepth 100000
/-! GV, part r: calls, comprehensions; the whole of an expression. -/
namespace GV
open PySem PySem.Spec PyProof.Rows L2
variable {tb : Tb} {XR : XRT} {C : CallF} {k : Nat} {N : List Str}
section
variable {X : Cx} {W : WX} {c : Ct} {pos : Pos} {e : Expr} {g : G} {r t : Rec}
/-! ### calls -/
def defO : List (Str × List Str) → Str → Option (Nat × List Str)
  | [], _ => none
  | (y, ps) :: ds, x => if y = x then some (0, ps) else (defO ds x).map fun q => (q.1 + 1, q.2)
theorem defO_ok : ∀ {ds : List (Str × List Str)} {x : Str} {i : Nat} {ps : List Str}, defO ds x = some (i, ps) → ds[i]? = some (x, ps)
  | [], x, i, ps, h => by simp [defO] at h
  | (y, qs) :: ds, x, i, ps, h => by
    simp only [defO] at h
    split at h
    · rename_i e; cases h; simp [e]
    · obtain ⟨q, hq, e⟩ := Option.map_eq_some_iff.mp h
      cases e
      simpa using defO_ok hq
def b1s : List B1 := [.len, .abs, .int, .repr, .tuple, .list, .sorted, .sum, .max, .min, .all, .any, .str]
def b1O (x : Str) : Option B1 := b1s.find? fun o => decide (nm1 o = x)
theorem b1O_ok {x : Str} {o : B1} (h : b1O x = some o) : x = nm1 o := by
  have := List.find?_some h
  exact (of_decide_eq_true this).symm
def tys : List Ty := [.int, .bool, .str, .tuple, .list, .dict]
def tyO (x : Str) : Option Ty := tys.find? fun T => decide (nmT T = x)
theorem tyO_ok {x : Str} {o : Ty} (h : tyO x = some o) : x = nmT o := by
  have := List.find?_some h
  exact (of_decide_eq_true this).symm
def freeB (tb : Tb) (c : Ct) (x : Str) : Bool := glB c.sc x && tb.free.contains x
theorem free_ok (G0 : Gd tb XR C k N X c) {x : Str} (h : freeB tb c x = true) : Gl X x ∧ X.mg x = none := by
  simp only [freeB, Bool.and_eq_true] at h
  exact ⟨gl_ok G0 h.1, G0.fx.free x (by simpa using h.2)⟩
/-- keywords' names -/
def kwN : List Keyword → Option (List Str)
  | [] => some []
  | ⟨some n, _, _⟩ :: r => (kwN r).map (n :: ·)
  | _ => none
def cKws (r : Expr → Option G) : List Keyword → Option G
  | [] => some .nil
  | ⟨_, e, _⟩ :: es => two (r e) (cKws r es) .cons
theorem kws_snd (S : Snd tb XR C k N r) (G0 : Gd tb XR C k N X c) (tk : Takes X W) : ∀ {es : List Keyword} {g : G}, cKws (r c) es = some g → KwG X XR W C es g
  | [], g, h => by
    simp only [cKws, Option.some.injEq] at h; subst h
    exact .nil
  | ⟨n, e, p⟩ :: es, g, h => by
    obtain ⟨x, y, hx, hy, rfl⟩ := two_ok (show two (r c e) (cKws (r c) es) .cons = some g from h)
    exact .cons (S.pe X W c e x G0 tk hx) (kws_snd S G0 tk hy)
theorem kwN_ok {pos : Pos} {env : Env} : ∀ {es : List Keyword} {ks : List Str}, kwN es = some ks → (backToKw pos (keywordEach es env)).all (·.1.isSome) = true ∧ (backToKw pos (keywordEach es env)).filterMap (·.1) = ks ∧ (backToKw pos (keywordEach es env)).any (·.1.isNone) = false
  | [], ks, h => by simp only [kwN, Option.some.injEq] at h; subst h; exact ⟨rfl, rfl, rfl⟩
  | ⟨some n, e, p⟩ :: es, ks, h => by
    simp only [kwN] at h
    obtain ⟨ks', h', rfl⟩ := Option.map_eq_some_iff.mp h
    obtain ⟨i1, i2, i3⟩ := kwN_ok (pos := pos) (env := env) h'
    refine ⟨?_, ?_, ?_⟩
    · show (true && (backToKw pos (keywordEach es env)).all (·.1.isSome)) = true
      rw [i1]; rfl
    · show n :: (backToKw pos (keywordEach es env)).filterMap (·.1) = n :: ks'
      rw [i2]
    · show (false || (backToKw pos (keywordEach es env)).any (·.1.isNone)) = false
      rw [i3]; rfl
  | ⟨none, e, p⟩ :: es, ks, h => by simp [kwN] at h
def kwIs (tb : Tb) (i : Nat) (ks : List Str) : Option (List Nat) := (tb.kws.find? fun q => decide (q.1 = i ∧ q.2.1 = ks)).map (·.2.2)
theorem kwIs_ok {i : Nat} {ks : List Str} {is : List Nat} (h : kwIs tb i ks = some is) : (i, ks, is) ∈ tb.kws := by
  obtain ⟨q, hq, rfl⟩ := Option.map_eq_some_iff.mp h
  have h1 := List.find?_some hq
  have h2 := List.mem_of_find?_eq_some hq
  obtain ⟨e1, e2⟩ := of_decide_eq_true h1
  obtain ⟨a, b, d⟩ := q
  simp only at e1 e2
  subst e1 e2
  exact h2
def dfO (tb : Tb) (i n : Nat) : Option (List D) := (tb.dfl.find? fun q => decide (q.1 = i ∧ q.2.1 = n)).map (·.2.2)
theorem dfO_ok {i n : Nat} {ds : List D} (h : dfO tb i n = some ds) : (i, n, ds) ∈ tb.dfl := by
  obtain ⟨q, hq, rfl⟩ := Option.map_eq_some_iff.mp h
  have h1 := List.find?_some hq
  have h2 := List.mem_of_find?_eq_some hq
  obtain ⟨e1, e2⟩ := of_decide_eq_true h1
  obtain ⟨a, b, d⟩ := q
  simp only at e1 e2
  subst e1 e2
  exact h2
/-- a def of the module is called -/
def cOwn (tb : Tb) (r : Expr → Option G) (x : Str) (args : List Expr) (kws : List Keyword) : Option G := match defO tb.defs x with
  | some (i, ps) => (match kws with
    | [] => (match cArgs r args with
      | some g => if args.length = ps.length then some (.call i g) else
          (match dfO tb i args.length with
          | some ds => if args.isEmpty = false ∧ isLsG g = true then some (.call i (g.app ds)) else none
          | none => none)
      | none => none)
    | kw :: kws => (match args with
      | [] => (match kwN (kw :: kws) with
        | some ks => two (kwIs tb i ks) (cKws r (kw :: kws)) fun is g => .callK i ks.length is g
        | none => none)
      | _ => none))
  | none => none
theorem own_snd (S : Snd tb XR C k N r) (G0 : Gd tb XR C k N X c) (hcold : c.hot = false) (tk : Takes X W) {x : Str} {p : Pos} {args : List Expr} {kws : List Keyword} (hd : okName x = true) (hg : glB c.sc x = true) (h : cOwn tb (r c) x args kws = some g) :
    PEg X XR W C (.Call (.Name x p) args kws pos) g := by
  unfold cOwn at h
  split at h
  · rename_i i ps hi
    obtain ⟨f, fd, m, kp, F, kwt, dft, hb0⟩ := G0.fx.fn i x ps (defO_ok hi)
    split at h
    · split at h
      · rename_i ga ha
        obtain ⟨pa, pl⟩ := args_snd S G0 tk ha
        split at h
        · rename_i hlen
          cases h
          have b := hb0
          cases args with
          | nil =>
            simp only [cArgs, Option.some.injEq] at ha
            subst ha
            exact g_call0 F G0.gd (G0.room hcold) tk (gl_ok G0 hg) m kp b (ok_dbg hd).1
          | cons a as =>
            rw [List.all_cons] at pl
            obtain ⟨p1, p2⟩ := Bool.and_eq_true_iff.mp pl
            exact g_call F G0.gd (G0.room hcold) tk (gl_ok G0 hg) m kp b pa (ok_dbg hd).1 (star_ok p1 _ _) (star_any p2)
        · split at h
          · rename_i ds hds
            split at h
            · rename_i hc
              cases h
              cases args with
              | nil => cases hc.1
              | cons a as =>
                rw [List.all_cons] at pl
                obtain ⟨p1, p2⟩ := Bool.and_eq_true_iff.mp pl
                exact g_callD F G0.gd (G0.room hcold) tk (gl_ok G0 hg) m kp (dft _ _ (dfO_ok hds)) hc.2 pa (ok_dbg hd).1 (star_ok p1 _ _) (star_any p2)
            · cases h
          · cases h
      · cases h
    · split at h
      · split at h
        · rename_i ks hk
          obtain ⟨is, ga, h1, h2, rfl⟩ := two_ok h
          obtain ⟨k1, k2, k3⟩ := kwN_ok (pos := pos) (env := X.env) hk
          exact g_callK F G0.gd (G0.room hcold) tk (gl_ok G0 hg) m kp (kwt ks is (kwIs_ok h1)) (kws_snd S G0 tk h2) (ok_dbg hd).1 k1 k2 (by rw [k3]; rfl)
        · cases h
      · cases h
  · cases h
/-- list(range(..)), tuple(range(..)) -/
def cLstRg (tb : Tb) (c : Ct) (r : Expr → Option G) (x : Str) (a : Expr) (p : Pos) : Option G := match a with
  | .Call (.Name f _) [e] [] _ => if f = "range" ∧ freeB tb c f = true then
      (if x = "tuple" then (r e).map fun g => alcIf tb p (lstRg true (.rng1 g)) else if x = "list" then (r e).map fun g => alcIf tb p (lstRg false (.rng1 g)) else none) else none
  | .Call (.Name f _) [e, e2] [] _ => if f = "range" ∧ freeB tb c f = true then
      (if x = "tuple" then two (r e) (r e2) fun g g2 => alcIf tb p (lstRg true (.rng2 g g2)) else if x = "list" then two (r e) (r e2) fun g g2 => alcIf tb p (lstRg false (.rng2 g g2)) else none) else none
  | _ => none
theorem lstRg_snd (S : Snd tb XR C k N r) (G0 : Gd tb XR C k N X c) (hcold : c.hot = false) (tk : Takes X W) {x : Str} {p : Pos} {a : Expr} (hf : freeB tb c x = true) (h : cLstRg tb c (r c) x a pos = some g) :
    PEg X XR W C (.Call (.Name x p) [a] [] pos) g := by
  obtain ⟨hg, hm⟩ := free_ok G0 hf
  unfold cLstRg at h
  split at h
  · split at h
    · rename_i hc
      obtain ⟨rfl, hf2⟩ := hc
      obtain ⟨hg2, hm2⟩ := free_ok G0 hf2
      split at h
      · rename_i e
        subst e
        obtain ⟨y, hy, rfl⟩ := Option.map_eq_some_iff.mp h
        exact alc_if pos (g_lstRg1 (tup := true) (G0.calm hcold) hg hm hg2 hm2 (S.pe X W c _ y G0 tk hy) (star_ok (S.pl c _ y hy) _ _))
      · split at h
        · rename_i e
          subst e
          obtain ⟨y, hy, rfl⟩ := Option.map_eq_some_iff.mp h
          exact alc_if pos (g_lstRg1 (tup := false) (G0.calm hcold) hg hm hg2 hm2 (S.pe X W c _ y G0 tk hy) (star_ok (S.pl c _ y hy) _ _))
        · cases h
    · cases h
  · split at h
    · rename_i hc
      obtain ⟨rfl, hf2⟩ := hc
      obtain ⟨hg2, hm2⟩ := free_ok G0 hf2
      split at h
      · rename_i e
        subst e
        obtain ⟨y, z, hy, hz, rfl⟩ := two_ok h
        exact alc_if pos (g_lstRg2 (tup := true) (G0.calm hcold) hg hm hg2 hm2 (S.pe X W c _ y G0 tk hy) (S.pe X W c _ z G0 tk hz) (star_ok (S.pl c _ y hy) _ _) (star_ok (S.pl c _ z hz) _ _) (star_any (by rw [List.all_cons, S.pl c _ z hz]; rfl)))
      · split at h
        · rename_i e
          subst e
          obtain ⟨y, z, hy, hz, rfl⟩ := two_ok h
          exact alc_if pos (g_lstRg2 (tup := false) (G0.calm hcold) hg hm hg2 hm2 (S.pe X W c _ y G0 tk hy) (S.pe X W c _ z G0 tk hz) (star_ok (S.pl c _ y hy) _ _) (star_ok (S.pl c _ z hz) _ _) (star_any (by rw [List.all_cons, S.pl c _ z hz]; rfl)))
        · cases h
    · cases h
  · cases h
def cBuilt0 (tb : Tb) (c : Ct) (r : Expr → Option G) (x : Str) (args : List Expr) (p : Pos) : Option G := match args with
  | [a] => (match b1O x with
    | some o => (r a).map fun g => alcIf tb p (.b1 o g)
    | none => none)
  | [a, b] => if x = "isinstance" then (match b with
      | .Name T _ => (match tyO T with
        | some T => if freeB tb c (nmT T) = true then (r a).map (.isa T) else none
        | none => none)
      | _ => none)
    else if x = "max" then two (r a) (r b) (.b2 .max)
    else if x = "min" then two (r a) (r b) (.b2 .min)
    else none
  | _ => none
theorem built_snd0 (S : Snd tb XR C k N r) (G0 : Gd tb XR C k N X c) (hcold : c.hot = false) (tk : Takes X W) {x : Str} {p : Pos} {args : List Expr} (hf : freeB tb c x = true) (h : cBuilt0 tb c (r c) x args pos = some g) :
    PEg X XR W C (.Call (.Name x p) args [] pos) g := by
  obtain ⟨hg, hm⟩ := free_ok G0 hf
  unfold cBuilt0 at h
  split at h
  · rename_i a
    split at h
    · rename_i o ho
      obtain ⟨ga, ha, rfl⟩ := Option.map_eq_some_iff.mp h
      have e := b1O_ok ho
      subst e
      exact alc_if pos (g_b1 o G0.fx.sm (G0.calm hcold) G0.gd G0.hu hg hm (S.pe X W c a ga G0 tk ha) (star_ok (S.pl c a ga ha) _ _))
    · cases h
  · rename_i a b
    split at h
    · rename_i e
      subst e
      split at h
      · rename_i T q
        split at h
        · rename_i T' hT
          split at h
          · rename_i hfT
            obtain ⟨ga, ha, rfl⟩ := Option.map_eq_some_iff.mp h
            have e := tyO_ok hT
            subst e
            obtain ⟨hgT, hmT⟩ := free_ok G0 hfT
            exact weak (g_isa T' hg hm hgT hmT (S.pe X W c a ga G0 tk ha) (star_ok (S.pl c a ga ha) _ _)) false
          · cases h
        · cases h
      · cases h
    · split at h
      · rename_i e
        subst e
        obtain ⟨x, y, hx, hy, rfl⟩ := two_ok h
        exact weak (g_b2max (G0.calm hcold) hg hm (S.pe X W c a x G0 tk hx) (S.pe X W c b y G0 tk hy) (star_ok (S.pl c a x hx) _ _) (star_ok (S.pl c b y hy) _ _)) false
      · split at h
        · rename_i e
          subst e
          obtain ⟨x, y, hx, hy, rfl⟩ := two_ok h
          exact weak (g_b2min (G0.calm hcold) hg hm (S.pe X W c a x G0 tk hx) (S.pe X W c b y G0 tk hy) (star_ok (S.pl c a x hx) _ _) (star_ok (S.pl c b y hy) _ _)) false
        · cases h
  · cases h
/-- sorted(set(..)), sorted(dict(..)) -/
def cSrt (tb : Tb) (c : Ct) (r : Expr → Option G) (x : Str) (a : Expr) (p : Pos) : Option G := match a with
  | .Call (.Name f _) [e] [] _ => if x = "sorted" ∧ freeB tb c f = true then
      (if f = "set" then (r e).map fun g => alcIf tb p (.sset g) else if f = "dict" then (r e).map fun g => alcIf tb p (.sdct g) else none) else none
  | _ => none
theorem srt_snd (S : Snd tb XR C k N r) (G0 : Gd tb XR C k N X c) (hcold : c.hot = false) (tk : Takes X W) {x : Str} {p : Pos} {a : Expr} (hf : freeB tb c x = true) (h : cSrt tb c (r c) x a pos = some g) :
    PEg X XR W C (.Call (.Name x p) [a] [] pos) g := by
  obtain ⟨hg, hm⟩ := free_ok G0 hf
  unfold cSrt at h
  split at h
  · split at h
    · rename_i hc
      obtain ⟨rfl, hf2⟩ := hc
      obtain ⟨hg2, hm2⟩ := free_ok G0 hf2
      split at h
      · rename_i e
        subst e
        obtain ⟨y, hy, rfl⟩ := Option.map_eq_some_iff.mp h
        exact alc_if pos (g_sset (G0.calm hcold) G0.hu hg hm hg2 hm2 (S.pe X W c _ y G0 tk hy) (star_ok (S.pl c _ y hy) _ _))
      · split at h
        · rename_i e
          subst e
          obtain ⟨y, hy, rfl⟩ := Option.map_eq_some_iff.mp h
          exact alc_if pos (g_sdct (G0.calm hcold) G0.hu hg hm hg2 hm2 (S.pe X W c _ y G0 tk hy) (star_ok (S.pl c _ y hy) _ _))
        · cases h
    · cases h
  · cases h
def cBuilt (tb : Tb) (c : Ct) (r : Expr → Option G) (x : Str) (args : List Expr) (p : Pos) : Option G := match args with
  | [a] => (match cLstRg tb c r x a p with
    | some g => some g
    | none => (match cSrt tb c r x a p with
      | some g => some g
      | none => cBuilt0 tb c r x [a] p))
  | args => cBuilt0 tb c r x args p
theorem built_snd (S : Snd tb XR C k N r) (G0 : Gd tb XR C k N X c) (hcold : c.hot = false) (tk : Takes X W) {x : Str} {p : Pos} {args : List Expr} (hf : freeB tb c x = true) (h : cBuilt tb c (r c) x args pos = some g) :
    PEg X XR W C (.Call (.Name x p) args [] pos) g := by
  unfold cBuilt at h
  split at h
  · split at h
    · rename_i q
      cases h
      exact lstRg_snd S G0 hcold tk hf q
    · split at h
      · rename_i q
        cases h
        exact srt_snd S G0 hcold tk hf q
      · exact built_snd0 S G0 hcold tk hf h
  · exact built_snd0 S G0 hcold tk hf h
def cGcd (r : Expr → Option G) : List Expr → Option G
  | [a, b] => two (r a) (r b) (.b2 .gcd)
  | _ => none
theorem gcd_snd (S : Snd tb XR C k N r) (G0 : Gd tb XR C k N X c) (hcold : c.hot = false) (tk : Takes X W) {x : Str} {p : Pos} {args : List Expr} (hd : okName x = true) (hg : glB c.sc x = true) (hx : x ∈ tb.gcd) (h : cGcd (r c) args = some g) :
    PEg X XR W C (.Call (.Name x p) args [] pos) g := by
  unfold cGcd at h
  split at h
  · rename_i a b
    obtain ⟨u, v, hu, hv, rfl⟩ := two_ok h
    exact weak (g_gcd (G0.calm hcold) (gl_ok G0 hg) (G0.fx.gcd x hx) (ok_dbg hd).1 (S.pe X W c a u G0 tk hu) (S.pe X W c b v G0 tk hv) (star_ok (S.pl c a u hu) _ _) (star_ok (S.pl c b v hv) _ _)) false
  · cases h
def mts : List (Mt × Nat) := [(.append, 1), (.extend, 1), (.popAt, 1), (.insert, 2), (.index, 1)]
def mtO (m : Str) (n : Nat) : Option Mt := (mts.find? fun q => decide (mtName q.1 = m ∧ q.2 = n)).map (·.1)
theorem mtO_ok {m : Str} {n : Nat} {o : Mt} (h : mtO m n = some o) : m = mtName o ∧ n < 30 := by
  obtain ⟨q, hq, rfl⟩ := Option.map_eq_some_iff.mp h
  have h0 := List.find?_some hq
  have h1 := of_decide_eq_true h0
  have h2 := List.mem_of_find?_eq_some hq
  refine ⟨h1.1.symm, ?_⟩
  rw [← h1.2]
  simp only [mts, List.mem_cons, List.not_mem_nil, or_false] at h2
  rcases h2 with rfl | rfl | rfl | rfl | rfl <;> decide
def cMeth (r : Expr → Option G) (o : Expr) (m : Str) (p : Pos) (args : List Expr) (pos : Pos) : Option G :=
  if baseE o = true ∧ (p.endLine == pos.line) = true then (match args with
    | [] => if m = "pop" then (r o).map fun g => .meth .pop g .nil else if m = "upper" then (r o).map .upr else none
    | a :: as => (match mtO m (as.length + 1) with
      | some mt => two (r o) (cArgs r (a :: as)) (.meth mt)
      | none => none)) else none
theorem meth_snd (S : Snd tb XR C k N r) (G0 : Gd tb XR C k N X c) (tk : Takes X W) {o : Expr} {m : Str} {p : Pos} {args : List Expr} (h : cMeth (r c) o m p args pos = some g) : PEg X XR W C (.Call (.Attribute o m p) args [] pos) g := by
  unfold cMeth at h
  split at h
  · rename_i hb
    split at h
    · split at h
      · rename_i e
        subst e
        obtain ⟨go, ho, rfl⟩ := Option.map_eq_some_iff.mp h
        exact g_meth0 G0.hu (S.pe X W c o go G0 tk ho) (base_ok hb.1 _ _) hb.2
      · split at h
        · rename_i e
          subst e
          obtain ⟨go, ho, rfl⟩ := Option.map_eq_some_iff.mp h
          exact weak (g_upr (S.pe X W c o go G0 tk ho) (base_ok hb.1 _ _) hb.2) false
        · cases h
    · rename_i a as
      split at h
      · rename_i mt hmt
        obtain ⟨e, hl⟩ := mtO_ok hmt
        subst e
        obtain ⟨go, ga, ho, ha, rfl⟩ := two_ok h
        obtain ⟨pa, pl⟩ := args_snd S G0 tk ha
        have pl' := pl
        rw [List.all_cons] at pl'
        obtain ⟨p1, p2⟩ := Bool.and_eq_true_iff.mp pl'
        refine g_methA G0.hu mt (S.pe X W c o go G0 tk ho) pa (base_ok hb.1 _ _) hb.2 ?_ (star_ok p1 _ _) (star_any p2)
        rw [star_all pl]
        show (true && true && decide _) = true
        rw [Bool.and_self, Bool.true_and, decide_eq_true_eq]
        simpa using hl
      · cases h
  · cases h
/-! ### in a clause -/
def clsO (tb : Tb) (x : Str) : Option Nat := tb.cls.find? fun n => decide (clsNm n = x)
theorem clsO_ok {x : Str} {n : Nat} (h : clsO tb x = some n) : n ∈ tb.cls ∧ x = clsNm n := by
  have h1 := List.find?_some h
  exact ⟨List.mem_of_find?_eq_some h, (of_decide_eq_true h1).symm⟩
def clsL (tb : Tb) (c : Ct) : List Expr → Option (List Nat)
  | [] => some []
  | .Name x _ :: es => if okName x = true ∧ glB c.sc x = true then two (clsO tb x) (clsL tb c es) (· :: ·) else none
  | _ => none
/-- is it one of these -/
def orG : List Nat → Nat → G
  | [], _ => .cst (.bl false)
  | [m], i => .call (XI0 + m) (.cons (.loc i) .nil)
  | m :: ms, i => .or (.call (XI0 + m) (.cons (.loc i) .nil)) (orG ms i)
open Classical in
theorem ev_xi {C : CallF} {n : Nat} {v : Option D} {a : Addr} {d : Option Addr} {fs : List (Str × V)} {ρ : Rho} {S : Sto} {m i : Nat} :
    ev (xC C n v a d fs) (.call (XI0 + m) (.cons (.loc i) .nil)) ρ S = if ρ[i]? = some (some (.exo a d fs)) then .ok (.bl (xsub n m)) S else .no := by
  have h1 : ¬ (XI0 + m < 1000000) := by show ¬ (1000100 + m < 1000000); omega
  have h2 : ¬ (XI0 + m < XI0) := by show ¬ (1000100 + m < 1000100); omega
  have h3 : XI0 + m - XI0 = m := by show 1000100 + m - 1000100 = m; omega
  simp only [ev]
  cases hx : ρ[i]? with
  | none => simp
  | some o =>
    cases o with
    | none => simp
    | some x =>
      simp only [R.bind_ok, lsOf, xC, if_neg h1, if_neg h2, h3]
      by_cases e : x = .exo a d fs
      · subst e; simp
      · simp [e]
open Classical in
theorem ev_or {C : CallF} {n : Nat} {v : Option D} {a : Addr} {d : Option Addr} {fs : List (Str × V)} {ρ : Rho} {S : Sto} {i : Nat} : ∀ {ms : List Nat}, ms ≠ [] →
    ev (xC C n v a d fs) (orG ms i) ρ S = if ρ[i]? = some (some (.exo a d fs)) then .ok (.bl (ms.any (xsub n))) S else .no
  | [], h => absurd rfl h
  | [m], _ => by rw [orG, ev_xi]; simp
  | m :: m2 :: ms, _ => by
    have ih := ev_or (C := C) (n := n) (v := v) (a := a) (d := d) (fs := fs) (ρ := ρ) (S := S) (i := i) (ms := m2 :: ms) (by simp)
    have e : ev (xC C n v a d fs) (orG (m :: m2 :: ms) i) ρ S = (ev (xC C n v a d fs) (.call (XI0 + m) (.cons (.loc i) .nil)) ρ S).bind fun x S1 => (R.of S1 (truth S1 x)).bind fun k S2 => if k = true then .ok x S2 else ev (xC C n v a d fs) (orG (m2 :: ms) i) ρ S2 := rfl
    rw [e, ev_xi]
    by_cases hx : ρ[i]? = some (some (.exo a d fs))
    · rw [if_pos hx, if_pos hx]
      rw [if_pos hx] at ih
      cases hb : xsub n m with
      | true => simp [truth, hb]
      | false => simp only [R.bind_ok, truth, R.of_some, Bool.false_eq_true, if_false]; rw [ih]; simp [hb]
    · rw [if_neg hx, if_neg hx]; rfl
def fldO : Str → Option Nat := fun f => [1, 2, 3, 4, 5].find? fun n => decide (fldNm n = f)
theorem fldO_ok {f : Str} {n : Nat} (h : fldO f = some n) : f = fldNm n ∧ 1 ≤ n ∧ n ≤ 5 := by
  have h1 := List.find?_some h
  have h2 := List.mem_of_find?_eq_some h
  refine ⟨(of_decide_eq_true h1).symm, ?_⟩
  simp only [List.mem_cons, List.not_mem_nil, or_false] at h2
  omega
open Classical in
theorem ev_xf {C : CallF} {n : Nat} {v : Option D} {a : Addr} {d : Option Addr} {fs : List (Str × V)} {ρ : Rho} {S : Sto} {f i : Nat} (h1 : 1 ≤ f) (h5 : f ≤ 5) :
    ev (xC C n v a d fs) (.call (XF0 + f) (.cons (.loc i) .nil)) ρ S = if ρ[i]? = some (some (.exo a d fs)) ∧ fldNo n = f then R.of S v else .no := by
  have q1 : ¬ (XF0 + f < 1000000) := by show ¬ (1000001 + f < 1000000); omega
  have q2 : XF0 + f < XI0 := by show 1000001 + f < 1000100; omega
  simp only [ev]
  cases hx : ρ[i]? with
  | none => simp
  | some o =>
    cases o with
    | none => simp
    | some x =>
      simp only [R.bind_ok, lsOf, xC, if_neg q1, if_pos q2]
      by_cases e : x = .exo a d fs
      · subst e
        by_cases e2 : fldNo n = f
        · have : fldNo n ≠ 0 := by omega
          have q3 : f ≠ 0 := by omega
          simp [e2, q3]
        · have : ¬ (XF0 + f = XF0 + fldNo n) := by show ¬ (1000001 + f = 1000001 + fldNo n); omega
          simp [e2, this]
          intro _ z; exact absurd z.symm e2
      · simp [e]
def cXisa (tb : Tb) (N : List Str) (c : Ct) (x : Str) (args : List Expr) : Option G := match args with
  | [.Name e _, b] => if x = "isinstance" ∧ okName e = true ∧ visB c.sc e = true then (match ixOf N e, (match b with
      | .Tuple es _ _ => clsL tb c es
      | b => clsL tb c [b]) with
      | some i, some (m :: ms) => if (m :: ms).length ≤ 100 then some (orG (m :: ms) i) else none
      | _, _ => none) else none
  | _ => none
def cXfld (N : List Str) (c : Ct) (e : Expr) (f : Str) : Option G := match e with
  | .Name e _ => if c.hot = true ∧ okName e = true ∧ visB c.sc e = true then two (ixOf N e) (fldO f) (fun i n => .call (XF0 + n) (.cons (.loc i) .nil)) else none
  | _ => none
/-- the classes' values -/
theorem clsL_ok (G0 : Gd tb XR C k N X c) : ∀ {es : List Expr} {ms : List Nat}, clsL tb c es = some ms → ∃ Ds : List Addr, PA X es (fun _ H Q => Q (Ds.map V.ref) H) ∧ (∀ m ∈ ms, m ∈ tb.cls) ∧ Paired (fun m D => cad X.K m = some D) ms Ds ∧ es.all plainE = true
  | [], ms, h => by
    simp only [clsL, Option.some.injEq] at h; subst h
    exact ⟨[], pa_nil, fun m hm => (by cases hm), .nil, rfl⟩
  | e :: es, ms, h => by
    cases e with
    | Name x p =>
      simp only [clsL] at h
      split at h
      · rename_i hc
        obtain ⟨m, ms', h1, h2, rfl⟩ := two_ok h
        obtain ⟨hm, rfl⟩ := clsO_ok h1
        obtain ⟨Ds, i1, i2, i3, i4⟩ := clsL_ok G0 h2
        obtain ⟨D, K0⟩ := G0.fx.cls.one m hm
        have pn : PE X (.Name (clsNm m) p) (tC (.ref D)) := pe_glob (gl_ok G0 hc.2) (G0.fx.cnm m hm D K0.ad) rfl (ok_dbg hc.1).1
        refine ⟨D :: Ds, ?_, fun q hq => ?_, .cons K0.ad i3, by rw [List.all_cons, i4]; rfl⟩
        · exact PA.imp (pa_cons pn i1 (star_ok rfl _ _)) fun σ H Q q => q
        · rcases List.mem_cons.mp hq with rfl | hq
          · exact hm
          · exact i2 q hq
      · cases h
    | _ => simp [clsL] at h
theorem kit_all2 {K : PySem.W.Frag} {Cc : Addr} {n : Nat} (f : ∀ m D, m ∈ tb.cls → cad K m = some D → PySem.W.kitOne K (.ref Cc) (.ref D) = some (xsub n m)) : ∀ {ms : List Nat} {Ds : List Addr}, (∀ m ∈ ms, m ∈ tb.cls) → Paired (fun m D => cad K m = some D) ms Ds → PySem.W.kitAny K (.ref Cc) (Ds.map Value.ref) = some (ms.any (xsub n))
  | _, _, _, .nil => rfl
  | m :: ms, D :: Ds, hm, .cons h t => by
    have ih := kit_all2 f (fun q hq => hm q (List.mem_cons_of_mem _ hq)) t
    have h1 := f m D (hm m List.mem_cons_self) h
    simp only [List.map_cons, PySem.W.kitAny, h1]
    cases hb : xsub n m with
    | true => simp [hb]
    | false => simp only [List.any_cons, hb, Bool.false_or]; exact ih
theorem xisa_snd (G0 : Gd tb XR C k N X c) (hot : c.hot = true) {x : Str} {p : Pos} {args : List Expr} (hf : freeB tb c x = true) (h : cXisa tb N c x args = some g) : PEg X XR W C (.Call (.Name x p) args [] pos) g := by
  obtain ⟨hg, hm⟩ := free_ok G0 hf
  unfold cXisa at h
  split at h
  · rename_i e pe b
    split at h
    · rename_i hc
      obtain ⟨rfl, he, hv⟩ := hc
      split at h
      · rename_i i m ms hi hl
        split at h
        · rename_i hlen
          cases h
          obtain ⟨X0, a, oe, pn, C0, n, v, Cc, d, fs, hX, hC, hz, hfl, hn, hcc, fit⟩ := (G0.hx hot).ex
          obtain ⟨Cc', K0⟩ := G0.fx.cls.one n hn
          have eK : X.K = X0.K := by rw [hX]
          have : Cc' = Cc := by
            have := K0.ad
            rw [eK, hcc] at this
            cases this; rfl
          subst this
          have pv : PE X (.Name e pe) (tVar i) := pe_var (by rw [G0.nn]; exact ixOf_ok hi) (by rw [G0.sc]; exact vis_ok hv) (ok_dbg he).1 (ok_dbg he).2
          have kit : ∀ m D, m ∈ tb.cls → cad X.K m = some D → PySem.W.kitOne X.K (.ref Cc') (.ref D) = some (xsub n m) := fun m D hm hD => G0.fx.cls.kit n hn m hm Cc' D K0.ad hD
          -- what the slot holds
          have slot : ∀ {σ : L2.St} {H : Hp} {ι : Ad} {S : Sto} {ρ : Rho} {Q : VK}, EnvOk X.K H ι σ ρ → StOk X.K H ι S → EndG X.K XR W ι H σ (repE X.K false H) (ev C (orG (m :: ms) i) ρ S) Q →
              σ[i]? = some (some (.ref a)) ∧ (∀ dd, d = some dd → H dd = some (.xd fs)) ∧ ∀ H', Ext ι H ι H' → StOk X.K H' ι S → Q (.bl ((m :: ms).any (xsub n))) H' := by
            intro σ H ι S ρ Q hE hS q
            rw [hC, ev_or (by simp)] at q
            by_cases hx : ρ[i]? = some (some (.exo a d fs))
            · rw [if_pos hx] at q
              obtain ⟨w, hw, r⟩ := hE.get i _ hx
              cases r with
              | exo hd => exact ⟨hw, fun dd e => (hd dd e).1, fun H' e st => q _ H' ι e st ⟨.bl _, fun z => by cases z⟩⟩
            · rw [if_neg hx] at q; exact q.elim
          split at hl
          · rename_i es kk tp
            obtain ⟨Ds, i1, i2, i3, i4⟩ := clsL_ok G0 hl
            have hcall := call_isXT (X := X0) (a := a) (pn := pn) (by rw [← eK]; exact K0) hz hfl
            rw [← hX, ← eK] at hcall
            refine PE.imp (pe_callB hcall hg hm (by decide +kernel) (pa_cons pv (pa_cons (pe_tup i1) pa_nil rfl) (star_ok rfl _ _)) (by decide) (by decide) (star_ok rfl _ _) rfl) fun σ H Q ⟨ι, S, ρ, hE, hS, q⟩ => ?_
            obtain ⟨q1, q2, q3⟩ := slot hE hS q
            refine ⟨_, q1, ?_, fun tp0 ht => ?_⟩
            · rw [List.length_map, ← Paired.length i3, sizeLine_eq]; omega
            · exact ⟨tp0, Ds, _, rfl, upd_same, kit_all2 kit i2 i3, fun dd e => ⟨fs, by rw [upd_ne (ne_of_none (q2 dd e) ht)]; exact q2 dd e⟩, q3 _ (Ext.new ι ht) (hS.new ht)⟩
          · rename_i hnt
            obtain ⟨Ds, i1, i2, i3, i4⟩ := clsL_ok G0 hl
            have hcall := call_isX (X := X0) (a := a) (pn := pn) (by rw [← eK]; exact K0) hz hfl
            rw [← hX, ← eK] at hcall
            cases i3 with
            | cons h3 t3 =>
              cases t3 with
              | nil =>
                rename_i D
                have pd := i1
                refine PE.imp (pe_callB hcall hg hm (by decide +kernel) (pa_cons pv i1 (star_ok rfl _ _)) (by decide) (by decide) (star_ok rfl _ _) (star_any i4)) fun σ H Q ⟨ι, S, ρ, hE, hS, q⟩ => ?_
                obtain ⟨q1, q2, q3⟩ := slot hE hS q
                exact ⟨_, q1, D, _, rfl, kit _ D (i2 _ List.mem_cons_self) h3, fun dd e => ⟨fs, q2 dd e⟩, by have := q3 H (Ext.refl _ _) hS; simpa using this⟩
              | cons _ _ => 
                exfalso
                cases b with
                | Name x2 p2 => 
                  simp only [clsL] at hl
                  split at hl
                  · obtain ⟨_, _, _, h5, h6⟩ := two_ok hl
                    cases h5
                    cases h6
                  · cases hl
                | _ => simp [clsL] at hl
        · cases h
      · cases h
    · cases h
  · cases h
theorem xfld_snd (G0 : Gd tb XR C k N X c) {e : Expr} {f : Str} (h : cXfld N c e f = some g) : PEg X XR W C (.Attribute e f pos) g := by
  unfold cXfld at h
  split at h
  · rename_i e pe
    split at h
    · rename_i hc
      obtain ⟨hot, he, hv⟩ := hc
      obtain ⟨i, m, hi, hm, rfl⟩ := two_ok h
      obtain ⟨rfl, m1, m5⟩ := fldO_ok hm
      obtain ⟨X0, a, oe, pn, C0, n, v, Cc, d, fs, hX, hC, hz, hfl, hn, hcc, fit⟩ := (G0.hx hot).ex
      obtain ⟨Cc', K0⟩ := G0.fx.cls.one n hn
      have eK : X.K = X0.K := by rw [hX]
      have : Cc' = Cc := by
        have := K0.ad
        rw [eK, hcc] at this
        cases this; rfl
      subst this
      have pv : PE X (.Name e pe) (tVar i) := pe_var (by rw [G0.nn]; exact ixOf_ok hi) (by rw [G0.sc]; exact vis_ok hv) (ok_dbg he).1 (ok_dbg he).2
      by_cases hfn : fldNo n = m
      · subst hfn
        rw [hX] at pv
        have hxf := pe_xf (X := X0) (pos := pos) (a := a) (pn := pn) (d := d) (n := fldNm (fldNo n)) (by rw [← eK]; exact K0.xf) (by rw [← eK]; exact K0.fld (by omega)) hz hfl pv (by rfl)
        rw [← hX] at hxf
        refine PE.imp hxf fun σ H Q ⟨ι, S, ρ, hE, hS, q⟩ => ?_
        rw [hC, ev_xf m1 m5] at q
        by_cases hx : ρ[i]? = some (some (.exo a d fs)) ∧ fldNo n = fldNo n
        · rw [if_pos hx] at q
          obtain ⟨w, hw, r⟩ := hE.get i _ hx.1
          cases r with
          | exo hd =>
            obtain ⟨x, hv', q⟩ := q.of
            obtain ⟨dd, y, e1, e2, e3⟩ := fit.2 x hv'
            refine ⟨_, hw, rfl, rfl, dd, fs, y, e1, (hd dd e1).1, e3, q y H ι (Ext.refl _ _) hS ⟨?_, fun z => by cases z⟩⟩
            cases x <;> simp only [vOf, Option.some.injEq] at e2 <;> first | (cases e2; done) | skip
            · subst e2; exact .non
            · subst e2; exact .bl _
            · subst e2; exact .int _
            · subst e2; exact .str _
        · rw [if_neg hx] at q; exact q.elim
      · refine ⟨fun pins s σ H Q I ⟨ι, S, ρ, hE, hS, q⟩ => ?_⟩
        rw [hC, ev_xf m1 m5, if_neg (fun z => hfn z.2)] at q
        exact q.elim
    · cases h
  · cases h
def cCall (tb : Tb) (N : List Str) (c : Ct) (r : Expr → Option G) (f : Expr) (args : List Expr) (kws : List Keyword) (pos : Pos) : Option G := match f with
  | .Name x _ => if okName x = true ∧ glB c.sc x = true then
      (if c.hot = true then (if freeB tb c x = true ∧ kws.isEmpty = true then cXisa tb N c x args else none) else
       if tb.gcd.contains x = true ∧ kws.isEmpty = true then cGcd r args else
       if freeB tb c x = true ∧ kws.isEmpty = true then cBuilt tb c r x args pos else cOwn tb r x args kws) else none
  | .Attribute o m p => if kws.isEmpty = true then cMeth r o m p args pos else none
  | _ => none
theorem call_snd (S : Snd tb XR C k N r) (G0 : Gd tb XR C k N X c) (tk : Takes X W) {f : Expr} {args : List Expr} {kws : List Keyword} (h : cCall tb N c (r c) f args kws pos = some g) : PEg X XR W C (.Call f args kws pos) g := by
  unfold cCall at h
  split at h
  · split at h
    · rename_i h1
      split at h
      · rename_i hhot
        split at h
        · rename_i h2
          have e := List.isEmpty_iff.mp h2.2
          subst e
          exact xisa_snd G0 hhot h2.1 h
        · cases h
      rename_i hhot
      have hcold : c.hot = false := by simpa using hhot
      split at h
      · rename_i h2
        have e := List.isEmpty_iff.mp h2.2
        subst e
        exact gcd_snd S G0 hcold tk h1.1 h1.2 (by simpa using h2.1) h
      · split at h
        · rename_i h2
          have e := List.isEmpty_iff.mp h2.2
          subst e
          exact built_snd S G0 hcold tk h2.1 h
        · exact own_snd S G0 hcold tk h1.1 h1.2 h
    · cases h
  · split at h
    · rename_i h2
      have e := List.isEmpty_iff.mp h2
      subst e
      exact meth_snd S G0 tk h
    · cases h
  · cases h
/-! ### what is walked -/
def cIter (tb : Tb) (c : Ct) (r : Expr → Option G) (tg it : Expr) : Option G := match it with
  | .Call (.Name f p) args kws pos => if freeB tb c f = true ∧ kws.isEmpty = true ∧ (f = "range" ∨ f = "enumerate" ∨ f = "zip") then
      (match args with
      | [a] => if f = "range" then (r a).map .rng1 else if f = "enumerate" ∧ isTupE tg = true then (r a).map .enm else none
      | [a, b] => if f = "range" then two (r a) (r b) .rng2 else if f = "zip" ∧ isTupE tg = true then two (r a) (r b) .zip else none
      | _ => none)
      else r it
  | _ => r it
theorem iter_snd (S : Snd tb XR C k N r) (G0 : Gd tb XR C k N X c) (tk : Takes X W) {tg it : Expr} (h : cIter tb c (r c) tg it = some g) : PI X tg it (tI X.K XR W (evI C g)) ∧ ∀ x, foldedSetIterable it X.env x = pure x := by
  have dflt : r c it = some g → PI X tg it (tI X.K XR W (evI C g)) ∧ ∀ x, foldedSetIterable it X.env x = pure x := fun h => ⟨i_seq (S.pe X W c it g G0 tk h), fun x => fold_plain (S.pl c it g h) X.env x⟩
  unfold cIter at h
  split at h
  · rename_i f p args kws pos
    split at h
    · rename_i hc
      obtain ⟨hf, hk, _⟩ := hc
      have e := List.isEmpty_iff.mp hk
      subst e
      obtain ⟨hg, hm⟩ := free_ok G0 hf
      refine ⟨?_, fun x => rfl⟩
      split at h
      · rename_i a
        split at h
        · rename_i e
          subst e
          obtain ⟨ga, ha, rfl⟩ := Option.map_eq_some_iff.mp h
          exact i_rng1 hg hm (S.pe X W c a ga G0 tk ha) (star_ok (S.pl c a ga ha) _ _)
        · split at h
          · rename_i e
            obtain ⟨e, ht⟩ := e
            subst e
            obtain ⟨ga, ha, rfl⟩ := Option.map_eq_some_iff.mp h
            cases tg with
            | Tuple es kk tp => exact i_enm hg hm (S.pe X W c a ga G0 tk ha) (star_ok (S.pl c a ga ha) _ _)
            | _ => cases ht
          · cases h
      · rename_i a b
        split at h
        · rename_i e
          subst e
          obtain ⟨x, y, hx, hy, rfl⟩ := two_ok h
          exact i_rng2 hg hm (S.pe X W c a x G0 tk hx) (S.pe X W c b y G0 tk hy) (star_ok (S.pl c a x hx) _ _) (star_ok (S.pl c b y hy) _ _)
        · split at h
          · rename_i e
            obtain ⟨e, ht⟩ := e
            subst e
            obtain ⟨x, y, hx, hy, rfl⟩ := two_ok h
            cases tg with
            | Tuple es kk tp => exact i_zip hg hm (S.pe X W c a x G0 tk hx) (S.pe X W c b y G0 tk hy) (star_ok (S.pl c a x hx) _ _) (star_ok (S.pl c b y hy) _ _)
            | _ => cases ht
          · cases h
      · cases h
    · exact dflt h
  · exact dflt h
/-! ### targets -/
def cTgs (f : Expr → Option Tg) : List Expr → Option Tg
  | [] => some .nil
  | e :: es => two (f e) (cTgs f es) .cons
def cTg : Nat → List Str → Ct → Expr → Option Tg
  | 0, _, _, _ => none
  | n + 1, N, c, e => match e with
    | .Name x _ => if c.sc.names.lookup x = some .local ∨ (c.sc.names.lookup x = some .cell ∧ c.fnl.contains x = true) then (ixOf N x).map .nm else none
    | .Tuple es _ _ => if c.hot = false then (cTgs (cTg n N c) es).map .tp else none
    | _ => none
theorem tg_snd (G0 : Gd tb XR C k N X c) : ∀ (n : Nat) (e : Expr) (tg : Tg), cTg n N c e = some tg → PG X e (gT X.K tg) ∧ plainE e = true
  | 0, e, tg, h => by simp [cTg] at h
  | n + 1, e, tg, h => by
    have ih := tg_snd G0 n
    cases e with
    | Name x p =>
      simp only [cTg] at h
      split at h
      · rename_i hx
        obtain ⟨i, hi, rfl⟩ := Option.map_eq_some_iff.mp h
        have hN : X.N.Nodup := by rw [G0.nn]; exact G0.nd
        refine ⟨t_nm hN (by rw [G0.nn]; exact ixOf_ok hi) ?_ ?_, rfl⟩
        · show X.env.scope.names.lookup x = _ ∨ X.env.scope.names.lookup x = _
          rw [G0.sc]
          rcases hx with hx | hx
          · exact .inl hx
          · exact .inr hx.1
        · rcases hx with hx | hx
          · exact .inr (by rw [G0.sc]; exact hx)
          · exact .inl (G0.fnl x (by simpa using hx.2))
      · cases h
    | Tuple es kk p =>
      simp only [cTg] at h
      split at h
      case isFalse => cases h
      rename_i hcold
      obtain ⟨tt, ht, rfl⟩ := Option.map_eq_some_iff.mp h
      have go : ∀ (es : List Expr) (tt : Tg), cTgs (cTg n N c) es = some tt → PGs X es (gTs X.K tt) ∧ es.all plainE = true ∧ es.length = tt.len := by
        intro es
        induction es with
        | nil => intro tt h; simp only [cTgs, Option.some.injEq] at h; subst h; exact ⟨ts_nil, rfl, rfl⟩
        | cons e es ih2 =>
          intro tt h
          obtain ⟨a, b, ha, hb, rfl⟩ := two_ok (show two (cTg n N c e) (cTgs (cTg n N c) es) .cons = some tt from h)
          obtain ⟨i1, i2⟩ := ih e a ha
          obtain ⟨j1, j2, j3⟩ := ih2 b hb
          have pl : (e :: es).all plainE = true := by rw [List.all_cons, i2, j2]; rfl
          refine ⟨ts_cons i1 j1 ?_, pl, by simp [Tg.len, j3]⟩
          rw [(each_ok pl).2.2, (each_ok j2).2.2]
          rfl
      obtain ⟨g1, g2, g3⟩ := go es tt ht
      obtain ⟨a1, a2, _⟩ := each_ok (env := X.env) g2
      exact ⟨t_tp (G0.calm hcold) g1 (a1.trans g3) a2, rfl⟩
    | _ => simp [cTg] at h
/-! ### comprehensions -/
def ownOf (N : List Str) (scope : Scope) : List (Str × Nat) := scope.names.filterMap fun y => if y.2 = .local ∨ y.2 = .cell then (ixOf N y.1).map fun i => (y.1, i) else none
def blkCt (scope : Scope) (c : Ct) : Ct := ⟨relS scope c.sc, (scope.names.filter fun y => scope.names.lookup y.1 == some .cell).map (·.1), false, true⟩
theorem takes_f (X : Cx) : Takes X WF := fun u s' ⟨_, _, _, _, _, _, _, _, _, _, _, _, _, _, _, _, w⟩ => w.elim
theorem blk_gd (G0 : Gd tb XR C k N X c) (hcold : c.hot = false) {scope : Scope} (hk : scope.kind = .function) (s : Shared) (H : Hp) (A : Addr) (cl : List (Str × Addr)) (fp : List Addr) : Gd tb XR C k N (X.blk s H scope (compEnvC scope cl A X.env) fp) (blkCt scope c) where
  fx := G0.fx
  sc := by
    show relS scope X.env.scope = relS scope c.sc
    rw [G0.sc]
  fnl := fun x hx => by
    obtain ⟨y, hy, rfl⟩ := List.mem_map.mp hx
    exact (List.mem_filter.mp hy).2
  nn := G0.nn
  nd := G0.nd
  calm := fun _ => G0.calm hcold
  gd := G0.gd
  room := fun _ => G0.room hcold
  kind := hk
  hu := G0.hu
  hx := fun z => absurd z Bool.false_ne_true
  stk := fun z => absurd z.symm Bool.false_ne_true
def compG (tb : Tb) (N : List Str) (c : Ct) (r t : Rec) (elt : Expr) (gens : List Comprehension) (scope : Scope) : Option (List (Str × Nat) × Tg × G × G × G) := match gens with
  | [⟨tg, it, ifs, 0⟩] => if c.hot = false ∧ blkC N c.sc scope (ownOf N scope) = true then
      (match cTg 8 N (blkCt scope c) tg, cIter tb c (r c) tg it, r (blkCt scope c) elt with
      | some tt, some gi, some ge => if tt.slots.all (fun j => (ownOf N scope).any fun q => q.2 == j) = true then
          (match ifs with
          | [] => some (ownOf N scope, tt, gi, .cst (.bl true), ge)
          | [cnd] => (t (blkCt scope c) cnd).map fun gc => (ownOf N scope, tt, gi, gc, ge)
          | _ => none) else none
      | _, _, _ => none) else none
  | _ => none
/-- what a comprehension's parts are worth -/
structure CompOk (XR : XRT) (C : CallF) (X : Cx) (W : WX) (elt tg it : Expr) (ifs : List Expr) (scope : Scope) (q : List (Str × Nat) × Tg × G × G × G) : Prop where
  hi : PI X tg it (tI X.K XR W (evI C q.2.2.1))
  ok : BlkOk X.N X.env.scope scope q.1
  hg : ∀ (s : Shared) (H : Hp) (A : Addr) (cl : List (Str × Addr)) (fp : List Addr), PG (X.blk s H scope (compEnvC scope cl A X.env) fp) tg (gT X.K q.2.1)
  ht : ∀ (s : Shared) (H : Hp) (A : Addr) (cl : List (Str × Addr)) (fp : List Addr), PTs (X.blk s H scope (compEnvC scope cl A X.env) fp) ifs (tT X.K XR WF (ev C q.2.2.2.1))
  he : ∀ (s : Shared) (H : Hp) (A : Addr) (cl : List (Str × Addr)) (fp : List Addr), PE (X.blk s H scope (compEnvC scope cl A X.env) fp) elt (tE X.K XR WF false (ev C q.2.2.2.2))
  sl : ∀ j ∈ q.2.1.slots, j ∈ q.1.map (·.2)
  hs : ∀ x, foldedSetIterable it X.env x = pure x
theorem comp_ok (S : Snd tb XR C k N r) (T : SndT tb XR C k N t) (G0 : Gd tb XR C k N X c) (tk : Takes X W) {elt : Expr} {gens : List Comprehension} {scope : Scope} {q : List (Str × Nat) × Tg × G × G × G} (h : compG tb N c r t elt gens scope = some q) :
    c.hot = false ∧ ∃ tg it ifs, gens = [⟨tg, it, ifs, 0⟩] ∧ CompOk XR C X W elt tg it ifs scope q := by
  unfold compG at h
  split at h
  · rename_i tg it ifs
    split at h
    · rename_i hb
      obtain ⟨hcold, hb⟩ := hb
      refine ⟨hcold, ?_⟩
      split at h
      · rename_i tt gi ge h1 h2 h3
        split at h
        · rename_i hsl
          have bok : BlkOk X.N X.env.scope scope (ownOf N scope) := blkOk_by (by rw [G0.nn, G0.sc]; exact hb)
          have gd := fun s H A cl fp => blk_gd G0 hcold bok.kind s H A cl fp
          obtain ⟨i1, i2⟩ := iter_snd S G0 tk h2
          have sl : ∀ j ∈ tt.slots, j ∈ (ownOf N scope).map (·.2) := fun j hj => by
            have := List.all_eq_true.mp hsl j hj
            obtain ⟨q, hq, e⟩ := List.any_eq_true.mp this
            exact List.mem_map.mpr ⟨q, hq, by simpa using e⟩
          have hg := fun s H A cl fp => (tg_snd (gd s H A cl fp) 8 tg tt h1).1
          have he := fun s H A cl fp => S.pe _ WF _ elt ge (gd s H A cl fp) (takes_f _) h3
          split at h
          · cases h
            exact ⟨tg, it, [], rfl, i1, bok, hg, fun s H A cl fp => ts_yes, he, sl, i2⟩
          · rename_i cnd
            obtain ⟨gc, hc, rfl⟩ := Option.map_eq_some_iff.mp h
            exact ⟨tg, it, [cnd], rfl, i1, bok, hg, fun s H A cl fp => pts_one (T.pt _ WF _ cnd gc (gd s H A cl fp) (takes_f _) hc), he, sl, i2⟩
          · cases h
        · cases h
      · cases h
    · cases h
  · cases h
def cComp (tb : Tb) (N : List Str) (c : Ct) (r t : Rec) (elt : Expr) (gens : List Comprehension) (scope : Scope) (p : Pos) : Option G :=
  (compG tb N c r t elt gens scope).map fun q => alcIf tb p (.comp (q.1.map (·.2)) q.2.1 q.2.2.1 q.2.2.2.1 q.2.2.2.2)
theorem comp_snd (S : Snd tb XR C k N r) (T : SndT tb XR C k N t) (G0 : Gd tb XR C k N X c) (tk : Takes X W) {elt : Expr} {gens : List Comprehension} {scope : Scope} (h : cComp tb N c r t elt gens scope pos = some g) : PEg X XR W C (.ListComp elt gens scope pos) g := by
  obtain ⟨q, hq, rfl⟩ := Option.map_eq_some_iff.mp h
  obtain ⟨hcold, tg, it, ifs, rfl, K⟩ := comp_ok S T G0 tk hq
  have hN : X.N.Nodup := by rw [G0.nn]; exact G0.nd
  exact alc_if pos (g_lc (G0.calm hcold) hN K.hi K.ok K.hg K.ht K.he K.sl K.hs)
/-! ### the whole -/
def stepE (tb : Tb) (N : List Str) (r t : Rec) (c : Ct) (e : Expr) : Option G := match e with
  | .Name x _ => cName tb N c.sc x
  | .Constant x _ _ => cConst x
  | .BinOp a o b p => cBin tb (r c) a o b p
  | .UnaryOp o a _ => cUn (r c) o a
  | .BoolOp o es _ => cBool (r c) o es
  | .Compare a os bs _ => cCmp (r c) a os bs
  | .IfExp a b d _ => cIf (r c) (t c) a b d
  | .Tuple es _ _ => (cArgs (r c) es).map .tup
  | .List es p => (cArgs (r c) es).map fun g => alcIf tb p (.lst g)
  | .Dict ks vs p => (cDct (r c) ks vs).map fun g => if tb.frz.contains p = true then .frz g else g
  | .Subscript a i p => cSub tb (r c) a i p
  | .Call f args kws p => cCall tb N c (r c) f args kws p
  | .Attribute e f _ => cXfld N c e f
  | .ListComp elt gens scope p => cComp tb N c r t elt gens scope p
  | _ => none
def stepT (r t : Rec) (c : Ct) (e : Expr) : Option G := match e with
  | .UnaryOp .Not a _ => (t c a).map .not
  | .BoolOp o es _ => cBool (t c) o es
  | .Compare a os bs _ => cCmp (r c) a os bs
  | .IfExp _ _ _ _ => none
  | e => r c e
def cET (tb : Tb) (N : List Str) : Nat → Rec × Rec
  | 0 => (fun _ _ => none, fun _ _ => none)
  | n + 1 => (stepE tb N (cET tb N n).1 (cET tb N n).2, stepT (cET tb N n).1 (cET tb N n).2)
theorem stepE_snd (S : Snd tb XR C k N r) (T : SndT tb XR C k N t) : Snd tb XR C k N (stepE tb N r t) where
  pe := fun X W c e g G0 tk h => by
    unfold stepE at h
    split at h
    · exact name_ok G0 h
    · exact const_ok h
    · exact bin_snd S G0 tk h
    · exact un_snd S G0 tk h
    · exact bool_snd S G0 tk h
    · exact (cmp_snd S G0 tk h).1
    · exact if_snd S T G0 tk h
    · obtain ⟨ga, ha, rfl⟩ := Option.map_eq_some_iff.mp h
      exact weak (g_tup (args_snd S G0 tk ha).1) false
    · obtain ⟨ga, ha, rfl⟩ := Option.map_eq_some_iff.mp h
      exact alc_if _ (g_lst (args_snd S G0 tk ha).1)
    · obtain ⟨g0, h0, rfl⟩ := Option.map_eq_some_iff.mp h
      split
      · exact g_frz (dct_snd S G0 tk h0)
      · exact dct_snd S G0 tk h0
    · exact sub_snd S G0 tk h
    · exact call_snd S G0 tk h
    · exact xfld_snd G0 h
    · exact comp_snd S T G0 tk h
    · cases h
  pl := fun c e g h => by
    cases e <;> first | rfl | (simp [stepE] at h)
theorem stepT_snd (S : Snd tb XR C k N r) (T : SndT tb XR C k N t) : SndT tb XR C k N (stepT r t) where
  pt := fun X W c e g G0 tk h => by
    unfold stepT at h
    split at h
    · obtain ⟨ga, ha, rfl⟩ := Option.map_eq_some_iff.mp h
      exact t_not (T.pt X W c _ ga G0 tk ha)
    · exact PW.pt (boolT_snd T G0 tk h)
    · exact (cmp_snd S G0 tk h).2
    · cases h
    · rename_i n1 n2 n3 n4
      refine t_val (S.pe X W c e g G0 tk h) (truth_plain ?_ X.env)
      cases e with
      | UnaryOp o a p => cases o <;> first | rfl | exact absurd rfl (n1 a p)
      | BoolOp o es p => exact absurd rfl (n2 o es p)
      | Compare a os bs p => exact absurd rfl (n3 a os bs p)
      | IfExp a b d p => exact absurd rfl (n4 a b d p)
      | _ => rfl
theorem cET_snd : ∀ n, Snd tb XR C k N (cET tb N n).1 ∧ SndT tb XR C k N (cET tb N n).2
  | 0 => ⟨⟨fun X W c e g _ _ h => (by cases h), fun c e g h => (by cases h)⟩, ⟨fun X W c e g _ _ h => (by cases h)⟩⟩
  | n + 1 => ⟨stepE_snd (cET_snd n).1 (cET_snd n).2, stepT_snd (cET_snd n).1 (cET_snd n).2⟩
end
end GV

set_option linter.all false
set_option maxHeartbeats 2000000
set_option maxRecDepth 100000
/-! GV, part s: statements; defs; the module. -/
namespace GV
open PySem PySem.Spec PyProof.Rows L2
variable {tb : Tb} {XR : XRT} {C : CallF} {k : Nat} {N : List Str}
section
variable {X : Cx} {W : WX} {c : Ct} {pos : Pos} {r t : Rec}
abbrev RecS := Ct → List Stmt → Option St
structure SndS (tb : Tb) (XR : XRT) (C : CallF) (k : Nat) (N : List Str) (r : RecS) : Prop where
  ps : ∀ (X : Cx) (W : WX) (c : Ct) (b : List Stmt) (s : St), Gd tb XR C k N X c → Takes X W → PassesOwn (model X.prog X.w) X.A X.env X.xe → r c b = some s → PSs X b (tS X.K XR W (evS C s))
/-- does the name take the new list at once -/
def swB (c : Ct) (y : Str) (py : Pos) (scope : Scope) (p : Pos) : Bool :=
  c.sc.names.lookup y == some .local && py.line == p.line && !(scope.names.any fun (n, k) => n == y && (k == .local || k == .cell))
theorem sw_ok (G0 : Gd tb XR C k N X c) {y : Str} {py p : Pos} {elt : Expr} {gens : List Comprehension} {scope : Scope} {l : Nat} : swapsWith (.ListComp elt gens scope p) (some (.Name y py)) l X.env = pure (swB c y py scope p) := by
  have hb : X.env.blockKind = .function := by unfold Env.blockKind; rw [G0.sc, G0.kind]; rfl
  have hk : X.env.kindOf y = c.sc.names.lookup y := by unfold Env.kindOf; rw [G0.sc]
  unfold swapsWith swB
  simp only [hb, hk]
  rfl
def setG (tb : Tb) (p : Pos) (q : List (Str × Nat) × Tg × G × G × G) : G := if tb.alc.contains p = true then .alc (.comp (q.1.map (·.2)) q.2.1 q.2.2.1 q.2.2.2.1 q.2.2.2.2) else .comp (q.1.map (·.2)) q.2.1 q.2.2.1 q.2.2.2.1 q.2.2.2.2
def cSet (tb : Tb) (N : List Str) (c : Ct) (r t : Rec) (y : Str) (py : Pos) (e : Expr) : Option St := match e with
  | .ListComp elt gens scope p => if swB c y py scope p = true then two (ixOf N y) (compG tb N c r t elt gens scope) (fun i q => .set i (setG tb p q)) else two (cTg 8 N c (.Name y py)) (r c e) .unp
  | e => two (cTg 8 N c (.Name y py)) (r c e) .unp
theorem set_snd (S : Snd tb XR C k N r) (T : SndT tb XR C k N t) (G0 : Gd tb XR C k N X c) (tk : Takes X W) {y : Str} {py : Pos} {e : Expr} {s : St} (h : cSet tb N c r t y py e = some s) : PS X (.Assign [.Name y py] e pos) (tS X.K XR W (evS C s)) := by
  have plain : ∀ s, two (cTg 8 N c (.Name y py)) (r c e) .unp = some s → swapsWithSole [.Name y py] e pos.line X.env = pure false → PS X (.Assign [.Name y py] e pos) (tS X.K XR W (evS C s)) := fun s h hs => by
    obtain ⟨tt, g, h1, h2, rfl⟩ := two_ok h
    exact s_unp (tg_snd G0 8 _ tt h1).1 (S.pe X W c e g G0 tk h2) hs (sw_target rfl rfl X.env) rfl
  unfold cSet at h
  split at h
  · rename_i elt gens scope p
    split at h
    · rename_i hsw
      obtain ⟨i, q, hi, hq, rfl⟩ := two_ok h
      obtain ⟨hcold, tg, it, ifs, rfl, K⟩ := comp_ok S T G0 tk hq
      have hN : X.N.Nodup := by rw [G0.nn]; exact G0.nd
      have hy : X.env.scope.names.lookup y = some .local := by
        rw [G0.sc]
        simp only [swB, Bool.and_eq_true] at hsw
        simpa using hsw.1.1
      have := s_setLc (XR := XR) (W := W) (C := C) (spos := pos) (py := py) (pos := p) (a := tb.alc.contains p) (G0.calm hcold) hN (by rw [G0.nn]; exact ixOf_ok hi) hy (by rw [sw_ok G0, hsw]) K.hi K.ok K.hg K.ht K.he K.sl K.hs
      unfold setG
      exact this
    · rename_i hsw
      refine plain s h ?_
      have e1 : swapsWithSole [.Name y py] (.ListComp elt gens scope p) pos.line X.env = swapsWith (.ListComp elt gens scope p) (some (.Name y py)) pos.line X.env := rfl
      rw [e1, sw_ok G0]
      simp only [Bool.not_eq_true] at hsw
      rw [hsw]
  · rename_i hn
    refine plain s h (sole_none ?_ _ _)
    obtain ⟨tt, g, h1, h2, _⟩ := two_ok h
    have pp := S.pl c e g h2
    cases e with
    | ListComp elt gens scope p => exact absurd rfl (hn elt gens scope p)
    | SetComp elt gens scope p => cases pp
    | DictComp a b gens scope p => cases pp
    | _ => rfl
/-- several targets -/
def namesOf : List Expr → Option (List Str)
  | [] => some []
  | .Name x _ :: es => (namesOf es).map (x :: ·)
  | _ => none
def cPar (N : List Str) (c : Ct) (r : Rec) (ts : List Expr) (vs : List Expr) (ns : List Str) : Option St := match ts, vs, ns with
  | [.Name x _, .Name y _], [_, _], [x', y'] => if x = x' ∧ y = y' ∧ c.sc.names.lookup x = some .local ∧ c.sc.names.lookup y = some .local then
      (match ixOf N x, ixOf N y, cArgs (r c) vs with
      | some i, some j, some g => if i ≠ j then some (.par [i, j] g) else none
      | _, _, _ => none) else none
  | [.Name x _, .Name y _, .Name z _], [_, _, _], [x', y', z'] => if (x = x' ∧ y = y' ∧ z = z') ∧ c.sc.names.lookup x = some .local ∧ c.sc.names.lookup y = some .local ∧ c.sc.names.lookup z = some .local then
      (match ixOf N x, ixOf N y, ixOf N z, cArgs (r c) vs with
      | some i, some j, some l, some g => if i ≠ j ∧ i ≠ l ∧ j ≠ l then some (.par [i, j, l] g) else none
      | _, _, _, _ => none) else none
  | _, _, _ => none
theorem par_snd (S : Snd tb XR C k N r) (G0 : Gd tb XR C k N X c) (hcold : c.hot = false) (tk : Takes X W) {ts vs : List Expr} {ns : List Str} {kt k2 : Nat} {p p2 : Pos} {s : St} (hw : swappedStores [.Tuple ts kt p] (.Tuple vs k2 p2) X.env = pure (some ns))
    (h : cPar N c r ts vs ns = some s) : PS X (.Assign [.Tuple ts kt p] (.Tuple vs k2 p2) pos) (tS X.K XR W (evS C s)) := by
  have hN : X.N.Nodup := by rw [G0.nn]; exact G0.nd
  have lc : ∀ {x : Str}, c.sc.names.lookup x = some .local → X.env.scope.names.lookup x = some .local := fun h => by rw [G0.sc]; exact h
  have hi : ∀ {x : Str} {i : Nat}, ixOf N x = some i → X.N[i]? = some x := fun h => by rw [G0.nn]; exact ixOf_ok h
  unfold cPar at h
  split at h
  · split at h
    · rename_i hc
      obtain ⟨rfl, rfl, l1, l2⟩ := hc
      split at h
      · rename_i i j g h1 h2 h3
        split at h
        · rename_i hij
          cases h
          exact s_par2 (G0.calm hcold) hN (hi h1) (hi h2) hij (lc l1) (lc l2) (args_snd S G0 tk h3).1 hw rfl
        · cases h
      · cases h
    · cases h
  · split at h
    · rename_i hc
      obtain ⟨⟨rfl, rfl, rfl⟩, l1, l2, l3⟩ := hc
      split at h
      · rename_i i j l g h1 h2 h3 h4
        split at h
        · rename_i hij
          cases h
          exact s_par3 (G0.calm hcold) hN (hi h1) (hi h2) (hi h3) hij.1 hij.2.1 hij.2.2 (lc l1) (lc l2) (lc l3) (args_snd S G0 tk h4).1 hw rfl
        · cases h
      · cases h
    · cases h
  · cases h
def cAsg (tb : Tb) (N : List Str) (c : Ct) (r t : Rec) (tg e : Expr) : Option St := match tg with
  | .Name y py => cSet tb N c r t y py e
  | .Subscript o i _ => (match r c o with
    | some x => two (r c i) (r c e) (.setx x)
    | none => none)
  | .Tuple ts _ _ => (match e with
    | .Tuple vs _ _ => (match parS c.sc ts vs with
      | some (some ns) => cPar N c r ts vs ns
      | some none => two (cTg 8 N c tg) (r c e) .unp
      | none => none)
    | e => two (cTg 8 N c tg) (r c e) .unp)
  | _ => none
theorem asg_snd (S : Snd tb XR C k N r) (T : SndT tb XR C k N t) (G0 : Gd tb XR C k N X c) (hcold : c.hot = false) (tk : Takes X W) {tg e : Expr} {s : St} (h : cAsg tb N c r t tg e = some s) : PS X (.Assign [tg] e pos) (tS X.K XR W (evS C s)) := by
  unfold cAsg at h
  split at h
  · exact set_snd S T G0 tk h
  · rename_i o i p
    split at h
    · rename_i x hx
      obtain ⟨y, z, hy, hz, rfl⟩ := two_ok h
      exact s_setx G0.hu (S.pe X W c o x G0 tk hx) (S.pe X W c i y G0 tk hy) (S.pe X W c e z G0 tk hz) (sole_tgt (fun _ _ q => by cases q) _ _) (sw_target rfl rfl X.env) (sub_store (S.pl c i y hy) X.env)
    · cases h
  · rename_i ts kt p
    split at h
    · rename_i vs k2 p2
      split at h
      · rename_i ns hp
        exact par_snd S G0 hcold tk (sw_par (by rw [G0.sc]; exact G0.kind) (by rw [G0.sc]; exact hp)) h
      · rename_i hp
        obtain ⟨tt, g, h1, h2, rfl⟩ := two_ok h
        exact s_unp (tg_snd G0 8 _ tt h1).1 (S.pe X W c _ g G0 tk h2) (sole_tgt (fun _ _ q => by cases q) _ _) (sw_par (by rw [G0.sc]; exact G0.kind) (by rw [G0.sc]; exact hp)) rfl
      · cases h
    · rename_i hn
      obtain ⟨tt, g, h1, h2, rfl⟩ := two_ok h
      have ht : isTupE e = false := by
        cases e with
        | Tuple vs k2 p2 => exact absurd rfl (hn vs k2 p2)
        | _ => rfl
      exact s_unp (tg_snd G0 8 _ tt h1).1 (S.pe X W c _ g G0 tk h2) (sole_tgt (fun _ _ q => by cases q) _ _) (sw_value ht X.env) rfl
  · cases h
/-! ### clauses -/
def hotCt (c : Ct) : Ct := { c with hot := true }
def cHds (tb : Tb) (N : List Str) (c : Ct) (b : RecS) : List ExceptHandler → Option St
  | [] => some .hend
  | .ExceptHandler (some (.Name x _)) nm (s0 :: suite) _ :: r => if okName x = true ∧ glB c.sc x = true ∧ tb.defs.length ≤ 1000000 then
      (match clsO tb x, nm with
      | some m, none => two (b (hotCt c) (s0 :: suite)) (cHds tb N c b r) (.hnd m none)
      | some m, some n => if c.sc.names.lookup n = some .local then (match ixOf N n with
          | some j => two (b (hotCt c) (s0 :: suite)) (cHds tb N c b r) (.hnd m (some j))
          | none => none) else none
      | none, _ => none) else none
  | _ => none
/-- what is known in a clause -/
theorem hot_gd (G0 : Gd tb XR C k N X c) (few : tb.defs.length ≤ 1000000) {a : Addr} {oe : Obj} {pn : List (Addr × Obj)} {n : Nat} {v : Option D} {Cc : Addr} {d : Option Addr} {fs : List (Str × V)}
    (hz : Zc (.ref Cc) d oe) (hf : ∃ vs, oe.data = .fields vs) (hn : n ∈ tb.cls) (hc : cad X.K n = some Cc) (fit : XFit n v d fs) :
    Gd tb XR (xC (xR C n v) n v a d fs) k N (X.suite a ((a, oe) :: pn)) (hotCt c) where
  fx := {
    fn := fun i x ps h => by
      obtain ⟨f, fd, m, kp, F, kw, df, b⟩ := G0.fx.fn i x ps h
      have hi : i < 1000000 := Nat.lt_of_lt_of_le (List.getElem?_eq_some_iff.mp h).1 few
      have e : spG X.K XR (xC (xR C n v) n v a d fs) i = spG X.K XR C i := by
        have : (xC (xR C n v) n v a d fs) i = C i := by
          funext ds S
          have h0 : ¬ (i = XR0) := by show ¬ (i = 1000000); omega
          simp only [xC, xR, if_pos hi, if_neg h0]
        unfold spG
        rw [this]
      exact ⟨f, fd, m, kp, (show FnG _ _ _ _ _ _ _ _ _ (spG X.K XR (xC (xR C n v) n v a d fs) i) from by rw [e]; exact F), kw, df, b⟩
    cst := G0.fx.cst
    free := G0.fx.free
    gcd := G0.fx.gcd
    xr := G0.fx.xr
    cls := G0.fx.cls
    cnm := G0.fx.cnm
    ini := G0.fx.ini
    prg := G0.fx.prg
    sm := G0.fx.sm }
  sc := G0.sc
  fnl := G0.fnl
  nn := G0.nn
  nd := G0.nd
  calm := fun z => absurd z.symm Bool.false_ne_true
  gd := G0.gd
  room := fun z => absurd z.symm Bool.false_ne_true
  kind := G0.kind
  hu := G0.hu
  hx := fun _ => ⟨X, a, oe, pn, _, n, v, Cc, d, fs, rfl, rfl, hz, hf, hn, hc, fit⟩
  stk := fun z => G0.stk z
theorem tr_gd (G0 : Gd tb XR C k N X c) (hcold : c.hot = false) {pn : List (Addr × Obj)} {xe : Value → Shared → Prop} : Gd tb XR C k N (X.tr pn xe) c where
  fx := G0.fx
  sc := G0.sc
  fnl := G0.fnl
  nn := G0.nn
  nd := G0.nd
  calm := G0.calm
  gd := G0.gd
  room := G0.room
  kind := G0.kind
  hu := G0.hu
  hx := fun z => absurd (hcold.symm.trans z) Bool.false_ne_true
  stk := fun z => G0.stk z
theorem hds_snd {b : RecS} (B : ∀ C, SndS tb XR C k N b) (G0 : Gd tb XR C k N X c) : ∀ {hs : List ExceptHandler} {s : St}, cHds tb N c b hs = some s → HdOk X tb.cls C hs s
  | [], s, h => by simp only [cHds, Option.some.injEq] at h; subst h; exact .nil
  | hd :: hs, s, h => by
    unfold cHds at h
    split at h
    · rename_i h1; cases h1
    · rename_i x np nm s0 suite pos' r h1
      cases h1
      split at h
      · rename_i hc
        obtain ⟨h1, h2, h3⟩ := hc
        have go : ∀ {m : Nat} {i : Option Nat} {g : St} {r' : St} {nm : Option Str}, clsO tb x = some m → b (hotCt c) (s0 :: suite) = some g → cHds tb N c b hs = some r' →
            ((nm = none ∧ i = none) ∨ ∃ n j, nm = some n ∧ i = some j ∧ X.N[j]? = some n ∧ X.env.kindOf n = some .local) → HdOk X tb.cls C (.ExceptHandler (some (.Name x np)) nm (s0 :: suite) pos' :: hs) (.hnd m i g r') := by
          intro m i g r' nm hm hg hr hi
          obtain ⟨hm1, rfl⟩ := clsO_ok hm
          obtain ⟨D, K0⟩ := G0.fx.cls.one m hm1
          refine .cons hm1 K0.ad ⟨gl_ok G0 h2, (ok_dbg h1).1, .inl (G0.fx.cnm m hm1 D K0.ad)⟩ hi (fun a oe n v Cc d fs pn hz hf hn hc fit => ?_) (hds_snd B G0 hr)
          have := (B _).ps _ WF (hotCt c) (s0 :: suite) g (hot_gd G0 h3 (a := a) (pn := pn) hz hf hn hc fit) (takes_f _) PassesOwn.never hg
          have e := G0.fx.xr
          rw [e] at this
          exact this
        split at h
        · rename_i m hm
          obtain ⟨g, r', hg, hr, rfl⟩ := two_ok h
          exact go hm hg hr (.inl ⟨rfl, rfl⟩)
        · rename_i m n hm
          split at h
          · rename_i hl
            split at h
            · rename_i j hj
              obtain ⟨g, r', hg, hr, rfl⟩ := two_ok h
              exact go hm hg hr (.inr ⟨n, j, rfl, rfl, by rw [G0.nn]; exact ixOf_ok hj, by unfold Env.kindOf; rw [G0.sc]; exact hl⟩)
            · cases h
          · cases h
        · cases h
      · cases h
    · cases h
/-! ### the whole -/
def cStm0 (tb : Tb) (N : List Str) (c : Ct) (r t : Rec) (b : RecS) (st : Stmt) : Option St := match st with
  | .Pass _ => some .skip
  | .Continue _ => some .cont
  | .Return none _ => some .retN
  | .Return (some e) _ => (r c e).map .ret
  | .Expr (.Constant (.str _) _ _) _ => some .skip
  | .Expr e _ => if noComp e = true then (r c e).map .ex else none
  | .Assign [tg] e _ => if c.hot = false then cAsg tb N c r t tg e else none
  | .Raise (some (.Call (.Name x _) [] [] _)) none _ => if c.hot = false ∧ okName x = true ∧ glB c.sc x = true then
      (match clsO tb x with
      | some n => if fldNo n = 0 then some (.raise n none) else none
      | none => none) else none
  | .Raise (some (.Call (.Name x _) [e] [] _)) none _ => if c.hot = false ∧ okName x = true ∧ glB c.sc x = true ∧ plainE e = true then
      (match clsO tb x with
      | some n => if n ∈ tb.ini then (r c e).map fun g => .raise n (some g) else none
      | none => none) else none
  | .Try body (h0 :: hs) [] [] _ => if c.hot = false ∧ c.blk = false then two (b c body) (cHds tb N c b (h0 :: hs)) .try_ else none
  | .If a x y _ => (match t c a with
    | some g => two (b c x) (b c y) (.ite g)
    | none => none)
  | .While a x [] _ => two (t c a) (b c x) .whl
  | .For tg it x [] _ => if c.hot = false then (match cTg 8 N c tg with
    | some tt => two (cIter tb c (r c) tg it) (b c x) (.for_ tt)
    | none => none) else none
  | _ => none
/-- a statement for which there is no word stays open -/
def cStm (tb : Tb) (N : List Str) (c : Ct) (r t : Rec) (b : RecS) (st : Stmt) : Option St := match cStm0 tb N c r t b st with
  | some s => some s
  | none => some .bad
theorem stm_snd0 {b : RecS} (S : Snd tb XR C k N r) (T : SndT tb XR C k N t) (B : ∀ C, SndS tb XR C k N b) (G0 : Gd tb XR C k N X c) (tk : Takes X W) (hp : PassesOwn (model X.prog X.w) X.A X.env X.xe) {st : Stmt} {s : St} (h : cStm0 tb N c r t b st = some s) :
    PS X st (tS X.K XR W (evS C s)) := by
  unfold cStm0 at h
  split at h
  · cases h; exact s_skip
  · cases h; exact s_cont
  · cases h; exact s_retN
  · obtain ⟨g, hg, rfl⟩ := Option.map_eq_some_iff.mp h
    exact s_ret (S.pe X W c _ g G0 tk hg)
  · cases h; exact s_doc
  · split at h
    · rename_i hn
      obtain ⟨g, hg, rfl⟩ := Option.map_eq_some_iff.mp h
      exact s_ex (S.pe X W c _ g G0 tk hg) (swaps_none hn _ _ _)
    · cases h
  · split at h
    · rename_i hcold
      exact asg_snd S T G0 hcold tk h
    · cases h
  · split at h
    · rename_i hc
      obtain ⟨hcold, h1, h2⟩ := hc
      split at h
      · rename_i n hn
        split at h
        · rename_i h0
          cases h
          obtain ⟨hm, rfl⟩ := clsO_ok hn
          obtain ⟨D, K0⟩ := G0.fx.cls.one n hm
          have e := G0.fx.xr
          subst e
          exact s_raise0 (G0.calm hcold) tk hm K0 h0 (G0.fx.cnm n hm D K0.ad) (gl_ok G0 h2) (ok_dbg h1).1
        · cases h
      · cases h
    · cases h
  · split at h
    · rename_i hc
      obtain ⟨hcold, h1, h2, h3⟩ := hc
      split at h
      · rename_i n hn
        split at h
        · rename_i h0
          obtain ⟨g, hgg, rfl⟩ := Option.map_eq_some_iff.mp h
          obtain ⟨hm, rfl⟩ := clsO_ok hn
          obtain ⟨D, K0⟩ := G0.fx.cls.one n hm
          obtain ⟨_, C', hC', IC⟩ := G0.fx.ini n h0
          have e := G0.fx.xr
          subst e
          have e2 : C' = D := Option.some.inj (hC'.symm.trans K0.ad)
          subst e2
          exact s_raise1 (G0.calm hcold) tk hm K0 IC (G0.fx.prg fun z => by rw [z] at h0; cases h0) (G0.room hcold) (G0.fx.cnm n hm C' K0.ad) (gl_ok G0 h2) (ok_dbg h1).1 (S.pe X W c _ g G0 tk hgg) (star_ok h3 [] _)
        · cases h
      · cases h
    · cases h
  · split at h
    · rename_i hc
      obtain ⟨hcold, hblk⟩ := hc
      obtain ⟨x, y, hx, hy, rfl⟩ := two_ok h
      have hh := hds_snd B G0 hy
      obtain ⟨s1, s2⟩ := G0.stk hblk
      have e := G0.fx.xr
      have KS := G0.fx.cls
      subst e
      exact s_try KS s1 s2 (by rw [G0.nn]; exact G0.nd) tk (fun W' pn xe tk' hp' => (B C).ps _ W' c _ x (tr_gd G0 hcold) tk' hp' hx) hh
    · cases h
  · split at h
    · rename_i g hg
      obtain ⟨x, y, hx, hy, rfl⟩ := two_ok h
      exact s_if (T.pt X W c _ g G0 tk hg) ((B C).ps X W c _ x G0 tk hp hx) ((B C).ps X W c _ y G0 tk hp hy)
    · cases h
  · obtain ⟨g, y, hg, hy, rfl⟩ := two_ok h
    exact s_while hp (T.pt X W c _ g G0 tk hg) ((B C).ps X W c _ y G0 tk hp hy)
  · split at h
    case isFalse => cases h
    rename_i hcold
    split at h
    · rename_i tt ht
      obtain ⟨g, y, hg, hy, rfl⟩ := two_ok h
      obtain ⟨i1, i2⟩ := iter_snd S G0 tk hg
      exact s_for hp (G0.calm hcold) i1 (tg_snd G0 8 _ tt ht).1 ((B C).ps X W c _ y G0 tk hp hy) i2
    · cases h
  · cases h
theorem stm_snd {b : RecS} (S : Snd tb XR C k N r) (T : SndT tb XR C k N t) (B : ∀ C, SndS tb XR C k N b) (G0 : Gd tb XR C k N X c) (tk : Takes X W) (hp : PassesOwn (model X.prog X.w) X.A X.env X.xe) {st : Stmt} {s : St} (h : cStm tb N c r t b st = some s) :
    PS X st (tS X.K XR W (evS C s)) := by
  unfold cStm at h
  cases q : cStm0 tb N c r t b st with
  | none => rw [q] at h; cases h; exact s_bad
  | some s' => rw [q] at h; cases h; exact stm_snd0 S T B G0 tk hp q
def cBlk (f : Stmt → Option St) : List Stmt → Option St
  | [] => some .skip
  | [st] => f st
  | st :: st2 :: r => two (f st) (cBlk f (st2 :: r)) .seq
def cSs (tb : Tb) (N : List Str) (m : Nat) : Nat → RecS
  | 0 => fun _ _ => none
  | n + 1 => fun c b => cBlk (cStm tb N c (cET tb N m).1 (cET tb N m).2 (cSs tb N m n)) b
theorem blk_snd {f : Stmt → Option St} (hf : ∀ st s, f st = some s → PS X st (tS X.K XR W (evS C s))) : ∀ {b : List Stmt} {s : St}, cBlk f b = some s → PSs X b (tS X.K XR W (evS C s))
  | [], s, h => by simp only [cBlk, Option.some.injEq] at h; subst h; exact ss_nil
  | [st], s, h => ss_one (hf st s h)
  | st :: st2 :: r, s, h => by
    obtain ⟨x, y, hx, hy, rfl⟩ := two_ok (show two (f st) (cBlk f (st2 :: r)) .seq = some s from h)
    exact ss_cons (hf st x hx) (blk_snd hf hy)
theorem cSs_snd (m : Nat) : ∀ n, ∀ C, SndS tb XR C k N (cSs tb N m n)
  | 0, C => ⟨fun X W c b s _ _ _ h => (by cases h)⟩
  | n + 1, C => ⟨fun X W c b s G0 tk hp h => blk_snd (fun st s hs => stm_snd (cET_snd m).1 (cET_snd m).2 (cSs_snd m n) G0 tk hp hs) h⟩
end

/-! ### defs -/
/-- a def of the text, with its names -/
structure Dt where
  name : Str
  qual : Str
  params : Arguments
  body : List Stmt
  scope : Scope
  N : List Str
  ps : List Str
  keep : Bool
  dfl : List D := []
def topCt (sc : Scope) : Ct := ⟨sc, (sc.names.filter fun y => y.2 == .cell).map (·.1), false, false⟩
def dfOf (tb : Tb) (d : Dt) : Option Df := (cSs tb d.N 40 20 (topCt d.scope) d.body).map fun s => ⟨d.N.length, d.ps.length, d.keep, s⟩
theorem passes_body {P : Program} {w : World} {K : PySem.W.Frag} {mg : Str → Option Value} {base : Heap} {N : List Str} {qual : Str} {scope : Scope} {f : Addr} {cd : Value} {A : Around} {out : List Env} {s : Shared} {H : Hp} {E : XK} :
    PassesOwn (model P w) (bodyX P w K mg base N qual scope f cd A out s H E).A (bodyX P w K mg base N qual scope f cd A out s H E).env (bodyX P w K mg base N qual scope f cd A out s H E).xe := passes_of rfl
/-- what a law's end knows of the module's defs -/
structure Md (tb : Tb) (T : List Df) (ds : List Dt) (K : PySem.W.Frag) (mg : Str → Option Value) : Prop where
  cst : ∀ x d, tb.cst.lookup x = some d → ∃ v u, mg x = some u ∧ RelV v u ∧ ∀ H ι, Rp K H ι v d
  free : ∀ x, x ∈ tb.free → mg x = none
  gcd : ∀ x, x ∈ tb.gcd → mg x = some (.builtin "math.gcd")
  cls : ClsKs K tb.cls
  cnm : ∀ n ∈ tb.cls, ∀ D, cad K n = some D → mg (clsNm n) = some (.ref D)
  ini : ∀ n ∈ tb.ini, n ∈ tb.cls ∧ ∃ C, cad K n = some C ∧ InitOk K C (fldNm (fldNo n))
  sm : SmOk K
  names : tb.defs = ds.map fun d => (d.name, d.ps)
  code : mapO (dfOf tb) ds = some T
  sc : ∀ d ∈ ds, FnScope d.N d.ps d.scope
  at_ : ∀ i d, ds[i]? = some d → ∃ f fd, mg d.name = some (.ref f) ∧ DefAt K d.name d.qual d.params d.body d.scope f fd ∧ (∀ ks is, (i, ks, is) ∈ tb.kws → KwTo fd d.ps ks is) ∧ (∀ n ds, (i, n, ds) ∈ tb.dfl → DfTo K fd d.ps ds) ∧ Binds K fd d.ps []
theorem mapO_at {α β : Type} {f : α → Option β} : ∀ {as : List α} {bs : List β} {i : Nat} {a : α}, mapO f as = some bs → as[i]? = some a → ∃ b, bs[i]? = some b ∧ f a = some b
  | [], bs, i, a, h, ha => by simp at ha
  | x :: as, bs, i, a, h, ha => by
    obtain ⟨b, cs, h1, h2, rfl⟩ := mapO_cons h
    cases i with
    | zero => simp at ha; subst ha; exact ⟨b, rfl, h1⟩
    | succ i => exact mapO_at (i := i) h2 (by simpa using ha)
theorem Md.fx {T : List Df} {ds : List Dt} {P : Program} {w : World} {K : PySem.W.Frag} {mg : Str → Option Value} {base : Heap} (hP : tb.ini ≠ [] → PrOk P) (hX : XR = XRx K tb.cls) (M : Md tb T ds K mg) : ∀ k, Fx tb XR (callN T k) k P w K mg base
  | 0 => ⟨fun i x ps h => by
      rw [M.names, List.getElem?_map] at h
      obtain ⟨d, hd, e⟩ := Option.map_eq_some_iff.mp h
      cases e
      obtain ⟨f, fd, m, D, kw, df0, b⟩ := M.at_ i d hd
      exact ⟨f, fd, m, D.keep, contract0, kw, df0, b⟩, M.cst, M.free, M.gcd, hX, M.cls, M.cnm, M.ini, hP, M.sm⟩
  | k + 1 => ⟨fun i x ps h => by
      rw [M.names, List.getElem?_map] at h
      obtain ⟨d, hd, e⟩ := Option.map_eq_some_iff.mp h
      cases e
      obtain ⟨f, fd, m, D, kw, df0, b⟩ := M.at_ i d hd
      have sc := M.sc d (List.mem_of_getElem? hd)
      obtain ⟨df, hdf, hc⟩ := mapO_at M.code hd
      obtain ⟨s, hs, rfl⟩ := Option.map_eq_some_iff.mp hc
      refine ⟨f, fd, m, D.keep, contract (by rw [hX]; exact xrx_ok) D sc hdf fun cd A out s0 H E W gd room tk => ?_, kw, df0, b⟩
      refine (cSs_snd 40 20 _).ps _ W (topCt d.scope) d.body s ⟨Md.fx hP hX M k, rfl, fun _ _ => rfl, rfl, sc.nd, fun _ => rfl, ?_, fun _ => room, sc.kind, room.units, fun z => absurd (show false = true from z) Bool.false_ne_true, fun _ => ⟨rfl, rfl⟩⟩ tk passes_body hs
      rw [← gd]
      exact guards_deeper A _, M.cst, M.free, M.gcd, hX, M.cls, M.cnm, M.ini, hP, M.sm⟩
theorem Md.one {T : List Df} {ds : List Dt} {P : Program} {w : World} {K : PySem.W.Frag} {mg : Str → Option Value} {base : Heap} {i : Nat} {d : Dt} {f : Addr} {fd : FuncData} (hP : tb.ini ≠ [] → PrOk P) (hX : XR = XRx K tb.cls) (M : Md tb T ds K mg) (hd : ds[i]? = some d) (D : DefAt K d.name d.qual d.params d.body d.scope f fd) :
    ∀ k, FnG P w K mg base k f fd d.ps (spG K XR (callN T k) i)
  | 0 => contract0
  | k + 1 => by
    have sc := M.sc d (List.mem_of_getElem? hd)
    obtain ⟨df, hdf, hc⟩ := mapO_at M.code hd
    obtain ⟨s, hs, rfl⟩ := Option.map_eq_some_iff.mp hc
    refine contract (by rw [hX]; exact xrx_ok) D sc hdf fun cd A out s0 H E W gd room tk => ?_
    refine (cSs_snd 40 20 _).ps _ W (topCt d.scope) d.body s ⟨Md.fx hP hX M k, rfl, fun _ _ => rfl, rfl, sc.nd, fun _ => rfl, ?_, fun _ => room, sc.kind, room.units, fun z => absurd (show false = true from z) Bool.false_ne_true, fun _ => ⟨rfl, rfl⟩⟩ tk passes_body hs
    rw [← gd]
    exact guards_deeper A _
/-! ### the law -/
theorem rpl_ints {K : PySem.W.Frag} {H : Hp} {ι : Ad} : ∀ ns : List Int, RpL K H ι (ns.map V.int) (ns.map D.int)
  | [] => .nil
  | n :: ns => .cons (.int n) (rpl_ints ns)
/-- the law's promise, from what it computes -/
theorem law_prom {K : PySem.W.Frag} {H : Hp} {a : Addr} {ns : List Int} {T : List Df} {k i : Nat} {S : Sto} (fz : FzL K H a (ns.map V.int)) (h : callN T k i [.fz (ns.map D.int)] [] = .ok (.bl true) S) :
    spG K XR (callN T k) i [.ref a] H (fun v _ => v = .bl true) fun _ _ _ => False := by
  refine ⟨⟨[], []⟩, [], [.fz (ns.map D.int)], ⟨rfl, List.nodup_nil, fun i a c h => by simp at h, fun a h => by cases h⟩, .cons (.fz fz (rpl_ints ns)) .nil, ?_⟩
  rw [h]
  intro v H' ι' e s r
  obtain ⟨r, _⟩ := r
  cases r
  rfl
end GV

set_option linter.all false
set_option maxHeartbeats 2000000
set_option maxRecDepth 100000
/-! GV, part t: a law's end, over the head's facts. -/
namespace GV
open PySem PySem.Spec PyProof.Rows L2

/-- what k_head leaves, from facts that give the written part -/
theorem top_walkE {l : PySem.W.OpenLaw} {n k : Nat} {q : Program} {loose : List Str} {XP : (Str → Option Value) → Heap → Prop} {YP : World → Heap → Prop} {d : DefRec} {x : Str}
    (hn : l.most = some n) (hn2 : n ≤ sizeLine) (hdf : d.params.defaults = []) (hk : k ≤ 60)
    (F : ∀ (w : World) (mg : Str → Option Value) (fa : Addr) (h : Heap), YP w h → h.Ns mainGlobals mg → mg d.name = some (.ref fa) →
      ∃ (K : PySem.W.Frag) (fd : FuncData) (sp : Sp), K.In h ∧ (∀ (s : Shared) (u : Value), BindsTo s fd ⟨[u], []⟩ [(x, u)]) ∧
        (∀ (H : Hp) (a : Addr) (ns : List Int), ns.length ≤ n → (∀ z ∈ ns, Builtin.Int.intBits z ≤ 1048576) → FzL K H a (ns.map V.int) → sp [.ref a] H (fun v _ => v = .bl true) fun _ _ _ => False) ∧
        ∀ base : Heap, K.In base → base.Ns mainGlobals mg → FnG l.prog w K mg base k fa fd [x] sp) :
    PySem.W.WalkO q loose XP YP l.row.toRowW d [] (fun f vs => PySem.call f vs) := by
  apply Att.attach_callB hn hdf
  intro w _ s1 mg mb fa _ _ _ _ a us ns G Y _ _ _ named script inz many bits gens
  obtain ⟨K, fd, sp, inH, bind, prom, fns⟩ := F w mg fa _ Y G.T.g named
  exact top_call inH G.T.g G.T.b G.T.builtins G.T.nolimit gens script inz (Nat.le_trans many hn2) hk fns bind fun H fz => prom H a ns many bits fz

/-! ### the module, from the head's facts -/
def dvD : D → He.Dv
  | .int i => .int i
  | .str x => .str x
  | .bl b => .bl b
  | _ => .non
def Dt.D (d : Dt) : He.DefD := ⟨(d.name, none), d.name, d.qual, d.params, d.body, d.scope, d.dfl.map dvD, []⟩
def cstF : Str × D → List He.Fa
  | (x, .int i) => [.int x i]
  | (x, .str z) => [.str x z]
  | _ => []
def cstB (K : PySem.W.Frag) : Str × D → Bool
  | (x, .int i) => true
  | (x, .str z) => true
  | _ => false
def faOf (tb : Tb) (ds : List Dt) : List He.Fa := ds.map (fun d => .glo d.name) ++ (tb.free.map .free ++ tb.cst.flatMap cstF)
def gcdB (K : PySem.W.Frag) (x : Str) : Bool := He.eqO (PySem.W.nsIn K mainGlobals x) (some (some (.builtin "math.gcd")))
def exOf0 (tb : Tb) (K : PySem.W.Frag) : Bool := tb.gcd.all (gcdB K) && (clssB K tb.cls && tb.ini.all (fun n => decide (n ∈ tb.cls) && initB K n))
def smB (K : PySem.W.Frag) : Bool := match K.lookup sysModules with
  | some ⟨_, _, .dict _ _, _⟩ => true
  | _ => false
theorem smB_ok {K : PySem.W.Frag} (h : smB K = true) : SmOk K := by
  unfold smB at h
  split at h
  · rename_i ho
    exact ⟨_, _, _, ho, rfl⟩
  · cases h
def exOf (tb : Tb) (K : PySem.W.Frag) : Bool := smB K && exOf0 tb K
/-- how the defs bind their arguments: without defaults; with them -/
def BindN (d : Dt) : Prop := ∀ (kV doc pm : Value) (an : Option Addr) (cdv ct : Value) (us : List Value), us.length = d.ps.length → bindArgs (PySem.W.fnOf d.name d.qual d.params d.body d.scope .none kV doc pm an cdv ct) ⟨us, []⟩ = pure (d.ps.zip us)
/-- so many are given, the first j defaults are not wanted -/
def BindD (d : Dt) (n j : Nat) : Prop := ∀ (T : Addr) (kV doc pm : Value) (an : Option Addr) (cdv ct : Value) (us its : List Value), us.length = n → its.length = (d.dfl.map dvD).length →
      ∃ k, bindArgs (PySem.W.fnOf d.name d.qual d.params d.body d.scope (.ref T) kV doc pm an cdv ct) ⟨us, []⟩ = seqItems? (.ref T) >>= k ∧ k (some its.toArray) = pure (d.ps.zip (us ++ its.drop j))
def dflOk (ds : List D) : Bool := ds.all fun d => match d with
  | .int _ => true
  | .str _ => true
  | .bl _ => true
  | .non => true
  | _ => false
def BindOk (d : Dt) : Prop := (d.dfl = [] ∧ BindN d) ∨ (d.dfl ≠ [] ∧ dflOk d.dfl = true ∧ d.dfl.length ≤ d.ps.length ∧ BindD d d.ps.length d.dfl.length)
def KwOk (d : Dt) (ks : List Str) (is : List Nat) : Prop := ∀ (kV doc pm : Value) (an : Option Addr) (cdv ct : Value) (us : List Value), us.length = ks.length → bindArgs (PySem.W.fnOf d.name d.qual d.params d.body d.scope .none kV doc pm an cdv ct) ⟨[], ks.zip us⟩ = pure (d.ps.zip (permL is us))
def scB (d : Dt) : Bool := decide (d.scope.kind = .function) && !d.scope.isCoroutine && !d.scope.isGenerator && decide d.N.Nodup && decide (d.N.take d.ps.length = d.ps) &&
  d.ps.all (fun x => decide (d.scope.names.lookup x = some .local) || decide (d.scope.names.lookup x = some .cell)) && d.scope.names.all fun y => decide (y.2 ≠ .free)
theorem scB_ok {d : Dt} (h : scB d = true) : FnScope d.N d.ps d.scope := by
  simp only [scB, Bool.and_eq_true, decide_eq_true_eq, Bool.not_eq_true', List.all_eq_true, Bool.or_eq_true] at h
  obtain ⟨⟨⟨⟨⟨⟨h1, h2⟩, h3⟩, h4⟩, h5⟩, h6⟩, h7⟩ := h
  exact ⟨h1, h2, h3, h4, h5, h6, h7⟩
/-- what is to be shown of a law's text -/
structure Txt (tb : Tb) (T : List Df) (ds : List Dt) : Prop where
  names : tb.defs = ds.map fun d => (d.name, d.ps)
  code : mapO (dfOf tb) ds = some T
  sc : ds.all scB = true
  cst : tb.cst.all (fun q => match q.2 with | .int _ => true | .str _ => true | _ => false) = true
  bind : ∀ d ∈ ds, BindOk d
  kw : ∀ q ∈ tb.kws, ∃ d, ds[q.1]? = some d ∧ d.dfl = [] ∧ KwOk d q.2.1 q.2.2
  df : ∀ q ∈ tb.dfl, ∃ d j, ds[q.1]? = some d ∧ d.dfl ≠ [] ∧ dflOk d.dfl = true ∧ q.2.2 = d.dfl.drop j ∧ q.2.1 + (d.dfl.length - j) = d.ps.length ∧ BindD d q.2.1 j
theorem vals_dfl {K : PySem.W.Frag} : ∀ {ds : List D}, dflOk ds = true → ∀ H ι, RpL K H ι ((ds.map dvD).map (He.Dv.v K)) ds
  | [], _, _, _ => .nil
  | d :: ds, h, H, ι => by
    simp only [dflOk, List.all_cons, Bool.and_eq_true] at h
    refine .cons ?_ (vals_dfl (by simpa only [dflOk] using h.2) H ι)
    cases d <;> first | (cases h.1; done) | exact .non | exact .bl _ | exact .int _ | exact .str _
theorem md_of {tb : Tb} {T : List Df} {ds : List Dt} {K : PySem.W.Frag} {h : Heap} {mg : Str → Option Value} (t : Txt tb T ds) (X : K.In h) (G : h.Ns mainGlobals mg) (c : He.SaysD (faOf tb ds) (ds.map Dt.D) K) (ex0 : exOf tb K = true) (ex : exOf0 tb K = true := (Bool.and_eq_true_iff.mp ex0).2) : Md tb T ds K mg where
  sm := smB_ok (Bool.and_eq_true_iff.mp ex0).1
  cst := fun x d hx => by
    have hm : (x, d) ∈ tb.cst := by
      have : ∀ l : List (Str × D), l.lookup x = some d → (x, d) ∈ l := by
        intro l
        induction l with
        | nil => intro h; simp at h
        | cons p l ih =>
          intro h
          obtain ⟨y, e⟩ := p
          rw [List.lookup_cons] at h
          split at h
          · rename_i hb
            cases h
            rw [eq_of_beq hb]
            exact List.mem_cons_self
          · exact List.mem_cons_of_mem _ (ih h)
      exact this _ hx
    have hk := List.all_eq_true.mp t.cst _ hm
    have fin : ∀ f, f ∈ cstF (x, d) → f.ok K = true := fun f hf => c.facts (List.mem_append_right _ (List.mem_append_right _ (List.mem_flatMap.mpr ⟨_, hm, hf⟩)))
    cases d with
    | int i =>
      obtain ⟨tk, e⟩ := He.int_ok X G (fin (.int x i) List.mem_cons_self)
      exact ⟨.int i, _, e, ⟨tk, rfl⟩, fun _ _ => .int i⟩
    | str z =>
      obtain ⟨tk, e⟩ := He.str_ok X G (fin (.str x z) List.mem_cons_self)
      exact ⟨.str z, _, e, ⟨tk, rfl⟩, fun _ _ => .str z⟩
    | _ => cases hk
  free := fun x hx => He.free_ok X G (c.facts (List.mem_append_right _ (List.mem_append_left _ (List.mem_map.mpr ⟨x, hx, rfl⟩))))
  gcd := fun x hx => by
    have := List.all_eq_true.mp (Bool.and_eq_true_iff.mp ex).1 x hx
    exact PySem.W.mg_of X G (He.eqO_ok this)
  cls := clss_ok (Bool.and_eq_true_iff.mp (Bool.and_eq_true_iff.mp ex).2).1
  ini := fun n hn => by
    have := List.all_eq_true.mp (Bool.and_eq_true_iff.mp (Bool.and_eq_true_iff.mp ex).2).2 n hn
    obtain ⟨a, b⟩ := Bool.and_eq_true_iff.mp this
    exact ⟨of_decide_eq_true a, initB_ok b⟩
  cnm := fun n hn D hD => by
    unfold cad at hD
    split at hD
    · rename_i C hC
      cases hD
      exact PySem.W.mg_of X G hC
    · cases hD
  names := t.names
  code := t.code
  sc := fun d hd => scB_ok (List.all_eq_true.mp t.sc d hd)
  at_ := fun i d hd => by
    have hm := List.mem_of_getElem? hd
    obtain ⟨fd, F⟩ := c.defs (List.mem_map.mpr ⟨d, hm, rfl⟩)
    have g := He.glo_ok X G (c.facts (List.mem_append_left _ (List.mem_map.mpr ⟨d, hm, rfl⟩)))
    have D0 : DefAt K d.name d.qual d.params d.body d.scope (He.ga K d.name) fd := by
      obtain ⟨oc, od, dV, kV, doc, pm, an, cdv, ct, osl, e, lk, hcd, _, _⟩ := F.ex
      exact ⟨⟨oc, od, dV, kV, doc, pm, cdv, ct, an, osl, e, lk, hcd⟩, F.kp⟩
    refine ⟨_, fd, g, D0, fun ks is hk => ⟨fun s us hl => ?_⟩, fun n dd hq => ?_, ?_⟩
    · obtain ⟨d', hd', hdf, kwo⟩ := t.kw _ hk
      rw [hd] at hd'
      cases hd'
      obtain ⟨oc, od, dV, kV, doc, pm, an, cdv, ct, osl, rfl, lk, hcd, hD, _⟩ := F.ex
      rcases hD with ⟨_, rfl⟩ | ⟨e, _⟩
      · exact BindsTo.of_eq (kwo kV doc pm an cdv ct us hl)
      · exact absurd (by show (d.dfl.map dvD).map (He.Dv.v K) = []; rw [hdf]; rfl) e
    · obtain ⟨d', j, hd', hne, hok, e1, e2, hb⟩ := t.df _ hq
      rw [hd] at hd'
      cases hd'
      have hdv : d.D.dvs K = (d.dfl.map dvD).map (He.Dv.v K) := rfl
      obtain ⟨us, hv, hbs⟩ := F.binds1 n j (by rw [hdv]; simpa using hne) (by rw [hdv]; simpa using e2) (fun T kV doc pm an cdv ct us its h1 h2 => hb T kV doc pm an cdv ct us its h1 (by rw [hdv] at h2; simpa using h2))
      refine ⟨us, _, hv, fun H ι => ?_, hbs⟩
      have e1 : dd = d.dfl.drop j := e1
      rw [e1, hdv, ← List.map_drop, ← List.map_drop]
      exact vals_dfl (List.all_eq_true.mpr fun x hx => List.all_eq_true.mp hok x (List.mem_of_mem_drop hx)) H ι
    · have hdv : d.D.dvs K = (d.dfl.map dvD).map (He.Dv.v K) := rfl
      rcases t.bind d hm with ⟨e0, hb⟩ | ⟨hne, hok, hle, hb⟩
      · have F' : FunD K d.name d.qual d.params d.body d.scope [] (d.D.kws K) (He.ga K d.name) fd := by
          have : d.D.dvs K = [] := by rw [hdv, e0]; rfl
          rw [← this]; exact F
        exact F'.bindsN hb
      · obtain ⟨us, hv, hbs⟩ := F.binds1 d.ps.length d.dfl.length (by rw [hdv]; simpa using hne) (by rw [hdv]; simp) (fun T kV doc pm an cdv ct us its h1 h2 => hb T kV doc pm an cdv ct us its h1 (by rw [hdv] at h2; simpa using h2))
        have : us = [] := by
          have := hv.length
          rw [hdv] at this
          simp at this
          exact List.length_eq_zero_iff.mp this.symm
        rw [this] at hbs
        exact hbs
/-! the hook: what the names reach in n steps, and the interpreter's own statics -/
abbrev AlY : Type := He.AlD × Bool
def kY (n : Nat) (g : Addr → Option Obj) : PySem.W.Frag := He.frG g (He.asD g n ++ [cStatics, sysModules])
def obsY (n : Nat) (fa : List He.Fa) (fn : List He.DefD) (ex : PySem.W.Frag → Bool) (g : Addr → Option Obj) : AlY := (He.obsD fa fn (kY n g), ex (kY n g))
def SaysY (fa : List He.Fa) (fn : List He.DefD) (ex : PySem.W.Frag → Bool) (_ : World) (h : Heap) : Prop := ∃ K : PySem.W.Frag, K.In h ∧ He.SaysD fa fn K ∧ ex K = true
def hookY (n : Nat) (fa : List He.Fa) (fn : List He.DefD) (ex : PySem.W.Frag → Bool) : PySem.W.Hook where
  α := AlY
  obs := fun s => obsY n fa fn ex s.heap.get?
  val := fun _ => (He.valD fn, true)
  says := SaysY fa fn ex
  of := fun _ _ e => ⟨_, He.frG_in, congrArg (fun z : AlY => z.1) e, congrArg (fun z : AlY => z.2) e⟩
  keeps := fun _ _ _ ⟨K, hK, c⟩ k => ⟨K, PySem.W.Frag.In.keeps hK k, c⟩
theorem obsY_eq {n : Nat} {fa : List He.Fa} {fn : List He.DefD} {ex : PySem.W.Frag → Bool} {g : Addr → Option Obj} {s : Shared} (h : ∀ a, g a = s.heap.get? a) : obsY n fa fn ex g = (hookY n fa fn ex).obs s := by
  have e : g = s.heap.get? := funext h
  rw [e] <;> rfl
/-- THE END: a law is kept, if what it computes is True -/
theorem law_walk {l : PySem.W.OpenLaw} {n k i m : Nat} {q : Program} {loose : List Str} {XP : (Str → Option Value) → Heap → Prop} {d : DefRec} {tb : Tb} {T : List Df} {ds : List Dt} {dl : Dt} {x : Str}
    (hn : l.most = some n) (hn2 : n ≤ sizeLine) (hdf : d.params.defaults = []) (hk : k ≤ 60) (t : Txt tb T ds) (hl : ds[i]? = some dl) (hname : d.name = dl.name) (hps : dl.ps = [x]) (hdl : BindN dl ∧ dl.dfl = []) (hP : tb.ini ≠ [] → PrOk l.prog)
    (comp : ∀ ns : List Int, ns.length ≤ n → (∀ z ∈ ns, Builtin.Int.intBits z ≤ 1048576) → ∃ S, callN T k i [.fz (ns.map D.int)] [] = .ok (.bl true) S) :
    PySem.W.WalkO q loose XP (hookY m (faOf tb ds) (ds.map Dt.D) (exOf tb)).says l.row.toRowW d [] (fun f vs => PySem.call f vs) := by
  refine top_walkE (x := x) hn hn2 hdf hk ?_
  rintro w mg fa h ⟨K, KX, c⟩ G hmg
  have M := md_of t KX G c.1 c.2
  obtain ⟨fd, F⟩ := c.1.defs (List.mem_map.mpr ⟨dl, List.mem_of_getElem? hl, rfl⟩)
  have g := He.glo_ok KX G (c.1.facts (List.mem_append_left _ (List.mem_map.mpr ⟨dl, List.mem_of_getElem? hl, rfl⟩)))
  obtain ⟨f', fd', g', D', _, _, _⟩ := M.at_ i dl hl
  rw [hname] at hmg
  have e1 := hmg.symm.trans g
  have e2 := g'.symm.trans g
  cases e1
  cases e2
  have e3 : fd' = fd := by
    obtain ⟨⟨_, _, _, _, _, _, _, _, _, _, _, lk1, _⟩, _⟩ := D'
    obtain ⟨_, _, _, _, _, _, _, _, _, _, _, lk2, _, _, _⟩ := F.ex
    have : He.fAd K (dl.name, none) = He.ga K dl.name := rfl
    have lk2' : K.lookup (He.ga K dl.name) = _ := lk2
    rw [lk1] at lk2'
    injection lk2' with h1
    injection h1 with h2 h3 h4 h5
    injection h4
  subst e3
  refine ⟨K, fd', spG K (XRx K tb.cls) (callN T k) i, KX, fun s u => ?_, fun H a ns h1 h2 fz => ?_, fun base KB GB => ?_⟩
  · have F' : FunD K dl.name dl.qual dl.params dl.body dl.scope [] (dl.D.kws K) (He.ga K dl.name) fd' := by
      have : dl.D.dvs K = [] := by show (dl.dfl.map dvD).map (He.Dv.v K) = []; rw [hdl.2]; rfl
      rw [← this]; exact F
    have b := F'.bindsA hdl.1 s [u] (by show 1 = dl.ps.length; rw [hps]; rfl)
    have e : dl.ps.zip [u] = [(x, u)] := by rw [hps]; rfl
    rw [e] at b
    exact b
  · obtain ⟨S, hS⟩ := comp ns h1 h2
    exact law_prom fz hS
  · have MB := md_of t KB GB c.1 c.2
    rw [← hps]
    exact MB.one hP rfl hl D' k
end GV

set_option linter.all false
set_option maxRecDepth 100000
namespace K67
open PySem PySem.Spec PyProof.Rows L2 GV
def f_is_number : Df := ⟨1, 1, false, (.ret (.and (.isa .int (.loc 0)) (.not (.isa .bool (.loc 0)))))⟩
def f_minus : Df := ⟨2, 2, false, (.ret (.tup (.cons (.bin .sub (.idx (.loc 0) (.cst (.int 0))) (.idx (.loc 1) (.cst (.int 0)))) (.cons (.bin .sub (.idx (.loc 0) (.cst (.int 1))) (.idx (.loc 1) (.cst (.int 1)))) .nil))))⟩
def f_times : Df := ⟨2, 2, false, (.ret (.tup (.cons (.bin .mul (.loc 0) (.idx (.loc 1) (.cst (.int 0)))) (.cons (.bin .mul (.loc 0) (.idx (.loc 1) (.cst (.int 1)))) .nil))))⟩
def f_det : Df := ⟨2, 2, false, (.ret (.bin .sub (.bin .mul (.idx (.loc 0) (.cst (.int 0))) (.idx (.loc 1) (.cst (.int 1)))) (.bin .mul (.idx (.loc 0) (.cst (.int 1))) (.idx (.loc 1) (.cst (.int 0))))))⟩
def f_partner : Df := ⟨6, 1, false, (.seq (.unp (.tp (.cons (.nm 1) (.cons (.nm 2) (.cons (.nm 3) (.cons (.nm 4) .nil))))) (.tup (.cons (.idx (.loc 0) (.cst (.int 0))) (.cons (.idx (.loc 0) (.cst (.int 1))) (.cons (.tup (.cons (.cst (.int 1)) (.cons (.cst (.int 0)) .nil))) (.cons (.tup (.cons (.cst (.int 0)) (.cons (.cst (.int 1)) .nil))) .nil))))))
    (.seq (.whl (.cmp .ne (.loc 2) (.cst (.int 0))) (.seq (.unp (.nm 5) (.bin .fdiv (.loc 1) (.loc 2)))
    (.seq (.par [1, 2] (.cons (.loc 2) (.cons (.bin .sub (.loc 1) (.bin .mul (.loc 5) (.loc 2))) .nil)))
    (.par [3, 4] (.cons (.loc 4) (.cons (.call 1 (.cons (.loc 3) (.cons (.call 2 (.cons (.loc 5) (.cons (.loc 4) .nil))) .nil))) .nil))))))
    (.ret (.tup (.cons (.bin .mul (.neg (.idx (.loc 3) (.cst (.int 1)))) (.loc 1)) (.cons (.bin .mul (.idx (.loc 3) (.cst (.int 0))) (.loc 1)) .nil))))))⟩
def f_grid_error : Df := ⟨5, 1, false, (.seq (.ite (.or (.not (.isa .tuple (.loc 0))) (.or (.cmp .ne (.b1 .len (.loc 0)) (.cst (.int 3))) (.not (.b1 .all (.comp [4] (.nm 4) (.loc 0) (.cst (.bl true)) (.call 0 (.cons (.loc 4) .nil))))))) (.ret (.cst (.str "form"))) .skip)
    (.seq (.unp (.tp (.cons (.nm 1) (.cons (.nm 2) (.cons (.nm 3) .nil)))) (.loc 0))
    (.seq (.ite (.or (.cmp .lt (.loc 1) (.cst (.int 1))) (.cmp .lt (.loc 3) (.cst (.int 1)))) (.ret (.cst (.str "side"))) .skip)
    (.seq (.ite (.not (.chain .le .lt (.cst (.int 0)) (.loc 2) (.loc 1))) (.ret (.cst (.str "lean"))) .skip)
    (.ret (.ife (.cmp .gt (.bin .mul (.loc 1) (.loc 3)) (.cst (.int 12))) (.cst (.str "index")) (.cst .non)))))))⟩
def f_grid_of : Df := ⟨6, 2, false, (.seq (.unp (.nm 2) (.b1 .abs (.call 3 (.cons (.loc 0) (.cons (.loc 1) .nil)))))
    (.seq (.ite (.cmp .eq (.loc 2) (.cst (.int 0))) (.raise 1 none) .skip)
    (.seq (.ite (.cmp .gt (.loc 2) (.cst (.int 12))) (.raise 2 (some (.cst (.int 12)))) .skip)
    (.seq (.unp (.nm 3) (.b2 .gcd (.idx (.loc 0) (.cst (.int 1))) (.idx (.loc 1) (.cst (.int 1)))))
    (.seq (.unp (.nm 4) (.bin .fdiv (.loc 2) (.loc 3)))
    (.seq (.unp (.nm 5) (.call 4 (.cons (.tup (.cons (.bin .fdiv (.idx (.loc 0) (.cst (.int 1))) (.loc 3)) (.cons (.bin .fdiv (.idx (.loc 1) (.cst (.int 1))) (.loc 3)) .nil))) .nil)))
    (.ret (.tup (.cons (.loc 4) (.cons (.bin .mod (.bin .sub (.bin .mul (.idx (.loc 5) (.cst (.int 1))) (.idx (.loc 0) (.cst (.int 0)))) (.bin .mul (.idx (.loc 5) (.cst (.int 0))) (.idx (.loc 1) (.cst (.int 0))))) (.loc 4)) (.cons (.loc 3) .nil)))))))))))⟩
def f_rest : Df := ⟨6, 2, false, (.seq (.unp (.tp (.cons (.nm 3) (.cons (.nm 4) (.cons (.nm 5) .nil)))) (.loc 0))
    (.seq (.unp (.nm 2) (.bin .fdiv (.idx (.loc 1) (.cst (.int 1))) (.loc 5)))
    (.ret (.tup (.cons (.bin .mod (.bin .sub (.idx (.loc 1) (.cst (.int 0))) (.bin .mul (.loc 2) (.loc 4))) (.loc 3)) (.cons (.bin .sub (.idx (.loc 1) (.cst (.int 1))) (.bin .mul (.loc 2) (.loc 5))) .nil))))))⟩
def f_has : Df := ⟨2, 2, false, (.ret (.cmp .eq (.call 7 (.cons (.loc 0) (.cons (.loc 1) .nil))) (.tup (.cons (.cst (.int 0)) (.cons (.cst (.int 0)) .nil)))))⟩
def f_turn : Df := ⟨5, 1, false, (.seq (.unp (.tp (.cons (.nm 2) (.cons (.nm 3) (.cons (.nm 4) .nil)))) (.loc 0))
    (.seq (.unp (.nm 1) (.loc 2))
    (.seq (.whl (.not (.call 8 (.cons (.loc 0) (.cons (.tup (.cons (.cst (.int 0)) (.cons (.loc 1) .nil))) .nil)))) (.unp (.nm 1) (.bin .add (.loc 1) (.loc 2))))
    (.ret (.loc 1)))))⟩
def f_all_grids : Df := ⟨4, 1, false, (.seq (.unp (.nm 1) (.alc (.lst .nil)))
    (.seq (.for_ (.nm 2) (.rng2 (.cst (.int 1)) (.bin .add (.loc 0) (.cst (.int 1)))) (.ite (.cmp .eq (.bin .mod (.loc 0) (.loc 2)) (.cst (.int 0))) (.ex (.meth .extend (.loc 1) (.cons (.comp [3] (.nm 3) (.rng1 (.loc 2)) (.cst (.bl true)) (.tup (.cons (.loc 2) (.cons (.loc 3) (.cons (.bin .fdiv (.loc 0) (.loc 2)) .nil))))) .nil))) .skip))
    (.ret (.b1 .tuple (.loc 1)))))⟩
def f__law_deck : Df := ⟨4, 1, true, (.seq (.par [2, 3] (.cons (.comp [1] (.nm 1) (.slh (.loc 0) (.cst (.int 63))) (.cst (.bl true)) (.b1 .abs (.loc 1))) (.cons (.bin .add (.cst (.int 16240)) (.b1 .len (.slh (.loc 0) (.cst (.int 63))))) .nil)))
    (.seq (.for_ (.nm 1) (.loc 2) (.unp (.nm 3) (.bin .mod (.bin .add (.bin .add (.bin .mul (.loc 3) (.cst (.int 48271))) (.bin .mod (.loc 1) (.cst (.int 2147483629)))) (.cst (.int 7))) (.cst (.int 2147483647)))))
    (.ret (.alc (.lst (.cons (.alc (.rev (.comp [1] (.nm 1) (.loc 2) (.cmp .ge (.loc 1) (.bin .pow (.cst (.int 10)) (.cst (.int 9)))) (.loc 1)))) (.cons (.loc 3) .nil)))))))⟩
def f__law_next : Df := ⟨3, 2, false, (.seq (.whl (.and (.cmp .gt (.loc 1) (.cst (.int 1))) (.cmp .ne (.idx (.loc 0) (.cst (.int 0))) (.lst .nil))) (.seq (.unp (.nm 2) (.meth .pop (.idx (.loc 0) (.cst (.int 0))) .nil))
    (.ite (.cmp .gt (.loc 2) (.cst (.int 0))) (.seq (.ex (.meth .append (.idx (.loc 0) (.cst (.int 0))) (.cons (.bin .fdiv (.loc 2) (.loc 1)) .nil)))
    (.ret (.bin .mod (.loc 2) (.loc 1)))) .skip)))
    (.seq (.setx (.loc 0) (.cst (.int 1)) (.bin .mod (.bin .add (.bin .mul (.idx (.loc 0) (.cst (.int 1))) (.cst (.int 48271))) (.cst (.int 11))) (.cst (.int 2147483647))))
    (.ret (.bin .mod (.bin .fdiv (.bin .mod (.bin .mul (.idx (.loc 0) (.cst (.int 1))) (.idx (.loc 0) (.cst (.int 1)))) (.cst (.int 2147483629))) (.cst (.int 7))) (.loc 1)))))⟩
def f__law_pick : Df := ⟨2, 2, false, (.ret (.idx (.loc 1) (.call 12 (.cons (.loc 0) (.cons (.b1 .len (.loc 1)) .nil)))))⟩
def f__law_det : Df := ⟨2, 2, false, (.ret (.bin .sub (.bin .mul (.idx (.loc 0) (.cst (.int 0))) (.idx (.loc 1) (.cst (.int 1)))) (.bin .mul (.idx (.loc 0) (.cst (.int 1))) (.idx (.loc 1) (.cst (.int 0))))))⟩
def f__law_linear : Df := ⟨10, 3, false, (.seq (.unp (.tp (.cons (.nm 4) (.cons (.nm 5) (.cons (.nm 6) (.cons (.nm 7) .nil))))) (.tup (.cons (.cst (.int 1)) (.cons (.cst (.int 0)) (.cons (.cst (.int 0)) (.cons (.cst (.int 1)) .nil))))))
    (.seq (.for_ (.nm 3) (.rng1 (.loc 1)) (.seq (.par [8, 9] (.cons (.bin .sub (.call 12 (.cons (.loc 0) (.cons (.bin .add (.bin .mul (.cst (.int 2)) (.loc 2)) (.cst (.int 1))) .nil))) (.loc 2)) (.cons (.call 12 (.cons (.loc 0) (.cons (.cst (.int 5)) .nil))) .nil)))
    (.ite (.cmp .lt (.loc 9) (.cst (.int 2))) (.par [4, 5] (.cons (.bin .add (.loc 4) (.bin .mul (.loc 8) (.loc 6))) (.cons (.bin .add (.loc 5) (.bin .mul (.loc 8) (.loc 7))) .nil))) (.ite (.cmp .lt (.loc 9) (.cst (.int 4))) (.par [6, 7] (.cons (.bin .add (.loc 6) (.bin .mul (.loc 8) (.loc 4))) (.cons (.bin .add (.loc 7) (.bin .mul (.loc 8) (.loc 5))) .nil))) (.unp (.tp (.cons (.nm 4) (.cons (.nm 5) (.cons (.nm 6) (.cons (.nm 7) .nil))))) (.tup (.cons (.loc 6) (.cons (.loc 7) (.cons (.loc 4) (.cons (.loc 5) .nil))))))))))
    (.ret (.tup (.cons (.loc 4) (.cons (.loc 5) (.cons (.loc 6) (.cons (.loc 7) .nil))))))))⟩
def f__law_grid : Df := ⟨4, 1, false, (.seq (.unp (.nm 1) (.bin .add (.cst (.int 1)) (.call 12 (.cons (.loc 0) (.cons (.cst (.int 12)) .nil)))))
    (.seq (.unp (.nm 2) (.call 13 (.cons (.loc 0) (.cons (.comp [3] (.nm 3) (.rng2 (.cst (.int 1)) (.bin .add (.loc 1) (.cst (.int 1)))) (.cmp .eq (.bin .mod (.loc 1) (.loc 3)) (.cst (.int 0))) (.loc 3)) .nil))))
    (.ret (.tup (.cons (.loc 2) (.cons (.call 12 (.cons (.loc 0) (.cons (.loc 2) .nil))) (.cons (.bin .fdiv (.loc 1) (.loc 2)) .nil)))))))⟩
def f__law_has : Df := ⟨5, 2, false, (.seq (.unp (.tp (.cons (.nm 2) (.cons (.nm 3) (.cons (.nm 4) .nil)))) (.loc 0))
    (.ret (.and (.cmp .eq (.bin .mod (.idx (.loc 1) (.cst (.int 1))) (.loc 4)) (.cst (.int 0))) (.cmp .eq (.bin .mod (.bin .sub (.idx (.loc 1) (.cst (.int 0))) (.bin .mul (.bin .fdiv (.idx (.loc 1) (.cst (.int 1))) (.loc 4)) (.loc 3))) (.loc 2)) (.cst (.int 0))))))⟩
def f__law_turn : Df := ⟨2, 1, false, (.seq (.for_ (.nm 1) (.rng2 (.cst (.int 1)) (.cst (.int 13))) (.ite (.and (.call 17 (.cons (.loc 0) (.cons (.tup (.cons (.loc 1) (.cons (.cst (.int 0)) .nil))) .nil))) (.call 17 (.cons (.loc 0) (.cons (.tup (.cons (.cst (.int 0)) (.cons (.loc 1) .nil))) .nil)))) (.ret (.loc 1)) .skip))
    (.ret (.cst (.int 0))))⟩
def f__law_due_error : Df := ⟨5, 1, false, (.seq (.ite (.or (.not (.isa .tuple (.loc 0))) (.cmp .ne (.b1 .len (.loc 0)) (.cst (.int 3)))) (.ret (.cst (.str "form"))) .skip)
    (.seq (.ite (.cmp .ne (.comp [4] (.nm 4) (.loc 0) (.or (.not (.isa .int (.loc 4))) (.isa .bool (.loc 4))) (.cst (.int 1))) (.lst .nil)) (.ret (.cst (.str "form"))) .skip)
    (.seq (.unp (.tp (.cons (.nm 1) (.cons (.nm 2) (.cons (.nm 3) .nil)))) (.loc 0))
    (.seq (.ite (.or (.cmp .lt (.loc 1) (.cst (.int 1))) (.cmp .lt (.loc 3) (.cst (.int 1)))) (.ret (.cst (.str "side"))) .skip)
    (.seq (.ite (.or (.cmp .lt (.loc 2) (.cst (.int 0))) (.cmp .ge (.loc 2) (.loc 1))) (.ret (.cst (.str "lean"))) .skip)
    (.ret (.ife (.cmp .gt (.bin .mul (.loc 1) (.loc 3)) (.cst (.int 12))) (.cst (.str "index")) (.cst .non))))))))⟩
def f__law_of : Df := ⟨7, 2, false, (.seq (.unp (.tp (.cons (.nm 3) (.cons (.tp (.cons (.nm 5) (.cons (.nm 6) .nil))) .nil))) (.tup (.cons (.b1 .abs (.call 14 (.cons (.loc 0) (.cons (.loc 1) .nil)))) (.cons (.tup (.cons (.loc 0) (.cons (.loc 1) .nil))) .nil))))
    (.seq (.whl (.cmp .ne (.idx (.loc 6) (.cst (.int 1))) (.cst (.int 0))) (.seq (.unp (.nm 4) (.bin .fdiv (.idx (.loc 5) (.cst (.int 1))) (.idx (.loc 6) (.cst (.int 1)))))
    (.par [5, 6] (.cons (.loc 6) (.cons (.tup (.cons (.bin .sub (.idx (.loc 5) (.cst (.int 0))) (.bin .mul (.loc 4) (.idx (.loc 6) (.cst (.int 0))))) (.cons (.bin .sub (.idx (.loc 5) (.cst (.int 1))) (.bin .mul (.loc 4) (.idx (.loc 6) (.cst (.int 1))))) .nil))) .nil)))))
    (.seq (.ite (.cmp .lt (.idx (.loc 5) (.cst (.int 1))) (.cst (.int 0))) (.unp (.nm 5) (.tup (.cons (.neg (.idx (.loc 5) (.cst (.int 0)))) (.cons (.neg (.idx (.loc 5) (.cst (.int 1)))) .nil)))) .skip)
    (.seq (.unp (.nm 2) (.bin .fdiv (.loc 3) (.idx (.loc 5) (.cst (.int 1)))))
    (.ret (.tup (.cons (.loc 2) (.cons (.bin .mod (.idx (.loc 5) (.cst (.int 0))) (.loc 2)) (.cons (.idx (.loc 5) (.cst (.int 1))) .nil)))))))))⟩
def f__law_told : Df := ⟨3, 2, false, (.try_ (.ret (.lst (.cons (.cst (.str "told")) (.cons (.call 6 (.cons (.loc 0) (.cons (.loc 1) .nil))) .nil))))
    (.hnd 0 (some 2) (.seq (.ite (.and (.call 1000102 (.cons (.loc 2) .nil)) (.not (.or (.call 1000101 (.cons (.loc 2) .nil)) (.call 1000107 (.cons (.loc 2) .nil))))) (.ret (.lst (.cons (.cst (.str "many")) (.cons (.call 1000002 (.cons (.loc 2) .nil)) .nil)))) .skip)
    (.ret (.lst (.cons (.ife (.and (.call 1000101 (.cons (.loc 2) .nil)) (.not (.or (.call 1000102 (.cons (.loc 2) .nil)) (.call 1000107 (.cons (.loc 2) .nil))))) (.cst (.str "unfit")) (.cst (.str "other"))) .nil)))) .hend))⟩
def f__law_due : Df := ⟨3, 2, false, (.seq (.unp (.nm 2) (.b1 .abs (.call 14 (.cons (.loc 0) (.cons (.loc 1) .nil)))))
    (.seq (.ite (.cmp .eq (.loc 2) (.cst (.int 0))) (.ret (.lst (.cons (.cst (.str "unfit")) .nil))) .skip)
    (.ret (.ife (.cmp .gt (.loc 2) (.cst (.int 12))) (.lst (.cons (.cst (.str "many")) (.cons (.cst (.int 12)) .nil))) (.lst (.cons (.cst (.str "told")) (.cons (.call 20 (.cons (.loc 0) (.cons (.loc 1) .nil))) .nil)))))))⟩
def f__law_vectors : Df := ⟨12, 2, false, (.seq (.unp (.tp (.cons (.nm 3) (.cons (.nm 4) (.cons (.nm 5) .nil)))) (.loc 1))
    (.seq (.unp (.tp (.cons (.nm 6) (.cons (.nm 7) (.cons (.nm 8) (.cons (.nm 9) .nil))))) (.call 15 (.cons (.loc 0) (.cons (.call 12 (.cons (.loc 0) (.cons (.cst (.int 7)) .nil))) (.cons (.call 13 (.cons (.loc 0) (.cons (.lst (.cons (.cst (.int 1)) (.cons (.cst (.int 3)) (.cons (.cst (.int 5)) .nil)))) .nil))) .nil)))))
    (.seq (.par [10, 11] (.cons (.tup (.cons (.bin .add (.bin .mul (.loc 6) (.loc 3)) (.bin .mul (.loc 7) (.loc 4))) (.cons (.bin .mul (.loc 7) (.loc 5)) .nil))) (.cons (.tup (.cons (.bin .add (.bin .mul (.loc 8) (.loc 3)) (.bin .mul (.loc 9) (.loc 4))) (.cons (.bin .mul (.loc 9) (.loc 5)) .nil))) .nil)))
    (.seq (.unp (.nm 2) (.call 12 (.cons (.loc 0) (.cons (.cst (.int 6)) .nil))))
    (.seq (.ite (.cmp .eq (.loc 2) (.cst (.int 0))) (.unp (.nm 11) (.tup (.cons (.bin .add (.idx (.loc 11) (.cst (.int 0))) (.cst (.int 1))) (.cons (.idx (.loc 11) (.cst (.int 1))) .nil)))) (.ite (.cmp .eq (.loc 2) (.cst (.int 1))) (.unp (.nm 11) (.tup (.cons (.bin .mul (.cst (.int 2)) (.idx (.loc 10) (.cst (.int 0)))) (.cons (.bin .mul (.cst (.int 2)) (.idx (.loc 10) (.cst (.int 1)))) .nil)))) (.ite (.cmp .eq (.loc 2) (.cst (.int 2))) (.unp (.nm 10) (.tup (.cons (.bin .mul (.cst (.int 3)) (.idx (.loc 10) (.cst (.int 0)))) (.cons (.bin .mul (.cst (.int 3)) (.idx (.loc 10) (.cst (.int 1)))) .nil)))) .skip)))
    (.ret (.tup (.cons (.loc 10) (.cons (.loc 11) .nil)))))))))⟩
def f__law_is_point_right : Df := ⟨8, 2, false, (.seq (.unp (.nm 2) (.call 13 (.cons (.loc 0) (.cons (.lst (.cons (.cst (.int 3)) (.cons (.cst (.int 30)) (.cons (.bin .pow (.cst (.int 10)) (.cst (.int 6))) .nil)))) .nil))))
    (.seq (.unp (.nm 3) (.tup (.cons (.bin .sub (.call 12 (.cons (.loc 0) (.cons (.bin .add (.bin .mul (.cst (.int 2)) (.loc 2)) (.cst (.int 1))) .nil))) (.loc 2)) (.cons (.bin .sub (.call 12 (.cons (.loc 0) (.cons (.bin .add (.bin .mul (.cst (.int 2)) (.loc 2)) (.cst (.int 1))) .nil))) (.loc 2)) .nil))))
    (.seq (.par [5, 6] (.cons (.call 17 (.cons (.loc 1) (.cons (.loc 3) .nil))) (.cons (.alc (.lst .nil)) .nil)))
    (.seq (.for_ (.nm 4) (.rng1 (.idx (.loc 1) (.cst (.int 0)))) (.ex (.meth .extend (.loc 6) (.cons (.comp [7] (.nm 7) (.rng1 (.idx (.loc 1) (.cst (.int 2)))) (.call 17 (.cons (.loc 1) (.cons (.tup (.cons (.bin .sub (.idx (.loc 3) (.cst (.int 0))) (.loc 4)) (.cons (.bin .sub (.idx (.loc 3) (.cst (.int 1))) (.loc 7)) .nil))) .nil))) (.tup (.cons (.loc 4) (.cons (.loc 7) .nil)))) .nil))))
    (.seq (.ite (.or (.cmp .ne (.b1 .len (.loc 6)) (.cst (.int 1))) (.cmp .ne (.b1 .repr (.lst (.cons (.call 8 (.cons (.loc 1) (.cons (.loc 3) .nil))) (.cons (.callK 8 2 [0, 1] (.cons (.loc 1) (.cons (.loc 3) .nil))) .nil)))) (.b1 .repr (.lst (.cons (.loc 5) (.cons (.loc 5) .nil)))))) (.ret (.cst (.bl false))) .skip)
    (.ret (.cmp .eq (.b1 .repr (.lst (.cons (.call 7 (.cons (.loc 1) (.cons (.loc 3) .nil))) (.cons (.callK 7 2 [0, 1] (.cons (.loc 1) (.cons (.loc 3) .nil))) .nil)))) (.b1 .repr (.lst (.cons (.idx (.loc 6) (.cst (.int 0))) (.cons (.idx (.loc 6) (.cst (.int 0))) .nil)))))))))))⟩
def f_law : Df := ⟨18, 1, false, (.seq (.unp (.nm 1) (.call 11 (.cons (.loc 0) .nil)))
    (.seq (.for_ (.nm 2) (.rng1 (.cst (.int 6))) (.seq (.unp (.nm 3) (.call 16 (.cons (.loc 1) .nil)))
    (.seq (.unp (.nm 4) (.call 18 (.cons (.loc 3) .nil)))
    (.seq (.ite (.cmp .ne (.b1 .repr (.lst (.cons (.call 9 (.cons (.loc 3) .nil)) (.cons (.callK 9 1 [0] (.cons (.loc 3) .nil)) .nil)))) (.b1 .repr (.lst (.cons (.loc 4) (.cons (.loc 4) .nil))))) (.ret (.cst (.bl false))) .skip)
    (.seq (.ite (.or (.not (.call 24 (.cons (.loc 1) (.cons (.loc 3) .nil)))) (.not (.call 24 (.cons (.loc 1) (.cons (.loc 3) .nil))))) (.ret (.cst (.bl false))) .skip)
    (.seq (.unp (.tp (.cons (.nm 10) (.cons (.nm 11) .nil))) (.call 23 (.cons (.loc 1) (.cons (.loc 3) .nil))))
    (.seq (.unp (.nm 5) (.call 22 (.cons (.loc 10) (.cons (.loc 11) .nil))))
    (.seq (.ite (.cmp .ne (.b1 .repr (.lst (.cons (.call 21 (.cons (.loc 10) (.cons (.loc 11) .nil))) (.cons (.call 21 (.cons (.loc 10) (.cons (.loc 11) .nil))) .nil)))) (.b1 .repr (.lst (.cons (.loc 5) (.cons (.loc 5) .nil))))) (.ret (.cst (.bl false))) .skip)
    (.seq (.ite (.and (.cmp .eq (.idx (.loc 5) (.cst (.int 0))) (.cst (.str "told"))) (.cmp .ne (.b1 .repr (.callK 6 2 [0, 1] (.cons (.loc 11) (.cons (.loc 10) .nil)))) (.b1 .repr (.idx (.loc 5) (.cst (.int 1)))))) (.ret (.cst (.bl false))) .skip)
    (.seq (.unp (.tp (.cons (.nm 12) (.cons (.nm 13) (.cons (.nm 14) .nil)))) (.loc 3))
    (.seq (.unp (.nm 6) (.call 13 (.cons (.loc 1) (.cons (.lst (.cons (.cst (.int 0)) (.cons (.neg (.cst (.int 1))) (.cons (.cst (.int 12)) (.cons (.cst (.int 13)) (.cons (.cst (.bl true)) (.cons (.cst .non) (.cons (.cst (.str "1")) (.cons (.tup (.cons (.cst (.int 1)) .nil)) (.cons (.bin .pow (.cst (.int 10)) (.cst (.int 30))) (.cons (.loc 12) .nil))))))))))) .nil))))
    (.seq (.unp (.nm 7) (.lst (.cons (.loc 3) (.cons (.tup (.cons (.loc 12) (.cons (.loc 13) (.cons (.loc 6) .nil)))) (.cons (.tup (.cons (.loc 6) (.cons (.loc 13) (.cons (.loc 14) .nil)))) (.cons (.tup (.cons (.loc 12) (.cons (.loc 6) (.cons (.loc 14) .nil)))) (.cons (.tup (.cons (.loc 12) (.cons (.loc 13) .nil))) (.cons (.tup (.cons (.loc 12) (.cons (.loc 13) (.cons (.loc 14) (.cons (.cst (.int 0)) .nil))))) (.cons (.b1 .list (.loc 3)) (.cons (.cst .non) (.cons (.cst (.str "grid")) .nil)))))))))))
    (.seq (.unp (.nm 7) (.bin .add (.loc 7) (.lst (.cons (.tup (.cons (.call 12 (.cons (.loc 1) (.cons (.cst (.int 14)) .nil))) (.cons (.call 12 (.cons (.loc 1) (.cons (.cst (.int 4)) .nil))) (.cons (.call 12 (.cons (.loc 1) (.cons (.cst (.int 4)) .nil))) .nil)))) (.cons (.tup (.cons (.cst (.int 4)) (.cons (.cst (.int 0)) (.cons (.cst (.int 4)) .nil)))) (.cons (.tup (.cons (.cst (.int 13)) (.cons (.cst (.int 1)) (.cons (.cst (.int 1)) .nil)))) .nil))))))
    (.seq (.unp (.nm 7) (.bin .add (.loc 7) (.lst (.cons (.tup (.cons (.loc 12) (.cons (.loc 12) (.cons (.loc 14) .nil)))) (.cons (.tup (.cons (.cst (.int 0)) (.cons (.cst (.int 0)) (.cons (.cst (.int 0)) .nil)))) .nil)))))
    (.seq (.for_ (.nm 8) (.loc 7) (.seq (.unp (.nm 5) (.call 19 (.cons (.loc 8) .nil)))
    (.ite (.cmp .ne (.b1 .repr (.lst (.cons (.call 5 (.cons (.loc 8) .nil)) (.cons (.callK 5 1 [0] (.cons (.loc 8) .nil)) .nil)))) (.b1 .repr (.lst (.cons (.loc 5) (.cons (.loc 5) .nil))))) (.ret (.cst (.bl false))) .skip)))
    (.seq (.unp (.tp (.cons (.nm 15) (.cons (.nm 16) .nil))) (.tup (.cons (.bin .add (.cst (.int 1)) (.call 12 (.cons (.loc 1) (.cons (.cst (.int 12)) .nil)))) (.cons (.alc (.lst .nil)) .nil))))
    (.seq (.for_ (.nm 9) (.rng2 (.cst (.int 1)) (.bin .add (.loc 15) (.cst (.int 1)))) (.ex (.meth .extend (.loc 16) (.cons (.comp [17] (.nm 17) (.rng1 (.loc 9)) (.cmp .eq (.bin .mod (.loc 15) (.loc 9)) (.cst (.int 0))) (.tup (.cons (.loc 9) (.cons (.loc 17) (.cons (.bin .fdiv (.loc 15) (.loc 9)) .nil))))) .nil))))
    (.ite (.cmp .ne (.b1 .repr (.lst (.cons (.call 10 (.cons (.loc 15) .nil)) (.cons (.callK 10 1 [0] (.cons (.loc 15) .nil)) .nil)))) (.b1 .repr (.bin .mul (.lst (.cons (.b1 .tuple (.b1 .sorted (.loc 16))) .nil)) (.cst (.int 2))))) (.ret (.cst (.bl false))) .skip))))))))))))))))))
    (.ret (.cst (.bl true)))))⟩
def T : List Df := [f_is_number, f_minus, f_times, f_det, f_partner, f_grid_error, f_grid_of, f_rest, f_has, f_turn, f_all_grids, f__law_deck, f__law_next, f__law_pick, f__law_det, f__law_linear, f__law_grid, f__law_has, f__law_turn, f__law_due_error, f__law_of, f__law_told, f__law_due, f__law_vectors, f__law_is_point_right, f_law]
abbrev i_is_number : Nat := 0
abbrev i_minus : Nat := 1
abbrev i_times : Nat := 2
abbrev i_det : Nat := 3
abbrev i_partner : Nat := 4
abbrev i_grid_error : Nat := 5
abbrev i_grid_of : Nat := 6
abbrev i_rest : Nat := 7
abbrev i_has : Nat := 8
abbrev i_turn : Nat := 9
abbrev i_all_grids : Nat := 10
abbrev i__law_deck : Nat := 11
abbrev i__law_next : Nat := 12
abbrev i__law_pick : Nat := 13
abbrev i__law_det : Nat := 14
abbrev i__law_linear : Nat := 15
abbrev i__law_grid : Nat := 16
abbrev i__law_has : Nat := 17
abbrev i__law_turn : Nat := 18
abbrev i__law_due_error : Nat := 19
abbrev i__law_of : Nat := 20
abbrev i__law_told : Nat := 21
abbrev i__law_due : Nat := 22
abbrev i__law_vectors : Nat := 23
abbrev i__law_is_point_right : Nat := 24
abbrev i_law : Nat := 25
end K67

set_option linter.all false
set_option maxRecDepth 100000
set_option maxHeartbeats 0
namespace K67
open PySem PySem.Spec PyProof.Rows L2 GV
def top (i : Nat) : Stmt := PySem.Challenge.pw_gridloops_k67_grids.main.body.getD i (.Pass ⟨0, 0, 0, 0⟩)
def mk (x : Str) (i : Nat) (N ps : List Str) (keep : Bool) (dfl : List D := []) : Dt := ⟨x, x, defArgs (top i), defBody (top i), defScope (top i), N, ps, keep, dfl⟩
abbrev d_is_number : Dt := mk "is_number" 8 ["value"] ["value"] false
abbrev d_minus : Dt := mk "minus" 9 ["one", "other"] ["one", "other"] false
abbrev d_times : Dt := mk "times" 10 ["number", "vector"] ["number", "vector"] false
abbrev d_det : Dt := mk "det" 11 ["one", "other"] ["one", "other"] false
abbrev d_partner : Dt := mk "partner" 12 ["vector", "one", "other", "ahead", "here", "whole"] ["vector"] false
abbrev d_grid_error : Dt := mk "grid_error" 14 ["value", "a", "b", "d", "item"] ["value"] false
abbrev d_grid_of : Dt := mk "grid_of" 15 ["one", "other", "index", "d", "a", "beside"] ["one", "other"] false
abbrev d_rest : Dt := mk "rest" 16 ["grid", "point", "rows", "a", "b", "d"] ["grid", "point"] false
abbrev d_has : Dt := mk "has" 17 ["grid", "point"] ["grid", "point"] false
abbrev d_turn : Dt := mk "turn" 18 ["grid", "found", "a", "b", "d"] ["grid"] false
abbrev d_all_grids : Dt := mk "all_grids" 19 ["index", "found", "a", "b"] ["index"] false
abbrev d__law_deck : Dt := mk "_law_deck" 21 ["script", "cell", "cells", "mixed"] ["script"] true
abbrev d__law_next : Dt := mk "_law_next" 22 ["deck", "many", "digits"] ["deck", "many"] false
abbrev d__law_pick : Dt := mk "_law_pick" 23 ["deck", "some"] ["deck", "some"] false
abbrev d__law_det : Dt := mk "_law_det" 24 ["one", "other"] ["one", "other"] false
abbrev d__law_linear : Dt := mk "_law_linear" 25 ["deck", "turns", "most", "step", "a", "b", "c", "d", "k", "way"] ["deck", "turns", "most"] false
abbrev d__law_grid : Dt := mk "_law_grid" 26 ["deck", "index", "a", "one"] ["deck"] false
abbrev d__law_has : Dt := mk "_law_has" 27 ["grid", "point", "a", "b", "d"] ["grid", "point"] false
abbrev d__law_turn : Dt := mk "_law_turn" 28 ["grid", "e"] ["grid"] false
abbrev d__law_due_error : Dt := mk "_law_due_error" 29 ["value", "a", "b", "d", "item"] ["value"] false
abbrev d__law_of : Dt := mk "_law_of" 30 ["one", "other", "a", "whole", "by", "first", "second"] ["one", "other"] false
abbrev d__law_told : Dt := mk "_law_told" 31 ["one", "other", "error"] ["one", "other"] false
abbrev d__law_due : Dt := mk "_law_due" 32 ["one", "other", "whole"] ["one", "other"] false
abbrev d__law_vectors : Dt := mk "_law_vectors" 33 ["deck", "grid", "way", "a", "b", "d", "p", "q", "r", "s", "one", "other"] ["deck", "grid"] false
abbrev d__law_is_point_right : Dt := mk "_law_is_point_right" 34 ["deck", "grid", "far", "point", "x", "does", "found", "y"] ["deck", "grid"] false
abbrev d_law : Dt := mk "law" 35 ["script", "deck", "again", "grid", "e", "due", "bad", "values", "value", "side", "one", "other", "a", "b", "d", "index", "found", "lean"] ["script"] false
abbrev ds : List Dt := [d_is_number, d_minus, d_times, d_det, d_partner, d_grid_error, d_grid_of, d_rest, d_has, d_turn, d_all_grids, d__law_deck, d__law_next, d__law_pick, d__law_det, d__law_linear, d__law_grid, d__law_has, d__law_turn, d__law_due_error, d__law_of, d__law_told, d__law_due, d__law_vectors, d__law_is_point_right, d_law]
abbrev tb : Tb where
  defs := ("is_number", ["value"]) :: ("minus", ["one", "other"]) :: ("times", ["number", "vector"]) :: ("det", ["one", "other"]) :: ("partner", ["vector"]) :: ("grid_error", ["value"]) :: ("grid_of", ["one", "other"]) :: ("rest", ["grid", "point"]) :: ("has", ["grid", "point"]) :: ("turn", ["grid"]) :: ("all_grids", ["index"]) :: ("_law_deck", ["script"]) :: ("_law_next", ["deck", "many"]) :: ("_law_pick", ["deck", "some"]) :: ("_law_det", ["one", "other"]) :: ("_law_linear", ["deck", "turns", "most"]) :: ("_law_grid", ["deck"]) :: ("_law_has", ["grid", "point"]) :: ("_law_turn", ["grid"]) :: ("_law_due_error", ["value"]) :: ("_law_of", ["one", "other"]) :: ("_law_told", ["one", "other"]) :: ("_law_due", ["one", "other"]) :: ("_law_vectors", ["deck", "grid"]) :: ("_law_is_point_right", ["deck", "grid"]) :: ("law", ["script"]) :: []
  cst := ("MAX_INDEX", .int 12) :: []
  free := ["abs", "all", "bool", "int", "isinstance", "len", "list", "range", "repr", "sorted", "tuple"]
  gcd := ["gcd"]
  kws := (7, ["grid", "point"], [0, 1]) :: (8, ["grid", "point"], [0, 1]) :: (9, ["grid"], [0]) :: (6, ["one", "other"], [0, 1]) :: (10, ["index"], [0]) :: (5, ["value"], [0]) :: []
  alc := [⟨67, 12, 67, 14⟩, ⟨160, 42, 160, 44⟩, ⟨190, 49, 190, 51⟩, ⟨77, 12, 77, 61⟩, ⟨77, 11, 77, 69⟩]
  frz := []
  dfl := []
  cls := [0, 1, 2, 7]
  ini := [2]
theorem code_ok : mapO (dfOf tb) ds = some T := by kernel_rfl
theorem sc_ok : ds.all scB = true := by decide +kernel
theorem names_ok : tb.defs = ds.map fun d => (d.name, d.ps) := by rfl
theorem cst_ok : tb.cst.all (fun q => match q.2 with | .int _ => true | .str _ => true | _ => false) = true := by rfl
theorem bind_ok : ∀ d ∈ ds, BindOk d := by
  intro d hd
  simp only [List.mem_cons, List.not_mem_nil, or_false] at hd
  rcases hd with rfl | rfl | rfl | rfl | rfl | rfl | rfl | rfl | rfl | rfl | rfl | rfl | rfl | rfl | rfl | rfl | rfl | rfl | rfl | rfl | rfl | rfl | rfl | rfl | rfl | rfl
  · exact .inl ⟨rfl, fun _ _ _ _ _ _ us hl => match us, hl with | [_], _ => rfl⟩
  · exact .inl ⟨rfl, fun _ _ _ _ _ _ us hl => match us, hl with | [_, _], _ => rfl⟩
  · exact .inl ⟨rfl, fun _ _ _ _ _ _ us hl => match us, hl with | [_, _], _ => rfl⟩
  · exact .inl ⟨rfl, fun _ _ _ _ _ _ us hl => match us, hl with | [_, _], _ => rfl⟩
  · exact .inl ⟨rfl, fun _ _ _ _ _ _ us hl => match us, hl with | [_], _ => rfl⟩
  · exact .inl ⟨rfl, fun _ _ _ _ _ _ us hl => match us, hl with | [_], _ => rfl⟩
  · exact .inl ⟨rfl, fun _ _ _ _ _ _ us hl => match us, hl with | [_, _], _ => rfl⟩
  · exact .inl ⟨rfl, fun _ _ _ _ _ _ us hl => match us, hl with | [_, _], _ => rfl⟩
  · exact .inl ⟨rfl, fun _ _ _ _ _ _ us hl => match us, hl with | [_, _], _ => rfl⟩
  · exact .inl ⟨rfl, fun _ _ _ _ _ _ us hl => match us, hl with | [_], _ => rfl⟩
  · exact .inl ⟨rfl, fun _ _ _ _ _ _ us hl => match us, hl with | [_], _ => rfl⟩
  · exact .inl ⟨rfl, fun _ _ _ _ _ _ us hl => match us, hl with | [_], _ => rfl⟩
  · exact .inl ⟨rfl, fun _ _ _ _ _ _ us hl => match us, hl with | [_, _], _ => rfl⟩
  · exact .inl ⟨rfl, fun _ _ _ _ _ _ us hl => match us, hl with | [_, _], _ => rfl⟩
  · exact .inl ⟨rfl, fun _ _ _ _ _ _ us hl => match us, hl with | [_, _], _ => rfl⟩
  · exact .inl ⟨rfl, fun _ _ _ _ _ _ us hl => match us, hl with | [_, _, _], _ => rfl⟩
  · exact .inl ⟨rfl, fun _ _ _ _ _ _ us hl => match us, hl with | [_], _ => rfl⟩
  · exact .inl ⟨rfl, fun _ _ _ _ _ _ us hl => match us, hl with | [_, _], _ => rfl⟩
  · exact .inl ⟨rfl, fun _ _ _ _ _ _ us hl => match us, hl with | [_], _ => rfl⟩
  · exact .inl ⟨rfl, fun _ _ _ _ _ _ us hl => match us, hl with | [_], _ => rfl⟩
  · exact .inl ⟨rfl, fun _ _ _ _ _ _ us hl => match us, hl with | [_, _], _ => rfl⟩
  · exact .inl ⟨rfl, fun _ _ _ _ _ _ us hl => match us, hl with | [_, _], _ => rfl⟩
  · exact .inl ⟨rfl, fun _ _ _ _ _ _ us hl => match us, hl with | [_, _], _ => rfl⟩
  · exact .inl ⟨rfl, fun _ _ _ _ _ _ us hl => match us, hl with | [_, _], _ => rfl⟩
  · exact .inl ⟨rfl, fun _ _ _ _ _ _ us hl => match us, hl with | [_, _], _ => rfl⟩
  · exact .inl ⟨rfl, fun _ _ _ _ _ _ us hl => match us, hl with | [_], _ => rfl⟩
theorem law_bind : BindN d_law := fun _ _ _ _ _ _ us hl => match us, hl with | [_], _ => rfl
theorem kw_ok : ∀ q ∈ tb.kws, ∃ d, ds[q.1]? = some d ∧ d.dfl = [] ∧ KwOk d q.2.1 q.2.2 := by
  intro q hq
  simp only [List.mem_cons, List.not_mem_nil, or_false] at hq
  rcases hq with rfl | rfl | rfl | rfl | rfl | rfl
  · refine ⟨_, rfl, rfl, ?_⟩
    intro _ _ _ _ _ _ us hl
    exact match us, hl with | [_, _], _ => rfl
  · refine ⟨_, rfl, rfl, ?_⟩
    intro _ _ _ _ _ _ us hl
    exact match us, hl with | [_, _], _ => rfl
  · refine ⟨_, rfl, rfl, ?_⟩
    intro _ _ _ _ _ _ us hl
    exact match us, hl with | [_], _ => rfl
  · refine ⟨_, rfl, rfl, ?_⟩
    intro _ _ _ _ _ _ us hl
    exact match us, hl with | [_, _], _ => rfl
  · refine ⟨_, rfl, rfl, ?_⟩
    intro _ _ _ _ _ _ us hl
    exact match us, hl with | [_], _ => rfl
  · refine ⟨_, rfl, rfl, ?_⟩
    intro _ _ _ _ _ _ us hl
    exact match us, hl with | [_], _ => rfl
theorem df_ok : ∀ q ∈ tb.dfl, ∃ d j, ds[q.1]? = some d ∧ d.dfl ≠ [] ∧ dflOk d.dfl = true ∧ q.2.2 = d.dfl.drop j ∧ q.2.1 + (d.dfl.length - j) = d.ps.length ∧ BindD d q.2.1 j := fun q hq => by cases hq
end K67

set_option linter.all false
set_option maxRecDepth 100000
set_option maxHeartbeats 0
namespace K67
open PySem PySem.Spec PyProof.Rows L2 GV
abbrev R : PySem.W.OpenRow := PySem.W.OpenLaw.row PySem.Challenge.rw_gridloops_k67_grids
abbrev loose : List Str := "MAX_INDEX" :: "GridError" :: "Unfit" :: "TooMany" :: "Refused" :: "is_number" :: "minus" :: "times" :: "det" :: "partner" :: "grid_error" :: "grid_of" :: "rest" :: "has" :: "turn" :: "all_grids" :: "_law_deck" :: "_law_next" :: "_law_pick" :: "_law_det" :: "_law_linear" :: "_law_grid" :: "_law_has" :: "_law_turn" :: "_law_due_error" :: "_law_of" :: "_law_told" :: "_law_due" :: "_law_vectors" :: "_law_is_point_right" :: []
abbrev hk : PySem.W.Hook := GV.hookY 6 (faOf tb ds) (ds.map Dt.D) (exOf tb)
def ob (s : PySem.W.SharedT) : GV.AlY := GV.obsY 6 (faOf tb ds) (ds.map Dt.D) (exOf tb) (HandSHeadRun.getT s)
theorem ob_eq (s : PySem.W.SharedT) : ob s = hk.obs s.abs := GV.obsY_eq (HandSHeadRun.getT_eq s)
theorem run (w : World) : HandSHeadRun.RunEqI R (PySem.W.view R.prog [0, 35]) hk ob 30000 loose w := by
  unfold HandSHeadRun.RunEqI
  kernel_rfl
theorem txt : Txt tb T ds := ⟨names_ok, code_ok, sc_ok, cst_ok, bind_ok, kw_ok, df_ok⟩
end K67

set_option linter.all false
set_option maxHeartbeats 1000000
/-! GW: the evaluator's answers by kinds and bounds. Part a: the kinds. -/
namespace GW
open PySem L2 GV

inductive A where
  | bot | non | bl | k (b : Bool) | int (lo hi : Int) | str (n : Nat) | sc (x : Str)
  | tup (as : List A)
  /-- items of one kind, so many of them; a list (true), a tuple (false) -/
  | seq (l : Bool) (e : A) (lo hi : Nat)
  /-- the script's kind of list -/
  | fz (e : A) (lo hi : Nat)
  | ref (i : Nat)
  | or (a b : A)
mutual
def gm : A → D → Prop
  | .bot, _ => False
  | .non, d => d = .non
  | .bl, d => ∃ b, d = .bl b
  | .k b, d => d = .bl b
  | .int lo hi, d => ∃ i, d = .int i ∧ lo ≤ i ∧ i ≤ hi
  | .str n, d => ∃ x, d = .str x ∧ x.length ≤ n
  | .sc x, d => d = .str x
  | .tup as, d => ∃ ds, d = .tup ds ∧ gms as ds
  | .fz e lo hi, d => ∃ ds, d = .fz ds ∧ lo ≤ ds.length ∧ ds.length ≤ hi ∧ ∀ x ∈ ds, gm e x
  | .seq true e lo hi, d => ∃ ds, d = .lst ds ∧ lo ≤ ds.length ∧ ds.length ≤ hi ∧ ∀ x ∈ ds, gm e x
  | .seq false e lo hi, d => ∃ ds, d = .tup ds ∧ lo ≤ ds.length ∧ ds.length ≤ hi ∧ ∀ x ∈ ds, gm e x
  | .ref i, d => d = .ref i
  | .or a b, d => gm a d ∨ gm b d
def gms : List A → List D → Prop
  | [], ds => ds = []
  | a :: as, ds => ∃ d r, ds = d :: r ∧ gm a d ∧ gms as r
end
theorem gms_length : ∀ {as : List A} {ds : List D}, gms as ds → ds.length = as.length
  | [], ds, h => by simp only [gms] at h; subst h; rfl
  | a :: as, ds, h => by
    simp only [gms] at h
    obtain ⟨d, r, rfl, _, h2⟩ := h
    simp [gms_length h2]
theorem gms_get : ∀ {as : List A} {ds : List D} {i : Nat} {a : A}, gms as ds → as[i]? = some a → ∃ d, ds[i]? = some d ∧ gm a d
  | [], ds, i, a, h, e => by simp at e
  | a :: as, ds, 0, b, h, e => by
    simp only [gms] at h
    obtain ⟨d, r, rfl, h1, h2⟩ := h
    simp at e; subst e
    exact ⟨d, rfl, h1⟩
  | a :: as, ds, i + 1, b, h, e => by
    simp only [gms] at h
    obtain ⟨d, r, rfl, h1, h2⟩ := h
    obtain ⟨x, hx, gx⟩ := gms_get (i := i) h2 (by simpa using e)
    exact ⟨x, by simpa using hx, gx⟩
theorem gms_app : ∀ {as bs : List A} {ds es : List D}, gms as ds → gms bs es → gms (as ++ bs) (ds ++ es)
  | [], bs, ds, es, h, h2 => by simp only [gms] at h; subst h; exact h2
  | a :: as, bs, ds, es, h, h2 => by
    simp only [gms] at h
    obtain ⟨d, r, rfl, h1, h3⟩ := h
    simp only [List.cons_append, gms]
    exact ⟨d, r ++ es, rfl, h1, gms_app h3 h2⟩
theorem gm_seq {l : Bool} {e : A} {lo hi : Nat} {d : D} : gm (.seq l e lo hi) d ↔ ∃ ds, ((l = true ∧ d = .lst ds) ∨ (l = false ∧ d = .tup ds)) ∧ lo ≤ ds.length ∧ ds.length ≤ hi ∧ ∀ x ∈ ds, gm e x := by
  cases l <;> simp [gm]

/-! ### joining -/
def imin (a b : Int) : Int := if a ≤ b then a else b
def imax (a b : Int) : Int := if a ≤ b then b else a
theorem imin_l (a b : Int) : imin a b ≤ a := by unfold imin; split <;> omega
theorem imin_r (a b : Int) : imin a b ≤ b := by unfold imin; split <;> omega
theorem imax_l (a b : Int) : a ≤ imax a b := by unfold imax; split <;> omega
theorem imax_r (a b : Int) : b ≤ imax a b := by unfold imax; split <;> omega
def bln : A → Bool
  | .k _ => true
  | .bl => true
  | _ => false
def txt : A → Option Nat
  | .sc x => some x.length
  | .str n => some n
  | _ => none
/-- do two alternatives go together -/
def sameK : A → A → Bool
  | .non, .non => true
  | .int _ _, .int _ _ => true
  | .seq l _ _ _, .seq l' _ _ _ => l == l'
  | .tup as, .tup bs => as.length == bs.length
  | .ref i, .ref j => i == j
  | a, b => (bln a && bln b) || ((txt a).isSome && (txt b).isSome)
def zipA (f : A → A → A) : List A → List A → List A
  | a :: as, b :: bs => f a b :: zipA f as bs
  | _, _ => []
mutual
def jnF : Nat → A → A → A
  | 0, a, b => .or a b
  | n + 1, a, b => match b with
    | .or b1 b2 => jnF n (jnF n a b1) b2
    | .bot => a
    | b => addF n b a
def addF : Nat → A → A → A
  | 0, x, a => .or a x
  | n + 1, x, a => match a with
    | .bot => x
    | .or a1 a2 => if sameK a1 x = true then .or (mrgF n a1 x) a2 else .or a1 (addF n x a2)
    | a => if sameK a x = true then mrgF n a x else .or a x
def mrgF : Nat → A → A → A
  | 0, a, b => .or a b
  | n + 1, a, b => match a, b with
    | .non, .non => .non
    | .int l h, .int l' h' => .int (imin l l') (imax h h')
    | .seq l e lo hi, .seq l' e' lo' hi' => if l = l' then .seq l (jnF n e e') (min lo lo') (max hi hi') else .or (.seq l e lo hi) (.seq l' e' lo' hi')
    | .tup as, .tup bs => if as.length = bs.length then .tup (zipA (jnF n) as bs) else .or (.tup as) (.tup bs)
    | .ref i, .ref j => if i = j then .ref i else .or (.ref i) (.ref j)
    | .k x, .k y => if x = y then .k x else .bl
    | .sc x, .sc y => if x = y then .sc x else .str (max x.length y.length)
    | a, b => if bln a = true ∧ bln b = true then .bl else match txt a, txt b with
      | some n, some m => .str (max n m)
      | _, _ => .or a b
end
theorem bln_ok {a : A} {d : D} (h : bln a = true) (g : gm a d) : ∃ b, d = .bl b := by
  cases a <;> simp [bln] at h
  · simpa [gm] using g
  · exact ⟨_, by simpa [gm] using g⟩
theorem txt_ok {a : A} {d : D} {n : Nat} (h : txt a = some n) (g : gm a d) : ∃ x, d = .str x ∧ x.length ≤ n := by
  cases a <;> simp [txt] at h
  · subst h; simpa [gm] using g
  · subst h; exact ⟨_, by simpa [gm] using g, Nat.le_refl _⟩
theorem zip_l {f : A → A → A} (hf : ∀ a b d, gm a d → gm (f a b) d) : ∀ {as bs : List A} {ds : List D}, as.length = bs.length → gms as ds → gms (zipA f as bs) ds
  | [], [], ds, _, h => h
  | [], _ :: _, ds, e, h => by simp at e
  | _ :: _, [], ds, e, h => by simp at e
  | a :: as, b :: bs, ds, e, h => by
    simp only [gms] at h
    obtain ⟨d, r, rfl, h1, h2⟩ := h
    simp only [zipA, gms]
    exact ⟨d, r, rfl, hf a b d h1, zip_l hf (by simpa using e) h2⟩
theorem zip_r {f : A → A → A} (hf : ∀ a b d, gm b d → gm (f a b) d) : ∀ {as bs : List A} {ds : List D}, as.length = bs.length → gms bs ds → gms (zipA f as bs) ds
  | [], [], ds, _, h => h
  | [], _ :: _, ds, e, h => by simp at e
  | _ :: _, [], ds, e, h => by simp at e
  | a :: as, b :: bs, ds, e, h => by
    simp only [gms] at h
    obtain ⟨d, r, rfl, h1, h2⟩ := h
    simp only [zipA, gms]
    exact ⟨d, r, rfl, hf a b d h1, zip_r hf (by simpa using e) h2⟩
theorem jn_all : ∀ n, (∀ a b d, gm a d ∨ gm b d → gm (jnF n a b) d) ∧ (∀ x a d, gm x d ∨ gm a d → gm (addF n x a) d) ∧ (∀ a b d, gm a d ∨ gm b d → gm (mrgF n a b) d)
  | 0 => ⟨fun a b d h => by simpa [jnF, gm] using h, fun x a d h => by simpa [addF, gm] using h.symm, fun a b d h => by simpa [mrgF, gm] using h⟩
  | n + 1 => by
    obtain ⟨ij, ia, im⟩ := jn_all n
    refine ⟨fun a b d h => ?_, fun x a d h => ?_, fun a b d h => ?_⟩
    · unfold jnF
      split
      · rename_i b1 b2
        refine ij _ _ _ ?_
        rcases h with h | h
        · exact .inl (ij _ _ _ (.inl h))
        · simp only [gm] at h
          rcases h with h | h
          · exact .inl (ij _ _ _ (.inr h))
          · exact .inr h
      · rcases h with h | h
        · exact h
        · simp only [gm] at h
      · exact ia _ _ _ h.symm
    · unfold addF
      split
      · rcases h with h | h
        · exact h
        · simp only [gm] at h
      · rename_i a1 a2
        split
        · simp only [gm] at h ⊢
          rcases h with h | h | h
          · exact .inl (im _ _ _ (.inr h))
          · exact .inl (im _ _ _ (.inl h))
          · exact .inr h
        · simp only [gm] at h ⊢
          rcases h with h | h | h
          · exact .inr (ia _ _ _ (.inl h))
          · exact .inl h
          · exact .inr (ia _ _ _ (.inr h))
      · split
        · exact im _ _ _ h.symm
        · simp only [gm]
          exact h.symm
    · unfold mrgF
      split
      · rcases h with h | h <;> exact h
      · rename_i l hh l' h'
        simp only [gm] at h ⊢
        have := imin_l l l'
        have := imin_r l l'
        have := imax_l hh h'
        have := imax_r hh h'
        rcases h with ⟨i, e, h1, h2⟩ | ⟨i, e, h1, h2⟩ <;> exact ⟨i, e, by omega, by omega⟩
      · rename_i l e lo hi l' e' lo' hi'
        split
        · rename_i el
          subst el
          rw [gm_seq, gm_seq] at h
          rw [gm_seq]
          rcases h with ⟨ds, h1, h2, h3, h4⟩ | ⟨ds, h1, h2, h3, h4⟩
          · exact ⟨ds, h1, by omega, by omega, fun x hx => ij _ _ _ (.inl (h4 x hx))⟩
          · exact ⟨ds, h1, by omega, by omega, fun x hx => ij _ _ _ (.inr (h4 x hx))⟩
        · simpa only [gm] using h
      · rename_i as bs
        split
        · rename_i el
          simp only [gm] at h ⊢
          rcases h with ⟨ds, e, h⟩ | ⟨ds, e, h⟩
          · exact ⟨ds, e, zip_l (fun a b d g => ij a b d (.inl g)) el h⟩
          · exact ⟨ds, e, zip_r (fun a b d g => ij a b d (.inr g)) el h⟩
        · simpa only [gm] using h
      · rename_i i j
        split
        · rename_i e
          subst e
          simpa only [gm, or_self] using h
        · simpa only [gm] using h
      · rename_i x y
        split
        · rename_i e
          subst e
          simpa only [gm, or_self] using h
        · simp only [gm] at h ⊢
          rcases h with h | h <;> exact ⟨_, h⟩
      · rename_i x y
        split
        · rename_i e
          subst e
          simpa only [gm, or_self] using h
        · simp only [gm] at h ⊢
          rcases h with h | h
          · exact ⟨_, h, Nat.le_max_left _ _⟩
          · exact ⟨_, h, Nat.le_max_right _ _⟩
      · split
        · rename_i hb
          simp only [gm]
          rcases h with h | h
          · exact bln_ok hb.1 h
          · exact bln_ok hb.2 h
        · split
          · rename_i n m e1 e2
            simp only [gm]
            rcases h with h | h
            · obtain ⟨x, e, hx⟩ := txt_ok e1 h
              exact ⟨x, e, Nat.le_trans hx (Nat.le_max_left _ _)⟩
            · obtain ⟨x, e, hx⟩ := txt_ok e2 h
              exact ⟨x, e, Nat.le_trans hx (Nat.le_max_right _ _)⟩
          · simpa only [gm] using h
def jn (a b : A) : A := jnF 24 a b
theorem jn_l {a b : A} {d : D} (h : gm a d) : gm (jn a b) d := (jn_all 24).1 a b d (.inl h)
theorem jn_r {a b : A} {d : D} (h : gm b d) : gm (jn a b) d := (jn_all 24).1 a b d (.inr h)

/-! ### below -/
def allA (f : A → A → Bool) : List A → List A → Bool
  | [], [] => true
  | a :: as, b :: bs => f a b && allA f as bs
  | _, _ => false
def leF : Nat → A → A → Bool
  | 0, _, _ => false
  | n + 1, a, b => match a with
    | .bot => true
    | .or a1 a2 => leF n a1 b && leF n a2 b
    | a => match b with
      | .or b1 b2 => leF n a b1 || leF n a b2
      | b => (match a, b with
        | .non, .non => true
        | .k x, .k y => x == y
        | .k _, .bl => true
        | .bl, .bl => true
        | .int l h, .int l' h' => decide (l' ≤ l) && decide (h ≤ h')
        | .sc x, .sc y => decide (x = y)
        | .sc x, .str n => decide (x.length ≤ n)
        | .str m, .str n => decide (m ≤ n)
        | .tup as, .tup bs => allA (leF n) as bs
        | .tup as, .seq false e lo hi => as.all (fun a => leF n a e) && decide (lo ≤ as.length) && decide (as.length ≤ hi)
        | .seq l e lo hi, .seq l' e' lo' hi' => (l == l') && leF n e e' && decide (lo' ≤ lo) && decide (hi ≤ hi')
        | .ref i, .ref j => i == j
        | _, _ => false)
theorem allA_ok {f : A → A → Bool} (hf : ∀ a b d, f a b = true → gm a d → gm b d) : ∀ {as bs : List A} {ds : List D}, allA f as bs = true → gms as ds → gms bs ds
  | [], [], ds, _, h => h
  | [], _ :: _, ds, e, h => by simp [allA] at e
  | _ :: _, [], ds, e, h => by simp [allA] at e
  | a :: as, b :: bs, ds, e, h => by
    simp only [allA, Bool.and_eq_true] at e
    simp only [gms] at h ⊢
    obtain ⟨d, r, rfl, h1, h2⟩ := h
    exact ⟨d, r, rfl, hf a b d e.1 h1, allA_ok hf e.2 h2⟩
theorem gms_mem : ∀ {as : List A} {ds : List D} {d : D}, gms as ds → d ∈ ds → ∃ a ∈ as, gm a d
  | [], ds, d, h, hd => by simp only [gms] at h; subst h; cases hd
  | a :: as, ds, d, h, hd => by
    simp only [gms] at h
    obtain ⟨x, r, rfl, h1, h2⟩ := h
    rcases List.mem_cons.mp hd with rfl | hd
    · exact ⟨a, List.mem_cons_self, h1⟩
    · obtain ⟨b, hb, gb⟩ := gms_mem h2 hd
      exact ⟨b, List.mem_cons_of_mem _ hb, gb⟩
theorem le_ok : ∀ n a b d, leF n a b = true → gm a d → gm b d
  | 0, a, b, d, h, _ => by simp [leF] at h
  | n + 1, a, b, d, h, g => by
    have ih := le_ok n
    unfold leF at h
    split at h
    · simp only [gm] at g
    · rename_i a1 a2
      simp only [Bool.and_eq_true] at h
      simp only [gm] at g
      rcases g with g | g
      · exact ih _ _ _ h.1 g
      · exact ih _ _ _ h.2 g
    · split at h
      · rename_i b1 b2
        simp only [Bool.or_eq_true] at h
        simp only [gm]
        rcases h with h | h
        · exact .inl (ih _ _ _ h g)
        · exact .inr (ih _ _ _ h g)
      · split at h
        · exact g
        · rename_i x y _ _
          rw [← eq_of_beq h]; exact g
        · simp only [gm] at g ⊢; exact ⟨_, g⟩
        · exact g
        · simp only [Bool.and_eq_true, decide_eq_true_eq] at h
          simp only [gm] at g ⊢
          obtain ⟨i, e, h1, h2⟩ := g
          exact ⟨i, e, by omega, by omega⟩
        · rw [← of_decide_eq_true h]; exact g
        · simp only [gm] at g ⊢; exact ⟨_, g, of_decide_eq_true h⟩
        · simp only [gm] at g ⊢
          obtain ⟨x, e, hx⟩ := g
          exact ⟨x, e, Nat.le_trans hx (of_decide_eq_true h)⟩
        · simp only [gm] at g ⊢
          obtain ⟨ds, e, hs⟩ := g
          exact ⟨ds, e, allA_ok ih h hs⟩
        · rename_i as e lo hi _ _
          simp only [Bool.and_eq_true, decide_eq_true_eq] at h
          simp only [gm] at g ⊢
          obtain ⟨ds, ed, hs⟩ := g
          have hl := gms_length hs
          refine ⟨ds, ed, by omega, by omega, fun x hx => ?_⟩
          obtain ⟨a, ha, ga⟩ := gms_mem hs hx
          exact ih _ _ _ (List.all_eq_true.mp h.1.1 a ha) ga
        · simp only [Bool.and_eq_true, decide_eq_true_eq] at h
          rw [gm_seq] at g ⊢
          obtain ⟨ds, h1, h2, h3, h4⟩ := g
          have e := eq_of_beq h.1.1.1
          subst e
          exact ⟨ds, h1, by omega, by omega, fun x hx => ih _ _ _ h.1.1.2 (h4 x hx)⟩
        · rw [← eq_of_beq h]; exact g
        · cases h
def le (a b : A) : Bool := leF 24 a b
theorem le_gm {a b : A} {d : D} (h : le a b = true) (g : gm a d) : gm b d := le_ok 24 a b d h g
end GW

set_option linter.all false
set_option maxHeartbeats 1000000
/-! GW, part b: operators by kinds. -/
namespace GW
open PySem L2 GV

/-! ### the store, the names -/
inductive AC where
  | lst (e : A) (lo hi : Nat) | dk (kas : List (L2.Key × A)) | opq
def gmK : List (L2.Key × A) → List (L2.Key × D) → Prop
  | [], kvs => kvs = []
  | (k, a) :: r, kvs => ∃ d t, kvs = (k, d) :: t ∧ gm a d ∧ gmK r t
def gmC : AC → Cell → Prop
  | .lst e lo hi, c => ∃ ds, c = .lst ds ∧ lo ≤ ds.length ∧ ds.length ≤ hi ∧ ∀ x ∈ ds, gm e x
  | .dk kas, c => ∃ kvs, c = .dk kvs ∧ gmK kas kvs
  | .opq, _ => True
abbrev AS := List AC
structure gmS (s : AS) (S : Sto) : Prop where
  len : s.length = S.length
  at_ : ∀ (i : Nat) (c : AC), s[i]? = some c → ∃ x, S[i]? = some x ∧ gmC c x
/-- all but these cells stand -/
structure Same (wr : List Nat) (S S' : Sto) : Prop where
  len : S.length ≤ S'.length
  at_ : ∀ i, i ∉ wr → i < S.length → S'[i]? = S[i]?
theorem Same.refl (S : Sto) : Same [] S S := ⟨Nat.le_refl _, fun _ _ _ => rfl⟩
theorem Same.trans {w w' : List Nat} {S S1 S2 : Sto} (a : Same w S S1) (b : Same w' S1 S2) : Same (w ++ w') S S2 :=
  ⟨Nat.le_trans a.len b.len, fun i hi hl => by
    rw [List.mem_append, not_or] at hi
    rw [b.at_ i hi.2 (Nat.lt_of_lt_of_le hl a.len), a.at_ i hi.1 hl]⟩

/-! ### alternatives -/
def lift1 (f : A → Option A) : Nat → A → Option A
  | 0, _ => none
  | n + 1, a => match a with
    | .bot => some .bot
    | .or a b => (match lift1 f n a, lift1 f n b with
      | some x, some y => some (jn x y)
      | _, _ => none)
    | a => f a
/-- a one-place operation is told -/
def O1 (o : D → Option D) (f : A → Option A) : Prop := ∀ a c x, f a = some c → gm a x → ∃ d, o x = some d ∧ gm c d
theorem lift1_ok {o : D → Option D} {f : A → Option A} (h : O1 o f) : ∀ n, O1 o (lift1 f n)
  | 0 => fun a c x e _ => by simp [lift1] at e
  | n + 1 => fun a c x e g => by
    have ih := lift1_ok h n
    unfold lift1 at e
    split at e
    · simp only [gm] at g
    · split at e
      · rename_i y z e1 e2
        cases e
        simp only [gm] at g
        rcases g with g | g
        · obtain ⟨d, hd, gd⟩ := ih _ _ _ e1 g; exact ⟨d, hd, jn_l gd⟩
        · obtain ⟨d, hd, gd⟩ := ih _ _ _ e2 g; exact ⟨d, hd, jn_r gd⟩
      · cases e
    · exact h _ _ _ e g
def O2 (o : D → D → Option D) (f : A → A → Option A) : Prop := ∀ a b c x y, f a b = some c → gm a x → gm b y → ∃ d, o x y = some d ∧ gm c d
def lift2 (f : A → A → Option A) (n : Nat) (a b : A) : Option A := lift1 (fun a => lift1 (f a) n b) n a
theorem lift2_ok {o : D → D → Option D} {f : A → A → Option A} (h : O2 o f) (n : Nat) : O2 o (lift2 f n) := fun a b c x y e ga gb =>
  lift1_ok (o := fun x => o x y) (f := fun a => lift1 (f a) n b) (fun a c x e ga => lift1_ok (o := fun y => o x y) (f := f a) (fun b c y e gb => h a b c x y e ga gb) n b c y e gb) n a c x e ga

/-! ### views -/
def jnAll : List A → A
  | [] => .bot
  | a :: as => jn a (jnAll as)
theorem jnAll_ok : ∀ {as : List A} {a : A} {d : D}, a ∈ as → gm a d → gm (jnAll as) d
  | b :: as, a, d, h, g => by
    rcases List.mem_cons.mp h with rfl | h
    · exact jn_l g
    · exact jn_r (jnAll_ok h g)
/-- a tuple -/
def tupA : A → Option (A × Nat × Nat)
  | .tup as => some (jnAll as, as.length, as.length)
  | .seq false e lo hi => some (e, lo, hi)
  | _ => none
theorem tupA_ok {a e : A} {lo hi : Nat} {d : D} (h : tupA a = some (e, lo, hi)) (g : gm a d) : ∃ ds, d = .tup ds ∧ lo ≤ ds.length ∧ ds.length ≤ hi ∧ ∀ x ∈ ds, gm e x := by
  unfold tupA at h
  split at h
  · cases h
    simp only [gm] at g
    obtain ⟨ds, e, hs⟩ := g
    have hl := gms_length hs
    refine ⟨ds, e, by omega, by omega, fun x hx => ?_⟩
    obtain ⟨b, hb, gb⟩ := gms_mem hs hx
    exact jnAll_ok hb gb
  · cases h
    simpa only [gm] using g
  · cases h
/-- a list, or a cell that is one -/
def lstA (s : AS) : A → Option (A × Nat × Nat)
  | .seq true e lo hi => some (e, lo, hi)
  | .ref i => match s[i]? with
    | some (.lst e lo hi) => some (e, lo, hi)
    | _ => none
  | _ => none
theorem lstA_ok {s : AS} {S : Sto} {a e : A} {lo hi : Nat} {d : D} (gs : gmS s S) (h : lstA s a = some (e, lo, hi)) (g : gm a d) : ∃ ds, litems S d = some ds ∧ items S d = some ds ∧ lo ≤ ds.length ∧ ds.length ≤ hi ∧ ∀ x ∈ ds, gm e x := by
  unfold lstA at h
  split at h
  · cases h
    simp only [gm] at g
    obtain ⟨ds, rfl, h⟩ := g
    exact ⟨ds, rfl, rfl, h⟩
  · rename_i i
    split at h
    · rename_i e' lo' hi' hs
      cases h
      simp only [gm] at g
      subst g
      obtain ⟨c, hc, gc⟩ := gs.at_ i _ hs
      obtain ⟨ds, rfl, h⟩ := gc
      exact ⟨ds, by simp [litems, hc], by simp [items, hc], h⟩
    · cases h
  · cases h
def seqA (s : AS) (a : A) : Option (A × Nat × Nat) := match tupA a with
  | some q => some q
  | none => match lstA s a with
    | some q => some q
    | none => match a with
      | .fz e lo hi => some (e, lo, hi)
      | _ => none
theorem seqA_ok {s : AS} {S : Sto} {a e : A} {lo hi : Nat} {d : D} (gs : gmS s S) (h : seqA s a = some (e, lo, hi)) (g : gm a d) : ∃ ds, items S d = some ds ∧ lo ≤ ds.length ∧ ds.length ≤ hi ∧ ∀ x ∈ ds, gm e x := by
  unfold seqA at h
  split at h
  · rename_i q hq
    cases h
    obtain ⟨ds, rfl, h⟩ := tupA_ok hq g
    exact ⟨ds, rfl, h⟩
  · split at h
    · rename_i q hq
      cases h
      obtain ⟨ds, _, h1, h2⟩ := lstA_ok gs hq g
      exact ⟨ds, h1, h2⟩
    · split at h
      · cases h
        simp only [gm] at g
        obtain ⟨ds, rfl, h⟩ := g
        exact ⟨ds, rfl, h⟩
      · cases h

/-! ### + - * // % ** -/
def mag (l h : Int) : Nat := max l.natAbs h.natAbs
theorem mag_ok {l h i : Int} (h1 : l ≤ i) (h2 : i ≤ h) : i.natAbs ≤ mag l h := by
  unfold mag
  omega
theorem log2_mono {a b : Nat} (h : a ≤ b) : a.log2 ≤ b.log2 := by
  by_cases ha : a = 0
  · subst ha; simp
  · have hb : b ≠ 0 := by omega
    exact (Nat.le_log2 hb).mpr (Nat.le_trans (Nat.log2_self_le ha) h)
def aMul (l h l' h' : Int) : A := if 0 ≤ l ∧ 0 ≤ l' then .int (l * l') (h * h') else .int (-((mag l h * mag l' h' : Nat) : Int)) ((mag l h * mag l' h' : Nat) : Int)
theorem aMul_ok {l h l' h' i j : Int} (h1 : l ≤ i) (h2 : i ≤ h) (h3 : l' ≤ j) (h4 : j ≤ h') : gm (aMul l h l' h') (.int (i * j)) := by
  unfold aMul
  split
  · rename_i hc
    exact ⟨_, rfl, Int.mul_le_mul h1 h3 hc.2 (by omega), Int.mul_le_mul h2 h4 (by omega) (by omega)⟩
  · have m1 := mag_ok h1 h2
    have m2 := mag_ok h3 h4
    have m : (i * j).natAbs ≤ mag l h * mag l' h' := by rw [Int.natAbs_mul]; exact Nat.mul_le_mul m1 m2
    refine ⟨_, rfl, ?_, ?_⟩ <;> omega
def aDiv (l h l' : Int) : A := if 0 ≤ l then .int 0 (h.fdiv l') else .int (-((mag l h : Nat) : Int)) ((mag l h : Nat) : Int)
theorem fdiv_abs {i j : Int} (hj : 1 ≤ j) : (i.fdiv j).natAbs ≤ i.natAbs := by
  rw [Int.fdiv_eq_ediv_of_nonneg i (by omega)]
  have h1 := Int.ediv_mul_le i (show j ≠ 0 by omega)
  have h2 := Int.lt_ediv_add_one_mul_self i (show 0 < j by omega)
  by_cases hi : 0 ≤ i
  · have h3 : 0 ≤ i / j := Int.ediv_nonneg hi (by omega)
    have h4 : i / j ≤ i := Int.ediv_le_self j hi
    omega
  · have h3 : i / j < 0 := Int.ediv_neg_of_neg_of_pos (by omega) (by omega)
    have h4 : i ≤ i / j := by
      have : (i / j) * j ≤ (i / j) * 1 := Int.mul_le_mul_of_nonpos_left (by omega) hj
      have e : (i / j + 1) * j = (i / j) * j + j := by rw [Int.add_mul, Int.one_mul]
      have h5 : (i / j + 1) * j ≤ (i / j + 1) * 1 := Int.mul_le_mul_of_nonpos_left (by omega) hj
      rw [Int.mul_one] at h5
      omega
    omega
theorem aDiv_ok {l h l' i j : Int} (h1 : l ≤ i) (h2 : i ≤ h) (h3 : l' ≤ j) (h4 : 1 ≤ l') : gm (aDiv l h l') (.int (i.fdiv j)) := by
  unfold aDiv
  split
  · rename_i hl
    refine ⟨_, rfl, ?_, ?_⟩
    · rw [Int.fdiv_eq_ediv_of_nonneg i (by omega)]; exact Int.ediv_nonneg (by omega) (by omega)
    · rw [Int.fdiv_eq_ediv_of_nonneg i (by omega), Int.fdiv_eq_ediv_of_nonneg h (by omega)]
      exact Int.le_trans (Int.ediv_le_ediv (by omega) h2) (Int.le_ediv_of_mul_le (by omega) (Int.le_trans (Int.mul_le_mul_of_nonneg_left h3 (Int.ediv_nonneg (by omega) (by omega))) (Int.ediv_mul_le h (by omega))))
  · have m1 := mag_ok h1 h2
    have m2 := fdiv_abs (i := i) (j := j) (by omega)
    refine ⟨_, rfl, ?_, ?_⟩ <;> omega
def bI (b : Bool) : Int := if b then 1 else 0
def aBin1 (s : AS) (o : Bop) (a b : A) : Option A := match o, a, b with
  | .add, .int l h, .int l' h' => some (.int (l + l') (h + h'))
  | .add, .int l h, .bl => some (.int l (h + 1))
  | .add, .int l h, .k b => some (.int (l + bI b) (h + bI b))
  | .add, .tup as, .tup bs => if szOk (as.length + bs.length) then some (.tup (as ++ bs)) else none
  | .add, a, b => (match tupA a, tupA b with
    | some (e, lo, hi), some (e', lo', hi') => if szOk (hi + hi') then some (.seq false (jn e e') (lo + lo') (hi + hi')) else none
    | _, _ => match lstA s a, lstA s b with
      | some (e, lo, hi), some (e', lo', hi') => if szOk (hi + hi') then some (.seq true (jn e e') (lo + lo') (hi + hi')) else none
      | _, _ => match txt a, txt b with
        | some n, some m => if szOk (n + m) then some (.str (n + m)) else none
        | _, _ => none)
  | .sub, .int l h, .int l' h' => some (.int (l - h') (h - l'))
  | .mul, .int l h, .int l' h' => if (mag l h).log2 + (mag l' h').log2 < 100000000 then some (aMul l h l' h') else none
  | .mul, a, .int l h => (match tupA a with
    | some (e, lo, hi) => if 1 ≤ lo ∧ 2 ≤ l ∧ h ≤ 1000 ∧ hi ≤ 1000 then some (.seq false e (lo * l.toNat) (hi * h.toNat)) else none
    | none => match lstA s a with
      | some (e, lo, hi) => if -(2 ^ 63) ≤ l ∧ h < 2 ^ 63 ∧ hi * h.toNat ≤ 16777216 then some (.seq true e (lo * l.toNat) (hi * h.toNat)) else none
      | none => none)
  | .fdiv, .int l h, .int l' h' => if 1 ≤ l' ∧ (h' < 1073741824 ∨ (mag l' h').log2 < 9000) then some (aDiv l h l') else none
  | .mod, .int l h, .int l' h' => if 1 ≤ l' then some (if 0 ≤ l ∧ h < l' then .int l h else .int 0 (h' - 1)) else none
  | .pow, .int l h, .int l' h' => if l = h ∧ l' = h' ∧ powOk l l' then some (.int (l ^ l'.toNat) (l ^ l'.toNat)) else none
  | _, _, _ => none
theorem rep_all {e : A} {ds : List D} (h : ∀ x ∈ ds, gm e x) : ∀ k, ∀ x ∈ (List.replicate k ds).flatten, gm e x := fun k x hx => by
  obtain ⟨l, hl, hx⟩ := List.mem_flatten.mp hx
  rw [(List.mem_replicate.mp hl).2] at hx
  exact h x hx
theorem rep_len (ds : List D) (k : Nat) : (List.replicate k ds).flatten.length = ds.length * k := by
  induction k with
  | zero => simp
  | succ k ih => rw [List.replicate_succ, List.flatten_cons, List.length_append, ih, Nat.mul_succ, Nat.add_comm]
theorem aBin1_ok {s : AS} {S : Sto} (gs : gmS s S) (o : Bop) : O2 (bin S o) (aBin1 s o) := by
  intro a b c x y h ga gb
  unfold aBin1 at h
  split at h
  · cases h
    obtain ⟨i, rfl, h1, h2⟩ := (show ∃ i, x = .int i ∧ _ ∧ _ from ga)
    obtain ⟨j, rfl, h3, h4⟩ := (show ∃ i, y = .int i ∧ _ ∧ _ from gb)
    exact ⟨_, rfl, _, rfl, by omega, by omega⟩
  · cases h
    obtain ⟨i, rfl, h1, h2⟩ := (show ∃ i, x = .int i ∧ _ ∧ _ from ga)
    obtain ⟨j, rfl⟩ := (show ∃ j, y = .bl j from gb)
    refine ⟨_, rfl, _, rfl, ?_, ?_⟩ <;> cases j <;> simp <;> omega
  · rename_i l hh b
    cases h
    obtain ⟨i, rfl, h1, h2⟩ := (show ∃ i, x = .int i ∧ _ ∧ _ from ga)
    have e : y = .bl b := gb
    subst e
    refine ⟨_, rfl, _, rfl, ?_, ?_⟩ <;> cases b <;> simp [bI] <;> omega
  · split at h
    · rename_i hz
      cases h
      obtain ⟨ds, rfl, g1⟩ := (show ∃ ds, x = .tup ds ∧ _ from ga)
      obtain ⟨es, rfl, g2⟩ := (show ∃ ds, y = .tup ds ∧ _ from gb)
      refine ⟨.tup (ds ++ es), ?_, ds ++ es, rfl, gms_app g1 g2⟩
      show (if szOk (ds.length + es.length) then some (D.tup (ds ++ es)) else none) = _
      rw [if_pos (by rw [gms_length g1, gms_length g2]; exact hz)]
    · cases h
  · split at h
    · rename_i e lo hi e' lo' hi' h1 h2
      split at h
      · rename_i hz
        cases h
        obtain ⟨ds, rfl, l1, l2, g1⟩ := tupA_ok h1 ga
        obtain ⟨es, rfl, l3, l4, g2⟩ := tupA_ok h2 gb
        have hz' : szOk (ds.length + es.length) := Nat.le_trans (by omega) hz
        refine ⟨.tup (ds ++ es), ?_, ds ++ es, rfl, by simp; omega, by simp; omega, fun z hz => ?_⟩
        · show (if szOk (ds.length + es.length) then some (D.tup (ds ++ es)) else none) = _
          rw [if_pos hz']
        · rcases List.mem_append.mp hz with hz | hz
          · exact jn_l (g1 z hz)
          · exact jn_r (g2 z hz)
      · cases h
    · split at h
      · rename_i e lo hi e' lo' hi' h1 h2
        split at h
        · rename_i hz
          cases h
          obtain ⟨ds, q1, _, l1, l2, g1⟩ := lstA_ok gs h1 ga
          obtain ⟨es, q2, _, l3, l4, g2⟩ := lstA_ok gs h2 gb
          have hz' : szOk (ds.length + es.length) := Nat.le_trans (by omega) hz
          refine ⟨.lst (ds ++ es), ?_, ds ++ es, rfl, by simp; omega, by simp; omega, fun z hz => ?_⟩
          · have e : bin S .add x y = match litems S x, litems S y with
                | some a, some b => if szOk (a.length + b.length) then some (.lst (a ++ b)) else none
                | _, _ => none := by
              cases x <;> first | rfl | (cases y <;> first | rfl | (simp [litems] at q1))
            rw [e, q1, q2]
            simp only [if_pos hz']
          · rcases List.mem_append.mp hz with hz | hz
            · exact jn_l (g1 z hz)
            · exact jn_r (g2 z hz)
        · cases h
      · split at h
        · rename_i n m h1 h2
          split at h
          · rename_i hz
            cases h
            obtain ⟨u, rfl, l1⟩ := txt_ok h1 ga
            obtain ⟨v, rfl, l2⟩ := txt_ok h2 gb
            have hz' : szOk (u.length + v.length) := Nat.le_trans (by omega) hz
            refine ⟨.str (u ++ v), ?_, _, rfl, ?_⟩
            · show (if szOk (u.length + v.length) then some (D.str (u ++ v)) else none) = _
              rw [if_pos hz']
            · have : (u ++ v).length = u.length + v.length := by
                show (u.cps ++ v.cps).size = _
                rw [Array.size_append]; rfl
              omega
          · cases h
        · cases h
  · cases h
    obtain ⟨i, rfl, h1, h2⟩ := (show ∃ i, x = .int i ∧ _ ∧ _ from ga)
    obtain ⟨j, rfl, h3, h4⟩ := (show ∃ i, y = .int i ∧ _ ∧ _ from gb)
    exact ⟨_, rfl, _, rfl, by omega, by omega⟩
  · split at h
    · rename_i hz
      cases h
      obtain ⟨i, rfl, h1, h2⟩ := (show ∃ i, x = .int i ∧ _ ∧ _ from ga)
      obtain ⟨j, rfl, h3, h4⟩ := (show ∃ i, y = .int i ∧ _ ∧ _ from gb)
      have hm : mulOk i j := by
        have a1 := log2_mono (mag_ok h1 h2)
        have a2 := log2_mono (mag_ok h3 h4)
        unfold mulOk; omega
      refine ⟨.int (i * j), ?_, aMul_ok h1 h2 h3 h4⟩
      show (if mulOk i j then some (D.int (i * j)) else none) = _
      rw [if_pos hm]
    · cases h
  · rename_i l hh _
    obtain ⟨j, rfl, h3, h4⟩ := (show ∃ i, y = .int i ∧ _ ∧ _ from gb)
    split at h
    · rename_i e lo hi h1
      split at h
      · rename_i hz
        cases h
        obtain ⟨ds, rfl, l1, l2, g1⟩ := tupA_ok h1 ga
        have hr : repTOk ds.length j := ⟨by omega, by omega, by omega, by omega⟩
        refine ⟨.tup (List.replicate j.toNat ds).flatten, ?_, _, rfl, ?_, ?_, rep_all g1 _⟩
        · show (if repTOk ds.length j then some (D.tup _) else none) = _
          rw [if_pos hr]
        · rw [rep_len]; exact Nat.mul_le_mul l1 (by omega)
        · rw [rep_len]; exact Nat.mul_le_mul l2 (by omega)
      · cases h
    · split at h
      · rename_i e lo hi h1
        split at h
        · rename_i hz
          cases h
          obtain ⟨ds, q1, _, l1, l2, g1⟩ := lstA_ok gs h1 ga
          have hr : repOk ds.length j := ⟨by omega, by omega, Nat.le_trans (Nat.mul_le_mul l2 (by omega)) hz.2.2⟩
          refine ⟨.lst (List.replicate j.toNat ds).flatten, ?_, _, rfl, ?_, ?_, rep_all g1 _⟩
          · have e : bin S .mul x (.int j) = match litems S x with
                | some a => if repOk a.length j then some (.lst (List.replicate j.toNat a).flatten) else none
                | none => none := by
              cases x <;> first | rfl | (simp [litems] at q1)
            rw [e, q1]
            simp only [if_pos hr]
          · rw [rep_len]; exact Nat.mul_le_mul l1 (by omega)
          · rw [rep_len]; exact Nat.mul_le_mul l2 (by omega)
        · cases h
      · cases h
  · split at h
    · rename_i hz
      cases h
      obtain ⟨i, rfl, h1, h2⟩ := (show ∃ i, x = .int i ∧ _ ∧ _ from ga)
      obtain ⟨j, rfl, h3, h4⟩ := (show ∃ i, y = .int i ∧ _ ∧ _ from gb)
      refine ⟨.int (i.fdiv j), ?_, aDiv_ok h1 h2 h3 hz.1⟩
      show (if fdivOk j ∨ fdivW j then some (D.int (i.fdiv j)) else none) = _
      rw [if_pos]
      rcases hz.2 with hz2 | hz2
      · exact .inl ⟨by omega, by omega⟩
      · exact .inr ⟨by omega, Nat.lt_of_le_of_lt (log2_mono (mag_ok h3 h4)) hz2⟩
    · cases h
  · split at h
    · rename_i hz
      cases h
      obtain ⟨i, rfl, h1, h2⟩ := (show ∃ i, x = .int i ∧ _ ∧ _ from ga)
      obtain ⟨j, rfl, h3, h4⟩ := (show ∃ i, y = .int i ∧ _ ∧ _ from gb)
      have e : i.fmod j = i % j := Int.fmod_eq_emod_of_nonneg i (by omega)
      have m1 := Int.emod_nonneg i (show j ≠ 0 by omega)
      have m2 := Int.emod_lt_of_pos i (show 0 < j by omega)
      refine ⟨.int (i.fmod j), ?_, ?_⟩
      · show (if j ≠ 0 then some (D.int (i.fmod j)) else none) = _
        rw [if_pos (by omega)]
      · rw [e]
        split
        · rename_i hc
          rw [Int.emod_eq_of_lt (by omega) (by omega)]
          exact ⟨_, rfl, h1, h2⟩
        · exact ⟨_, rfl, m1, by omega⟩
    · cases h
  · split at h
    · rename_i hz
      obtain ⟨e1, e2, hp⟩ := hz
      cases h
      obtain ⟨i, rfl, h1, h2⟩ := (show ∃ i, x = .int i ∧ _ ∧ _ from ga)
      obtain ⟨j, rfl, h3, h4⟩ := (show ∃ i, y = .int i ∧ _ ∧ _ from gb)
      have e3 : i = _ := Int.le_antisymm (e1 ▸ h2) h1
      have e4 : j = _ := Int.le_antisymm (e2 ▸ h4) h3
      subst e3 e4
      refine ⟨.int (i ^ j.toNat), ?_, _, rfl, Int.le_refl _, Int.le_refl _⟩
      show (if powOk i j then some (D.int (i ^ j.toNat)) else none) = _
      rw [if_pos hp]
    · cases h
  · cases h
end GW

set_option linter.all false
set_option maxHeartbeats 1000000
/-! GW, part c: what can be read as the library's data; comparisons; repr. -/
namespace GW
open PySem L2 GV

theorem mapO_ok {α β : Type} {f : α → Option β} : ∀ {as : List α}, (∀ a ∈ as, ∃ b, f a = some b) → ∃ bs, mapO f as = some bs
  | [], _ => ⟨[], rfl⟩
  | a :: as, h => by
    obtain ⟨b, hb⟩ := h a List.mem_cons_self
    obtain ⟨bs, hbs⟩ := mapO_ok (as := as) fun x hx => h x (List.mem_cons_of_mem _ hx)
    exact ⟨b :: bs, by simp [mapO, hb, hbs]⟩
theorem mapO_mono {α β : Type} {f g : α → Option β} (h : ∀ a b, f a = some b → g a = some b) : ∀ {as : List α} {bs : List β}, mapO f as = some bs → mapO g as = some bs
  | [], bs, e => e
  | a :: as, bs, e => by
    obtain ⟨b, cs, h1, h2, rfl⟩ := mapO_cons e
    simp [mapO, h a b h1, mapO_mono h h2]
theorem pyF_mono {S : Sto} : ∀ (n : Nat) (d : D) (p : PyData), pyF S n d = some p → pyF S (n + 1) d = some p
  | 0, d, p, h => by simp [pyF] at h
  | n + 1, d, p, h => by
    have ih := pyF_mono (S := S) n
    cases d with
    | tup ds => simp only [pyF, Option.map_eq_some_iff] at h ⊢; obtain ⟨ps, h, e⟩ := h; exact ⟨ps, mapO_mono ih h, e⟩
    | lst ds => simp only [pyF, Option.map_eq_some_iff] at h ⊢; obtain ⟨ps, h, e⟩ := h; exact ⟨ps, mapO_mono ih h, e⟩
    | fz ds => simp only [pyF, Option.map_eq_some_iff] at h ⊢; obtain ⟨ps, h, e⟩ := h; exact ⟨ps, mapO_mono ih h, e⟩
    | dk ks ds => simp only [pyF, Option.map_eq_some_iff] at h ⊢; obtain ⟨ps, h, e⟩ := h; exact ⟨ps, mapO_mono ih h, e⟩
    | ref i =>
      simp only [pyF] at h ⊢
      split at h
      · rename_i ds e
        simp only [Option.map_eq_some_iff] at h ⊢
        obtain ⟨ps, h, e⟩ := h
        exact ⟨ps, mapO_mono ih h, e⟩
      · cases h
    | _ => exact h
theorem pyF_le {S : Sto} {m n : Nat} {d : D} {p : PyData} (h : pyF S m d = some p) (hl : m ≤ n) : pyF S n d = some p := by
  induction n with
  | zero => have : m = 0 := by omega
            subst this; exact h
  | succ n ih =>
    by_cases e : m = n + 1
    · subst e; exact h
    · exact pyF_mono n d p (ih (by omega))
/-- what can be read, is plain, is shown in so many signs -/
structure Py (n : Nat) (S : Sto) (d : D) (w : Option Nat) (p : PyData) : Prop where
  py : pyF S n d = some p
  pl : p.plain = true
  sh : ∀ m, w = some m → p.showable = true ∧ p.shown.length ≤ m
theorem no_dict : ∀ p : PyData, p.plain = true → p.hasDict = false ∧ True
  | .none, _ => ⟨by simp [PyData.hasDict], trivial⟩
  | .bool _, _ => ⟨by simp [PyData.hasDict], trivial⟩
  | .int _, _ => ⟨by simp [PyData.hasDict], trivial⟩
  | .str _, _ => ⟨by simp [PyData.hasDict], trivial⟩
  | .list xs, h => by
    rw [PyData.plain] at h
    refine ⟨?_, trivial⟩
    rw [PyData.hasDict]
    have : ∀ xs : List PyData, (∀ x ∈ xs, x.hasDict = false) → PyData.hasDictAll xs = false := by
      intro xs hx
      induction xs with
      | nil => rw [PyData.hasDictAll]
      | cons x xs ih => rw [PyData.hasDictAll, hx x List.mem_cons_self, ih fun y hy => hx y (List.mem_cons_of_mem _ hy)]; rfl
    have pa : ∀ ys : List PyData, PyData.plainAll ys = true → ∀ x ∈ ys, x.plain = true := by
      intro ys hy x hx
      induction ys with
      | nil => cases hx
      | cons y ys ih =>
        rw [PyData.plainAll, Bool.and_eq_true] at hy
        rcases List.mem_cons.mp hx with rfl | hx
        · exact hy.1
        · exact ih hy.2 hx
    exact this xs fun x hx => (no_dict x (pa xs h x hx)).1
  | .tuple xs, h => by
    rw [PyData.plain] at h
    refine ⟨?_, trivial⟩
    rw [PyData.hasDict]
    have : ∀ xs : List PyData, (∀ x ∈ xs, x.hasDict = false) → PyData.hasDictAll xs = false := by
      intro xs hx
      induction xs with
      | nil => rw [PyData.hasDictAll]
      | cons x xs ih => rw [PyData.hasDictAll, hx x List.mem_cons_self, ih fun y hy => hx y (List.mem_cons_of_mem _ hy)]; rfl
    have pa : ∀ ys : List PyData, PyData.plainAll ys = true → ∀ x ∈ ys, x.plain = true := by
      intro ys hy x hx
      induction ys with
      | nil => cases hx
      | cons y ys ih =>
        rw [PyData.plainAll, Bool.and_eq_true] at hy
        rcases List.mem_cons.mp hx with rfl | hx
        · exact hy.1
        · exact ih hy.2 hx
    exact this xs fun x hx => (no_dict x (pa xs h x hx)).1
  | .dict _, h => by rw [PyData.plain] at h; cases h
theorem plain_all : ∀ {ys : List PyData}, (∀ x ∈ ys, x.plain = true) → PyData.plainAll ys = true
  | [], _ => by rw [PyData.plainAll]
  | y :: ys, h => by rw [PyData.plainAll, h y List.mem_cons_self, plain_all fun x hx => h x (List.mem_cons_of_mem _ hx)]; rfl
theorem show_all : ∀ {ys : List PyData}, (∀ x ∈ ys, x.showable = true) → PyData.showableAll ys = true
  | [], _ => by rw [PyData.showableAll]
  | y :: ys, h => by rw [PyData.showableAll, h y List.mem_cons_self, show_all fun x hx => h x (List.mem_cons_of_mem _ hx)]; rfl
theorem shownAll_eq : ∀ ys : List PyData, PyData.shownAll ys = ys.map PyData.shown
  | [] => by rw [PyData.shownAll]; rfl
  | y :: ys => by rw [PyData.shownAll, shownAll_eq ys]; rfl
/-- a number's text -/
theorem int_len {i : Int} {k : Nat} (h : i.natAbs < 2 ^ k) : (PyData.shown (.int i)).length ≤ k + 2 := by
  rw [PyData.shown]
  show (Str.ofString (toString i)).length ≤ k + 2
  have p10 : (2 : Nat) ^ (k + 1) ≤ 10 ^ (k + 1) := Nat.pow_le_pow_left (by omega) _
  have hk : i.natAbs < 10 ^ (k + 1) := by
    have : (2 : Nat) ^ k ≤ 2 ^ (k + 1) := Nat.pow_le_pow_right (by omega) (by omega)
    omega
  have pos : ∀ n : Nat, n < 10 ^ (k + 1) → (Str.ofString (toString (n : Int))).length ≤ k + 1 := fun n hn => PyProof.Rows.toString_length_le (by omega) (by omega) (by exact_mod_cast hn)
  cases i with
  | ofNat n => exact Nat.le_succ_of_le (pos n hk)
  | negSucc n =>
    have h1 := pos (n + 1) (by simpa using hk)
    rw [ofString_length] at h1 ⊢
    have e : toString (Int.negSucc n) = "-" ++ toString (n + 1) := rfl
    have e2 : toString ((n + 1 : Nat) : Int) = toString (n + 1) := rfl
    rw [e2] at h1
    rw [e, String.length_append]
    have : "-".length = 1 := rfl
    omega
theorem log2_lt_pow (n : Nat) : n < 2 ^ (n.log2 + 1) := Nat.lt_log2_self
/-- how many signs at most -/
def addO (a b : Option Nat) : Option Nat := match a, b with
  | some x, some y => some (x + y)
  | _, _ => none
def maxO (a b : Option Nat) : Option Nat := match a, b with
  | some x, some y => some (max x y)
  | _, _ => none
def sumO : List (Option Nat) → Option Nat
  | [] => some 0
  | a :: r => addO (a.map (· + 2)) (sumO r)
def mulO (k : Nat) (a : Option Nat) : Option Nat := a.map fun x => k * (x + 2)
def scOk (x : Str) : Bool := x.cps.toList.all fun c => decide (c < 16 ^ 8)
def sumW (f : A → Option (Option Nat)) : List A → Option (Option Nat)
  | [] => some (some 0)
  | a :: as => match f a, sumW f as with
    | some x, some y => some (addO (x.map (· + 2)) y)
    | _, _ => none
/-- none: can't be read; some w: can, shown in so many signs (if w tells) -/
def pyA : Nat → AS → A → Option (Option Nat)
  | 0, _, _ => none
  | n + 1, s, a => match a with
    | .bot => some (some 0)
    | .non => some (some 4)
    | .bl => some (some 5)
    | .k _ => some (some 5)
    | .int l h => some (if (mag l h).log2 < 1900 then some ((mag l h).log2 + 3) else none)
    | .sc x => some (if scOk x = true then some (10 * x.length + 2) else none)
    | .str _ => some none
    | .tup as => (sumW (pyA n s) as).map fun w => w.map (· + 3)
    | .seq _ e _ hi => (pyA n s e).map fun w => (mulO hi w).map (· + 3)
    | .fz e _ hi => (pyA n s e).map fun w => (mulO hi w).map (· + 3)
    | .ref i => (match s[i]? with
      | some (.lst e _ hi) => (pyA n s e).map fun w => (mulO hi w).map (· + 3)
      | _ => none)
    | .or a b => (match pyA n s a, pyA n s b with
      | some x, some y => some (maxO x y)
      | _, _ => none)
def pyAs (n : Nat) (s : AS) (as : List A) : Option (Option Nat) := sumW (pyA n s) as
theorem seq_py {n : Nat} {S : Sto} {ds : List D} {w : Option Nat} {hi : Nat} (hl : ds.length ≤ hi) (h : ∀ x ∈ ds, ∃ p, Py n S x w p) : ∃ ps, mapO (pyF S n) ds = some ps ∧ PyData.plainAll ps = true ∧
    ∀ m, (mulO hi w).map (· + 3) = some m → PyData.showableAll ps = true ∧ (listText (PyData.shownAll ps)).length ≤ m ∧ (tupleText (PyData.shownAll ps)).length ≤ m := by
  obtain ⟨ps, hps⟩ := mapO_ok (f := pyF S n) (as := ds) fun x hx => let ⟨p, hp⟩ := h x hx; ⟨p, hp.py⟩
  have back : ∀ p ∈ ps, p.plain = true ∧ ∀ m, w = some m → p.showable = true ∧ p.shown.length ≤ m := fun p hp => by
    obtain ⟨x, hx, e⟩ := mapO_mem hps hp
    obtain ⟨q, hq⟩ := h x hx
    have : q = p := by rw [hq.py] at e; exact Option.some.inj e
    subst this
    exact ⟨hq.pl, hq.sh⟩
  refine ⟨ps, hps, plain_all fun p hp => (back p hp).1, fun m hm => ?_⟩
  cases w with
  | none => simp [mulO] at hm
  | some k =>
    simp only [mulO, Option.map_some, Option.some.injEq] at hm
    have hlen := mapO_length hps
    have hsum : (((PyData.shownAll ps).map (·.length)).sum) ≤ ps.length * k := by
      rw [shownAll_eq, List.map_map]
      have : ∀ l : List PyData, (∀ p ∈ l, p.shown.length ≤ k) → (l.map ((fun x : Str => x.length) ∘ PyData.shown)).sum ≤ l.length * k := by
        intro l hl
        induction l with
        | nil => simp
        | cons p l ih =>
          have h1 := hl p List.mem_cons_self
          have h2 := ih fun q hq => hl q (List.mem_cons_of_mem _ hq)
          simp only [List.map_cons, List.sum_cons, List.length_cons, Function.comp, Nat.succ_mul] at h2 ⊢
          omega
      exact this ps fun p hp => ((back p hp).2 k rfl).2
    have hl2 : (PyData.shownAll ps).length = ps.length := by rw [shownAll_eq, List.length_map]
    have hle : ps.length * k + 2 * ps.length + 3 ≤ m := by
      have : ps.length * (k + 2) ≤ hi * (k + 2) := Nat.mul_le_mul_right _ (by omega)
      rw [Nat.mul_add] at this
      omega
    have l1 := listText_len_le (PyData.shownAll ps)
    have l2 := tupleText_len_le (PyData.shownAll ps)
    rw [hl2] at l1 l2
    exact ⟨show_all fun p hp => ((back p hp).2 k rfl).1, by omega, by omega⟩
theorem sumW_ok {S : Sto} {n : Nat} {f : A → Option (Option Nat)} (ih : ∀ (a : A) (d : D) (w : Option Nat), f a = some w → gm a d → ∃ p, Py n S d w p) : ∀ (as : List A) (ds : List D) (w : Option Nat), sumW f as = some w → gms as ds → ∃ ps, mapO (pyF S n) ds = some ps ∧ PyData.plainAll ps = true ∧
    ∀ m, w = some m → PyData.showableAll ps = true ∧ ((PyData.shownAll ps).map (·.length)).sum + 2 * (PyData.shownAll ps).length ≤ m
  | [], ds, w, h, g => by
    simp only [sumW, Option.some.injEq] at h; subst h
    simp only [gms] at g; subst g
    exact ⟨[], rfl, rfl, fun m hm => by cases hm; exact ⟨rfl, by rw [PyData.shownAll]; simp⟩⟩
  | a :: as, ds, w, h, g => by
    simp only [sumW] at h
    split at h
    · rename_i x y hx hy
      cases h
      simp only [gms] at g
      obtain ⟨d, r, rfl, g1, g2⟩ := g
      obtain ⟨p, hp⟩ := ih a d x hx g1
      obtain ⟨ps, h1, h2, h3⟩ := sumW_ok ih as r y hy g2
      refine ⟨p :: ps, by simp [mapO, hp.py, h1], by rw [PyData.plainAll, hp.pl, h2]; rfl, fun m hm => ?_⟩
      cases x <;> cases y <;> simp [addO] at hm
      obtain ⟨q1, q2⟩ := hp.sh _ rfl
      obtain ⟨q3, q4⟩ := h3 _ rfl
      refine ⟨by rw [PyData.showableAll, q1, q3]; rfl, ?_⟩
      rw [PyData.shownAll]
      simp only [List.map_cons, List.sum_cons, List.length_cons]
      omega
    · cases h
theorem pyA_ok {s : AS} {S : Sto} (gs : gmS s S) : ∀ (n : Nat) (a : A) (d : D) (w : Option Nat), pyA n s a = some w → gm a d → ∃ p, Py n S d w p
  | 0, a, d, w, h, _ => by simp [pyA] at h
  | n + 1, a, d, w, h, g => by
    have ih := pyA_ok gs n
    cases a with
    | bot => simp only [gm] at g
    | non =>
      simp only [pyA, Option.some.injEq] at h; subst h
      simp only [gm] at g; subst g
      exact ⟨.none, rfl, rfl, fun m hm => by cases hm; exact ⟨by simp [PyData.showable], by rw [PyData.shown]; decide⟩⟩
    | bl =>
      simp only [pyA, Option.some.injEq] at h; subst h
      simp only [gm] at g; obtain ⟨b, rfl⟩ := g
      exact ⟨.bool b, rfl, rfl, fun m hm => by cases hm; exact ⟨by simp [PyData.showable], by rw [PyData.shown]; cases b <;> decide⟩⟩
    | k b =>
      simp only [pyA, Option.some.injEq] at h; subst h
      simp only [gm] at g; subst g
      exact ⟨.bool b, rfl, rfl, fun m hm => by cases hm; exact ⟨by simp [PyData.showable], by rw [PyData.shown]; cases b <;> decide⟩⟩
    | int l hh =>
      simp only [pyA, Option.some.injEq] at h; subst h
      simp only [gm] at g; obtain ⟨i, rfl, h1, h2⟩ := g
      refine ⟨.int i, rfl, rfl, fun m hm => ?_⟩
      have hm1 := mag_ok h1 h2
      split at hm
      · rename_i hlt
        cases hm
        have h3 := log2_mono hm1
        refine ⟨by rw [PyData.showable]; exact decide_eq_true (by omega), ?_⟩
        exact int_len (Nat.lt_of_le_of_lt hm1 (log2_lt_pow _))
      · cases hm
    | str k =>
      simp only [pyA, Option.some.injEq] at h; subst h
      simp only [gm] at g; obtain ⟨x, rfl, _⟩ := g
      exact ⟨.str x, rfl, rfl, fun m hm => by cases hm⟩
    | sc x =>
      simp only [pyA, Option.some.injEq] at h; subst h
      simp only [gm] at g; subst g
      refine ⟨.str x, rfl, rfl, fun m hm => ?_⟩
      split at hm
      · rename_i hc
        cases hm
        refine ⟨by simp [PyData.showable], ?_⟩
        rw [PyData.shown]
        exact StrLaws.reprText_len x fun c hcc => of_decide_eq_true (List.all_eq_true.mp hc c hcc)
      · cases hm
    | tup as =>
      simp only [pyA, Option.map_eq_some_iff] at h
      obtain ⟨w', h, rfl⟩ := h
      simp only [gm] at g; obtain ⟨ds, rfl, g⟩ := g
      obtain ⟨ps, h1, h2, h3⟩ := sumW_ok ih as ds w' h g
      refine ⟨.tuple ps, by simp [pyF, h1], by rw [PyData.plain]; exact h2, fun m hm => ?_⟩
      obtain ⟨m', e, rfl⟩ := Option.map_eq_some_iff.mp hm
      obtain ⟨h4, h5⟩ := h3 m' e
      refine ⟨by rw [PyData.showable]; exact h4, ?_⟩
      rw [PyData.shown]
      have := tupleText_len_le (PyData.shownAll ps)
      omega
    | seq l e lo hi =>
      simp only [pyA, Option.map_eq_some_iff] at h
      obtain ⟨w', h, rfl⟩ := h
      rw [gm_seq] at g
      obtain ⟨ds, hk, l1, l2, g⟩ := g
      obtain ⟨ps, h1, h2, h3⟩ := seq_py l2 fun x hx => ih e x w' h (g x hx)
      rcases hk with ⟨_, rfl⟩ | ⟨_, rfl⟩
      · exact ⟨.list ps, by simp [pyF, h1], by rw [PyData.plain]; exact h2, fun m hm => ⟨by rw [PyData.showable]; exact (h3 m hm).1, by rw [PyData.shown]; exact (h3 m hm).2.1⟩⟩
      · exact ⟨.tuple ps, by simp [pyF, h1], by rw [PyData.plain]; exact h2, fun m hm => ⟨by rw [PyData.showable]; exact (h3 m hm).1, by rw [PyData.shown]; exact (h3 m hm).2.2⟩⟩
    | fz e lo hi =>
      simp only [pyA, Option.map_eq_some_iff] at h
      obtain ⟨w', h, rfl⟩ := h
      simp only [gm] at g
      obtain ⟨ds, rfl, l1, l2, g⟩ := g
      obtain ⟨ps, h1, h2, h3⟩ := seq_py l2 fun x hx => ih e x w' h (g x hx)
      exact ⟨.list ps, by simp [pyF, h1], by rw [PyData.plain]; exact h2, fun m hm => ⟨by rw [PyData.showable]; exact (h3 m hm).1, by rw [PyData.shown]; exact (h3 m hm).2.1⟩⟩
    | ref i =>
      simp only [pyA] at h
      split at h
      · rename_i e lo hi hs
        simp only [Option.map_eq_some_iff] at h
        obtain ⟨w', h, rfl⟩ := h
        simp only [gm] at g; subst g
        obtain ⟨c, hc, gc⟩ := gs.at_ i _ hs
        obtain ⟨ds, rfl, l1, l2, g⟩ := gc
        obtain ⟨ps, h1, h2, h3⟩ := seq_py l2 fun x hx => ih e x w' h (g x hx)
        exact ⟨.list ps, by simp [pyF, hc, h1], by rw [PyData.plain]; exact h2, fun m hm => ⟨by rw [PyData.showable]; exact (h3 m hm).1, by rw [PyData.shown]; exact (h3 m hm).2.1⟩⟩
      · cases h
    | or a b =>
      simp only [pyA] at h
      split at h
      · rename_i x y hx hy
        cases h
        simp only [gm] at g
        rcases g with g | g
        · obtain ⟨p, hp⟩ := ih a d x hx g
          exact ⟨p, pyF_mono n d p hp.py, hp.pl, fun m hm => by
            cases x <;> cases y <;> simp [maxO] at hm
            obtain ⟨q1, q2⟩ := hp.sh _ rfl
            exact ⟨q1, by omega⟩⟩
        · obtain ⟨p, hp⟩ := ih b d y hy g
          exact ⟨p, pyF_mono n d p hp.py, hp.pl, fun m hm => by
            cases x <;> cases y <;> simp [maxO] at hm
            obtain ⟨q1, q2⟩ := hp.sh _ rfl
            exact ⟨q1, by omega⟩⟩
      · cases h
end GW

set_option linter.all false
set_option maxHeartbeats 1000000
/-! GW, part d: comparisons, built-ins, subscripts, slices by kinds. -/
namespace GW
open PySem L2 GV

/-! ### comparisons -/
def intA : A → Bool
  | .int _ _ => true
  | .bot => true
  | _ => false
theorem intA_ok {a : A} {d : D} (h : intA a = true) (g : gm a d) : ∃ i, d = .int i := by
  cases a <;> simp [intA] at h
  · simp only [gm] at g
  · simp only [gm] at g; obtain ⟨i, e, _⟩ := g; exact ⟨i, e⟩
def cmpK (o : Cop) (a b : A) : A := match o, a, b with
  | .isN, .non, .non => .k true
  | .notN, .non, .non => .k false
  | .isN, .or _ _, _ => .bl
  | .notN, .or _ _, _ => .bl
  | .isN, _, .non => .k false
  | .notN, _, .non => .k true
  | _, _, _ => .bl
/-- a comparison is told -/
def aCmp (s : AS) (o : Cop) (a b : A) : Option A := match o with
  | .isN => (match b with
    | .non => some (cmpK o a b)
    | _ => none)
  | .notN => (match b with
    | .non => some (cmpK o a b)
    | _ => none)
  | .eq => if (pyA 24 s a).isSome = true ∧ (pyA 24 s b).isSome = true then some .bl else none
  | .ne => if (pyA 24 s a).isSome = true ∧ (pyA 24 s b).isSome = true then some .bl else none
  | .isin => (match seqA s b with
    | some (e, _, _) => if (pyA 24 s a).isSome = true ∧ (pyA 23 s e).isSome = true then some .bl else none
    | none => none)
  | .notin => (match seqA s b with
    | some (e, _, _) => if (pyA 24 s a).isSome = true ∧ (pyA 23 s e).isSome = true then some .bl else none
    | none => none)
  | _ => if intA a = true ∧ intA b = true then some .bl else none
theorem py_of {s : AS} {S : Sto} (gs : gmS s S) {n : Nat} {a : A} {d : D} (h : (pyA n s a).isSome = true) (g : gm a d) : ∃ p, pyF S n d = some p ∧ p.plain = true := by
  obtain ⟨w, hw⟩ := Option.isSome_iff_exists.mp h
  obtain ⟨p, hp⟩ := pyA_ok gs n a d w hw g
  exact ⟨p, hp.py, hp.pl⟩
theorem lt_int (S : Sto) (i j : Int) : ltD S (.int i) (.int j) = some (decide (i < j)) := by
  show ltP (.int i) (.int j) = _
  unfold ltP
  rw [if_pos ⟨rfl, rfl⟩, PySem.W.dataLt_int]
theorem isn_ok {a : A} {x : D} (ga : gm a x) : gm (cmpK .isN a .non) (.bl (GV.isNon x)) := by
  cases a with
  | bot => simp only [gm] at ga
  | non => simp only [gm] at ga; subst ga; show gm (.k true) _; simp only [gm]; rfl
  | or a b => show gm .bl _; simp only [gm]; exact ⟨_, rfl⟩
  | seq l e lo hi => rw [gm_seq] at ga; obtain ⟨ds, hk, _⟩ := ga; show gm (.k false) _; simp only [gm]; rcases hk with ⟨_, rfl⟩ | ⟨_, rfl⟩ <;> rfl
  | bl => simp only [gm] at ga; obtain ⟨_, rfl⟩ := ga; show gm (.k false) _; simp only [gm]; rfl
  | str n => simp only [gm] at ga; obtain ⟨_, rfl, _⟩ := ga; show gm (.k false) _; simp only [gm]; rfl
  | tup as => simp only [gm] at ga; obtain ⟨_, rfl, _⟩ := ga; show gm (.k false) _; simp only [gm]; rfl
  | fz e lo hi => simp only [gm] at ga; obtain ⟨_, rfl, _⟩ := ga; show gm (.k false) _; simp only [gm]; rfl
  | int l h => simp only [gm] at ga; obtain ⟨_, rfl, _⟩ := ga; show gm (.k false) _; simp only [gm]; rfl
  | k b => simp only [gm] at ga; subst ga; show gm (.k false) _; simp only [gm]; rfl
  | sc x => simp only [gm] at ga; subst ga; show gm (.k false) _; simp only [gm]; rfl
  | ref i => simp only [gm] at ga; subst ga; show gm (.k false) _; simp only [gm]; rfl
theorem notn_ok {a : A} {x : D} (ga : gm a x) : gm (cmpK .notN a .non) (.bl (!GV.isNon x)) := by
  cases a with
  | bot => simp only [gm] at ga
  | non => simp only [gm] at ga; subst ga; show gm (.k false) _; simp only [gm]; rfl
  | or a b => show gm .bl _; simp only [gm]; exact ⟨_, rfl⟩
  | seq l e lo hi => rw [gm_seq] at ga; obtain ⟨ds, hk, _⟩ := ga; show gm (.k true) _; simp only [gm]; rcases hk with ⟨_, rfl⟩ | ⟨_, rfl⟩ <;> rfl
  | bl => simp only [gm] at ga; obtain ⟨_, rfl⟩ := ga; show gm (.k true) _; simp only [gm]; rfl
  | str n => simp only [gm] at ga; obtain ⟨_, rfl, _⟩ := ga; show gm (.k true) _; simp only [gm]; rfl
  | tup as => simp only [gm] at ga; obtain ⟨_, rfl, _⟩ := ga; show gm (.k true) _; simp only [gm]; rfl
  | fz e lo hi => simp only [gm] at ga; obtain ⟨_, rfl, _⟩ := ga; show gm (.k true) _; simp only [gm]; rfl
  | int l h => simp only [gm] at ga; obtain ⟨_, rfl, _⟩ := ga; show gm (.k true) _; simp only [gm]; rfl
  | k b => simp only [gm] at ga; subst ga; show gm (.k true) _; simp only [gm]; rfl
  | sc x => simp only [gm] at ga; subst ga; show gm (.k true) _; simp only [gm]; rfl
  | ref i => simp only [gm] at ga; subst ga; show gm (.k true) _; simp only [gm]; rfl
theorem aCmp_ok {s : AS} {S : Sto} (gs : gmS s S) (o : Cop) : O2 (fun x y => (cmp S o x y).map .bl) (aCmp s o) := by
  intro a b c x y h ga gb
  have nums : ∀ {c : A}, (if intA a = true ∧ intA b = true then some A.bl else none) = some c → ∃ i j, x = .int i ∧ y = .int j := fun {c} h => by
    split at h
    · rename_i hc
      obtain ⟨i, e⟩ := intA_ok hc.1 ga
      obtain ⟨j, e2⟩ := intA_ok hc.2 gb
      exact ⟨i, j, e, e2⟩
    · cases h
  have eqs : (pyA 24 s a).isSome = true ∧ (pyA 24 s b).isSome = true → ∃ k, eqD S x y = some k := fun hc => by
    obtain ⟨p, h1, h2⟩ := py_of gs hc.1 ga
    obtain ⟨q, h3, h4⟩ := py_of gs hc.2 gb
    exact ⟨PyData.eqv p q, by unfold eqD py; rw [h1, h3]; simp only [h2, h4, and_self, if_true]⟩
  have ins : ∀ {e : A} {lo hi : Nat}, seqA s b = some (e, lo, hi) → (pyA 24 s a).isSome = true ∧ (pyA 23 s e).isSome = true → ∃ k, inD S x y = some k := fun {e lo hi} hs hc => by
    obtain ⟨ds, hi', _, _, g⟩ := seqA_ok gs hs gb
    obtain ⟨p, h1, h2⟩ := py_of gs hc.1 ga
    obtain ⟨ps, hps⟩ := mapO_ok (f := pyF S 23) (as := ds) fun z hz => let ⟨q, hq, _⟩ := py_of gs hc.2 (g z hz); ⟨q, hq⟩
    have hpl : PyData.plainAll ps = true := plain_all fun q hq => by
      obtain ⟨z, hz, e⟩ := mapO_mem hps hq
      obtain ⟨q', hq', hp'⟩ := py_of gs hc.2 (g z hz)
      rw [hq'] at e; cases e
      exact hp'
    refine ⟨ps.any fun q => PyData.eqv q p, ?_⟩
    unfold inD py
    simp only [hi', h1, hps, h2, hpl, and_self, if_true]
  cases o with
  | eq =>
    simp only [aCmp] at h
    split at h
    · rename_i hc
      cases h
      obtain ⟨k, hk⟩ := eqs hc
      exact ⟨.bl k, by simp [cmp, hk], k, rfl⟩
    · cases h
  | ne =>
    simp only [aCmp] at h
    split at h
    · rename_i hc
      cases h
      obtain ⟨k, hk⟩ := eqs hc
      exact ⟨.bl (bnot k), by simp [cmp, hk], _, rfl⟩
    · cases h
  | isin =>
    simp only [aCmp] at h
    split at h
    · rename_i e lo hi hs
      split at h
      · rename_i hc
        cases h
        obtain ⟨k, hk⟩ := ins hs hc
        exact ⟨.bl k, by simp [cmp, hk], k, rfl⟩
      · cases h
    · cases h
  | notin =>
    simp only [aCmp] at h
    split at h
    · rename_i e lo hi hs
      split at h
      · rename_i hc
        cases h
        obtain ⟨k, hk⟩ := ins hs hc
        exact ⟨.bl (bnot k), by simp [cmp, hk], _, rfl⟩
      · cases h
    · cases h
  | isN =>
    simp only [aCmp] at h
    split at h
    · cases h
      have e : y = .non := gb
      subst e
      exact ⟨.bl (GV.isNon x), by simp [cmp, GV.isNon], isn_ok ga⟩
    · cases h
  | notN =>
    simp only [aCmp] at h
    split at h
    · cases h
      have e : y = .non := gb
      subst e
      exact ⟨.bl (!GV.isNon x), by simp [cmp, GV.isNon], notn_ok ga⟩
    · cases h
  | lt =>
    simp only [aCmp] at h
    obtain ⟨i, j, rfl, rfl⟩ := nums h
    split at h
    · cases h
      exact ⟨.bl (decide (i < j)), by simp [cmp, lt_int], _, rfl⟩
    · cases h
  | le =>
    simp only [aCmp] at h
    obtain ⟨i, j, rfl, rfl⟩ := nums h
    split at h
    · cases h
      exact ⟨.bl (bnot (decide (j < i))), by simp [cmp, lt_int], _, rfl⟩
    · cases h
  | gt =>
    simp only [aCmp] at h
    obtain ⟨i, j, rfl, rfl⟩ := nums h
    split at h
    · cases h
      exact ⟨.bl (decide (j < i)), by simp [cmp, lt_int], _, rfl⟩
    · cases h
  | ge =>
    simp only [aCmp] at h
    obtain ⟨i, j, rfl, rfl⟩ := nums h
    split at h
    · cases h
      exact ⟨.bl (bnot (decide (i < j))), by simp [cmp, lt_int], _, rfl⟩
    · cases h

/-! ### built-ins -/
/-- things of one sort that can be put in order: numbers, tuples of so many numbers -/
def alkA : A → Bool
  | .int _ _ => true
  | .tup (a :: as) => intA a && as.all intA
  | _ => false
theorem tup_ints {S : Sto} : ∀ {as : List A} {ds : List D}, as.all intA = true → gms as ds → ∃ is : List Int, ds = is.map D.int ∧ is.length = as.length
  | [], ds, _, g => by simp only [gms] at g; subst g; exact ⟨[], rfl, rfl⟩
  | a :: as, ds, h, g => by
    rw [List.all_cons, Bool.and_eq_true] at h
    simp only [gms] at g
    obtain ⟨d, r, rfl, g1, g2⟩ := g
    obtain ⟨i, rfl⟩ := intA_ok h.1 g1
    obtain ⟨is, rfl, hl⟩ := tup_ints (S := S) h.2 g2
    exact ⟨i :: is, rfl, by simp [hl]⟩
theorem py_ints {S : Sto} {n : Nat} : ∀ is : List Int, mapO (pyF S (n + 1)) (is.map D.int) = some (is.map PyData.int)
  | [] => rfl
  | i :: is => by simp [mapO, pyF, py_ints is]
theorem alike_ints : ∀ is js : List Int, PySem.W.alikeAll (is.map PyData.int) (js.map PyData.int) = true
  | [], _ => by simp [PySem.W.alikeAll]
  | _ :: _, [] => by simp [PySem.W.alikeAll]
  | i :: is, j :: js => by
    simp only [List.map_cons]
    rw [PySem.W.alikeAll, alike_ints is js]
    simp [PySem.W.alike]
/-- the data of such things -/
def Alk (a : A) (p : PyData) : Prop := match a with
  | .int _ _ => ∃ i, p = .int i
  | _ => ∃ (i : Int) (is : List Int), p = .tuple ((i :: is).map PyData.int)
theorem alk_py {S : Sto} {a : A} {d : D} {n : Nat} (h : alkA a = true) (g : gm a d) : ∃ p, pyF S (n + 2) d = some p ∧ Alk a p ∧ notNone p = true ∧ pureF (n + 2) d = true := by
  cases a with
  | int l hh =>
    simp only [gm] at g
    obtain ⟨i, rfl, _⟩ := g
    exact ⟨.int i, rfl, ⟨i, rfl⟩, rfl, rfl⟩
  | tup as =>
    cases as with
    | nil => simp [alkA] at h
    | cons a as =>
      simp only [gm] at g
      obtain ⟨ds, rfl, g⟩ := g
      have h' : (a :: as).all intA = true := by simpa [alkA] using h
      obtain ⟨is, rfl, hl⟩ := tup_ints (S := S) h' g
      cases is with
      | nil => simp at hl
      | cons i is =>
        refine ⟨.tuple ((i :: is).map PyData.int), by simp only [pyF, py_ints]; rfl, ⟨i, is, rfl⟩, rfl, ?_⟩
        simp [pureF]
  | _ => simp [alkA] at h
theorem alk_alike {a : A} {p q : PyData} (h : alkA a = true) (hp : Alk a p) (hq : Alk a q) : PySem.W.alike p q = true := by
  cases a with
  | int l hh =>
    obtain ⟨i, rfl⟩ := hp
    obtain ⟨j, rfl⟩ := hq
    rfl
  | tup as =>
    obtain ⟨i, is, rfl⟩ := hp
    obtain ⟨j, js, rfl⟩ := hq
    rw [PySem.W.alike]
    exact alike_ints _ _
  | _ => simp [alkA] at h
theorem alk_all {S : Sto} {e : A} {ds : List D} (h : alkA e = true) (g : ∀ x ∈ ds, gm e x) : ∃ es, mapO (withPy S) ds = some es ∧ es.map (·.1) = ds ∧ allAlike (es.map (·.2)) = true ∧ sortable (es.map (·.2)) = true ∧ es.all (fun q => notNone q.2 && pureF 23 q.1) = true := by
  have each : ∀ x ∈ ds, ∃ p, withPy S x = some (x, p) ∧ Alk e p ∧ notNone p = true ∧ pureF 23 x = true := fun x hx => by
    obtain ⟨p, h1, h2, h3, h4⟩ := alk_py (S := S) (n := 21) h (g x hx)
    exact ⟨p, by simp [withPy, h1], h2, h3, h4⟩
  obtain ⟨es, hes⟩ := mapO_ok (f := withPy S) (as := ds) fun x hx => let ⟨p, hp, _⟩ := each x hx; ⟨_, hp⟩
  have back : ∀ q ∈ es, Alk e q.2 ∧ notNone q.2 = true ∧ pureF 23 q.1 = true := fun q hq => by
    obtain ⟨x, hx, e1⟩ := mapO_mem hes hq
    obtain ⟨p, h1, h2, h3, h4⟩ := each x hx
    rw [h1] at e1; cases e1
    exact ⟨h2, h3, h4⟩
  have fst : ∀ {ds : List D} {es : List (D × PyData)}, mapO (withPy S) ds = some es → es.map (·.1) = ds := by
    intro ds
    induction ds with
    | nil => intro es h; simp only [mapO, Option.some.injEq] at h; subst h; rfl
    | cons d ds ih =>
      intro es h
      obtain ⟨b, cs, h1, h2, rfl⟩ := mapO_cons h
      simp only [withPy, Option.map_eq_some_iff] at h1
      obtain ⟨p, _, rfl⟩ := h1
      simp [ih h2]
  refine ⟨es, hes, fst hes, ?_, ?_, ?_⟩
  · refine List.all_eq_true.mpr fun p hp => List.all_eq_true.mpr fun q hq => ?_
    obtain ⟨x, hx, rfl⟩ := List.mem_map.mp hp
    obtain ⟨y, hy, rfl⟩ := List.mem_map.mp hq
    exact alk_alike h (back x hx).1 (back y hy).1
  · unfold sortable
    rw [Bool.or_eq_true]
    cases e with
    | int l hh =>
      right
      refine List.all_eq_true.mpr fun p hp => ?_
      obtain ⟨x, hx, rfl⟩ := List.mem_map.mp hp
      obtain ⟨i, ei⟩ := (back x hx).1
      rw [ei]; rfl
    | tup as =>
      left
      refine List.all_eq_true.mpr fun p hp => ?_
      obtain ⟨x, hx, rfl⟩ := List.mem_map.mp hp
      obtain ⟨i, is, ei⟩ := (back x hx).1
      rw [ei]; rfl
    | _ => simp [alkA] at h
  · refine List.all_eq_true.mpr fun q hq => ?_
    rw [(back q hq).2.1, (back q hq).2.2]; rfl
def aB1 (s : AS) (o : B1) (a : A) : Option A := match o with
  | .len => (match txt a with
    | some n => if szOk n then some (.int 0 n) else none
    | none => match seqA s a with
      | some (_, lo, hi) => some (.int lo hi)
      | none => none)
  | .abs => (match a with
    | .int l h => some (if 0 ≤ l then .int l h else .int 0 (mag l h))
    | _ => none)
  | .int => (match a with
    | .int l h => some (.int l h)
    | .bl => some (.int 0 1)
    | .k b => some (.int (bI b) (bI b))
    | _ => none)
  | .repr => (match pyA 24 s a with
    | some (some w) => if szOk w then some (.str w) else none
    | _ => none)
  | .tuple => (match a with
    | .tup as => some (.tup as)
    | a => match seqA s a with
      | some (e, lo, hi) => some (.seq false e lo hi)
      | none => none)
  | .list => (match seqA s a with
    | some (e, lo, hi) => some (.seq true e lo hi)
    | none => none)
  | .sorted => (match lstA s a with
    | some (e, lo, hi) => if alkA e = true ∨ hi = 0 then some (.seq true e lo hi) else none
    | none => none)
  | .sum => (match lstA s a with
    | some (.int l h, _, hi) => some (.int (-((hi * mag l h : Nat) : Int)) ((hi * mag l h : Nat) : Int))
    | some (.bot, _, _) => some (.int 0 0)
    | _ => none)
  | .max => (match seqA s a with
    | some (e, lo, hi) => if alkA e = true ∧ 1 ≤ lo then some e else none
    | none => none)
  | .min => (match seqA s a with
    | some (e, lo, hi) => if alkA e = true ∧ 1 ≤ lo then some e else none
    | none => none)
  | .all => (match lstA s a with
    | some (e, _, hi) => if bln e = true ∨ hi = 0 then some .bl else none
    | none => none)
  | .any => (match lstA s a with
    | some (e, _, hi) => if bln e = true ∨ hi = 0 then some .bl else none
    | none => none)
  | .str => none
theorem sum_bound {m : Nat} : ∀ {ns : List Int}, (∀ i ∈ ns, i.natAbs ≤ m) → ns.sum.natAbs ≤ ns.length * m
  | [], _ => by simp
  | i :: ns, h => by
    have h1 := h i List.mem_cons_self
    have h2 := sum_bound fun j hj => h j (List.mem_cons_of_mem _ hj)
    simp only [List.sum_cons, List.length_cons, Nat.succ_mul]
    omega
theorem fold_mem' {f : D × PyData → D × PyData → Bool} : ∀ (es : List (D × PyData)) (e : D × PyData), es.foldl (fun a y => if f a y = true then y else a) e ∈ e :: es
  | [], e => List.mem_cons_self
  | f' :: es, e => by
    simp only [List.foldl_cons]
    rcases List.mem_cons.mp (fold_mem' (f := f) es (if f e f' = true then f' else e)) with h | h
    · rw [h]; split
      · exact List.mem_cons_of_mem _ List.mem_cons_self
      · exact List.mem_cons_self
    · exact List.mem_cons_of_mem _ (List.mem_cons_of_mem _ h)
theorem aB1_ok {s : AS} {S : Sto} (gs : gmS s S) (o : B1) : O1 (b1 S o) (aB1 s o) := by
  intro a c x h g
  cases o with
  | str => simp [aB1] at h
  | len =>
    simp only [aB1] at h
    split at h
    · rename_i n hn
      split at h
      · rename_i hz
        cases h
        obtain ⟨y, rfl, hl⟩ := txt_ok hn g
        refine ⟨.int y.length, ?_, _, rfl, by omega, by omega⟩
        show (if szOk y.length then some (D.int y.length) else none) = _
        rw [if_pos (show szOk _ from Nat.le_trans hl hz)]
      · cases h
    · split at h
      · rename_i e lo hi hs
        cases h
        obtain ⟨ds, hi', l1, l2, _⟩ := seqA_ok gs hs g
        refine ⟨.int ds.length, ?_, _, rfl, by omega, by omega⟩
        cases x <;> first | (simp [items] at hi'; done) | (simp only [b1, hi', Option.map_some])
      · cases h
  | abs =>
    simp only [aB1] at h
    split at h
    · rename_i l hh
      cases h
      simp only [gm] at g
      obtain ⟨i, rfl, h1, h2⟩ := g
      refine ⟨_, rfl, ?_⟩
      have := mag_ok h1 h2
      split
      · simp only [gm]; exact ⟨_, rfl, by split <;> omega, by split <;> omega⟩
      · simp only [gm]; exact ⟨_, rfl, by split <;> omega, by split <;> omega⟩
    · cases h
  | int =>
    simp only [aB1] at h
    split at h
    · cases h
      simp only [gm] at g ⊢
      obtain ⟨i, rfl, h1, h2⟩ := g
      exact ⟨_, rfl, i, rfl, h1, h2⟩
    · cases h
      simp only [gm] at g ⊢
      obtain ⟨b, rfl⟩ := g
      exact ⟨_, rfl, _, rfl, by cases b <;> decide, by cases b <;> decide⟩
    · rename_i b
      cases h
      simp only [gm] at g ⊢
      subst g
      exact ⟨_, rfl, _, rfl, by cases b <;> decide, by cases b <;> decide⟩
    · cases h
  | repr =>
    simp only [aB1] at h
    split at h
    · rename_i w hw
      split at h
      · rename_i hz
        cases h
        obtain ⟨p, hp⟩ := pyA_ok gs 24 a x _ hw g
        obtain ⟨q1, q2⟩ := hp.sh w rfl
        refine ⟨.str p.shown, ?_, _, rfl, q2⟩
        have e : py S x = some p := hp.py
        simp only [b1, e]
        rw [if_pos ⟨q1, .inl (no_dict p hp.pl).1, Nat.le_trans q2 hz⟩]
      · cases h
    · cases h
  | tuple =>
    simp only [aB1] at h
    split at h
    · cases h
      have g' := g
      simp only [gm] at g
      obtain ⟨ds, rfl, g⟩ := g
      exact ⟨.tup ds, rfl, g'⟩
    · split at h
      · rename_i e lo hi hs
        cases h
        obtain ⟨ds, hi', l1, l2, g2⟩ := seqA_ok gs hs g
        exact ⟨.tup ds, by simp [b1, hi'], ds, rfl, l1, l2, g2⟩
      · cases h
  | list =>
    simp only [aB1] at h
    split at h
    · rename_i e lo hi hs
      cases h
      obtain ⟨ds, hi', l1, l2, g2⟩ := seqA_ok gs hs g
      exact ⟨.lst ds, by simp [b1, hi'], ds, rfl, l1, l2, g2⟩
    · cases h
  | sorted =>
    simp only [aB1] at h
    split at h
    · rename_i e lo hi hs
      split at h
      · rename_i hc
        cases h
        obtain ⟨ds, hi', _, l1, l2, g2⟩ := lstA_ok gs hs g
        have key : ∃ es, mapO (withPy S) ds = some es ∧ es.map (·.1) = ds ∧ allAlike (es.map (·.2)) = true ∧ sortable (es.map (·.2)) = true := by
          rcases hc with hc | hc
          · obtain ⟨es, h1, h2, h3, h4, _⟩ := alk_all (S := S) hc g2
            exact ⟨es, h1, h2, h3, h4⟩
          · have : ds = [] := List.length_eq_zero_iff.mp (by omega)
            subst this
            exact ⟨[], rfl, rfl, rfl, rfl⟩
        obtain ⟨es, h1, h2, h3, h4⟩ := key
        have hp : ((es.mergeSort leP).map (·.1)).Perm ds := by rw [← h2]; exact (List.mergeSort_perm es leP).map _
        refine ⟨.lst ((es.mergeSort leP).map (·.1)), ?_, _, rfl, by rw [hp.length_eq]; exact l1, by rw [hp.length_eq]; exact l2, fun z hz => g2 z (hp.mem_iff.mp hz)⟩
        simp only [b1, hi', sortD, h1]
        rw [if_pos ⟨h3, h4⟩]
        rfl
      · cases h
    · cases h
  | sum =>
    simp only [aB1] at h
    split at h
    · rename_i l hh lo hi hs
      cases h
      obtain ⟨ds, hi', _, l1, l2, g2⟩ := lstA_ok gs hs g
      obtain ⟨ns, hns⟩ := mapO_ok (f := asInt) (as := ds) fun z hz => by
        obtain ⟨i, rfl, _⟩ := (show ∃ i, z = .int i ∧ _ ∧ _ from g2 z hz)
        exact ⟨i, rfl⟩
      have hl := mapO_length hns
      have hb := sum_bound (m := mag l hh) (ns := ns) fun i hi => by
        obtain ⟨z, hz, e⟩ := mapO_mem hns hi
        obtain ⟨j, rfl, h1, h2⟩ := (show ∃ i, z = .int i ∧ _ ∧ _ from g2 z hz)
        cases e
        exact mag_ok h1 h2
      have hb2 : ns.length * mag l hh ≤ hi * mag l hh := Nat.mul_le_mul_right _ (by omega)
      exact ⟨.int ns.sum, by simp [b1, hi', hns], _, rfl, by omega, by omega⟩
    · rename_i lo hi hs
      cases h
      obtain ⟨ds, hi', _, l1, l2, g2⟩ := lstA_ok gs hs g
      have : ds = [] := by
        cases ds with
        | nil => rfl
        | cons z ds => exact (g2 z List.mem_cons_self).elim
      subst this
      exact ⟨.int 0, by simp [b1, hi', mapO], _, rfl, by omega, by omega⟩
    · cases h
  | max =>
    simp only [aB1] at h
    split at h
    · rename_i e lo hi hs
      split at h
      · rename_i hc
        cases h
        obtain ⟨ds, hi', l1, l2, g2⟩ := seqA_ok gs hs g
        obtain ⟨es, h1, h2, h3, h4, h5⟩ := alk_all (S := S) hc.1 g2
        cases es with
        | nil =>
          rw [List.map_nil] at h2
          rw [← h2] at l1; simp at l1; omega
        | cons q es =>
          have hm := fold_mem' (f := fun a y => PySem.W.dataLt a.2 y.2) es q
          refine ⟨(es.foldl (fun a y => if PySem.W.dataLt a.2 y.2 = true then y else a) q).1, ?_, g2 _ (by rw [← h2]; exact List.mem_map_of_mem hm)⟩
          simp only [b1, hi', h1]
          rw [if_pos ⟨h3, h5⟩]
      · cases h
    · cases h
  | min =>
    simp only [aB1] at h
    split at h
    · rename_i e lo hi hs
      split at h
      · rename_i hc
        cases h
        obtain ⟨ds, hi', l1, l2, g2⟩ := seqA_ok gs hs g
        obtain ⟨es, h1, h2, h3, h4, h5⟩ := alk_all (S := S) hc.1 g2
        cases es with
        | nil =>
          rw [List.map_nil] at h2
          rw [← h2] at l1; simp at l1; omega
        | cons q es =>
          have hm := fold_mem' (f := fun a y => PySem.W.dataLt y.2 a.2) es q
          refine ⟨(es.foldl (fun a y => if PySem.W.dataLt y.2 a.2 = true then y else a) q).1, ?_, g2 _ (by rw [← h2]; exact List.mem_map_of_mem hm)⟩
          simp only [b1, hi', h1]
          rw [if_pos ⟨h3, h5⟩]
      · cases h
    · cases h
  | all =>
    simp only [aB1] at h
    split at h
    · rename_i e lo hi hs
      split at h
      · rename_i hc
        cases h
        obtain ⟨ds, hi', _, l1, l2, g2⟩ := lstA_ok gs hs g
        obtain ⟨ns, hns⟩ := mapO_ok (f := asBl) (as := ds) fun z hz => by
          rcases hc with hc | hc
          · obtain ⟨b, rfl⟩ := bln_ok hc (g2 z hz); exact ⟨b, rfl⟩
          · have : ds.length = 0 := by omega
            rw [List.length_eq_zero_iff] at this
            subst this; cases hz
        exact ⟨.bl (ns.all id), by simp [b1, hi', hns], _, rfl⟩
      · cases h
    · cases h
  | any =>
    simp only [aB1] at h
    split at h
    · rename_i e lo hi hs
      split at h
      · rename_i hc
        cases h
        obtain ⟨ds, hi', _, l1, l2, g2⟩ := lstA_ok gs hs g
        obtain ⟨ns, hns⟩ := mapO_ok (f := asBl) (as := ds) fun z hz => by
          rcases hc with hc | hc
          · obtain ⟨b, rfl⟩ := bln_ok hc (g2 z hz); exact ⟨b, rfl⟩
          · have : ds.length = 0 := by omega
            rw [List.length_eq_zero_iff] at this
            subst this; cases hz
        exact ⟨.bl (ns.any id), by simp [b1, hi', hns], _, rfl⟩
      · cases h
    · cases h
end GW

set_option linter.all false
set_option maxHeartbeats 1000000
/-! GW, part e: truth, types, subscripts, slices by kinds. -/
namespace GW
open PySem L2 GV

/-! ### truth -/
theorem truth_items {S : Sto} {x : D} {ds : List D} (h : items S x = some ds) : truth S x = some (!ds.isEmpty) := by
  cases x <;> simp only [items, Option.some.injEq] at h <;> first
    | (cases h; done)
    | (subst h; rfl)
    | skip
  split at h
  · rename_i hc; cases h; simp only [truth, hc]
  · cases h
def aTr1 (s : AS) (a : A) : Option A := match a with
  | .non => some (.k false)
  | .bl => some .bl
  | .k b => some (.k b)
  | .int l h => some (if 0 < l ∨ h < 0 then .k true else .bl)
  | .sc x => if szOk x.length then some .bl else none
  | .str n => if szOk n then some .bl else none
  | a => match seqA s a with
    | some (_, lo, hi) => some (if 1 ≤ lo then .k true else if hi = 0 then .k false else .bl)
    | none => none
theorem aTr1_ok {s : AS} {S : Sto} (gs : gmS s S) : O1 (fun x => (truth S x).map D.bl) (aTr1 s) := by
  intro a c x h g
  unfold aTr1 at h
  split at h
  · cases h; simp only [gm] at g; subst g; exact ⟨_, rfl, rfl⟩
  · cases h; simp only [gm] at g; obtain ⟨b, rfl⟩ := g; exact ⟨_, rfl, b, rfl⟩
  · cases h; simp only [gm] at g; subst g; exact ⟨_, rfl, by simp only [gm]⟩
  · cases h
    simp only [gm] at g; obtain ⟨i, rfl, h1, h2⟩ := g
    refine ⟨.bl (i != 0), rfl, ?_⟩
    split
    · rename_i hc
      have : (i != 0) = true := by rw [bne_iff_ne]; omega
      simp only [gm, this]
    · exact ⟨_, rfl⟩
  · split at h
    · rename_i z hz; cases h; simp only [gm] at g; subst g
      exact ⟨.bl ((z.length : Int) != 0), by simp only [truth, if_pos hz, Option.map_some], _, rfl⟩
    · cases h
  · split at h
    · rename_i n hz; cases h; simp only [gm] at g; obtain ⟨z, rfl, hl⟩ := g
      have hz' : szOk z.length := Nat.le_trans hl hz
      exact ⟨.bl ((z.length : Int) != 0), by simp only [truth, if_pos hz', Option.map_some], _, rfl⟩
    · cases h
  · split at h
    · rename_i e lo hi hs
      cases h
      obtain ⟨ds, hi', l1, l2, _⟩ := seqA_ok gs hs g
      refine ⟨.bl (!ds.isEmpty), by show Option.map _ (truth S x) = _; rw [truth_items hi']; rfl, ?_⟩
      split
      · have : ds.isEmpty = false := by cases ds <;> simp at * ; omega
        simp only [gm, this, Bool.not_false]
      · split
        · have : ds.isEmpty = true := by cases ds <;> simp at *; omega
          simp only [gm, this, Bool.not_true]
        · exact ⟨_, rfl⟩
    · cases h

/-! ### types, two-place built-ins -/
def aTy (s : AS) (a : A) : Option String := match a with
  | .non => some "NoneType"
  | .bl => some "bool"
  | .k _ => some "bool"
  | .int _ _ => some "int"
  | .sc _ => some "str"
  | .str _ => some "str"
  | .tup _ => some "tuple"
  | .seq true _ _ _ => some "list"
  | .seq false _ _ _ => some "tuple"
  | .fz _ _ _ => some "list"
  | .ref i => (match s[i]? with
    | some (.lst _ _ _) => some "list"
    | some (.dk _) => some "dict"
    | _ => none)
  | _ => none
def aIsa (s : AS) (T : Ty) (a : A) : Option A := (aTy s a).map fun t => .k (isa t T)
theorem aIsa_ok {s : AS} {S : Sto} (gs : gmS s S) (T : Ty) : O1 (fun x => (typeD S x).map fun t => D.bl (isa t T)) (aIsa s T) := by
  intro a c x h g
  unfold aIsa at h
  obtain ⟨t, ht, rfl⟩ := Option.map_eq_some_iff.mp h
  have key : typeD S x = some t := by
    unfold aTy at ht
    split at ht <;> first
      | (cases ht; simp only [gm] at g; subst g; rfl)
      | (cases ht; simp only [gm] at g; obtain ⟨_, rfl⟩ := g; rfl)
      | (cases ht; simp only [gm] at g; obtain ⟨_, rfl, _⟩ := g; rfl)
      | (cases ht; done)
      | skip
    rename_i i
    simp only [gm] at g; subst g
    split at ht
    · rename_i hs
      cases ht
      obtain ⟨c, hc, gc⟩ := gs.at_ i _ hs
      obtain ⟨ds, rfl, _⟩ := gc
      simp only [typeD, hc]
    · rename_i hs
      cases ht
      obtain ⟨c, hc, gc⟩ := gs.at_ i _ hs
      obtain ⟨ds, rfl, _⟩ := gc
      simp only [typeD, hc]
    · cases ht
  exact ⟨.bl (isa t T), by show Option.map _ (typeD S x) = _; rw [key]; rfl, by simp only [gm]⟩
def aB2 (o : B2) (a b : A) : Option A := match a, b with
  | .int l h, .int l' h' => some (match o with
    | .max => .int (imax l l') (imax h h')
    | .min => .int (imin l l') (imin h h')
    | .gcd => .int 0 ((mag l h + mag l' h' : Nat) : Int))
  | _, _ => none
theorem gcd_le (a b : Nat) : Nat.gcd a b ≤ a + b := by
  by_cases h : a = 0
  · subst h; rw [Nat.gcd_zero_left]; omega
  · have := Nat.gcd_le_left b (Nat.pos_of_ne_zero h); omega
theorem aB2_ok (o : B2) : O2 (b2 o) (aB2 o) := by
  intro a b c x y h ga gb
  unfold aB2 at h
  split at h
  · rename_i l hh l' h'
    cases h
    obtain ⟨i, rfl, h1, h2⟩ := (show ∃ i, x = .int i ∧ _ ∧ _ from ga)
    obtain ⟨j, rfl, h3, h4⟩ := (show ∃ i, y = .int i ∧ _ ∧ _ from gb)
    cases o with
    | max => exact ⟨_, rfl, _, rfl, by unfold imax; split <;> split <;> omega, by unfold imax; split <;> split <;> omega⟩
    | min => exact ⟨_, rfl, _, rfl, by unfold imin; split <;> split <;> omega, by unfold imin; split <;> split <;> omega⟩
    | gcd =>
      have m1 := mag_ok h1 h2
      have m2 := mag_ok h3 h4
      have := gcd_le i.natAbs j.natAbs
      exact ⟨_, rfl, _, rfl, by omega, by omega⟩
  · cases h

/-! ### subscripts -/
theorem ixN_ok {n : Nat} {i : Int} (h1 : -(n : Int) ≤ i) (h2 : i < n) : ∃ j, ixN n i = some j ∧ j < n := by
  unfold ixN
  split
  · exact ⟨_, rfl, by omega⟩
  · exact ⟨_, rfl, by omega⟩
theorem atI_ok {α : Type} {xs : List α} {i : Int} (h1 : -(xs.length : Int) ≤ i) (h2 : i < xs.length) : ∃ x, atI xs i = some x ∧ x ∈ xs := by
  obtain ⟨j, hj, hl⟩ := ixN_ok h1 h2
  exact ⟨xs[j], by unfold atI; rw [hj]; simp [hl], List.getElem_mem hl⟩
theorem idx_items {S : Sto} {x : D} {ds : List D} {i : Int} (h : items S x = some ds) : idx S x (.int i) = atI ds i := by
  cases x <;> simp only [items, Option.some.injEq] at h <;> first
    | (cases h; done)
    | (subst h; rfl)
    | skip
  split at h
  · rename_i hc; cases h; simp only [idx, hc]
  · cases h
def lookA (k : L2.Key) : List (L2.Key × A) → Option A
  | [] => none
  | (k', a) :: r => if k' = k then some a else lookA k r
theorem lookA_ok {k : L2.Key} : ∀ {kas : List (L2.Key × A)} {kvs : List (L2.Key × D)} {a : A}, gmK kas kvs → lookA k kas = some a → ∃ d, lookK k kvs = some d ∧ gm a d
  | [], kvs, a, g, h => by simp [lookA] at h
  | (k', b) :: r, kvs, a, g, h => by
    obtain ⟨d, t, rfl, g1, g2⟩ := g
    unfold lookA at h
    unfold lookK
    split at h
    · rename_i e; cases h; rw [if_pos e]; exact ⟨d, rfl, g1⟩
    · rename_i e; rw [if_neg e]; exact lookA_ok g2 h
def aIdx1 (s : AS) (a i : A) : Option A := match i with
  | .int l h => (match a with
    | .tup as => if l = h then atI as l else if -(as.length : Int) ≤ l ∧ h < as.length then some (jnAll as) else none
    | .sc z => if szOk z.length ∧ -(z.length : Int) ≤ l ∧ h < z.length then some (.str 1) else none
    | a => match seqA s a with
      | some (e, lo, _) => if -(lo : Int) ≤ l ∧ h < lo then some e else none
      | none => none)
  | .sc k => (match a with
    | .ref r => (match s[r]? with
      | some (.dk kas) => lookA (.inr k) kas
      | _ => none)
    | _ => none)
  | _ => none
theorem atI_gm {as : List A} {ds : List D} {i : Int} {a : A} (g : gms as ds) (h : atI as i = some a) : ∃ d, atI ds i = some d ∧ gm a d := by
  unfold atI at h ⊢
  rw [gms_length g]
  cases q : ixN as.length i with
  | none => rw [q] at h; cases h
  | some j =>
    rw [q] at h
    exact gms_get g h
theorem aIdx1_ok {s : AS} {S : Sto} (gs : gmS s S) : O2 (idx S) (aIdx1 s) := by
  intro a b c x y h ga gb
  unfold aIdx1 at h
  split at h
  · rename_i l hh
    obtain ⟨i, rfl, h1, h2⟩ := (show ∃ i, y = .int i ∧ _ ∧ _ from gb)
    split at h
    · rename_i as
      obtain ⟨ds, rfl, g⟩ := (show ∃ ds, x = .tup ds ∧ _ from ga)
      have hl := gms_length g
      split at h
      · rename_i e
        have : i = l := by omega
        subst this
        obtain ⟨d, hd, gd⟩ := atI_gm g h
        exact ⟨d, hd, gd⟩
      · split at h
        · rename_i hc
          cases h
          obtain ⟨d, hd, hm⟩ := atI_ok (xs := ds) (i := i) (by omega) (by omega)
          obtain ⟨b, hb, gb⟩ := gms_mem g hm
          exact ⟨d, hd, jnAll_ok hb gb⟩
        · cases h
    · rename_i z
      split at h
      · rename_i hc
        cases h
        have e : x = .str z := ga
        subst e
        have hz : z.cps.toList.length = z.length := by simp [PySem.Str.length]
        obtain ⟨ch, hd, hm⟩ := atI_ok (xs := z.cps.toList) (i := i) (by omega) (by omega)
        refine ⟨.str ⟨#[ch]⟩, ?_, _, rfl, Nat.le_refl _⟩
        simp only [idx, if_pos hc.1, hd, Option.map_some]
      · cases h
    · split at h
      · rename_i e lo hi hs
        split at h
        · rename_i hc
          cases h
          obtain ⟨ds, hi', l1, l2, g⟩ := seqA_ok gs hs ga
          obtain ⟨d, hd, hm⟩ := atI_ok (xs := ds) (i := i) (by omega) (by omega)
          exact ⟨d, by rw [idx_items hi']; exact hd, g d hm⟩
        · cases h
      · cases h
  · rename_i k
    have e : y = .str k := gb
    subst e
    split at h
    · rename_i r
      have e : x = .ref r := ga
      subst e
      split at h
      · rename_i kas hs
        obtain ⟨c', hc, gc⟩ := gs.at_ r _ hs
        obtain ⟨kvs, rfl, g⟩ := gc
        obtain ⟨d, hd, gd⟩ := lookA_ok g h
        exact ⟨d, by simp only [idx, hc, asKey, hd], gd⟩
      · cases h
    · cases h
  · cases h

/-! ### slices -/
theorem gms_drop : ∀ {as : List A} {ds : List D} (g : gms as ds) (k : Nat), gms (as.drop k) (ds.drop k)
  | as, ds, g, 0 => g
  | [], ds, g, k + 1 => by simp only [gms] at g; subst g; simp [gms]
  | a :: as, ds, g, k + 1 => by
    simp only [gms] at g
    obtain ⟨d, r, rfl, _, g2⟩ := g
    exact gms_drop g2 k
theorem gms_take : ∀ {as : List A} {ds : List D} (g : gms as ds) (k : Nat), gms (as.take k) (ds.take k)
  | as, ds, g, 0 => by simp [gms]
  | [], ds, g, k + 1 => by simp only [gms] at g; subst g; simp [gms]
  | a :: as, ds, g, k + 1 => by
    simp only [gms] at g
    obtain ⟨d, r, rfl, g1, g2⟩ := g
    simp only [List.take_succ_cons, gms]
    exact ⟨d, r.take k, rfl, g1, gms_take g2 k⟩
theorem gms_rev {as : List A} {ds : List D} (g : gms as ds) : gms as.reverse ds.reverse := by
  induction as generalizing ds with
  | nil => simp only [gms] at g; subst g; simp [gms]
  | cons a as ih =>
    simp only [gms] at g
    obtain ⟨d, r, rfl, g1, g2⟩ := g
    rw [List.reverse_cons, List.reverse_cons]
    exact gms_app (ih g2) (by simp only [gms]; exact ⟨d, [], rfl, g1, rfl⟩)
/-- a list of any sort -/
def lsA (s : AS) (a : A) : Option (A × Nat × Nat) := match lstA s a with
  | some q => some q
  | none => match a with
    | .fz e lo hi => some (e, lo, hi)
    | _ => none
theorem lsA_ok {s : AS} {S : Sto} {a e : A} {lo hi : Nat} {d : D} (gs : gmS s S) (h : lsA s a = some (e, lo, hi)) (g : gm a d) : ∃ ds, items S d = some ds ∧ slice S d = (fun l h => some (.lst (cut ds l h))) ∧ rev S d = some (.lst ds.reverse) ∧ lo ≤ ds.length ∧ ds.length ≤ hi ∧ ∀ x ∈ ds, gm e x := by
  unfold lsA at h
  split at h
  · rename_i q hq
    cases h
    obtain ⟨ds, h1, h2, h3⟩ := lstA_ok gs hq g
    refine ⟨ds, h2, ?_, ?_, h3⟩
    · funext l h
      cases d <;> simp only [litems, Option.some.injEq] at h1 <;> first
        | (cases h1; done)
        | (subst h1; rfl)
        | simp only [slice, h2, Option.map_some]
    · cases d <;> simp only [litems, Option.some.injEq] at h1 <;> first
        | (cases h1; done)
        | (subst h1; rfl)
        | simp only [rev, h2, Option.map_some]
  · split at h
    · cases h
      simp only [gm] at g
      obtain ⟨ds, rfl, h⟩ := g
      exact ⟨ds, rfl, rfl, rfl, h⟩
    · cases h
/-- bounds of an end of a slice -/
def sLo (ln d : Nat) : Option (Int × Int) → Nat
  | none => d
  | some (l, h) => if 0 ≤ l then min l.toNat ln else if h < 0 then (l + ln).toNat else 0
def sHi (hn d : Nat) : Option (Int × Int) → Nat
  | none => d
  | some (l, h) => if h < 0 then (h + hn).toNat else if 0 ≤ l then min h.toNat hn else hn
def gmI : Option (Int × Int) → Option Int → Prop
  | none, none => True
  | some (l, h), some i => l ≤ i ∧ i ≤ h
  | _, _ => False
theorem sLo_ok {n ln d d' : Nat} {w : Option (Int × Int)} {v : Option Int} (h1 : ln ≤ n) (hd : d ≤ d') (g : gmI w v) : sLo ln d w ≤ HT.sIx n d' v := by
  cases w with
  | none => cases v with
    | none => exact hd
    | some i => exact g.elim
  | some p => cases v with
    | none => exact g.elim
    | some i =>
      obtain ⟨l, h⟩ := p
      obtain ⟨g1, g2⟩ := g
      unfold sLo HT.sIx
      simp only
      split <;> split <;> (try split) <;> omega
theorem sHi_ok {n hn d d' : Nat} {w : Option (Int × Int)} {v : Option Int} (h1 : n ≤ hn) (hd : d' ≤ d) (g : gmI w v) : HT.sIx n d' v ≤ sHi hn d w := by
  cases w with
  | none => cases v with
    | none => exact hd
    | some i => exact g.elim
  | some p => cases v with
    | none => exact g.elim
    | some i =>
      obtain ⟨l, h⟩ := p
      obtain ⟨g1, g2⟩ := g
      unfold sHi HT.sIx
      simp only
      split <;> split <;> (try split) <;> omega
theorem cut_len {α : Type} (xs : List α) (lo hi : Option Int) : (cut xs lo hi).length = min (HT.sIx xs.length xs.length hi - HT.sIx xs.length 0 lo) (xs.length - HT.sIx xs.length 0 lo) := by
  simp [cut]
theorem sIx_le (n : Nat) {d : Nat} (hd : d ≤ n) (v : Option Int) : HT.sIx n d v ≤ n := by
  cases v with
  | none => exact hd
  | some i => unfold HT.sIx; simp only; split <;> omega
theorem cut_mem {α : Type} {xs : List α} {lo hi : Option Int} {x : α} (h : x ∈ cut xs lo hi) : x ∈ xs := List.mem_of_mem_drop (List.mem_of_mem_take h)
theorem cut_b {α : Type} {xs : List α} {ln hn : Nat} {lo hi : Option Int} {wl wh : Option (Int × Int)} (h1 : ln ≤ xs.length) (h2 : xs.length ≤ hn) (gl : gmI wl lo) (gh : gmI wh hi) :
    sLo ln ln wh - sHi hn 0 wl ≤ (cut xs lo hi).length ∧ (cut xs lo hi).length ≤ sHi hn hn wh - sLo ln 0 wl := by
  rw [cut_len]
  have a1 := sLo_ok (n := xs.length) (d := ln) (d' := xs.length) h1 h1 gh
  have a2 := sHi_ok (n := xs.length) (d := hn) (d' := xs.length) h2 h2 gh
  have a3 := sLo_ok (n := xs.length) (d := 0) (d' := 0) h1 (Nat.le_refl _) gl
  have a4 := sHi_ok (n := xs.length) (d := 0) (d' := 0) h2 (Nat.le_refl _) gl
  have a5 := sIx_le xs.length (Nat.le_refl _) hi
  omega
theorem cut_gms {as : List A} {ds : List D} (g : gms as ds) (lo hi : Option Int) : gms (cut as lo hi) (cut ds lo hi) := by
  unfold cut
  rw [gms_length g]
  exact gms_take (gms_drop g _) _
def sEx (w : Option (Int × Int)) : Option (Option Int) := match w with
  | none => some none
  | some (l, h) => if l = h then some (some l) else none
theorem sEx_ok {w : Option (Int × Int)} {v u : Option Int} (h : sEx w = some u) (g : gmI w v) : u = v := by
  unfold sEx at h
  split at h
  · cases h; cases v with
    | none => rfl
    | some i => exact g.elim
  · split at h
    · cases h
      cases v with
      | none => exact g.elim
      | some i => obtain ⟨g1, g2⟩ := g; congr 1; omega
    · cases h
def aSl1 (s : AS) (wl wh : Option (Int × Int)) (a : A) : Option A := match a with
  | .tup as => (match sEx wl, sEx wh with
    | some u, some v => some (.tup (cut as u v))
    | _, _ => some (.seq false (jnAll as) (sLo as.length as.length wh - sHi as.length 0 wl) (sHi as.length as.length wh - sLo as.length 0 wl)))
  | .seq false e ln hn => some (.seq false e (sLo ln ln wh - sHi hn 0 wl) (sHi hn hn wh - sLo ln 0 wl))
  | .sc z => if szOk z.length then some (.str z.length) else none
  | .str n => if szOk n then some (.str n) else none
  | a => match lsA s a with
    | some (e, ln, hn) => some (.seq true e (sLo ln ln wh - sHi hn 0 wl) (sHi hn hn wh - sLo ln 0 wl))
    | none => none
theorem str_cut {z : Str} {n : Nat} (hl : z.length ≤ n) (lo hi : Option Int) : (⟨(cut z.cps.toList lo hi).toArray⟩ : Str).length ≤ n := by
  have := cut_len z.cps.toList lo hi
  have e : z.cps.toList.length = z.length := by simp [PySem.Str.length]
  show (cut z.cps.toList lo hi).toArray.size ≤ n
  simp only [List.size_toArray]
  omega
theorem aSl1_ok {s : AS} {S : Sto} (gs : gmS s S) {lo hi : Option Int} {wl wh : Option (Int × Int)} (gl : gmI wl lo) (gh : gmI wh hi) : O1 (fun x => slice S x lo hi) (aSl1 s wl wh) := by
  intro a c x h g
  unfold aSl1 at h
  split at h
  · rename_i as
    obtain ⟨ds, rfl, g2⟩ := (show ∃ ds, x = .tup ds ∧ _ from g)
    have hl := gms_length g2
    split at h
    · rename_i u v hu hv
      cases h
      have e1 := sEx_ok hu gl
      have e2 := sEx_ok hv gh
      subst e1; subst e2
      exact ⟨_, rfl, _, rfl, cut_gms g2 _ _⟩
    · cases h
      have hb := cut_b (xs := ds) (ln := as.length) (hn := as.length) (by omega) (by omega) gl gh
      refine ⟨_, rfl, _, rfl, hb.1, hb.2, fun z hz => ?_⟩
      obtain ⟨b, hb, gb⟩ := gms_mem g2 (cut_mem hz)
      exact jnAll_ok hb gb
  · cases h
    obtain ⟨ds, rfl, l1, l2, g2⟩ := (show ∃ ds, x = .tup ds ∧ _ ∧ _ ∧ _ from g)
    have hb := cut_b (xs := ds) l1 l2 gl gh
    exact ⟨_, rfl, _, rfl, hb.1, hb.2, fun z hz => g2 z (cut_mem hz)⟩
  · split at h
    · rename_i z hz
      cases h
      have e : x = .str z := g
      subst e
      exact ⟨.str ⟨(cut z.cps.toList lo hi).toArray⟩, by simp only [slice, if_pos hz], _, rfl, str_cut (Nat.le_refl _) _ _⟩
    · cases h
  · split at h
    · rename_i n hz
      cases h
      obtain ⟨z, rfl, hl⟩ := (show ∃ z, x = .str z ∧ _ from g)
      have hz' : szOk z.length := Nat.le_trans hl hz
      exact ⟨.str ⟨(cut z.cps.toList lo hi).toArray⟩, by simp only [slice, if_pos hz'], _, rfl, str_cut hl _ _⟩
    · cases h
  · split at h
    · rename_i e ln hn hs
      cases h
      obtain ⟨ds, _, h1, _, l1, l2, g2⟩ := lsA_ok gs hs g
      have hb := cut_b (xs := ds) l1 l2 gl gh
      exact ⟨.lst (cut ds lo hi), by show slice S x lo hi = _; rw [h1], _, rfl, hb.1, hb.2, fun z hz => g2 z (cut_mem hz)⟩
    · cases h
def aRev1 (s : AS) (a : A) : Option A := match a with
  | .tup as => some (.tup as.reverse)
  | .seq false e lo hi => some (.seq false e lo hi)
  | a => match lsA s a with
    | some (e, lo, hi) => some (.seq true e lo hi)
    | none => none
theorem aRev1_ok {s : AS} {S : Sto} (gs : gmS s S) : O1 (rev S) (aRev1 s) := by
  intro a c x h g
  unfold aRev1 at h
  split at h
  · cases h
    obtain ⟨ds, rfl, g2⟩ := (show ∃ ds, x = .tup ds ∧ _ from g)
    exact ⟨_, rfl, _, rfl, gms_rev g2⟩
  · cases h
    obtain ⟨ds, rfl, l1, l2, g2⟩ := (show ∃ ds, x = .tup ds ∧ _ ∧ _ ∧ _ from g)
    exact ⟨_, rfl, _, rfl, by simpa using l1, by simpa using l2, fun z hz => g2 z (List.mem_reverse.mp hz)⟩
  · split at h
    · rename_i e lo hi hs
      cases h
      obtain ⟨ds, _, _, h1, l1, l2, g2⟩ := lsA_ok gs hs g
      exact ⟨_, h1, _, rfl, by simpa using l1, by simpa using l2, fun z hz => g2 z (List.mem_reverse.mp hz)⟩
    · cases h
end GW

set_option linter.all false
set_option maxHeartbeats 1000000
/-! GW, part f: what writes the store, by kinds. -/
namespace GW
open PySem L2 GV

theorem set_gmS {s : AS} {S : Sto} (gs : gmS s S) {r : Nat} {c : AC} {x : Cell} (g : gmC c x) : gmS (s.set r c) (S.set r x) :=
  ⟨by rw [List.length_set, List.length_set]; exact gs.len, fun i c' h => by
    by_cases e : r = i
    · subst e
      by_cases hl : r < s.length
      · rw [List.getElem?_set_self hl] at h; cases h
        exact ⟨x, by rw [List.getElem?_set_self (by rw [← gs.len]; exact hl)], g⟩
      · rw [List.getElem?_eq_none (by rw [List.length_set]; omega)] at h; cases h
    · rw [List.getElem?_set_ne e] at h ⊢
      exact gs.at_ i c' h⟩
theorem set_Same (S : Sto) (r : Nat) (x : Cell) : Same [r] S (S.set r x) :=
  ⟨by rw [List.length_set]; omega, fun i hi _ => by rw [List.getElem?_set_ne]; intro e; subst e; simp at hi⟩
theorem app_gmS {s : AS} {S : Sto} (gs : gmS s S) {c : AC} {x : Cell} (g : gmC c x) : gmS (s ++ [c]) (S ++ [x]) :=
  ⟨by simp [gs.len], fun i c' h => by
    by_cases hl : i < s.length
    · rw [List.getElem?_append_left hl] at h
      rw [List.getElem?_append_left (by rw [← gs.len]; exact hl)]
      exact gs.at_ i c' h
    · rw [List.getElem?_append_right (by omega)] at h
      rw [List.getElem?_append_right (by rw [← gs.len]; omega), ← gs.len]
      have : i - s.length = 0 := by
        rcases Nat.eq_zero_or_pos (i - s.length) with h0 | h0
        · exact h0
        · rw [List.getElem?_eq_none (by simp; omega)] at h; cases h
      rw [this] at h ⊢
      cases h
      exact ⟨x, rfl, g⟩⟩
theorem app_Same (S : Sto) (x : Cell) : Same [] S (S ++ [x]) :=
  ⟨by simp, fun i _ hl => by rw [List.getElem?_append_left hl]⟩

/-! ### methods -/
def cap : Nat := 16777216
def aMeth (s : AS) (m : Mt) (o : A) (as : List A) : Option (A × AS × List Nat) := match o with
  | .ref r => (match s[r]? with
    | some (.lst e lo hi) => (match m, as with
      | .append, [a] => if hi + 1 ≤ cap then some (.non, s.set r (.lst (jn e a) (lo + 1) (hi + 1)), [r]) else none
      | .extend, [a] => (match lstA s a with
        | some (e', lo', hi') => if hi + hi' ≤ cap then some (.non, s.set r (.lst (jn e e') (lo + lo') (hi + hi')), [r]) else none
        | none => none)
      | .pop, [] => if 1 ≤ lo then some (e, s.set r (.lst e (lo - 1) (hi - 1)), [r]) else none
      | .popAt, [.int l h] => if -(2 ^ 63) ≤ l ∧ h < 2 ^ 63 ∧ -(lo : Int) ≤ l ∧ h < lo then some (e, s.set r (.lst e (lo - 1) (hi - 1)), [r]) else none
      | .insert, [.int l h, a] => if 0 ≤ l ∧ h ≤ lo ∧ hi + 1 ≤ cap then some (.non, s.set r (.lst (jn e a) (lo + 1) (hi + 1)), [r]) else none
      | _, _ => none)
    | _ => none)
  | _ => none
theorem aMeth_ok {s s' : AS} {S : Sto} (gs : gmS s S) {m : Mt} {o a : A} {as : List A} {x : D} {ds : List D} {wr : List Nat} (h : aMeth s m o as = some (a, s', wr)) (go : gm o x) (ga : gms as ds) :
    (∃ ys, litems S x = some ys) ∧ ∃ d S', meth S m x ds = some (d, S') ∧ gm a d ∧ gmS s' S' ∧ Same wr S S' ∧ ∃ r c, wr = [r] ∧ s[r]? = some c ∧ c ≠ .opq ∧ (∀ i, i ≠ r → s'[i]? = s[i]?) := by
  unfold aMeth at h
  split at h
  · rename_i r
    simp only [gm] at go; subst go
    split at h
    · rename_i e lo hi hs
      obtain ⟨c, hc, gc⟩ := gs.at_ r _ hs
      obtain ⟨xs, rfl, l1, l2, g⟩ := gc
      refine ⟨⟨xs, by simp [litems, hc]⟩, ?_⟩
      have fr : ∀ c i, i ≠ r → (s.set r c)[i]? = s[i]? := fun c i hi => List.getElem?_set_ne (Ne.symm hi)
      have wrap : ∀ {e' : A} {lo' hi' : Nat} {ys : List D}, lo' ≤ ys.length → ys.length ≤ hi' → (∀ z ∈ ys, gm e' z) → gmS (s.set r (.lst e' lo' hi')) (S.set r (.lst ys)) := fun h1 h2 h3 => set_gmS gs ⟨_, rfl, h1, h2, h3⟩
      split at h
      · split at h
        · rename_i hz
          cases h
          simp only [gms] at ga
          obtain ⟨d, t, rfl, g1, rfl⟩ := ga
          refine ⟨.non, S.set r (.lst (xs ++ [d])), ?_, rfl, wrap (by simp; omega) (by simp; omega) ?_, set_Same _ _ _, r, _, rfl, hs, by simp, fr _⟩
          · simp only [meth, hc]; rw [if_pos (show szOk _ from Nat.le_trans (by omega) hz)]
          · intro z hz
            rcases List.mem_append.mp hz with hz | hz
            · exact jn_l (g z hz)
            · rw [List.mem_singleton.mp hz]; exact jn_r g1
        · cases h
      · split at h
        · rename_i a' e' lo' hi' hl
          split at h
          · rename_i hz
            cases h
            simp only [gms] at ga
            obtain ⟨d, t, rfl, g1, rfl⟩ := ga
            obtain ⟨ys, h1, _, l3, l4, g2⟩ := lstA_ok gs hl g1
            refine ⟨.non, S.set r (.lst (xs ++ ys)), ?_, rfl, wrap (by simp; omega) (by simp; omega) ?_, set_Same _ _ _, r, _, rfl, hs, by simp, fr _⟩
            · simp only [meth, hc, h1]; rw [if_pos (show szOk _ from Nat.le_trans (by omega) hz)]
            · intro z hz
              rcases List.mem_append.mp hz with hz | hz
              · exact jn_l (g z hz)
              · exact jn_r (g2 z hz)
          · cases h
        · cases h
      · split at h
        · rename_i hz
          cases h
          simp only [gms] at ga; subst ga
          have hlt : xs.length - 1 < xs.length := by omega
          refine ⟨xs[xs.length - 1], S.set r (.lst xs.dropLast), ?_, g _ (List.getElem_mem hlt), wrap (by simp; omega) (by simp; omega) (fun z hz => g z ((List.dropLast_sublist xs).subset hz)), set_Same _ _ _, r, _, rfl, hs, by simp, fr _⟩
          simp only [meth, hc, List.getElem?_eq_getElem hlt]
        · cases h
      · split at h
        · rename_i l hh hz
          cases h
          simp only [gms] at ga
          obtain ⟨d, t, rfl, ⟨i, rfl, i1, i2⟩, rfl⟩ := (show ∃ d t, ds = d :: t ∧ (∃ i, d = .int i ∧ l ≤ i ∧ i ≤ hh) ∧ t = [] from ga)
          have hk : ∃ k, seqIndex? i xs.length = some k ∧ k < xs.length := by
            obtain ⟨k, hk, _⟩ := ixN_ok (n := xs.length) (i := i) (by omega) (by omega)
            obtain ⟨h1, h2, _⟩ := ixN_seq hk
            exact ⟨k, h1, h2⟩
          obtain ⟨k, hk, hkl⟩ := hk
          refine ⟨xs[k], S.set r (.lst (xs.eraseIdx k)), ?_, g _ (List.getElem_mem hkl), wrap (by rw [List.length_eraseIdx_of_lt hkl]; omega) (by rw [List.length_eraseIdx_of_lt hkl]; omega) (fun z hz => g z (List.mem_of_mem_eraseIdx hz)), set_Same _ _ _, r, _, rfl, hs, by simp, fr _⟩
          simp only [meth, hc]
          rw [if_pos ⟨by omega, by omega⟩, hk]
          simp only [List.getElem?_eq_getElem hkl]
        · cases h
      · split at h
        · rename_i l hh a' hz
          cases h
          simp only [gms] at ga
          obtain ⟨d, t, rfl, ⟨i, rfl, i1, i2⟩, d2, t2, rfl, g2, rfl⟩ := (show ∃ d t, ds = d :: t ∧ (∃ i, d = .int i ∧ l ≤ i ∧ i ≤ hh) ∧ ∃ d2 t2, t = d2 :: t2 ∧ gm a' d2 ∧ t2 = [] from ga)
          have hlen : (insAt xs i.toNat d2).length = xs.length + 1 := by unfold insAt; simp; omega
          refine ⟨.non, S.set r (.lst (insAt xs i.toNat d2)), ?_, rfl, wrap (by omega) (by omega) ?_, set_Same _ _ _, r, _, rfl, hs, by simp, fr _⟩
          · simp only [meth, hc]
            rw [if_pos ⟨by omega, by omega, show szOk _ from Nat.le_trans (by omega) hz.2.2⟩]
          · intro z hz
            unfold insAt at hz
            rcases List.mem_append.mp hz with hz | hz
            · exact jn_l (g z (List.mem_of_mem_take hz))
            · rcases List.mem_cons.mp hz with rfl | hz
              · exact jn_r g2
              · exact jn_l (g z (List.mem_of_mem_drop hz))
        · cases h
      · cases h
    · cases h
  · cases h

/-! ### x[i] = d -/
def putA (k : L2.Key) (a : A) : List (L2.Key × A) → Option (List (L2.Key × A))
  | [] => none
  | (k', b) :: r => if k' = k then some ((k', a) :: r) else (putA k a r).map fun r' => (k', b) :: r'
def aSetx (s : AS) (o i a : A) : Option (AS × List Nat) := match o with
  | .ref r => (match s[r]?, i with
    | some (.lst e lo hi), .int l h => if -(lo : Int) ≤ l ∧ h < lo then some (s.set r (.lst (jn e a) lo hi), [r]) else none
    | some (.dk kas), .sc k => if kas.length + 1 ≤ cap ∧ (kas.map (·.1)).Nodup then (putA (.inr k) a kas).map fun kas' => (s.set r (.dk kas'), [r]) else none
    | _, _ => none)
  | _ => none
theorem gmK_keys : ∀ {kas : List (L2.Key × A)} {kvs : List (L2.Key × D)}, gmK kas kvs → kvs.map (·.1) = kas.map (·.1)
  | [], kvs, g => by cases g; rfl
  | (k, a) :: r, kvs, g => by
    obtain ⟨d, t, rfl, _, g2⟩ := g
    simp [gmK_keys g2]
theorem putA_ok {k : L2.Key} {a : A} {d : D} (gd : gm a d) : ∀ {kas kas' : List (L2.Key × A)} {kvs : List (L2.Key × D)}, putA k a kas = some kas' → (kas.map (·.1)).Nodup → gmK kas kvs → gmK kas' (kvs.map fun kv => if kv.1 = k then (kv.1, d) else kv) ∧ (kvs.any fun kv => decide (kv.1 = k)) = true
  | [], kas', kvs, h, _, g => by simp [putA] at h
  | (k', b) :: r, kas', kvs, h, hn, g => by
    obtain ⟨x, t, rfl, g1, g2⟩ := g
    simp only [List.map_cons, List.nodup_cons] at hn
    unfold putA at h
    split at h
    · rename_i e
      cases h
      subst e
      have ht : t.map (fun kv => if kv.1 = k' then (kv.1, d) else kv) = t := by
        have hk := gmK_keys g2
        rw [← hk] at hn
        refine List.map_congr_left (g := id) (fun kv hkv => ?_) |>.trans (List.map_id _)
        rw [if_neg]; rfl
        intro e
        exact hn.1 (List.mem_map.mpr ⟨kv, hkv, e⟩)
      refine ⟨⟨d, t, ?_, gd, g2⟩, by simp⟩
      simp [ht]
    · rename_i e
      obtain ⟨r', hr, rfl⟩ := Option.map_eq_some_iff.mp h
      obtain ⟨h1, h2⟩ := putA_ok gd hr hn.2 g2
      exact ⟨⟨x, _, by simp [e], g1, h1⟩, by simp only [List.any_cons, h2, Bool.or_true]⟩
theorem aSetx_ok {s s' : AS} {S : Sto} (gs : gmS s S) {o i a : A} {x y d : D} {wr : List Nat} (h : aSetx s o i a = some (s', wr)) (go : gm o x) (gi : gm i y) (ga : gm a d) :
    ∃ S', setx S x y d = some S' ∧ gmS s' S' ∧ Same wr S S' ∧ ∃ r c, wr = [r] ∧ s[r]? = some c ∧ c ≠ .opq ∧ (∀ i, i ≠ r → s'[i]? = s[i]?) := by
  unfold aSetx at h
  split at h
  · rename_i r
    simp only [gm] at go; subst go
    have fr : ∀ c i, i ≠ r → (s.set r c)[i]? = s[i]? := fun c i hi => List.getElem?_set_ne (Ne.symm hi)
    split at h
    · rename_i e lo hi l hh hs
      split at h
      · rename_i hz
        cases h
        obtain ⟨c, hc, gc⟩ := gs.at_ r _ hs
        obtain ⟨xs, rfl, l1, l2, g⟩ := gc
        obtain ⟨i, rfl, i1, i2⟩ := (show ∃ i, y = .int i ∧ _ ∧ _ from gi)
        obtain ⟨j, hj, hjl⟩ := ixN_ok (n := xs.length) (i := i) (by omega) (by omega)
        refine ⟨S.set r (.lst (xs.set j d)), by simp only [setx, hc, hj], set_gmS gs ⟨_, rfl, by simpa using l1, by simpa using l2, fun z hz => ?_⟩, set_Same _ _ _, r, _, rfl, hs, by simp, fr _⟩
        rcases List.mem_or_eq_of_mem_set hz with hz | rfl
        · exact jn_l (g z hz)
        · exact jn_r ga
      · cases h
    · rename_i kas k hs
      split at h
      · rename_i hz
        obtain ⟨kas', hp, e⟩ := Option.map_eq_some_iff.mp h
        cases e
        obtain ⟨c, hc, gc⟩ := gs.at_ r _ hs
        obtain ⟨kvs, rfl, g⟩ := gc
        simp only [gm] at gi; subst gi
        have hl : kvs.length = kas.length := by have := congrArg List.length (gmK_keys g); simpa using this
        obtain ⟨h1, h2⟩ := putA_ok ga hp hz.2 g
        refine ⟨S.set r (.dk (GV.putK (.inr k) d kvs)), ?_, set_gmS gs ⟨_, rfl, ?_⟩, set_Same _ _ _, r, _, rfl, hs, by simp, fr _⟩
        · simp only [setx, hc, asKey]
          rw [if_pos (show szOk _ from by rw [hl]; exact hz.1)]
        · unfold GV.putK; rw [if_pos h2]; exact h1
      · cases h
    · cases h
  · cases h
end GW

set_option linter.all false
/-! GX: running texts: rules for walks by hand. -/
namespace GX
open PySem L2 GV

/-! ### flat data -/
def flat : Nat → D → Bool
  | 0, _ => false
  | n + 1, .tup ds => ds.all (flat n)
  | n + 1, .lst ds => ds.all (flat n)
  | n + 1, .fz ds => ds.all (flat n)
  | n + 1, .dk _ ds => ds.all (flat n)
  | _ + 1, .ref _ => false
  | _ + 1, .exo _ _ _ => false
  | _ + 1, .non => true
  | _ + 1, .bl _ => true
  | _ + 1, .int _ => true
  | _ + 1, .str _ => true
def flatC : Cell → Bool
  | .lst ds => ds.all (flat 24)
  | .dk kvs => kvs.all fun q => flat 24 q.2
theorem flat_lt {n : Nat} : ∀ {m : Nat} {d : D}, flat m d = true → ltF n m d = true
  | 0, d, h => by cases h
  | m + 1, d, h => by
    cases d <;> simp only [flat, ltF, List.all_eq_true] at h ⊢ <;> first
      | exact fun x hx => flat_lt (h x hx)
      | (cases h; done)
      | trivial
theorem mapO_id {f : D → Option D} : ∀ {ds : List D}, (∀ x ∈ ds, f x = some x) → mapO f ds = some ds
  | [], _ => rfl
  | d :: ds, h => by simp [mapO, h d List.mem_cons_self, mapO_id fun x hx => h x (List.mem_cons_of_mem _ hx)]
theorem flat_res {S : Sto} {n : Nat} : ∀ {m : Nat} {d : D}, flat m d = true → resF S n m d = some d
  | 0, d, h => by cases h
  | m + 1, d, h => by
    cases d with
    | ref i => cases h
    | fz ds =>
      have h2 : ds.all (ltF n m) = true := List.all_eq_true.mpr fun x hx => flat_lt (List.all_eq_true.mp h x hx)
      simp [resF, h2]
    | tup ds => simp only [flat, List.all_eq_true] at h; simp [resF, mapO_id fun x hx => flat_res (h x hx)]
    | lst ds => simp only [flat, List.all_eq_true] at h; simp [resF, mapO_id fun x hx => flat_res (h x hx)]
    | dk ks ds => simp only [flat, List.all_eq_true] at h; simp [resF, mapO_id fun x hx => flat_res (h x hx)]
    | _ => rfl
theorem flat_mono : ∀ {m : Nat} {d : D}, flat m d = true → flat (m + 1) d = true
  | 0, d, h => by cases h
  | m + 1, d, h => by
    cases d <;> simp only [flat, List.all_eq_true] at h ⊢ <;> first
      | exact fun x hx => flat_mono (h x hx)
      | (cases h; done)
      | trivial
theorem flatC_lt {n : Nat} {c : Cell} (h : flatC c = true) : cellLt n c = true := by
  cases c <;> simp only [flatC, cellLt, List.all_eq_true] at h ⊢ <;> exact fun x hx => flat_lt (h x hx)

/-! ### calls -/
theorem callN_eq {T : List Df} {f : Nat} {df : Df} (h : T[f]? = some df) (k : Nat) (ds : List D) (S : Sto) : callN T (k + 1) f ds S = runD (callN T k) df ds S := by simp only [callN, h]
theorem run_rt {C : CallF} {df : Df} {ds : List D} {S : Sto} {d : D} (hl : ds.length = df.pars) (h : evS C df.body (startD df.names ds) S = .rt d S) : runD C df ds S = .ok d S := by
  unfold runD; rw [if_pos hl, h]; simp [exitR]
/-- only old cells, otherwise put -/
theorem run_st {C : CallF} {df : Df} {ds : List D} {S S' : Sto} {d : D} (hl : ds.length = df.pars) (h : evS C df.body (startD df.names ds) S = .rt d S') (hs : S'.length = S.length) : runD C df ds S = .ok d S' := by
  unfold runD; rw [if_pos hl, h]; simp only [exitR]; rw [if_pos (.inr hs)]
/-- new cells behind, which go -/
theorem run_new {C : CallF} {df : Df} {ds : List D} {S X : Sto} {d d' : D} (hl : ds.length = df.pars) (hk : df.keep = false) (h : evS C df.body (startD df.names ds) S = .rt d (S ++ X)) (hx : X ≠ []) (hr : resF (S ++ X) S.length 24 d = some d') : runD C df ds S = .ok d' S := by
  unfold runD; rw [if_pos hl, h]; simp only [exitR]
  have hne : (S ++ X).length ≠ S.length := by
    cases X with
    | nil => exact absurd rfl hx
    | cons a X => simp
  rw [if_neg (by rw [hk]; intro q; rcases q with q | q; cases q; exact hne q)]
  have : trimS S (S ++ X) = some S := by
    unfold trimS
    rw [if_neg hne, if_pos (.inl (by simp))]; simp
  rw [hr, this]
theorem run_put {C : CallF} {df : Df} {ds : List D} {S S2 X : Sto} {d d' : D} (hl : ds.length = df.pars) (hk : df.keep = false) (h : evS C df.body (startD df.names ds) S = .rt d (S2 ++ X)) (hs : S2.length = S.length) (hx : X ≠ []) (hc : S2.all (cellLt S.length) = true) (hr : resF (S2 ++ X) S.length 24 d = some d') : runD C df ds S = .ok d' S2 := by
  unfold runD; rw [if_pos hl, h]; simp only [exitR]
  have hne : (S2 ++ X).length ≠ S.length := by
    cases X with
    | nil => exact absurd rfl hx
    | cons a X => simp [hs]
  rw [if_neg (by rw [hk]; intro q; rcases q with q | q; cases q; exact hne q)]
  have : trimS S (S2 ++ X) = some S2 := by
    unfold trimS
    rw [if_neg hne, if_pos (.inr (by rw [← hs, List.take_left', hs]; exact hc; rfl)), ← hs]; simp
  rw [hr, this]
theorem res_ref {S : Sto} {X : Cell} {ds : List D} {n m : Nat} {Y : Sto} (e : X = .lst ds) (hn : n = S.length) (h : ds.all (flat m) = true) : resF (S ++ X :: Y) n (m + 1) (.ref n) = some (.lst ds) := by
  subst e; subst hn
  simp only [resF, Nat.lt_irrefl, if_false, List.getElem?_append_right (Nat.le_refl _), Nat.sub_self, List.getElem?_cons_zero]
  rw [mapO_id fun x hx => flat_res (List.all_eq_true.mp h x hx)]; rfl

/-! ### turns -/
theorem compL_some {α : Type} {dp : Option (Nat × Cell)} {f : D → Sto → R (Option D)} {S : Sto} {e : α → D} {o : α → Option D} (hd : depOk S dp) : ∀ {l : List α} {acc : List D}, (∀ a ∈ l, f (e a) S = .ok (o a) S) → acc.length + l.length ≤ 16777216 →
    compL dp f (l.map e) acc S = .ok (acc ++ l.filterMap o) S
  | [], acc, _, _ => by simp [compL]
  | a :: l, acc, h, hs => by
    simp only [List.map_cons, compL, h a List.mem_cons_self, R.bind_ok, if_pos hd]
    simp only [List.length_cons] at hs
    cases ho : o a with
    | none =>
      simp only
      rw [compL_some hd (fun b hb => h b (List.mem_cons_of_mem _ hb)) (by omega)]
      simp [ho]
    | some d =>
      simp only
      rw [if_pos (show szOk (acc.length + 1) by unfold szOk; omega), compL_some hd (fun b hb => h b (List.mem_cons_of_mem _ hb)) (by simp; omega)]
      simp [ho]
theorem compL_map {α : Type} {dp : Option (Nat × Cell)} {f : D → Sto → R (Option D)} {S : Sto} {e g : α → D} {l : List α} (hd : depOk S dp) (h : ∀ a ∈ l, f (e a) S = .ok (some (g a)) S) (hs : l.length ≤ 16777216) :
    compL dp f (l.map e) [] S = .ok (l.map g) S := by
  rw [compL_some (o := fun a => some (g a)) hd h (by simpa using hs)]; simp
/-- turns that go on: a state told by s -/
theorem forL_fold {α σ : Type} {dp : Option (Nat × Cell)} {f : D → Rho → Sto → SR} {e : α → D} {r : σ → Rho} {st : σ → Sto} {step : σ → α → σ} {P : σ → Prop} : ∀ {l : List α} {s : σ}, P s →
    (∀ a ∈ l, ∀ s, P s → (f (e a) (r s) (st s) = .nx (r (step s a)) (st (step s a)) ∨ f (e a) (r s) (st s) = .ct (r (step s a)) (st (step s a))) ∧ depOk (st (step s a)) dp ∧ P (step s a)) → forL dp f (l.map e) (r s) (st s) = .nx (r (l.foldl step s)) (st (l.foldl step s)) ∧ P (l.foldl step s)
  | [], s, hp, _ => ⟨rfl, hp⟩
  | a :: l, s, hp, h => by
    obtain ⟨h1, h2, h3⟩ := h a List.mem_cons_self s hp
    have ih := forL_fold (l := l) h3 fun b hb => h b (List.mem_cons_of_mem _ hb)
    rcases h1 with h1 | h1 <;> simp only [List.map_cons, forL, h1, if_pos h2, List.foldl_cons] <;> exact ih
/-- turns that go on or out, an invariant -/
theorem forL_inv {α : Type} {dp : Option (Nat × Cell)} {f : D → Rho → Sto → SR} {e : α → D} {I : List α → Rho → Sto → Prop} {Q : D → Sto → Prop} (full : List α) : ∀ (l pre : List α) (ρ : Rho) (S : Sto), pre ++ l = full → I pre ρ S →
    (∀ pre a l ρ S, pre ++ a :: l = full → I pre ρ S → (∃ ρ' S', (f (e a) ρ S = .nx ρ' S' ∨ f (e a) ρ S = .ct ρ' S') ∧ depOk S' dp ∧ I (pre ++ [a]) ρ' S') ∨ ∃ d S', f (e a) ρ S = .rt d S' ∧ Q d S') →
    (∃ ρ' S', forL dp f (l.map e) ρ S = .nx ρ' S' ∧ I full ρ' S') ∨ ∃ d S', forL dp f (l.map e) ρ S = .rt d S' ∧ Q d S'
  | [], pre, ρ, S, hf, hi, _ => .inl ⟨ρ, S, rfl, by rw [← hf]; simpa using hi⟩
  | a :: l, pre, ρ, S, hf, hi, h => by
    rcases h pre a l ρ S hf hi with ⟨ρ', S', h1, h2, h3⟩ | ⟨d, S', h1, h2⟩
    · have ih := forL_inv full l (pre ++ [a]) ρ' S' (by simpa using hf) h3 h
      rcases h1 with h1 | h1 <;> simp only [List.map_cons, forL, h1, if_pos h2] <;> exact ih
    · exact .inr ⟨d, S', by simp only [List.map_cons, forL, h1], h2⟩
theorem whlR_eq {c : Rho → Sto → R Bool} {f : Rho → Sto → SR} {ρ : Rho} {S : Sto} {r : SR} {n : Nat} (h : whlN c f n ρ S = r) (hr : r ≠ .no) : whlR c f ρ S = r := by
  have mono : ∀ n ρ S, whlN c f n ρ S ≠ .no → ∀ m, n ≤ m → whlN c f m ρ S = whlN c f n ρ S := by
    intro n
    induction n with
    | zero => intro ρ S h; exact absurd rfl h
    | succ n ih =>
      intro ρ S h m hm
      cases m with
      | zero => omega
      | succ m =>
        simp only [whlN] at h ⊢
        cases hc : c ρ S with
        | ok k S1 =>
          rw [hc] at h
          simp only [R.st_ok] at h ⊢
          cases k with
          | false => rfl
          | true =>
            simp only [if_true] at h ⊢
            cases hf : f ρ S1 with
            | nx ρ' S' => rw [hf] at h; exact ih ρ' S' h m (by omega)
            | ct ρ' S' => rw [hf] at h; exact ih ρ' S' h m (by omega)
            | _ => rfl
        | _ => rfl
  have hex : ∃ n, whlN c f n ρ S ≠ .no := ⟨n, by rw [h]; exact hr⟩
  unfold whlR
  rw [dif_pos hex]
  rcases Nat.le_total n (Classical.choose hex) with hle | hle
  · rw [mono n ρ S (by rw [h]; exact hr) _ hle, h]
  · rw [← mono _ ρ S (Classical.choose_spec hex) n hle, h]
end GX

set_option linter.all false
/-! GX, part b: data. -/
namespace GX
open PySem GV
open L2 (atI ixN)

/-! ### numbers that are not too great -/
def bd (n : Nat) (a : Int) : Prop := a.natAbs < 2 ^ n
instance (n : Nat) (a : Int) : Decidable (bd n a) := inferInstanceAs (Decidable (_ < _))
theorem bd_of {n : Nat} {a b : Int} (h : bd n b) (h2 : a.natAbs ≤ b.natAbs) : bd n a := Nat.lt_of_le_of_lt h2 h
theorem bd_le {m n : Nat} {a : Int} (h : bd m a) (hl : m ≤ n) : bd n a := Nat.lt_of_lt_of_le h (Nat.pow_le_pow_right (by omega) hl)
theorem bd_mul {m n : Nat} {a b : Int} (h : bd m a) (h2 : bd n b) : bd (m + n) (a * b) := by
  unfold bd at *
  rw [Int.natAbs_mul, Nat.pow_add]
  exact Nat.mul_lt_mul'' h h2
theorem bd_add {m n : Nat} {a b : Int} (h : bd m a) (h2 : bd n b) : bd (max m n + 1) (a + b) := by
  have h1 := bd_le h (Nat.le_max_left m n)
  have h3 := bd_le h2 (Nat.le_max_right m n)
  unfold bd at *
  rw [Nat.pow_succ]
  omega
theorem bd_neg {m : Nat} {a : Int} (h : bd m a) : bd m (-a) := by unfold bd at *; omega
theorem bd_sub {m n : Nat} {a b : Int} (h : bd m a) (h2 : bd n b) : bd (max m n + 1) (a - b) := bd_add h (bd_neg h2)
theorem log2_bd {n : Nat} {a : Int} (h : bd n a) : a.natAbs.log2 ≤ n := by
  by_cases h0 : a.natAbs = 0
  · rw [h0]; simp
  · exact Nat.le_of_lt ((Nat.log2_lt h0).mpr h)
theorem mulOk_bd {m n : Nat} {a b : Int} (h : bd m a) (h2 : bd n b) (hl : m + n < 100000000) : mulOk a b := by
  have := log2_bd h; have := log2_bd h2
  unfold mulOk; omega
theorem bd_lit {n : Nat} {a : Int} (h : a.natAbs < 2 ^ n) : bd n a := h

/-! ### what can be told apart -/
/-- numbers, texts, None, tuples and lists of these -/
def nb : Nat → D → Bool
  | 0, _ => false
  | n + 1, .tup ds => ds.all (nb n)
  | n + 1, .lst ds => ds.all (nb n)
  | _ + 1, .non => true
  | _ + 1, .int _ => true
  | _ + 1, .str _ => true
  | _ + 1, _ => false
mutual
theorem eqv_nb {S : Sto} : ∀ {n m : Nat} {x y : D} , nb n x = true → nb m y = true → ∃ p q, pyF S n x = some p ∧ pyF S m y = some q ∧ p.plain = true ∧ q.plain = true ∧ (PyData.eqv p q = true ↔ x = y)
  | 0, _, x, _, hx, _ => by cases hx
  | _ + 1, 0, _, y, _, hy => by cases hy
  | n + 1, m + 1, x, y, hx, hy => by
    have key : ∀ {ds es : List D}, ds.all (nb n) = true → es.all (nb m) = true → ∃ ps qs, mapO (pyF S n) ds = some ps ∧ mapO (pyF S m) es = some qs ∧ PyData.plainAll ps = true ∧ PyData.plainAll qs = true ∧ (PyData.eqvAll ps qs = true ↔ ds = es) := by
      have self : ∀ {k : Nat} {ds : List D}, k ≤ n ∨ k ≤ m → ds.all (nb k) = true → ∃ ps, mapO (pyF S k) ds = some ps ∧ PyData.plainAll ps = true := by
        intro k ds hk h
        induction ds with
        | nil => exact ⟨[], rfl, by simp [PyData.plainAll]⟩
        | cons d ds ih =>
          simp only [List.all_cons, Bool.and_eq_true] at h
          obtain ⟨ps, h1, h2⟩ := ih h.2
          obtain ⟨p, h3, h4⟩ : ∃ p, pyF S k d = some p ∧ p.plain = true := by
            exact one_nb h.1
          exact ⟨p :: ps, by simp [mapO, h3, h1], by simp [PyData.plainAll, h4, h2]⟩
      intro ds
      induction ds with
      | nil =>
        intro es _ he
        obtain ⟨qs, h1, h2⟩ := self (.inr (Nat.le_refl m)) he
        refine ⟨[], qs, rfl, h1, by simp [PyData.plainAll], h2, ?_⟩
        cases es with
        | nil => cases h1; simp [PyData.eqvAll]
        | cons e es =>
          obtain ⟨_, _, _, _, rfl⟩ := mapO_cons h1
          simp [PyData.eqvAll]
      | cons d ds ih =>
        intro es hd he
        cases es with
        | nil =>
          obtain ⟨ps, h1, h2⟩ := self (.inl (Nat.le_refl n)) hd
          refine ⟨ps, [], h1, rfl, h2, by simp [PyData.plainAll], ?_⟩
          obtain ⟨_, _, _, _, rfl⟩ := mapO_cons h1
          simp [PyData.eqvAll]
        | cons e es =>
          simp only [List.all_cons, Bool.and_eq_true] at hd he
          obtain ⟨ps, qs, h1, h2, h3, h4, h5⟩ := ih hd.2 he.2
          obtain ⟨p, q, h6, h7, h8, h9, h10⟩ := eqv_nb (S := S) hd.1 he.1
          refine ⟨p :: ps, q :: qs, by simp [mapO, h6, h1], by simp [mapO, h7, h2], by simp [PyData.plainAll, h8, h3], by simp [PyData.plainAll, h9, h4], ?_⟩
          simp [PyData.eqvAll, h10, h5]
    obtain ⟨p, hp1, hp2⟩ := one_nb (S := S) hx
    obtain ⟨q, hq1, hq2⟩ := one_nb (S := S) hy
    refine ⟨p, q, hp1, hq1, hp2, hq2, ?_⟩
    cases x <;> first | (cases hx; done) | skip <;> cases y <;> first | (cases hy; done) | skip <;> simp only [pyF, Option.some.injEq] at hp1 hq1
    all_goals first
      | (subst hp1; subst hq1; simp [PyData.eqv]; done)
      | skip
    all_goals first
      | (obtain ⟨ps, hps, rfl⟩ := Option.map_eq_some_iff.mp hp1
         obtain ⟨qs, hqs, rfl⟩ := Option.map_eq_some_iff.mp hq1
         simp [PyData.eqv]
         first
          | (simp only [nb] at hx hy
             obtain ⟨ps', qs', h1, h2, _, _, h5⟩ := key hx hy
             rw [hps] at h1; rw [hqs] at h2; cases h1; cases h2
             exact h5)
          | done)
      | (obtain ⟨ps, hps, rfl⟩ := Option.map_eq_some_iff.mp hp1; subst hq1; simp [PyData.eqv]; done)
      | (obtain ⟨ps, hps, rfl⟩ := Option.map_eq_some_iff.mp hq1; subst hp1; simp [PyData.eqv]; done)
theorem one_nb {S : Sto} : ∀ {n : Nat} {x : D}, nb n x = true → ∃ p, pyF S n x = some p ∧ p.plain = true
  | 0, x, h => by cases h
  | n + 1, x, h => by
    have self : ∀ {ds : List D}, ds.all (nb n) = true → ∃ ps, mapO (pyF S n) ds = some ps ∧ PyData.plainAll ps = true := by
      intro ds h
      induction ds with
      | nil => exact ⟨[], rfl, by simp [PyData.plainAll]⟩
      | cons d ds ih =>
        simp only [List.all_cons, Bool.and_eq_true] at h
        obtain ⟨ps, h1, h2⟩ := ih h.2
        obtain ⟨p, h3, h4⟩ := one_nb (S := S) h.1
        exact ⟨p :: ps, by simp [mapO, h3, h1], by simp [PyData.plainAll, h4, h2]⟩
    cases x with
    | tup ds => obtain ⟨ps, h1, h2⟩ := self (by simpa only [nb] using h); exact ⟨.tuple ps, by simp [pyF, h1], by simp [PyData.plain, h2]⟩
    | lst ds => obtain ⟨ps, h1, h2⟩ := self (by simpa only [nb] using h); exact ⟨.list ps, by simp [pyF, h1], by simp [PyData.plain, h2]⟩
    | non => exact ⟨_, rfl, by simp [PyData.plain]⟩
    | int i => exact ⟨_, rfl, by simp [PyData.plain]⟩
    | str x => exact ⟨_, rfl, by simp [PyData.plain]⟩
    | _ => cases h
end
noncomputable instance : DecidableEq D := fun _ _ => Classical.propDecidable _
theorem eqD_nb {S : Sto} {x y : D} (hx : nb 24 x = true) (hy : nb 24 y = true) : eqD S x y = some (decide (x = y)) := by
  obtain ⟨p, q, h1, h2, h3, h4, h5⟩ := eqv_nb (S := S) hx hy
  unfold eqD py
  rw [h1, h2]
  simp only [h3, h4, and_self, if_true, Option.some.injEq]
  by_cases e : x = y
  · rw [decide_eq_true e, h5.mpr e]
  · rw [decide_eq_false e]
    cases hq : PyData.eqv p q with
    | false => rfl
    | true => exact absurd (h5.mp hq) e
@[simp] theorem map_int_inj {l m : List Int} : l.map D.int = m.map D.int ↔ l = m := by
  constructor
  · intro h
    have := congrArg (List.map fun d => match d with | D.int i => i | _ => 0) h
    simpa [Function.comp_def] using this
  · intro h; rw [h]
theorem nb_ints {n : Nat} (l : List Int) : (l.map D.int).all (nb (n + 1)) = true := by simp [nb]

/-! ### what is shown -/
theorem pyF_nil {S : Sto} : ∀ {n : Nat} {d : D} {p : PyData}, pyF [] n d = some p → pyF S n d = some p
  | 0, _, _, h => by cases h
  | n + 1, d, p, h => by
    cases d <;> simp only [pyF] at h ⊢ <;> first
      | exact h
      | (obtain ⟨ps, h1, rfl⟩ := Option.map_eq_some_iff.mp h
         rw [GW.mapO_mono (fun a b => pyF_nil) h1]; rfl)
      | simp at h
theorem gmS_nil : GW.gmS [] [] := ⟨rfl, fun i c h => by simp at h⟩
theorem repr_ok {a : GW.A} {d : D} {w : Nat} (h : GW.pyA 24 [] a = some (some w)) (hw : w ≤ 16777216) (g : GW.gm a d) : ∃ x, x.length ≤ w ∧ ∀ S, b1 S .repr d = some (.str x) := by
  obtain ⟨p, hp⟩ := GW.pyA_ok gmS_nil 24 a d _ h g
  refine ⟨p.shown, (hp.sh w rfl).2, fun S => ?_⟩
  have h1 : py S d = some p := pyF_nil hp.py
  have h2 := (GW.no_dict p hp.pl).1
  have h3 := hp.sh w rfl
  simp only [b1, h1, h3.1, h2, true_and, true_or]
  rw [if_pos (show szOk _ from Nat.le_trans h3.2 hw)]

/-! ### least and greatest -/
theorem withPy_ints (S : Sto) : ∀ l : List Int, mapO (withPy S) (l.map D.int) = some (l.map fun i => (D.int i, PyData.int i))
  | [] => rfl
  | i :: l => by simp [mapO, withPy, pyF, withPy_ints S l]
theorem alike_ints (l : List Int) : allAlike (l.map PyData.int) = true := by simp [allAlike, PySem.W.alike]
theorem min_ints (S : Sto) (x : D) (i : Int) (l : List Int) (h : items S x = some ((i :: l).map D.int)) : b1 S .min x = some (.int (l.foldl (fun a y => if y < a then y else a) i)) := by
  have : b1 S .min x = match items S x with
    | some ds => (match mapO (withPy S) ds with
      | some (e :: es) => if allAlike ((e :: es).map (·.2)) = true ∧ (e :: es).all (fun q => notNone q.2 && pureF 23 q.1) = true then some (es.foldl (fun a y => if PySem.W.dataLt y.2 a.2 = true then y else a) e).1 else none
      | _ => none)
    | none => none := by cases x <;> rfl
  rw [this, h]
  simp only [withPy_ints]
  rw [List.map_cons]
  simp only
  rw [if_pos]
  · have : ∀ (l : List Int) (i : Int), (l.map fun i => (D.int i, PyData.int i)).foldl (fun a y => if PySem.W.dataLt y.2 a.2 = true then y else a) (D.int i, PyData.int i) = (D.int (l.foldl (fun a y => if y < a then y else a) i), PyData.int (l.foldl (fun a y => if y < a then y else a) i)) := by
      intro l
      induction l with
      | nil => intro i; rfl
      | cons j l ih =>
        intro i
        simp only [List.map_cons, List.foldl_cons, PySem.W.dataLt_int, decide_eq_true_eq]
        split <;> exact ih _
    rw [this]
  · constructor
    · have := alike_ints (i :: l)
      simpa [Function.comp_def] using this
    · simp [notNone, pureF]
theorem foldMin_lt {l : List Int} {i t : Int} : l.foldl (fun a y => if y < a then y else a) i < t ↔ ∃ x ∈ i :: l, x < t := by
  induction l generalizing i with
  | nil => simp
  | cons j l ih =>
    rw [List.foldl_cons, ih]
    simp only [List.mem_cons, exists_eq_or_imp]
    split <;> constructor <;> grind
theorem asBl_map {α : Type} {l : List α} {f : α → Bool} : mapO asBl (l.map fun a => D.bl (f a)) = some (l.map f) := by
  induction l with
  | nil => rfl
  | cons a l ih => simp [mapO, asBl, ih]
theorem enmL_eq (ds : List D) : ∀ k, enmL k ds = (ds.zipIdx k).map fun p => .tup [.int p.2, p.1] := by
  induction ds with
  | nil => intro k; rfl
  | cons d ds ih => intro k; simp [enmL, ih]
end GX

set_option linter.all false
set_option maxHeartbeats 1000000
/-! GX, part c: walks by rules. -/
namespace GX
open PySem GV
open L2 (atI ixN)
abbrev QD := D → Sto → Prop
abbrev QE := Nat → Option D → Sto → Prop
@[irreducible] def W (C : CallF) (g : G) (ρ : Rho) (S : Sto) (Q : QD) (E : QE) : Prop := match ev C g ρ S with
  | .ok d S' => Q d S'
  | .exc c v S' => E c v S'
  | .no => False
@[irreducible] def Wl (C : CallF) (g : G) (ρ : Rho) (S : Sto) (Q : List D → Sto → Prop) (E : QE) : Prop := match ev C g ρ S with
  | .ok (.tup ds) S' => Q ds S'
  | .ok _ S' => False
  | .exc c v S' => E c v S'
  | .no => False
@[irreducible] def Wc (C : CallF) (f : Nat) (ds : List D) (S : Sto) (Q : QD) (E : QE) : Prop := match C f ds S with
  | .ok d S' => Q d S'
  | .exc c v S' => E c v S'
  | .no => False
@[irreducible] def Wo {α : Type} (r : Option α) (S : Sto) (Q : α → Sto → Prop) : Prop := ∃ d, r = some d ∧ Q d S
@[irreducible] def Wif (k : Bool) (P Q : Prop) : Prop := if k = true then P else Q
theorem wo_of {α : Type} {r : Option α} {S : Sto} {Q : α → Sto → Prop} {d : α} (h : r = some d) (q : Q d S) : Wo r S Q := by unfold Wo; exact ⟨d, h, q⟩
theorem wif {k : Bool} {P Q : Prop} (h1 : k = true → P) (h2 : k = false → Q) : Wif k P Q := by
  unfold Wif; split
  · rename_i h; exact h1 h
  · rename_i h; exact h2 (by simpa using h)
theorem wif_t {P Q : Prop} (p : P) : Wif true P Q := by unfold Wif; exact p
theorem wif_f {P Q : Prop} (p : Q) : Wif false P Q := by unfold Wif; exact p
theorem wif_d {c : Prop} [Decidable c] {P Q : Prop} (h1 : c → P) (h2 : ¬ c → Q) : Wif (decide c) P Q := wif (fun h => h1 (of_decide_eq_true h)) (fun h => h2 (of_decide_eq_false h))
theorem wif_n {b : Bool} {P Q : Prop} (h : Wif b Q P) : Wif (!b) P Q := by unfold Wif at *; cases b <;> simpa using h
theorem wif_bn {b : Bool} {P Q : Prop} (h : Wif b Q P) : Wif (bnot b) P Q := wif_n h
theorem wif_eq {b b' : Bool} {P Q : Prop} (e : b = b') (h : Wif b' P Q) : Wif b P Q := e ▸ h
variable {C : CallF} {ρ : Rho} {S : Sto} {Q : QD} {E : QE}
theorem w_of {g : G} {d : D} {S' : Sto} (h : ev C g ρ S = .ok d S') (q : Q d S') : W C g ρ S Q E := by unfold W; rw [h]; exact q
/-- first a, then f -/
theorem w_bind {g a : G} {f : D → Sto → R D} (e : ev C g ρ S = (ev C a ρ S).bind f) (h : W C a ρ S (fun x S1 => match f x S1 with
  | .ok d S' => Q d S'
  | .exc c v S' => E c v S'
  | .no => False) E) : W C g ρ S Q E := by
  unfold W at h ⊢
  rw [e]
  cases q : ev C a ρ S with
  | ok d S1 => rw [q] at h; exact h
  | exc c v S1 => rw [q] at h; exact h
  | no => rw [q] at h; exact h
theorem W.mono {g : G} {Q' : QD} {E' : QE} (hq : ∀ d S, Q d S → Q' d S) (he : ∀ c v S, E c v S → E' c v S) (h : W C g ρ S Q E) : W C g ρ S Q' E' := by
  unfold W at h ⊢
  split at h
  · exact hq _ _ h
  · exact he _ _ _ h
  · exact h.elim
theorem wif_run {k : Bool} {r r' : R D} {P P' : Prop} (h : Wif k P P') (h1 : P → match r with
  | .ok d S' => Q d S'
  | .exc c v S' => E c v S'
  | .no => False) (h2 : P' → match r' with
  | .ok d S' => Q d S'
  | .exc c v S' => E c v S'
  | .no => False) : match (if k = true then r else r') with
  | .ok d S' => Q d S'
  | .exc c v S' => E c v S'
  | .no => False := by
  unfold Wif at h
  cases k
  · simp only [Bool.false_eq_true, if_false] at h ⊢; exact h2 h
  · simp only [if_true] at h ⊢; exact h1 h
theorem W.out {g : G} (h : W C g ρ S Q E) : match ev C g ρ S with
  | .ok d S' => Q d S'
  | .exc c v S' => E c v S'
  | .no => False := by unfold W at h; exact h
theorem Wc.out {f : Nat} {ds : List D} (h : Wc C f ds S Q E) : match C f ds S with
  | .ok d S' => Q d S'
  | .exc c v S' => E c v S'
  | .no => False := by unfold Wc at h; exact h
/-! ### rules -/
theorem e_loc {i : Nat} {d : D} (h : ρ[i]? = some (some d)) (q : Q d S) : W C (.loc i) ρ S Q E := w_of (by simp only [ev, h]) q
theorem e_cst {d : D} (q : Q d S) : W C (.cst d) ρ S Q E := w_of (by simp only [ev]) q
theorem e_bin {o : Bop} {a b : G} (h : W C a ρ S (fun x S1 => W C b ρ S1 (fun y S2 => Wo (GV.bin S2 o x y) S2 Q) E) E) : W C (.bin o a b) ρ S Q E := by
  refine w_bind (by simp only [ev]; rfl) (h.mono (fun x S1 h => ?_) fun _ _ _ h => h)
  have h := h.out
  cases q : ev C b ρ S1 with
  | ok y S2 =>
    rw [q] at h; simp only [R.bind_ok]
    unfold Wo at h; obtain ⟨d, e, hq⟩ := h
    rw [e]; exact hq
  | exc c v S2 => rw [q] at h; exact h
  | no => rw [q] at h; exact h
def negD : D → Option D
  | .int i => some (.int (-i))
  | _ => none
theorem e_neg {a : G} (h : W C a ρ S (fun x S1 => Wo (negD x) S1 Q) E) : W C (.neg a) ρ S Q E := by
  refine w_bind (by simp only [ev]; rfl) (h.mono (fun x S1 h => ?_) fun _ _ _ h => h)
  unfold Wo at h; obtain ⟨d, e, hq⟩ := h
  cases x <;> simp only [negD, Option.some.injEq] at e <;> first | (cases e; done) | (subst e; exact hq)
theorem e_not {a : G} (h : W C a ρ S (fun x S1 => Wo (truth S1 x) S1 fun k S2 => Q (.bl (!k)) S2) E) : W C (.not a) ρ S Q E := by
  refine w_bind (by simp only [ev]; rfl) (h.mono (fun x S1 h => ?_) fun _ _ _ h => h)
  unfold Wo at h; obtain ⟨d, e, hq⟩ := h
  rw [e]; exact hq
theorem e_cmp {o : Cop} {a b : G} (h : W C a ρ S (fun x S1 => W C b ρ S1 (fun y S2 => Wo (cmp S2 o x y) S2 fun k S3 => Q (.bl k) S3) E) E) : W C (.cmp o a b) ρ S Q E := by
  refine w_bind (by simp only [ev]; rfl) (h.mono (fun x S1 h => ?_) fun _ _ _ h => h)
  have h := h.out
  cases q : ev C b ρ S1 with
  | ok y S2 =>
    rw [q] at h; simp only [R.bind_ok]
    unfold Wo at h; obtain ⟨d, e, hq⟩ := h
    rw [e]; exact hq
  | exc c v S2 => rw [q] at h; exact h
  | no => rw [q] at h; exact h
theorem e_chain {o p : Cop} {a b c : G} (h : W C a ρ S (fun x S1 => W C b ρ S1 (fun y S2 => Wo (cmp S2 o x y) S2 fun k S3 => Wif k (W C c ρ S3 (fun z S4 => Wo (cmp S4 p y z) S4 fun k' S5 => Q (.bl k') S5) E) (Q (.bl false) S3)) E) E) : W C (.chain o p a b c) ρ S Q E := by
  refine w_bind (by simp only [ev]; rfl) (h.mono (fun x S1 h => ?_) fun _ _ _ h => h)
  have h := h.out
  cases q : ev C b ρ S1 with
  | ok y S2 =>
    rw [q] at h; simp only [R.bind_ok]
    unfold Wo at h; obtain ⟨d, e, hq⟩ := h
    unfold chn
    rw [e]; simp only [R.of_some, R.bind_ok]
    refine wif_run hq (fun h => ?_) fun h => h
    have h := h.out
    cases q : ev C c ρ S2 with
    | ok z S3 =>
      rw [q] at h; simp only [R.bind_ok]
      obtain ⟨d, e, hq⟩ := h
      rw [e]; exact hq
    | exc c v S2 => rw [q] at h; exact h
    | no => rw [q] at h; exact h
  | exc c v S2 => rw [q] at h; exact h
  | no => rw [q] at h; exact h
theorem e_and {a b : G} (h : W C a ρ S (fun x S1 => Wo (truth S1 x) S1 fun k S2 => Wif k (W C b ρ S2 Q E) (Q x S2)) E) : W C (.and a b) ρ S Q E := by
  refine w_bind (by simp only [ev]; rfl) (h.mono (fun x S1 h => ?_) fun _ _ _ h => h)
  unfold Wo at h; obtain ⟨d, e, hq⟩ := h
  rw [e]; simp only [R.of_some, R.bind_ok]
  exact wif_run hq (fun h => h.out) fun h => h
theorem e_or {a b : G} (h : W C a ρ S (fun x S1 => Wo (truth S1 x) S1 fun k S2 => Wif k (Q x S2) (W C b ρ S2 Q E)) E) : W C (.or a b) ρ S Q E := by
  refine w_bind (by simp only [ev]; rfl) (h.mono (fun x S1 h => ?_) fun _ _ _ h => h)
  unfold Wo at h; obtain ⟨d, e, hq⟩ := h
  rw [e]; simp only [R.of_some, R.bind_ok]
  exact wif_run hq (fun h => h) fun h => h.out
theorem e_ife {c a b : G} (h : W C c ρ S (fun x S1 => Wo (truth S1 x) S1 fun k S2 => Wif k (W C a ρ S2 Q E) (W C b ρ S2 Q E)) E) : W C (.ife c a b) ρ S Q E := by
  unfold W at h ⊢
  simp only [ev]
  cases q : ev C c ρ S with
  | ok x S1 =>
    rw [q] at h; simp only [R.bind_ok]
    simp only at h
    unfold Wo at h; obtain ⟨d, e, hq⟩ := h
    rw [e]; simp only [R.of_some, R.bind_ok]
    exact wif_run hq (fun h => h) fun h => h
  | exc c v S2 => rw [q] at h; exact h
  | no => rw [q] at h; exact h
/-! ### lists of expressions -/
theorem wl_nil {Q : List D → Sto → Prop} (q : Q [] S) : Wl C .nil ρ S Q E := by unfold Wl; simp only [ev]; exact q
theorem wl_cons {a r : G} {Q : List D → Sto → Prop} (h : W C a ρ S (fun x S1 => Wl C r ρ S1 (fun ys S2 => Q (x :: ys) S2) E) E) : Wl C (.cons a r) ρ S Q E := by
  unfold W at h
  unfold Wl; simp only [ev]
  cases q : ev C a ρ S with
  | ok x S1 =>
    rw [q] at h; simp only [R.bind_ok]
    simp only at h
    unfold Wl at h
    cases q2 : ev C r ρ S1 with
    | ok y S2 =>
      rw [q2] at h; simp only [R.bind_ok]
      cases y <;> first | exact h.elim | exact h
    | exc c v S2 => rw [q2] at h; exact h
    | no => rw [q2] at h; exact h
  | exc c v S2 => rw [q] at h; exact h
  | no => rw [q] at h; exact h
def glen : G → Nat
  | .cons _ r => glen r + 1
  | _ => 0
theorem wl_run {es : G} {Q : List D → Sto → Prop} (h : Wl C es ρ S Q E) : (∃ ds S', ev C es ρ S = .ok (.tup ds) S' ∧ Q ds S') ∨ ∃ c v S', ev C es ρ S = .exc c v S' ∧ E c v S' := by
  unfold Wl at h
  split at h
  · rename_i q; exact .inl ⟨_, _, q, h⟩
  · exact h.elim
  · rename_i q; exact .inr ⟨_, _, _, q, h⟩
  · exact h.elim
theorem e_tup {es : G} (h : Wl C es ρ S (fun ds S1 => ds.length ≤ 16777216 ∧ Q (.tup ds) S1) E) : W C (.tup es) ρ S Q E := by
  unfold W; simp only [ev]
  rcases wl_run h with ⟨ds, S1, e, q1, q2⟩ | ⟨c, v, S1, e, q⟩
  · rw [e]; simp only [R.bind_ok]; rw [if_pos (show szOk (lsOf (D.tup ds)).length from q1)]; exact q2
  · rw [e]; exact q
theorem e_lst {es : G} (h : Wl C es ρ S (fun ds S1 => ds.length ≤ 16777216 ∧ Q (.lst ds) S1) E) : W C (.lst es) ρ S Q E := by
  unfold W; simp only [ev]
  rcases wl_run h with ⟨ds, S1, e, q1, q2⟩ | ⟨c, v, S1, e, q⟩
  · rw [e]; simp only [R.bind_ok]; rw [if_pos (show szOk (lsOf (D.tup ds)).length from q1)]; exact q2
  · rw [e]; exact q
def isLs : D → Option (List D)
  | .lst ds => some ds
  | _ => none
theorem e_alc {a : G} (h : W C a ρ S (fun x S1 => Wo (isLs x) S1 fun ds S2 => Q (.ref S2.length) (S2 ++ [.lst ds])) E) : W C (.alc a) ρ S Q E := by
  refine w_bind (by simp only [ev]; rfl) (h.mono (fun x S1 h => ?_) fun _ _ _ h => h)
  unfold Wo at h; obtain ⟨d, e, hq⟩ := h
  cases x <;> simp only [isLs, Option.some.injEq] at e <;> first | (cases e; done) | (subst e; exact hq)
theorem e_idx {a b : G} (h : W C a ρ S (fun x S1 => W C b ρ S1 (fun y S2 => Wo (idx S2 x y) S2 Q) E) E) : W C (.idx a b) ρ S Q E := by
  refine w_bind (by simp only [ev]; rfl) (h.mono (fun x S1 h => ?_) fun _ _ _ h => h)
  have h := h.out
  cases q : ev C b ρ S1 with
  | ok y S2 =>
    rw [q] at h; simp only [R.bind_ok]
    unfold Wo at h; obtain ⟨d, e, hq⟩ := h
    rw [e]; exact hq
  | exc c v S2 => rw [q] at h; exact h
  | no => rw [q] at h; exact h
def slO (S : Sto) (x y z : D) : Option D := match asInt y, asInt z with
  | some l, some h => slice S x (some l) (some h)
  | _, _ => none
theorem e_sl {a lo hi : G} (h : W C a ρ S (fun x S1 => W C lo ρ S1 (fun y S2 => Wo (asInt y) S2 fun l S2 => W C hi ρ S2 (fun z S3 => Wo (asInt z) S3 fun h S3 => Wo (slice S3 x (some l) (some h)) S3 Q) E) E) E) : W C (.sl a lo hi) ρ S Q E := by
  refine w_bind (by simp only [ev]; rfl) (h.mono (fun x S1 h => ?_) fun _ _ _ h => h)
  have h := h.out
  cases q : ev C lo ρ S1 with
  | ok y S2 =>
    rw [q] at h; simp only [R.bind_ok]
    unfold Wo at h; obtain ⟨l, e, hq⟩ := h
    cases y <;> simp only [asInt, Option.some.injEq] at e <;> first | (cases e; done) | skip
    subst e
    have h := hq.out
    cases q : ev C hi ρ S2 with
    | ok z S3 =>
      rw [q] at h; simp only [R.bind_ok]
      obtain ⟨l, e, d, e2, hq⟩ := h
      cases z <;> simp only [asInt, Option.some.injEq] at e <;> first | (cases e; done) | skip
      subst e; simp only; rw [e2]; exact hq
    | exc c v S2 => rw [q] at h; exact h
    | no => rw [q] at h; exact h
  | exc c v S2 => rw [q] at h; exact h
  | no => rw [q] at h; exact h
theorem e_slh {a hi : G} (h : W C a ρ S (fun x S1 => W C hi ρ S1 (fun z S3 => Wo (asInt z) S3 fun h S3 => Wo (slice S3 x none (some h)) S3 Q) E) E) : W C (.slh a hi) ρ S Q E := by
  refine w_bind (by simp only [ev]; rfl) (h.mono (fun x S1 h => ?_) fun _ _ _ h => h)
  have h := h.out
  cases q : ev C hi ρ S1 with
  | ok z S3 =>
    rw [q] at h; simp only [R.bind_ok]
    unfold Wo at h; obtain ⟨l, e, d, e2, hq⟩ := h
    cases z <;> simp only [asInt, Option.some.injEq] at e <;> first | (cases e; done) | skip
    subst e; simp only; rw [e2]; exact hq
  | exc c v S2 => rw [q] at h; exact h
  | no => rw [q] at h; exact h
theorem e_sll {a lo : G} (h : W C a ρ S (fun x S1 => W C lo ρ S1 (fun z S3 => Wo (asInt z) S3 fun h S3 => Wo (slice S3 x (some h) none) S3 Q) E) E) : W C (.sll a lo) ρ S Q E := by
  refine w_bind (by simp only [ev]; rfl) (h.mono (fun x S1 h => ?_) fun _ _ _ h => h)
  have h := h.out
  cases q : ev C lo ρ S1 with
  | ok z S3 =>
    rw [q] at h; simp only [R.bind_ok]
    unfold Wo at h; obtain ⟨l, e, d, e2, hq⟩ := h
    cases z <;> simp only [asInt, Option.some.injEq] at e <;> first | (cases e; done) | skip
    subst e; simp only; rw [e2]; exact hq
  | exc c v S2 => rw [q] at h; exact h
  | no => rw [q] at h; exact h
theorem e_sla {a : G} (h : W C a ρ S (fun x S1 => Wo (slice S1 x none none) S1 Q) E) : W C (.sla a) ρ S Q E := by
  refine w_bind (by simp only [ev]; rfl) (h.mono (fun x S1 h => ?_) fun _ _ _ h => h)
  unfold Wo at h; obtain ⟨d, e, hq⟩ := h
  rw [e]; exact hq
theorem e_rev {a : G} (h : W C a ρ S (fun x S1 => Wo (rev S1 x) S1 Q) E) : W C (.rev a) ρ S Q E := by
  refine w_bind (by simp only [ev]; rfl) (h.mono (fun x S1 h => ?_) fun _ _ _ h => h)
  unfold Wo at h; obtain ⟨d, e, hq⟩ := h
  rw [e]; exact hq
theorem e_call {f : Nat} {es : G} (h : Wl C es ρ S (fun ds S1 => Wc C f ds S1 Q E) E) : W C (.call f es) ρ S Q E := by
  unfold W; simp only [ev]
  rcases wl_run h with ⟨ds, S1, e, q2⟩ | ⟨c, v, S1, e, q⟩
  · rw [e]; simp only [R.bind_ok, lsOf]; exact q2.out
  · rw [e]; exact q
theorem e_callK {f n : Nat} {is : List Nat} {es : G} (h : Wl C es ρ S (fun ds S1 => ds.length = n ∧ Wc C f (GV.permL is ds) S1 Q E) E) : W C (.callK f n is es) ρ S Q E := by
  unfold W; simp only [ev]
  rcases wl_run h with ⟨ds, S1, e, q1, q2⟩ | ⟨c, v, S1, e, q⟩
  · rw [e]; simp only [R.bind_ok]; rw [if_pos (show (lsOf (D.tup ds)).length = n from q1)]; exact q2.out
  · rw [e]; exact q
theorem e_b1 {o : B1} {a : G} (h : W C a ρ S (fun x S1 => Wo (b1 S1 o x) S1 Q) E) : W C (.b1 o a) ρ S Q E := by
  refine w_bind (by simp only [ev]; rfl) (h.mono (fun x S1 h => ?_) fun _ _ _ h => h)
  unfold Wo at h; obtain ⟨d, e, hq⟩ := h
  rw [e]; exact hq
theorem e_b2 {o : B2} {a b : G} (h : W C a ρ S (fun x S1 => W C b ρ S1 (fun y S2 => Wo (GV.b2 o x y) S2 Q) E) E) : W C (.b2 o a b) ρ S Q E := by
  refine w_bind (by simp only [ev]; rfl) (h.mono (fun x S1 h => ?_) fun _ _ _ h => h)
  have h := h.out
  cases q : ev C b ρ S1 with
  | ok y S2 =>
    rw [q] at h; simp only [R.bind_ok]
    unfold Wo at h; obtain ⟨d, e, hq⟩ := h
    rw [e]; exact hq
  | exc c v S2 => rw [q] at h; exact h
  | no => rw [q] at h; exact h
theorem e_isa {T : Ty} {a : G} (h : W C a ρ S (fun x S1 => Wo (typeD S1 x) S1 fun t S2 => Q (.bl (isa t T)) S2) E) : W C (.isa T a) ρ S Q E := by
  refine w_bind (by simp only [ev]; rfl) (h.mono (fun x S1 h => ?_) fun _ _ _ h => h)
  unfold Wo at h; obtain ⟨d, e, hq⟩ := h
  rw [e]; exact hq
theorem e_rng1 {a : G} (h : W C a ρ S (fun x S1 => Wo (asInt x) S1 fun j S2 => rngOk j ∧ Q (.tup (rngL 0 j.toNat)) S2) E) : W C (.rng1 a) ρ S Q E := by
  refine w_bind (by simp only [ev]; rfl) (h.mono (fun x S1 h => ?_) fun _ _ _ h => h)
  unfold Wo at h; obtain ⟨d, e, h1, hq⟩ := h
  cases x <;> simp only [asInt, Option.some.injEq] at e <;> first | (cases e; done) | skip
  subst e; simp only; rw [if_pos h1]; exact hq
theorem e_rng2 {a b : G} (h : W C a ρ S (fun x S1 => W C b ρ S1 (fun y S2 => Wo (asInt x) S2 fun i S2 => Wo (asInt y) S2 fun j S2 => (rngOk i ∧ rngOk j) ∧ Q (.tup (rngL i (j - i).toNat)) S2) E) E) : W C (.rng2 a b) ρ S Q E := by
  refine w_bind (by simp only [ev]; rfl) (h.mono (fun x S1 h => ?_) fun _ _ _ h => h)
  have h := h.out
  cases q : ev C b ρ S1 with
  | ok y S2 =>
    rw [q] at h; simp only [R.bind_ok]
    unfold Wo at h; obtain ⟨i, e, j, e2, h1, hq⟩ := h
    cases x <;> simp only [asInt, Option.some.injEq] at e <;> first | (cases e; done) | skip
    cases y <;> simp only [asInt, Option.some.injEq] at e2 <;> first | (cases e2; done) | skip
    subst e; subst e2; simp only; rw [if_pos h1]; exact hq
  | exc c v S2 => rw [q] at h; exact h
  | no => rw [q] at h; exact h
/-- items of what is no cell -/
def itemsN (S : Sto) : D → Option (List D)
  | .ref _ => none
  | x => items S x
theorem e_enm {a : G} (h : W C a ρ S (fun x S1 => Wo (itemsN S1 x) S1 fun ds S2 => Q (.tup (enmL 0 ds)) S2) E) : W C (.enm a) ρ S Q E := by
  refine w_bind (by simp only [ev]; rfl) (h.mono (fun x S1 h => ?_) fun _ _ _ h => h)
  unfold Wo at h; obtain ⟨d, e, hq⟩ := h
  cases x <;> simp only [itemsN] at e <;> first | (cases e; done) | (simp only [e]; exact hq)
theorem e_zip {a b : G} (h : W C a ρ S (fun x S1 => W C b ρ S1 (fun y S2 => Wo (itemsN S2 x) S2 fun ds S2 => Wo (itemsN S2 y) S2 fun es S2 => Q (.tup (zipL ds es)) S2) E) E) : W C (.zip a b) ρ S Q E := by
  refine w_bind (by simp only [ev]; rfl) (h.mono (fun x S1 h => ?_) fun _ _ _ h => h)
  have h := h.out
  cases q : ev C b ρ S1 with
  | ok y S2 =>
    rw [q] at h; simp only [R.bind_ok]
    unfold Wo at h; obtain ⟨i, e, j, e2, hq⟩ := h
    cases x <;> simp only [itemsN] at e <;> first | (cases e; done) | skip
    all_goals cases y <;> simp only [itemsN] at e2 <;> first | (cases e2; done) | (simp only [e, e2]; exact hq)
  | exc c v S2 => rw [q] at h; exact h
  | no => rw [q] at h; exact h
/-- a comprehension's turn -/
noncomputable def compF (C : CallF) (own : List Nat) (tg : Tg) (c e : G) (ρ : Rho) : D → Sto → R (Option D) := fun d S2 => match asg tg d (wipeD ρ own) with
        | some ρ' => ((ev C c ρ' S2).bind fun t S3 => R.of S3 (truth S3 t)).nox.bind fun k S4 =>
            if k = true then (ev C e ρ' S4).nox.bind fun y S5 => .ok (some y) S5 else .ok none S4
        | none => .no
@[irreducible] def WC (C : CallF) (own : List Nat) (tg : Tg) (c e : G) (dp : Option (Nat × Cell)) (ds : List D) (ρ : Rho) (S : Sto) (Q : List D → Sto → Prop) : Prop := ∃ l S', compL dp (compF C own tg c e ρ) ds [] S = .ok l S' ∧ Q l S'
theorem e_comp {own : List Nat} {tg : Tg} {it c e : G} (h : W C it ρ S (fun x S1 => Wo (items S1 x) S1 fun ds S2 => WC C own tg c e (dep S2 x) ds ρ S2 fun l S3 => Q (.lst l) S3) E) : W C (.comp own tg it c e) ρ S Q E := by
  refine w_bind (by simp only [ev]; rfl) (h.mono (fun x S1 h => ?_) fun _ _ _ h => h)
  unfold Wo at h; obtain ⟨ds, e1, hq⟩ := h
  rw [e1]
  simp only
  unfold WC at hq
  obtain ⟨l, S', e2, hq⟩ := hq
  change (match (compL (dep S1 x) (compF C own tg c e ρ) ds [] S1).bind (fun l S2 => R.ok (D.lst l) S2) with
    | .ok d S' => Q d S'
    | .exc c v S' => E c v S'
    | .no => False)
  rw [e2]
  exact hq
theorem e_meth {m : Mt} {o es : G} (h : W C o ρ S (fun x S1 => Wo (litems S1 x) S1 fun _ S1 => Wl C es ρ S1 (fun ys S2 => Wo (meth S2 m x ys) S2 fun r _ => Q r.1 r.2) E) E) : W C (.meth m o es) ρ S Q E := by
  refine w_bind (by simp only [ev]; rfl) (h.mono (fun x S1 h => ?_) fun _ _ _ h => h)
  unfold Wo at h; obtain ⟨ds, e1, hq⟩ := h
  rw [e1]; simp only
  rcases wl_run hq with ⟨ds, S1, e, r, q1, q2⟩ | ⟨c, v, S1, e, q⟩
  · rw [e]; simp only [R.bind_ok, lsOf]; rw [q1]; exact q2
  · rw [e]; exact q
theorem e_dct {ks : List L2.Key} {es : G} (h : Wl C es ρ (S ++ [.dk []]) (fun ds S1 => (ks.length = ds.length ∧ ks.length ≤ 15 ∧ ks.Nodup ∧ S1[S.length]? = some (.dk [])) ∧ Q (.ref S.length) (S1.set S.length (.dk (ks.zip ds)))) E) : W C (.dct ks es) ρ S Q E := by
  unfold W; simp only [ev]
  rcases wl_run h with ⟨ds, S1, e, q1, q2⟩ | ⟨c, v, S1, e, q⟩
  · rw [e]; simp only [R.bind_ok]; rw [if_pos (show ks.length = (lsOf (D.tup ds)).length ∧ ks.length ≤ 15 ∧ ks.Nodup ∧ S1[S.length]? = some (.dk []) from q1)]; exact q2
  · rw [e]; exact q

/-- a comprehension whose turns tell one thing each -/
theorem c_map {α : Type} {own : List Nat} {tg : Tg} {c e : G} {dp : Option (Nat × Cell)} {ds : List D} {Q : List D → Sto → Prop} (en : α → D) (l : List α) (g : α → D) (hd : ds = l.map en) (hdp : depOk S dp) (hs : l.length ≤ 16777216)
    (h : ∀ a ∈ l, ∀ R : QD, R (g a) S → Wo (asg tg (en a) (wipeD ρ own)) S fun ρ' S2 => W C c ρ' S2 (fun t S3 => Wo (truth S3 t) S3 fun k S4 => Wif k (W C e ρ' S4 R (fun _ _ _ => False)) False) (fun _ _ _ => False)) (q : Q (l.map g) S) : WC C own tg c e dp ds ρ S Q := by
  subst hd
  unfold WC
  refine ⟨l.map g, S, compL_map hdp (fun a ha => ?_) hs, q⟩
  have := h a ha (fun d S' => d = g a ∧ S' = S) ⟨rfl, rfl⟩
  unfold Wo at this
  obtain ⟨ρ', e1, h1⟩ := this
  have h1 := h1.out
  simp only [compF, e1]
  cases q1 : ev C c ρ' S with
  | ok t S3 =>
    rw [q1] at h1
    obtain ⟨k, e2, h2⟩ := h1
    simp only [R.bind_ok, e2, R.of_some, R.nox]
    unfold Wif at h2
    cases k
    · exact h2.elim
    · simp only [if_true] at h2 ⊢
      have h2 := h2.out
      cases q2 : ev C e ρ' S3 with
      | ok d S' => rw [q2] at h2; obtain ⟨rfl, rfl⟩ := h2; rfl
      | exc c v S2 => rw [q2] at h2; exact h2.elim
      | no => rw [q2] at h2; exact h2.elim
  | exc c v S2 => rw [q1] at h1; exact h1.elim
  | no => rw [q1] at h1; exact h1.elim
/-- a comprehension whose turns tell one thing or nothing -/
theorem c_some {α : Type} {own : List Nat} {tg : Tg} {c e : G} {dp : Option (Nat × Cell)} {ds : List D} {Q : List D → Sto → Prop} (en : α → D) (l : List α) (o : α → Option D) (hd : ds = l.map en) (hdp : depOk S dp) (hs : l.length ≤ 16777216)
    (h : ∀ a ∈ l, ∀ R : Option D → Sto → Prop, R (o a) S → Wo (asg tg (en a) (wipeD ρ own)) S fun ρ' S2 => W C c ρ' S2 (fun t S3 => Wo (truth S3 t) S3 fun k S4 => Wif k (W C e ρ' S4 (fun d S5 => R (some d) S5) (fun _ _ _ => False)) (R none S4)) (fun _ _ _ => False)) (q : Q (l.filterMap o) S) : WC C own tg c e dp ds ρ S Q := by
  subst hd
  unfold WC
  have main : ∀ a ∈ l, compF C own tg c e ρ (en a) S = .ok (o a) S := fun a ha => ?_
  · exact ⟨l.filterMap o, S, by simpa using compL_some (acc := []) hdp (o := o) main (by simpa using hs), q⟩
  have := h a ha (fun d S' => d = o a ∧ S' = S) ⟨rfl, rfl⟩
  unfold Wo at this
  obtain ⟨ρ', e1, h1⟩ := this
  have h1 := h1.out
  simp only [compF, e1]
  cases q1 : ev C c ρ' S with
  | ok t S3 =>
    rw [q1] at h1
    obtain ⟨k, e2, h2⟩ := h1
    simp only [R.bind_ok, e2, R.of_some, R.nox]
    unfold Wif at h2
    cases k
    · simp only [Bool.false_eq_true, if_false] at h2 ⊢
      obtain ⟨h3, rfl⟩ := h2; rw [h3]
    · simp only [if_true] at h2 ⊢
      have h2 := h2.out
      cases q2 : ev C e ρ' S3 with
      | ok d S' => rw [q2] at h2; obtain ⟨h3, rfl⟩ := h2; simp only [R.bind_ok]; rw [h3]
      | exc c v S2 => rw [q2] at h2; exact h2.elim
      | no => rw [q2] at h2; exact h2.elim
  | exc c v S2 => rw [q1] at h1; exact h1.elim
  | no => rw [q1] at h1; exact h1.elim
/-! ### statements -/
def Po (N K : Rho → Sto → Prop) (R : QD) (E : Rho → QE) : SR → Prop
  | .nx ρ S => N ρ S
  | .ct ρ S => K ρ S
  | .rt d S => R d S
  | .exc c v ρ S => E ρ c v S
  | .no => False
@[irreducible] def WS (C : CallF) (s : GV.St) (ρ : Rho) (S : Sto) (N K : Rho → Sto → Prop) (R : QD) (E : Rho → QE) : Prop := Po N K R E (evS C s ρ S)
section
variable {N K : Rho → Sto → Prop} {R : QD} {E : Rho → QE}
theorem WS.out {s : GV.St} (h : WS C s ρ S N K R E) : Po N K R E (evS C s ρ S) := by unfold WS at h; exact h
theorem ws_of {s : GV.St} (h : Po N K R E (evS C s ρ S)) : WS C s ρ S N K R E := by unfold WS; exact h
theorem WS.mono {s : GV.St} {N' K' : Rho → Sto → Prop} {R' : QD} {E' : Rho → QE} (h : WS C s ρ S N K R E) (h1 : ∀ ρ S, N ρ S → N' ρ S) (h2 : ∀ ρ S, K ρ S → K' ρ S) (h3 : ∀ d S, R d S → R' d S) (h4 : ∀ c v ρ S, E ρ c v S → E' ρ c v S) : WS C s ρ S N' K' R' E' := by
  have h := h.out
  refine ws_of ?_
  cases q : evS C s ρ S <;> rw [q] at h <;> first | exact h1 _ _ h | exact h2 _ _ h | exact h3 _ _ h | exact h4 _ _ _ _ h | exact h.elim
theorem s_st {g : G} {k : D → Sto → SR} (h : W C g ρ S (fun d S1 => Po N K R E (k d S1)) (E ρ)) : Po N K R E ((ev C g ρ S).st ρ k) := by
  have h := h.out
  cases q : ev C g ρ S <;> rw [q] at h <;> first | exact h | exact h.elim
theorem s_skip (h : N ρ S) : WS C .skip ρ S N K R E := ws_of (by simp only [evS]; exact h)
theorem s_cont (h : K ρ S) : WS C .cont ρ S N K R E := ws_of (by simp only [evS]; exact h)
theorem s_set {i : Nat} {e : G} (h : W C e ρ S (fun d S1 => N (ρ.set i (some d)) S1) (E ρ)) : WS C (.set i e) ρ S N K R E := ws_of (by simp only [evS]; exact s_st h)
theorem s_unp {tg : Tg} {e : G} (h : W C e ρ S (fun d S1 => Wo (asg tg d ρ) S1 fun ρ' S1 => N ρ' S1) (E ρ)) : WS C (.unp tg e) ρ S N K R E := ws_of (by
  simp only [evS]
  refine s_st (h.mono (fun d S1 h => ?_) fun _ _ _ h => h)
  unfold Wo at h; obtain ⟨ρ', e, hq⟩ := h
  rw [e]; exact hq)
theorem s_par {is : List Nat} {es : G} (h : Wl C es ρ S (fun ds S1 => Wo (setMany is ds ρ) S1 fun ρ' S1 => N ρ' S1) (E ρ)) : WS C (.par is es) ρ S N K R E := ws_of (by
  simp only [evS]
  rcases wl_run h with ⟨ds, S1, e, q2⟩ | ⟨c, v, S1, e, q⟩
  · rw [e]; simp only [GV.R.st_ok, lsOf]
    unfold Wo at q2; obtain ⟨ρ', e, hq⟩ := q2
    rw [e]; exact hq
  · rw [e]; exact q)
theorem s_setx {o i e : G} (h : W C e ρ S (fun d S1 => W C o ρ S1 (fun x S2 => W C i ρ S2 (fun k S3 => Wo (setx S3 x k d) S3 fun S4 _ => N ρ S4) (E ρ)) (E ρ)) (E ρ)) : WS C (.setx o i e) ρ S N K R E := ws_of (by
  simp only [evS]
  refine s_st (h.mono (fun d S1 h => ?_) fun _ _ _ h => h)
  refine s_st (h.mono (fun x S2 h => ?_) fun _ _ _ h => h)
  refine s_st (h.mono (fun k S3 h => ?_) fun _ _ _ h => h)
  unfold Wo at h; obtain ⟨S4, e, hq⟩ := h
  rw [e]; exact hq)
theorem s_ex {e : G} (h : W C e ρ S (fun _ S1 => N ρ S1) (E ρ)) : WS C (.ex e) ρ S N K R E := ws_of (by simp only [evS]; exact s_st h)
theorem s_ret {e : G} (h : W C e ρ S R (E ρ)) : WS C (.ret e) ρ S N K R E := ws_of (by simp only [evS]; exact s_st h)
theorem s_retN (h : R .non S) : WS C .retN ρ S N K R E := ws_of (by simp only [evS]; exact h)
theorem s_ite {c : G} {a b : GV.St} (h : W C c ρ S (fun x S1 => Wo (truth S1 x) S1 fun k S2 => Wif k (WS C a ρ S2 N K R E) (WS C b ρ S2 N K R E)) (E ρ)) : WS C (.ite c a b) ρ S N K R E := ws_of (by
  simp only [evS]
  have h := h.out
  cases q : ev C c ρ S with
  | ok x S1 =>
    rw [q] at h
    simp only [GV.R.bind_ok] at h ⊢
    unfold Wo at h; obtain ⟨k, e, hq⟩ := h
    rw [e]; simp only [GV.R.of_some, GV.R.st_ok]
    unfold Wif at hq
    cases k
    · simp only [Bool.false_eq_true, if_false] at hq ⊢; exact hq.out
    · simp only [if_true] at hq ⊢; exact hq.out
  | exc c v S2 => rw [q] at h; exact h
  | no => rw [q] at h; exact h)
theorem s_raise0 {c : Nat} (h : E ρ c none S) : WS C (.raise c none) ρ S N K R E := ws_of (by simp only [evS]; exact h)
theorem s_raise1 {c : Nat} {a : G} (h : W C a ρ S (fun d S1 => (vOf d).isSome = true ∧ E ρ c (some d) S1) (E ρ)) : WS C (.raise c (some a)) ρ S N K R E := ws_of (by simp only [evS]; exact s_st (h.mono (fun d S1 z => by rw [if_pos z.1]; exact z.2) fun _ _ _ z => z))
theorem s_seq {a b : GV.St} (h : WS C a ρ S (fun ρ' S' => WS C b ρ' S' N K R E) K R E) : WS C (.seq a b) ρ S N K R E := ws_of (by
  simp only [evS]
  have h := h.out
  cases q : evS C a ρ S with
  | nx ρ' S' => rw [q] at h; exact WS.out h
  | ct ρ' S' => rw [q] at h; exact h
  | rt d S' => rw [q] at h; exact h
  | exc c v ρ' S' => rw [q] at h; exact h
  | no => rw [q] at h; exact h)
/-- turns -/
noncomputable def forF (C : CallF) (tg : Tg) (b : GV.St) : D → Rho → Sto → SR := fun d ρ' S2 => match asg tg d ρ' with
        | some ρ2 => evS C b ρ2 S2
        | none => .no
@[irreducible] def WF (C : CallF) (tg : Tg) (b : GV.St) (dp : Option (Nat × Cell)) (ds : List D) (ρ : Rho) (S : Sto) (N : Rho → Sto → Prop) (R : QD) (E : Rho → QE) : Prop := Po N (fun _ _ => False) R E (forL dp (forF C tg b) ds ρ S)
theorem s_for {tg : Tg} {it : G} {b : GV.St} (h : W C it ρ S (fun x S1 => Wo (items S1 x) S1 fun ds S1 => WF C tg b (dep S1 x) ds ρ S1 N R E) (E ρ)) : WS C (.for_ tg it b) ρ S N K R E := ws_of (by
  simp only [evS]
  refine s_st (h.mono (fun x S1 h => ?_) fun _ _ _ h => h)
  unfold Wo at h; obtain ⟨ds, e, hq⟩ := h
  rw [e]; unfold WF at hq
  have : ∀ r, Po N (fun _ _ => False) R E r → Po N K R E r := fun r h => by cases r <;> first | exact h | exact h.elim
  exact this _ hq)
variable {tg : Tg} {b : GV.St} {dp : Option (Nat × Cell)}
theorem f_nil (h : N ρ S) : WF C tg b dp [] ρ S N R E := by unfold WF; exact h
theorem f_cons {d : D} {ds : List D} (h : Wo (asg tg d ρ) S fun ρ1 S => WS C b ρ1 S (fun ρ' S' => depOk S' dp ∧ WF C tg b dp ds ρ' S' N R E) (fun ρ' S' => depOk S' dp ∧ WF C tg b dp ds ρ' S' N R E) R E) : WF C tg b dp (d :: ds) ρ S N R E := by
  unfold WF
  unfold Wo at h; obtain ⟨ρ1, e, h⟩ := h
  have h := h.out
  have e2 : forF C tg b d ρ S = evS C b ρ1 S := by simp only [forF, e]
  simp only [forL, e2]
  cases q : evS C b ρ1 S with
  | nx ρ' S' => rw [q] at h; obtain ⟨h1, h2⟩ := h; simp only; rw [if_pos h1]; unfold WF at h2; exact h2
  | ct ρ' S' => rw [q] at h; obtain ⟨h1, h2⟩ := h; simp only; rw [if_pos h1]; unfold WF at h2; exact h2
  | rt d S' => rw [q] at h; exact h
  | exc c v ρ' S' => rw [q] at h; exact h
  | no => rw [q] at h; exact h
/-- an invariant over places -/
theorem f_inv {α : Type} {ds : List D} (e : α → D) (l : List α) (hd : ds = l.map e) (I : Nat → Rho → Sto → Prop) (h0 : I 0 ρ S) (hs : ∀ i a ρ S N', l[i]? = some a → I i ρ S → (∀ ρ' S', depOk S' dp → I (i + 1) ρ' S' → N' ρ' S') → Wo (asg tg (e a) ρ) S fun ρ1 S => WS C b ρ1 S N' N' R E)
    (hn : ∀ ρ S, I l.length ρ S → N ρ S) : WF C tg b dp ds ρ S N R E := by
  subst hd
  have main : ∀ (m : List α) (i : Nat) (ρ : Rho) (S : Sto), m = l.drop i → i ≤ l.length → I i ρ S → WF C tg b dp (m.map e) ρ S N R E := by
    intro m
    induction m with
    | nil =>
      intro i ρ S hm hi hI
      have : l.length ≤ i := by
        have := congrArg List.length hm; simp at this; omega
      have : i = l.length := by omega
      subst this
      exact f_nil (hn _ _ hI)
    | cons a m ih =>
      intro i ρ S hm hi hI
      have hlt : i < l.length := by
        have := congrArg List.length hm; simp at this; omega
      have ha : l[i]? = some a := by
        have := congrArg List.head? hm; simpa using this.symm
      have hm' : m = l.drop (i + 1) := by
        have := congrArg List.tail hm; simpa using this
      refine f_cons (hs i a ρ S _ ha hI ?_)
      exact fun ρ' S' h1 h2 => ⟨h1, ih (i + 1) ρ' S' hm' hlt h2⟩
  exact main l 0 ρ S (by simp) (by omega) h0
/-- an invariant over places, of numbers -/
theorem f_rng {ds : List D} (lo : Int) (n : Nat) (hd : ds = rngL lo n) (I : Nat → Rho → Sto → Prop) (h0 : I 0 ρ S) (hs : ∀ i ρ S N', i < n → I i ρ S → (∀ ρ' S', depOk S' dp → I (i + 1) ρ' S' → N' ρ' S') → Wo (asg tg (.int (lo + i)) ρ) S fun ρ1 S => WS C b ρ1 S N' N' R E)
    (hn : ∀ ρ S, I n ρ S → N ρ S) : WF C tg b dp ds ρ S N R E := by
  refine f_inv (fun k : Nat => D.int (lo + k)) (List.range n) (by rw [hd]; rfl) I h0 (fun i a ρ S N' ha hI hN => ?_) (fun ρ S h => hn ρ S (by simpa using h))
  have hi : i < n := by
    by_cases q : i < n
    · exact q
    · rw [List.getElem?_eq_none (by simpa using Nat.le_of_not_lt q)] at ha; cases ha
  rw [List.getElem?_range hi] at ha
  cases ha
  exact hs i ρ S N' hi hI hN
/-- while: an invariant and a measure -/
theorem s_whl {c : G} (I : Nat → Rho → Sto → Prop) (n : Nat) (h0 : I n ρ S)
    (hs : ∀ n ρ S N', I n ρ S → (∀ m ρ' S', m < n → I m ρ' S' → N' ρ' S') → W C c ρ S (fun x S1 => Wo (truth S1 x) S1 fun k S2 => Wif k (WS C b ρ S2 N' N' R E) (N ρ S2)) (E ρ)) : WS C (.whl c b) ρ S N K R E := by
  have main : ∀ (k n : Nat) (ρ : Rho) (S : Sto), n < k → I n ρ S → ∃ r, whlN (fun ρ S => (ev C c ρ S).bind fun x S1 => GV.R.of S1 (truth S1 x)) (evS C b) k ρ S = r ∧ Po N K R E r := by
    intro k
    induction k with
    | zero => intro n ρ S h; omega
    | succ k ih =>
      intro n ρ S hk hI
      refine ⟨_, rfl, ?_⟩
      have h := (hs n ρ S (fun ρ' S' => ∃ m, m < n ∧ I m ρ' S') hI fun m ρ' S' h1 h2 => ⟨m, h1, h2⟩).out
      simp only [whlN]
      cases q : ev C c ρ S with
      | ok x S1 =>
        rw [q] at h
        simp only [GV.R.bind_ok] at h ⊢
        unfold Wo at h; obtain ⟨t, e, hq⟩ := h
        rw [e]; simp only [GV.R.of_some, GV.R.st_ok]
        unfold Wif at hq
        cases t
        · simp only [Bool.false_eq_true, if_false] at hq ⊢; exact hq
        · simp only [if_true] at hq ⊢
          have h := hq.out
          cases q2 : evS C b ρ S1 with
          | nx ρ' S' => rw [q2] at h; obtain ⟨m, hm, hI'⟩ := h; obtain ⟨r, hr, pr⟩ := ih m ρ' S' (by omega) hI'; simp only; rw [hr]; exact pr
          | ct ρ' S' => rw [q2] at h; obtain ⟨m, hm, hI'⟩ := h; obtain ⟨r, hr, pr⟩ := ih m ρ' S' (by omega) hI'; simp only; rw [hr]; exact pr
          | rt d S' => rw [q2] at h; exact h
          | exc c v ρ' S' => rw [q2] at h; exact h
          | no => rw [q2] at h; exact h
      | exc c v S2 => rw [q] at h; exact h
      | no => rw [q] at h; exact h
  obtain ⟨r, hr, pr⟩ := main (n + 1) n ρ S (by omega) h0
  refine ws_of ?_
  simp only [evS]
  rw [whlR_eq hr (by intro q; rw [q] at pr; exact pr)]
  exact pr
end

/-! ### calls -/
theorem wc_eq {f : Nat} {ds : List D} {d : D} {S' : Sto} (h : C f ds S = .ok d S') (q : Q d S') : Wc C f ds S Q E := by unfold Wc; rw [h]; exact q
theorem wc_ex {f : Nat} {ds : List D} {X : QD} (h : ∃ d S', C f ds S = .ok d S' ∧ X d S') (q : ∀ d S', X d S' → Q d S') : Wc C f ds S Q E := by
  obtain ⟨d, S', e, x⟩ := h
  unfold Wc; rw [e]; exact q _ _ x
theorem Wc.mono {f : Nat} {ds : List D} {Q' : QD} {E' : QE} (hq : ∀ d S, Q d S → Q' d S) (he : ∀ c v S, E c v S → E' c v S) (h : Wc C f ds S Q E) : Wc C f ds S Q' E' := by
  unfold Wc at h ⊢
  split at h
  · exact hq _ _ h
  · exact he _ _ _ h
  · exact h.elim
@[irreducible] def WX (keep : Bool) (S : Sto) (d : D) (S' : Sto) (Q : QD) : Prop := ∃ d2 S2, exitR keep S d S' = .ok d2 S2 ∧ Q d2 S2
theorem wx_same {keep : Bool} {d : D} (q : Q d S) : WX keep S d S Q := by unfold WX; exact ⟨d, S, by simp [exitR], q⟩
theorem wx_len {keep : Bool} {d : D} {S' : Sto} (h : S'.length = S.length) (q : Q d S') : WX keep S d S' Q := by unfold WX; exact ⟨d, S', by simp [exitR, h], q⟩
theorem wx_keep {d : D} {S' : Sto} (q : Q d S') : WX true S d S' Q := by unfold WX; exact ⟨d, S', by simp [exitR], q⟩
theorem wx_new {d d' : D} {X : Sto} (hx : X ≠ []) (hr : resF (S ++ X) S.length 24 d = some d') (q : Q d' S) : WX false S d (S ++ X) Q := by
  unfold WX
  refine ⟨d', S, ?_, q⟩
  have hne : (S ++ X).length ≠ S.length := by
    cases X with
    | nil => exact absurd rfl hx
    | cons a X => simp
  unfold exitR
  rw [if_neg (by intro q; rcases q with q | q; cases q; exact hne q)]
  have : trimS S (S ++ X) = some S := by
    unfold trimS
    rw [if_neg hne, if_pos (.inl (by simp))]; simp
  rw [hr, this]
theorem wx_put {d d' : D} {S2 X : Sto} (hx : X ≠ []) (hs : S2.length = S.length) (hc : S2.all (cellLt S.length) = true) (hr : resF (S2 ++ X) S.length 24 d = some d') (q : Q d' S2) : WX false S d (S2 ++ X) Q := by
  unfold WX
  refine ⟨d', S2, ?_, q⟩
  have hne : (S2 ++ X).length ≠ S.length := by
    cases X with
    | nil => exact absurd rfl hx
    | cons a X => simp [hs]
  unfold exitR
  rw [if_neg (by intro q; rcases q with q | q; cases q; exact hne q)]
  have : trimS S (S2 ++ X) = some S2 := by
    unfold trimS
    rw [if_neg hne, if_pos (.inr (by rw [← hs, List.take_left', hs]; exact hc; rfl)), ← hs]; simp
  rw [hr, this]
/-- a call, by its text -/
theorem wc_run {T : List Df} {f k nm pr : Nat} {kp : Bool} {bd : GV.St} {ds : List D} (hT : T[f]? = some ⟨nm, pr, kp, bd⟩) (hl : ds.length = pr)
    (h : ∀ (N K : Rho → Sto → Prop) (R : QD) (X : Rho → QE), (∀ ρ S', WX kp S .non S' Q → N ρ S') → (∀ d S', WX kp S d S' Q → R d S') → WS (callN T k) bd (startD nm ds) S N K R X) : Wc (callN T (k + 1)) f ds S Q E := by
  unfold Wc
  rw [callN_eq hT]
  unfold runD
  rw [if_pos hl]
  have h := (h (fun _ S' => WX kp S .non S' Q) (fun _ _ => False) (fun d S' => WX kp S d S' Q) (fun _ _ _ _ => False) (fun _ _ h => h) fun _ _ h => h).out
  simp only
  cases q : evS (callN T k) bd (startD nm ds) S with
  | nx ρ' S' => rw [q] at h; have h : WX _ _ _ _ _ := h; unfold WX at h; obtain ⟨d2, S2, e, hq⟩ := h; simp only; rw [e]; exact hq
  | rt d S' => rw [q] at h; have h : WX _ _ _ _ _ := h; unfold WX at h; obtain ⟨d2, S2, e, hq⟩ := h; simp only; rw [e]; exact hq
  | ct ρ' S' => rw [q] at h; exact h.elim
  | exc c v ρ' S' => rw [q] at h; exact h.elim
  | no => rw [q] at h; exact h
theorem eq_of_wc {f : Nat} {ds : List D} {d : D} {S' : Sto} (h : Wc C f ds S (fun d' S2 => d' = d ∧ S2 = S') (fun _ _ _ => False)) : C f ds S = .ok d S' := by
  unfold Wc at h
  split at h
  · rename_i q; rw [q, h.1, h.2]
  · exact h.elim
  · exact h.elim
theorem ex_of_wc {f : Nat} {ds : List D} (h : Wc C f ds S Q (fun _ _ _ => False)) : ∃ d S', C f ds S = .ok d S' ∧ Q d S' := by
  unfold Wc at h
  split at h
  · rename_i q; exact ⟨_, _, q, h⟩
  · exact h.elim
  · exact h.elim
end GX

set_option linter.all false
set_option maxHeartbeats 1000000
/-! GX, part d: rules for operators. -/
namespace GX
open PySem GV
open L2 (atI ixN)
variable {S S' : Sto} {Q : QD}
theorem wo_mul {a b : Int} (h : mulOk a b) (q : Q (.int (a * b)) S) : Wo (GV.bin S' .mul (.int a) (.int b)) S Q := wo_of (by simp only [GV.bin, if_pos h]) q
theorem wo_fdiv {a b : Int} (h : b ≠ 0 ∧ b.natAbs < 1073741824) (q : Q (.int (a.fdiv b)) S) : Wo (GV.bin S' .fdiv (.int a) (.int b)) S Q := wo_of (by simp only [GV.bin, if_pos (show fdivOk b ∨ fdivW b from .inl h)]) q
theorem wo_fdivW {a b : Int} {n : Nat} (h : 0 < b) (h2 : bd n b) (h3 : n < 9000) (q : Q (.int (a.fdiv b)) S) : Wo (GV.bin S' .fdiv (.int a) (.int b)) S Q := wo_of (by simp only [GV.bin]; rw [if_pos (.inr ⟨h, Nat.lt_of_le_of_lt (log2_bd h2) h3⟩)]) q
theorem wo_mod {a b : Int} (h : b ≠ 0) (q : Q (.int (a.fmod b)) S) : Wo (GV.bin S' .mod (.int a) (.int b)) S Q := wo_of (by simp only [GV.bin, if_pos h]) q
theorem wo_pow {a b : Int} (h : powOk a b) (q : Q (.int (a ^ b.toNat)) S) : Wo (GV.bin S' .pow (.int a) (.int b)) S Q := wo_of (by simp only [GV.bin, if_pos h]) q
theorem wo_addT {a b : List D} (h : a.length + b.length ≤ 16777216) (q : Q (.tup (a ++ b)) S) : Wo (GV.bin S' .add (.tup a) (.tup b)) S Q := wo_of (by simp only [GV.bin, if_pos (show szOk _ from h)]) q
theorem wo_addL {a b : List D} (h : a.length + b.length ≤ 16777216) (q : Q (.lst (a ++ b)) S) : Wo (GV.bin S' .add (.lst a) (.lst b)) S Q := wo_of (by simp only [GV.bin, litems, if_pos (show szOk _ from h)]) q
theorem wo_addS {a b : Str} (h : a.length + b.length ≤ 16777216) (q : Q (.str (a ++ b)) S) : Wo (GV.bin S' .add (.str a) (.str b)) S Q := wo_of (by simp only [GV.bin, if_pos (show szOk _ from h)]) q
theorem wo_addR {x y : D} {a b : List D} (hx : litems S' x = some a) (hy : litems S' y = some b) (h : a.length + b.length ≤ 16777216) (q : Q (.lst (a ++ b)) S) : Wo (GV.bin S' .add x y) S Q := wo_of (by
  cases x <;> first | (cases hx; done) | skip
  all_goals cases y <;> first | (cases hy; done) | (simp only [GV.bin, hx, hy, if_pos (show szOk _ from h)])) q
theorem wo_mulT {a : List D} {k : Int} (h : a.length ≠ 0 ∧ 2 ≤ k ∧ k ≤ 1000 ∧ a.length ≤ 1000) (q : Q (.tup (List.replicate k.toNat a).flatten) S) : Wo (GV.bin S' .mul (.tup a) (.int k)) S Q := wo_of (by simp only [GV.bin, if_pos (show repTOk _ _ from ⟨h.1, by omega, h.2.2⟩)]) q
theorem wo_mulT2 {a : List D} {k : Int} (h : a.length ≠ 0 ∧ -1000 ≤ k ∧ k ≤ 1000 ∧ a.length ≤ 1000) (q : Q (.tup (List.replicate k.toNat a).flatten) S) : Wo (GV.bin S' .mul (.tup a) (.int k)) S Q := wo_of (by simp only [GV.bin, if_pos (show repTOk _ _ from h)]) q
theorem wo_mulL {a : List D} {k : Int} (h : -(2 ^ 63) ≤ k ∧ k < 2 ^ 63 ∧ a.length * k.toNat ≤ 16777216) (q : Q (.lst (List.replicate k.toNat a).flatten) S) : Wo (GV.bin S' .mul (.lst a) (.int k)) S Q := wo_of (by simp only [GV.bin, litems, if_pos (show repOk _ _ from h)]) q
theorem ltD_int (a b : Int) : ltD S (.int a) (.int b) = some (decide (a < b)) := GW.lt_int S a b
theorem eqD_int (a b : Int) : eqD S (.int a) (.int b) = some (decide (a = b)) := by
  rw [eqD_nb (by rfl) (by rfl)]; simp
variable {QB : Bool → Sto → Prop}
theorem wo_lt {a b : Int} (q : QB (decide (a < b)) S) : Wo (cmp S' .lt (.int a) (.int b)) S QB := wo_of (by simp only [cmp, ltD_int]) q
theorem wo_gt {a b : Int} (q : QB (decide (a > b)) S) : Wo (cmp S' .gt (.int a) (.int b)) S QB := wo_of (by simp only [cmp, ltD_int]) q
theorem wo_le {a b : Int} (q : QB (decide (a ≤ b)) S) : Wo (cmp S' .le (.int a) (.int b)) S QB := wo_of (by simp only [cmp, ltD_int, Option.map_some, bnot, ← decide_not, Int.not_lt]) q
theorem wo_ge {a b : Int} (q : QB (decide (a ≥ b)) S) : Wo (cmp S' .ge (.int a) (.int b)) S QB := wo_of (by simp only [cmp, ltD_int, Option.map_some, bnot, ← decide_not, Int.not_lt]) q
theorem wo_eqi {a b : Int} (q : QB (decide (a = b)) S) : Wo (cmp S' .eq (.int a) (.int b)) S QB := wo_of (by simp only [cmp, eqD_int]) q
theorem wo_nei {a b : Int} (q : QB (decide (a ≠ b)) S) : Wo (cmp S' .ne (.int a) (.int b)) S QB := wo_of (by simp only [cmp, eqD_int, Option.map_some, bnot, ← decide_not, ne_eq]) q
theorem wo_eqn {x y : D} (hx : nb 24 x = true) (hy : nb 24 y = true) (q : QB (decide (x = y)) S) : Wo (cmp S' .eq x y) S QB := wo_of (by simp only [cmp, eqD_nb hx hy]) q
theorem wo_nen {x y : D} (hx : nb 24 x = true) (hy : nb 24 y = true) (q : QB (decide (x ≠ y)) S) : Wo (cmp S' .ne x y) S QB := wo_of (by simp only [cmp, eqD_nb hx hy, Option.map_some, bnot, ne_eq]; simp only [← decide_not]) q
theorem wo_isN {x : D} (q : QB (GV.isNon x) S) : Wo (cmp S' .isN x .non) S QB := wo_of rfl q
theorem wo_notN {x : D} (q : QB (!GV.isNon x) S) : Wo (cmp S' .notN x .non) S QB := wo_of rfl q
theorem wo_b1i {b : Bool} (q : Q (.int (if b then 1 else 0)) S) : Wo (b1 S' .int (.bl b)) S Q := wo_of rfl q
theorem ixN_nat {n k : Nat} (h : k < n) : ixN n (k : Int) = some k := by simp only [ixN]; rw [if_pos (by omega), if_pos (by omega)]; simp
theorem atI_nat {α : Type} {xs : List α} {k : Nat} {a : α} (h : xs[k]? = some a) : atI xs (k : Int) = some a := by
  have : k < xs.length := by
    by_cases q : k < xs.length
    · exact q
    · rw [List.getElem?_eq_none (by omega)] at h; cases h
  simp only [atI, ixN_nat this, Option.bind_some]; exact h
theorem atI_get {α : Type} {xs : List α} {i : Int} {a : α} (h0 : 0 ≤ i) (h : xs[i.toNat]? = some a) : atI xs i = some a := by
  have := atI_nat h
  rwa [Int.toNat_of_nonneg h0] at this
theorem atI_neg {α : Type} {xs : List α} {i : Int} {a : α} (h0 : i < 0) (h1 : -(xs.length : Int) ≤ i) (h : xs[(i + xs.length).toNat]? = some a) : atI xs i = some a := by
  simp only [atI, ixN]
  rw [if_neg (by omega), if_pos h1]; exact h
theorem atI_last {α : Type} {xs : List α} {a : α} : atI (xs ++ [a]) (-1) = some a := by
  refine atI_neg (by omega) (by simp; omega) ?_
  have : (-1 + ((xs ++ [a]).length : Int)).toNat = xs.length := by simp; omega
  rw [this]; simp
theorem atI_last2 {α : Type} {xs : List α} {a b : α} : atI (xs ++ [a, b]) (-2) = some a := by
  refine atI_neg (by omega) (by simp; omega) ?_
  have : (-2 + ((xs ++ [a, b]).length : Int)).toNat = xs.length := by simp; omega
  rw [this]; simp
theorem atI_last1 {α : Type} {xs : List α} {a b : α} : atI (xs ++ [a, b]) (-1) = some b := by
  have : xs ++ [a, b] = (xs ++ [a]) ++ [b] := by simp
  rw [this]; exact atI_last
theorem idx_of {x : D} {i : Int} {ds : List D} {d : D} (h : items S x = some ds) (h2 : atI ds i = some d) : idx S x (.int i) = some d := by
  rw [GW.idx_items h, h2]
theorem wo_idx {x d : D} {i : Int} {ds : List D} (h : items S' x = some ds) (h2 : atI ds i = some d) (q : Q d S) : Wo (idx S' x (.int i)) S Q := wo_of (idx_of h h2) q
end GX
namespace GX
open PySem GV
open L2 (atI ixN)
variable {S S' : Sto} {Q : QD}
/-! ### the newest cell -/
variable {i : Nat}
theorem new_get {c : Cell} (hi : S.length = i := by first | rfl | assumption) : (S ++ [c])[i]? = some c := by subst hi; simp
theorem litems_new {l : List D} (hi : S.length = i := by first | rfl | assumption) : litems (S ++ [.lst l]) (.ref i) = some l := by subst hi; simp [litems]
theorem items_new {l : List D} (hi : S.length = i := by first | rfl | assumption) : items (S ++ [.lst l]) (.ref i) = some l := by subst hi; simp [items]
theorem new_set {c c' : Cell} (hi : S.length = i := by first | rfl | assumption) : (S ++ [c]).set i c' = S ++ [c'] := by subst hi; simp
theorem wo_app {l : List D} {x : D} {Q : D × Sto → Sto → Prop} (h : l.length + 1 ≤ 16777216) (q : Q (.non, S ++ [.lst (l ++ [x])]) S') (hi : S.length = i := by first | rfl | assumption) : Wo (meth (S ++ [.lst l]) .append (.ref i) [x]) S' Q := by
  subst hi; exact wo_of (by simp only [meth, new_get, if_pos (show szOk _ from h), new_set]) q
theorem wo_ext {l es : List D} {x : D} {Q : D × Sto → Sto → Prop} (hx : litems (S ++ [.lst l]) x = some es) (h : l.length + es.length ≤ 16777216) (q : Q (.non, S ++ [.lst (l ++ es)]) S') (hi : S.length = i := by first | rfl | assumption) : Wo (meth (S ++ [.lst l]) .extend (.ref i) [x]) S' Q := by
  subst hi; exact wo_of (by simp only [meth, new_get, hx, if_pos (show szOk _ from h), new_set]) q
theorem wo_pop {l : List D} {x : D} {Q : D × Sto → Sto → Prop} (q : Q (x, S ++ [.lst l]) S') (hi : S.length = i := by first | rfl | assumption) : Wo (meth (S ++ [.lst (l ++ [x])]) .pop (.ref i) []) S' Q := by
  subst hi; exact wo_of (by simp [meth]) q
theorem truth_new {l : List D} (hi : S.length = i := by first | rfl | assumption) : truth (S ++ [.lst l]) (.ref i) = some (!l.isEmpty) := by subst hi; simp [truth]
theorem b1len_new {l : List D} (hi : S.length = i := by first | rfl | assumption) : b1 (S ++ [.lst l]) .len (.ref i) = some (.int l.length) := by subst hi; simp [b1, items]
theorem b1tuple_new {l : List D} (hi : S.length = i := by first | rfl | assumption) : b1 (S ++ [.lst l]) .tuple (.ref i) = some (.tup l) := by subst hi; simp [b1, items]
theorem b1list_new {l : List D} (hi : S.length = i := by first | rfl | assumption) : b1 (S ++ [.lst l]) .list (.ref i) = some (.lst l) := by subst hi; simp [b1, items]
theorem slice_new {l : List D} {lo h : Option Int} (hi : S.length = i := by first | rfl | assumption) : slice (S ++ [.lst l]) (.ref i) lo h = some (.lst (cut l lo h)) := by subst hi; simp [slice, items]
/-- the exit with one new list, which is told -/
theorem wx_lst {l : List D} (h : l.all (flat 23) = true) (q : Q (.lst l) S) : WX false S (.ref S.length) (S ++ [.lst l]) Q := wx_new (by simp) (res_ref rfl rfl h) q
theorem wx_lst2 {S2 : Sto} {l : List D} (hs : S2.length = S.length) (hi : i = S.length) (hc : S2.all (cellLt S.length) = true) (h : l.all (flat 23) = true) (q : Q (.lst l) S2) : WX false S (.ref i) (S2 ++ [.lst l]) Q := by
  subst hi; exact wx_put (by simp) hs hc (res_ref rfl hs.symm h) q
theorem wx_gone2 {S2 : Sto} {d : D} {c : Cell} (hs : S2.length = S.length) (hc : S2.all (cellLt S.length) = true) (h : flat 24 d = true) (q : Q d S2) : WX false S d (S2 ++ [c]) Q := wx_put (by simp) hs hc (flat_res h) q
/-- the exit with one new list, which is not told -/
theorem wx_gone {d : D} {c : Cell} (h : flat 24 d = true) (q : Q d S) : WX false S d (S ++ [c]) Q := wx_new (by simp) (flat_res h) q
theorem flat_map {α : Type} {f : α → D} {n : Nat} {l : List α} (h : ∀ a, flat n (f a) = true) : (l.map f).all (flat n) = true := by
  simp only [List.all_eq_true, List.mem_map]; rintro _ ⟨a, _, rfl⟩; exact h a
theorem nb_map {α : Type} {f : α → D} {n : Nat} {l : List α} (h : ∀ a, nb n (f a) = true) : (l.map f).all (nb n) = true := by
  simp only [List.all_eq_true, List.mem_map]; rintro _ ⟨a, _, rfl⟩; exact h a
/-- pairs -/
def encP (p : Int × Int) : D := .tup [.int p.1, .int p.2]
theorem rngL_eq (lo : Int) (n : Nat) : rngL lo n = (List.range n).map fun (k : Nat) => D.int (lo + k) := rfl
theorem range_two (i : Nat) : List.range (i + 2) = List.range i ++ [i, i + 1] := by simp [List.range_succ]
theorem fmod_nat (a b : Nat) : (a : Int).fmod b = ((a % b : Nat) : Int) := by
  rw [Int.fmod_eq_emod_of_nonneg _ (by omega)]; exact (Int.natCast_emod a b).symm
theorem fdiv_nat (a b : Nat) : (a : Int).fdiv b = ((a / b : Nat) : Int) := by
  rw [Int.fdiv_eq_ediv_of_nonneg _ (by omega)]; exact (Int.natCast_ediv a b).symm
theorem atI_mapN {α : Type} {l : List α} {f : α → D} {k : Nat} (h : k < l.length) : atI (l.map f) (k : Int) = some (f l[k]) := atI_nat (by simp [h])
theorem atI_mapB {α : Type} [Inhabited α] {l : List α} {f : α → D} {k : Nat} (h : k < l.length) : atI (l.map f) (k : Int) = some (f l[k]!) := atI_nat (by simp [h])
theorem wo_slT {ds : List D} {lo hi : Option Int} (q : Q (.tup (cut ds lo hi)) S) : Wo (slice S' (.tup ds) lo hi) S Q := wo_of rfl q
theorem wo_slL {ds : List D} {lo hi : Option Int} (q : Q (.lst (cut ds lo hi)) S) : Wo (slice S' (.lst ds) lo hi) S Q := wo_of rfl q
theorem wo_lenT {ds : List D} (q : Q (.int ds.length) S) : Wo (b1 S' .len (.tup ds)) S Q := wo_of rfl q
theorem wo_lenL {ds : List D} (q : Q (.int ds.length) S) : Wo (b1 S' .len (.lst ds)) S Q := wo_of rfl q
theorem wo_tupT {ds : List D} (q : Q (.tup ds) S) : Wo (b1 S' .tuple (.tup ds)) S Q := wo_of rfl q
theorem wo_tupL {ds : List D} (q : Q (.tup ds) S) : Wo (b1 S' .tuple (.lst ds)) S Q := wo_of rfl q
theorem wo_lstT {ds : List D} (q : Q (.lst ds) S) : Wo (b1 S' .list (.tup ds)) S Q := wo_of rfl q
theorem wo_lstL {ds : List D} (q : Q (.lst ds) S) : Wo (b1 S' .list (.lst ds)) S Q := wo_of rfl q
theorem wo_all {α : Type} {l : List α} {f : α → Bool} (q : Q (.bl (l.all f)) S) : Wo (b1 S' .all (.lst (l.map fun a => D.bl (f a)))) S Q := wo_of (by simp only [b1, litems, asBl_map, Option.map_some, List.all_map]; rfl) q
theorem wo_any {α : Type} {l : List α} {f : α → Bool} (q : Q (.bl (l.any f)) S) : Wo (b1 S' .any (.lst (l.map fun a => D.bl (f a)))) S Q := wo_of (by simp only [b1, litems, asBl_map, Option.map_some, List.any_map]; rfl) q
theorem wo_min {i : Int} {l : List Int} (q : Q (.int (l.foldl (fun a y => if y < a then y else a) i)) S) : Wo (b1 S' .min (.lst ((i :: l).map D.int))) S Q := wo_of (min_ints S' _ i l rfl) q
theorem wo_mulS {a b : Int} (h : -1606938044258990275541962092341162602522202993782792835301376 < a ∧ a < 1606938044258990275541962092341162602522202993782792835301376 ∧ -1606938044258990275541962092341162602522202993782792835301376 < b ∧ b < 1606938044258990275541962092341162602522202993782792835301376)
    (q : Q (.int (a * b)) S) : Wo (GV.bin S' .mul (.int a) (.int b)) S Q := wo_mul (mulOk_bd (m := 200) (n := 200) (by unfold bd; omega) (by unfold bd; omega) (by omega)) q
theorem fmod_lt {a b : Int} (h : 0 < b) : 0 ≤ a.fmod b ∧ a.fmod b < b := ⟨Int.fmod_nonneg_of_pos a h, Int.fmod_lt_of_pos a h⟩
theorem fdiv_bd {n : Nat} {a b : Int} (h : bd n a) (h0 : 0 ≤ a) (hb : 1 ≤ b) : 0 ≤ a.fdiv b ∧ bd n (a.fdiv b) := by
  rw [Int.fdiv_eq_ediv_of_nonneg a (by omega)]
  have h1 : 0 ≤ a / b := Int.ediv_nonneg h0 (by omega)
  have h2 : a / b ≤ a := Int.ediv_le_self b h0
  exact ⟨h1, by unfold bd at *; omega⟩
theorem cut_take {α : Type} {l : List α} {k : Nat} : cut l none (some (k : Int)) = l.take k := by
  have h : ¬ ((k : Int) < 0) := by omega
  simp only [cut, HT.sIx, h, if_false, List.drop_zero, Nat.sub_zero, Int.toNat_natCast]
  rcases Nat.le_total k l.length with q | q
  · rw [Nat.min_eq_left q]
  · rw [Nat.min_eq_right q, List.take_of_length_le (Nat.le_refl _), List.take_of_length_le q]
theorem cut_drop {α : Type} {l : List α} {k : Nat} : cut l (some (k : Int)) none = l.drop k := by
  have h : ¬ ((k : Int) < 0) := by omega
  simp only [cut, HT.sIx, h, if_false, Int.toNat_natCast]
  rcases Nat.le_total k l.length with q | q
  · rw [Nat.min_eq_left q, List.take_of_length_le (by simp)]
  · rw [Nat.min_eq_right q, List.drop_of_length_le (Nat.le_refl _), List.drop_of_length_le q]; simp
theorem cut_map {α β : Type} {f : α → β} {l : List α} {lo hi : Option Int} : cut (l.map f) lo hi = (cut l lo hi).map f := by simp [cut]
theorem filterMap_if {α : Type} {l : List α} {p : α → Bool} {f : α → D} : l.filterMap (fun a => if p a = true then some (f a) else none) = (l.filter p).map f := by
  induction l with
  | nil => rfl
  | cons a l ih => cases h : p a <;> simp [h, ih]
theorem bits_bd {z : Int} {n : Nat} (h : PySem.Builtin.Int.intBits z ≤ n) : bd n z := by
  unfold PySem.Builtin.Int.intBits at h
  by_cases q : z = 0
  · subst q; unfold bd; simp; exact Nat.pow_pos (by omega)
  · have e : (z == 0) = false := by simpa using q
    rw [e] at h
    simp only [Bool.false_eq_true, if_false] at h
    exact (Nat.log2_lt (by omega)).mp (by omega)
theorem idx_nb {x dx : D} {ys : List D} (hy : litems S dx = some ys) (hx : nb 24 x = true) (h : ys.all (nb 23) = true) : meth S .index dx [x] = (ys.findIdx? fun y => decide (y = x)).map fun k => (.int (k : Nat), S) := by
  obtain ⟨p, hp1, hp2⟩ := one_nb (S := S) hx
  have main : ∀ ys : List D, ys.all (nb 23) = true → ∃ qs, mapO (pyF S 23) ys = some qs ∧ PyData.plainAll qs = true ∧ (qs.findIdx? fun q => PyData.eqv q p) = ys.findIdx? fun y => decide (y = x) := by
    intro ys
    induction ys with
    | nil => intro _; exact ⟨[], rfl, by simp [PyData.plainAll], by simp⟩
    | cons y ys ih =>
      intro h
      simp only [List.all_cons, Bool.and_eq_true] at h
      obtain ⟨qs, h1, h2, h3⟩ := ih h.2
      obtain ⟨q, p', e1, e2, e3, e4, e5⟩ := eqv_nb (S := S) h.1 hx
      rw [hp1] at e2; cases e2
      have e6 : PyData.eqv q p = decide (y = x) := by
        rw [Bool.eq_iff_iff, e5, decide_eq_true_eq]
      refine ⟨q :: qs, by simp [mapO, e1, h1], by simp [PyData.plainAll, e3, h2], ?_⟩
      rw [List.findIdx?_cons, List.findIdx?_cons, e6, h3]
  obtain ⟨qs, h1, h2, h3⟩ := main ys h
  have hp1' : py S x = some p := hp1
  simp only [meth, hp1', Option.bind_some, hy, h1, hp2, h2, and_self, if_true, h3]
theorem wo_index {x dx : D} {ys : List D} {k : Nat} {Q : D × Sto → Sto → Prop} (hy : litems S dx = some ys) (hx : nb 24 x = true) (h : ys.all (nb 23) = true) (hk : (ys.findIdx? fun y => decide (y = x)) = some k) (q : Q (.int (k : Nat), S) S') : Wo (meth S .index dx [x]) S' Q :=
  wo_of (by rw [idx_nb hy hx h, hk]; rfl) q
theorem inD_nb {x : D} {y : D} {ys : List D} (hy : items S y = some ys) (hx : nb 24 x = true) (h : ys.all (nb 23) = true) : inD S x y = some (decide (x ∈ ys)) := by
  obtain ⟨p, hp1, hp2⟩ := one_nb (S := S) hx
  have main : ∀ ys : List D, ys.all (nb 23) = true → ∃ qs, mapO (pyF S 23) ys = some qs ∧ PyData.plainAll qs = true ∧ ((qs.any fun q => PyData.eqv q p) = true ↔ x ∈ ys) := by
    intro ys
    induction ys with
    | nil => intro _; exact ⟨[], rfl, by simp [PyData.plainAll], by simp⟩
    | cons y ys ih =>
      intro h
      simp only [List.all_cons, Bool.and_eq_true] at h
      obtain ⟨qs, h1, h2, h3⟩ := ih h.2
      obtain ⟨q, p', e1, e2, e3, e4, e5⟩ := eqv_nb (S := S) h.1 hx
      rw [hp1] at e2; cases e2
      refine ⟨q :: qs, by simp [mapO, e1, h1], by simp [PyData.plainAll, e3, h2], ?_⟩
      simp only [List.any_cons, Bool.or_eq_true, e5, h3, List.mem_cons]
      exact ⟨fun h => h.imp Eq.symm id, fun h => h.imp Eq.symm id⟩
  obtain ⟨qs, h1, h2, h3⟩ := main ys h
  unfold inD py
  rw [hy]
  simp only [hp1, h1]
  rw [if_pos ⟨hp2, h2⟩]
  by_cases q : x ∈ ys
  · rw [decide_eq_true q, h3.mpr q]
  · rw [decide_eq_false q]
    cases hq : qs.any fun q => PyData.eqv q p with
    | false => rfl
    | true => exact absurd (h3.mp hq) q
theorem wo_inT {x : D} {ys : List D} {QB : Bool → Sto → Prop} (hx : nb 24 x = true) (h : ys.all (nb 23) = true) (q : QB (decide (x ∈ ys)) S) : Wo (cmp S' .isin x (.tup ys)) S QB := wo_of (by simp only [cmp]; exact inD_nb rfl hx h) q
theorem wo_ninT {x : D} {ys : List D} {QB : Bool → Sto → Prop} (hx : nb 24 x = true) (h : ys.all (nb 23) = true) (q : QB (!decide (x ∈ ys)) S) : Wo (cmp S' .notin x (.tup ys)) S QB := wo_of (by simp only [cmp, inD_nb (y := .tup ys) rfl hx h, Option.map_some, bnot]) q
theorem cut_takeI {α : Type} {l : List α} {i : Int} (h : 0 ≤ i) : cut l none (some i) = l.take i.toNat := by
  obtain ⟨n, rfl⟩ := Int.eq_ofNat_of_zero_le h; rw [cut_take]; simp
theorem cut_dropI {α : Type} {l : List α} {i : Int} (h : 0 ≤ i) : cut l (some i) none = l.drop i.toNat := by
  obtain ⟨n, rfl⟩ := Int.eq_ofNat_of_zero_le h; rw [cut_drop]; simp
theorem cut_le {α : Type} {l : List α} {lo hi : Option Int} : (cut l lo hi).length ≤ l.length := by simp [cut]; omega
theorem cut_mem {α : Type} {l : List α} {lo hi : Option Int} {x : α} (h : x ∈ cut l lo hi) : x ∈ l := GW.cut_mem h
/-- can it be shown -/
def reprB (a : GW.A) : Bool := match GW.pyA 24 [] a with
  | some (some w) => decide (w ≤ 16777216)
  | _ => false
theorem repr_okB {a : GW.A} {d : D} (h : reprB a = true) (g : GW.gm a d) : ∃ x, ∀ S, b1 S .repr d = some (.str x) := by
  unfold reprB at h
  split at h
  · rename_i w hw
    obtain ⟨x, _, hx⟩ := repr_ok hw (of_decide_eq_true h) g
    exact ⟨x, hx⟩
  · cases h
end GX

set_option linter.all false
/-! GX, part e: whole numbers. -/
namespace GX
open PySem GV
theorem fmod_abs {a b : Int} (h : b ≠ 0) : (a.fmod b).natAbs < b.natAbs := by
  rcases Int.lt_or_gt_of_ne h with h | h
  · have h1 := Int.fmod_nonneg_of_pos (-a) (show 0 < -b by omega)
    have h2 := Int.fmod_lt_of_pos (-a) (show 0 < -b by omega)
    rw [Int.neg_fmod_neg] at h1 h2
    omega
  · have h1 := Int.fmod_nonneg_of_pos a h
    have h2 := Int.fmod_lt_of_pos a h
    omega
theorem fdiv_abs {a b : Int} (h : b ≠ 0) : (a.fdiv b).natAbs ≤ a.natAbs := by
  rcases Int.lt_or_gt_of_ne h with h | h
  · have := GW.fdiv_abs (i := -a) (j := -b) (by omega)
    rw [Int.neg_fdiv_neg] at this
    omega
  · exact GW.fdiv_abs (by omega)
theorem rest_eq (a b : Int) : a - a.fdiv b * b = a.fmod b := by rw [Int.fmod_def, Int.mul_comm]
theorem rest_eq' (a b : Int) : a - b * a.fdiv b = a.fmod b := by rw [Int.fmod_def]
theorem gcd_rest (a b : Int) : Int.gcd b (a.fmod b) = Int.gcd a b := by rw [Int.fmod_def, Int.gcd_sub_mul_left_right, Int.gcd_comm]
/-- a number modulo the det does not lean on which combination is 1 -/
theorem uniq_mod {v0 v1 w0 w1 x y x' y' n : Int} (h : x * v0 + y * v1 = 1) (h' : x' * v0 + y' * v1 = 1) (hn : n = v0 * w1 - v1 * w0) : ∃ t, x * w0 + y * w1 = x' * w0 + y' * w1 + t * n := by
  refine ⟨x' * y - x * y', ?_⟩
  subst hn
  have e1 : x - x' = v1 * (x * y' - x' * y) := by grind
  have e2 : y - y' = -v0 * (x * y' - x' * y) := by grind
  grind
theorem fmod_add_mul {a t n : Int} : (a + t * n).fmod n = a.fmod n := by simp
theorem dvd_fdiv {a b : Int} (h : b ∣ a) : a.fdiv b * b = a := by
  obtain ⟨c, rfl⟩ := h
  by_cases q : b = 0
  · subst q; simp
  · rw [Int.mul_fdiv_cancel_left _ q]; exact Int.mul_comm _ _
theorem mul_fdiv {a b : Int} (h : b ≠ 0) : (a * b).fdiv b = a := Int.mul_fdiv_cancel _ h
/-! ### rows by places -/
theorem map_range {α : Type} [Inhabited α] (l : List α) : l = (List.range l.length).map fun k => l[k]! := by
  apply List.ext_getElem?
  intro i
  by_cases h : i < l.length
  · rw [List.getElem?_map, List.getElem?_range h, List.getElem?_eq_getElem h]; simp [h]
  · rw [List.getElem?_eq_none (by omega), List.getElem?_eq_none (by simp; omega)]
theorem enm_at {ds : List D} {k : Nat} : ∀ {j : Nat}, (enmL j ds)[k]? = ds[k]?.map fun d => .tup [.int ((j + k : Nat) : Int), d] := by
  induction ds generalizing k with
  | nil => intro j; simp [enmL]
  | cons d ds ih =>
    intro j
    cases k with
    | zero => simp [enmL]
    | succ k => simp only [enmL, List.getElem?_cons_succ, ih]; rw [show j + 1 + k = j + (k + 1) by omega]
theorem enm_range {α : Type} [Inhabited α] (l : List α) (f : α → D) : enmL 0 (l.map f) = (List.range l.length).map fun (k : Nat) => .tup [.int (k : Int), f l[k]!] := by
  apply List.ext_getElem?
  intro i
  rw [enm_at]
  by_cases h : i < l.length
  · rw [List.getElem?_map, List.getElem?_map, List.getElem?_range h, List.getElem?_eq_getElem h]; simp [h]
  · rw [List.getElem?_eq_none (by simp; omega), List.getElem?_eq_none (by simp; omega)]; rfl
theorem zipL_at {k : Nat} : ∀ {ds es : List D}, (zipL ds es)[k]? = (ds[k]?.bind fun d => es[k]?.map fun e => .tup [d, e]) := by
  induction k with
  | zero => intro ds es; cases ds <;> cases es <;> simp [zipL]
  | succ k ih => intro ds es; cases ds <;> cases es <;> simp [zipL, ih]
theorem zip_range {α β : Type} [Inhabited α] [Inhabited β] (l : List α) (m : List β) (f : α → D) (g : β → D) (h : l.length = m.length) : zipL (l.map f) (m.map g) = (List.range l.length).map fun (k : Nat) => .tup [f l[k]!, g m[k]!] := by
  apply List.ext_getElem?
  intro i
  rw [zipL_at]
  by_cases q : i < l.length
  · rw [List.getElem?_map, List.getElem?_map, List.getElem?_map, List.getElem?_range q, List.getElem?_eq_getElem q, List.getElem?_eq_getElem (h ▸ q)]; simp [q, h ▸ q]
  · rw [List.getElem?_eq_none (l := l.map f) (by simp; omega), List.getElem?_eq_none (l := (List.range l.length).map _) (by simp; omega)]; rfl
theorem rot_len {α : Type} (w : List α) (h : w ≠ []) : (w.drop 1 ++ w.take 1).length = w.length := by
  have := List.length_pos_iff.mpr h
  simp; omega
theorem rot_get {α : Type} [Inhabited α] (w : List α) {k : Nat} (h : k < w.length) : (w.drop 1 ++ w.take 1)[k]! = w[(k + 1) % w.length]! := by
  by_cases q : k + 1 < w.length
  · rw [Nat.mod_eq_of_lt q]
    have : k < (w.drop 1).length := by simp; omega
    simp only [getElem!_def, List.getElem?_append_left this, List.getElem?_drop]
    rw [show 1 + k = k + 1 by omega]
  · have e : k + 1 = w.length := by omega
    rw [e, Nat.mod_self]
    have : (w.drop 1).length ≤ k := by simp; omega
    simp only [getElem!_def, List.getElem?_append_right this, List.length_drop, List.getElem?_take]
    rw [show k - (w.length - 1) = 0 by omega]; simp
theorem mem_get {α : Type} [Inhabited α] {w : List α} {k : Nat} (h : k < w.length) : w[k]! ∈ w := by simp [h]
theorem range_get {n k : Nat} (h : k < n) : (List.range n)[k]! = k := by simp [h]
theorem atI_prev {α : Type} [Inhabited α] {l : List α} {f : α → D} {k : Nat} (h : k < l.length) : L2.atI (l.map f) ((k : Int) - 1) = some (f l[(k + l.length - 1) % l.length]!) := by
  by_cases q : k = 0
  · subst q
    refine atI_neg (by omega) (by simp; omega) ?_
    have e : (((0 : Nat) : Int) - 1 + ((l.map f).length : Int)).toNat = l.length - 1 := by simp; omega
    have e2 : (0 + l.length - 1) % l.length = l.length - 1 := by rw [Nat.zero_add]; exact Nat.mod_eq_of_lt (by omega)
    rw [e, e2, List.getElem?_map, List.getElem?_eq_getElem (by omega)]
    simp [show l.length - 1 < l.length by omega]
  · have e2 : (k + l.length - 1) % l.length = k - 1 := by
      rw [show k + l.length - 1 = k - 1 + l.length by omega, Nat.add_mod_right]; exact Nat.mod_eq_of_lt (by omega)
    rw [e2, show (k : Int) - 1 = ((k - 1 : Nat) : Int) by omega]
    exact atI_mapB (by omega)
theorem atI_nextN {α : Type} [Inhabited α] {l : List α} {f : α → D} {k : Nat} (h : k < l.length) : L2.atI (l.map f) ((k : Int) + 1 - l.length) = some (f l[(k + 1) % l.length]!) := by
  by_cases q : k + 1 = l.length
  · rw [q, Nat.mod_self, show (k : Int) + 1 - l.length = ((0 : Nat) : Int) by omega]
    exact atI_mapB (by omega)
  · refine atI_neg (by omega) (by simp; omega) ?_
    have e : ((k : Int) + 1 - l.length + ((l.map f).length : Int)).toNat = k + 1 := by rw [List.length_map]; omega
    rw [e, Nat.mod_eq_of_lt (by omega), List.getElem?_map, List.getElem?_eq_getElem (by omega)]
    simp [show k + 1 < l.length by omega]
theorem gcd_fdiv {c N o : Int} (ho : 0 < o) : (c * o).fdiv (Int.gcd (c * o) (N * o) : Nat) = c.fdiv (Int.gcd c N : Nat) := by
  rw [Int.gcd_mul_right]
  by_cases q : Int.gcd c N = 0
  · rw [q]; simp
  obtain ⟨d, hd⟩ : ((Int.gcd c N : Nat) : Int) ∣ c := Int.gcd_dvd_left ..
  have e : (((Int.gcd c N * o.natAbs : Nat)) : Int) = (Int.gcd c N : Int) * o := by
    rw [Int.natCast_mul]; congr 1; omega
  rw [e]
  have h1 : c * o = d * ((Int.gcd c N : Int) * o) := by
    calc c * o = ((Int.gcd c N : Int) * d) * o := by rw [← hd]
      _ = _ := by grind
  have h2 : c.fdiv (Int.gcd c N : Nat) = d := by
    have : c = d * (Int.gcd c N : Int) := by rw [Int.mul_comm]; exact hd
    calc c.fdiv (Int.gcd c N : Nat) = (d * (Int.gcd c N : Int)).fdiv (Int.gcd c N : Nat) := by rw [← this]
      _ = d := mul_fdiv (by omega)
  rw [h1, h2]
  exact mul_fdiv (Int.mul_ne_zero (by omega) (by omega))
theorem gcd_fdiv_neg {c N o : Int} (ho : o < 0) : (-(c * o)).fdiv (Int.gcd (c * o) (N * o) : Nat) = c.fdiv (Int.gcd c N : Nat) := by
  have := gcd_fdiv (c := c) (N := N) (o := -o) (by omega)
  rw [Int.mul_neg, Int.mul_neg, Int.gcd_neg, Int.neg_gcd] at this
  exact this
theorem bez : ∀ (n : Nat) (x y : Int), y.natAbs ≤ n → ∃ u v : Int, u * x + v * y = (Int.gcd x y : Int)
  | n, x, y, h => by
    by_cases q : y = 0
    · subst q
      rcases Int.le_total 0 x with hx | hx
      · exact ⟨1, 0, by simp; omega⟩
      · exact ⟨-1, 0, by simp; omega⟩
    · cases n with
      | zero => omega
      | succ n =>
        have := fmod_abs (a := x) q
        obtain ⟨u, v, e⟩ := bez n y (x.fmod y) (by omega)
        rw [gcd_rest] at e
        refine ⟨v, u - v * x.fdiv y, ?_⟩
        rw [← e, Int.fmod_def]; grind
/-- what has the det 0 with a primitive vector is a multiple of it -/
theorem mult_of {a b x y : Int} (hg : Int.gcd x y = 1) (h : a * y = b * x) : ∃ c, a = c * x ∧ b = c * y := by
  obtain ⟨u, v, e⟩ : ∃ u v : Int, u * x + v * y = 1 := by have := bez _ x y (Nat.le_refl _); rw [hg] at this; exact this
  exact ⟨u * a + v * b, by grind, by grind⟩
/-! ### a loop that ends at the first thing that is so -/
theorem f_find {C : CallF} {tg : Tg} {b : GV.St} {dp : Option (Nat × Cell)} {ρ : Rho} {S : Sto} {N : Rho → Sto → Prop} {R : QD} {E : Rho → QE} {α : Type} {ds : List D} (e : α → D) (l : List α) (p : α → Bool) (x : α → D) (I : Rho → Prop) (hd : ds = l.map e) (hdp : depOk S dp) (h0 : I ρ)
    (hx : ∀ a, l.find? p = some a → R (x a) S) (hn : l.find? p = none → ∀ ρ, I ρ → N ρ S)
    (hs : ∀ a ∈ l, ∀ ρ N', I ρ → (p a = false → ∀ ρ', I ρ' → N' ρ' S) → (p a = true → R (x a) S) → Wo (asg tg (e a) ρ) S fun ρ1 S => WS C b ρ1 S N' N' R E) : WF C tg b dp ds ρ S N R E := by
  subst hd
  induction l generalizing ρ with
  | nil => exact f_nil (hn rfl ρ h0)
  | cons a l ih =>
    refine f_cons (hs a List.mem_cons_self ρ _ h0 (fun hp ρ' hI => ⟨hdp, ih hI (fun c hc => hx c ?_) (fun hc => hn ?_) fun c hc => hs c (List.mem_cons_of_mem _ hc)⟩) (fun hp => hx a ?_))
    · rw [List.find?_cons, hp]; exact hc
    · rw [List.find?_cons, hp]; exact hc
    · rw [List.find?_cons, hp]
/-! ### kinds without cells -/
def nrA : Nat → GW.A → Bool
  | 0, _ => false
  | n + 1, a => match a with
    | .ref _ => false
    | .tup as => as.all (nrA n)
    | .seq _ e _ _ => nrA n e
    | .fz e _ _ => nrA n e
    | .or a b => nrA n a && nrA n b
    | _ => true
theorem flat_kind : ∀ {n : Nat} {a : GW.A} {d : D}, nrA n a = true → GW.gm a d → flat n d = true
  | 0, a, d, h, _ => by cases h
  | n + 1, a, d, h, g => by
    have ts : ∀ {as : List GW.A} {ds : List D}, as.all (nrA n) = true → GW.gms as ds → ds.all (flat n) = true := by
      intro as
      induction as with
      | nil => intro ds _ g; simp only [GW.gms] at g; subst g; rfl
      | cons a as ih =>
        intro ds h g
        simp only [List.all_cons, Bool.and_eq_true] at h
        simp only [GW.gms] at g
        obtain ⟨d, r, rfl, g1, g2⟩ := g
        simp only [List.all_cons, Bool.and_eq_true]
        exact ⟨flat_kind h.1 g1, ih h.2 g2⟩
    cases a with
    | bot => simp only [GW.gm] at g
    | non => simp only [GW.gm] at g; subst g; rfl
    | bl => simp only [GW.gm] at g; obtain ⟨b, rfl⟩ := g; rfl
    | k b => simp only [GW.gm] at g; subst g; rfl
    | int lo hi => simp only [GW.gm] at g; obtain ⟨i, rfl, _⟩ := g; rfl
    | str m => simp only [GW.gm] at g; obtain ⟨x, rfl, _⟩ := g; rfl
    | sc x => simp only [GW.gm] at g; subst g; rfl
    | tup as => simp only [GW.gm] at g; obtain ⟨ds, rfl, g⟩ := g; exact ts h g
    | seq l e lo hi =>
      rw [GW.gm_seq] at g
      obtain ⟨ds, hk, _, _, g⟩ := g
      have : ds.all (flat n) = true := List.all_eq_true.mpr fun x hx => flat_kind (show nrA n e = true from h) (g x hx)
      rcases hk with ⟨_, rfl⟩ | ⟨_, rfl⟩ <;> exact this
    | fz e lo hi => simp only [GW.gm] at g; obtain ⟨ds, rfl, _, _, g⟩ := g; exact List.all_eq_true.mpr fun x hx => flat_kind (show nrA n e = true from h) (g x hx)
    | ref i => cases h
    | or a b =>
      have h := Bool.and_eq_true_iff.mp (show (nrA n a && nrA n b) = true from h)
      simp only [GW.gm] at g
      rcases g with g | g
      · exact flat_mono (flat_kind h.1 g)
      · exact flat_mono (flat_kind h.2 g)
theorem flat_le {m n : Nat} {d : D} (h : flat m d = true) (hl : m ≤ n) : flat n d = true := by
  induction hl with
  | refl => exact h
  | step _ ih => exact flat_mono ih
theorem gm_or {a b : GW.A} {d : D} : GW.gm (.or a b) d = (GW.gm a d ∨ GW.gm b d) := by simp only [GW.gm]
theorem gm_tupL {e : GW.A} {lo hi : Nat} {ds : List D} (h1 : lo ≤ ds.length) (h2 : ds.length ≤ hi) (h : ∀ x ∈ ds, GW.gm e x) : GW.gm (.seq false e lo hi) (.tup ds) := by
  rw [GW.gm_seq]; exact ⟨ds, .inr ⟨rfl, rfl⟩, h1, h2, h⟩
theorem gm_lstL {e : GW.A} {lo hi : Nat} {ds : List D} (h1 : lo ≤ ds.length) (h2 : ds.length ≤ hi) (h : ∀ x ∈ ds, GW.gm e x) : GW.gm (.seq true e lo hi) (.lst ds) := by
  rw [GW.gm_seq]; exact ⟨ds, .inl ⟨rfl, rfl⟩, h1, h2, h⟩
theorem gm_int {lo hi i : Int} (h1 : lo ≤ i) (h2 : i ≤ hi) : GW.gm (.int lo hi) (.int i) := by simp only [GW.gm]; exact ⟨i, rfl, h1, h2⟩
/-! ### a comprehension whose turns write -/
theorem c_inv {C : CallF} {ρ : Rho} {S : Sto} {α : Type} {own : List Nat} {tg : Tg} {c e : G} {dp : Option (Nat × Cell)} {ds : List D} {Q : List D → Sto → Prop} (en : α → D) (l : List α) (I : Nat → List D → Sto → Prop) (hd : ds = l.map en) (hl : l.length ≤ 1000000) (h0 : I 0 [] S)
    (hs : ∀ i a acc S (Q' : Option D → Sto → Prop), l[i]? = some a → I i acc S → (∀ d S', depOk S' dp → I (i + 1) (acc ++ [d]) S' → Q' (some d) S') → (∀ S', depOk S' dp → I (i + 1) acc S' → Q' none S') → Wo (asg tg (en a) (wipeD ρ own)) S fun ρ' S2 => W C c ρ' S2 (fun t S3 => Wo (truth S3 t) S3 fun k S4 => Wif k (W C e ρ' S4 (fun d S5 => Q' (some d) S5) (fun _ _ _ => False)) (Q' none S4)) (fun _ _ _ => False))
    (q : ∀ acc S', I l.length acc S' → Q acc S') : WC C own tg c e dp ds ρ S Q := by
  subst hd
  unfold WC
  have main : ∀ (m : List α) (i : Nat) (acc : List D) (S : Sto), m = l.drop i → i ≤ l.length → acc.length ≤ i → I i acc S → ∃ r S', compL dp (compF C own tg c e ρ) (m.map en) acc S = .ok r S' ∧ I l.length r S' := by
    intro m
    induction m with
    | nil =>
      intro i acc S hm hi ha hI
      have : l.length ≤ i := by
        have := congrArg List.length hm; simp at this; omega
      have : i = l.length := by omega
      subst this
      exact ⟨acc, S, rfl, hI⟩
    | cons a m ih =>
      intro i acc S hm hi ha hI
      have hlt : i < l.length := by
        have := congrArg List.length hm; simp at this; omega
      have hget : l[i]? = some a := by
        have := congrArg List.head? hm; simpa using this.symm
      have hm' : m = l.drop (i + 1) := by
        have := congrArg List.tail hm; simpa using this
      have step : ∃ o S1, compF C own tg c e ρ (en a) S = .ok o S1 ∧ depOk S1 dp ∧ (match o with | some d => I (i + 1) (acc ++ [d]) S1 | none => I (i + 1) acc S1) := by
        have := hs i a acc S (fun o S' => depOk S' dp ∧ (match o with | some d => I (i + 1) (acc ++ [d]) S' | none => I (i + 1) acc S')) hget hI (fun d S' h1 h2 => ⟨h1, h2⟩) (fun S' h1 h2 => ⟨h1, h2⟩)
        unfold Wo at this
        obtain ⟨ρ', e1, h1⟩ := this
        have h1 := h1.out
        simp only [compF, e1]
        cases q1 : ev C c ρ' S with
        | ok t S3 =>
          rw [q1] at h1
          obtain ⟨k, e2, h2⟩ := h1
          simp only [R.bind_ok, e2, R.of_some, R.nox]
          unfold Wif at h2
          cases k
          · simp only [Bool.false_eq_true, if_false] at h2 ⊢
            exact ⟨none, S3, rfl, h2⟩
          · simp only [if_true] at h2 ⊢
            have h2 := h2.out
            cases q2 : ev C e ρ' S3 with
            | ok d S' => rw [q2] at h2; exact ⟨some d, S', rfl, h2⟩
            | exc c v S2 => rw [q2] at h2; exact h2.elim
            | no => rw [q2] at h2; exact h2.elim
        | exc c v S2 => rw [q1] at h1; exact h1.elim
        | no => rw [q1] at h1; exact h1.elim
      obtain ⟨o, S1, e1, hdp, hI'⟩ := step
      simp only [List.map_cons, compL, e1, R.bind_ok, if_pos hdp]
      cases o with
      | some d =>
        simp only
        rw [if_pos (show szOk (acc.length + 1) by unfold szOk; omega)]
        exact ih (i + 1) (acc ++ [d]) S1 hm' hlt (by simp; omega) hI'
      | none => exact ih (i + 1) acc S1 hm' hlt (by omega) hI'
  obtain ⟨r, S', e1, hI⟩ := main l 0 [] S (by simp) (by omega) (by simp) h0
  exact ⟨r, S', e1, q r S' hI⟩
/-! ### dicts that nobody writes -/
theorem e_frz {C : CallF} {ρ : Rho} {S : Sto} {Q : QD} {E : QE} {a : G} (h : W C a ρ S (fun x S1 => WX false S x S1 Q) E) : W C (.frz a) ρ S Q E := by
  have h := h.out
  unfold W
  have e : ev C (.frz a) ρ S = (ev C a ρ S).bind fun x S1 => exitR false S x S1 := rfl
  rw [e]
  cases q : ev C a ρ S with
  | ok x S1 =>
    rw [q] at h
    unfold WX at h
    obtain ⟨d2, S2, h1, h2⟩ := h
    simp only [R.bind_ok, h1]
    exact h2
  | exc c v S1 => rw [q] at h; exact h
  | no => rw [q] at h; exact h
theorem e_frz0 {C : CallF} {ρ : Rho} {S : Sto} {Q : QD} {E : QE} (q : Q (.dk [] []) S) : W C (.frz (.dct [] .nil)) ρ S Q E := by
  refine e_frz (e_dct (wl_nil ⟨⟨rfl, by simp, by simp, by simp⟩, ?_⟩))
  have e : (S ++ [Cell.dk []]).set S.length (.dk (List.zip [] [])) = S ++ [Cell.dk []] := by simp
  rw [e]
  refine wx_new (by simp) (d' := .dk [] []) ?_ q
  simp [resF, mapO]
section
variable {C : CallF} {ρ : Rho} {S : Sto} {Q : QD} {E : QE}
theorem e_sset {a : G} (h : W C a ρ S (fun x S1 => Wo (ssetD S1 x) S1 Q) E) : W C (.sset a) ρ S Q E := by
  refine w_bind (by simp only [ev]; rfl) (h.mono (fun x S1 h => ?_) fun _ _ _ h => h)
  unfold Wo at h; obtain ⟨d, e, hq⟩ := h
  rw [e]; exact hq
theorem e_sdct {a : G} (h : W C a ρ S (fun x S1 => Wo (sdctD S1 x) S1 Q) E) : W C (.sdct a) ρ S Q E := by
  refine w_bind (by simp only [ev]; rfl) (h.mono (fun x S1 h => ?_) fun _ _ _ h => h)
  unfold Wo at h; obtain ⟨d, e, hq⟩ := h
  rw [e]; exact hq
def uprD : D → Option D
  | .str z => if z.length ≤ 5592405 then some (.str (Txt.upper z)) else none
  | _ => none
theorem e_upr {a : G} (h : W C a ρ S (fun x S1 => Wo (uprD x) S1 Q) E) : W C (.upr a) ρ S Q E := by
  refine w_bind (by simp only [ev]; rfl) (h.mono (fun x S1 h => ?_) fun _ _ _ h => h)
  unfold Wo at h; obtain ⟨d, e, hq⟩ := h
  cases x <;> simp only [uprD] at e <;> first | (cases e; done) | skip
  split at e
  · rename_i hz
    cases e
    simp only; rw [if_pos hz]; exact hq
  · cases e
theorem e_lzip {a b : G} (h : W C a ρ S (fun x S1 => W C b ρ S1 (fun y S2 => Wo (lzipD S2 x y) S2 Q) E) E) : W C (.lzip a b) ρ S Q E := by
  refine w_bind (by simp only [ev]; rfl) (h.mono (fun x S1 h => ?_) fun _ _ _ h => h)
  have h := h.out
  cases q : ev C b ρ S1 with
  | ok y S2 =>
    rw [q] at h
    unfold Wo at h; obtain ⟨d, e, hq⟩ := h
    simp only [R.bind_ok]
    rw [e]; exact hq
  | exc c v S2 => rw [q] at h; exact h
  | no => rw [q] at h; exact h
/-- {k: v}, a display that nobody writes -/
theorem e_frz1 {a b : G} (h : W C a ρ (S ++ [.dk []]) (fun x S1 => W C b ρ S1 (fun y S2 => S2 = S ++ [.dk []] ∧ Wo (asKey x) S fun kk _ => flat 23 y = true ∧ Q (.dk [kk] [y]) S) E) E) : W C (.frz (.dct1 a b)) ρ S Q E := by
  refine e_frz ?_
  unfold W; simp only [ev]
  have h := h.out
  cases q : ev C a ρ (S ++ [.dk []]) with
  | ok x S1 =>
    rw [q] at h
    have h := h.out
    simp only [R.bind_ok]
    cases q2 : ev C b ρ S1 with
    | ok y S2 =>
      rw [q2] at h
      obtain ⟨rfl, h⟩ := h
      unfold Wo at h; obtain ⟨kk, e1, e2, hq⟩ := h
      simp only [R.bind_ok, e1]
      rw [if_pos (by simp)]
      have e : (S ++ [Cell.dk []]).set S.length (.dk [(kk, y)]) = S ++ [Cell.dk [(kk, y)]] := by simp
      rw [e]
      refine wx_new (by simp) (d' := .dk [kk] [y]) ?_ hq
      simp [resF, mapO, flat_res e2]
    | exc c v S2 => rw [q2] at h; exact h
    | no => rw [q2] at h; exact h
  | exc c v S2 => rw [q] at h; exact h
  | no => rw [q] at h; exact h
end
/-! texts -/
theorem wo_lenS {S S' : Sto} {z : Str} {Q : QD} (h : z.length ≤ 16777216) (q : Q (.int z.length) S) : Wo (b1 S' .len (.str z)) S Q := wo_of (by simp only [b1]; rw [if_pos (show szOk _ from h)]) q
theorem wo_upr {S : Sto} {z : Str} {Q : QD} (h : z.length ≤ 5592405) (q : Q (.str (Txt.upper z)) S) : Wo (uprD (.str z)) S Q := wo_of (by simp only [uprD]; rw [if_pos h]) q
def cutS (z : Str) (lo hi : Option Int) : Str := ⟨(cut z.cps.toList lo hi).toArray⟩
theorem cutS_len {z : Str} {lo hi : Option Int} : (cutS z lo hi).length ≤ z.length := by
  show ((cut z.cps.toList lo hi).toArray).size ≤ z.cps.size
  have : (cut z.cps.toList lo hi).length ≤ z.cps.toList.length := by simp [cut]; omega
  simpa using this
theorem wo_slS {S S' : Sto} {z : Str} {lo hi : Option Int} {Q : QD} (h : z.length ≤ 16777216) (q : Q (.str (cutS z lo hi)) S) : Wo (slice S' (.str z) lo hi) S Q := wo_of (by simp only [slice]; rw [if_pos (show szOk _ from h)]; rfl) q
end GX

set_option linter.all false
set_option maxHeartbeats 1000000
/-! GX, part f: rules with / and %; bounds by themselves; clauses. -/
namespace GX
open PySem GV
open L2 (atI ixN)
variable {S S' : Sto} {Q : QD}
theorem wo_modE {a b : Int} (h : 0 < b) (q : Q (.int (a % b)) S) : Wo (GV.bin S' .mod (.int a) (.int b)) S Q :=
  wo_mod (by omega) (by rw [Int.fmod_eq_emod_of_nonneg _ (by omega)]; exact q)
theorem wo_fdivE {a b : Int} (h : 0 < b ∧ b < 1073741824) (q : Q (.int (a / b)) S) : Wo (GV.bin S' .fdiv (.int a) (.int b)) S Q :=
  wo_fdiv (by omega) (by rw [Int.fdiv_eq_ediv_of_nonneg _ (by omega)]; exact q)
theorem wo_fdivEW {a b : Int} {n : Nat} (h : 0 < b) (h2 : bd n b) (h3 : n < 9000) (q : Q (.int (a / b)) S) : Wo (GV.bin S' .fdiv (.int a) (.int b)) S Q :=
  wo_fdivW h h2 h3 (by rw [Int.fdiv_eq_ediv_of_nonneg _ (by omega)]; exact q)
theorem bd80 {a : Int} (h : -1208925819614629174706176 < a ∧ a < 1208925819614629174706176) : bd 80 a := by unfold bd; omega
theorem bd_ediv {n : Nat} {a b : Int} (h : bd n a) (hb : 0 < b) : bd n (a / b) := by
  unfold bd at *
  have h1 : (a / b).natAbs ≤ a.natAbs := by
    rcases Int.le_total 0 a with q | q
    · have h1 : 0 ≤ a / b := Int.ediv_nonneg q (by omega)
      have h2 : a / b ≤ a := Int.ediv_le_self b q
      omega
    · have h1 : a / b ≤ 0 := by
        rcases Int.lt_or_eq_of_le q with q | q
        · have := Int.ediv_neg_of_neg_of_pos q hb; omega
        · rw [q]; simp
      have h2 : a ≤ a / b := by
        rw [Int.le_ediv_iff_mul_le hb]
        have := Int.mul_le_mul_of_nonpos_left q (show 1 ≤ b by omega)
        omega
      omega
  omega
theorem bd_emod {n : Nat} {a b : Int} (h : bd n b) (hb : 0 < b) : bd n (a % b) := by
  unfold bd at *
  have h3 := Int.emod_nonneg a (show b ≠ 0 by omega)
  have h4 := Int.emod_lt_of_pos a hb
  omega
theorem bd_abs {n : Nat} {a : Int} (h : bd n a) : bd n (if a < 0 then -a else a) := by unfold bd at *; split <;> omega
theorem emod_lt {a b : Int} (h : 0 < b) : 0 ≤ a % b ∧ a % b < b := ⟨Int.emod_nonneg a (by omega), Int.emod_lt_of_pos a h⟩
/-! ### exceptions -/
variable {C : CallF} {ρ : Rho} {N K : Rho → Sto → Prop} {R : QD} {E : Rho → QE}
theorem s_try {b hs : GV.St} (h : WS C b ρ S N K R (fun ρ' c v S' => WS (xR C c v) hs ρ' S' N K R E)) : WS C (.try_ b hs) ρ S N K R E := ws_of (by
  simp only [evS]
  have h := h.out
  cases q : evS C b ρ S with
  | nx ρ' S' => rw [q] at h; exact h
  | ct ρ' S' => rw [q] at h; exact h
  | rt d S' => rw [q] at h; exact h
  | exc c v ρ' S' => rw [q] at h; exact WS.out h
  | no => rw [q] at h; exact h)
theorem po_rt {r : SR} {d : D} {i : Option Nat} (h : Po (fun _ _ => False) (fun _ _ => False) (fun d' S' => d' = d ∧ S' = S) (fun _ _ _ _ => False) r) : r.gone i = .rt d S := by
  cases r with
  | rt d' S' => obtain ⟨h1, h2⟩ := h; rw [h1, h2]; rfl
  | nx ρ' S' => exact h.elim
  | ct ρ' S' => exact h.elim
  | exc c v ρ' S' => exact h.elim
  | no => exact h.elim
/-- a clause that takes it and tells a value -/
theorem s_hnd {c m : Nat} {v : Option D} {i : Option Nat} {s r : GV.St} {d : D} (hm : xsub c m = true) (hx : ∃ (a : Addr) (dd : Option Addr) (fs : List (Str × L2.V)), XFit c v dd fs)
    (h : ∀ (a : Addr) (dd : Option Addr) (fs : List (Str × L2.V)), XFit c v dd fs → WS (xC (xR C c v) c v a dd fs) s (slx i ρ (.exo a dd fs)) S (fun _ _ => False) (fun _ _ => False) (fun d' S' => d' = d ∧ S' = S) (fun _ _ _ _ => False)) (q : R d S) :
    WS (xR C c v) (.hnd m i s r) ρ S N K R E := ws_of (by
  simp only [evS, xR, if_true]
  rw [if_pos hm]
  have e : hndR c v (fun a d fs => (evS (xC (xR C c v) c v a d fs) s (slx i ρ (.exo a d fs)) S).gone i) = .rt d S := by
    have hh : ∃ r, ∀ (a : Addr) (dd : Option Addr) (fs : List (Str × L2.V)), XFit c v dd fs → (fun a d fs => (evS (xC (xR C c v) c v a d fs) s (slx i ρ (.exo a d fs)) S).gone i) a dd fs = r := ⟨.rt d S, fun a dd fs fit => po_rt (h a dd fs fit).out⟩
    unfold hndR
    rw [dif_pos hh]
    obtain ⟨a, dd, fs, fit⟩ := hx
    rw [← Classical.choose_spec hh a dd fs fit]
    exact po_rt (h a dd fs fit).out
  show Po N K R E (hndR c v (fun a d fs => (evS (xC (xR C c v) c v a d fs) s (slx i ρ (.exo a d fs)) S).gone i))
  rw [e]
  exact q)
theorem s_hnd_not {c m : Nat} {v : Option D} {i : Option Nat} {s r : GV.St} (hm : xsub c m = false) (h : WS (xR C c v) r ρ S N K R E) : WS (xR C c v) (.hnd m i s r) ρ S N K R E := ws_of (by
  have h := h.out
  simp only [evS, xR, if_true] at h ⊢
  rw [if_neg (by rw [hm]; simp)]
  exact h)
theorem s_hend {c : Nat} {v : Option D} (h : E ρ c v S) : WS (xR C c v) .hend ρ S N K R E := ws_of (by
  simp only [evS, xR, if_true]; exact h)
theorem xfit0 {c : Nat} : ∃ (a : Addr) (dd : Option Addr) (fs : List (Str × L2.V)), XFit c none dd fs := ⟨0, none, [], fun _ => rfl, fun x e => by cases e⟩
theorem xfit1 {c : Nat} {i : Int} : ∃ (a : Addr) (dd : Option Addr) (fs : List (Str × L2.V)), XFit c (some (.int i)) dd fs := ⟨0, some 0, [(fldNm (fldNo c), .int i)], (fun e => by cases e), fun x e => by cases e; exact ⟨0, _, rfl, rfl, by simp [List.lookup]⟩⟩
/-- in a clause: is it one -/
theorem wc_xi {c m : Nat} {v : Option D} {a : Addr} {dd : Option Addr} {fs : List (Str × L2.V)} {E : QE} (q : Q (.bl (xsub c m)) S) : Wc (xC C c v a dd fs) (XI0 + m) [.exo a dd fs] S Q E := by
  refine wc_eq ?_ q
  have h1 : ¬ (XI0 + m < 1000000) := by show ¬ (1000100 + m < 1000000); omega
  have h2 : ¬ (XI0 + m < XI0) := by show ¬ (1000100 + m < 1000100); omega
  have h3 : XI0 + m - XI0 = m := by show 1000100 + m - 1000100 = m; omega
  simp only [xC, if_neg h1, if_neg h2, h3, if_true]
/-- in a clause: its field -/
theorem wc_xf {c f : Nat} {x : D} {a : Addr} {dd : Option Addr} {fs : List (Str × L2.V)} {E : QE} (hf : fldNo c = f) (h1 : 1 ≤ f) (h5 : f ≤ 5) (q : Q x S) : Wc (xC C c (some x) a dd fs) (XF0 + f) [.exo a dd fs] S Q E := by
  refine wc_eq ?_ q
  have q1 : ¬ (XF0 + f < 1000000) := by show ¬ (1000001 + f < 1000000); omega
  have q2 : XF0 + f < XI0 := by show 1000001 + f < 1000100; omega
  simp only [xC, if_neg q1, if_pos q2, if_true]
  rw [if_pos ⟨by omega, by rw [hf]⟩]; rfl
/-! a call that may raise -/
theorem wc_runX {T : List Df} {f k nm pr : Nat} {kp : Bool} {bd : GV.St} {ds : List D} {E : QE} (hT : T[f]? = some ⟨nm, pr, kp, bd⟩) (hl : ds.length = pr)
    (h : ∀ (N K : Rho → Sto → Prop) (R : QD) (X : Rho → QE), (∀ ρ S', WX kp S .non S' Q → N ρ S') → (∀ d S', WX kp S d S' Q → R d S') → (∀ ρ c v S', S'.length = S.length → E c v S' → X ρ c v S') → WS (callN T k) bd (startD nm ds) S N K R X) : Wc (callN T (k + 1)) f ds S Q E := by
  unfold Wc
  rw [callN_eq hT]
  unfold runD
  rw [if_pos hl]
  have h := (h (fun _ S' => WX kp S .non S' Q) (fun _ _ => False) (fun d S' => WX kp S d S' Q) (fun _ c v S' => S'.length = S.length ∧ E c v S') (fun _ _ h => h) (fun _ _ h => h) fun _ _ _ _ h1 h2 => ⟨h1, h2⟩).out
  simp only
  cases q : evS (callN T k) bd (startD nm ds) S with
  | nx ρ' S' => rw [q] at h; have h : WX _ _ _ _ _ := h; unfold WX at h; obtain ⟨d2, S2, e, hq⟩ := h; simp only; rw [e]; exact hq
  | rt d S' => rw [q] at h; have h : WX _ _ _ _ _ := h; unfold WX at h; obtain ⟨d2, S2, e, hq⟩ := h; simp only; rw [e]; exact hq
  | ct ρ' S' => rw [q] at h; exact h.elim
  | exc c v ρ' S' => rw [q] at h; simp only; rw [if_pos (.inr h.1)]; exact h.2
  | no => rw [q] at h; exact h
theorem exc_of_wc {C : CallF} {f : Nat} {ds : List D} {c : Nat} {v : Option D} {S' : Sto} (h : Wc C f ds S (fun _ _ => False) (fun c' v' S2 => c' = c ∧ v' = v ∧ S2 = S')) : C f ds S = .exc c v S' := by
  unfold Wc at h
  split at h
  · exact h.elim
  · rename_i q; rw [q, h.1, h.2.1, h.2.2]
  · exact h.elim
theorem wc_exc {C : CallF} {f : Nat} {ds : List D} {c : Nat} {v : Option D} {S' : Sto} {E : QE} (h : C f ds S = .exc c v S') (q : E c v S') : Wc C f ds S Q E := by unfold Wc; rw [h]; exact q
/-! names: through what was written -/
theorem look_eq {ρ : Rho} {i : Nat} {o : Option D} (h : i < ρ.length) : (ρ.set i o)[i]? = some o := List.getElem?_set_self h
theorem look_ne {ρ : Rho} {i j : Nat} {o : Option D} {r : Option (Option D)} (h : j ≠ i) (h2 : ρ[i]? = r) : (ρ.set j o)[i]? = r := (List.getElem?_set_ne h).trans h2
theorem lt_set {ρ : Rho} {i j : Nat} {o : Option D} (h : i < ρ.length) : i < (ρ.set j o).length := by rw [List.length_set]; exact h
/-- while, and what is so behind it -/
theorem s_whl2 {c : G} {b : GV.St} (I : Nat → Rho → Sto → Prop) (P : Rho → Sto → Prop) (n : Nat) (h0 : I n ρ S)
    (hs : ∀ (n : Nat) (ρ : Rho) (S : Sto) (N' M : Rho → Sto → Prop), I n ρ S → (∀ m ρ' S', m < n → I m ρ' S' → N' ρ' S') → (∀ ρ S, P ρ S → M ρ S) → W C c ρ S (fun x S1 => Wo (truth S1 x) S1 fun k S2 => Wif k (WS C b ρ S2 N' N' R E) (M ρ S2)) (E ρ))
    (hn : ∀ ρ S, P ρ S → N ρ S) : WS C (.whl c b) ρ S N K R E := s_whl I n h0 fun n ρ S N' h1 h2 => hs n ρ S N' N h1 h2 hn
theorem s_seqP {a b : GV.St} (P : Rho → Sto → Prop) (ha : ∀ N' : Rho → Sto → Prop, (∀ ρ S, P ρ S → N' ρ S) → WS C a ρ S N' K R E) (hb : ∀ ρ S, P ρ S → WS C b ρ S N K R E) : WS C (.seq a b) ρ S N K R E :=
  s_seq (ha _ fun ρ S h => hb ρ S h)
end GX

set_option linter.all false
set_option maxRecDepth 100000
set_option maxHeartbeats 2000000
set_option pp.deepTerms false
set_option pp.deepTerms.threshold 12
/-! the machine of the laws k46 to k55, k65 to k73 -/
namespace D46
open PySem GV GX
open L2 (atI ixN)
def dfDeck : Df := ⟨4, 1, true, (.seq (.par [2, 3] (.cons (.comp [1] (.nm 1) (.slh (.loc 0) (.cst (.int 63))) (.cst (.bl true)) (.b1 .abs (.loc 1))) (.cons (.bin .add (.cst (.int 16240)) (.b1 .len (.slh (.loc 0) (.cst (.int 63))))) .nil)))
    (.seq (.for_ (.nm 1) (.loc 2) (.unp (.nm 3) (.bin .mod (.bin .add (.bin .add (.bin .mul (.loc 3) (.cst (.int 48271))) (.bin .mod (.loc 1) (.cst (.int 2147483629)))) (.cst (.int 7))) (.cst (.int 2147483647)))))
    (.ret (.alc (.lst (.cons (.alc (.rev (.comp [1] (.nm 1) (.loc 2) (.cmp .ge (.loc 1) (.bin .pow (.cst (.int 10)) (.cst (.int 9)))) (.loc 1)))) (.cons (.loc 3) .nil)))))))⟩
def dfDraw : Df := ⟨3, 2, false, (.seq (.whl (.and (.cmp .gt (.loc 1) (.cst (.int 1))) (.cmp .ne (.idx (.loc 0) (.cst (.int 0))) (.lst .nil))) (.seq (.unp (.nm 2) (.meth .pop (.idx (.loc 0) (.cst (.int 0))) .nil))
    (.ite (.cmp .gt (.loc 2) (.cst (.int 0))) (.seq (.ex (.meth .append (.idx (.loc 0) (.cst (.int 0))) (.cons (.bin .fdiv (.loc 2) (.loc 1)) .nil)))
    (.ret (.bin .mod (.loc 2) (.loc 1)))) .skip)))
    (.seq (.setx (.loc 0) (.cst (.int 1)) (.bin .mod (.bin .add (.bin .mul (.idx (.loc 0) (.cst (.int 1))) (.cst (.int 48271))) (.cst (.int 11))) (.cst (.int 2147483647))))
    (.ret (.bin .mod (.bin .fdiv (.bin .mod (.bin .mul (.idx (.loc 0) (.cst (.int 1))) (.idx (.loc 0) (.cst (.int 1)))) (.cst (.int 2147483629))) (.cst (.int 7))) (.loc 1)))))⟩
def dfPick (j : Nat) : Df := ⟨2, 2, false, (.ret (.idx (.loc 1) (.call j (.cons (.loc 0) (.cons (.b1 .len (.loc 1)) .nil)))))⟩
abbrev GG (cs : List Int) (m : Int) : Sto := [.lst (cs.map D.int), .lst [.ref 0, .int m]]
/-- the machine -/
def GI (G : Sto) : Prop := ∃ (cs : List Int) (m : Int), G = GG cs m ∧ cs.length ≤ 63 ∧ (∀ z ∈ cs, 0 ≤ z ∧ bd 1048576 z) ∧ 0 ≤ m ∧ m < 2147483647
theorem GI.len {G : Sto} (h : GI G) : G.length = 2 := by obtain ⟨_, _, rfl, _⟩ := h; rfl
theorem GI.lt {n : Nat} {G : Sto} (h : GI G) (hn : 2 ≤ n) : G.all (cellLt n) = true := by
  obtain ⟨_, _, rfl, _⟩ := h
  simp [cellLt, ltF]; omega
local macro_rules | `(tactic| infer_instance) => `(tactic| first | ((with_reducible apply e_loc); (repeat ((with_reducible refine look_ne ?_ ?_); decide)); (first | ((with_reducible refine look_eq ?_); (repeat (first | (with_reducible refine lt_set ?_) | exact Nat.le_of_ble_eq_true rfl))) | exact rfl)) | (with_reducible first | refine e_cst ?_ | refine e_bin ?_ | refine e_idx ?_ | refine e_call ?_ | refine wl_cons ?_ | refine wl_nil ?_ | refine e_tup ?_ | refine e_b1 ?_ | refine e_cmp ?_ | refine e_lst ?_ | refine e_neg ?_ | refine e_not ?_ | refine e_and ?_ | refine e_or ?_ | refine e_ife ?_ | refine e_chain ?_ | refine e_isa ?_ | refine e_sl ?_ | refine e_slh ?_ | refine e_sll ?_ | refine e_sla ?_ | refine e_rev ?_ | refine e_alc ?_ | refine e_callK ?_ | refine e_b2 ?_ | refine e_rng1 ?_ | refine e_rng2 ?_ | refine e_enm ?_ | refine e_zip ?_ | refine e_comp ?_ | refine e_meth ?_ | refine e_frz0 ?_ | refine e_frz1 ?_ | refine e_sset ?_ | refine e_sdct ?_ | refine e_lzip ?_ | refine e_upr ?_ | refine e_dct ?_ | refine s_seq ?_ | refine s_set ?_ | refine s_unp ?_ | refine s_par ?_ | refine s_ret ?_ | refine s_ite ?_ | refine s_for ?_ | refine s_ex ?_ | refine s_skip ?_ | refine s_setx ?_ | refine s_cont ?_ | refine s_retN ?_ | refine s_raise0 ?_ | refine s_raise1 ?_ | refine wo_lt ?_ | refine wo_le ?_ | refine wo_gt ?_ | refine wo_ge ?_ | refine wo_eqi ?_ | refine wo_nei ?_ | refine wo_of litems_new ?_ | refine wo_of items_new ?_ | refine wo_of b1len_new ?_ | refine wo_of b1tuple_new ?_ | refine wo_of b1list_new ?_ | refine wo_of slice_new ?_ | refine wo_isN ?_ | refine wo_notN ?_ | refine wo_slT ?_ | refine wo_slL ?_ | refine wo_lenT ?_ | refine wo_lenL ?_ | refine wo_tupT ?_ | refine wo_tupL ?_ | refine wo_lstT ?_ | refine wo_lstL ?_) | (with_reducible refine wo_dbl1 ?_) | (with_reducible refine wo_eqs ?_) | (with_reducible refine wo_nes ?_) | ((with_reducible refine wo_eqsN ?_ ?_); (decide +kernel)) | ((with_reducible refine wo_nesN ?_ ?_); (decide +kernel)) | ((with_reducible refine wo_eqn ?_ ?_ ?_); exact rfl; exact rfl) | ((with_reducible refine wo_nen ?_ ?_ ?_); exact rfl; exact rfl) | ((with_reducible refine wo_inT ?_ ?_ ?_); exact rfl; exact rfl) | ((with_reducible refine wo_ninT ?_ ?_ ?_); exact rfl; exact rfl) | ((with_reducible refine wo_modE ?_ ?_); omega) | ((with_reducible refine wo_fdivE ?_ ?_); omega) | ((with_reducible refine wo_mulS ?_ ?_); omega) | ((with_reducible refine wo_mul ?_ ?_); exact mulOk_bd (by (repeat (first | assumption | (with_reducible apply bd_mul) | (with_reducible apply bd_add) | (with_reducible apply bd_sub) | (with_reducible apply bd_neg) | (with_reducible apply bd_abs) | exact bd80 (by omega)))) (by (repeat (first | assumption | (with_reducible apply bd_mul) | (with_reducible apply bd_add) | (with_reducible apply bd_sub) | (with_reducible apply bd_neg) | (with_reducible apply bd_abs) | exact bd80 (by omega)))) (by omega)) | ((with_reducible apply wo_of); exact rfl) | ((with_reducible refine wo_reprN ?_ ?_); exact sh_fin (by (repeat (first | assumption | (with_reducible apply sh_tup) | (with_reducible apply sh_lst) | (with_reducible apply shl_cons) | (with_reducible apply shl_app) | (with_reducible apply shl_nil) | (with_reducible apply sh_non) | (with_reducible apply sh_bl) | ((with_reducible apply sh_int); (repeat (first | assumption | (with_reducible apply bd_mul) | (with_reducible apply bd_add) | (with_reducible apply bd_sub) | (with_reducible apply bd_neg) | (with_reducible apply bd_abs) | exact bd80 (by omega))); omega) | ((with_reducible apply sh_str); decide)))) (by decide)) | ((with_reducible refine wo_repr ?_ ?_); exact sh_fin (by (repeat (first | assumption | (with_reducible apply sh_tup) | (with_reducible apply sh_lst) | (with_reducible apply shl_cons) | (with_reducible apply shl_app) | (with_reducible apply shl_nil) | (with_reducible apply sh_non) | (with_reducible apply sh_bl) | ((with_reducible apply sh_int); (repeat (first | assumption | (with_reducible apply bd_mul) | (with_reducible apply bd_add) | (with_reducible apply bd_sub) | (with_reducible apply bd_neg) | (with_reducible apply bd_abs) | exact bd80 (by omega))); omega) | ((with_reducible apply sh_str); decide)))) (by decide)) | (with_reducible refine wif_t ?_) | (with_reducible refine wif_f ?_) | refine wif_t ?_ | refine wif_f ?_ | ((with_reducible refine and_rng ?_ ?_); omega) | ((with_reducible refine and_rng2 ?_ ?_); omega) | (refine And.intro (Nat.le_of_ble_eq_true rfl) ?_) | refine And.intro rfl ?_)
theorem set1 {cs : List Int} {m x : Int} {R : Sto} : setx (GG cs m ++ R) (.ref 1) (.int 1) (.int x) = some (GG cs x ++ R) := rfl
theorem pop_last {cs : List Int} {z m : Int} {R : Sto} : meth (GG (cs ++ [z]) m ++ R) .pop (.ref 0) [] = some (.int z, GG cs m ++ R) := by
  simp [meth, GG]
theorem app_last {cs : List Int} {z m : Int} {R : Sto} (h : cs.length ≤ 1000) : meth (GG cs m ++ R) .append (.ref 0) [.int z] = some (.non, GG (cs ++ [z]) m ++ R) := by
  have hs : szOk ((cs.map D.int).length + 1) := by unfold szOk; simp; omega
  simp only [meth, GG, List.cons_append, List.getElem?_cons_zero]
  rw [if_pos hs]
  simp
local macro_rules | `(tactic| infer_instance) => `(tactic| first | (with_reducible refine wo_of set1 ?_) | (with_reducible refine wo_of pop_last ?_))
theorem ne_nil {cs : List Int} {m : Int} {R : Sto} {QB : Bool → Sto → Prop} (hq : QB (!cs.isEmpty) (GG cs m ++ R)) : Wo (cmp (GG cs m ++ R) Cop.ne (D.ref 0) (D.lst [])) (GG cs m ++ R) QB := by
  refine wo_of (d := !cs.isEmpty) ?_ hq
  have e : py (GG cs m ++ R) (.ref 0) = some (.list (cs.map PyData.int)) := by
    show (mapO (pyF _ 23) (cs.map D.int)).map PyData.list = _
    rw [GW.py_ints]; rfl
  have e2 : py (GG cs m ++ R) (.lst []) = some (.list []) := rfl
  have pl : (PyData.list (cs.map PyData.int)).plain = true := by
    rw [PyData.plain]
    exact GW.plain_all (by simp [PyData.plain])
  simp only [cmp, eqD, e, e2]
  rw [if_pos ⟨pl, by simp [PyData.plain, PyData.plainAll]⟩]
  cases cs <;> simp [PyData.eqv, PyData.eqvAll, bnot]
theorem tenE : (10 : Int) ^ Int.toNat 9 = 1000000000 := rfl
theorem draw_ok {T : List Df} {f : Nat} (hT : T[f]? = some dfDraw) {k : Nat} {G R : Sto} {b : Int} (g : GI G) (h1 : 1 ≤ b) (h2 : b ≤ 1000000000) :
    ∃ d S', callN T (k + 1) f [.ref 1, .int b] (G ++ R) = .ok d S' ∧ ∃ r G', d = .int r ∧ S' = G' ++ R ∧ 0 ≤ r ∧ r < b ∧ GI G' := by
  obtain ⟨cs, m, rfl, hl, hz, hm0, hm1⟩ := g
  refine ex_of_wc (wc_run hT rfl fun N K R' X hN hR => ?_)
  have fin0 : ∀ (r : Int) (cs : List Int) (m : Int), 0 ≤ r → r < b → GI (GG cs m) → R' (.int r) (GG cs m ++ R) := fun r cs m r0 r1 g => hR _ _ (wx_len (by simp) ⟨_, _, rfl, rfl, r0, r1, g⟩)
  clear hR hN
  (repeat infer_instance)
  refine s_whl2 (fun n ρ S => ∃ (cs : List Int) (a : Option D), n = cs.length ∧ ρ = [some (.ref 1), some (.int b), a] ∧ S = GG cs m ++ R ∧ cs.length ≤ 63 ∧ (∀ z ∈ cs, 0 ≤ z ∧ bd 1048576 z))
    (fun ρ S => ∃ (cs : List Int) (a : Option D), ρ = [some (.ref 1), some (.int b), a] ∧ S = GG cs m ++ R ∧ cs.length ≤ 63 ∧ (∀ z ∈ cs, 0 ≤ z ∧ bd 1048576 z)) cs.length ⟨cs, none, rfl, rfl, rfl, hl, hz⟩ ?_ ?_
  · clear hl hz cs
    rintro n ρ S N' M ⟨cs, a, rfl, rfl, rfl, hl, hz⟩ hN' hM
    (repeat infer_instance)
    refine wif_d (fun hc => ?_) fun hc => ?_
    · (repeat infer_instance)
      refine ne_nil ?_
      rcases List.eq_nil_or_concat cs with rfl | ⟨cs, z, rfl⟩
      · (repeat infer_instance)
        exact hM _ _ ⟨[], a, rfl, rfl, hl, hz⟩
      · have hz' := hz z (by simp)
        have e : (!(cs.concat z).isEmpty) = true := by simp
        rw [e]
        simp only [List.concat_eq_append] at hl hz ⊢
        have hl2 : cs.length ≤ 62 := by simp at hl; omega
        (repeat infer_instance)
        refine wif_d (fun hc => ?_) fun hc => ?_
        · (repeat infer_instance)
          refine wo_of (app_last (by omega)) ?_
          (repeat infer_instance)
          have := emod_lt (a := z) (b := b) (by omega)
          refine fin0 _ _ _ this.1 this.2 ⟨cs ++ [z / b], m, rfl, by simp; omega, fun y hy => ?_, hm0, hm1⟩
          rcases List.mem_append.mp hy with hy | hy
          · exact hz y (by simp [hy])
          · rw [List.mem_singleton.mp hy]
            exact ⟨Int.ediv_nonneg hz'.1 (by omega), bd_ediv hz'.2 (by omega)⟩
        · (repeat infer_instance)
          exact hN' cs.length _ _ (by simp) ⟨cs, _, rfl, rfl, rfl, by omega, fun y hy => hz y (by simp [hy])⟩
    · refine wo_of rfl ?_
      refine wif_d (fun h => absurd h hc) fun _ => ?_
      exact hM _ _ ⟨cs, a, rfl, rfl, hl, hz⟩
  · clear hl hz cs
    rintro _ _ ⟨cs, a, rfl, rfl, hl, hz⟩
    (repeat infer_instance)
    have := emod_lt (a := (((m * 48271 + 11) % 2147483647 * ((m * 48271 + 11) % 2147483647)) % 2147483629 / 7)) (b := b) (by omega)
    exact fin0 _ _ _ this.1 this.2 ⟨cs, _, rfl, hl, hz, by omega, by omega⟩
theorem pick_ok {T : List Df} {f j : Nat} (hT : T[f]? = some (dfPick j)) (hj : T[j]? = some dfDraw) {k : Nat} {G R : Sto} {x : D} {ds : List D} (g : GI G) (hx : ∀ G' : Sto, GI G' → items (G' ++ R) x = some ds ∧ b1 (G' ++ R) .len x = some (.int ds.length)) (h1 : ds ≠ []) (h2 : ds.length ≤ 1000000000) :
    ∃ d S', callN T (k + 2) f [.ref 1, x] (G ++ R) = .ok d S' ∧ ∃ G', d ∈ ds ∧ S' = G' ++ R ∧ GI G' := by
  refine ex_of_wc (wc_run hT rfl fun N K R' X hN hR => ?_)
  (repeat infer_instance)
  refine wo_of (hx G g).2 ?_
  (repeat infer_instance)
  have hp : 0 < ds.length := List.length_pos_iff.mpr h1
  refine wc_ex (draw_ok hj (R := R) g (b := ds.length) (by omega) (by omega)) ?_
  rintro _ _ ⟨r, G', rfl, rfl, r0, r1, g'⟩
  obtain ⟨n, rfl⟩ := Int.eq_ofNat_of_zero_le r0
  have hn : n < ds.length := by omega
  refine wo_idx (hx G' g').1 (atI_nat (List.getElem?_eq_getElem hn)) ?_
  exact hR _ _ (wx_len (by simp [g.len, g'.len]) ⟨G', List.getElem_mem hn, rfl, g'⟩)
theorem draw_ok0 {T : List Df} {f : Nat} (hT : T[f]? = some dfDraw) {k : Nat} {G : Sto} {b : Int} (g : GI G) (h1 : 1 ≤ b) (h2 : b ≤ 1000000000) :
    ∃ d S', callN T (k + 1) f [.ref 1, .int b] G = .ok d S' ∧ ∃ r, d = .int r ∧ 0 ≤ r ∧ r < b ∧ GI S' := by
  obtain ⟨d, S', h, r, G', e1, e2, h3, h4, h5⟩ := draw_ok hT (k := k) (R := []) g h1 h2
  rw [List.append_nil] at h e2
  subst e2
  exact ⟨d, S', h, r, e1, h3, h4, h5⟩
theorem pick_ok0 {T : List Df} {f j : Nat} (hT : T[f]? = some (dfPick j)) (hj : T[j]? = some dfDraw) {k : Nat} {G : Sto} {ds : List D} (g : GI G) (h1 : ds ≠ []) (h2 : ds.length ≤ 1000000000) :
    ∃ d S', callN T (k + 2) f [.ref 1, .lst ds] G = .ok d S' ∧ d ∈ ds ∧ GI S' := by
  obtain ⟨d, S', h, G', e1, e2, h3⟩ := pick_ok hT hj (k := k) (R := []) g (x := .lst ds) (ds := ds) (fun _ _ => ⟨rfl, rfl⟩) h1 h2
  rw [List.append_nil] at h e2
  subst e2
  exact ⟨d, S', h, e1, h3⟩
theorem abs_bd {n : Nat} {z : Int} (h : bd n z) : 0 ≤ (if z < 0 then -z else z) ∧ bd n (if z < 0 then -z else z) := ⟨by split <;> omega, bd_abs h⟩
theorem deck_ok {T : List Df} {f : Nat} (hT : T[f]? = some dfDeck) {k : Nat} {ns : List Int} (hl : ns.length ≤ 63) (hz : ∀ z ∈ ns, PySem.Builtin.Int.intBits z ≤ 1048576) :
    ∃ d S', callN T (k + 1) f [.fz (ns.map D.int)] [] = .ok d S' ∧ d = .ref 1 ∧ GI S' := by
  refine ex_of_wc (wc_run hT rfl fun N K R' X hN hR => ?_)
  have hb : ∀ z ∈ ns, bd 1048576 z := fun z h => bits_bd (hz z h)
  have e63 : cut (ns.map D.int) none (some 63) = ns.map D.int := by rw [cut_map]; rw [show (63 : Int) = ((63 : Nat) : Int) from rfl, cut_take, List.take_of_length_le hl]
  (repeat infer_instance)
  rw [e63]
  refine c_map D.int ns (fun z => .int (if z < 0 then -z else z)) rfl True.intro (by omega) (fun z hz' R hR => ?_) ?_
  · (repeat infer_instance)
    exact hR
  · have e : ns.map (fun z => D.int (if z < 0 then -z else z)) = (ns.map fun z => if z < 0 then -z else z).map D.int := by simp
    have hc : ∀ z ∈ ns.map fun z => if z < 0 then -z else z, 0 ≤ z ∧ bd 1048576 z := by
      intro z hz
      obtain ⟨y, hy, rfl⟩ := List.mem_map.mp hz
      exact abs_bd (hb y hy)
    have hl2 : (ns.map fun z : Int => if z < 0 then -z else z).length ≤ 63 := by simpa using hl
    rw [e]
    generalize (ns.map fun z : Int => if z < 0 then -z else z) = cs at hc hl2
    have hln : (ns.map D.int).length ≤ 63 := by simpa using hl
    (repeat infer_instance)
    rw [e63]
    (repeat infer_instance)
    refine f_inv D.int cs rfl (fun i ρ S => (∃ a st, ρ = [some (.fz (ns.map D.int)), a, some (.lst (cs.map D.int)), some (.int st)] ∧ 0 ≤ st ∧ (i = 0 ∧ st < 20000 ∨ st < 2147483647)) ∧ S = []) ?_ ?_ ?_
    · refine ⟨⟨none, 16240 + (ns.map D.int).length, rfl, by omega, .inl ⟨rfl, ?_⟩⟩, rfl⟩
      simp; omega
    · rintro i z ρ _ N' hz' ⟨⟨a, st, rfl, s0, s1⟩, rfl⟩ hN'
      have := hc z (List.mem_of_getElem? hz')
      (repeat infer_instance)
      exact hN' _ _ True.intro ⟨⟨_, _, rfl, by omega, .inr (by omega)⟩, rfl⟩
    · rintro ρ _ ⟨⟨a, st, rfl, s0, s1⟩, rfl⟩
      (repeat infer_instance)
      refine c_inv D.int cs (fun i acc S' => (∃ m : List Int, acc = m.map D.int ∧ m.length ≤ i ∧ ∀ z ∈ m, 0 ≤ z ∧ bd 1048576 z) ∧ S' = []) rfl (by omega) ⟨⟨[], rfl, by simp, by simp⟩, rfl⟩ ?_ ?_
      · rintro i z acc _ Q' ha ⟨⟨m, rfl, hm, hmb⟩, rfl⟩ q1 q2
        have := hc z (List.mem_of_getElem? ha)
        (repeat infer_instance)
        refine wif_d (fun _ => ?_) fun _ => ?_
        · (repeat infer_instance)
          refine q1 _ _ True.intro ⟨⟨m ++ [z], by simp, by simp; omega, fun y hy => ?_⟩, rfl⟩
          rcases List.mem_append.mp hy with hy | hy
          · exact hmb y hy
          · rw [List.mem_singleton.mp hy]; exact this
        · exact q2 _ True.intro ⟨⟨m, rfl, by omega, hmb⟩, rfl⟩
      · rintro acc _ ⟨⟨m, rfl, hm, hmb⟩, rfl⟩
        (repeat infer_instance)
        refine hR _ _ (wx_keep ⟨rfl, ⟨m.reverse, st, by simp [GG], by simp; omega, fun z hz => hmb z (by simpa using hz), by omega, by omega⟩⟩)
/-- the machine, with dead cells behind it -/
structure GJ (n : Nat) (S : Sto) : Prop where
  len : S.length = n
  two : 2 ≤ n
  ex : ∃ G R, S = G ++ R ∧ GI G ∧ R.all flatC = true
theorem GJ.of {G : Sto} (g : GI G) : GJ 2 G := ⟨g.len, Nat.le_refl _, G, [], by simp, g, rfl⟩
theorem GJ.lt {n m : Nat} {S : Sto} (h : GJ n S) (hm : 2 ≤ m) : S.all (cellLt m) = true := by
  obtain ⟨_, _, G, R, rfl, g, hf⟩ := h
  rw [List.all_append, g.lt hm, Bool.true_and, List.all_eq_true]
  exact fun c hc => flatC_lt (List.all_eq_true.mp hf c hc)
theorem GJ.add {n : Nat} {S : Sto} {c : Cell} (h : GJ n S) (hc : flatC c = true) : GJ (n + 1) (S ++ [c]) := by
  obtain ⟨h1, h2, G, R, rfl, g, hf⟩ := h
  refine ⟨by rw [List.length_append, h1]; rfl, by omega, G, R ++ [c], by rw [List.append_assoc], g, ?_⟩
  rw [List.all_append, hf]
  simpa using hc
theorem draw_okJ {T : List Df} {f : Nat} (hT : T[f]? = some dfDraw) {k n : Nat} {S : Sto} {b : Int} (g : GJ n S) (h1 : 1 ≤ b) (h2 : b ≤ 1000000000) :
    ∃ d S', callN T (k + 1) f [.ref 1, .int b] S = .ok d S' ∧ ∃ r, d = .int r ∧ 0 ≤ r ∧ r < b ∧ GJ n S' := by
  obtain ⟨l, l2, G, R, rfl, g, hf⟩ := g
  obtain ⟨d, S', h, r, G', e1, rfl, h3, h4, h5⟩ := draw_ok hT (k := k) (R := R) g h1 h2
  exact ⟨d, _, h, r, e1, h3, h4, by rw [← l, List.length_append, List.length_append, h5.len, g.len], l2, G', R, rfl, h5, hf⟩
theorem pick_okJ {T : List Df} {f j : Nat} (hT : T[f]? = some (dfPick j)) (hj : T[j]? = some dfDraw) {k n : Nat} {S : Sto} {ds : List D} (g : GJ n S) (h1 : ds ≠ []) (h2 : ds.length ≤ 1000000000) :
    ∃ d S', callN T (k + 2) f [.ref 1, .lst ds] S = .ok d S' ∧ d ∈ ds ∧ GJ n S' := by
  obtain ⟨l, l2, G, R, rfl, g, hf⟩ := g
  obtain ⟨d, S', h, G', e1, rfl, h3⟩ := pick_ok hT hj (k := k) (R := R) g (x := .lst ds) (ds := ds) (fun _ _ => ⟨rfl, rfl⟩) h1 h2
  exact ⟨d, _, h, e1, by rw [← l, List.length_append, List.length_append, h3.len, g.len], l2, G', R, rfl, h3, hf⟩
end D46

set_option linter.all false
set_option maxHeartbeats 1000000
/-! GX, part g: what is shown, by itself; max. -/
namespace GX
open PySem GV
open L2 (atI ixN)
/-- can be shown, in so many signs -/
def Sh (m k : Nat) (d : D) : Prop := ∃ p, (∀ S, pyF S m d = some p) ∧ noList p = true ∧ p.showable = true ∧ p.shown.length ≤ k
def ShL (m k : Nat) (ds : List D) : Prop := ∃ ps, (∀ S, mapO (pyF S m) ds = some ps) ∧ noListAll ps = true ∧ PyData.showableAll ps = true ∧ ((PyData.shownAll ps).map (·.length)).sum + 2 * (PyData.shownAll ps).length ≤ k
variable {m k j n : Nat}
theorem sh_non : Sh (m + 1) 4 .non := ⟨.none, fun S => rfl, noList_all _, by simp [PyData.showable], by rw [PyData.shown]; decide⟩
theorem sh_bl {b : Bool} : Sh (m + 1) 5 (.bl b) := ⟨.bool b, fun S => rfl, noList_all _, by simp [PyData.showable], by rw [PyData.shown]; cases b <;> decide⟩
theorem sh_int {i : Int} (h : bd n i) (hn : n ≤ 1900) : Sh (m + 1) (n + 2) (.int i) := ⟨.int i, fun S => rfl, noList_all _, by
    rw [PyData.showable]
    refine decide_eq_true ?_
    have := log2_bd h
    omega, GW.int_len h⟩
theorem sh_str {x : Str} (h : GW.scOk x = true) : Sh (m + 1) (10 * x.length + 2) (.str x) := ⟨.str x, fun S => rfl, noList_all _, by simp [PyData.showable], by
  rw [PyData.shown]
  exact StrLaws.reprText_len x fun c hcc => of_decide_eq_true (List.all_eq_true.mp h c hcc)⟩
theorem shl_nil : ShL m 0 [] := ⟨[], fun S => rfl, noListAll_all _, rfl, by rw [PyData.shownAll]; simp⟩
theorem shl_cons {d : D} {ds : List D} (h : Sh m j d) (t : ShL m k ds) : ShL m (j + 2 + k) (d :: ds) := by
  obtain ⟨p, h1, h2, h4, h5⟩ := h
  obtain ⟨ps, t1, t2, t3, t4⟩ := t
  refine ⟨p :: ps, fun S => by simp [mapO, h1, t1], noListAll_all _, by rw [PyData.showableAll, h4, t3]; rfl, ?_⟩
  rw [PyData.shownAll]
  simp only [List.map_cons, List.sum_cons, List.length_cons]
  omega
theorem shl_app {a b : List D} (h : ShL m j a) (t : ShL m k b) : ShL m (j + k) (a ++ b) := by
  obtain ⟨ps, h1, h2, h3, h4⟩ := h
  obtain ⟨qs, t1, t2, t3, t4⟩ := t
  refine ⟨ps ++ qs, fun S => ?_, ?_, ?_, ?_⟩
  · have : ∀ (a : List D) (ps : List PyData), mapO (pyF S m) a = some ps → mapO (pyF S m) (a ++ b) = some (ps ++ qs) := by
      intro a
      induction a with
      | nil => intro ps h; cases h; simpa using t1 S
      | cons x a ih =>
        intro ps h
        obtain ⟨y, ys, e1, e2, rfl⟩ := mapO_cons h
        simp [mapO, e1, ih ys e2]
    exact this a ps (h1 S)
  · exact noListAll_all _
  · refine GW.show_all fun x hx => ?_
    have pl : ∀ {l : List PyData}, PyData.showableAll l = true → ∀ x ∈ l, x.showable = true := by
      intro l
      induction l with
      | nil => intro _ x hx; cases hx
      | cons y l ih =>
        intro h x hx
        rw [PyData.showableAll, Bool.and_eq_true] at h
        rcases List.mem_cons.mp hx with rfl | hx
        · exact h.1
        · exact ih h.2 x hx
    rcases List.mem_append.mp hx with hx | hx
    · exact pl h3 x hx
    · exact pl t3 x hx
  · rw [GW.shownAll_eq] at h4 t4 ⊢
    simp only [List.map_append, List.sum_append, List.length_append]
    omega
theorem shl_all {ds : List D} (h : ∀ d ∈ ds, Sh m j d) (hn : ds.length ≤ n) : ShL m (n * (j + 2)) ds := by
  have : ∀ ds : List D, (∀ d ∈ ds, Sh m j d) → ShL m (ds.length * (j + 2)) ds := by
    intro ds
    induction ds with
    | nil => intro _; simpa using shl_nil
    | cons d ds ih =>
      intro h
      have := shl_cons (h d List.mem_cons_self) (ih fun x hx => h x (List.mem_cons_of_mem _ hx))
      rw [List.length_cons, Nat.succ_mul, Nat.add_comm]; exact this
  obtain ⟨ps, h1, h2, h3, h4⟩ := this ds h
  exact ⟨ps, h1, h2, h3, Nat.le_trans h4 (Nat.mul_le_mul_right _ hn)⟩
theorem shl_map {α : Type} {l : List α} {f : α → D} (h : ∀ a ∈ l, Sh m j (f a)) (hn : l.length ≤ n) : ShL m (n * (j + 2)) (l.map f) :=
  shl_all (fun d hd => by obtain ⟨a, ha, rfl⟩ := List.mem_map.mp hd; exact h a ha) (by simpa using hn)
theorem sh_tup {ds : List D} (h : ShL m k ds) : Sh (m + 1) (k + 3) (.tup ds) := by
  obtain ⟨ps, h1, h2, h3, h4⟩ := h
  refine ⟨.tuple ps, fun S => by simp [pyF, h1], noList_all _, by rw [PyData.showable]; exact h3, ?_⟩
  rw [PyData.shown]
  have := tupleText_len_le (PyData.shownAll ps)
  omega
theorem sh_lst {ds : List D} (h : ShL m k ds) : Sh (m + 1) (k + 3) (.lst ds) := by
  obtain ⟨ps, h1, h2, h3, h4⟩ := h
  refine ⟨.list ps, fun S => by simp [pyF, h1], noList_all _, by rw [PyData.showable]; exact h3, ?_⟩
  rw [PyData.shown]
  have := listText_len_le (PyData.shownAll ps)
  omega
theorem sh_le {d : D} (h : Sh m j d) (hk : j ≤ k) : Sh m k d := by
  obtain ⟨p, h1, h2, h3, h4⟩ := h
  exact ⟨p, h1, h2, h3, Nat.le_trans h4 hk⟩
theorem sh_mono {d : D} (h : Sh m j d) (hk : m ≤ n) : Sh n j d := by
  obtain ⟨p, h1, h2, h3⟩ := h
  refine ⟨p, fun S => ?_, h2, h3⟩
  have h1 := h1 S
  clear h2 h3
  induction n with
  | zero => have : m = 0 := by omega
            subst this; exact h1
  | succ n ih =>
    by_cases e : m = n + 1
    · subst e; exact h1
    · exact GW.pyF_mono n d p (ih (by omega))
/-- can be shown -/
def Rpr (d : D) : Prop := ∃ x, ∀ S, b1 S .repr d = some (.str x)
theorem sh_fin {d : D} (h : Sh 24 k d) (hk : k ≤ 16777216) : Rpr d := by
  obtain ⟨p, h1, h2, h3, h4⟩ := h
  refine ⟨p.shown, fun S => ?_⟩
  have e : py S d = some p := h1 S
  simp only [b1, e]
  rw [if_pos ⟨h3, .inr (noList_all p), Nat.le_trans h4 hk⟩]
theorem sh_dk : Sh (m + 1) 2 (.dk [] []) := ⟨.dict [], fun S => rfl, noList_all _, by simp [PyData.showable, PyData.showableKv], by rw [PyData.shown]; decide⟩
theorem sh_dk1 : Sh (m + 2) 100 (.dk [.inr "0"] [.int 1]) := ⟨.dict [(.str "0", .int 1)], fun S => rfl, noList_all _, by decide +kernel, by decide +kernel⟩
theorem rpr_dk : Rpr (.dk [] []) := ⟨(PyData.dict []).shown, fun S => by
  have e : py S (.dk [] []) = some (.dict []) := rfl
  simp only [b1, e]
  rw [if_pos ⟨by simp [PyData.showable, PyData.showableKv], .inr (noList_all _), by rw [PyData.shown]; decide⟩]⟩
open Classical in
/-- what is shown -/
noncomputable def rp (d : D) : Str := if h : Rpr d then Classical.choose h else ""
variable {S S' : Sto} {Q : QD} {QB : Bool → Sto → Prop}
theorem rp_eq {d : D} (h : Rpr d) : b1 S .repr d = some (.str (rp d)) := by
  unfold rp; rw [dif_pos h]; exact Classical.choose_spec h S
theorem wo_repr {d : D} (h : Rpr d) (q : Q (.str (rp d)) S) : Wo (b1 S' .repr d) S Q := wo_of (rp_eq h) q
theorem wo_eqs {x : Str} (q : QB true S) : Wo (cmp S' .eq (.str x) (.str x)) S QB := wo_eqn rfl rfl (by simpa using q)
theorem wo_nes {x : Str} (q : QB false S) : Wo (cmp S' .ne (.str x) (.str x)) S QB := wo_nen rfl rfl (by simpa using q)
theorem wo_eqsN {x y : Str} (h : x ≠ y) (q : QB false S) : Wo (cmp S' .eq (.str x) (.str y)) S QB := wo_eqn rfl rfl (by simpa [h] using q)
theorem wo_nesN {x y : Str} (h : x ≠ y) (q : QB true S) : Wo (cmp S' .ne (.str x) (.str y)) S QB := wo_nen rfl rfl (by simpa [h] using q)
theorem max_ints (S : Sto) (x : D) (i : Int) (l : List Int) (h : items S x = some ((i :: l).map D.int)) : b1 S .max x = some (.int (l.foldl (fun a y => if a < y then y else a) i)) := by
  have : b1 S .max x = match items S x with
    | some ds => (match mapO (withPy S) ds with
      | some (e :: es) => if allAlike ((e :: es).map (·.2)) = true ∧ (e :: es).all (fun q => notNone q.2 && pureF 23 q.1) = true then some (es.foldl (fun a y => if PySem.W.dataLt a.2 y.2 = true then y else a) e).1 else none
      | _ => none)
    | none => none := by cases x <;> rfl
  rw [this, h]
  simp only [withPy_ints]
  rw [List.map_cons]
  simp only
  rw [if_pos]
  · have : ∀ (l : List Int) (i : Int), (l.map fun i => (D.int i, PyData.int i)).foldl (fun a y => if PySem.W.dataLt a.2 y.2 = true then y else a) (D.int i, PyData.int i) = (D.int (l.foldl (fun a y => if a < y then y else a) i), PyData.int (l.foldl (fun a y => if a < y then y else a) i)) := by
      intro l
      induction l with
      | nil => intro i; rfl
      | cons j l ih =>
        intro i
        simp only [List.map_cons, List.foldl_cons, PySem.W.dataLt_int, decide_eq_true_eq]
        split <;> exact ih _
    rw [this]
  · constructor
    · have := alike_ints (i :: l)
      simpa [Function.comp_def] using this
    · simp [notNone, pureF]
/-- the greatest of a row -/
def maxL (i : Int) (l : List Int) : Int := l.foldl (fun a y => if a < y then y else a) i
theorem maxL_le {l : List Int} {i t : Int} : maxL i l ≤ t ↔ ∀ x ∈ i :: l, x ≤ t := by
  unfold maxL
  induction l generalizing i with
  | nil => simp
  | cons j l ih =>
    rw [List.foldl_cons, ih]
    simp only [List.mem_cons]
    constructor
    · intro h x hx
      rcases hx with rfl | rfl | hx
      · have := h _ (.inl rfl); split at this <;> omega
      · have := h _ (.inl rfl); split at this <;> omega
      · exact h x (.inr hx)
    · intro h x hx
      rcases hx with rfl | hx
      · split
        · exact h _ (.inr (.inl rfl))
        · exact h _ (.inl rfl)
      · exact h x (.inr (.inr hx))
theorem maxL_mem {l : List Int} {i : Int} : maxL i l ∈ i :: l := by
  unfold maxL
  induction l generalizing i with
  | nil => simp
  | cons j l ih =>
    rw [List.foldl_cons]
    have := ih (i := if i < j then j else i)
    simp only [List.mem_cons] at this ⊢
    rcases this with h | h
    · rw [h]; split
      · exact .inr (.inl rfl)
      · exact .inl rfl
    · exact .inr (.inr h)
theorem and_rng {w : Int} {P : Prop} (h : -4611686018427387904 ≤ w ∧ w < 4611686018427387904) (p : P) : rngOk w ∧ P := ⟨by unfold rngOk; omega, p⟩
theorem and_rng2 {v w : Int} {P : Prop} (h : (-4611686018427387904 ≤ v ∧ v < 4611686018427387904) ∧ (-4611686018427387904 ≤ w ∧ w < 4611686018427387904)) (p : P) : (rngOk v ∧ rngOk w) ∧ P := ⟨⟨by unfold rngOk; omega, by unfold rngOk; omega⟩, p⟩
theorem repr_ref {i : Nat} {ds : List D} (h : S[i]? = some (.lst ds)) : b1 S .repr (.ref i) = b1 S .repr (.lst ds) := by
  have e : py S (.ref i) = py S (.lst ds) := by show pyF S 24 _ = pyF S 24 _; simp only [pyF, h]
  simp only [b1, e]
theorem wo_reprN {l : List D} {i : Nat} (hr : Rpr (.lst l)) (q : Q (.str (rp (.lst l))) S') (hi : S.length = i := by first | rfl | assumption) : Wo (b1 (S ++ [.lst l]) .repr (.ref i)) S' Q :=
  wo_of (by rw [repr_ref (new_get hi)]; exact rp_eq hr) q
theorem wo_dbl1 {x : D} (q : Q (.lst [x, x]) S) : Wo (GV.bin S' .mul (.lst [x]) (.int 2)) S Q := wo_mulL (by simp) (by simpa using q)
theorem natAbs_mul_le {a b : Int} {m n : Nat} (h : a.natAbs ≤ m) (h2 : b.natAbs ≤ n) : (a * b).natAbs ≤ m * n := by rw [Int.natAbs_mul]; exact Nat.mul_le_mul h h2
theorem wo_max {x : D} {i : Int} {l : List Int} (h : items S' x = some ((i :: l).map D.int)) (q : Q (.int (maxL i l)) S) : Wo (b1 S' .max x) S Q := wo_of (max_ints S' _ i l h) q
end GX

set_option linter.all false
set_option maxRecDepth 100000
set_option maxHeartbeats 2000000
set_option pp.deepTerms false
set_option pp.deepTerms.threshold 12
/-! the machine 'deck' of the laws k10 to k18, and what they draw with it -/
namespace DECK
open PySem GV GX
open L2 (atI ixN)
def dfDeck : Df := ⟨5, 2, true, (.seq (.unp (.nm 2) (.dct [(.inr "deep"), (.inr "state")] (.cons (.alc (.lst .nil)) (.cons (.bin .add (.bin .add (.cst (.int 362436069)) (.bin .mul (.loc 1) (.cst (.int 7919)))) (.b1 .len (.slh (.loc 0) (.cst (.int 63))))) .nil))))
    (.seq (.for_ (.nm 3) (.slh (.loc 0) (.cst (.int 63))) (.seq (.ite (.cmp .ge (.b1 .abs (.loc 3)) (.bin .pow (.cst (.int 10)) (.cst (.int 18)))) (.setx (.loc 2) (.cst (.str "deep")) (.alc (.bin .add (.lst (.cons (.b1 .abs (.loc 3)) .nil)) (.idx (.loc 2) (.cst (.str "deep")))))) .skip)
    (.seq (.unp (.nm 4) (.bin .add (.bin .mul (.cst (.int 2)) (.b1 .abs (.loc 3))) (.b1 .int (.cmp .lt (.loc 3) (.cst (.int 0))))))
    (.setx (.loc 2) (.cst (.str "state")) (.bin .mod (.b1 .int (.bin .add (.bin .mul (.bin .add (.bin .add (.idx (.loc 2) (.cst (.str "state"))) (.loc 4)) (.cst (.int 1))) (.cst (.int 1181783497276652981))) (.cst (.int 521288629)))) (.cst (.int 2305843009213693951)))))))
    (.ret (.loc 2))))⟩
def dfDraw : Df := ⟨5, 2, false, (.seq (.ite (.cmp .lt (.loc 1) (.cst (.int 2))) (.ret (.cst (.int 0))) .skip)
    (.seq (.ite (.cmp .ne (.idx (.loc 0) (.cst (.str "deep"))) (.lst .nil)) (.seq (.unp (.nm 4) (.meth .pop (.idx (.loc 0) (.cst (.str "deep"))) .nil))
    (.seq (.ite (.cmp .ge (.loc 4) (.loc 1)) (.ex (.meth .append (.idx (.loc 0) (.cst (.str "deep"))) (.cons (.bin .fdiv (.loc 4) (.loc 1)) .nil))) .skip)
    (.ret (.bin .mod (.b1 .int (.loc 4)) (.loc 1))))) .skip)
    (.seq (.unp (.nm 2) (.bin .mod (.b1 .int (.bin .add (.bin .mul (.idx (.loc 0) (.cst (.str "state"))) (.cst (.int 1181783497276652981))) (.cst (.int 88172645463325)))) (.cst (.int 2305843009213693951))))
    (.seq (.setx (.loc 0) (.cst (.str "state")) (.loc 2))
    (.seq (.unp (.nm 3) (.bin .mod (.b1 .int (.bin .add (.bin .add (.bin .mul (.loc 2) (.loc 2)) (.bin .mul (.cst (.int 374761393)) (.loc 2))) (.cst (.int 11)))) (.cst (.int 2305843009213693921))))
    (.ret (.bin .mod (.b1 .int (.bin .fdiv (.loc 3) (.cst (.int 1048576)))) (.loc 1))))))))⟩
def dfPick (i_draw : Nat) : Df := ⟨2, 2, false, (.ret (.idx (.loc 1) (.call i_draw (.cons (.loc 0) (.cons (.b1 .len (.loc 1)) .nil)))))⟩
def dfSame : Df := ⟨2, 2, false, (.ret (.cmp .eq (.b1 .repr (.loc 0)) (.b1 .repr (.loc 1))))⟩
def dfDet : Df := ⟨2, 2, false, (.ret (.bin .sub (.bin .mul (.idx (.loc 0) (.cst (.int 0))) (.idx (.loc 1) (.cst (.int 1)))) (.bin .mul (.idx (.loc 0) (.cst (.int 1))) (.idx (.loc 1) (.cst (.int 0))))))⟩
def dfLess : Df := ⟨2, 2, false, (.ret (.tup (.cons (.bin .sub (.idx (.loc 0) (.cst (.int 0))) (.idx (.loc 1) (.cst (.int 0)))) (.cons (.bin .sub (.idx (.loc 0) (.cst (.int 1))) (.idx (.loc 1) (.cst (.int 1)))) .nil))))⟩
def dfChain (i_det i_less : Nat) : Df := ⟨3, 1, false, (.seq (.unp (.nm 1) (.alc (.lst .nil)))
    (.seq (.for_ (.nm 2) (.loc 0) (.seq (.whl (.and (.cmp .gt (.b1 .len (.loc 1)) (.cst (.int 1))) (.cmp .le (.call i_det (.cons (.call i_less (.cons (.idx (.loc 1) (.neg (.cst (.int 1)))) (.cons (.idx (.loc 1) (.neg (.cst (.int 2)))) .nil))) (.cons (.call i_less (.cons (.loc 2) (.cons (.idx (.loc 1) (.neg (.cst (.int 1)))) .nil))) .nil))) (.cst (.int 0)))) (.ex (.meth .pop (.loc 1) .nil)))
    (.ex (.meth .append (.loc 1) (.cons (.loc 2) .nil)))))
    (.ret (.loc 1))))⟩
def dfHull (i_unlike i_chain : Nat) : Df := ⟨4, 1, false, (.seq (.unp (.nm 1) (.call i_unlike (.cons (.loc 0) .nil)))
    (.seq (.ite (.cmp .lt (.b1 .len (.loc 1)) (.cst (.int 3))) (.ret (.b1 .tuple (.loc 1))) .skip)
    (.seq (.par [2, 3] (.cons (.call i_chain (.cons (.loc 1) .nil)) (.cons (.call i_chain (.cons (.rev (.loc 1)) .nil)) .nil)))
    (.ret (.b1 .tuple (.bin .add (.slh (.loc 2) (.neg (.cst (.int 1)))) (.slh (.loc 3) (.neg (.cst (.int 1))))))))))⟩
def dfPolygon (i_draw i_hull : Nat) : Df := ⟨7, 3, false, (.seq (.for_ (.nm 3) (.rng1 (.cst (.int 6))) (.seq (.set 4 (.comp [6] (.nm 6) (.rng1 (.bin .add (.cst (.int 3)) (.call i_draw (.cons (.loc 0) (.cons (.bin .sub (.loc 2) (.cst (.int 2))) .nil))))) (.cst (.bl true)) (.tup (.cons (.call i_draw (.cons (.loc 0) (.cons (.loc 1) .nil))) (.cons (.call i_draw (.cons (.loc 0) (.cons (.loc 1) .nil))) .nil)))))
    (.seq (.unp (.nm 5) (.call i_hull (.cons (.loc 4) .nil)))
    (.ite (.chain .le .le (.cst (.int 3)) (.b1 .len (.loc 5)) (.cst (.int 12))) (.ret (.loc 5)) .skip))))
    (.ret (.tup (.cons (.tup (.cons (.cst (.int 0)) (.cons (.cst (.int 0)) .nil))) (.cons (.tup (.cons (.cst (.int 1)) (.cons (.cst (.int 0)) .nil))) (.cons (.tup (.cons (.cst (.int 0)) (.cons (.cst (.int 1)) .nil))) .nil))))))⟩
def dfLed : Df := ⟨8, 2, false, (.seq (.unp (.tp (.cons (.nm 2) (.cons (.nm 3) (.cons (.nm 4) (.cons (.nm 5) (.cons (.nm 6) (.cons (.nm 7) .nil))))))) (.loc 0))
    (.ret (.tup (.cons (.bin .add (.bin .add (.bin .mul (.loc 2) (.idx (.loc 1) (.cst (.int 0)))) (.bin .mul (.loc 3) (.idx (.loc 1) (.cst (.int 1))))) (.loc 6)) (.cons (.bin .add (.bin .add (.bin .mul (.loc 4) (.idx (.loc 1) (.cst (.int 0)))) (.bin .mul (.loc 5) (.idx (.loc 1) (.cst (.int 1))))) (.loc 7)) .nil)))))⟩
def dfBehind : Df := ⟨14, 2, false, (.seq (.unp (.tp (.cons (.nm 2) (.cons (.nm 3) (.cons (.nm 4) (.cons (.nm 5) (.cons (.nm 6) (.cons (.nm 7) .nil))))))) (.loc 0))
    (.seq (.unp (.tp (.cons (.nm 8) (.cons (.nm 9) (.cons (.nm 10) (.cons (.nm 11) (.cons (.nm 12) (.cons (.nm 13) .nil))))))) (.loc 1))
    (.ret (.tup (.cons (.bin .add (.bin .mul (.loc 8) (.loc 2)) (.bin .mul (.loc 9) (.loc 4))) (.cons (.bin .add (.bin .mul (.loc 8) (.loc 3)) (.bin .mul (.loc 9) (.loc 5))) (.cons (.bin .add (.bin .mul (.loc 10) (.loc 2)) (.bin .mul (.loc 11) (.loc 4))) (.cons (.bin .add (.bin .mul (.loc 10) (.loc 3)) (.bin .mul (.loc 11) (.loc 5))) (.cons (.bin .add (.bin .add (.bin .mul (.loc 8) (.loc 6)) (.bin .mul (.loc 9) (.loc 7))) (.loc 12)) (.cons (.bin .add (.bin .add (.bin .mul (.loc 10) (.loc 6)) (.bin .mul (.loc 11) (.loc 7))) (.loc 13)) .nil))))))))))⟩
def dfInOrder (i_det : Nat) : Df := ⟨5, 1, false, (.seq (.unp (.nm 1) (.b1 .list (.loc 0)))
    (.seq (.ite (.cmp .lt (.b1 .sum (.comp [3, 4] (.tp (.cons (.nm 3) (.cons (.nm 4) .nil))) (.zip (.loc 1) (.bin .add (.sll (.loc 1) (.cst (.int 1))) (.slh (.loc 1) (.cst (.int 1))))) (.cst (.bl true)) (.call i_det (.cons (.loc 3) (.cons (.loc 4) .nil))))) (.cst (.int 0))) (.unp (.nm 1) (.rev (.loc 1))) .skip)
    (.seq (.unp (.nm 2) (.meth .index (.loc 1) (.cons (.b1 .min (.loc 1)) .nil)))
    (.ret (.b1 .tuple (.bin .add (.sll (.loc 1) (.loc 2)) (.slh (.loc 1) (.loc 2))))))))⟩
def dfLedPolygon (i_in_order i_led : Nat) : Df := ⟨3, 2, false, (.ret (.call i_in_order (.cons (.comp [2] (.nm 2) (.loc 1) (.cst (.bl true)) (.call i_led (.cons (.loc 0) (.cons (.loc 2) .nil)))) .nil)))⟩
def dfFrame (i_draw i_behind i_pick : Nat) : Df := ⟨7, 2, false, (.seq (.unp (.nm 2) (.tup (.cons (.cst (.int 1)) (.cons (.cst (.int 0)) (.cons (.cst (.int 0)) (.cons (.cst (.int 1)) (.cons (.cst (.int 0)) (.cons (.cst (.int 0)) .nil))))))))
    (.seq (.for_ (.nm 3) (.rng1 (.bin .add (.cst (.int 1)) (.call i_draw (.cons (.loc 0) (.cons (.cst (.int 3)) .nil))))) (.seq (.unp (.nm 5) (.bin .sub (.call i_draw (.cons (.loc 0) (.cons (.bin .add (.bin .mul (.cst (.int 2)) (.loc 1)) (.cst (.int 1))) .nil))) (.loc 1)))
    (.seq (.unp (.nm 2) (.call i_behind (.cons (.loc 2) (.cons (.call i_pick (.cons (.loc 0) (.cons (.lst (.cons (.tup (.cons (.cst (.int 1)) (.cons (.loc 5) (.cons (.cst (.int 0)) (.cons (.cst (.int 1)) (.cons (.cst (.int 0)) (.cons (.cst (.int 0)) .nil))))))) (.cons (.tup (.cons (.cst (.int 1)) (.cons (.cst (.int 0)) (.cons (.loc 5) (.cons (.cst (.int 1)) (.cons (.cst (.int 0)) (.cons (.cst (.int 0)) .nil))))))) (.cons (.tup (.cons (.cst (.int 0)) (.cons (.cst (.int 1)) (.cons (.cst (.int 1)) (.cons (.cst (.int 0)) (.cons (.cst (.int 0)) (.cons (.cst (.int 0)) .nil))))))) .nil)))) .nil))) .nil))))
    (.unp (.nm 2) (.ife (.cmp .lt (.b1 .max (.comp [6] (.nm 6) (.slh (.loc 2) (.cst (.int 4))) (.cst (.bl true)) (.b1 .abs (.loc 6)))) (.cst (.int 3000))) (.loc 2) (.tup (.cons (.cst (.int 1)) (.cons (.loc 5) (.cons (.cst (.int 0)) (.cons (.cst (.int 1)) (.cons (.cst (.int 0)) (.cons (.cst (.int 0)) .nil))))))))))))
    (.seq (.unp (.nm 4) (.call i_pick (.cons (.loc 0) (.cons (.lst (.cons (.cst (.int 1)) (.cons (.cst (.int 5)) (.cons (.cst (.int 400000)) .nil)))) .nil))))
    (.ret (.call i_behind (.cons (.loc 2) (.cons (.tup (.cons (.cst (.int 1)) (.cons (.cst (.int 0)) (.cons (.cst (.int 0)) (.cons (.cst (.int 1)) (.cons (.bin .sub (.call i_draw (.cons (.loc 0) (.cons (.bin .mul (.cst (.int 2)) (.loc 4)) .nil))) (.loc 4)) (.cons (.bin .sub (.call i_draw (.cons (.loc 0) (.cons (.bin .mul (.cst (.int 2)) (.loc 4)) .nil))) (.loc 4)) .nil))))))) .nil)))))))⟩
def dfGroup (i_behind : Nat) : Df := ⟨6, 1, false, (.seq (.unp (.nm 1) (.idx (.dct [(.inl 1), (.inl 2), (.inl 3), (.inl 4), (.inl 6)] (.cons (.tup (.cons (.cst (.int 1)) (.cons (.cst (.int 0)) (.cons (.cst (.int 0)) (.cons (.cst (.int 1)) .nil))))) (.cons (.tup (.cons (.neg (.cst (.int 1))) (.cons (.cst (.int 0)) (.cons (.cst (.int 0)) (.cons (.neg (.cst (.int 1))) .nil))))) (.cons (.tup (.cons (.cst (.int 0)) (.cons (.neg (.cst (.int 1))) (.cons (.cst (.int 1)) (.cons (.neg (.cst (.int 1))) .nil))))) (.cons (.tup (.cons (.cst (.int 0)) (.cons (.neg (.cst (.int 1))) (.cons (.cst (.int 1)) (.cons (.cst (.int 0)) .nil))))) (.cons (.tup (.cons (.cst (.int 0)) (.cons (.neg (.cst (.int 1))) (.cons (.cst (.int 1)) (.cons (.cst (.int 1)) .nil))))) .nil)))))) (.idx (.loc 0) (.cst (.int 0)))))
    (.seq (.par [3, 4] (.cons (.alc (.lst .nil)) (.cons (.tup (.cons (.cst (.int 1)) (.cons (.cst (.int 0)) (.cons (.cst (.int 0)) (.cons (.cst (.int 1)) (.cons (.cst (.int 0)) (.cons (.cst (.int 0)) .nil))))))) .nil)))
    (.seq (.for_ (.nm 2) (.rng1 (.idx (.loc 0) (.cst (.int 0)))) (.seq (.ex (.meth .append (.loc 3) (.cons (.loc 4) .nil)))
    (.unp (.nm 4) (.call i_behind (.cons (.loc 4) (.cons (.bin .add (.loc 1) (.tup (.cons (.cst (.int 0)) (.cons (.cst (.int 0)) .nil)))) .nil))))))
    (.seq (.ite (.idx (.loc 0) (.cst (.int 1))) (.unp (.nm 3) (.alc (.bin .add (.loc 3) (.comp [5] (.nm 5) (.loc 3) (.cst (.bl true)) (.call i_behind (.cons (.loc 5) (.cons (.tup (.cons (.cst (.int 0)) (.cons (.cst (.int 1)) (.cons (.cst (.int 1)) (.cons (.cst (.int 0)) (.cons (.cst (.int 0)) (.cons (.cst (.int 0)) .nil))))))) .nil))))))) .skip)
    (.ret (.loc 3))))))⟩
def dfEven (i_draw i_group i_led i_hull : Nat) : Df := ⟨9, 3, false, (.seq (.for_ (.nm 3) (.rng1 (.cst (.int 8))) (.seq (.unp (.nm 4) (.lst .nil))
    (.seq (.for_ (.nm 5) (.rng1 (.bin .add (.cst (.int 1)) (.call i_draw (.cons (.loc 0) (.cons (.cst (.int 2)) .nil))))) (.seq (.unp (.nm 7) (.tup (.cons (.bin .sub (.call i_draw (.cons (.loc 0) (.cons (.bin .add (.bin .mul (.cst (.int 2)) (.loc 2)) (.cst (.int 1))) .nil))) (.loc 2)) (.cons (.bin .sub (.call i_draw (.cons (.loc 0) (.cons (.bin .add (.bin .mul (.cst (.int 2)) (.loc 2)) (.cst (.int 1))) .nil))) (.loc 2)) .nil))))
    (.unp (.nm 4) (.bin .add (.loc 4) (.comp [8] (.nm 8) (.call i_group (.cons (.loc 1) .nil)) (.cst (.bl true)) (.call i_led (.cons (.loc 8) (.cons (.loc 7) .nil))))))))
    (.seq (.unp (.nm 6) (.call i_hull (.cons (.loc 4) .nil)))
    (.ite (.chain .le .le (.cst (.int 3)) (.b1 .len (.loc 6)) (.cst (.int 12))) (.ret (.loc 6)) .skip)))))
    (.ret (.tup (.cons (.tup (.cons (.neg (.cst (.int 1))) (.cons (.cst (.int 0)) .nil))) (.cons (.tup (.cons (.cst (.int 0)) (.cons (.neg (.cst (.int 1))) .nil))) (.cons (.tup (.cons (.cst (.int 1)) (.cons (.cst (.int 0)) .nil))) (.cons (.tup (.cons (.cst (.int 0)) (.cons (.cst (.int 1)) .nil))) .nil)))))))⟩
def dfUnlike : Df := ⟨3, 1, false, (.seq (.unp (.nm 1) (.alc (.lst .nil)))
    (.seq (.for_ (.nm 2) (.b1 .sorted (.loc 0)) (.ite (.or (.cmp .eq (.loc 1) (.lst .nil)) (.cmp .ne (.idx (.loc 1) (.neg (.cst (.int 1)))) (.loc 2))) (.ex (.meth .append (.loc 1) (.cons (.loc 2) .nil))) .skip))
    (.ret (.loc 1))))⟩
def dfKind (i_pick i_draw : Nat) : Df := ⟨1, 1, false, (.ret (.tup (.cons (.call i_pick (.cons (.loc 0) (.cons (.lst (.cons (.cst (.int 1)) (.cons (.cst (.int 2)) (.cons (.cst (.int 3)) (.cons (.cst (.int 4)) (.cons (.cst (.int 6)) .nil)))))) .nil))) (.cons (.cmp .eq (.call i_draw (.cons (.loc 0) (.cons (.cst (.int 2)) .nil))) (.cst (.int 1))) .nil))))⟩
def dfSome (i_draw i_polygon i_pick i_even i_kind : Nat) : Df := ⟨1, 1, false, (.seq (.ite (.cmp .eq (.call i_draw (.cons (.loc 0) (.cons (.cst (.int 3)) .nil))) (.cst (.int 0))) (.ret (.call i_polygon (.cons (.loc 0) (.cons (.call i_pick (.cons (.loc 0) (.cons (.lst (.cons (.cst (.int 3)) (.cons (.cst (.int 6)) (.cons (.cst (.int 12)) .nil)))) .nil))) (.cons (.cst (.int 9)) .nil))))) .skip)
    (.ret (.call i_even (.cons (.loc 0) (.cons (.call i_kind (.cons (.loc 0) .nil)) (.cons (.call i_pick (.cons (.loc 0) (.cons (.lst (.cons (.cst (.int 1)) (.cons (.cst (.int 2)) (.cons (.cst (.int 4)) .nil)))) .nil))) .nil))))))⟩

abbrev HH (Y : Sto) (deep : List Int) (Z : Sto) (st : Int) : Sto := .dk [(.inr "deep", .ref (Y.length + 1)), (.inr "state", .int st)] :: (Y ++ .lst (deep.map D.int) :: Z)
def flatC (c : Cell) : Prop := ∃ l : List Int, c = .lst (l.map D.int)
/-- the machine -/
def GI (G : Sto) : Prop := ∃ (Y : Sto) (deep : List Int) (Z : Sto) (st : Int), G = HH Y deep Z st ∧ deep.length ≤ 63 ∧ (∀ z ∈ deep, 0 ≤ z ∧ bd 1048576 z) ∧ 0 ≤ st ∧ st < 2305843009213693951 ∧ (∀ c ∈ Y, flatC c) ∧ ∀ c ∈ Z, flatC c
theorem GI.pos {G : Sto} (h : GI G) : 2 ≤ G.length := by obtain ⟨Y, d, Z, _, rfl, _⟩ := h; simp; omega
theorem flatC.lt {c : Cell} (h : flatC c) (n : Nat) : cellLt n c = true := by
  obtain ⟨l, rfl⟩ := h
  simp [cellLt, ltF]
theorem GI.lt {n : Nat} {G : Sto} (h : GI G) (hn : G.length ≤ n) : G.all (cellLt n) = true := by
  obtain ⟨Y, d, Z, st, rfl, _, _, _, _, hY, hZ⟩ := h
  simp only [List.all_cons, List.all_append, Bool.and_eq_true, List.all_eq_true]
  refine ⟨?_, fun c hc => (hY c hc).lt n, flatC.lt ⟨d, rfl⟩ n, fun c hc => (hZ c hc).lt n⟩
  simp [cellLt, ltF]
  simp at hn; omega
local macro_rules | `(tactic| infer_instance) => `(tactic| first | ((with_reducible apply e_loc); (repeat ((with_reducible refine look_ne ?_ ?_); decide)); (first | ((with_reducible refine look_eq ?_); (repeat (first | (with_reducible refine lt_set ?_) | exact Nat.le_of_ble_eq_true rfl))) | exact rfl)) | (with_reducible first | refine e_cst ?_ | refine e_bin ?_ | refine e_idx ?_ | refine e_call ?_ | refine wl_cons ?_ | refine wl_nil ?_ | refine e_tup ?_ | refine e_b1 ?_ | refine e_cmp ?_ | refine e_lst ?_ | refine e_neg ?_ | refine e_not ?_ | refine e_and ?_ | refine e_or ?_ | refine e_ife ?_ | refine e_chain ?_ | refine e_isa ?_ | refine e_sl ?_ | refine e_slh ?_ | refine e_sll ?_ | refine e_sla ?_ | refine e_rev ?_ | refine e_alc ?_ | refine e_callK ?_ | refine e_b2 ?_ | refine e_rng1 ?_ | refine e_rng2 ?_ | refine e_enm ?_ | refine e_zip ?_ | refine e_comp ?_ | refine e_meth ?_ | refine e_frz0 ?_ | refine e_frz1 ?_ | refine e_sset ?_ | refine e_sdct ?_ | refine e_lzip ?_ | refine e_upr ?_ | refine e_dct ?_ | refine s_seq ?_ | refine s_set ?_ | refine s_unp ?_ | refine s_par ?_ | refine s_ret ?_ | refine s_ite ?_ | refine s_for ?_ | refine s_ex ?_ | refine s_skip ?_ | refine s_setx ?_ | refine s_cont ?_ | refine s_retN ?_ | refine s_raise0 ?_ | refine s_raise1 ?_ | refine wo_lt ?_ | refine wo_le ?_ | refine wo_gt ?_ | refine wo_ge ?_ | refine wo_eqi ?_ | refine wo_nei ?_ | refine wo_of litems_new ?_ | refine wo_of items_new ?_ | refine wo_of b1len_new ?_ | refine wo_of b1tuple_new ?_ | refine wo_of b1list_new ?_ | refine wo_of slice_new ?_ | refine wo_isN ?_ | refine wo_notN ?_ | refine wo_slT ?_ | refine wo_slL ?_ | refine wo_lenT ?_ | refine wo_lenL ?_ | refine wo_tupT ?_ | refine wo_tupL ?_ | refine wo_lstT ?_ | refine wo_lstL ?_) | (with_reducible refine wo_dbl1 ?_) | (with_reducible refine wo_eqs ?_) | (with_reducible refine wo_nes ?_) | ((with_reducible refine wo_eqsN ?_ ?_); (decide +kernel)) | ((with_reducible refine wo_nesN ?_ ?_); (decide +kernel)) | ((with_reducible refine wo_eqn ?_ ?_ ?_); exact rfl; exact rfl) | ((with_reducible refine wo_nen ?_ ?_ ?_); exact rfl; exact rfl) | ((with_reducible refine wo_inT ?_ ?_ ?_); exact rfl; exact rfl) | ((with_reducible refine wo_ninT ?_ ?_ ?_); exact rfl; exact rfl) | ((with_reducible refine wo_modE ?_ ?_); omega) | ((with_reducible refine wo_fdivE ?_ ?_); omega) | ((with_reducible refine wo_mulS ?_ ?_); omega) | ((with_reducible refine wo_mul ?_ ?_); exact mulOk_bd (by (repeat (first | assumption | (with_reducible apply bd_mul) | (with_reducible apply bd_add) | (with_reducible apply bd_sub) | (with_reducible apply bd_neg) | (with_reducible apply bd_abs) | exact bd80 (by omega)))) (by (repeat (first | assumption | (with_reducible apply bd_mul) | (with_reducible apply bd_add) | (with_reducible apply bd_sub) | (with_reducible apply bd_neg) | (with_reducible apply bd_abs) | exact bd80 (by omega)))) (by omega)) | ((with_reducible apply wo_of); exact rfl) | ((with_reducible refine wo_reprN ?_ ?_); exact sh_fin (by (repeat (first | assumption | (with_reducible apply sh_tup) | (with_reducible apply sh_lst) | (with_reducible apply shl_cons) | (with_reducible apply shl_app) | (with_reducible apply shl_nil) | (with_reducible apply sh_non) | (with_reducible apply sh_bl) | ((with_reducible apply sh_int); (repeat (first | assumption | (with_reducible apply bd_mul) | (with_reducible apply bd_add) | (with_reducible apply bd_sub) | (with_reducible apply bd_neg) | (with_reducible apply bd_abs) | exact bd80 (by omega))); omega) | ((with_reducible apply sh_str); decide)))) (by decide)) | ((with_reducible refine wo_repr ?_ ?_); exact sh_fin (by (repeat (first | assumption | (with_reducible apply sh_tup) | (with_reducible apply sh_lst) | (with_reducible apply shl_cons) | (with_reducible apply shl_app) | (with_reducible apply shl_nil) | (with_reducible apply sh_non) | (with_reducible apply sh_bl) | ((with_reducible apply sh_int); (repeat (first | assumption | (with_reducible apply bd_mul) | (with_reducible apply bd_add) | (with_reducible apply bd_sub) | (with_reducible apply bd_neg) | (with_reducible apply bd_abs) | exact bd80 (by omega))); omega) | ((with_reducible apply sh_str); decide)))) (by decide)) | (with_reducible refine wif_t ?_) | (with_reducible refine wif_f ?_) | refine wif_t ?_ | refine wif_f ?_ | ((with_reducible refine and_rng ?_ ?_); omega) | ((with_reducible refine and_rng2 ?_ ?_); omega) | (refine And.intro (Nat.le_of_ble_eq_true rfl) ?_) | refine And.intro rfl ?_)
variable {Y Z R : Sto} {deep : List Int} {st x z : Int}
theorem at_deep : (HH Y deep Z st)[Y.length + 1]? = some (.lst (deep.map D.int)) := by simp [HH]
theorem set_at {c : Cell} : (HH Y deep Z st).set (Y.length + 1) c = .dk [(.inr "deep", .ref (Y.length + 1)), (.inr "state", .int st)] :: (Y ++ c :: Z) := by simp [HH, List.set_append]
theorem idx_deep : idx (HH Y deep Z st) (.ref 0) (.str "deep") = some (.ref (Y.length + 1)) := rfl
theorem idx_state : idx (HH Y deep Z st) (.ref 0) (.str "state") = some (.int st) := rfl
theorem set_state : setx (HH Y deep Z st) (.ref 0) (.str "state") (.int x) = some (HH Y deep Z x) := rfl
theorem pop_deep : meth (HH Y (deep ++ [z]) Z st) .pop (.ref (Y.length + 1)) [] = some (.int z, HH Y deep Z st) := by
  simp only [meth]
  rw [at_deep]
  simp only [List.map_append, List.map_cons, List.map_nil]
  simp [set_at]
theorem app_deep (h : deep.length < 1000) : meth (HH Y deep Z st) .append (.ref (Y.length + 1)) [.int z] = some (.non, HH Y (deep ++ [z]) Z st) := by
  simp only [meth]
  rw [at_deep]
  simp only [List.length_map]
  rw [if_pos (by unfold szOk; omega)]
  simp [set_at]
theorem litems_deep : litems (HH Y deep Z st) (.ref (Y.length + 1)) = some (deep.map D.int) := by
  simp only [litems]
  rw [at_deep]
local macro_rules | `(tactic| infer_instance) => `(tactic| first | (with_reducible refine wo_of litems_deep ?_) | (with_reducible refine wo_of idx_deep ?_) | (with_reducible refine wo_of idx_state ?_) | (with_reducible refine wo_of set_state ?_) | (with_reducible refine wo_of pop_deep ?_))
theorem ne_deep {QB : Bool → Sto → Prop} (hq : QB (!deep.isEmpty) (HH Y deep Z st)) : Wo (cmp (HH Y deep Z st) Cop.ne (D.ref (Y.length + 1)) (D.lst [])) (HH Y deep Z st) QB := by
  refine wo_of (d := !deep.isEmpty) ?_ hq
  have e : py (HH Y deep Z st) (.ref (Y.length + 1)) = some (.list (deep.map PyData.int)) := by
    show pyF (HH Y deep Z st) 24 (.ref (Y.length + 1)) = _
    rw [pyF, at_deep]
    show (mapO (pyF _ 23) (deep.map D.int)).map PyData.list = _
    rw [GW.py_ints]; rfl
  have e2 : py (HH Y deep Z st) (.lst []) = some (.list []) := rfl
  have pl : (PyData.list (deep.map PyData.int)).plain = true := by
    rw [PyData.plain]
    exact GW.plain_all (by simp [PyData.plain])
  simp only [cmp, eqD, e, e2]
  rw [if_pos ⟨pl, by simp [PyData.plain, PyData.plainAll]⟩]
  cases deep <;> simp [PyData.eqv, PyData.eqvAll, bnot]
theorem hh_app : HH Y deep Z st ++ R = HH Y deep (Z ++ R) st := by simp [HH]
/-- a number below m -/
theorem draw_ok {T : List Df} {f : Nat} (hT : T[f]? = some dfDraw) {k : Nat} {G R : Sto} {m : Int} (g : GI G) (h1 : 1 ≤ m) (h2 : m ≤ 1000000000) :
    ∃ d S', callN T (k + 1) f [.ref 0, .int m] (G ++ R) = .ok d S' ∧ ∃ r G', d = .int r ∧ S' = G' ++ R ∧ 0 ≤ r ∧ r < m ∧ GI G' ∧ G'.length = G.length := by
  obtain ⟨Y, deep, Z, st, rfl, hl, hz, hs0, hs1, hY, hZ⟩ := g
  refine ex_of_wc (wc_run hT rfl fun N K R' X hN hR => ?_)
  have fin0 : ∀ (r : Int) (deep : List Int) (st : Int), 0 ≤ r → r < m → deep.length ≤ 63 → (∀ z ∈ deep, 0 ≤ z ∧ bd 1048576 z) → 0 ≤ st → st < 2305843009213693951 → R' (.int r) (HH Y deep (Z ++ R) st) := fun r deep st r0 r1 a b c d =>
    hR _ _ (wx_len (by simp) ⟨_, HH Y deep Z st, rfl, hh_app.symm, r0, r1, ⟨_, _, _, _, rfl, a, b, c, d, hY, hZ⟩, by simp⟩)
  clear hR hN
  rw [hh_app]
  (repeat infer_instance)
  refine wif_d (fun hc => ?_) fun hc => ?_
  · (repeat infer_instance)
    exact fin0 _ _ _ (by omega) (by omega) hl hz hs0 hs1
  (repeat infer_instance)
  refine ne_deep ?_
  rcases List.eq_nil_or_concat deep with rfl | ⟨deep, z, rfl⟩
  · (repeat infer_instance)
    have h1 := emod_lt (a := ((st * 1181783497276652981 + 88172645463325) % 2305843009213693951 * ((st * 1181783497276652981 + 88172645463325) % 2305843009213693951) + 374761393 * ((st * 1181783497276652981 + 88172645463325) % 2305843009213693951) + 11) % 2305843009213693921 / 1048576) (b := m) (by omega)
    exact fin0 _ _ _ h1.1 h1.2 hl hz (by omega) (by omega)
  · have hz' := hz z (by simp)
    have e : (!(deep.concat z).isEmpty) = true := by simp
    rw [e]
    simp only [List.concat_eq_append] at hl hz ⊢
    (repeat infer_instance)
    have hl' : deep.length ≤ 62 := by simp at hl; omega
    have hz2 : ∀ z ∈ deep, 0 ≤ z ∧ bd 1048576 z := fun y hy => hz y (by simp [hy])
    have hm := emod_lt (a := z) (b := m) (by omega)
    refine wif_d (fun hc => ?_) fun hc => ?_
    · (repeat infer_instance)
      refine wo_of (app_deep (by omega)) ?_
      (repeat infer_instance)
      refine fin0 _ _ _ hm.1 hm.2 (by simp; omega) (fun y hy => ?_) hs0 hs1
      rcases List.mem_append.mp hy with hy | hy
      · exact hz2 y hy
      · obtain rfl := List.mem_singleton.mp hy
        exact ⟨Int.ediv_nonneg hz'.1 (by omega), bd_ediv hz'.2 (by omega)⟩
    · (repeat infer_instance)
      exact fin0 _ _ _ hm.1 hm.2 (by omega) hz2 hs0 hs1
/-- one of a row -/
theorem pick_ok {T : List Df} {f j : Nat} (hT : T[f]? = some (dfPick j)) (hj : T[j]? = some dfDraw) {k : Nat} {G R : Sto} {x : D} {ds : List D} (g : GI G) (hx : ∀ G' : Sto, GI G' → G'.length = G.length → items (G' ++ R) x = some ds ∧ b1 (G' ++ R) .len x = some (.int ds.length)) (h1 : ds ≠ []) (h2 : ds.length ≤ 1000000000) :
    ∃ d S', callN T (k + 2) f [.ref 0, x] (G ++ R) = .ok d S' ∧ ∃ G', d ∈ ds ∧ S' = G' ++ R ∧ GI G' ∧ G'.length = G.length := by
  refine ex_of_wc (wc_run hT rfl fun N K R' X hN hR => ?_)
  (repeat infer_instance)
  refine wo_of (hx G g rfl).2 ?_
  (repeat infer_instance)
  have hp : 0 < ds.length := List.length_pos_iff.mpr h1
  refine wc_ex (draw_ok hj (R := R) g (m := ds.length) (by omega) (by omega)) ?_
  rintro _ _ ⟨r, G', rfl, rfl, r0, r1, g', gl⟩
  obtain ⟨n, rfl⟩ := Int.eq_ofNat_of_zero_le r0
  have hn : n < ds.length := by omega
  refine wo_idx (hx G' g' gl).1 (atI_nat (List.getElem?_eq_getElem hn)) ?_
  exact hR _ _ (wx_len (by simp [gl]) ⟨G', List.getElem_mem hn, rfl, g', gl⟩)
theorem draw_ok0 {T : List Df} {f : Nat} (hT : T[f]? = some dfDraw) {k : Nat} {G : Sto} {m : Int} (g : GI G) (h1 : 1 ≤ m) (h2 : m ≤ 1000000000) :
    ∃ d S', callN T (k + 1) f [.ref 0, .int m] G = .ok d S' ∧ ∃ r, d = .int r ∧ 0 ≤ r ∧ r < m ∧ GI S' ∧ S'.length = G.length := by
  obtain ⟨d, S', h, r, G', e1, e2, h3, h4, h5, h6⟩ := draw_ok hT (k := k) (R := []) g h1 h2
  rw [List.append_nil] at h e2
  subst e2
  exact ⟨d, S', h, r, e1, h3, h4, h5, h6⟩
theorem pick_ok0 {T : List Df} {f j : Nat} (hT : T[f]? = some (dfPick j)) (hj : T[j]? = some dfDraw) {k : Nat} {G : Sto} {ds : List D} (g : GI G) (h1 : ds ≠ []) (h2 : ds.length ≤ 1000000000) :
    ∃ d S', callN T (k + 2) f [.ref 0, .lst ds] G = .ok d S' ∧ d ∈ ds ∧ GI S' ∧ S'.length = G.length := by
  obtain ⟨d, S', h, G', e1, e2, h3, h4⟩ := pick_ok hT hj (k := k) (R := []) g (x := .lst ds) (ds := ds) (fun _ _ _ => ⟨rfl, rfl⟩) h1 h2
  rw [List.append_nil] at h e2
  subst e2
  exact ⟨d, S', h, e1, h3, h4⟩
theorem set_deep {d2 : List Int} : setx (HH Y deep Z st ++ [.lst (d2.map D.int)]) (.ref 0) (.str "deep") (.ref (HH Y deep Z st).length) = some (HH (Y ++ .lst (deep.map D.int) :: Z) d2 [] st) := by
  have e : (HH Y deep Z st).length = (Y ++ .lst (deep.map D.int) :: Z).length + 1 := by simp [HH]
  rw [e]
  simp [setx, HH, putK, asKey]
  exact ⟨by unfold szOk; omega, by decide⟩
theorem deck_ok {T : List Df} {f : Nat} (hT : T[f]? = some dfDeck) {k : Nat} {ns : List Int} {seed : Int} (hl : ns.length ≤ 63) (hz : ∀ z ∈ ns, PySem.Builtin.Int.intBits z ≤ 1048576) (hs : 0 ≤ seed ∧ seed ≤ 1000) :
    ∃ d S', callN T (k + 1) f [.fz (ns.map D.int), .int seed] [] = .ok d S' ∧ d = .ref 0 ∧ GI S' := by
  refine ex_of_wc (wc_run hT rfl fun N K R' X hN hR => ?_)
  have hb : ∀ z ∈ ns, bd 1048576 z := fun z h => bits_bd (hz z h)
  have e63 : cut (ns.map D.int) none (some 63) = ns.map D.int := by rw [cut_map]; rw [show (63 : Int) = ((63 : Nat) : Int) from rfl, cut_take, List.take_of_length_le hl]
  (repeat infer_instance)
  refine ⟨⟨rfl, by simp, by simp; decide, rfl⟩, ?_⟩
  rw [e63, List.length_map]
  (repeat infer_instance)
  rw [e63]
  refine f_inv D.int ns rfl (fun i ρ S => ∃ (a b : Option D) (Y : Sto) (deep : List Int) (st : Int), ρ = [some (.fz (ns.map D.int)), some (.int seed), some (.ref 0), a, b] ∧ S = HH Y deep [] st ∧ deep.length ≤ i ∧ (∀ z ∈ deep, 0 ≤ z ∧ bd 1048576 z) ∧ 0 ≤ st ∧ st < 2305843009213693951 ∧ ∀ c ∈ Y, flatC c) ?_ ?_ ?_
  · exact ⟨_, _, [], [], 362436069 + seed * 7919 + ns.length, rfl, rfl, Nat.le_refl _, by simp, by omega, by omega, by simp⟩
  · rintro i z ρ S N' hi ⟨a, b, Y, deep, st, rfl, rfl, hd, hdz, hs0, hs1, hY⟩ hN'
    have hzb := hb z (List.mem_of_getElem? hi)
    have hi' : i < ns.length := (List.getElem?_eq_some_iff.mp hi).1
    obtain ⟨w0, w1⟩ : 0 ≤ (if z < 0 then -z else z) ∧ bd 1048576 (if z < 0 then -z else z) := ⟨by split <;> omega, bd_abs hzb⟩
    have fin : ∀ (Y : Sto) (deep : List Int), deep.length ≤ i + 1 → (∀ z ∈ deep, 0 ≤ z ∧ bd 1048576 z) → (∀ c ∈ Y, flatC c) → ∀ a b x, 0 ≤ x → x < 2305843009213693951 → N' [some (.fz (ns.map D.int)), some (.int seed), some (.ref 0), a, b] (HH Y deep [] x) :=
      fun Y deep h1 h2 h3 a b x h4 h5 => hN' _ _ True.intro ⟨_, _, _, _, _, rfl, rfl, h1, h2, h4, h5, h3⟩
    (repeat infer_instance)
    refine wif_d (fun hc => ?_) fun hc => ?_
    · (repeat infer_instance)
      refine wo_addR (a := [.int (if z < 0 then -z else z)]) (b := deep.map D.int) rfl litems_deep (by simp; omega) ?_
      (repeat infer_instance)
      refine fin (Y ++ [.lst (deep.map D.int)]) ((if z < 0 then -z else z) :: deep) (by simp; omega) (fun y hy => ?_) (fun c hc => ?_) _ _ _ (Int.emod_nonneg _ (by decide)) (Int.emod_lt_of_pos _ (by decide))
      · rcases List.mem_cons.mp hy with rfl | hy
        · exact ⟨w0, w1⟩
        · exact hdz y hy
      · rcases List.mem_append.mp hc with hc | hc
        · exact hY c hc
        · obtain rfl := List.mem_singleton.mp hc
          exact ⟨_, rfl⟩
    · (repeat infer_instance)
      exact fin _ _ (by omega) hdz hY _ _ _ (by omega) (by omega)
  · rintro ρ S ⟨a, b, Y, deep, st, rfl, rfl, hd, hdz, hs0, hs1, hY⟩
    (repeat infer_instance)
    exact hR _ _ (wx_keep ⟨rfl, Y, deep, [], st, rfl, by omega, hdz, hs0, hs1, hY, by simp⟩)
end DECK

set_option linter.all false
set_option maxRecDepth 100000
set_option maxHeartbeats 4000000
set_option pp.deepTerms false
set_option pp.deepTerms.threshold 12
/-! points, hulls, frames of the laws k10 to k18 -/
namespace DECK
open PySem GV GX
open L2 (atI ixN)
local macro_rules | `(tactic| infer_instance) => `(tactic| first | ((with_reducible apply e_loc); (repeat ((with_reducible refine look_ne ?_ ?_); decide)); (first | ((with_reducible refine look_eq ?_); (repeat (first | (with_reducible refine lt_set ?_) | exact Nat.le_of_ble_eq_true rfl))) | exact rfl)) | (with_reducible first | refine e_cst ?_ | refine e_bin ?_ | refine e_idx ?_ | refine e_call ?_ | refine wl_cons ?_ | refine wl_nil ?_ | refine e_tup ?_ | refine e_b1 ?_ | refine e_cmp ?_ | refine e_lst ?_ | refine e_neg ?_ | refine e_not ?_ | refine e_and ?_ | refine e_or ?_ | refine e_ife ?_ | refine e_chain ?_ | refine e_isa ?_ | refine e_sl ?_ | refine e_slh ?_ | refine e_sll ?_ | refine e_sla ?_ | refine e_rev ?_ | refine e_alc ?_ | refine e_callK ?_ | refine e_b2 ?_ | refine e_rng1 ?_ | refine e_rng2 ?_ | refine e_enm ?_ | refine e_zip ?_ | refine e_comp ?_ | refine e_meth ?_ | refine e_frz0 ?_ | refine e_frz1 ?_ | refine e_sset ?_ | refine e_sdct ?_ | refine e_lzip ?_ | refine e_upr ?_ | refine e_dct ?_ | refine s_seq ?_ | refine s_set ?_ | refine s_unp ?_ | refine s_par ?_ | refine s_ret ?_ | refine s_ite ?_ | refine s_for ?_ | refine s_ex ?_ | refine s_skip ?_ | refine s_setx ?_ | refine s_cont ?_ | refine s_retN ?_ | refine s_raise0 ?_ | refine s_raise1 ?_ | refine wo_lt ?_ | refine wo_le ?_ | refine wo_gt ?_ | refine wo_ge ?_ | refine wo_eqi ?_ | refine wo_nei ?_ | refine wo_of litems_new ?_ | refine wo_of items_new ?_ | refine wo_of b1len_new ?_ | refine wo_of b1tuple_new ?_ | refine wo_of b1list_new ?_ | refine wo_of slice_new ?_ | refine wo_isN ?_ | refine wo_notN ?_ | refine wo_slT ?_ | refine wo_slL ?_ | refine wo_lenT ?_ | refine wo_lenL ?_ | refine wo_tupT ?_ | refine wo_tupL ?_ | refine wo_lstT ?_ | refine wo_lstL ?_) | (with_reducible refine wo_dbl1 ?_) | (with_reducible refine wo_eqs ?_) | (with_reducible refine wo_nes ?_) | ((with_reducible refine wo_eqsN ?_ ?_); (decide +kernel)) | ((with_reducible refine wo_nesN ?_ ?_); (decide +kernel)) | ((with_reducible refine wo_eqn ?_ ?_ ?_); exact rfl; exact rfl) | ((with_reducible refine wo_nen ?_ ?_ ?_); exact rfl; exact rfl) | ((with_reducible refine wo_inT ?_ ?_ ?_); exact rfl; exact rfl) | ((with_reducible refine wo_ninT ?_ ?_ ?_); exact rfl; exact rfl) | ((with_reducible refine wo_modE ?_ ?_); omega) | ((with_reducible refine wo_fdivE ?_ ?_); omega) | ((with_reducible refine wo_mulS ?_ ?_); omega) | ((with_reducible refine wo_mul ?_ ?_); exact mulOk_bd (by (repeat (first | assumption | (with_reducible apply bd_mul) | (with_reducible apply bd_add) | (with_reducible apply bd_sub) | (with_reducible apply bd_neg) | (with_reducible apply bd_abs) | exact bd80 (by omega)))) (by (repeat (first | assumption | (with_reducible apply bd_mul) | (with_reducible apply bd_add) | (with_reducible apply bd_sub) | (with_reducible apply bd_neg) | (with_reducible apply bd_abs) | exact bd80 (by omega)))) (by omega)) | ((with_reducible apply wo_of); exact rfl) | ((with_reducible refine wo_reprN ?_ ?_); exact sh_fin (by (repeat (first | assumption | (with_reducible apply sh_tup) | (with_reducible apply sh_lst) | (with_reducible apply shl_cons) | (with_reducible apply shl_app) | (with_reducible apply shl_nil) | (with_reducible apply sh_non) | (with_reducible apply sh_bl) | ((with_reducible apply sh_int); (repeat (first | assumption | (with_reducible apply bd_mul) | (with_reducible apply bd_add) | (with_reducible apply bd_sub) | (with_reducible apply bd_neg) | (with_reducible apply bd_abs) | exact bd80 (by omega))); omega) | ((with_reducible apply sh_str); decide)))) (by decide)) | ((with_reducible refine wo_repr ?_ ?_); exact sh_fin (by (repeat (first | assumption | (with_reducible apply sh_tup) | (with_reducible apply sh_lst) | (with_reducible apply shl_cons) | (with_reducible apply shl_app) | (with_reducible apply shl_nil) | (with_reducible apply sh_non) | (with_reducible apply sh_bl) | ((with_reducible apply sh_int); (repeat (first | assumption | (with_reducible apply bd_mul) | (with_reducible apply bd_add) | (with_reducible apply bd_sub) | (with_reducible apply bd_neg) | (with_reducible apply bd_abs) | exact bd80 (by omega))); omega) | ((with_reducible apply sh_str); decide)))) (by decide)) | (with_reducible refine wif_t ?_) | (with_reducible refine wif_f ?_) | refine wif_t ?_ | refine wif_f ?_ | ((with_reducible refine and_rng ?_ ?_); omega) | ((with_reducible refine and_rng2 ?_ ?_); omega) | (refine And.intro (Nat.le_of_ble_eq_true rfl) ?_) | refine And.intro rfl ?_)
abbrev Pt : Type := Int × Int
def pd (p : Pt) : D := .tup [.int p.1, .int p.2]
def pp (p : Pt) : PyData := .tuple [.int p.1, .int p.2]
def unp : D → Pt
  | .tup [.int x, .int y] => (x, y)
  | _ => (0, 0)
theorem unp_pd (p : Pt) : unp (pd p) = p := rfl
theorem pd_inj {p q : Pt} : (pd p = pd q) = (p = q) := by
  obtain ⟨a, b⟩ := p; obtain ⟨c, d⟩ := q
  simp [pd]
theorem nb_pd (p : Pt) : nb 23 (pd p) = true := rfl
theorem flat_pd (p : Pt) : flat 22 (pd p) = true := rfl
theorem withPy_pts (S : Sto) : ∀ l : List Pt, mapO (withPy S) (l.map pd) = some (l.map fun p => (pd p, pp p))
  | [] => rfl
  | i :: l => by
    have e : withPy S (pd i) = some (pd i, pp i) := rfl
    simp [mapO, e, withPy_pts S l]
theorem alike_pts (l : List Pt) : allAlike (l.map pp) = true := by
  unfold allAlike
  simp only [List.all_eq_true, List.mem_map]
  rintro _ ⟨p, _, rfl⟩ _ ⟨q, _, rfl⟩
  rfl
theorem sort_pts {S : Sto} {x : D} {l : List Pt} (h : litems S x = some (l.map pd)) : ∃ l' : List Pt, l'.Perm l ∧ b1 S .sorted x = some (.lst (l'.map pd)) := by
  have hm : ((l.map fun p => (pd p, pp p)).mergeSort leP).Perm (l.map fun p => (pd p, pp p)) := List.mergeSort_perm _ _
  refine ⟨((l.map fun p => (pd p, pp p)).mergeSort leP).map fun q => unp q.1, ?_, ?_⟩
  · have := hm.map (fun q : D × PyData => unp q.1)
    rw [List.map_map] at this
    simpa [Function.comp_def, unp_pd] using this
  · simp only [b1, h, sortD, withPy_pts]
    rw [if_pos]
    · rw [Option.map_some, List.map_map]
      congr 2
      refine List.map_congr_left fun q hq => ?_
      obtain ⟨p, _, rfl⟩ := List.mem_map.mp (hm.mem_iff.mp hq)
      rfl
    · rw [List.map_map]
      refine ⟨alike_pts l, ?_⟩
      unfold sortable
      rw [Bool.or_eq_true]
      refine .inl ?_
      simp only [List.all_eq_true, List.mem_map]
      rintro _ ⟨p, _, rfl⟩
      rfl
theorem min_pts {S : Sto} {x : D} {l : List Pt} (h : items S x = some (l.map pd)) (h0 : l ≠ []) : ∃ m ∈ l, b1 S .min x = some (pd m) := by
  cases l with
  | nil => exact absurd rfl h0
  | cons p l =>
    have this : b1 S .min x = match items S x with
      | some ds => (match mapO (withPy S) ds with
        | some (e :: es) => if allAlike ((e :: es).map (·.2)) = true ∧ (e :: es).all (fun q => notNone q.2 && pureF 23 q.1) = true then some (es.foldl (fun a y => if PySem.W.dataLt y.2 a.2 = true then y else a) e).1 else none
        | _ => none)
      | none => none := by cases x <;> rfl
    have key : ∀ (l : List Pt) (p : Pt), ∃ m ∈ p :: l, (l.map fun p => (pd p, pp p)).foldl (fun a y => if PySem.W.dataLt y.2 a.2 = true then y else a) (pd p, pp p) = (pd m, pp m) := by
      intro l
      induction l with
      | nil => intro p; exact ⟨p, List.mem_cons_self, rfl⟩
      | cons q l ih =>
        intro p
        simp only [List.map_cons, List.foldl_cons]
        split
        · obtain ⟨m, hm, e⟩ := ih q
          exact ⟨m, List.mem_cons_of_mem _ hm, e⟩
        · obtain ⟨m, hm, e⟩ := ih p
          refine ⟨m, ?_, e⟩
          rcases List.mem_cons.mp hm with rfl | hm
          · exact List.mem_cons_self
          · exact List.mem_cons_of_mem _ (List.mem_cons_of_mem _ hm)
    obtain ⟨m, hm, e⟩ := key l p
    refine ⟨m, hm, ?_⟩
    rw [this, h]
    simp only [withPy_pts]
    simp only [List.map_cons]
    rw [if_pos]
    · rw [e]
    · refine ⟨?_, ?_⟩
      · have := alike_pts (p :: l)
        simpa [Function.comp_def] using this
      · simp only [List.all_cons, List.all_map, Bool.and_eq_true, List.all_eq_true]
        exact ⟨⟨rfl, rfl⟩, fun q hq => rfl⟩
theorem eq_new {l : List Pt} {S : Sto} {QB : Bool → Sto → Prop} {i : Nat} (hi : S.length = i) {S' : Sto} (hq : QB l.isEmpty S') : Wo (cmp (S ++ [.lst (l.map pd)]) Cop.eq (D.ref i) (D.lst [])) S' QB := by
  subst hi
  refine wo_of (d := l.isEmpty) ?_ hq
  have e : py (S ++ [.lst (l.map pd)]) (.ref S.length) = some (.list (l.map pp)) := by
    show pyF (S ++ [.lst (l.map pd)]) 24 (.ref S.length) = _
    rw [pyF, new_get]
    have : ∀ (S : Sto) (l : List Pt), mapO (pyF S 23) (l.map pd) = some (l.map pp) := by
      intro S l
      induction l with
      | nil => rfl
      | cons p l ih =>
        have e : pyF S 23 (pd p) = some (pp p) := rfl
        simp [mapO, e, ih]
    simp only [this]; rfl
  have e2 : py (S ++ [.lst (l.map pd)]) (.lst []) = some (.list []) := rfl
  have pl : (PyData.list (l.map pp)).plain = true := by
    rw [PyData.plain]
    refine GW.plain_all fun q hq => ?_
    obtain ⟨p, _, rfl⟩ := List.mem_map.mp hq
    simp [pp, PyData.plain, PyData.plainAll]
  simp only [cmp, eqD, e, e2]
  rw [if_pos ⟨pl, by simp [PyData.plain, PyData.plainAll]⟩]
  cases l <;> simp [PyData.eqv, PyData.eqvAll]
variable {T : List Df} {k f : Nat} {S : Sto} {p q : Pt} {l : List Pt}
/-! ### unlike points -/
theorem unlike_ok (hT : T[f]? = some dfUnlike) (hl : l.length ≤ 10000) : ∃ d S', callN T (k+1) f [.lst (l.map pd)] S = .ok d S' ∧ S' = S ∧ ∃ l' : List Pt, d = .lst (l'.map pd) ∧ (∀ p ∈ l', p ∈ l) ∧ l'.length ≤ l.length := by
  refine ex_of_wc (wc_run hT rfl fun N K R X hN hR => ?_)
  (repeat infer_instance)
  obtain ⟨l2, hp, e⟩ := sort_pts (S := S ++ [.lst []]) (x := .lst (l.map pd)) (l := l) rfl
  refine wo_of e ?_
  (repeat infer_instance)
  refine f_inv pd l2 rfl (fun i ρ S' => ∃ (a : Option D) (m : List Pt), ρ = [some (.lst (l.map pd)), some (.ref S.length), a] ∧ S' = S ++ [.lst (m.map pd)] ∧ m.length ≤ i ∧ ∀ p ∈ m, p ∈ l2) ⟨none, [], rfl, rfl, Nat.le_refl _, by simp⟩ ?_ ?_
  · rintro i p ρ S' N' hi ⟨a, m, rfl, rfl, hm, hm2⟩ hN'
    have hpl := List.mem_of_getElem? hi
    have hi2 : i < l2.length := (List.getElem?_eq_some_iff.mp hi).1
    rw [hp.length_eq] at hi2
    have fin : N' [some (.lst (l.map pd)), some (.ref S.length), some (pd p)] (S ++ [.lst (m.map pd)]) := hN' _ _ True.intro ⟨_, m, rfl, rfl, by omega, hm2⟩
    have fin2 : N' [some (.lst (l.map pd)), some (.ref S.length), some (pd p)] (S ++ [.lst (m.map pd ++ [pd p])]) := hN' _ _ True.intro ⟨_, m ++ [p], rfl, by simp, by simp; omega, fun q hq => by
      rcases List.mem_append.mp hq with hq | hq
      · exact hm2 q hq
      · rw [List.mem_singleton.mp hq]; exact hpl⟩
    (repeat infer_instance)
    refine eq_new rfl ?_
    rcases List.eq_nil_or_concat m with rfl | ⟨m, q, rfl⟩
    · (repeat infer_instance)
      refine wo_app (l := []) (by simp) ?_
      exact fin2
    · simp only [List.concat_eq_append, List.map_append, List.map_cons, List.map_nil] at fin fin2 ⊢
      (repeat infer_instance)
      refine wif_eq (b' := false) (by simp) (wif_f ?_)
      (repeat infer_instance)
      refine wo_idx items_new atI_last ?_
      (repeat infer_instance)
      refine wif_d (fun h => ?_) fun h => ?_
      · (repeat infer_instance)
        refine wo_app (by simp at hm ⊢; omega) ?_
        exact fin2
      · (repeat infer_instance)
        exact fin
  · rintro ρ S' ⟨a, m, rfl, rfl, hm, hm2⟩
    (repeat infer_instance)
    refine hR _ _ (wx_lst (flat_map (n := 23) fun a => rfl) ⟨rfl, m, rfl, fun q hq => hp.mem_iff.mp (hm2 q hq), by rw [← hp.length_eq]; exact hm⟩)
/-! ### hulls -/
def bp (n : Nat) (p : Pt) : Prop := bd n p.1 ∧ bd n p.2
theorem less_ok (hT : T[f]? = some dfLess) : callN T (k+1) f [pd p, pd q] S = .ok (pd (p.1 - q.1, p.2 - q.2)) S := by
  obtain ⟨a, b⟩ := p
  obtain ⟨c, d⟩ := q
  refine eq_of_wc (wc_run hT rfl fun N K R X hN hR => ?_)
  simp only [pd] at hR hN ⊢
  (repeat infer_instance)
  exact hR _ _ (wx_same ⟨rfl, rfl⟩)
theorem det_ok (hT : T[f]? = some dfDet) (hp : bp 2000 p) (hq : bp 2000 q) : callN T (k+1) f [pd p, pd q] S = .ok (.int (p.1 * q.2 - p.2 * q.1)) S := by
  obtain ⟨a, b⟩ := p
  obtain ⟨c, d⟩ := q
  obtain ⟨h1, h2⟩ := hp
  obtain ⟨h3, h4⟩ := hq
  simp only at h1 h2 h3 h4
  refine eq_of_wc (wc_run hT rfl fun N K R X hN hR => ?_)
  simp only [pd] at hR hN ⊢
  (repeat infer_instance)
  exact hR _ _ (wx_same ⟨rfl, rfl⟩)
theorem bp_less {n : Nat} (hp : bp n p) (hq : bp n q) : bp (n + 1) (p.1 - q.1, p.2 - q.2) := ⟨bd_le (bd_sub hp.1 hq.1) (by omega), bd_le (bd_sub hp.2 hq.2) (by omega)⟩
theorem chain_ok {i_det i_less : Nat} (hT : T[f]? = some (dfChain i_det i_less)) (hd : T[i_det]? = some dfDet) (hs : T[i_less]? = some dfLess) (hl : l.length ≤ 10000) (hb : ∀ p ∈ l, bp 1900 p) :
    ∃ d S', callN T (k+2) f [.lst (l.map pd)] S = .ok d S' ∧ S' = S ∧ ∃ l' : List Pt, d = .lst (l'.map pd) ∧ (∀ p ∈ l', p ∈ l) ∧ l'.length ≤ l.length := by
  refine ex_of_wc (wc_run hT rfl fun N K R X hN hR => ?_)
  (repeat infer_instance)
  refine f_inv pd l rfl (fun i ρ S' => ∃ (a : Option D) (m : List Pt), ρ = [some (.lst (l.map pd)), some (.ref S.length), a] ∧ S' = S ++ [.lst (m.map pd)] ∧ m.length ≤ i ∧ ∀ p ∈ m, p ∈ l) ⟨none, [], rfl, rfl, Nat.le_refl _, by simp⟩ ?_ ?_
  · rintro i p ρ S' N' hi ⟨a, m, rfl, rfl, hm, hm2⟩ hN'
    have hpl := List.mem_of_getElem? hi
    have hi2 : i < l.length := (List.getElem?_eq_some_iff.mp hi).1
    (repeat infer_instance)
    refine s_whl2 (fun n ρ S' => ∃ m : List Pt, n = m.length ∧ ρ = [some (.lst (l.map pd)), some (.ref S.length), some (pd p)] ∧ S' = S ++ [.lst (m.map pd)] ∧ m.length ≤ i ∧ ∀ p ∈ m, p ∈ l)
      (fun ρ S' => ∃ m : List Pt, ρ = [some (.lst (l.map pd)), some (.ref S.length), some (pd p)] ∧ S' = S ++ [.lst (m.map pd)] ∧ m.length ≤ i ∧ ∀ p ∈ m, p ∈ l) m.length ⟨m, rfl, rfl, rfl, hm, hm2⟩ ?_ ?_
    · clear hm hm2 m
      rintro n ρ S' N2 M ⟨m, rfl, rfl, rfl, hm, hm2⟩ hN2 hM
      (repeat infer_instance)
      refine wif_d (fun h => ?_) fun h => ?_
      · obtain ⟨m, x, y, rfl⟩ : ∃ m' x y, m = m' ++ [x, y] := by
          rcases List.eq_nil_or_concat m with rfl | ⟨m, y, rfl⟩
          · simp at h
          · rcases List.eq_nil_or_concat m with rfl | ⟨m, x, rfl⟩
            · simp at h
            · exact ⟨m, x, y, by simp⟩
        have hx := hm2 x (by simp)
        have hy := hm2 y (by simp)
        have e : (m ++ [x, y]).map pd = m.map pd ++ [pd x, pd y] := by simp
        rw [e]
        (repeat infer_instance)
        refine wo_idx items_new atI_last1 ?_
        (repeat infer_instance)
        refine wo_idx items_new atI_last2 ?_
        (repeat infer_instance)
        refine wc_eq (less_ok hs) ?_
        (repeat infer_instance)
        refine wo_idx items_new atI_last1 ?_
        (repeat infer_instance)
        refine wc_eq (less_ok hs) ?_
        (repeat infer_instance)
        have b1 : bp 2000 (y.1 - x.1, y.2 - x.2) := ⟨bd_le (bp_less (hb y hy) (hb x hx)).1 (by omega), bd_le (bp_less (hb y hy) (hb x hx)).2 (by omega)⟩
        have b2 : bp 2000 (p.1 - y.1, p.2 - y.2) := ⟨bd_le (bp_less (hb p hpl) (hb y hy)).1 (by omega), bd_le (bp_less (hb p hpl) (hb y hy)).2 (by omega)⟩
        refine wc_eq (det_ok hd b1 b2) ?_
        (repeat infer_instance)
        refine wif_d (fun h2 => ?_) fun h2 => ?_
        · have e2 : S ++ [Cell.lst (m.map pd ++ [pd x, pd y])] = S ++ [Cell.lst ((m ++ [x]).map pd ++ [pd y])] := by simp
          rw [e2]
          (repeat infer_instance)
          refine wo_pop ?_
          exact hN2 (m ++ [x]).length _ _ (by simp) ⟨m ++ [x], rfl, rfl, rfl, by simp at hm ⊢; omega, fun q hq => hm2 q (by simp at hq ⊢; rcases hq with hq | hq <;> simp [hq])⟩
        · exact hM _ _ ⟨m ++ [x, y], rfl, by simp, hm, hm2⟩
      · refine wo_of rfl ?_
        refine wif_d (fun q => absurd q h) fun _ => ?_
        exact hM _ _ ⟨m, rfl, rfl, hm, hm2⟩
    · clear hm hm2 m
      rintro _ _ ⟨m, rfl, rfl, hm, hm2⟩
      (repeat infer_instance)
      refine wo_app (by simp at hm ⊢; omega) ?_
      refine hN' _ _ True.intro ⟨_, m ++ [p], rfl, by simp, by simp; omega, fun q hq => ?_⟩
      rcases List.mem_append.mp hq with hq | hq
      · exact hm2 q hq
      · rw [List.mem_singleton.mp hq]; exact hpl
  · rintro ρ S' ⟨a, m, rfl, rfl, hm, hm2⟩
    (repeat infer_instance)
    exact hR _ _ (wx_lst (flat_map (n := 23) fun a => rfl) ⟨rfl, m, rfl, hm2, hm⟩)
theorem hull_ok {i_unlike i_chain i_det i_less : Nat} (hT : T[f]? = some (dfHull i_unlike i_chain)) (hu : T[i_unlike]? = some dfUnlike) (hc : T[i_chain]? = some (dfChain i_det i_less)) (hd : T[i_det]? = some dfDet) (hs : T[i_less]? = some dfLess) (hl : l.length ≤ 5000) (hb : ∀ p ∈ l, bp 1900 p) :
    ∃ d S', callN T (k+3) f [.lst (l.map pd)] S = .ok d S' ∧ S' = S ∧ ∃ l' : List Pt, d = .tup (l'.map pd) ∧ (∀ p ∈ l', p ∈ l) ∧ l'.length ≤ 2 * l.length := by
  refine ex_of_wc (wc_run hT rfl fun N K R X hN hR => ?_)
  (repeat infer_instance)
  refine wc_ex (unlike_ok hu (by omega)) ?_
  rintro _ _ ⟨rfl, l1, rfl, h1, h2⟩
  (repeat infer_instance)
  refine wif_d (fun h => ?_) fun h => ?_
  · (repeat infer_instance)
    exact hR _ _ (wx_same ⟨rfl, l1, rfl, h1, by omega⟩)
  · (repeat infer_instance)
    refine wc_ex (chain_ok hc hd hs (by omega) (fun p hp => hb p (h1 p hp))) ?_
    rintro _ _ ⟨rfl, l2, rfl, h3, h4⟩
    (repeat infer_instance)
    rw [← List.map_reverse]
    refine wc_ex (chain_ok hc hd hs (by simp; omega) (fun p hp => hb p (h1 p (by simpa using hp)))) ?_
    rintro _ _ ⟨rfl, l3, rfl, h5, h6⟩
    (repeat infer_instance)
    rw [cut_map, cut_map]
    have c2 := cut_le (l := l2) (lo := none) (hi := some (-1))
    have c3 := cut_le (l := l3) (lo := none) (hi := some (-1))
    rw [List.length_reverse] at h6
    refine wo_addL (by simp only [List.length_map]; omega) ?_
    (repeat infer_instance)
    refine hR _ _ (wx_same ⟨rfl, cut l2 none (some (-1)) ++ cut l3 none (some (-1)), by simp, fun p hp => ?_, by simp only [List.length_append]; omega⟩)
    rcases List.mem_append.mp hp with hp | hp
    · exact h1 p (h3 p (cut_mem hp))
    · exact h1 p (by simpa using h5 p (cut_mem hp))
def Py (n : Nat) (d : D) : Prop := ∃ l : List Pt, d = .tup (l.map pd) ∧ 3 ≤ l.length ∧ l.length ≤ 12 ∧ ∀ p ∈ l, bp n p
theorem polygon_ok {i_draw i_hull i_unlike i_chain i_det i_less : Nat} {G : Sto} {wide many : Int} (hT : T[f]? = some (dfPolygon i_draw i_hull)) (hw : T[i_draw]? = some dfDraw) (hh : T[i_hull]? = some (dfHull i_unlike i_chain)) (hu : T[i_unlike]? = some dfUnlike) (hc : T[i_chain]? = some (dfChain i_det i_less)) (hd : T[i_det]? = some dfDet) (hs : T[i_less]? = some dfLess)
    (g : GI G) (w1 : 1 ≤ wide) (w2 : wide ≤ 1000000) (m1 : 3 ≤ many) (m2 : many ≤ 1000) :
    ∃ d S', callN T (k+4) f [.ref 0, .int wide, .int many] G = .ok d S' ∧ Py 30 d ∧ GI S' ∧ S'.length = G.length := by
  refine ex_of_wc (wc_run hT rfl fun N K R X hN hR => ?_)
  (repeat infer_instance)
  refine f_rng 0 6 rfl (fun i ρ S => (∃ a b c d : Option D, ρ = [some (.ref 0), some (.int wide), some (.int many), a, b, c, d]) ∧ GI S ∧ S.length = G.length) ⟨⟨_, _, _, _, rfl⟩, g, rfl⟩ ?_ ?_
  · rintro i ρ S N' hi ⟨⟨a, b, c, d, rfl⟩, g1, e1⟩ hN'
    (repeat infer_instance)
    refine wc_ex (draw_ok0 hw g1 (by omega) (by omega)) ?_
    rintro _ G2 ⟨n, rfl, n0, n1, g2, e2⟩
    obtain ⟨n, rfl⟩ := Int.eq_ofNat_of_zero_le n0
    (repeat infer_instance)
    refine c_inv (fun j : Nat => D.int ((0 : Int) + j)) (List.range (3 + n)) (fun i acc S' => ∃ l : List Pt, acc = l.map pd ∧ l.length = i ∧ (∀ p ∈ l, bp 30 p) ∧ GI S' ∧ S'.length = G.length) ?_ (by simp; omega) ⟨[], rfl, rfl, by simp, g2, by omega⟩ ?_ ?_
    · rw [show (3 + (n : Int)).toNat = 3 + n from by omega]; rfl
    · rintro i2 j acc S3 Q' hj ⟨l, rfl, l1, l2, g3, e3⟩ q1 q2
      (repeat infer_instance)
      refine wc_ex (draw_ok0 hw g3 (by omega) (by omega)) ?_
      rintro _ G4 ⟨x, rfl, x0, x1, g4, e4⟩
      (repeat infer_instance)
      refine wc_ex (draw_ok0 hw g4 (by omega) (by omega)) ?_
      rintro _ G5 ⟨y, rfl, y0, y1, g5, e5⟩
      (repeat infer_instance)
      refine q1 _ _ True.intro ⟨l ++ [(x, y)], by simp [pd], by simp; omega, fun p hp => ?_, g5, by omega⟩
      rcases List.mem_append.mp hp with hp | hp
      · exact l2 p hp
      · rw [List.mem_singleton.mp hp]
        exact ⟨by show bd 30 x; unfold bd; omega, by show bd 30 y; unfold bd; omega⟩
    · rintro acc S3 ⟨l, rfl, l1, l2, g3, e3⟩
      rw [List.length_range] at l1
      (repeat infer_instance)
      refine wc_ex (hull_ok hh hu hc hd hs (by omega) (fun p hp => ⟨bd_le (l2 p hp).1 (by omega), bd_le (l2 p hp).2 (by omega)⟩)) ?_
      rintro _ _ ⟨rfl, l', rfl, h1, h2⟩
      (repeat infer_instance)
      refine wif_d (fun h => ?_) fun h => ?_
      · (repeat infer_instance)
        refine wif_d (fun h5 => ?_) fun h5 => ?_
        · (repeat infer_instance)
          exact hR _ _ (wx_len (by omega) ⟨⟨l', rfl, by simp at h; omega, by simp at h5; omega, fun p hp => l2 p (h1 p hp)⟩, g3, e3⟩)
        · (repeat infer_instance)
          exact hN' _ _ True.intro ⟨⟨_, _, _, _, rfl⟩, g3, e3⟩
      · (repeat infer_instance)
        exact hN' _ _ True.intro ⟨⟨_, _, _, _, rfl⟩, g3, e3⟩
  · rintro ρ S ⟨⟨a, b, c, d, rfl⟩, g1, e1⟩
    (repeat infer_instance)
    refine hR _ _ (wx_len (by omega) ⟨⟨[(0, 0), (1, 0), (0, 1)], rfl, by simp, by simp, fun p hp => ?_⟩, g1, e1⟩)
    simp only [List.mem_cons, List.not_mem_nil, or_false] at hp
    rcases hp with rfl | rfl | rfl <;> exact ⟨by unfold bd; decide, by unfold bd; decide⟩
end DECK

set_option linter.all false
set_option maxRecDepth 100000
set_option maxHeartbeats 4000000
set_option pp.deepTerms false
set_option pp.deepTerms.threshold 12
/-! frames of the laws k10 to k18 -/
namespace DECK
open PySem GV GX
open L2 (atI ixN)
local macro_rules | `(tactic| infer_instance) => `(tactic| first | ((with_reducible apply e_loc); (repeat ((with_reducible refine look_ne ?_ ?_); decide)); (first | ((with_reducible refine look_eq ?_); (repeat (first | (with_reducible refine lt_set ?_) | exact Nat.le_of_ble_eq_true rfl))) | exact rfl)) | (with_reducible first | refine e_cst ?_ | refine e_bin ?_ | refine e_idx ?_ | refine e_call ?_ | refine wl_cons ?_ | refine wl_nil ?_ | refine e_tup ?_ | refine e_b1 ?_ | refine e_cmp ?_ | refine e_lst ?_ | refine e_neg ?_ | refine e_not ?_ | refine e_and ?_ | refine e_or ?_ | refine e_ife ?_ | refine e_chain ?_ | refine e_isa ?_ | refine e_sl ?_ | refine e_slh ?_ | refine e_sll ?_ | refine e_sla ?_ | refine e_rev ?_ | refine e_alc ?_ | refine e_callK ?_ | refine e_b2 ?_ | refine e_rng1 ?_ | refine e_rng2 ?_ | refine e_enm ?_ | refine e_zip ?_ | refine e_comp ?_ | refine e_meth ?_ | refine e_frz0 ?_ | refine e_frz1 ?_ | refine e_sset ?_ | refine e_sdct ?_ | refine e_lzip ?_ | refine e_upr ?_ | refine e_dct ?_ | refine s_seq ?_ | refine s_set ?_ | refine s_unp ?_ | refine s_par ?_ | refine s_ret ?_ | refine s_ite ?_ | refine s_for ?_ | refine s_ex ?_ | refine s_skip ?_ | refine s_setx ?_ | refine s_cont ?_ | refine s_retN ?_ | refine s_raise0 ?_ | refine s_raise1 ?_ | refine wo_lt ?_ | refine wo_le ?_ | refine wo_gt ?_ | refine wo_ge ?_ | refine wo_eqi ?_ | refine wo_nei ?_ | refine wo_of litems_new ?_ | refine wo_of items_new ?_ | refine wo_of b1len_new ?_ | refine wo_of b1tuple_new ?_ | refine wo_of b1list_new ?_ | refine wo_of slice_new ?_ | refine wo_isN ?_ | refine wo_notN ?_ | refine wo_slT ?_ | refine wo_slL ?_ | refine wo_lenT ?_ | refine wo_lenL ?_ | refine wo_tupT ?_ | refine wo_tupL ?_ | refine wo_lstT ?_ | refine wo_lstL ?_) | (with_reducible refine wo_dbl1 ?_) | (with_reducible refine wo_eqs ?_) | (with_reducible refine wo_nes ?_) | ((with_reducible refine wo_eqsN ?_ ?_); (decide +kernel)) | ((with_reducible refine wo_nesN ?_ ?_); (decide +kernel)) | ((with_reducible refine wo_eqn ?_ ?_ ?_); exact rfl; exact rfl) | ((with_reducible refine wo_nen ?_ ?_ ?_); exact rfl; exact rfl) | ((with_reducible refine wo_inT ?_ ?_ ?_); exact rfl; exact rfl) | ((with_reducible refine wo_ninT ?_ ?_ ?_); exact rfl; exact rfl) | ((with_reducible refine wo_modE ?_ ?_); omega) | ((with_reducible refine wo_fdivE ?_ ?_); omega) | ((with_reducible refine wo_mulS ?_ ?_); omega) | ((with_reducible refine wo_mul ?_ ?_); exact mulOk_bd (by (repeat (first | assumption | (with_reducible apply bd_mul) | (with_reducible apply bd_add) | (with_reducible apply bd_sub) | (with_reducible apply bd_neg) | (with_reducible apply bd_abs) | exact bd80 (by omega)))) (by (repeat (first | assumption | (with_reducible apply bd_mul) | (with_reducible apply bd_add) | (with_reducible apply bd_sub) | (with_reducible apply bd_neg) | (with_reducible apply bd_abs) | exact bd80 (by omega)))) (by omega)) | ((with_reducible apply wo_of); exact rfl) | ((with_reducible refine wo_reprN ?_ ?_); exact sh_fin (by (repeat (first | assumption | (with_reducible apply sh_tup) | (with_reducible apply sh_lst) | (with_reducible apply shl_cons) | (with_reducible apply shl_app) | (with_reducible apply shl_nil) | (with_reducible apply sh_non) | (with_reducible apply sh_bl) | ((with_reducible apply sh_int); (repeat (first | assumption | (with_reducible apply bd_mul) | (with_reducible apply bd_add) | (with_reducible apply bd_sub) | (with_reducible apply bd_neg) | (with_reducible apply bd_abs) | exact bd80 (by omega))); omega) | ((with_reducible apply sh_str); decide)))) (by decide)) | ((with_reducible refine wo_repr ?_ ?_); exact sh_fin (by (repeat (first | assumption | (with_reducible apply sh_tup) | (with_reducible apply sh_lst) | (with_reducible apply shl_cons) | (with_reducible apply shl_app) | (with_reducible apply shl_nil) | (with_reducible apply sh_non) | (with_reducible apply sh_bl) | ((with_reducible apply sh_int); (repeat (first | assumption | (with_reducible apply bd_mul) | (with_reducible apply bd_add) | (with_reducible apply bd_sub) | (with_reducible apply bd_neg) | (with_reducible apply bd_abs) | exact bd80 (by omega))); omega) | ((with_reducible apply sh_str); decide)))) (by decide)) | (with_reducible refine wif_t ?_) | (with_reducible refine wif_f ?_) | refine wif_t ?_ | refine wif_f ?_ | ((with_reducible refine and_rng ?_ ?_); omega) | ((with_reducible refine and_rng2 ?_ ?_); omega) | (refine And.intro (Nat.le_of_ble_eq_true rfl) ?_) | refine And.intro rfl ?_)
variable {T : List Df} {k f : Nat} {S : Sto} {p q : Pt} {l : List Pt}
abbrev f6 (a b c d e g : Int) : D := .tup [.int a, .int b, .int c, .int d, .int e, .int g]
theorem behind_ok {a b c d e g a2 b2 c2 d2 e2 g2 : Int} (hT : T[f]? = some dfBehind) (h1 : bd 400 a) (h2 : bd 400 b) (h3 : bd 400 c) (h4 : bd 400 d) (h5 : bd 400 e) (h6 : bd 400 g) (k1 : bd 400 a2) (k2 : bd 400 b2) (k3 : bd 400 c2) (k4 : bd 400 d2) :
    callN T (k+1) f [f6 a b c d e g, f6 a2 b2 c2 d2 e2 g2] S = .ok (f6 (a2 * a + b2 * c) (a2 * b + b2 * d) (c2 * a + d2 * c) (c2 * b + d2 * d) (a2 * e + b2 * g + e2) (c2 * e + d2 * g + g2)) S := by
  refine eq_of_wc (wc_run hT rfl fun N K R X hN hR => ?_)
  (repeat infer_instance)
  exact hR _ _ (wx_same ⟨rfl, rfl⟩)
def led (a b c d e g : Int) (p : Pt) : Pt := (a * p.1 + b * p.2 + e, c * p.1 + d * p.2 + g)
theorem led_ok {a b c d e g : Int} (hT : T[f]? = some dfLed) (h1 : bd 400 a) (h2 : bd 400 b) (h3 : bd 400 c) (h4 : bd 400 d) (hp : bp 400 p) : callN T (k+1) f [f6 a b c d e g, pd p] S = .ok (pd (led a b c d e g p)) S := by
  obtain ⟨x, y⟩ := p
  obtain ⟨h5, h6⟩ := hp
  simp only at h5 h6
  refine eq_of_wc (wc_run hT rfl fun N K R X hN hR => ?_)
  simp only [pd, led] at hR hN ⊢
  (repeat infer_instance)
  exact hR _ _ (wx_same ⟨rfl, rfl⟩)
theorem zip_pts : ∀ l m : List Pt, zipL (l.map pd) (m.map pd) = (l.zip m).map fun q : Pt × Pt => .tup [pd q.1, pd q.2]
  | [], _ => rfl
  | _ :: _, [] => rfl
  | a :: l, b :: m => by simp [zipL, zip_pts l m]
theorem sum_ints {S' S : Sto} {ns : List Int} {Q : D → Sto → Prop} (q : Q (.int ns.sum) S) : Wo (b1 S' .sum (.lst (ns.map D.int))) S Q := by
  refine wo_of (d := .int ns.sum) ?_ q
  have : ∀ ns : List Int, mapO asInt (ns.map D.int) = some ns := by
    intro ns
    induction ns with
    | nil => rfl
    | cons n ns ih => simp [mapO, asInt, ih]
  simp [b1, litems, this]
theorem find_pt {m : List Pt} {x : Pt} (hx : x ∈ m) : ∃ j, ((m.map pd).findIdx? fun y => decide (y = pd x)) = some j := by
  cases h : (m.map pd).findIdx? fun y => decide (y = pd x) with
  | some j => exact ⟨j, rfl⟩
  | none =>
    rw [List.findIdx?_eq_none_iff] at h
    have := h (pd x) (List.mem_map.mpr ⟨x, hx, rfl⟩)
    simp at this
theorem in_order_ok {i_det : Nat} {x : D} (hT : T[f]? = some (dfInOrder i_det)) (hd : T[i_det]? = some dfDet) (hx : x = .lst (l.map pd)) (h0 : l ≠ []) (hl : l.length ≤ 12) (hb : ∀ p ∈ l, bp 900 p) :
    ∃ d S', callN T (k+2) f [x] S = .ok d S' ∧ S' = S ∧ ∃ l' : List Pt, d = .tup (l'.map pd) ∧ l'.length = l.length ∧ ∀ p ∈ l', p ∈ l := by
  refine ex_of_wc (wc_run hT rfl fun N K R X hN hR => ?_)
  subst hx
  (repeat infer_instance)
  rw [cut_map, cut_map]
  have c2 := cut_le (l := l) (lo := some 1) (hi := none)
  have c3 := cut_le (l := l) (lo := none) (hi := some 1)
  refine wo_addL (by simp only [List.length_map]; omega) ?_
  rw [← List.map_append]
  (repeat infer_instance)
  rw [zip_pts]
  refine c_map (fun q : Pt × Pt => .tup [pd q.1, pd q.2]) (l.zip (cut l (some 1) none ++ cut l none (some 1))) (fun q => .int (q.1.1 * q.2.2 - q.1.2 * q.2.1)) rfl True.intro (by simp only [List.length_zip, List.length_append]; omega) (fun q hq R hR => ?_) ?_
  · obtain ⟨q1, q2⟩ := q
    have m1 := (List.of_mem_zip hq).1
    have m2 := (List.of_mem_zip hq).2
    have m3 : q2 ∈ l := by
      rcases List.mem_append.mp m2 with h | h <;> exact cut_mem h
    have b1 := hb q1 m1
    have b2 := hb q2 m3
    (repeat infer_instance)
    refine wc_eq (det_ok hd ⟨bd_le b1.1 (by omega), bd_le b1.2 (by omega)⟩ ⟨bd_le b2.1 (by omega), bd_le b2.2 (by omega)⟩) ?_
    exact hR
  · have e : ((l.zip (cut l (some 1) none ++ cut l none (some 1))).map fun q : Pt × Pt => D.int (q.1.1 * q.2.2 - q.1.2 * q.2.1)) = ((l.zip (cut l (some 1) none ++ cut l none (some 1))).map fun q : Pt × Pt => q.1.1 * q.2.2 - q.1.2 * q.2.1).map D.int := by rw [List.map_map]; rfl
    rw [e]
    generalize ((l.zip (cut l (some 1) none ++ cut l none (some 1))).map fun q : Pt × Pt => q.1.1 * q.2.2 - q.1.2 * q.2.1) = ns
    refine sum_ints ?_
    (repeat infer_instance)
    refine wif_d (fun h => ?_) fun h => ?_
    · (repeat infer_instance)
      rw [← List.map_reverse]
      obtain ⟨x, hx, ex⟩ := min_pts (S := S) (x := .lst (l.reverse.map pd)) (l := l.reverse) rfl (by simpa using h0)
      refine wo_of ex ?_
      (repeat infer_instance)
      obtain ⟨j, hj⟩ := find_pt hx
      refine wo_index (ys := l.reverse.map pd) rfl rfl (nb_map (n := 23) fun a => rfl) hj ?_
      (repeat infer_instance)
      rw [cut_take, cut_drop]
      refine wo_addL (by simp; omega) ?_
      (repeat infer_instance)
      refine hR _ _ (wx_same ⟨rfl, l.reverse.drop j ++ l.reverse.take j, by simp, by simp; omega, fun p hp => ?_⟩)
      rcases List.mem_append.mp hp with hp | hp
      · exact List.mem_reverse.mp (List.mem_of_mem_drop hp)
      · exact List.mem_reverse.mp (List.mem_of_mem_take hp)
    · (repeat infer_instance)
      obtain ⟨x, hx, ex⟩ := min_pts (S := S) (x := .lst (l.map pd)) (l := l) rfl h0
      refine wo_of ex ?_
      (repeat infer_instance)
      obtain ⟨j, hj⟩ := find_pt hx
      refine wo_index (ys := l.map pd) rfl rfl (nb_map (n := 23) fun a => rfl) hj ?_
      (repeat infer_instance)
      rw [cut_take, cut_drop]
      refine wo_addL (by simp; omega) ?_
      (repeat infer_instance)
      refine hR _ _ (wx_same ⟨rfl, l.drop j ++ l.take j, by simp, by simp; omega, fun p hp => ?_⟩)
      rcases List.mem_append.mp hp with hp | hp
      · exact (List.mem_of_mem_drop hp)
      · exact (List.mem_of_mem_take hp)
theorem led_poly_ok {i_in_order i_led i_det : Nat} {a b c d e g : Int} {x : D} (hT : T[f]? = some (dfLedPolygon i_in_order i_led)) (hi : T[i_in_order]? = some (dfInOrder i_det)) (hd : T[i_det]? = some dfDet) (hle : T[i_led]? = some dfLed) (h1 : bd 20 a) (h2 : bd 20 b) (h3 : bd 20 c) (h4 : bd 20 d) (h5 : bd 60 e) (h6 : bd 60 g) (hx : Py 40 x) :
    ∃ y S', callN T (k+3) f [f6 a b c d e g, x] S = .ok y S' ∧ S' = S ∧ Py 80 y := by
  obtain ⟨l, rfl, l3, l12, hb⟩ := hx
  refine ex_of_wc (wc_run hT rfl fun N K R X hN hR => ?_)
  have hb2 : ∀ p ∈ l, bp 80 (led a b c d e g p) := fun p hp => by
    obtain ⟨q1, q2⟩ := hb p hp
    exact ⟨bd_le (bd_add (bd_add (bd_mul h1 q1) (bd_mul h2 q2)) h5) (by omega), bd_le (bd_add (bd_add (bd_mul h3 q1) (bd_mul h4 q2)) h6) (by omega)⟩
  (repeat infer_instance)
  refine c_map pd l (fun p => pd (led a b c d e g p)) rfl True.intro (by omega) (fun p hp R hR => ?_) ?_
  · (repeat infer_instance)
    refine wc_eq (led_ok hle (bd_le h1 (by omega)) (bd_le h2 (by omega)) (bd_le h3 (by omega)) (bd_le h4 (by omega)) ⟨bd_le (hb p hp).1 (by omega), bd_le (hb p hp).2 (by omega)⟩) ?_
    exact hR
  · have e : (l.map fun p => pd (led a b c d e g p)) = (l.map (led a b c d e g)).map pd := by rw [List.map_map]; rfl
    rw [e]
    (repeat infer_instance)
    refine wc_ex (in_order_ok hi hd rfl (by intro z; rw [List.map_eq_nil_iff] at z; subst z; simp at l3) (by simpa using l12) (fun p hp => ?_)) ?_
    · obtain ⟨q, hq, rfl⟩ := List.mem_map.mp hp
      exact ⟨bd_le (hb2 q hq).1 (by omega), bd_le (hb2 q hq).2 (by omega)⟩
    rintro _ _ ⟨rfl, l', rfl, e1, e2⟩
    rw [List.length_map] at e1
    refine hR _ _ (wx_same ⟨rfl, l', rfl, by omega, by omega, fun p hp => ?_⟩)
    obtain ⟨q, hq, rfl⟩ := List.mem_map.mp (e2 p hp)
    exact hb2 q hq
def Fr (v : D) : Prop := ∃ a b c d e g : Int, v = f6 a b c d e g ∧ bd 20 a ∧ bd 20 b ∧ bd 20 c ∧ bd 20 d ∧ bd 60 e ∧ bd 60 g
theorem bd20 {a : Int} (h : -10000 < a ∧ a < 10000) : bd 20 a := by unfold bd; omega
theorem bd400 {a : Int} (h : -2000000 < a ∧ a < 2000000) : bd 400 a := bd_le (m := 80) (bd80 (by omega)) (by omega)
theorem frame_ok {i_draw i_behind i_pick : Nat} {far : Int} {G : Sto} (hT : T[f]? = some (dfFrame i_draw i_behind i_pick)) (hw : T[i_draw]? = some dfDraw) (hp : T[i_pick]? = some (dfPick i_draw)) (hb : T[i_behind]? = some dfBehind) (g : GI G) (f1 : 1 ≤ far) (f2 : far ≤ 900) :
    ∃ d S', callN T (k+3) f [.ref 0, .int far] G = .ok d S' ∧ Fr d ∧ GI S' ∧ S'.length = G.length := by
  refine ex_of_wc (wc_run hT rfl fun N K R X hN hR => ?_)
  (repeat infer_instance)
  refine wc_ex (draw_ok0 hw g (by omega) (by omega)) ?_
  rintro _ G2 ⟨n, rfl, n0, n1, g2, e2⟩
  obtain ⟨n, rfl⟩ := Int.eq_ofNat_of_zero_le n0
  (repeat infer_instance)
  refine f_rng 0 (1 + n) (by rw [show (1 + (n : Int)).toNat = 1 + n from by omega]) (fun i ρ S => (∃ (a b c d : Int) (x y z w : Option D), ρ = [some (.ref 0), some (.int far), some (f6 a b c d 0 0), x, y, z, w] ∧ (-3000 < a ∧ a < 3000) ∧ (-3000 < b ∧ b < 3000) ∧ (-3000 < c ∧ c < 3000) ∧ (-3000 < d ∧ d < 3000)) ∧ GI S ∧ S.length = G.length) ?_ ?_ ?_
  · exact ⟨⟨1, 0, 0, 1, _, _, _, _, rfl, by omega, by omega, by omega, by omega⟩, g2, e2⟩
  · rintro i ρ S N' hi ⟨⟨a, b, c, d, x, y, z, w, rfl, ha, hb', hc, hd⟩, g3, e3⟩ hN'
    (repeat infer_instance)
    refine wc_ex (draw_ok0 hw g3 (by omega) (by omega)) ?_
    rintro _ G4 ⟨u, rfl, u0, u1, g4, e4⟩
    (repeat infer_instance)
    refine wc_ex (pick_ok0 hp hw g4 (by simp) (by simp)) ?_
    rintro v G5 ⟨hv, g5, e5⟩
    obtain ⟨a2, b2, c2, d2, rfl, k1, k2, k3, k4⟩ : ∃ a2 b2 c2 d2 : Int, v = f6 a2 b2 c2 d2 0 0 ∧ (-1000 < a2 ∧ a2 < 1000) ∧ (-1000 < b2 ∧ b2 < 1000) ∧ (-1000 < c2 ∧ c2 < 1000) ∧ (-1000 < d2 ∧ d2 < 1000) := by
      simp only [List.mem_cons, List.not_mem_nil, or_false] at hv
      rcases hv with rfl | rfl | rfl
      · exact ⟨_, _, _, _, rfl, by omega, by omega, by omega, by omega⟩
      · exact ⟨_, _, _, _, rfl, by omega, by omega, by omega, by omega⟩
      · exact ⟨_, _, _, _, rfl, by omega, by omega, by omega, by omega⟩
    (repeat infer_instance)
    refine wc_eq (behind_ok hb (bd400 (by omega)) (bd400 (by omega)) (bd400 (by omega)) (bd400 (by omega)) (bd400 (by omega)) (bd400 (by omega)) (bd400 (by omega)) (bd400 (by omega)) (bd400 (by omega)) (bd400 (by omega))) ?_
    have z1 : a2 * 0 + b2 * 0 + 0 = 0 := by omega
    have z2 : c2 * 0 + d2 * 0 + 0 = 0 := by omega
    rw [z1, z2]
    generalize a2 * a + b2 * c = A
    generalize a2 * b + b2 * d = B
    generalize c2 * a + d2 * c = C'
    generalize c2 * b + d2 * d = D'
    (repeat infer_instance)
    have fin : ∀ (a b c d : Int) (x y z w : Option D), (-3000 < a ∧ a < 3000) → (-3000 < b ∧ b < 3000) → (-3000 < c ∧ c < 3000) → (-3000 < d ∧ d < 3000) → N' [some (.ref 0), some (.int far), some (f6 a b c d 0 0), x, y, z, w] G5 :=
      fun a b c d x y z w h1 h2 h3 h4 => hN' _ _ True.intro ⟨⟨a, b, c, d, _, _, _, _, rfl, h1, h2, h3, h4⟩, g5, by omega⟩
    refine c_map D.int [A, B, C', D'] (fun i => .int (if i < 0 then -i else i)) rfl True.intro (by simp) (fun i hi R hR => ?_) ?_
    · (repeat infer_instance)
      exact hR
    refine wo_max (i := if A < 0 then -A else A) (l := [if B < 0 then -B else B, if C' < 0 then -C' else C', if D' < 0 then -D' else D']) rfl ?_
    (repeat infer_instance)
    refine wif_d (fun h => ?_) fun h => ?_
    · have h' := maxL_le.mp (Int.le_of_lt_add_one (show maxL _ _ < 2999 + 1 from h))
      have q1 := h' _ (List.mem_cons_self)
      have q2 := h' (if B < 0 then -B else B) (by simp)
      have q3 := h' (if C' < 0 then -C' else C') (by simp)
      have q4 := h' (if D' < 0 then -D' else D') (by simp)
      (repeat infer_instance)
      exact fin _ _ _ _ _ _ _ _ (by omega) (by omega) (by omega) (by omega)
    · (repeat infer_instance)
      exact fin _ _ _ _ _ _ _ _ (by omega) (by omega) (by omega) (by omega)
  · rintro ρ S ⟨⟨a, b, c, d, x, y, z, w, rfl, ha, hb', hc, hd⟩, g3, e3⟩
    (repeat infer_instance)
    refine wc_ex (pick_ok0 hp hw g3 (by simp) (by simp)) ?_
    rintro v G4 ⟨hv, g4, e4⟩
    obtain ⟨wd, rfl, w1, w2⟩ : ∃ wd : Int, v = .int wd ∧ 1 ≤ wd ∧ wd ≤ 400000 := by
      simp only [List.mem_cons, List.not_mem_nil, or_false] at hv
      rcases hv with rfl | rfl | rfl
      · exact ⟨1, rfl, by omega, by omega⟩
      · exact ⟨5, rfl, by omega, by omega⟩
      · exact ⟨400000, rfl, by omega, by omega⟩
    (repeat infer_instance)
    refine wc_ex (draw_ok0 hw g4 (by omega) (by omega)) ?_
    rintro _ G5 ⟨s, rfl, s0, s1, g5, e5⟩
    (repeat infer_instance)
    refine wc_ex (draw_ok0 hw g5 (by omega) (by omega)) ?_
    rintro _ G6 ⟨t, rfl, t0, t1, g6, e6⟩
    (repeat infer_instance)
    refine wc_eq (behind_ok hb (bd400 (by omega)) (bd400 (by omega)) (bd400 (by omega)) (bd400 (by omega)) (bd400 (by omega)) (bd400 (by omega)) (bd400 (by omega)) (bd400 (by omega)) (bd400 (by omega)) (bd400 (by omega))) ?_
    refine hR _ _ (wx_len (by omega) ⟨⟨_, _, _, _, _, _, rfl, bd20 (by omega), bd20 (by omega), bd20 (by omega), bd20 (by omega), by unfold bd; omega, by unfold bd; omega⟩, g6, by omega⟩)
/-! ### groups -/
structure Sm (n : Int) (v : D) : Prop where
  ex : ∃ a b c d : Int, v = f6 a b c d 0 0 ∧ (-n ≤ a ∧ a ≤ n) ∧ (-n ≤ b ∧ b ≤ n) ∧ (-n ≤ c ∧ c ≤ n) ∧ (-n ≤ d ∧ d ≤ n)
theorem mul1 {x y n : Int} (hx : x = -1 ∨ x = 0 ∨ x = 1) (hy : -n ≤ y ∧ y ≤ n) : -n ≤ x * y ∧ x * y ≤ n := by
  rcases hx with rfl | rfl | rfl <;> omega
def one3 (x : Int) : Prop := x = -1 ∨ x = 0 ∨ x = 1
theorem Sm.behind {n a2 b2 c2 d2 : Int} {v : D} {T : List Df} {f k : Nat} {S : Sto} (hT : T[f]? = some dfBehind) (h : Sm n v) (hn : 0 ≤ n ∧ n ≤ 100000) (k1 : one3 a2) (k2 : one3 b2) (k3 : one3 c2) (k4 : one3 d2) :
    ∃ d S', callN T (k+1) f [v, f6 a2 b2 c2 d2 0 0] S = .ok d S' ∧ S' = S ∧ Sm (2 * n) d := by
  obtain ⟨a, b, c, d, rfl, ha, hb, hc, hd⟩ := h.ex
  have b3 : ∀ x, one3 x → bd 400 x := fun x hx => bd400 (by unfold one3 at hx; omega)
  have hz1 : a2 * 0 + b2 * 0 + 0 = 0 := by omega
  have hz2 : c2 * 0 + d2 * 0 + 0 = 0 := by omega
  have e := behind_ok (k := k) (S := S) hT (bd400 (a := a) (by omega)) (bd400 (a := b) (by omega)) (bd400 (a := c) (by omega)) (bd400 (a := d) (by omega)) (bd400 (a := 0) (by omega)) (bd400 (a := 0) (by omega)) (b3 _ k1) (b3 _ k2) (b3 _ k3) (b3 _ k4) (e2 := 0) (g2 := 0)
  rw [hz1, hz2] at e
  have m1 := mul1 k1 ha; have m2 := mul1 k2 hc; have m3 := mul1 k1 hb; have m4 := mul1 k2 hd
  have m5 := mul1 k3 ha; have m6 := mul1 k4 hc; have m7 := mul1 k3 hb; have m8 := mul1 k4 hd
  exact ⟨_, _, e, rfl, ⟨⟨_, _, _, _, rfl, by omega, by omega, by omega, by omega⟩⟩⟩
theorem Sm.mono {n m : Int} {v : D} (h : Sm n v) (hm : n ≤ m) : Sm m v := by
  obtain ⟨a, b, c, d, rfl, ha, hb, hc, hd⟩ := h.ex
  exact ⟨⟨_, _, _, _, rfl, by omega, by omega, by omega, by omega⟩⟩
theorem Sm.flat {n : Int} {v : D} (h : Sm n v) : flat 23 v = true := by
  obtain ⟨a, b, c, d, rfl, ha, hb, hc, hd⟩ := h.ex
  rfl
theorem set_new {S : Sto} {c c2 : Cell} : (S ++ [c]).set S.length c2 = S ++ [c2] := by simp
def Kd (x : D) : Prop := ∃ (n : Nat) (b : Bool), x = .tup [.int n, .bl b] ∧ (n = 1 ∨ n = 2 ∨ n = 3 ∨ n = 4 ∨ n = 6)
abbrev gk : List (L2.Key × D) := [(.inl 1, .tup [.int 1, .int 0, .int 0, .int 1]), (.inl 2, .tup [.int (-1), .int 0, .int 0, .int (-1)]), (.inl 3, .tup [.int 0, .int (-1), .int 1, .int (-1)]), (.inl 4, .tup [.int 0, .int (-1), .int 1, .int 0]), (.inl 6, .tup [.int 0, .int (-1), .int 1, .int 1])]
theorem idx_gk {n : Nat} {v : D} (he : lookK (.inl (n : Int)) gk = some v) : idx (S ++ [Cell.dk gk]) (.ref S.length) (.int n) = some v := by
  simp only [idx, List.getElem?_concat_length, asKey]
  exact he
theorem group_ok {i_behind : Nat} {x : D} (hT : T[f]? = some (dfGroup i_behind)) (hb : T[i_behind]? = some dfBehind) (hx : Kd x) :
    ∃ d S', callN T (k+2) f [x] S = .ok d S' ∧ S' = S ∧ ∃ vs : List D, d = .lst vs ∧ vs.length ≤ 12 ∧ ∀ v ∈ vs, Sm 200 v := by
  obtain ⟨n, b, rfl, hn⟩ := hx
  refine ex_of_wc (wc_run hT rfl fun N K R X hN hR => ?_)
  obtain ⟨t1, t2, t3, t4, h1, h2, h3, h4, he⟩ : ∃ t1 t2 t3 t4 : Int, one3 t1 ∧ one3 t2 ∧ one3 t3 ∧ one3 t4 ∧ lookK (.inl (n : Int)) gk = some (D.tup [.int t1, .int t2, .int t3, .int t4]) := by
    rcases hn with rfl | rfl | rfl | rfl | rfl
    · exact ⟨1, 0, 0, 1, by unfold one3; omega, by unfold one3; omega, by unfold one3; omega, by unfold one3; omega, rfl⟩
    · exact ⟨-1, 0, 0, -1, by unfold one3; omega, by unfold one3; omega, by unfold one3; omega, by unfold one3; omega, rfl⟩
    · exact ⟨0, -1, 1, -1, by unfold one3; omega, by unfold one3; omega, by unfold one3; omega, by unfold one3; omega, rfl⟩
    · exact ⟨0, -1, 1, 0, by unfold one3; omega, by unfold one3; omega, by unfold one3; omega, by unfold one3; omega, rfl⟩
    · exact ⟨0, -1, 1, 1, by unfold one3; omega, by unfold one3; omega, by unfold one3; omega, by unfold one3; omega, rfl⟩
  have hn6 : n ≤ 6 := by omega
  (repeat infer_instance)
  refine ⟨⟨rfl, by simp, by simp, by simp⟩, ?_⟩
  rw [set_new]
  simp only [List.zip_cons_cons, List.zip_nil_right]
  (repeat infer_instance)
  refine wo_of (idx_gk he) ?_
  have hS1 : (S ++ [Cell.dk gk]).length = S.length + 1 := by simp
  have hR' : ∀ (X1 : Sto) (fs : List D) (i : Nat), (S ++ [Cell.dk gk] ++ X1)[i]? = some (.lst fs) → S.length ≤ i → fs.length ≤ 12 → (∀ w ∈ fs, Sm 200 w) → R (.ref i) (S ++ [Cell.dk gk] ++ X1) := by
    intro X1 fs i hi hi2 h12 hw
    rw [List.append_assoc]
    refine hR _ _ (wx_new (by simp) (d' := .lst fs) ?_ ⟨rfl, fs, rfl, h12, hw⟩)
    rw [List.append_assoc] at hi
    have : ∀ n (S : Sto) (m : Nat) (fs : List D), (∀ w ∈ fs, Sm n w) → mapO (resF S m 23) fs = some fs := by
      intro n S m fs
      induction fs with
      | nil => intro _; rfl
      | cons w fs ih =>
        intro h
        obtain ⟨a, b, c, d, rfl, _⟩ := (h w List.mem_cons_self).ex
        have e : resF S m 23 (f6 a b c d 0 0) = some (f6 a b c d 0 0) := rfl
        simp [mapO, e, ih fun w hw => h w (List.mem_cons_of_mem _ hw)]
    rw [resF, if_neg (by omega), hi]
    simp only [this 200 _ _ fs hw]; rfl
  clear hR hN
  generalize hS1e : S ++ [Cell.dk gk] = S1 at hS1 hR' ⊢
  (repeat infer_instance)
  refine f_rng 0 n (by rw [Int.toNat_natCast]) (fun i ρ S' => ∃ (a c : Option D) (fs : List D) (v : D), ρ = [some (.tup [.int n, .bl b]), some (.tup [.int t1, .int t2, .int t3, .int t4]), a, some (.ref S1.length), some v, c] ∧ S' = S1 ++ [.lst fs] ∧ fs.length = i ∧ (∀ w ∈ fs, Sm 64 w) ∧ Sm (2 ^ i : Nat) v) ?_ ?_ ?_
  · exact ⟨_, _, [], _, rfl, rfl, rfl, by simp, ⟨⟨1, 0, 0, 1, rfl, by simp, by simp, by simp, by simp⟩⟩⟩
  · rintro i ρ S' N' hi ⟨a, c, fs, v, rfl, rfl, hl, hw, hv⟩ hN'
    have h2i : ((2 ^ i : Nat) : Int) ≤ 32 := by
      have := Nat.pow_le_pow_right (n := 2) (by omega) (show i ≤ 5 by omega)
      exact_mod_cast this
    have h2p : (0 : Int) ≤ ((2 ^ i : Nat) : Int) := Int.natCast_nonneg _
    have hv64 : Sm 64 v := hv.mono (by omega)
    (repeat infer_instance)
    refine wo_app (by omega) ?_
    (repeat infer_instance)
    refine wc_ex (hv.behind hb ⟨by omega, by omega⟩ h1 h2 h3 h4) ?_
    rintro v2 _ ⟨rfl, hv2⟩
    (repeat infer_instance)
    refine hN' _ _ True.intro ⟨_, _, fs ++ [v], v2, rfl, rfl, by simp; omega, fun w hwm => ?_, ?_⟩
    · rcases List.mem_append.mp hwm with h | h
      · exact hw w h
      · rw [List.mem_singleton.mp h]; exact hv64
    · have e2 : ((2 ^ (i + 1) : Nat) : Int) = 2 * ((2 ^ i : Nat) : Int) := by rw [Nat.pow_succ]; omega
      rw [e2]; exact hv2
  · rintro ρ S' ⟨a, c, fs, v, rfl, rfl, hl, hw, hv⟩
    have hw' : ∀ w ∈ fs, Sm 200 w := fun w hwm => (hw w hwm).mono (by omega)
    cases b
    · (repeat infer_instance)
      exact hR' _ fs _ (by simp) (by omega) (by omega) hw'
    · (repeat infer_instance)
      refine c_inv id fs (fun i acc S' => S' = S1 ++ [.lst fs] ∧ acc.length = i ∧ ∀ w ∈ acc, Sm 200 w) (by simp) (by omega) ⟨rfl, rfl, by simp⟩ ?_ ?_
      · rintro i w acc _ Q' hi ⟨rfl, ha, hac⟩ q1 q2
        have hwm := hw w (List.mem_of_getElem? hi)
        (repeat infer_instance)
        refine wc_ex (hwm.behind hb ⟨by omega, by omega⟩ (a2 := 0) (b2 := 1) (c2 := 1) (d2 := 0) (by unfold one3; omega) (by unfold one3; omega) (by unfold one3; omega) (by unfold one3; omega)) ?_
        rintro v2 _ ⟨rfl, hv2⟩
        refine q1 _ _ (by simp [depOk, dep, new_get]) ⟨rfl, by simp; omega, fun u hu => ?_⟩
        rcases List.mem_append.mp hu with h | h
        · exact hac u h
        · rw [List.mem_singleton.mp h]; exact hv2.mono (by omega)
      · rintro acc _ ⟨rfl, ha, hac⟩
        (repeat infer_instance)
        refine wo_addR litems_new rfl (by omega) ?_
        (repeat infer_instance)
        have e : S1 ++ [Cell.lst fs] ++ [Cell.lst (fs ++ acc)] = S1 ++ [Cell.lst fs, Cell.lst (fs ++ acc)] := by simp
        rw [e]
        refine hR' _ (fs ++ acc) _ (by simp) (by simp; omega) (by simp; omega) (fun u hu => ?_)
        rcases List.mem_append.mp hu with h | h
        · exact hw' u h
        · exact hac u h
end DECK

set_option linter.all false
set_option maxRecDepth 100000
set_option maxHeartbeats 4000000
set_option pp.deepTerms false
set_option pp.deepTerms.threshold 12
/-! the program's points and polygons: minus, det, steps, primitive, sides, edges, area2, border, inside -/
namespace PLG
open PySem GV GX
open DECK (Pt pd bp zip_pts sum_ints pd_inj dfDet)
open L2 (atI ixN)
local macro_rules | `(tactic| infer_instance) => `(tactic| first | ((with_reducible apply e_loc); (repeat ((with_reducible refine look_ne ?_ ?_); decide)); (first | ((with_reducible refine look_eq ?_); (repeat (first | (with_reducible refine lt_set ?_) | exact Nat.le_of_ble_eq_true rfl))) | exact rfl)) | (with_reducible first | refine e_cst ?_ | refine e_bin ?_ | refine e_idx ?_ | refine e_call ?_ | refine wl_cons ?_ | refine wl_nil ?_ | refine e_tup ?_ | refine e_b1 ?_ | refine e_cmp ?_ | refine e_lst ?_ | refine e_neg ?_ | refine e_not ?_ | refine e_and ?_ | refine e_or ?_ | refine e_ife ?_ | refine e_chain ?_ | refine e_isa ?_ | refine e_sl ?_ | refine e_slh ?_ | refine e_sll ?_ | refine e_sla ?_ | refine e_rev ?_ | refine e_alc ?_ | refine e_callK ?_ | refine e_b2 ?_ | refine e_rng1 ?_ | refine e_rng2 ?_ | refine e_enm ?_ | refine e_zip ?_ | refine e_comp ?_ | refine e_meth ?_ | refine e_frz0 ?_ | refine e_frz1 ?_ | refine e_sset ?_ | refine e_sdct ?_ | refine e_lzip ?_ | refine e_upr ?_ | refine e_dct ?_ | refine s_seq ?_ | refine s_set ?_ | refine s_unp ?_ | refine s_par ?_ | refine s_ret ?_ | refine s_ite ?_ | refine s_for ?_ | refine s_ex ?_ | refine s_skip ?_ | refine s_setx ?_ | refine s_cont ?_ | refine s_retN ?_ | refine s_raise0 ?_ | refine s_raise1 ?_ | refine wo_lt ?_ | refine wo_le ?_ | refine wo_gt ?_ | refine wo_ge ?_ | refine wo_eqi ?_ | refine wo_nei ?_ | refine wo_of litems_new ?_ | refine wo_of items_new ?_ | refine wo_of b1len_new ?_ | refine wo_of b1tuple_new ?_ | refine wo_of b1list_new ?_ | refine wo_of slice_new ?_ | refine wo_isN ?_ | refine wo_notN ?_ | refine wo_slT ?_ | refine wo_slL ?_ | refine wo_lenT ?_ | refine wo_lenL ?_ | refine wo_tupT ?_ | refine wo_tupL ?_ | refine wo_lstT ?_ | refine wo_lstL ?_) | (with_reducible refine wo_dbl1 ?_) | (with_reducible refine wo_eqs ?_) | (with_reducible refine wo_nes ?_) | ((with_reducible refine wo_eqsN ?_ ?_); (decide +kernel)) | ((with_reducible refine wo_nesN ?_ ?_); (decide +kernel)) | ((with_reducible refine wo_eqn ?_ ?_ ?_); exact rfl; exact rfl) | ((with_reducible refine wo_nen ?_ ?_ ?_); exact rfl; exact rfl) | ((with_reducible refine wo_inT ?_ ?_ ?_); exact rfl; exact rfl) | ((with_reducible refine wo_ninT ?_ ?_ ?_); exact rfl; exact rfl) | ((with_reducible refine wo_modE ?_ ?_); omega) | ((with_reducible refine wo_fdivE ?_ ?_); omega) | ((with_reducible refine wo_mulS ?_ ?_); omega) | ((with_reducible refine wo_mul ?_ ?_); exact mulOk_bd (by (repeat (first | assumption | (with_reducible apply bd_mul) | (with_reducible apply bd_add) | (with_reducible apply bd_sub) | (with_reducible apply bd_neg) | (with_reducible apply bd_abs) | exact bd80 (by omega)))) (by (repeat (first | assumption | (with_reducible apply bd_mul) | (with_reducible apply bd_add) | (with_reducible apply bd_sub) | (with_reducible apply bd_neg) | (with_reducible apply bd_abs) | exact bd80 (by omega)))) (by omega)) | ((with_reducible apply wo_of); exact rfl) | ((with_reducible refine wo_reprN ?_ ?_); exact sh_fin (by (repeat (first | assumption | (with_reducible apply sh_tup) | (with_reducible apply sh_lst) | (with_reducible apply shl_cons) | (with_reducible apply shl_app) | (with_reducible apply shl_nil) | (with_reducible apply sh_non) | (with_reducible apply sh_bl) | ((with_reducible apply sh_int); (repeat (first | assumption | (with_reducible apply bd_mul) | (with_reducible apply bd_add) | (with_reducible apply bd_sub) | (with_reducible apply bd_neg) | (with_reducible apply bd_abs) | exact bd80 (by omega))); omega) | ((with_reducible apply sh_str); decide)))) (by decide)) | ((with_reducible refine wo_repr ?_ ?_); exact sh_fin (by (repeat (first | assumption | (with_reducible apply sh_tup) | (with_reducible apply sh_lst) | (with_reducible apply shl_cons) | (with_reducible apply shl_app) | (with_reducible apply shl_nil) | (with_reducible apply sh_non) | (with_reducible apply sh_bl) | ((with_reducible apply sh_int); (repeat (first | assumption | (with_reducible apply bd_mul) | (with_reducible apply bd_add) | (with_reducible apply bd_sub) | (with_reducible apply bd_neg) | (with_reducible apply bd_abs) | exact bd80 (by omega))); omega) | ((with_reducible apply sh_str); decide)))) (by decide)) | (with_reducible refine wif_t ?_) | (with_reducible refine wif_f ?_) | refine wif_t ?_ | refine wif_f ?_ | ((with_reducible refine and_rng ?_ ?_); omega) | ((with_reducible refine and_rng2 ?_ ?_); omega) | (refine And.intro (Nat.le_of_ble_eq_true rfl) ?_) | refine And.intro rfl ?_)
def dfMinus : Df := ⟨2, 2, false, (.ret (.tup (.cons (.bin .sub (.idx (.loc 0) (.cst (.int 0))) (.idx (.loc 1) (.cst (.int 0)))) (.cons (.bin .sub (.idx (.loc 0) (.cst (.int 1))) (.idx (.loc 1) (.cst (.int 1)))) .nil))))⟩
def dfSteps : Df := ⟨1, 1, false, (.ret (.b2 .gcd (.idx (.loc 0) (.cst (.int 0))) (.idx (.loc 0) (.cst (.int 1)))))⟩
def dfPrim (js : Nat) : Df := ⟨2, 1, false, (.seq (.unp (.nm 1) (.call js (.cons (.loc 0) .nil)))
    (.seq (.ite (.cmp .eq (.loc 1) (.cst (.int 0))) (.raise 1 none) .skip)
    (.ret (.tup (.cons (.bin .fdiv (.idx (.loc 0) (.cst (.int 0))) (.loc 1)) (.cons (.bin .fdiv (.idx (.loc 0) (.cst (.int 1))) (.loc 1)) .nil))))))⟩
def dfSides (jm : Nat) : Df := ⟨3, 1, false, (.ret (.comp [1, 2] (.tp (.cons (.nm 1) (.cons (.nm 2) .nil))) (.enm (.loc 0)) (.cst (.bl true)) (.call jm (.cons (.idx (.loc 0) (.bin .mod (.bin .add (.loc 1) (.cst (.int 1))) (.b1 .len (.loc 0)))) (.cons (.loc 2) .nil)))))⟩
def dfEdgeOf (jp js jd : Nat) : Df := ⟨3, 2, false, (.seq (.unp (.nm 2) (.call jp (.cons (.loc 1) .nil)))
    (.ret (.tup (.cons (.loc 2) (.cons (.call js (.cons (.loc 1) .nil)) (.cons (.call jd (.cons (.loc 2) (.cons (.loc 0) .nil))) .nil))))))⟩
def dfEdges (jsd je : Nat) : Df := ⟨3, 1, false, (.ret (.b1 .tuple (.comp [1, 2] (.tp (.cons (.nm 1) (.cons (.nm 2) .nil))) (.zip (.loc 0) (.call jsd (.cons (.loc 0) .nil))) (.cst (.bl true)) (.call je (.cons (.loc 1) (.cons (.loc 2) .nil))))))⟩
def dfArea2 (jd : Nat) : Df := ⟨4, 1, false, (.seq (.unp (.nm 1) (.cst (.int 0)))
    (.seq (.for_ (.tp (.cons (.nm 2) (.cons (.nm 3) .nil))) (.enm (.loc 0)) (.unp (.nm 1) (.bin .add (.loc 1) (.call jd (.cons (.idx (.loc 0) (.bin .sub (.loc 2) (.cst (.int 1)))) (.cons (.loc 3) .nil))))))
    (.ret (.loc 1))))⟩
def dfBorder (je : Nat) : Df := ⟨4, 1, false, (.ret (.b1 .sum (.comp [1, 2, 3] (.tp (.cons (.nm 1) (.cons (.nm 2) (.cons (.nm 3) .nil)))) (.call je (.cons (.loc 0) .nil)) (.cst (.bl true)) (.loc 2))))⟩
def dfInside (ja jb : Nat) : Df := ⟨1, 1, false, (.ret (.bin .fdiv (.bin .add (.bin .sub (.call ja (.cons (.loc 0) .nil)) (.call jb (.cons (.loc 0) .nil))) (.cst (.int 2))) (.cst (.int 2))))⟩
variable {T : List Df} {k f : Nat} {S : Sto} {p q : Pt} {l : List Pt}
def sub (p q : Pt) : Pt := (p.1 - q.1, p.2 - q.2)
def dt (p q : Pt) : Int := p.1 * q.2 - p.2 * q.1
def gd (p : Pt) : Nat := Int.gcd p.1 p.2
def prm (p : Pt) : Pt := (p.1 / (gd p : Int), p.2 / (gd p : Int))
/-- the sides -/
def sds (l : List Pt) : List Pt := l.zipIdx.map fun q => sub (l.getD ((q.2 + 1) % l.length) (0, 0)) q.1
/-- twice the area -/
def ar2 (l : List Pt) : Int := (l.zipIdx.map fun q => dt (l.getD ((q.2 + l.length - 1) % l.length) (0, 0)) q.1).sum
theorem minus_ok (hT : T[f]? = some dfMinus) : callN T (k+1) f [pd p, pd q] S = .ok (pd (sub p q)) S := by
  obtain ⟨a, b⟩ := p
  obtain ⟨c, d⟩ := q
  refine eq_of_wc (wc_run hT rfl fun N K R X hN hR => ?_)
  simp only [pd] at hR hN ⊢
  (repeat infer_instance)
  exact hR _ _ (wx_same ⟨rfl, rfl⟩)
theorem steps_ok (hT : T[f]? = some dfSteps) : callN T (k+1) f [pd p] S = .ok (.int (gd p : Nat)) S := by
  obtain ⟨a, b⟩ := p
  refine eq_of_wc (wc_run hT rfl fun N K R X hN hR => ?_)
  simp only [pd] at hR hN ⊢
  (repeat infer_instance)
  exact hR _ _ (wx_same ⟨rfl, rfl⟩)
theorem gd_bd {n : Nat} (h : bp n p) : bd (n + 1) (gd p : Nat) := by
  obtain ⟨a, b⟩ := p
  obtain ⟨h1, h2⟩ := h
  unfold gd
  simp only at h1 h2 ⊢
  by_cases q : a = 0
  · subst q
    rw [Int.gcd_zero_left]
    exact bd_le (bd_of h2 (by omega)) (by omega)
  · have : Int.gcd a b ≤ a.natAbs := Nat.le_of_dvd (by omega) (Int.gcd_dvd_natAbs_left _ _)
    exact bd_le (bd_of h1 (by omega)) (by omega)
theorem prim_ok {js n : Nat} (hT : T[f]? = some (dfPrim js)) (hs : T[js]? = some dfSteps) (hb : bp n p) (hn : n ≤ 8000) (h0 : gd p ≠ 0) : callN T (k+2) f [pd p] S = .ok (pd (prm p)) S := by
  have hg := gd_bd hb
  obtain ⟨a, b⟩ := p
  refine eq_of_wc (wc_run hT rfl fun N K R X hN hR => ?_)
  (repeat infer_instance)
  refine wc_eq (steps_ok hs) ?_
  (repeat infer_instance)
  refine wif_d (fun h => absurd h (by omega)) fun _ => ?_
  simp only [pd, prm] at hR hN ⊢
  (repeat infer_instance)
  refine wo_fdivEW (by omega) hg (by omega) ?_
  (repeat infer_instance)
  refine wo_fdivEW (by omega) hg (by omega) ?_
  (repeat infer_instance)
  exact hR _ _ (wx_same ⟨rfl, rfl⟩)
theorem prim_exc {js : Nat} (hT : T[f]? = some (dfPrim js)) (hs : T[js]? = some dfSteps) (h0 : gd p = 0) : callN T (k+2) f [pd p] S = .exc 1 none S := by
  obtain ⟨a, b⟩ := p
  refine exc_of_wc (wc_runX hT rfl fun N K R X hN hR hX => ?_)
  (repeat infer_instance)
  refine wc_eq (steps_ok hs) ?_
  (repeat infer_instance)
  refine wif_d (fun _ => ?_) fun q => absurd h0 (by omega)
  (repeat infer_instance)
  exact hX _ _ _ _ rfl ⟨rfl, rfl, rfl⟩
theorem enm_pts (l : List Pt) : enmL 0 (l.map pd) = l.zipIdx.map fun q : Pt × Nat => .tup [.int q.2, pd q.1] := by
  rw [enmL_eq, List.zipIdx_map, List.map_map]; rfl
theorem at_mod {i : Nat} (h : l ≠ []) : atI (l.map pd) (((i : Int) + 1) % ((l.map pd).length : Int)) = some (pd (l.getD ((i + 1) % l.length) (0, 0))) := by
  have hp : 0 < l.length := List.length_pos_iff.mpr h
  have hm := Nat.mod_lt (i + 1) hp
  have e : ((i : Int) + 1) % ((l.map pd).length : Int) = (((i + 1) % l.length : Nat) : Int) := by rw [List.length_map, Int.natCast_emod]; rfl
  rw [e]
  refine atI_nat ?_
  rw [List.getElem?_map, List.getD_eq_getElem?_getD, List.getElem?_eq_getElem hm]; rfl
theorem at_prev {i : Nat} (h : i < l.length) : atI (l.map pd) ((i : Int) - 1) = some (pd (l.getD ((i + l.length - 1) % l.length) (0, 0))) := by
  by_cases q : i = 0
  · subst q
    have e : (0 + l.length - 1) % l.length = l.length - 1 := by rw [Nat.zero_add]; exact Nat.mod_eq_of_lt (by omega)
    rw [e]
    refine atI_neg (by omega) (by simp; omega) ?_
    have e2 : (((0 : Nat) : Int) - 1 + ((l.map pd).length : Int)).toNat = l.length - 1 := by rw [List.length_map]; omega
    have hlt : l.length - 1 < l.length := by omega
    rw [e2, List.getElem?_map, List.getD_eq_getElem?_getD, List.getElem?_eq_getElem hlt]; rfl
  · have e : (i + l.length - 1) % l.length = i - 1 := by
      rw [show i + l.length - 1 = i - 1 + l.length by omega, Nat.add_mod_right]; exact Nat.mod_eq_of_lt (by omega)
    rw [e]
    have hlt : i - 1 < l.length := by omega
    have e2 : ((i : Int) - 1) = ((i - 1 : Nat) : Int) := by omega
    rw [e2]
    refine atI_nat ?_
    rw [List.getElem?_map, List.getD_eq_getElem?_getD, List.getElem?_eq_getElem hlt]; rfl
theorem sides_ok {jm : Nat} (hT : T[f]? = some (dfSides jm)) (hm : T[jm]? = some dfMinus) (hl : l.length ≤ 10000) : callN T (k+2) f [.tup (l.map pd)] S = .ok (.lst ((sds l).map pd)) S := by
  refine eq_of_wc (wc_run hT rfl fun N K R X hN hR => ?_)
  (repeat infer_instance)
  rw [enm_pts]
  refine c_map _ _ (fun q => pd (sub (l.getD ((q.2 + 1) % l.length) (0, 0)) q.1)) rfl True.intro (by simp; omega) (fun q hq R hR => ?_) ?_
  · have hq2 : q.1 ∈ l := by
      obtain ⟨a, i⟩ := q
      exact (List.mem_zipIdx hq).2.2 ▸ List.getElem_mem _
    have h0 : l ≠ [] := List.ne_nil_of_mem hq2
    have hpl : 0 < (l.map pd).length := by simp; exact List.length_pos_iff.mpr h0
    (repeat infer_instance)
    refine wo_idx rfl (at_mod h0) ?_
    (repeat infer_instance)
    refine wc_eq (minus_ok hm) ?_
    exact hR
  · (repeat infer_instance)
    refine hR _ _ (wx_same ⟨?_, rfl⟩)
    unfold sds
    rw [List.map_map]; rfl
def edgeD (q : Pt × Pt) : D := .tup [pd (prm q.2), .int (gd q.2 : Nat), .int (dt (prm q.2) q.1)]
theorem bp_sub {n : Nat} (hp : bp n p) (hq : bp n q) : bp (n + 1) (sub p q) := DECK.bp_less hp hq
theorem bp_prm {n : Nat} (h : bp n p) (h0 : gd p ≠ 0) : bp n (prm p) := ⟨bd_ediv h.1 (by omega), bd_ediv h.2 (by omega)⟩
theorem det_ok {m n : Nat} (hT : T[f]? = some dfDet) (hp : bp m p) (hq : bp n q) (hn : m + n < 90000) : callN T (k+1) f [pd p, pd q] S = .ok (.int (dt p q)) S := by
  obtain ⟨a, b⟩ := p
  obtain ⟨c, d⟩ := q
  obtain ⟨h1, h2⟩ := hp
  obtain ⟨h3, h4⟩ := hq
  simp only at h1 h2 h3 h4
  refine eq_of_wc (wc_run hT rfl fun N K R X hN hR => ?_)
  simp only [pd] at hR hN ⊢
  (repeat infer_instance)
  exact hR _ _ (wx_same ⟨rfl, rfl⟩)
theorem edge_ok {jp js jd n : Nat} (hT : T[f]? = some (dfEdgeOf jp js jd)) (hp : T[jp]? = some (dfPrim js)) (hs : T[js]? = some dfSteps) (hd : T[jd]? = some dfDet) (b1 : bp n p) (b2 : bp n q) (hn : n ≤ 2000) (h0 : gd q ≠ 0) :
    callN T (k+3) f [pd p, pd q] S = .ok (edgeD (p, q)) S := by
  refine eq_of_wc (wc_run hT rfl fun N K R X hN hR => ?_)
  (repeat infer_instance)
  refine wc_eq (prim_ok hp hs b2 (by omega) h0) ?_
  (repeat infer_instance)
  refine wc_eq (steps_ok hs) ?_
  (repeat infer_instance)
  refine wc_eq (det_ok hd (bp_prm b2 h0) b1 (by omega)) ?_
  (repeat infer_instance)
  exact hR _ _ (wx_same ⟨rfl, rfl⟩)
/-- the sides are none of them (0, 0) -/
def sdok (l : List Pt) : Prop := ∀ s ∈ sds l, gd s ≠ 0
theorem sds_len : (sds l).length = l.length := by simp [sds]
theorem sds_bp {n : Nat} (hb : ∀ p ∈ l, bp n p) : ∀ s ∈ sds l, bp (n + 1) s := fun s hs => by
  obtain ⟨⟨p, i⟩, hp, rfl⟩ := List.mem_map.mp hs
  have h1 : p ∈ l := (List.mem_zipIdx hp).2.2 ▸ List.getElem_mem _
  have h0 : 0 < l.length := List.length_pos_iff.mpr (List.ne_nil_of_mem h1)
  have hm := Nat.mod_lt (i + 1) h0
  refine bp_sub (hb _ ?_) (hb p h1)
  simp only
  rw [List.getD_eq_getElem?_getD, List.getElem?_eq_getElem hm]
  exact List.getElem_mem hm
theorem edges_ok {jsd jm je jp js jd n : Nat} (hT : T[f]? = some (dfEdges jsd je)) (hsd : T[jsd]? = some (dfSides jm)) (hm : T[jm]? = some dfMinus) (he : T[je]? = some (dfEdgeOf jp js jd)) (hp : T[jp]? = some (dfPrim js)) (hs : T[js]? = some dfSteps) (hd : T[jd]? = some dfDet)
    (hb : ∀ p ∈ l, bp n p) (hn : n ≤ 1900) (hl : l.length ≤ 10000) (h0 : sdok l) : callN T (k+4) f [.tup (l.map pd)] S = .ok (.tup ((l.zip (sds l)).map edgeD)) S := by
  refine eq_of_wc (wc_run hT rfl fun N K R X hN hR => ?_)
  (repeat infer_instance)
  refine wc_eq (sides_ok hsd hm hl) ?_
  (repeat infer_instance)
  rw [zip_pts]
  refine c_map _ _ edgeD rfl True.intro (by simp; omega) (fun q hq R hR => ?_) ?_
  · obtain ⟨p, s⟩ := q
    have := List.of_mem_zip hq
    (repeat infer_instance)
    refine wc_eq (edge_ok he hp hs hd (n := n + 1) ⟨bd_le (hb p this.1).1 (by omega), bd_le (hb p this.1).2 (by omega)⟩ (sds_bp hb s this.2) (by omega) (h0 s this.2)) ?_
    exact hR
  · (repeat infer_instance)
    exact hR _ _ (wx_same ⟨rfl, rfl⟩)
def bor (l : List Pt) : Int := ((sds l).map fun s => (gd s : Int)).sum
theorem border_ok {jes jsd jm je jp js jd n : Nat} (hT : T[f]? = some (dfBorder jes)) (hes : T[jes]? = some (dfEdges jsd je)) (hsd : T[jsd]? = some (dfSides jm)) (hm : T[jm]? = some dfMinus) (he : T[je]? = some (dfEdgeOf jp js jd)) (hp : T[jp]? = some (dfPrim js)) (hs : T[js]? = some dfSteps) (hd : T[jd]? = some dfDet)
    (hb : ∀ p ∈ l, bp n p) (hn : n ≤ 1900) (hl : l.length ≤ 10000) (h0 : sdok l) : callN T (k+5) f [.tup (l.map pd)] S = .ok (.int (bor l)) S := by
  refine eq_of_wc (wc_run hT rfl fun N K R X hN hR => ?_)
  (repeat infer_instance)
  refine wc_eq (edges_ok hes hsd hm he hp hs hd hb hn hl h0) ?_
  (repeat infer_instance)
  refine c_map edgeD _ (fun q => D.int (gd q.2 : Nat)) rfl True.intro (by simp; omega) (fun q hq R hR => ?_) ?_
  · (repeat infer_instance)
    exact hR
  · have e : ((l.zip (sds l)).map fun q : Pt × Pt => D.int (gd q.2 : Nat)) = ((sds l).map fun s => (gd s : Int)).map D.int := by
      rw [List.map_map]
      have : (l.zip (sds l)).map (·.2) = sds l := List.map_snd_zip (by rw [sds_len]; exact Nat.le_refl _)
      conv => rhs; rw [← this]
      rw [List.map_map]; rfl
    rw [e]
    refine sum_ints ?_
    exact hR _ _ (wx_same ⟨rfl, rfl⟩)
theorem area_ok {jd n : Nat} (hT : T[f]? = some (dfArea2 jd)) (hd : T[jd]? = some dfDet) (hb : ∀ p ∈ l, bp n p) (hn : n ≤ 1900) (hl : l.length ≤ 10000) : callN T (k+2) f [.tup (l.map pd)] S = .ok (.int (ar2 l)) S := by
  refine eq_of_wc (wc_run hT rfl fun N K R X hN hR => ?_)
  (repeat infer_instance)
  rw [enm_pts]
  refine f_inv _ l.zipIdx rfl (fun i ρ S' => (∃ a b : Option D, ρ = [some (.tup (l.map pd)), some (.int ((l.zipIdx.take i).map fun q => dt (l.getD ((q.2 + l.length - 1) % l.length) (0, 0)) q.1).sum), a, b]) ∧ S' = S) ⟨⟨none, none, rfl⟩, rfl⟩ ?_ ?_
  · rintro i ⟨p, j⟩ ρ S' N' hi ⟨⟨a, b, rfl⟩, rfl⟩ hN'
    have hz := List.mem_zipIdx (List.mem_of_getElem? hi)
    have h1 : p ∈ l := hz.2.2 ▸ List.getElem_mem _
    have hj : j < l.length := by have := hz.2.1; omega
    have hm : (j + l.length - 1) % l.length < l.length := Nat.mod_lt _ (by omega)
    (repeat infer_instance)
    refine wo_idx rfl (at_prev hj) ?_
    (repeat infer_instance)
    refine wc_eq (det_ok hd (hb _ (by rw [List.getD_eq_getElem?_getD, List.getElem?_eq_getElem hm]; exact List.getElem_mem hm)) (hb p h1) (by omega)) ?_
    (repeat infer_instance)
    refine hN' _ _ True.intro ⟨⟨some (.int j), some (pd p), ?_⟩, rfl⟩
    rw [List.take_add_one, hi]
    simp only [Option.toList_some, List.map_append, List.map_cons, List.map_nil, List.sum_append, List.sum_cons, List.sum_nil, Int.add_zero]
    rfl
  · rintro ρ S' ⟨⟨a, b, rfl⟩, rfl⟩
    (repeat infer_instance)
    refine hR _ _ (wx_same ⟨?_, rfl⟩)
    rw [List.take_length]; rfl
theorem inside_ok {ja jb jes jsd jm je jp js jd n : Nat} (hT : T[f]? = some (dfInside ja jb)) (ha : T[ja]? = some (dfArea2 jd)) (hbo : T[jb]? = some (dfBorder jes)) (hes : T[jes]? = some (dfEdges jsd je)) (hsd : T[jsd]? = some (dfSides jm)) (hm : T[jm]? = some dfMinus) (he : T[je]? = some (dfEdgeOf jp js jd)) (hp : T[jp]? = some (dfPrim js)) (hs : T[js]? = some dfSteps) (hd : T[jd]? = some dfDet)
    (hb : ∀ p ∈ l, bp n p) (hn : n ≤ 1900) (hl : l.length ≤ 10000) (h0 : sdok l) : callN T (k+6) f [.tup (l.map pd)] S = .ok (.int ((ar2 l - bor l + 2) / 2)) S := by
  refine eq_of_wc (wc_run hT rfl fun N K R X hN hR => ?_)
  (repeat infer_instance)
  refine wc_eq (area_ok ha hd hb hn hl) ?_
  (repeat infer_instance)
  refine wc_eq (border_ok hbo hes hsd hm he hp hs hd hb hn hl h0) ?_
  (repeat infer_instance)
  exact hR _ _ (wx_same ⟨rfl, rfl⟩)
theorem sh_pd {m n : Nat} (h : bp n p) (hn : n ≤ 1900) : Sh (m + 2) (2 * n + 11) (pd p) := by
  obtain ⟨a, b⟩ := p
  exact sh_le (sh_tup (shl_cons (sh_int h.1 hn) (shl_cons (sh_int h.2 hn) shl_nil))) (by omega)
theorem sh_pts {m n c : Nat} (h : ∀ p ∈ l, bp n p) (hn : n ≤ 1900) (hl : l.length ≤ c) : Sh (m + 3) (c * (2 * n + 13) + 3) (.tup (l.map pd)) :=
  sh_tup (shl_map (fun p hp => sh_pd (h p hp) hn) hl)
end PLG

set_option linter.all false
set_option pp.deepTerms false
set_option pp.deepTerms.threshold 12
set_option maxHeartbeats 1000000
/-! values of any kind, and small judges -/
namespace JDG
open PySem GV GX
open L2 (atI ixN)
local macro_rules | `(tactic| infer_instance) => `(tactic| first | ((with_reducible apply e_loc); (repeat ((with_reducible refine look_ne ?_ ?_); decide)); (first | ((with_reducible refine look_eq ?_); (repeat (first | (with_reducible refine lt_set ?_) | exact Nat.le_of_ble_eq_true rfl))) | exact rfl)) | (with_reducible first | refine e_cst ?_ | refine e_bin ?_ | refine e_idx ?_ | refine e_call ?_ | refine wl_cons ?_ | refine wl_nil ?_ | refine e_tup ?_ | refine e_b1 ?_ | refine e_cmp ?_ | refine e_lst ?_ | refine e_neg ?_ | refine e_not ?_ | refine e_and ?_ | refine e_or ?_ | refine e_ife ?_ | refine e_chain ?_ | refine e_isa ?_ | refine e_sl ?_ | refine e_slh ?_ | refine e_sll ?_ | refine e_sla ?_ | refine e_rev ?_ | refine e_alc ?_ | refine e_callK ?_ | refine e_b2 ?_ | refine e_rng1 ?_ | refine e_rng2 ?_ | refine e_enm ?_ | refine e_zip ?_ | refine e_comp ?_ | refine e_meth ?_ | refine e_frz0 ?_ | refine e_frz1 ?_ | refine e_sset ?_ | refine e_sdct ?_ | refine e_lzip ?_ | refine e_upr ?_ | refine e_dct ?_ | refine s_seq ?_ | refine s_set ?_ | refine s_unp ?_ | refine s_par ?_ | refine s_ret ?_ | refine s_ite ?_ | refine s_for ?_ | refine s_ex ?_ | refine s_skip ?_ | refine s_setx ?_ | refine s_cont ?_ | refine s_retN ?_ | refine s_raise0 ?_ | refine s_raise1 ?_ | refine wo_lt ?_ | refine wo_le ?_ | refine wo_gt ?_ | refine wo_ge ?_ | refine wo_eqi ?_ | refine wo_nei ?_ | refine wo_of litems_new ?_ | refine wo_of items_new ?_ | refine wo_of b1len_new ?_ | refine wo_of b1tuple_new ?_ | refine wo_of b1list_new ?_ | refine wo_of slice_new ?_ | refine wo_isN ?_ | refine wo_notN ?_ | refine wo_slT ?_ | refine wo_slL ?_ | refine wo_lenT ?_ | refine wo_lenL ?_ | refine wo_tupT ?_ | refine wo_tupL ?_ | refine wo_lstT ?_ | refine wo_lstL ?_) | (with_reducible refine wo_dbl1 ?_) | (with_reducible refine wo_eqs ?_) | (with_reducible refine wo_nes ?_) | ((with_reducible refine wo_eqsN ?_ ?_); (decide +kernel)) | ((with_reducible refine wo_nesN ?_ ?_); (decide +kernel)) | ((with_reducible refine wo_eqn ?_ ?_ ?_); exact rfl; exact rfl) | ((with_reducible refine wo_nen ?_ ?_ ?_); exact rfl; exact rfl) | ((with_reducible refine wo_inT ?_ ?_ ?_); exact rfl; exact rfl) | ((with_reducible refine wo_ninT ?_ ?_ ?_); exact rfl; exact rfl) | ((with_reducible refine wo_modE ?_ ?_); omega) | ((with_reducible refine wo_fdivE ?_ ?_); omega) | ((with_reducible refine wo_mulS ?_ ?_); omega) | ((with_reducible refine wo_mul ?_ ?_); exact mulOk_bd (by (repeat (first | assumption | (with_reducible apply bd_mul) | (with_reducible apply bd_add) | (with_reducible apply bd_sub) | (with_reducible apply bd_neg) | (with_reducible apply bd_abs) | exact bd80 (by omega)))) (by (repeat (first | assumption | (with_reducible apply bd_mul) | (with_reducible apply bd_add) | (with_reducible apply bd_sub) | (with_reducible apply bd_neg) | (with_reducible apply bd_abs) | exact bd80 (by omega)))) (by omega)) | ((with_reducible apply wo_of); exact rfl) | ((with_reducible refine wo_reprN ?_ ?_); exact sh_fin (by (repeat (first | assumption | (with_reducible apply sh_tup) | (with_reducible apply sh_lst) | (with_reducible apply shl_cons) | (with_reducible apply shl_app) | (with_reducible apply shl_nil) | (with_reducible apply sh_non) | (with_reducible apply sh_bl) | ((with_reducible apply sh_int); (repeat (first | assumption | (with_reducible apply bd_mul) | (with_reducible apply bd_add) | (with_reducible apply bd_sub) | (with_reducible apply bd_neg) | (with_reducible apply bd_abs) | exact bd80 (by omega))); omega) | ((with_reducible apply sh_str); decide)))) (by decide)) | ((with_reducible refine wo_repr ?_ ?_); exact sh_fin (by (repeat (first | assumption | (with_reducible apply sh_tup) | (with_reducible apply sh_lst) | (with_reducible apply shl_cons) | (with_reducible apply shl_app) | (with_reducible apply shl_nil) | (with_reducible apply sh_non) | (with_reducible apply sh_bl) | ((with_reducible apply sh_int); (repeat (first | assumption | (with_reducible apply bd_mul) | (with_reducible apply bd_add) | (with_reducible apply bd_sub) | (with_reducible apply bd_neg) | (with_reducible apply bd_abs) | exact bd80 (by omega))); omega) | ((with_reducible apply sh_str); decide)))) (by decide)) | (with_reducible refine wif_t ?_) | (with_reducible refine wif_f ?_) | refine wif_t ?_ | refine wif_f ?_ | ((with_reducible refine and_rng ?_ ?_); omega) | ((with_reducible refine and_rng2 ?_ ?_); omega) | (refine And.intro (Nat.le_of_ble_eq_true rfl) ?_) | refine And.intro rfl ?_)
def noRef : D → Bool
  | .ref _ => false
  | .exo _ _ _ => false
  | _ => true
def isI : D → Bool
  | .int _ => true
  | _ => false
def okW (lo hi : Int) : D → Bool
  | .int i => decide (lo ≤ i) && decide (i ≤ hi)
  | _ => false
def dfNum : Df := ⟨1, 1, false, (.ret (.and (.isa .int (.loc 0)) (.not (.isa .bool (.loc 0)))))⟩
def dfWithin (j : Nat) : Df := ⟨3, 3, false, (.ret (.and (.call j (.cons (.loc 0) .nil)) (.chain .le .le (.loc 1) (.loc 0) (.loc 2))))⟩
variable {T : List Df} {f j : Nat}
theorem num_ok (hT : T[f]? = some dfNum) {k : Nat} {d : D} {S : Sto} (hd : noRef d = true) : callN T (k+1) f [d] S = .ok (.bl (isI d)) S := by
  refine eq_of_wc (wc_run hT rfl fun N K R X hN hR => ?_)
  cases d <;> first | (cases hd; done) | ((repeat infer_instance); exact hR _ _ (wx_same ⟨rfl, rfl⟩))
theorem within_ok (hT : T[f]? = some (dfWithin j)) (hj : T[j]? = some dfNum) {k : Nat} {d : D} {S : Sto} {lo hi : Int} (hd : noRef d = true) : callN T (k+2) f [d, .int lo, .int hi] S = .ok (.bl (okW lo hi d)) S := by
  refine eq_of_wc (wc_run hT rfl fun N K R X hN hR => ?_)
  (repeat infer_instance)
  refine wc_eq (num_ok hj hd) ?_
  (repeat infer_instance)
  cases d <;> first | (cases hd; done) | ((repeat infer_instance); exact hR _ _ (wx_same ⟨rfl, rfl⟩)) | skip
  (repeat infer_instance)
  refine wif_d (fun h => ?_) fun h => ?_
  · (repeat infer_instance)
    exact hR _ _ (wx_same ⟨by simp [okW, h], rfl⟩)
  · exact hR _ _ (wx_same ⟨by simp [okW, h], rfl⟩)
def enq (q : D × Nat) : D := .tup [.int (q.2 : Int), q.1]
theorem enm_zip (ds : List D) : enmL 0 ds = (ds.zipIdx 0).map enq := enmL_eq ds 0
/-- the first that is none -/
def badP (p : D → Bool) (q : D × Nat) : Bool := !p q.1
theorem all_of_none {p : D → Bool} {ds : List D} (h : (ds.zipIdx 0).find? (badP p) = none) : ∀ d ∈ ds, p d = true := fun d hd => by
  obtain ⟨i, hi, rfl⟩ := List.mem_iff_getElem.mp hd
  have := List.find?_eq_none.mp h (ds[i], i) (by rw [List.mem_zipIdx_iff_getElem?]; simp [hi])
  simpa [badP] using this
theorem mem_of_zip {ds : List D} {q : D × Nat} (h : q ∈ ds.zipIdx 0) : q.1 ∈ ds ∧ q.2 < ds.length := by
  obtain ⟨d, j⟩ := q
  have := List.mem_zipIdx h
  obtain ⟨_, h2, e⟩ := this
  refine ⟨by simp only; rw [e]; exact List.getElem_mem _, by simp only; omega⟩
theorem okW_int {lo hi : Int} {d : D} (h : okW lo hi d = true) : ∃ i, d = .int i ∧ lo ≤ i ∧ i ≤ hi := by
  cases d <;> first | (cases h; done) | skip
  simp only [okW, Bool.and_eq_true, decide_eq_true_eq] at h
  exact ⟨_, rfl, h.1, h.2⟩
theorem ints_of {lo hi : Int} {ds : List D} (h : ∀ d ∈ ds, okW lo hi d = true) : ∃ l : List Int, ds = l.map D.int ∧ ∀ i ∈ l, lo ≤ i ∧ i ≤ hi := by
  induction ds with
  | nil => exact ⟨[], rfl, by simp⟩
  | cons d ds ih =>
    obtain ⟨l, rfl, hl⟩ := ih fun x hx => h x (List.mem_cons_of_mem _ hx)
    obtain ⟨i, rfl, h1, h2⟩ := okW_int (h d List.mem_cons_self)
    exact ⟨i :: l, rfl, fun x hx => by rcases List.mem_cons.mp hx with rfl | hx; exact ⟨h1, h2⟩; exact hl x hx⟩
end JDG

set_option linter.all false
set_option pp.deepTerms false
set_option pp.deepTerms.threshold 12
set_option maxHeartbeats 4000000
namespace K67
open PySem GV GX D46
open DECK (Pt pd bp)
open L2 (atI ixN)
local macro_rules | `(tactic| infer_instance) => `(tactic| first | ((with_reducible apply e_loc); (repeat ((with_reducible refine look_ne ?_ ?_); decide)); (first | ((with_reducible refine look_eq ?_); (repeat (first | (with_reducible refine lt_set ?_) | exact Nat.le_of_ble_eq_true rfl))) | exact rfl)) | (with_reducible first | refine e_cst ?_ | refine e_bin ?_ | refine e_idx ?_ | refine e_call ?_ | refine wl_cons ?_ | refine wl_nil ?_ | refine e_tup ?_ | refine e_b1 ?_ | refine e_cmp ?_ | refine e_lst ?_ | refine e_neg ?_ | refine e_not ?_ | refine e_and ?_ | refine e_or ?_ | refine e_ife ?_ | refine e_chain ?_ | refine e_isa ?_ | refine e_sl ?_ | refine e_slh ?_ | refine e_sll ?_ | refine e_sla ?_ | refine e_rev ?_ | refine e_alc ?_ | refine e_callK ?_ | refine e_b2 ?_ | refine e_rng1 ?_ | refine e_rng2 ?_ | refine e_enm ?_ | refine e_zip ?_ | refine e_comp ?_ | refine e_meth ?_ | refine e_frz0 ?_ | refine e_frz1 ?_ | refine e_sset ?_ | refine e_sdct ?_ | refine e_lzip ?_ | refine e_upr ?_ | refine e_dct ?_ | refine s_seq ?_ | refine s_set ?_ | refine s_unp ?_ | refine s_par ?_ | refine s_ret ?_ | refine s_ite ?_ | refine s_for ?_ | refine s_ex ?_ | refine s_skip ?_ | refine s_setx ?_ | refine s_cont ?_ | refine s_retN ?_ | refine s_raise0 ?_ | refine s_raise1 ?_ | refine wo_lt ?_ | refine wo_le ?_ | refine wo_gt ?_ | refine wo_ge ?_ | refine wo_eqi ?_ | refine wo_nei ?_ | refine wo_of litems_new ?_ | refine wo_of items_new ?_ | refine wo_of b1len_new ?_ | refine wo_of b1tuple_new ?_ | refine wo_of b1list_new ?_ | refine wo_of slice_new ?_ | refine wo_isN ?_ | refine wo_notN ?_ | refine wo_slT ?_ | refine wo_slL ?_ | refine wo_lenT ?_ | refine wo_lenL ?_ | refine wo_tupT ?_ | refine wo_tupL ?_ | refine wo_lstT ?_ | refine wo_lstL ?_) | (with_reducible refine wo_dbl1 ?_) | (with_reducible refine wo_eqs ?_) | (with_reducible refine wo_nes ?_) | ((with_reducible refine wo_eqsN ?_ ?_); (decide +kernel)) | ((with_reducible refine wo_nesN ?_ ?_); (decide +kernel)) | ((with_reducible refine wo_eqn ?_ ?_ ?_); exact rfl; exact rfl) | ((with_reducible refine wo_nen ?_ ?_ ?_); exact rfl; exact rfl) | ((with_reducible refine wo_inT ?_ ?_ ?_); exact rfl; exact rfl) | ((with_reducible refine wo_ninT ?_ ?_ ?_); exact rfl; exact rfl) | ((with_reducible refine wo_modE ?_ ?_); omega) | ((with_reducible refine wo_fdivE ?_ ?_); omega) | ((with_reducible refine wo_mulS ?_ ?_); omega) | ((with_reducible refine wo_mul ?_ ?_); exact mulOk_bd (by (repeat (first | assumption | (with_reducible apply bd_mul) | (with_reducible apply bd_add) | (with_reducible apply bd_sub) | (with_reducible apply bd_neg) | (with_reducible apply bd_abs) | exact bd80 (by omega)))) (by (repeat (first | assumption | (with_reducible apply bd_mul) | (with_reducible apply bd_add) | (with_reducible apply bd_sub) | (with_reducible apply bd_neg) | (with_reducible apply bd_abs) | exact bd80 (by omega)))) (by omega)) | ((with_reducible apply wo_of); exact rfl) | ((with_reducible refine wo_reprN ?_ ?_); exact sh_fin (by (repeat (first | assumption | (with_reducible apply sh_tup) | (with_reducible apply sh_lst) | (with_reducible apply shl_cons) | (with_reducible apply shl_app) | (with_reducible apply shl_nil) | (with_reducible apply sh_non) | (with_reducible apply sh_bl) | ((with_reducible apply sh_int); (repeat (first | assumption | (with_reducible apply bd_mul) | (with_reducible apply bd_add) | (with_reducible apply bd_sub) | (with_reducible apply bd_neg) | (with_reducible apply bd_abs) | exact bd80 (by omega))); omega) | ((with_reducible apply sh_str); decide)))) (by decide)) | ((with_reducible refine wo_repr ?_ ?_); exact sh_fin (by (repeat (first | assumption | (with_reducible apply sh_tup) | (with_reducible apply sh_lst) | (with_reducible apply shl_cons) | (with_reducible apply shl_app) | (with_reducible apply shl_nil) | (with_reducible apply sh_non) | (with_reducible apply sh_bl) | ((with_reducible apply sh_int); (repeat (first | assumption | (with_reducible apply bd_mul) | (with_reducible apply bd_add) | (with_reducible apply bd_sub) | (with_reducible apply bd_neg) | (with_reducible apply bd_abs) | exact bd80 (by omega))); omega) | ((with_reducible apply sh_str); decide)))) (by decide)) | (with_reducible refine wif_t ?_) | (with_reducible refine wif_f ?_) | refine wif_t ?_ | refine wif_f ?_ | ((with_reducible refine and_rng ?_ ?_); omega) | ((with_reducible refine and_rng2 ?_ ?_); omega) | (refine And.intro (Nat.le_of_ble_eq_true rfl) ?_) | refine And.intro rfl ?_)
variable {k : Nat} {S : Sto}
def gr (a b d : Int) : D := .tup [.int a, .int b, .int d]
/-- what is left of a point -/
def rs (a b d : Int) (p : Pt) : Pt := ((p.1 - p.2 / d * b) % a, p.2 - p.2 / d * d)
def hs (a b d : Int) (p : Pt) : Bool := decide (p.2 % d = 0) && decide ((p.1 - p.2 / d * b) % a = 0)
/-- a grid of index 12 at most -/
structure OkG (a b d : Int) : Prop where
  a1 : 1 ≤ a
  d1 : 1 ≤ d
  b0 : 0 ≤ b
  ba : b < a
  a2 : a ≤ 12
  d2 : d ≤ 12
theorem rest_ok {a b d : Int} {p : Pt} (g : OkG a b d) (h : bp 100 p) : callN T (k+1) i_rest [gr a b d, pd p] S = .ok (pd (rs a b d p)) S := by
  obtain ⟨x, y⟩ := p
  obtain ⟨h1, h2⟩ := h
  have := g.a1; have := g.d1; have := g.b0; have := g.ba; have := g.a2; have := g.d2
  simp only at h1 h2
  have h3 := bd_ediv (b := d) h2 (by omega)
  refine eq_of_wc (wc_run rfl rfl fun N K R X hN hR => ?_)
  simp only [pd, gr, rs] at hR hN ⊢
  (repeat infer_instance)
  exact hR _ _ (wx_same ⟨rfl, rfl⟩)
theorem rs0 {a b d : Int} {p : Pt} : decide (pd (rs a b d p) = .tup [.int 0, .int 0]) = hs a b d p := by
  unfold rs hs pd
  have e : p.2 - p.2 / d * d = p.2 % d := by rw [Int.emod_def, Int.mul_comm]
  simp only [e]
  rw [Bool.eq_iff_iff]
  simp [and_comm]
theorem has_ok {a b d : Int} {p : Pt} (g : OkG a b d) (h : bp 100 p) : callN T (k+2) i_has [gr a b d, pd p] S = .ok (.bl (hs a b d p)) S := by
  refine eq_of_wc (wc_run rfl rfl fun N K R X hN hR => ?_)
  (repeat infer_instance)
  refine wc_eq (rest_ok g h) ?_
  (repeat infer_instance)
  rw [rs0]
  exact hR _ _ (wx_same ⟨rfl, rfl⟩)
theorem lhas_ok {a b d : Int} {p : Pt} (g : OkG a b d) (h : bp 100 p) : callN T (k+1) i__law_has [gr a b d, pd p] S = .ok (.bl (hs a b d p)) S := by
  obtain ⟨x, y⟩ := p
  obtain ⟨h1, h2⟩ := h
  have := g.a1; have := g.d1; have := g.b0; have := g.ba; have := g.a2; have := g.d2
  simp only at h1 h2
  have h3 := bd_ediv (b := d) h2 (by omega)
  refine eq_of_wc (wc_run rfl rfl fun N K R X hN hR => ?_)
  simp only [pd, gr, hs] at hR hN ⊢
  (repeat infer_instance)
  refine wif_d (fun q => ?_) fun q => ?_
  · (repeat infer_instance)
    exact hR _ _ (wx_same ⟨by simp [q], rfl⟩)
  · (repeat infer_instance)
    exact hR _ _ (wx_same ⟨by simp [q], rfl⟩)
theorem bp_small {x y : Int} (h : -1208925819614629174706176 < x ∧ x < 1208925819614629174706176) (h2 : -1208925819614629174706176 < y ∧ y < 1208925819614629174706176) : bp 100 (x, y) := ⟨bd_le (bd80 h) (by omega), bd_le (bd80 h2) (by omega)⟩
/-! ### the turn -/
def tnOk (a b d e : Int) : Bool := decide (e % a = 0) && (hs a b d (0, e) && (hs a b d (e, 0) && ((List.range 12).all fun f => decide (e ≤ (f : Int) + 1) || (!(hs a b d ((f : Int) + 1, 0) && hs a b d (0, (f : Int) + 1)) && !(decide (((f : Int) + 1) % a = 0) && hs a b d (0, (f : Int) + 1))))))
theorem tn_ex : ∀ a : Nat, a < 13 → ∀ b : Nat, b < a → ∀ d : Nat, d < 13 → 1 ≤ d → a * d ≤ 12 → ((List.range 12).any fun e => tnOk (a : Int) (b : Int) (d : Int) ((e : Int) + 1)) = true := by decide +kernel
theorem tn_ok {a b d : Int} (g : OkG a b d) (hi : a * d ≤ 12) : ∃ e : Int, 1 ≤ e ∧ e ≤ 12 ∧ e % a = 0 ∧ hs a b d (0, e) = true ∧ hs a b d (e, 0) = true ∧ (∀ f : Int, 1 ≤ f → f < e → (hs a b d (f, 0) && hs a b d (0, f)) = false) ∧ ∀ f : Int, 1 ≤ f → f < e → f % a = 0 → hs a b d (0, f) = false := by
  obtain ⟨a1, d1, b0, ba, a2, d2⟩ := g
  obtain ⟨a, rfl⟩ := Int.eq_ofNat_of_zero_le (show 0 ≤ a by omega)
  obtain ⟨b, rfl⟩ := Int.eq_ofNat_of_zero_le (show 0 ≤ b by omega)
  obtain ⟨d, rfl⟩ := Int.eq_ofNat_of_zero_le (show 0 ≤ d by omega)
  have := tn_ex a (by omega) b (by omega) d (by omega) (by omega) (by exact_mod_cast hi)
  obtain ⟨e, he, h⟩ := List.any_eq_true.mp this
  have he' : e < 12 := List.mem_range.mp he
  unfold tnOk at h
  simp only [Bool.and_eq_true, decide_eq_true_eq, List.all_eq_true, List.mem_range, Bool.or_eq_true] at h
  obtain ⟨h1, h2, h3, h4⟩ := h
  refine ⟨(e : Int) + 1, by omega, by omega, h1, h2, h3, fun f f1 f2 => ?_, fun f f1 f2 f3 => ?_⟩
  · obtain ⟨m, rfl⟩ : ∃ m : Nat, f = (m : Int) + 1 := ⟨(f - 1).toNat, by omega⟩
    have := (h4 m (by omega)).resolve_left (by omega)
    have := this.1
    revert this
    cases hs (a : Int) b d ((m : Int) + 1, 0) <;> cases hs (a : Int) b d (0, (m : Int) + 1) <;> simp
  · obtain ⟨m, rfl⟩ : ∃ m : Nat, f = (m : Int) + 1 := ⟨(f - 1).toNat, by omega⟩
    have := (h4 m (by omega)).resolve_left (by omega)
    have := this.2
    simp only [f3, decide_true, Bool.true_and] at this
    simpa using this
theorem turn_ok {a b d e : Int} (g : OkG a b d) (e1 : 1 ≤ e) (e2 : e ≤ 12) (ea : e % a = 0) (h0 : hs a b d (0, e) = true) (hn : ∀ f : Int, 1 ≤ f → f < e → f % a = 0 → hs a b d (0, f) = false) : callN T (k+3) i_turn [gr a b d] S = .ok (.int e) S := by
  have := g.a1
  have ge : a ≤ e := Int.le_of_dvd (by omega) (Int.dvd_of_emod_eq_zero ea)
  refine eq_of_wc (wc_run rfl rfl fun N K R X hN hR => ?_)
  have fin : ∀ ρ, ρ[1]? = some (some (.int e)) → WS (callN T (k + 2)) (.ret (.loc 1)) ρ S N K R X := fun ρ h => s_ret (e_loc h (hR _ _ (wx_same ⟨rfl, rfl⟩)))
  simp only [gr] at hR hN ⊢
  (repeat infer_instance)
  refine s_whl2 (fun n ρ S' => S' = S ∧ ∃ f : Int, n = (13 - f).toNat ∧ 1 ≤ f ∧ f ≤ e ∧ f % a = 0 ∧ ρ = [some (gr a b d), some (.int f), some (.int a), some (.int b), some (.int d)])
    (fun ρ S' => S' = S ∧ ρ = [some (gr a b d), some (.int e), some (.int a), some (.int b), some (.int d)]) _ ⟨rfl, a, rfl, by omega, ge, by simp, rfl⟩ ?_ ?_
  · rintro n ρ _ N' M ⟨rfl, f, rfl, f1, f2, f3, rfl⟩ hN' hM
    (repeat infer_instance)
    refine wc_eq (has_ok (p := (0, f)) g (bp_small ⟨by omega, by omega⟩ ⟨by omega, by omega⟩)) ?_
    (repeat infer_instance)
    by_cases q : f = e
    · subst q
      rw [h0]
      (repeat infer_instance)
      exact hM _ _ ⟨rfl, rfl⟩
    · rw [hn f f1 (by omega) f3]
      have : f + a ≤ e := by
        have h1 := Int.dvd_of_emod_eq_zero ea
        have h2 := Int.dvd_of_emod_eq_zero f3
        have := Int.le_of_dvd (by omega) (Int.dvd_sub h1 h2)
        omega
      (repeat infer_instance)
      exact hN' _ _ _ (by omega) ⟨rfl, f + a, rfl, by omega, this, by simp [f3], rfl⟩
  · rintro _ _ ⟨rfl, rfl⟩
    exact fin _ rfl
theorem lturn_ok {a b d e : Int} (g : OkG a b d) (e1 : 1 ≤ e) (e2 : e ≤ 12) (h1 : hs a b d (0, e) = true) (h0 : hs a b d (e, 0) = true) (hn : ∀ f : Int, 1 ≤ f → f < e → (hs a b d (f, 0) && hs a b d (0, f)) = false) : callN T (k+3) i__law_turn [gr a b d] S = .ok (.int e) S := by
  refine eq_of_wc (wc_run rfl rfl fun N K R X hN hR => ?_)
  (repeat infer_instance)
  refine f_rng 1 12 rfl (fun i ρ S' => S' = S ∧ (∃ x, ρ = [some (gr a b d), x]) ∧ (i : Int) < e) ⟨rfl, ⟨_, rfl⟩, by omega⟩ ?_ ?_
  · rintro i _ S' N' hi ⟨rfl, ⟨x, rfl⟩, hie⟩ hN'
    (repeat infer_instance)
    refine wc_eq (lhas_ok (p := (1 + (i : Int), 0)) g (bp_small ⟨by omega, by omega⟩ ⟨by omega, by omega⟩)) ?_
    (repeat infer_instance)
    have q := hn (1 + (i : Int)) (by omega)
    by_cases hq : 1 + (i : Int) = e
    · rw [hq, h0]
      (repeat infer_instance)
      refine wc_eq (lhas_ok (p := (0, e)) g (bp_small ⟨by omega, by omega⟩ ⟨by omega, by omega⟩)) ?_
      (repeat infer_instance)
      rw [h1]
      (repeat infer_instance)
      exact hR _ _ (wx_same ⟨rfl, rfl⟩)
    · have q := q (by omega)
      have nx : N' [some (gr a b d), some (.int (1 + (i : Int)))] S' := hN' _ _ True.intro ⟨rfl, ⟨_, rfl⟩, by omega⟩
      cases q1 : hs a b d (1 + (i : Int), 0)
      · (repeat infer_instance)
        exact nx
      · (repeat infer_instance)
        refine wc_eq (lhas_ok (p := (0, 1 + (i : Int))) g (bp_small ⟨by omega, by omega⟩ ⟨by omega, by omega⟩)) ?_
        rw [q1, Bool.true_and] at q
        rw [q]
        (repeat infer_instance)
        exact nx
  · rintro _ _ ⟨rfl, _, h⟩
    omega
/-! ### the one point -/
def row (a b d : Int) (p : Pt) (x : Nat) : List Pt := (List.range d.toNat).filterMap fun (y : Nat) => if hs a b d (p.1 - x, p.2 - y) then some ((x : Int), (y : Int)) else none
theorem fmc {α β : Type} {f g : α → Option β} : ∀ {l : List α}, (∀ x ∈ l, f x = g x) → l.filterMap f = l.filterMap g
  | [], _ => rfl
  | x :: l, h => by
    rw [List.filterMap_cons, List.filterMap_cons, h x List.mem_cons_self, fmc fun y hy => h y (List.mem_cons_of_mem _ hy)]
theorem fm_one {α : Type} (n j : Nat) (v : α) : ((List.range n).filterMap fun y => if y = j then some v else none) = if j < n then [v] else [] := by
  induction n with
  | zero => rfl
  | succ n ih =>
    rw [List.range_succ, List.filterMap_append, ih]
    by_cases q : n = j
    · subst q; simp
    · rw [show List.filterMap (fun y => if y = j then some v else none) [n] = [] by simp [q], List.append_nil]
      by_cases q2 : j < n
      · rw [if_pos q2, if_pos (by omega)]
      · rw [if_neg q2, if_neg (by omega)]
theorem fl_one {α : Type} (n j : Nat) (v : α) : ((List.range n).flatMap fun y => if y = j then [v] else []) = if j < n then [v] else [] := by
  induction n with
  | zero => rfl
  | succ n ih =>
    rw [List.range_succ, List.flatMap_append, ih]
    by_cases q : n = j
    · subst q; simp
    · rw [show List.flatMap (fun y => if y = j then [v] else []) [n] = [] by simp [q], List.append_nil]
      by_cases q2 : j < n
      · rw [if_pos q2, if_pos (by omega)]
      · rw [if_neg q2, if_neg (by omega)]
theorem hs_iff {a b d : Int} {p : Pt} (g : OkG a b d) {x y : Nat} (hx : (x : Int) < a) (hy : (y : Int) < d) : hs a b d (p.1 - x, p.2 - y) = true ↔ (y : Int) = p.2 % d ∧ (x : Int) = (p.1 - p.2 / d * b) % a := by
  have := g.a1; have := g.d1
  unfold hs
  simp only [Bool.and_eq_true, decide_eq_true_eq]
  constructor
  · rintro ⟨h1, h2⟩
    have e1 : (y : Int) = p.2 % d := by
      have h := Int.emod_emod_of_dvd (p.2) (Int.dvd_refl d)
      have h3 := Int.emod_eq_emod_iff_emod_sub_eq_zero.mpr h1
      rw [h3, Int.emod_eq_of_lt (by omega) hy]
    have e2 : (p.2 - (y : Int)) / d = p.2 / d := by
      have := Int.emod_add_mul_ediv p.2 d
      rw [show p.2 - (y : Int) = d * (p.2 / d) by omega, Int.mul_ediv_cancel_left _ (by omega)]
    rw [e2] at h2
    refine ⟨e1, ?_⟩
    have h3 := Int.emod_eq_emod_iff_emod_sub_eq_zero.mpr (show (p.1 - p.2 / d * b - (x : Int)) % a = 0 by rw [← h2]; congr 1; omega)
    rw [h3, Int.emod_eq_of_lt (by omega) hx]
  · rintro ⟨e1, e2⟩
    have e3 : p.2 - (y : Int) = d * (p.2 / d) := by
      have := Int.emod_add_mul_ediv p.2 d
      omega
    rw [e3, Int.mul_ediv_cancel_left _ (by omega)]
    refine ⟨Int.mul_emod_right _ _, ?_⟩
    rw [show p.1 - (x : Int) - p.2 / d * b = (p.1 - p.2 / d * b) - x by omega]
    apply Int.emod_eq_emod_iff_emod_sub_eq_zero.mp
    rw [← e2, Int.emod_eq_of_lt (by omega) hx]
theorem rows_one {a b d : Int} (g : OkG a b d) (p : Pt) : ((List.range a.toNat).flatMap (row a b d p)) = [rs a b d p] := by
  have := g.a1; have := g.d1
  have m1 := emod_lt (a := p.1 - p.2 / d * b) (b := a) (by omega)
  have m2 := emod_lt (a := p.2) (b := d) (by omega)
  obtain ⟨x0, hx0⟩ := Int.eq_ofNat_of_zero_le m1.1
  obtain ⟨y0, hy0⟩ := Int.eq_ofNat_of_zero_le m2.1
  have er : rs a b d p = ((x0 : Int), (y0 : Int)) := by
    unfold rs
    rw [← hx0, ← hy0]
    congr 1
    rw [Int.emod_def, Int.mul_comm]
  have e : (List.range a.toNat).flatMap (row a b d p) = (List.range a.toNat).flatMap fun x => if x = x0 then [((x0 : Int), (y0 : Int))] else [] := by
    rw [List.flatMap_def, List.flatMap_def]
    congr 1
    refine List.map_congr_left fun x hx => ?_
    have hx' : (x : Int) < a := by have := List.mem_range.mp hx; omega
    unfold row
    have e2 : ((List.range d.toNat).filterMap fun (y : Nat) => if hs a b d (p.1 - x, p.2 - y) then some ((x : Int), (y : Int)) else none) = (List.range d.toNat).filterMap fun y => if y = y0 then (if x = x0 then some ((x0 : Int), (y0 : Int)) else none) else none := by
      refine fmc fun y hy => ?_
      have hy' : (y : Int) < d := by have := List.mem_range.mp hy; omega
      have := hs_iff (p := p) g hx' hy'
      rw [← hx0, ← hy0]
      by_cases q : hs a b d (p.1 - x, p.2 - y) = true
      · have h := this.mp q
        have q1 : y = y0 := by omega
        have q2 : x = x0 := by omega
        rw [if_pos q, if_pos q1, if_pos q2, h.1, h.2]
      · rw [if_neg q]
        by_cases q1 : y = y0
        · rw [if_pos q1]
          by_cases q2 : x = x0
          · exact absurd (this.mpr ⟨by omega, by omega⟩) q
          · rw [if_neg q2]
        · rw [if_neg q1]
    rw [e2]
    by_cases q2 : x = x0
    · simp only [if_pos q2]
      rw [fm_one, if_pos (by omega)]
    · simp only [if_neg q2]
      simp
  rw [e, fl_one, if_pos (by omega), er]
end K67

set_option linter.all false
set_option pp.deepTerms false
set_option pp.deepTerms.threshold 12
set_option maxHeartbeats 4000000
namespace K67
open PySem GV GX D46
open DECK (Pt pd bp)
open JDG (noRef isI num_ok)
open L2 (atI ixN)
local macro_rules | `(tactic| infer_instance) => `(tactic| first | ((with_reducible apply e_loc); (repeat ((with_reducible refine look_ne ?_ ?_); decide)); (first | ((with_reducible refine look_eq ?_); (repeat (first | (with_reducible refine lt_set ?_) | exact Nat.le_of_ble_eq_true rfl))) | exact rfl)) | (with_reducible first | refine e_cst ?_ | refine e_bin ?_ | refine e_idx ?_ | refine e_call ?_ | refine wl_cons ?_ | refine wl_nil ?_ | refine e_tup ?_ | refine e_b1 ?_ | refine e_cmp ?_ | refine e_lst ?_ | refine e_neg ?_ | refine e_not ?_ | refine e_and ?_ | refine e_or ?_ | refine e_ife ?_ | refine e_chain ?_ | refine e_isa ?_ | refine e_sl ?_ | refine e_slh ?_ | refine e_sll ?_ | refine e_sla ?_ | refine e_rev ?_ | refine e_alc ?_ | refine e_callK ?_ | refine e_b2 ?_ | refine e_rng1 ?_ | refine e_rng2 ?_ | refine e_enm ?_ | refine e_zip ?_ | refine e_comp ?_ | refine e_meth ?_ | refine e_frz0 ?_ | refine e_frz1 ?_ | refine e_sset ?_ | refine e_sdct ?_ | refine e_lzip ?_ | refine e_upr ?_ | refine e_dct ?_ | refine s_seq ?_ | refine s_set ?_ | refine s_unp ?_ | refine s_par ?_ | refine s_ret ?_ | refine s_ite ?_ | refine s_for ?_ | refine s_ex ?_ | refine s_skip ?_ | refine s_setx ?_ | refine s_cont ?_ | refine s_retN ?_ | refine s_raise0 ?_ | refine s_raise1 ?_ | refine wo_lt ?_ | refine wo_le ?_ | refine wo_gt ?_ | refine wo_ge ?_ | refine wo_eqi ?_ | refine wo_nei ?_ | refine wo_of litems_new ?_ | refine wo_of items_new ?_ | refine wo_of b1len_new ?_ | refine wo_of b1tuple_new ?_ | refine wo_of b1list_new ?_ | refine wo_of slice_new ?_ | refine wo_isN ?_ | refine wo_notN ?_ | refine wo_slT ?_ | refine wo_slL ?_ | refine wo_lenT ?_ | refine wo_lenL ?_ | refine wo_tupT ?_ | refine wo_tupL ?_ | refine wo_lstT ?_ | refine wo_lstL ?_) | (with_reducible refine wo_dbl1 ?_) | (with_reducible refine wo_eqs ?_) | (with_reducible refine wo_nes ?_) | ((with_reducible refine wo_eqsN ?_ ?_); (decide +kernel)) | ((with_reducible refine wo_nesN ?_ ?_); (decide +kernel)) | ((with_reducible refine wo_eqn ?_ ?_ ?_); exact rfl; exact rfl) | ((with_reducible refine wo_nen ?_ ?_ ?_); exact rfl; exact rfl) | ((with_reducible refine wo_inT ?_ ?_ ?_); exact rfl; exact rfl) | ((with_reducible refine wo_ninT ?_ ?_ ?_); exact rfl; exact rfl) | ((with_reducible refine wo_modE ?_ ?_); omega) | ((with_reducible refine wo_fdivE ?_ ?_); omega) | ((with_reducible refine wo_mulS ?_ ?_); omega) | ((with_reducible refine wo_mul ?_ ?_); exact mulOk_bd (by (repeat (first | assumption | (with_reducible apply bd_mul) | (with_reducible apply bd_add) | (with_reducible apply bd_sub) | (with_reducible apply bd_neg) | (with_reducible apply bd_abs) | exact bd80 (by omega)))) (by (repeat (first | assumption | (with_reducible apply bd_mul) | (with_reducible apply bd_add) | (with_reducible apply bd_sub) | (with_reducible apply bd_neg) | (with_reducible apply bd_abs) | exact bd80 (by omega)))) (by omega)) | ((with_reducible apply wo_of); exact rfl) | ((with_reducible refine wo_reprN ?_ ?_); exact sh_fin (by (repeat (first | assumption | (with_reducible apply sh_tup) | (with_reducible apply sh_lst) | (with_reducible apply shl_cons) | (with_reducible apply shl_app) | (with_reducible apply shl_nil) | (with_reducible apply sh_non) | (with_reducible apply sh_bl) | ((with_reducible apply sh_int); (repeat (first | assumption | (with_reducible apply bd_mul) | (with_reducible apply bd_add) | (with_reducible apply bd_sub) | (with_reducible apply bd_neg) | (with_reducible apply bd_abs) | exact bd80 (by omega))); omega) | ((with_reducible apply sh_str); decide)))) (by decide)) | ((with_reducible refine wo_repr ?_ ?_); exact sh_fin (by (repeat (first | assumption | (with_reducible apply sh_tup) | (with_reducible apply sh_lst) | (with_reducible apply shl_cons) | (with_reducible apply shl_app) | (with_reducible apply shl_nil) | (with_reducible apply sh_non) | (with_reducible apply sh_bl) | ((with_reducible apply sh_int); (repeat (first | assumption | (with_reducible apply bd_mul) | (with_reducible apply bd_add) | (with_reducible apply bd_sub) | (with_reducible apply bd_neg) | (with_reducible apply bd_abs) | exact bd80 (by omega))); omega) | ((with_reducible apply sh_str); decide)))) (by decide)) | (with_reducible refine wif_t ?_) | (with_reducible refine wif_f ?_) | refine wif_t ?_ | refine wif_f ?_ | ((with_reducible refine and_rng ?_ ?_); omega) | ((with_reducible refine and_rng2 ?_ ?_); omega) | (refine And.intro (Nat.le_of_ble_eq_true rfl) ?_) | refine And.intro rfl ?_)
variable {k : Nat} {S : Sto}
theorem gr_noRef {a b d : Int} : flat 23 (gr a b d) = true := rfl
theorem right_ok {G : Sto} {a b d : Int} (g : OkG a b d) {n : Nat} (g0 : GJ n G) : ∃ e S', callN T (k+3) i__law_is_point_right [.ref 1, gr a b d] G = .ok e S' ∧ e = .bl true ∧ GJ n S' := by
  obtain ⟨a1, d1, b0, ba, a2, d2⟩ := id g
  refine ex_of_wc (wc_run rfl rfl fun N K R X hN hR => ?_)
  have fin : ∀ G' c, GJ n G' → R (.bl true) (G' ++ [c]) := fun G' c g => hR _ _ (wx_gone2 (by rw [g.len, g0.len]) (g.lt (by rw [g0.len]; exact g0.two)) rfl ⟨rfl, g⟩)
  clear hR hN
  (repeat infer_instance)
  refine wc_ex (pick_okJ rfl rfl g0 (ds := [.int 3, .int 30, .int 1000000]) (by simp) (by simp)) ?_
  rintro _ G1 ⟨hm, g1⟩
  obtain ⟨far, rfl, f0, f1⟩ : ∃ far : Int, ‹D› = .int far ∧ 3 ≤ far ∧ far ≤ 1000000 := by
    simp only [List.mem_cons, List.not_mem_nil, or_false] at hm
    rcases hm with rfl | rfl | rfl
    · exact ⟨_, rfl, by omega, by omega⟩
    · exact ⟨_, rfl, by omega, by omega⟩
    · exact ⟨_, rfl, by omega, by omega⟩
  have fb : bd 100 far := bd_le (bd80 ⟨by omega, by omega⟩) (by omega)
  (repeat infer_instance)
  refine wc_ex (draw_okJ rfl g1 (by omega) (by omega)) ?_
  rintro _ G2 ⟨u, rfl, u0, u1, g2⟩
  (repeat infer_instance)
  refine wc_ex (draw_okJ rfl g2 (by omega) (by omega)) ?_
  rintro _ G3 ⟨v, rfl, v0, v1, g3⟩
  (repeat infer_instance)
  have hb : bp 100 (u - far, v - far) := bp_small ⟨by omega, by omega⟩ ⟨by omega, by omega⟩
  generalize hx : u - far = x at hb ⊢
  generalize hy : v - far = y at hb ⊢
  refine wc_eq (lhas_ok (p := (x, y)) g hb) ?_
  have l3 := g3.len
  (repeat infer_instance)
  rw [l3]
  (repeat infer_instance)
  have rl : ∀ z, (row a b d (x, y) z).length ≤ 12 := fun z => by
    unfold row
    refine Nat.le_trans (List.length_filterMap_le _ _) ?_
    rw [List.length_range]; omega
  have tl : ∀ i, ((List.range i).flatMap (row a b d (x, y))).length ≤ i * 12 := fun i => by
    induction i with
    | zero => simp
    | succ i ih =>
      rw [List.range_succ, List.flatMap_append, List.length_append]
      have := rl i
      simp only [List.flatMap_cons, List.flatMap_nil, List.append_nil]
      omega
  refine f_rng 0 a.toNat rfl (fun i ρ S' => (∃ z w, ρ = [some (.ref 1), some (gr a b d), some (.int far), some (.tup [.int x, .int y]), z, some (.bl (hs a b d (x, y))), some (.ref n), w]) ∧ S' = G3 ++ [.lst (((List.range i).flatMap (row a b d (x, y))).map pd)]) ⟨⟨_, _, rfl⟩, rfl⟩ ?_ ?_
  · rintro i ρ S' N' hi ⟨⟨z, w, rfl⟩, rfl⟩ hN'
    have tl1 := tl (i + 1)
    have tl2 := tl i
    (repeat infer_instance)
    refine c_some (fun (j : Nat) => .int (0 + (j : Int))) (List.range d.toNat) (fun j => if hs a b d (x - i, y - j) then some (pd ((i : Int), (j : Int))) else none) (rngL_eq _ _) ?_ (by simp; omega) (fun j hj R hR => ?_) ?_
    · exact True.intro
    · have hj' : (j : Int) < d := by have := List.mem_range.mp hj; omega
      (repeat infer_instance)
      rw [show (0 : Int) + (j : Int) = j from Int.zero_add _, show (0 : Int) + (i : Int) = i from Int.zero_add _]
      refine wc_eq (lhas_ok (p := (x - i, y - j)) g (bp_small ⟨by omega, by omega⟩ ⟨by omega, by omega⟩)) ?_
      (repeat infer_instance)
      cases q : hs a b d (x - i, y - j)
      · rw [q] at hR
        (repeat infer_instance)
        exact hR
      · rw [q] at hR
        (repeat infer_instance)
        exact hR
    · have el : (List.range d.toNat).filterMap (fun (j : Nat) => if hs a b d (x - i, y - j) then some (pd ((i : Int), (j : Int))) else none) = (row a b d (x, y) i).map pd := by
        unfold row
        rw [List.map_filterMap]
        refine fmc fun j _ => ?_
        simp only
        cases hs a b d (x - i, y - j) <;> rfl
      rw [el]
      have e3 : (List.range (i + 1)).flatMap (row a b d (x, y)) = (List.range i).flatMap (row a b d (x, y)) ++ row a b d (x, y) i := by rw [List.range_succ, List.flatMap_append]; simp
      rw [e3, List.length_append] at tl1
      (repeat infer_instance)
      refine wo_ext rfl (by simp only [List.length_map]; omega) ?_
      refine hN' _ _ True.intro ⟨⟨_, _, rfl⟩, ?_⟩
      rw [e3, List.map_append]
  · rintro _ _ ⟨⟨z, w, rfl⟩, rfl⟩
    rw [rows_one g (x, y)]
    (repeat infer_instance)
    refine wc_eq (has_ok (p := (x, y)) g hb) ?_
    (repeat infer_instance)
    refine wc_eq (has_ok (p := (x, y)) g hb) ?_
    (repeat infer_instance)
    refine wc_eq (rest_ok (p := (x, y)) g hb) ?_
    (repeat infer_instance)
    refine wc_eq (rest_ok (p := (x, y)) g hb) ?_
    have hrb : bp 100 (rs a b d (x, y)) := by
      have m1 := emod_lt (a := x - y / d * b) (b := a) (by omega)
      have m2 := emod_lt (a := y) (b := d) (by omega)
      have e : y - y / d * d = y % d := by rw [Int.emod_def, Int.mul_comm]
      unfold rs
      simp only
      rw [e]
      exact bp_small ⟨by omega, by omega⟩ ⟨by omega, by omega⟩
    have hr : Rpr (.lst [pd (rs a b d (x, y)), pd (rs a b d (x, y))]) := sh_fin (sh_lst (shl_cons (PLG.sh_pd hrb (by decide)) (shl_cons (PLG.sh_pd hrb (by decide)) shl_nil))) (by decide)
    (repeat infer_instance)
    refine wo_repr hr ?_
    (repeat infer_instance)
    refine wo_idx (items_new l3) rfl ?_
    (repeat infer_instance)
    refine wo_idx (items_new l3) rfl ?_
    (repeat infer_instance)
    refine wo_repr hr ?_
    (repeat infer_instance)
    exact fin _ _ g3
def pd3 (t : Int × Int × Int) : D := gr t.1 t.2.1 t.2.2
def pp3 (t : Int × Int × Int) : PyData := .tuple [.int t.1, .int t.2.1, .int t.2.2]
def rowI (n i : Nat) : List (Int × Int × Int) := if (n : Int) % (1 + (i : Int)) = 0 then (List.range (i + 1)).map fun (b : Nat) => (1 + (i : Int), (b : Int), (n : Int) / (1 + (i : Int))) else []
def tabI (n m : Nat) : List (Int × Int × Int) := (List.range m).flatMap (rowI n)
def tabB (n : Nat) : Bool := allAlike ((tabI n n).map pp3) && (sortable ((tabI n n).map pp3) && decide (((tabI n n).map fun t => (pd3 t, pp3 t)).Pairwise fun p q => leP p q = true))
theorem tab_ok : ∀ n : Nat, n < 13 → tabB n = true := by decide +kernel
theorem tab_sorted {n : Nat} (h : n < 13) : sortD S ((tabI n n).map pd3) = some ((tabI n n).map pd3) := by
  have ht := tab_ok n h
  unfold tabB at ht
  simp only [Bool.and_eq_true, decide_eq_true_eq] at ht
  obtain ⟨h1, h2, h3⟩ := ht
  have e : mapO (withPy S) ((tabI n n).map pd3) = some ((tabI n n).map fun t => (pd3 t, pp3 t)) := by
    generalize tabI n n = l
    induction l with
    | nil => rfl
    | cons t l ih => rw [List.map_cons, mapO, ih]; rfl
  have e2 : ((tabI n n).map fun t => (pd3 t, pp3 t)).map (·.2) = (tabI n n).map pp3 := by rw [List.map_map]; rfl
  have e1 : ((tabI n n).map fun t => (pd3 t, pp3 t)).map (·.1) = (tabI n n).map pd3 := by rw [List.map_map]; rfl
  unfold sortD
  rw [e]
  simp only [e2]
  rw [if_pos ⟨h1, h2⟩, List.mergeSort_of_pairwise h3, e1]
theorem tab_len : ∀ n : Nat, n < 13 → ∀ m : Nat, m < 13 → (tabI n m).length ≤ 100 := by decide +kernel
theorem tabI_succ {n m : Nat} : tabI n (m + 1) = tabI n m ++ rowI n m := by unfold tabI; rw [List.range_succ, List.flatMap_append]; simp
theorem all_ok {n : Nat} (h1 : 1 ≤ n) (h2 : n ≤ 12) : callN T (k+1) i_all_grids [.int n] S = .ok (.tup ((tabI n n).map pd3)) S := by
  refine eq_of_wc (wc_run rfl rfl fun N K R X hN hR => ?_)
  (repeat infer_instance)
  refine f_rng 1 n (by congr 1; omega) (fun i ρ S' => (∃ x y, ρ = [some (.int n), some (.ref S.length), x, y]) ∧ S' = S ++ [.lst ((tabI n i).map pd3)]) ⟨⟨_, _, rfl⟩, rfl⟩ ?_ ?_
  · rintro i ρ S' N' hi ⟨⟨x, y, rfl⟩, rfl⟩ hN'
    (repeat infer_instance)
    refine wif_d (fun q => ?_) fun q => ?_
    · (repeat infer_instance)
      have tl := tab_len n (by omega) (i + 1) (by omega)
      rw [tabI_succ, List.length_append] at tl
      refine c_map (fun (j : Nat) => .int (0 + (j : Int))) (List.range (i + 1)) (fun j => pd3 (1 + (i : Int), (j : Int), (n : Int) / (1 + (i : Int)))) (by rw [rngL_eq]; congr 2; omega) ?_ (by simp; omega) (fun j hj R hR => ?_) ?_
      · exact True.intro
      · (repeat infer_instance)
        rw [show (0 : Int) + (j : Int) = j from Int.zero_add _]
        exact hR
      · have er : rowI n i = (List.range (i + 1)).map fun (b : Nat) => (1 + (i : Int), (b : Int), (n : Int) / (1 + (i : Int))) := by rw [rowI, if_pos q]
        have el : (List.range (i + 1)).map (fun (j : Nat) => pd3 (1 + (i : Int), (j : Int), (n : Int) / (1 + (i : Int)))) = (rowI n i).map pd3 := by rw [er, List.map_map]; rfl
        rw [el]
        (repeat infer_instance)
        refine wo_ext rfl (by simp; omega) ?_
        refine hN' _ _ True.intro ⟨⟨_, _, rfl⟩, ?_⟩
        rw [tabI_succ, List.map_append]
    · (repeat infer_instance)
      refine hN' _ _ True.intro ⟨⟨_, _, rfl⟩, ?_⟩
      rw [tabI_succ, rowI, if_neg q, List.append_nil]
  · rintro _ _ ⟨⟨x, y, rfl⟩, rfl⟩
    (repeat infer_instance)
    exact hR _ _ (wx_gone (by simp [flat]; intros; rfl) ⟨rfl, rfl⟩)
end K67

set_option linter.all false
set_option pp.deepTerms false
set_option pp.deepTerms.threshold 12
set_option maxHeartbeats 4000000
namespace K67
open PySem GV GX D46
open DECK (Pt pd bp)
open JDG (noRef isI num_ok)
open L2 (atI ixN)
local macro_rules | `(tactic| infer_instance) => `(tactic| first | ((with_reducible apply e_loc); (repeat ((with_reducible refine look_ne ?_ ?_); decide)); (first | ((with_reducible refine look_eq ?_); (repeat (first | (with_reducible refine lt_set ?_) | exact Nat.le_of_ble_eq_true rfl))) | exact rfl)) | (with_reducible first | refine e_cst ?_ | refine e_bin ?_ | refine e_idx ?_ | refine e_call ?_ | refine wl_cons ?_ | refine wl_nil ?_ | refine e_tup ?_ | refine e_b1 ?_ | refine e_cmp ?_ | refine e_lst ?_ | refine e_neg ?_ | refine e_not ?_ | refine e_and ?_ | refine e_or ?_ | refine e_ife ?_ | refine e_chain ?_ | refine e_isa ?_ | refine e_sl ?_ | refine e_slh ?_ | refine e_sll ?_ | refine e_sla ?_ | refine e_rev ?_ | refine e_alc ?_ | refine e_callK ?_ | refine e_b2 ?_ | refine e_rng1 ?_ | refine e_rng2 ?_ | refine e_enm ?_ | refine e_zip ?_ | refine e_comp ?_ | refine e_meth ?_ | refine e_frz0 ?_ | refine e_frz1 ?_ | refine e_sset ?_ | refine e_sdct ?_ | refine e_lzip ?_ | refine e_upr ?_ | refine e_dct ?_ | refine s_seq ?_ | refine s_set ?_ | refine s_unp ?_ | refine s_par ?_ | refine s_ret ?_ | refine s_ite ?_ | refine s_for ?_ | refine s_ex ?_ | refine s_skip ?_ | refine s_setx ?_ | refine s_cont ?_ | refine s_retN ?_ | refine s_raise0 ?_ | refine s_raise1 ?_ | refine wo_lt ?_ | refine wo_le ?_ | refine wo_gt ?_ | refine wo_ge ?_ | refine wo_eqi ?_ | refine wo_nei ?_ | refine wo_of litems_new ?_ | refine wo_of items_new ?_ | refine wo_of b1len_new ?_ | refine wo_of b1tuple_new ?_ | refine wo_of b1list_new ?_ | refine wo_of slice_new ?_ | refine wo_isN ?_ | refine wo_notN ?_ | refine wo_slT ?_ | refine wo_slL ?_ | refine wo_lenT ?_ | refine wo_lenL ?_ | refine wo_tupT ?_ | refine wo_tupL ?_ | refine wo_lstT ?_ | refine wo_lstL ?_) | (with_reducible refine wo_dbl1 ?_) | (with_reducible refine wo_eqs ?_) | (with_reducible refine wo_nes ?_) | ((with_reducible refine wo_eqsN ?_ ?_); (decide +kernel)) | ((with_reducible refine wo_nesN ?_ ?_); (decide +kernel)) | ((with_reducible refine wo_eqn ?_ ?_ ?_); exact rfl; exact rfl) | ((with_reducible refine wo_nen ?_ ?_ ?_); exact rfl; exact rfl) | ((with_reducible refine wo_inT ?_ ?_ ?_); exact rfl; exact rfl) | ((with_reducible refine wo_ninT ?_ ?_ ?_); exact rfl; exact rfl) | ((with_reducible refine wo_modE ?_ ?_); omega) | ((with_reducible refine wo_fdivE ?_ ?_); omega) | ((with_reducible refine wo_mulS ?_ ?_); omega) | ((with_reducible refine wo_mul ?_ ?_); exact mulOk_bd (by (repeat (first | assumption | (with_reducible apply bd_mul) | (with_reducible apply bd_add) | (with_reducible apply bd_sub) | (with_reducible apply bd_neg) | (with_reducible apply bd_abs) | exact bd80 (by omega)))) (by (repeat (first | assumption | (with_reducible apply bd_mul) | (with_reducible apply bd_add) | (with_reducible apply bd_sub) | (with_reducible apply bd_neg) | (with_reducible apply bd_abs) | exact bd80 (by omega)))) (by omega)) | ((with_reducible apply wo_of); exact rfl) | ((with_reducible refine wo_reprN ?_ ?_); exact sh_fin (by (repeat (first | assumption | (with_reducible apply sh_tup) | (with_reducible apply sh_lst) | (with_reducible apply shl_cons) | (with_reducible apply shl_app) | (with_reducible apply shl_nil) | (with_reducible apply sh_non) | (with_reducible apply sh_bl) | ((with_reducible apply sh_int); (repeat (first | assumption | (with_reducible apply bd_mul) | (with_reducible apply bd_add) | (with_reducible apply bd_sub) | (with_reducible apply bd_neg) | (with_reducible apply bd_abs) | exact bd80 (by omega))); omega) | ((with_reducible apply sh_str); decide)))) (by decide)) | ((with_reducible refine wo_repr ?_ ?_); exact sh_fin (by (repeat (first | assumption | (with_reducible apply sh_tup) | (with_reducible apply sh_lst) | (with_reducible apply shl_cons) | (with_reducible apply shl_app) | (with_reducible apply shl_nil) | (with_reducible apply sh_non) | (with_reducible apply sh_bl) | ((with_reducible apply sh_int); (repeat (first | assumption | (with_reducible apply bd_mul) | (with_reducible apply bd_add) | (with_reducible apply bd_sub) | (with_reducible apply bd_neg) | (with_reducible apply bd_abs) | exact bd80 (by omega))); omega) | ((with_reducible apply sh_str); decide)))) (by decide)) | (with_reducible refine wif_t ?_) | (with_reducible refine wif_f ?_) | refine wif_t ?_ | refine wif_f ?_ | ((with_reducible refine and_rng ?_ ?_); omega) | ((with_reducible refine and_rng2 ?_ ?_); omega) | (refine And.intro (Nat.le_of_ble_eq_true rfl) ?_) | refine And.intro rfl ?_)
variable {k : Nat}
def Val (v : D) : Prop := (∃ t, t ≠ "tuple" ∧ ∀ S, typeD S v = some t) ∨ ∃ ds, v = .tup ds ∧ ds.length ≤ 10 ∧ ∀ x ∈ ds, noRef x = true ∧ ∀ i, x = .int i → bd 1000 i
theorem isa_tup {t : String} (h : t ≠ "tuple") : isa t .tuple = false := by
  have : isa t .tuple = (t == "tuple") := by
    unfold isa
    split <;> first | rfl | simp_all
  rw [this]; simpa using h
theorem isI_int {x : D} (h : isI x = true) : ∃ i, x = .int i := by cases x <;> first | (cases h; done) | exact ⟨_, rfl⟩
def errI (a b d : Int) : D := if a < 1 ∨ d < 1 then .str "side" else if b < 0 ∨ a ≤ b then .str "lean" else if 12 < a * d then .str "index" else .non
theorem errI_sh {a b d : Int} : Sh 20 100 (errI a b d) := by
  unfold errI
  split
  · exact sh_le (sh_str (by decide +kernel)) (by decide +kernel)
  split
  · exact sh_le (sh_str (by decide +kernel)) (by decide +kernel)
  split
  · exact sh_le (sh_str (by decide +kernel)) (by decide +kernel)
  · exact sh_le sh_non (by decide)
/-- one row of the law's comprehension -/
def odd1 (x : D) : Option D := if isI x then none else some (.int 1)
theorem err_both {v : D} (h : Val v) : ∃ r, Sh 20 100 r ∧ (∀ S, callN T (k+2) i_grid_error [v] S = .ok r S) ∧ ∀ S, callN T (k+2) i__law_due_error [v] S = .ok r S := by
  rcases h with ⟨t, ht, hv⟩ | ⟨ds, rfl, hl, hd⟩
  · refine ⟨.str "form", sh_le (sh_str (by decide +kernel)) (by decide +kernel), fun S => ?_, fun S => ?_⟩
    all_goals
      refine eq_of_wc (wc_run rfl rfl fun N K R X hN hR => ?_)
      (repeat infer_instance)
      refine wo_of (hv S) ?_
      rw [isa_tup ht]
      (repeat infer_instance)
      exact hR _ _ (wx_same ⟨rfl, rfl⟩)
  by_cases q : ¬ ds.length = 3
  · refine ⟨.str "form", sh_le (sh_str (by decide +kernel)) (by decide +kernel), fun S => ?_, fun S => ?_⟩
    all_goals
      refine eq_of_wc (wc_run rfl rfl fun N K R X hN hR => ?_)
      (repeat infer_instance)
      refine wif_d (fun _ => ?_) fun h => absurd (by omega) h
      (repeat infer_instance)
      first | exact hR _ _ (wx_same ⟨rfl, rfl⟩) | skip
      try
        refine wif_d (fun _ => ?_) fun h => absurd (by omega) h
        (repeat infer_instance)
        exact hR _ _ (wx_same ⟨rfl, rfl⟩)
  have q : ds.length = 3 := by omega
  obtain ⟨x, y, z, rfl⟩ : ∃ x y z, ds = [x, y, z] := by
    match ds, q with
    | [x, y, z], _ => exact ⟨x, y, z, rfl⟩
  have hx := hd x (by simp)
  have hy := hd y (by simp)
  have hz := hd z (by simp)
  by_cases qi : (isI x && (isI y && isI z)) = true
  · rw [Bool.and_eq_true, Bool.and_eq_true] at qi
    obtain ⟨a, rfl⟩ := isI_int qi.1
    obtain ⟨b, rfl⟩ := isI_int qi.2.1
    obtain ⟨d, rfl⟩ := isI_int qi.2.2
    have ba := hx.2 a rfl
    have bdd := hz.2 d rfl
    refine ⟨errI a b d, errI_sh, fun S => ?_, fun S => ?_⟩
    · refine eq_of_wc (wc_run rfl rfl fun N K R X hN hR => ?_)
      have hR : R (errI a b d) S := hR _ _ (wx_same ⟨rfl, rfl⟩)
      unfold errI at hR
      (repeat infer_instance)
      refine c_map id [.int a, .int b, .int d] (fun d => .bl (isI d)) (by simp) True.intro (by simp) (fun d hm R hR => ?_) ?_
      · (repeat infer_instance)
        refine wc_eq (num_ok rfl (hd d hm).1) ?_
        (repeat infer_instance)
        exact hR
      · (repeat infer_instance)
        refine wif_d (fun q1 => ?_) fun q1 => ?_
        · (repeat infer_instance)
          rw [if_pos (.inl q1)] at hR
          refine wif_d (fun _ => ?_) fun h => absurd q1 h
          (repeat infer_instance)
          exact hR
        · (repeat infer_instance)
          refine wif_d (fun q2 => ?_) fun q2 => ?_
          · (repeat infer_instance)
            rw [if_pos (.inr q2)] at hR; exact hR
          · (repeat infer_instance)
            rw [if_neg (by omega)] at hR
            refine wif_d (fun q3 => ?_) fun q3 => ?_
            · (repeat infer_instance)
              refine wif_n (wif_d (fun q4 => ?_) fun q4 => ?_)
              · (repeat infer_instance)
                rw [if_neg (by omega)] at hR
                refine wif_d (fun q5 => ?_) fun q5 => ?_
                · (repeat infer_instance)
                  rw [if_pos (by omega)] at hR; exact hR
                · (repeat infer_instance)
                  rw [if_neg (by omega)] at hR; exact hR
              · (repeat infer_instance)
                rw [if_pos (by omega)] at hR; exact hR
            · (repeat infer_instance)
              rw [if_pos (by omega)] at hR; exact hR
    · refine eq_of_wc (wc_run rfl rfl fun N K R X hN hR => ?_)
      have hR : R (errI a b d) S := hR _ _ (wx_same ⟨rfl, rfl⟩)
      unfold errI at hR
      (repeat infer_instance)
      refine c_some id [.int a, .int b, .int d] odd1 (by simp) True.intro (by simp) (fun d hm R hR => ?_) ?_
      · have := (hd d hm).1
        (repeat infer_instance)
        unfold odd1 at hR
        cases d <;> first | (cases this; done) | ((repeat infer_instance); exact hR) 
      · have e : [D.int a, .int b, .int d].filterMap odd1 = [] := rfl
        rw [e]
        (repeat infer_instance)
        refine wif_d (fun h => absurd rfl h) fun _ => ?_
        (repeat infer_instance)
        refine wif_d (fun q1 => ?_) fun q1 => ?_
        · (repeat infer_instance)
          rw [if_pos (.inl q1)] at hR
          refine wif_d (fun _ => ?_) fun h => absurd q1 h
          (repeat infer_instance)
          exact hR
        · (repeat infer_instance)
          refine wif_d (fun q2 => ?_) fun q2 => ?_
          · (repeat infer_instance)
            rw [if_pos (.inr q2)] at hR; exact hR
          · (repeat infer_instance)
            rw [if_neg (by omega)] at hR
            refine wif_d (fun q3 => ?_) fun q3 => ?_
            · (repeat infer_instance)
              rw [if_pos (by omega)] at hR
              refine wif_d (fun _ => ?_) fun h => absurd q3 h
              (repeat infer_instance)
              exact hR
            · (repeat infer_instance)
              refine wif_d (fun q4 => ?_) fun q4 => ?_
              · (repeat infer_instance)
                rw [if_pos (by omega)] at hR; exact hR
              · (repeat infer_instance)
                rw [if_neg (by omega)] at hR
                refine wif_d (fun q5 => ?_) fun q5 => ?_
                · (repeat infer_instance)
                  rw [if_pos (by omega)] at hR; exact hR
                · (repeat infer_instance)
                  rw [if_neg (by omega)] at hR; exact hR
  · refine ⟨.str "form", sh_le (sh_str (by decide +kernel)) (by decide +kernel), fun S => ?_, fun S => ?_⟩
    · refine eq_of_wc (wc_run rfl rfl fun N K R X hN hR => ?_)
      (repeat infer_instance)
      refine c_map id [x, y, z] (fun d => .bl (isI d)) (by simp) True.intro (by simp) (fun d hm R hR => ?_) ?_
      · (repeat infer_instance)
        refine wc_eq (num_ok rfl (hd d hm).1) ?_
        (repeat infer_instance)
        exact hR
      · (repeat infer_instance)
        have e : (![isI x, isI y, isI z].all id) = true := by
          simp only [List.all_cons, List.all_nil, id]
          revert qi
          cases isI x <;> cases isI y <;> cases isI z <;> simp
        rw [e]
        (repeat infer_instance)
        exact hR _ _ (wx_same ⟨rfl, rfl⟩)
    · refine eq_of_wc (wc_run rfl rfl fun N K R X hN hR => ?_)
      (repeat infer_instance)
      refine c_some id [x, y, z] odd1 (by simp) True.intro (by simp) (fun d hm R hR => ?_) ?_
      · have := (hd d hm).1
        (repeat infer_instance)
        unfold odd1 at hR
        cases d <;> first | (cases this; done) | ((repeat infer_instance); exact hR) 
      · have e : ∃ m, [x, y, z].filterMap odd1 = List.replicate (m + 1) (.int 1) ∧ m < 3 := by
          revert qi
          simp only [List.filterMap_cons, List.filterMap_nil, odd1]
          cases isI x <;> cases isI y <;> cases isI z <;> intro qi
          · exact ⟨2, rfl, by omega⟩
          · exact ⟨1, rfl, by omega⟩
          · exact ⟨1, rfl, by omega⟩
          · exact ⟨0, rfl, by omega⟩
          · exact ⟨1, rfl, by omega⟩
          · exact ⟨0, rfl, by omega⟩
          · exact ⟨0, rfl, by omega⟩
          · exact absurd rfl qi
        obtain ⟨m, e, hm⟩ := e
        rw [e]
        match m, hm with
        | 0, _ =>
          (repeat infer_instance)
          refine wif_d (fun _ => ?_) fun h => absurd (by simp [List.replicate]) h
          (repeat infer_instance)
          exact hR _ _ (wx_same ⟨rfl, rfl⟩)
        | 1, _ =>
          (repeat infer_instance)
          refine wif_d (fun _ => ?_) fun h => absurd (by simp [List.replicate]) h
          (repeat infer_instance)
          exact hR _ _ (wx_same ⟨rfl, rfl⟩)
        | 2, _ =>
          (repeat infer_instance)
          refine wif_d (fun _ => ?_) fun h => absurd (by simp [List.replicate]) h
          (repeat infer_instance)
          exact hR _ _ (wx_same ⟨rfl, rfl⟩)
end K67

set_option linter.all false
set_option maxRecDepth 100000
set_option maxHeartbeats 4000000
set_option pp.deepTerms false
set_option pp.deepTerms.threshold 12
/-! the way of the greatest common divisor, with what is carried along; the program's partner -/
namespace EUC
open PySem GV GX
open DECK (Pt pd bp)
open L2 (atI ixN)
local macro_rules | `(tactic| infer_instance) => `(tactic| first | ((with_reducible apply e_loc); (repeat ((with_reducible refine look_ne ?_ ?_); decide)); (first | ((with_reducible refine look_eq ?_); (repeat (first | (with_reducible refine lt_set ?_) | exact Nat.le_of_ble_eq_true rfl))) | exact rfl)) | (with_reducible first | refine e_cst ?_ | refine e_bin ?_ | refine e_idx ?_ | refine e_call ?_ | refine wl_cons ?_ | refine wl_nil ?_ | refine e_tup ?_ | refine e_b1 ?_ | refine e_cmp ?_ | refine e_lst ?_ | refine e_neg ?_ | refine e_not ?_ | refine e_and ?_ | refine e_or ?_ | refine e_ife ?_ | refine e_chain ?_ | refine e_isa ?_ | refine e_sl ?_ | refine e_slh ?_ | refine e_sll ?_ | refine e_sla ?_ | refine e_rev ?_ | refine e_alc ?_ | refine e_callK ?_ | refine e_b2 ?_ | refine e_rng1 ?_ | refine e_rng2 ?_ | refine e_enm ?_ | refine e_zip ?_ | refine e_comp ?_ | refine e_meth ?_ | refine e_frz0 ?_ | refine e_frz1 ?_ | refine e_sset ?_ | refine e_sdct ?_ | refine e_lzip ?_ | refine e_upr ?_ | refine e_dct ?_ | refine s_seq ?_ | refine s_set ?_ | refine s_unp ?_ | refine s_par ?_ | refine s_ret ?_ | refine s_ite ?_ | refine s_for ?_ | refine s_ex ?_ | refine s_skip ?_ | refine s_setx ?_ | refine s_cont ?_ | refine s_retN ?_ | refine s_raise0 ?_ | refine s_raise1 ?_ | refine wo_lt ?_ | refine wo_le ?_ | refine wo_gt ?_ | refine wo_ge ?_ | refine wo_eqi ?_ | refine wo_nei ?_ | refine wo_of litems_new ?_ | refine wo_of items_new ?_ | refine wo_of b1len_new ?_ | refine wo_of b1tuple_new ?_ | refine wo_of b1list_new ?_ | refine wo_of slice_new ?_ | refine wo_isN ?_ | refine wo_notN ?_ | refine wo_slT ?_ | refine wo_slL ?_ | refine wo_lenT ?_ | refine wo_lenL ?_ | refine wo_tupT ?_ | refine wo_tupL ?_ | refine wo_lstT ?_ | refine wo_lstL ?_) | (with_reducible refine wo_dbl1 ?_) | (with_reducible refine wo_eqs ?_) | (with_reducible refine wo_nes ?_) | ((with_reducible refine wo_eqsN ?_ ?_); (decide +kernel)) | ((with_reducible refine wo_nesN ?_ ?_); (decide +kernel)) | ((with_reducible refine wo_eqn ?_ ?_ ?_); exact rfl; exact rfl) | ((with_reducible refine wo_nen ?_ ?_ ?_); exact rfl; exact rfl) | ((with_reducible refine wo_inT ?_ ?_ ?_); exact rfl; exact rfl) | ((with_reducible refine wo_ninT ?_ ?_ ?_); exact rfl; exact rfl) | ((with_reducible refine wo_modE ?_ ?_); omega) | ((with_reducible refine wo_fdivE ?_ ?_); omega) | ((with_reducible refine wo_mulS ?_ ?_); omega) | ((with_reducible refine wo_mul ?_ ?_); exact mulOk_bd (by (repeat (first | assumption | (with_reducible apply bd_mul) | (with_reducible apply bd_add) | (with_reducible apply bd_sub) | (with_reducible apply bd_neg) | (with_reducible apply bd_abs) | exact bd80 (by omega)))) (by (repeat (first | assumption | (with_reducible apply bd_mul) | (with_reducible apply bd_add) | (with_reducible apply bd_sub) | (with_reducible apply bd_neg) | (with_reducible apply bd_abs) | exact bd80 (by omega)))) (by omega)) | ((with_reducible apply wo_of); exact rfl) | ((with_reducible refine wo_reprN ?_ ?_); exact sh_fin (by (repeat (first | assumption | (with_reducible apply sh_tup) | (with_reducible apply sh_lst) | (with_reducible apply shl_cons) | (with_reducible apply shl_app) | (with_reducible apply shl_nil) | (with_reducible apply sh_non) | (with_reducible apply sh_bl) | ((with_reducible apply sh_int); (repeat (first | assumption | (with_reducible apply bd_mul) | (with_reducible apply bd_add) | (with_reducible apply bd_sub) | (with_reducible apply bd_neg) | (with_reducible apply bd_abs) | exact bd80 (by omega))); omega) | ((with_reducible apply sh_str); decide)))) (by decide)) | ((with_reducible refine wo_repr ?_ ?_); exact sh_fin (by (repeat (first | assumption | (with_reducible apply sh_tup) | (with_reducible apply sh_lst) | (with_reducible apply shl_cons) | (with_reducible apply shl_app) | (with_reducible apply shl_nil) | (with_reducible apply sh_non) | (with_reducible apply sh_bl) | ((with_reducible apply sh_int); (repeat (first | assumption | (with_reducible apply bd_mul) | (with_reducible apply bd_add) | (with_reducible apply bd_sub) | (with_reducible apply bd_neg) | (with_reducible apply bd_abs) | exact bd80 (by omega))); omega) | ((with_reducible apply sh_str); decide)))) (by decide)) | (with_reducible refine wif_t ?_) | (with_reducible refine wif_f ?_) | refine wif_t ?_ | refine wif_f ?_ | ((with_reducible refine and_rng ?_ ?_); omega) | ((with_reducible refine and_rng2 ?_ ?_); omega) | (refine And.intro (Nat.le_of_ble_eq_true rfl) ?_) | refine And.intro rfl ?_)
/-- what is carried stays small -/
def PP (o r u w : Int) : Nat := u.natAbs * r.natAbs + w.natAbs * o.natAbs
def JJ (M : Nat) (o r u w : Int) : Prop := u.natAbs ≤ M ∧ w.natAbs ≤ M ∧ PP o r u w ≤ M ∧ (0 ≤ o * r ∨ PP o r u w + 2 * (w.natAbs * r.natAbs) ≤ M)
theorem pos_mul {a b : Int} (h : 0 ≤ a * b) (hb : 0 < b) : 0 ≤ a := by
  rcases Int.lt_or_le a 0 with q | q
  · have := Int.mul_neg_of_neg_of_pos q hb; omega
  · exact q
theorem neg_mul' {a b : Int} (h : 0 ≤ a * b) (hb : b < 0) : a ≤ 0 := by
  rcases Int.lt_or_le 0 a with q | q
  · have := Int.mul_neg_of_pos_of_neg q hb; omega
  · exact q
theorem qr_abs {o r : Int} (hr : r ≠ 0) : 0 ≤ r * o.fmod r ∧ (o.fdiv r).natAbs * r.natAbs ≤ o.natAbs + (o.fmod r).natAbs ∧ (0 ≤ o * r → (o.fdiv r).natAbs * r.natAbs + (o.fmod r).natAbs = o.natAbs) := by
  have e : o.fmod r + r * o.fdiv r = o := Int.fmod_add_mul_fdiv o r
  have e2 : (o.fdiv r).natAbs * r.natAbs = (r * o.fdiv r).natAbs := by rw [Int.natAbs_mul, Nat.mul_comm]
  have hm := @fmod_abs o r hr
  rcases Int.lt_or_lt_of_ne hr with h | h
  · have h1 : o.fmod r ≤ 0 := by
      have h0 : (-o).fmod (-r) = -(o.fmod r) := by rw [Int.fmod_def, Int.fmod_def, Int.neg_fdiv_neg]; grind
      have := (@fmod_lt (-o) (-r) (by omega)).1
      omega
    refine ⟨Int.mul_nonneg_of_nonpos_of_nonpos (by omega) h1, by omega, fun h2 => ?_⟩
    have h3 := neg_mul' h2 h
    have : r * o.fdiv r ≤ 0 := by
      by_cases q : o.fdiv r < 0
      · have h5 : 0 ≤ (-r) * (-1 - o.fdiv r) := Int.mul_nonneg (by omega) (by omega)
        have h6 : (-r) * (-1 - o.fdiv r) = r + r * o.fdiv r := by grind
        omega
      · have := Int.mul_nonpos_of_nonpos_of_nonneg (show r ≤ 0 by omega) (show 0 ≤ o.fdiv r by omega)
        exact this
    omega
  · have h1 := (@fmod_lt o r h).1
    refine ⟨Int.mul_nonneg (by omega) h1, by omega, fun h2 => ?_⟩
    have h3 := pos_mul h2 h
    have := (@fmod_lt o r h).2
    have : 0 ≤ r * o.fdiv r := by
      by_cases q : o.fdiv r < 0
      · have h5 : 0 ≤ r * (-1 - o.fdiv r) := Int.mul_nonneg (by omega) (by omega)
        have h6 : r * (-1 - o.fdiv r) = -r - r * o.fdiv r := by grind
        omega
      · exact Int.mul_nonneg (by omega) (by omega)
    omega
theorem JJ.step {M : Nat} {o r u w : Int} (h : JJ M o r u w) (hr : r ≠ 0) : JJ M r (o.fmod r) w (u - o.fdiv r * w) := by
  obtain ⟨h1, h2, h3, h4⟩ := h
  obtain ⟨q1, q2, q3⟩ := qr_abs (o := o) hr
  have hm := @fmod_abs o r hr
  have hP : PP r (o.fmod r) w (u - o.fdiv r * w) ≤ M := by
    unfold PP at h3 h4 ⊢
    have e1 : (u - o.fdiv r * w).natAbs ≤ u.natAbs + (o.fdiv r).natAbs * w.natAbs := by
      have := Int.natAbs_mul (o.fdiv r) w
      omega
    have e2 := Nat.mul_le_mul_right r.natAbs e1
    rw [Nat.add_mul, show (o.fdiv r).natAbs * w.natAbs * r.natAbs = w.natAbs * ((o.fdiv r).natAbs * r.natAbs) by grind] at e2
    rcases h4 with h4 | h4
    · have e3 := congrArg (w.natAbs * ·) (q3 h4)
      simp only [Nat.mul_add] at e3
      omega
    · have e3 := Nat.mul_le_mul_left w.natAbs q2
      rw [Nat.mul_add] at e3
      have e4 := Nat.mul_le_mul_left w.natAbs (Nat.le_of_lt hm)
      omega
  refine ⟨h2, ?_, hP, .inl q1⟩
  have h5 : (u - o.fdiv r * w).natAbs * 1 ≤ (u - o.fdiv r * w).natAbs * r.natAbs := Nat.mul_le_mul_left _ (by omega)
  unfold PP at hP
  omega
theorem bd_of_abs {n : Nat} {x : Int} {M : Nat} (h : x.natAbs ≤ M) (hM : M < 2 ^ n) : bd n x := by unfold bd; omega
variable {T : List Df} {k f : Nat} {S : Sto} {n : Nat}
def dfTimes : Df := ⟨2, 2, false, (.ret (.tup (.cons (.bin .mul (.loc 0) (.idx (.loc 1) (.cst (.int 0)))) (.cons (.bin .mul (.loc 0) (.idx (.loc 1) (.cst (.int 1)))) .nil))))⟩
def dfPartner (jm jt : Nat) : Df := ⟨6, 1, false, (.seq (.unp (.tp (.cons (.nm 1) (.cons (.nm 2) (.cons (.nm 3) (.cons (.nm 4) .nil))))) (.tup (.cons (.idx (.loc 0) (.cst (.int 0))) (.cons (.idx (.loc 0) (.cst (.int 1))) (.cons (.tup (.cons (.cst (.int 1)) (.cons (.cst (.int 0)) .nil))) (.cons (.tup (.cons (.cst (.int 0)) (.cons (.cst (.int 1)) .nil))) .nil))))))
    (.seq (.whl (.cmp .ne (.loc 2) (.cst (.int 0))) (.seq (.unp (.nm 5) (.bin .fdiv (.loc 1) (.loc 2)))
    (.seq (.par [1, 2] (.cons (.loc 2) (.cons (.bin .sub (.loc 1) (.bin .mul (.loc 5) (.loc 2))) .nil)))
    (.par [3, 4] (.cons (.loc 4) (.cons (.call jm (.cons (.loc 3) (.cons (.call jt (.cons (.loc 5) (.cons (.loc 4) .nil))) .nil))) .nil))))))
    (.ret (.tup (.cons (.bin .mul (.neg (.idx (.loc 3) (.cst (.int 1)))) (.loc 1)) (.cons (.bin .mul (.idx (.loc 3) (.cst (.int 0))) (.loc 1)) .nil))))))⟩
theorem times_ok (hT : T[f]? = some dfTimes) {c : Int} {p : Pt} {m : Nat} (hc : bd m c) (hp : bp m p) (hm : m ≤ 8000) : callN T (k+1) f [.int c, pd p] S = .ok (pd (c * p.1, c * p.2)) S := by
  obtain ⟨x, y⟩ := p
  obtain ⟨h1, h2⟩ := hp
  refine eq_of_wc (wc_run hT rfl fun N K R X hN hR => ?_)
  simp only [pd] at hR hN h1 h2 ⊢
  (repeat infer_instance)
  exact hR _ _ (wx_same ⟨rfl, rfl⟩)
/-- a division of the way may be done -/
theorem wo_dv {o r v1 : Int} {n : Nat} {S S' : Sto} {Q : QD} (h0 : r ≠ 0) (hv : v1.natAbs < 1073741824 ∨ 0 ≤ v1) (hr : r.natAbs ≤ v1.natAbs ∧ (0 ≤ v1 → 0 ≤ r)) (hb : bd n r) (hn : n ≤ 8000) (q : Q (.int (o.fdiv r)) S) : Wo (GV.bin S' .fdiv (.int o) (.int r)) S Q := by
  by_cases h : 0 ≤ v1
  · exact wo_fdivW (by have := hr.2 h; omega) hb (by omega) q
  · exact wo_fdiv ⟨h0, by omega⟩ q
theorem fmod_sgn {o r v1 : Int} (h0 : r ≠ 0) (hr : r.natAbs ≤ v1.natAbs ∧ (0 ≤ v1 → 0 ≤ r)) : (o.fmod r).natAbs ≤ v1.natAbs ∧ (0 ≤ v1 → 0 ≤ o.fmod r) := ⟨by have := @fmod_abs o r h0; omega, fun h => (@fmod_lt o r (by have := hr.2 h; omega)).1⟩
theorem partner_ok {jm jt : Nat} (hT : T[f]? = some (dfPartner jm jt)) (hm : T[jm]? = some PLG.dfMinus) (ht : T[jt]? = some dfTimes) {v : Pt} (hb : bp n v) (hn : n ≤ 1800) (hv : v.2.natAbs < 1073741824 ∨ 0 ≤ v.2) :
    ∃ d S', callN T (k+2) f [pd v] S = .ok d S' ∧ S' = S ∧ ∃ p : Pt, d = pd p ∧ bp (2 * n + 4) p ∧ v.1 * p.2 - v.2 * p.1 = (PLG.gd v : Int) * PLG.gd v := by
  obtain ⟨v0, v1⟩ := v
  obtain ⟨b0, b1⟩ := hb
  simp only at b0 b1 hv
  refine ex_of_wc (wc_run hT rfl fun N K R X hN hR => ?_)
  have fin : ∀ p, bp (2 * n + 4) p → v0 * p.2 - v1 * p.1 = (PLG.gd (v0, v1) : Int) * PLG.gd (v0, v1) → R (pd p) S := fun p h1 h2 => hR _ _ (wx_same ⟨rfl, p, rfl, h1, h2⟩)
  clear hR hN
  simp only [pd]
  (repeat infer_instance)
  have hM : ∀ {x : Int}, x.natAbs ≤ 3 * 2 ^ n → bd (n + 2) x := fun h => bd_of_abs h (by have := Nat.two_pow_pos n; rw [show 2 ^ (n + 2) = 2 ^ n * 4 from Nat.pow_add 2 n 2]; omega)
  unfold bd at b0 b1
  have bb0 : v0.natAbs ≤ 2 ^ n := by omega
  have bb1 : v1.natAbs ≤ 2 ^ n := by omega
  refine s_whl2 (fun m ρ S' => S' = S ∧ ∃ (o r u0 u1 w0 w1 : Int) (x : Option D), m = r.natAbs ∧ ρ = [some (.tup [.int v0, .int v1]), some (.int o), some (.int r), some (pd (u0, u1)), some (pd (w0, w1)), x] ∧ u0 * v0 + u1 * v1 = o ∧ w0 * v0 + w1 * v1 = r ∧ Int.gcd o r = Int.gcd v0 v1 ∧ JJ (3 * 2 ^ n) o r u0 w0 ∧ JJ (3 * 2 ^ n) o r u1 w1 ∧ (r.natAbs ≤ v1.natAbs ∧ (0 ≤ v1 → 0 ≤ r)) ∧ o.natAbs ≤ 2 ^ n)
    (fun ρ S' => S' = S ∧ ∃ (o u0 u1 w0 w1 : Int) (x : Option D), ρ = [some (.tup [.int v0, .int v1]), some (.int o), some (.int 0), some (pd (u0, u1)), some (pd (w0, w1)), x] ∧ u0 * v0 + u1 * v1 = o ∧ o.natAbs = Int.gcd v0 v1 ∧ u0.natAbs ≤ 3 * 2 ^ n ∧ u1.natAbs ≤ 3 * 2 ^ n ∧ o.natAbs ≤ 2 ^ n) _
    ⟨rfl, v0, v1, 1, 0, 0, 1, none, rfl, rfl, by omega, by omega, rfl, ?_, ?_, ⟨Nat.le_refl _, id⟩, bb0⟩ ?_ ?_
  · have := Nat.two_pow_pos n
    refine ⟨by omega, by omega, ?_, .inr ?_⟩ <;> unfold PP <;> simp <;> omega
  · have := Nat.two_pow_pos n
    refine ⟨by omega, by omega, ?_, .inr ?_⟩ <;> unfold PP <;> simp <;> omega
  · rintro m ρ S' N' M ⟨rfl, o, r, u0, u1, w0, w1, x, rfl, rfl, e0, e1, eg, j0, j1, hr, ho⟩ hN' hM'
    have bo : bd (n + 2) o := hM (by omega)
    have br : bd (n + 2) r := hM (by omega)
    have bw0 := hM j0.2.1
    have bw1 := hM j1.2.1
    simp only [pd]
    (repeat infer_instance)
    refine wif_d (fun q => ?_) fun q => ?_
    · (repeat infer_instance)
      refine wo_dv q hv hr br (by omega) ?_
      have bq : bd (n + 2) (o.fdiv r) := bd_of bo (fdiv_abs q)
      (repeat infer_instance)
      refine wc_eq (times_ok ht (p := (w0, w1)) bq ⟨bw0, bw1⟩ (by omega)) ?_
      (repeat infer_instance)
      refine wc_eq (PLG.minus_ok hm (p := (u0, u1))) ?_
      (repeat infer_instance)
      have s0 := j0.step q
      have s1 := j1.step q
      rw [rest_eq]
      refine hN' _ _ _ (@fmod_abs o r q) ⟨rfl, r, o.fmod r, w0, w1, u0 - o.fdiv r * w0, u1 - o.fdiv r * w1, _, rfl, rfl, e1, ?_, by rw [gcd_rest, eg], s0, s1, fmod_sgn q hr, by omega⟩
      rw [← rest_eq, ← e0]
      have e2 : o.fdiv r * r = o.fdiv r * (w0 * v0 + w1 * v1) := by rw [e1]
      rw [e0, e2, ← e0]
      grind
    · obtain rfl : r = 0 := by omega
      (repeat infer_instance)
      exact hM' _ _ ⟨rfl, o, u0, u1, w0, w1, x, rfl, e0, by rw [← eg]; simp, j0.1, j1.1, ho⟩
  · rintro _ _ ⟨rfl, o, u0, u1, w0, w1, x, rfl, e0, e1, h0, h1, ho⟩
    have bu0 := hM h0
    have bu1 := hM h1
    simp only [pd]
    have bo : bd (n + 2) o := hM (by omega)
    have bn := bd_neg bu1
    (repeat infer_instance)
    have hp : ∀ {x y : Int}, bd (n + 2) x → bd (n + 2) y → bd (2 * n + 4) (x * y) := fun hx hy => bd_le (bd_mul hx hy) (by omega)
    refine fin (-u1 * o, u0 * o) ⟨hp bn bo, hp bu0 bo⟩ ?_
    have eo : o * o = (PLG.gd (v0, v1) : Int) * PLG.gd (v0, v1) := by
      rw [← Int.natAbs_mul_self, e1]
      exact Int.natCast_mul _ _
    rw [← eo]
    simp only
    have : v0 * (u0 * o) - v1 * (-u1 * o) = (u0 * v0 + u1 * v1) * o := by grind
    rw [this, e0]
end EUC

set_option linter.all false
set_option pp.deepTerms false
set_option pp.deepTerms.threshold 12
set_option maxHeartbeats 4000000
namespace K67
open PySem GV GX D46
open DECK (Pt pd bp)
open EUC (JJ PP)
open L2 (atI ixN)
local macro_rules | `(tactic| infer_instance) => `(tactic| first | ((with_reducible apply e_loc); (repeat ((with_reducible refine look_ne ?_ ?_); decide)); (first | ((with_reducible refine look_eq ?_); (repeat (first | (with_reducible refine lt_set ?_) | exact Nat.le_of_ble_eq_true rfl))) | exact rfl)) | (with_reducible first | refine e_cst ?_ | refine e_bin ?_ | refine e_idx ?_ | refine e_call ?_ | refine wl_cons ?_ | refine wl_nil ?_ | refine e_tup ?_ | refine e_b1 ?_ | refine e_cmp ?_ | refine e_lst ?_ | refine e_neg ?_ | refine e_not ?_ | refine e_and ?_ | refine e_or ?_ | refine e_ife ?_ | refine e_chain ?_ | refine e_isa ?_ | refine e_sl ?_ | refine e_slh ?_ | refine e_sll ?_ | refine e_sla ?_ | refine e_rev ?_ | refine e_alc ?_ | refine e_callK ?_ | refine e_b2 ?_ | refine e_rng1 ?_ | refine e_rng2 ?_ | refine e_enm ?_ | refine e_zip ?_ | refine e_comp ?_ | refine e_meth ?_ | refine e_frz0 ?_ | refine e_frz1 ?_ | refine e_sset ?_ | refine e_sdct ?_ | refine e_lzip ?_ | refine e_upr ?_ | refine e_dct ?_ | refine s_seq ?_ | refine s_set ?_ | refine s_unp ?_ | refine s_par ?_ | refine s_ret ?_ | refine s_ite ?_ | refine s_for ?_ | refine s_ex ?_ | refine s_skip ?_ | refine s_setx ?_ | refine s_cont ?_ | refine s_retN ?_ | refine s_raise0 ?_ | refine s_raise1 ?_ | refine wo_lt ?_ | refine wo_le ?_ | refine wo_gt ?_ | refine wo_ge ?_ | refine wo_eqi ?_ | refine wo_nei ?_ | refine wo_of litems_new ?_ | refine wo_of items_new ?_ | refine wo_of b1len_new ?_ | refine wo_of b1tuple_new ?_ | refine wo_of b1list_new ?_ | refine wo_of slice_new ?_ | refine wo_isN ?_ | refine wo_notN ?_ | refine wo_slT ?_ | refine wo_slL ?_ | refine wo_lenT ?_ | refine wo_lenL ?_ | refine wo_tupT ?_ | refine wo_tupL ?_ | refine wo_lstT ?_ | refine wo_lstL ?_) | (with_reducible refine wo_dbl1 ?_) | (with_reducible refine wo_eqs ?_) | (with_reducible refine wo_nes ?_) | ((with_reducible refine wo_eqsN ?_ ?_); (decide +kernel)) | ((with_reducible refine wo_nesN ?_ ?_); (decide +kernel)) | ((with_reducible refine wo_eqn ?_ ?_ ?_); exact rfl; exact rfl) | ((with_reducible refine wo_nen ?_ ?_ ?_); exact rfl; exact rfl) | ((with_reducible refine wo_inT ?_ ?_ ?_); exact rfl; exact rfl) | ((with_reducible refine wo_ninT ?_ ?_ ?_); exact rfl; exact rfl) | ((with_reducible refine wo_modE ?_ ?_); omega) | ((with_reducible refine wo_fdivE ?_ ?_); omega) | ((with_reducible refine wo_mulS ?_ ?_); omega) | ((with_reducible refine wo_mul ?_ ?_); exact mulOk_bd (by (repeat (first | assumption | (with_reducible apply bd_mul) | (with_reducible apply bd_add) | (with_reducible apply bd_sub) | (with_reducible apply bd_neg) | (with_reducible apply bd_abs) | exact bd80 (by omega)))) (by (repeat (first | assumption | (with_reducible apply bd_mul) | (with_reducible apply bd_add) | (with_reducible apply bd_sub) | (with_reducible apply bd_neg) | (with_reducible apply bd_abs) | exact bd80 (by omega)))) (by omega)) | ((with_reducible apply wo_of); exact rfl) | ((with_reducible refine wo_reprN ?_ ?_); exact sh_fin (by (repeat (first | assumption | (with_reducible apply sh_tup) | (with_reducible apply sh_lst) | (with_reducible apply shl_cons) | (with_reducible apply shl_app) | (with_reducible apply shl_nil) | (with_reducible apply sh_non) | (with_reducible apply sh_bl) | ((with_reducible apply sh_int); (repeat (first | assumption | (with_reducible apply bd_mul) | (with_reducible apply bd_add) | (with_reducible apply bd_sub) | (with_reducible apply bd_neg) | (with_reducible apply bd_abs) | exact bd80 (by omega))); omega) | ((with_reducible apply sh_str); decide)))) (by decide)) | ((with_reducible refine wo_repr ?_ ?_); exact sh_fin (by (repeat (first | assumption | (with_reducible apply sh_tup) | (with_reducible apply sh_lst) | (with_reducible apply shl_cons) | (with_reducible apply shl_app) | (with_reducible apply shl_nil) | (with_reducible apply sh_non) | (with_reducible apply sh_bl) | ((with_reducible apply sh_int); (repeat (first | assumption | (with_reducible apply bd_mul) | (with_reducible apply bd_add) | (with_reducible apply bd_sub) | (with_reducible apply bd_neg) | (with_reducible apply bd_abs) | exact bd80 (by omega))); omega) | ((with_reducible apply sh_str); decide)))) (by decide)) | (with_reducible refine wif_t ?_) | (with_reducible refine wif_f ?_) | refine wif_t ?_ | refine wif_f ?_ | ((with_reducible refine and_rng ?_ ?_); omega) | ((with_reducible refine and_rng2 ?_ ?_); omega) | (refine And.intro (Nat.le_of_ble_eq_true rfl) ?_) | refine And.intro rfl ?_)
variable {k : Nat} {S : Sto} {p q : Pt}
def dtt (p q : Pt) : Int := p.1 * q.2 - p.2 * q.1
def gg (p q : Pt) : Nat := Int.gcd p.2 q.2
/-- this is the grid of two vectors -/
def IsG (p q : Pt) (r : D) : Prop := ∃ a b : Int, r = gr a b (gg p q) ∧ a * (gg p q) = (dtt p q).natAbs ∧ 1 ≤ a ∧ a ≤ 12 ∧ ∃ x y : Int, x * p.2 + y * q.2 = gg p q ∧ b = (x * p.1 + y * q.1) % a
theorem gg_pos (h : dtt p q ≠ 0) : 1 ≤ gg p q := by
  unfold gg
  by_cases h0 : Int.gcd p.2 q.2 = 0
  · have := Int.gcd_eq_zero_iff.mp h0
    unfold dtt at h
    rw [this.1, this.2] at h
    simp at h
  · omega
theorem gg_dvd : ((gg p q : Nat) : Int) ∣ dtt p q := by
  unfold dtt gg
  have h1 := Int.gcd_dvd_left p.2 q.2
  have h2 := Int.gcd_dvd_right p.2 q.2
  exact Int.dvd_sub (Int.dvd_mul_of_dvd_right h2) (Int.dvd_mul_of_dvd_left h1)
theorem gg_le (h : dtt p q ≠ 0) (h2 : (dtt p q).natAbs ≤ 12) : gg p q ≤ 12 := by
  have := Nat.le_of_dvd (by omega) (Int.natAbs_dvd_natAbs.mpr (@gg_dvd p q))
  simp at this
  omega
theorem IsG.uniq {r r' : D} (h : dtt p q ≠ 0) (h1 : IsG p q r) (h2 : IsG p q r') : r = r' := by
  obtain ⟨a, b, rfl, ha, a1, _, x, y, hx, hb⟩ := h1
  obtain ⟨a', b', rfl, ha', a1', _, x', y', hx', hb'⟩ := h2
  have hg := gg_pos h
  obtain rfl : a = a' := by
    have := Int.mul_eq_mul_right_iff (show ((gg p q : Nat) : Int) ≠ 0 by omega) |>.mp (ha.trans ha'.symm)
    exact this
  congr 1
  obtain ⟨s, hs⟩ : ((gg p q : Nat) : Int) ∣ p.2 := Int.gcd_dvd_left p.2 q.2
  obtain ⟨t, ht⟩ : ((gg p q : Nat) : Int) ∣ q.2 := Int.gcd_dvd_right p.2 q.2
  generalize hG : ((gg p q : Nat) : Int) = g at *
  have g0 : g ≠ 0 := by omega
  have e1 : x * s + y * t = 1 := by
    have : g * (x * s + y * t) = g * 1 := by rw [hs, ht] at hx; grind
    exact Int.eq_of_mul_eq_mul_left g0 this
  have e2 : x' * s + y' * t = 1 := by
    have : g * (x' * s + y' * t) = g * 1 := by rw [hs, ht] at hx'; grind
    exact Int.eq_of_mul_eq_mul_left g0 this
  obtain ⟨m, hm⟩ := uniq_mod (w0 := p.1) (w1 := q.1) e1 e2 rfl
  have e3 : dtt p q = -(g * (s * q.1 - t * p.1)) := by unfold dtt; rw [hs, ht]; grind
  have e4 : a = ((s * q.1 - t * p.1).natAbs : Int) := by
    rw [e3, Int.natAbs_neg, Int.natAbs_mul, Int.natCast_mul] at ha
    have : (g.natAbs : Int) = g := by omega
    rw [this, Int.mul_comm] at ha
    exact Int.eq_of_mul_eq_mul_left g0 ha
  rw [hb, hb', hm]
  have : a ∣ m * (s * q.1 - t * p.1) := by rw [e4]; exact Int.dvd_mul_of_dvd_right (Int.natAbs_dvd.mpr (Int.dvd_refl _))
  obtain ⟨c, hc⟩ := this
  rw [hc, Int.add_mul_emod_self_left]
theorem IsG.swap {r : D} (h : IsG p q r) : IsG q p r := by
  obtain ⟨a, b, rfl, ha, a1, a2, x, y, hx, hb⟩ := h
  have e : gg q p = gg p q := Int.gcd_comm _ _
  have e2 : (dtt q p).natAbs = (dtt p q).natAbs := by
    have : dtt q p = -dtt p q := by unfold dtt; grind
    rw [this, Int.natAbs_neg]
  refine ⟨a, b, by rw [e], by rw [e, e2]; exact ha, a1, a2, y, x, by rw [e, ← hx]; grind, ?_⟩
  rw [hb]; congr 1; grind
theorem gdet_ok {i : Nat} (hi : T[i]? = some DECK.dfDet) (hp : bp 60 p) (hq : bp 60 q) : callN T (k+1) i [pd p, pd q] S = .ok (.int (dtt p q)) S := DECK.det_ok hi ⟨bd_le hp.1 (by omega), bd_le hp.2 (by omega)⟩ ⟨bd_le hq.1 (by omega), bd_le hq.2 (by omega)⟩
theorem abs_nat {x : Int} : (if x < 0 then -x else x) = (x.natAbs : Int) := by split <;> omega
theorem of_none (h : dtt p q = 0) (hp : bp 29 p) (hq : bp 29 q) : callN T (k+3) i_grid_of [pd p, pd q] S = .exc 1 none S := by
  refine exc_of_wc (wc_runX rfl rfl fun N K R X hN hR hX => ?_)
  (repeat infer_instance)
  refine wc_eq (gdet_ok rfl ⟨bd_le hp.1 (by omega), bd_le hp.2 (by omega)⟩ ⟨bd_le hq.1 (by omega), bd_le hq.2 (by omega)⟩) ?_
  rw [h]
  (repeat infer_instance)
  exact hX _ _ _ _ rfl ⟨rfl, rfl, rfl⟩
theorem of_many (h : 12 < (dtt p q).natAbs) (hp : bp 29 p) (hq : bp 29 q) : callN T (k+3) i_grid_of [pd p, pd q] S = .exc 2 (some (.int 12)) S := by
  refine exc_of_wc (wc_runX rfl rfl fun N K R X hN hR hX => ?_)
  (repeat infer_instance)
  refine wc_eq (gdet_ok rfl ⟨bd_le hp.1 (by omega), bd_le hp.2 (by omega)⟩ ⟨bd_le hq.1 (by omega), bd_le hq.2 (by omega)⟩) ?_
  (repeat infer_instance)
  rw [abs_nat]
  (repeat infer_instance)
  refine wif_d (fun h => absurd h (by omega)) fun _ => ?_
  (repeat infer_instance)
  refine wif_d (fun _ => ?_) fun h => absurd (by omega) h
  (repeat infer_instance)
  exact hX _ _ _ _ rfl ⟨rfl, rfl, rfl⟩
theorem of_ok1 (h : dtt p q ≠ 0) (h12 : (dtt p q).natAbs ≤ 12) (hp : bp 29 p) (hq : bp 29 q) : ∃ r, IsG p q r ∧ callN T (k+3) i_grid_of [pd p, pd q] S = .ok r S := by
  have hg := gg_pos h
  have hg2 := gg_le h h12
  obtain ⟨a, ha⟩ : ∃ a : Nat, (dtt p q).natAbs = a * gg p q := by
    obtain ⟨a, ha⟩ := Int.natAbs_dvd_natAbs.mpr (@gg_dvd p q)
    refine ⟨a, ?_⟩
    rw [ha, Nat.mul_comm]; simp
  have a1 : 1 ≤ a := by
    rcases Nat.eq_zero_or_pos a with rfl | h'
    · simp at ha; exact absurd ha h
    · exact h'
  have a2 : a ≤ 12 := by
    have := Nat.mul_le_mul_left a hg
    omega
  obtain ⟨p0, p1⟩ := p
  obtain ⟨q0, q1⟩ := q
  obtain ⟨hp0, hp1⟩ := hp
  obtain ⟨hq0, hq1⟩ := hq
  simp only at hp0 hp1 hq0 hq1
  generalize hG : gg (p0, p1) (q0, q1) = g at *
  have gb : bd 29 (g : Int) := by unfold bd; omega
  have bs := bd_ediv (b := (g : Int)) hp1 (by omega)
  have bt := bd_ediv (b := (g : Int)) hq1 (by omega)
  obtain ⟨s, hs⟩ : (g : Int) ∣ p1 := by rw [← hG]; exact Int.gcd_dvd_left p1 q1
  obtain ⟨t, ht⟩ : (g : Int) ∣ q1 := by rw [← hG]; exact Int.gcd_dvd_right p1 q1
  have es : p1 / (g : Int) = s := by rw [hs, Int.mul_ediv_cancel_left _ (by omega)]
  have et : q1 / (g : Int) = t := by rw [ht, Int.mul_ediv_cancel_left _ (by omega)]
  have g1 : PLG.gd (s, t) = 1 := by
    have e : Int.gcd p1 q1 = g := hG
    rw [hs, ht, Int.gcd_mul_left] at e
    unfold PLG.gd
    simp only
    have : (g : Int).natAbs = g := by simp
    rw [this] at e
    exact Nat.eq_of_mul_eq_mul_left (show 0 < g by omega) (by omega)
  rw [es] at bs
  rw [et] at bt
  obtain ⟨_, _, hc0, rfl, ⟨x, y⟩, rfl, ⟨hx, hy⟩, hxy⟩ := EUC.partner_ok (T := T) (k := k) (f := i_partner) (S := S) (jm := i_minus) (jt := i_times) rfl rfl rfl (v := (s, t)) ⟨bs, bt⟩ (by omega) (.inl (by unfold bd at bt; simp only; omega))
  rw [g1] at hxy
  simp only at hx hy hxy
  refine ⟨gr a ((y * p0 - x * q0) % a) g, ⟨a, _, by rw [hG], by rw [hG, ha]; simp, by omega, by omega, y, -x, by rw [hG, hs, ht]; simp only; grind, by congr 1; simp only; grind⟩, ?_⟩
  refine eq_of_wc (wc_run rfl rfl fun N K R X hN hR => ?_)
  simp only [pd]
  (repeat infer_instance)
  refine wc_eq (gdet_ok (p := (p0, p1)) (q := (q0, q1)) rfl ⟨bd_le hp0 (by omega), bd_le hp1 (by omega)⟩ ⟨bd_le hq0 (by omega), bd_le hq1 (by omega)⟩) ?_
  (repeat infer_instance)
  rw [abs_nat]
  refine wif_d (fun h => absurd h (by omega)) fun _ => ?_
  (repeat infer_instance)
  refine wif_d (fun h => absurd h (by omega)) fun _ => ?_
  (repeat infer_instance)
  have hG' : p1.natAbs.gcd q1.natAbs = g := hG
  rw [hG', ha]
  (repeat infer_instance)
  rw [es]
  (repeat infer_instance)
  rw [et]
  (repeat infer_instance)
  refine wc_eq hc0 ?_
  simp only [pd]
  (repeat infer_instance)
  have ea : ((a * g : Nat) : Int) / (g : Int) = a := by rw [Int.natCast_mul, Int.mul_ediv_cancel _ (by omega)]
  rw [ea]
  (repeat infer_instance)
  exact hR _ _ (wx_same ⟨rfl, rfl⟩)
theorem of_ok (h : dtt p q ≠ 0) (h12 : (dtt p q).natAbs ≤ 12) (hp : bp 29 p) (hq : bp 29 q) : ∃ r, IsG p q r ∧ ∀ S, callN T (k+3) i_grid_of [pd p, pd q] S = .ok r S := by
  obtain ⟨r, hr, _⟩ := of_ok1 (k := k) (S := []) h h12 hp hq
  refine ⟨r, hr, fun S => ?_⟩
  obtain ⟨r', hr', e⟩ := of_ok1 (k := k) (S := S) h h12 hp hq
  rw [hr.uniq h hr']; exact e
theorem bd_of_abs' {x : Int} (h : x.natAbs ≤ 2 ^ 60) : bd 61 x := by unfold bd; omega
theorem lof_ok (h : dtt p q ≠ 0) (h12 : (dtt p q).natAbs ≤ 12) (hp : bp 29 p) (hq : bp 29 q) : ∃ r, IsG p q r ∧ callN T (k+2) i__law_of [pd p, pd q] S = .ok r S := by
  have hg := gg_pos h
  have hg2 := gg_le h h12
  obtain ⟨a, ha⟩ : ∃ a : Nat, (dtt p q).natAbs = a * gg p q := by
    obtain ⟨a, ha⟩ := Int.natAbs_dvd_natAbs.mpr (@gg_dvd p q)
    refine ⟨a, ?_⟩
    rw [ha, Nat.mul_comm]; simp
  have a1 : 1 ≤ a := by
    rcases Nat.eq_zero_or_pos a with rfl | h'
    · simp at ha; exact absurd ha h
    · exact h'
  have a2 : a ≤ 12 := by
    have := Nat.mul_le_mul_left a hg
    omega
  obtain ⟨p0, p1⟩ := p
  obtain ⟨q0, q1⟩ := q
  obtain ⟨hp0, hp1⟩ := hp
  obtain ⟨hq0, hq1⟩ := hq
  simp only at hp0 hp1 hq0 hq1
  generalize hG : gg (p0, p1) (q0, q1) = g at *
  have hG' : Int.gcd p1 q1 = g := hG
  have hdet := gdet_ok (k := k) (S := S) (i := i__law_det) (p := (p0, p1)) (q := (q0, q1)) rfl ⟨bd_le hp0 (by omega), bd_le hp1 (by omega)⟩ ⟨bd_le hq0 (by omega), bd_le hq1 (by omega)⟩
  suffices hh : ∃ d S', callN T (k+2) i__law_of [pd (p0, p1), pd (q0, q1)] S = .ok d S' ∧ S' = S ∧ IsG (p0, p1) (q0, q1) d by
    obtain ⟨d, S', h1, h3, h2⟩ := hh
    subst h3
    exact ⟨d, h2, h1⟩
  refine ex_of_wc (wc_run rfl rfl fun N K R X hN hR => ?_)
  have fin : ∀ x y : Int, x * p1 + y * q1 = g → R (gr a ((x * p0 + y * q0) % a) g) S := fun x y hxy => hR _ _ (wx_same ⟨rfl, (a : Int), (x * p0 + y * q0) % (a : Int), by rw [hG], by rw [hG, ha]; simp, by omega, by omega, x, y, by rw [hG]; exact hxy, rfl⟩)
  clear hR hN
  (repeat infer_instance)
  refine wc_eq hdet ?_
  (repeat infer_instance)
  rw [abs_nat]
  have hM : ∀ {x : Int}, x.natAbs ≤ 2 ^ 60 → bd 61 x := fun h => bd_of_abs' h
  have hm : ∀ {x y : Int}, bd 29 x → bd 29 y → x.natAbs * y.natAbs ≤ 2 ^ 58 := fun {x y} hx hy => by
    unfold bd at hx hy
    have := Nat.mul_le_mul (show x.natAbs ≤ 2 ^ 29 by omega) (show y.natAbs ≤ 2 ^ 29 by omega)
    exact this
  have hs : ∀ {x : Int}, bd 29 x → x.natAbs ≤ 2 ^ 29 := fun hx => by unfold bd at hx; omega
  refine s_whl2 (fun m ρ S' => S' = S ∧ ∃ (o r u w x y z t : Int) (c d : Option D), m = r.natAbs ∧ ρ = [some (pd (p0, p1)), some (pd (q0, q1)), c, some (.int ((dtt (p0, p1) (q0, q1)).natAbs : Nat)), d, some (pd (u, o)), some (pd (w, r))] ∧ (x * p0 + y * q0 = u ∧ x * p1 + y * q1 = o) ∧ (z * p0 + t * q0 = w ∧ z * p1 + t * q1 = r) ∧ Int.gcd o r = g ∧ JJ (2 ^ 60) o r u w ∧ (r.natAbs ≤ q1.natAbs ∧ (0 ≤ q1 → 0 ≤ r)) ∧ o.natAbs ≤ 2 ^ 60)
    (fun ρ S' => S' = S ∧ ∃ (o u x y : Int) (c d e : Option D), ρ = [some (pd (p0, p1)), some (pd (q0, q1)), c, some (.int ((dtt (p0, p1) (q0, q1)).natAbs : Nat)), d, some (pd (u, o)), e] ∧ x * p0 + y * q0 = u ∧ x * p1 + y * q1 = o ∧ o.natAbs = g) _
    ⟨rfl, p1, q1, p0, q0, 1, 0, 0, 1, _, _, rfl, rfl, ⟨by omega, by omega⟩, ⟨by omega, by omega⟩, hG', ?_, ⟨Nat.le_refl _, id⟩, by have := hs hp1; omega⟩ ?_ ?_
  · have h1 := hs hp0; have h2 := hs hq0
    have h3 := hm hp0 hq1; have h4 := hm hq0 hp1; have h5 := hm hq0 hq1
    refine ⟨by omega, by omega, ?_, .inr ?_⟩ <;> unfold PP <;> omega
  · rintro m ρ S' N2 M ⟨rfl, o, r, u, w, x, y, z, t, c, d, rfl, rfl, ⟨e1, e2⟩, ⟨e3, e4⟩, eg, jj, hr, bo⟩ hN2 hM2
    have bq1 := hs hq1
    have br : bd 61 r := hM (by omega)
    have bu := hM jj.1
    have bw := hM jj.2.1
    simp only [pd]
    (repeat infer_instance)
    refine wif_d (fun q => ?_) fun q => ?_
    · (repeat infer_instance)
      refine EUC.wo_dv (n := 61) q (.inl (show q1.natAbs < _ by omega)) hr br (by omega) ?_
      have bq : bd 61 (o.fdiv r) := bd_of (hM bo) (fdiv_abs q)
      (repeat infer_instance)
      rw [rest_eq]
      refine hN2 _ _ _ (@fmod_abs o r q) ⟨rfl, r, o.fmod r, w, u - o.fdiv r * w, z, t, x - o.fdiv r * z, y - o.fdiv r * t, _, _, rfl, rfl, ⟨e3, e4⟩, ⟨?_, ?_⟩, by rw [gcd_rest, eg], jj.step q, EUC.fmod_sgn q hr, by omega⟩
      · rw [← e1, ← e3]; grind
      · rw [← rest_eq, ← e2, ← e4]; grind
    · obtain rfl : r = 0 := by omega
      exact hM2 _ _ ⟨rfl, o, u, x, y, _, _, _, rfl, e1, e2, by rw [← eg]; simp⟩
  · rintro _ _ ⟨rfl, o, u, x, y, c, d, e, rfl, e1, e2, eo⟩
    have ea : ((a * g : Nat) : Int) / (g : Int) = a := by rw [Int.natCast_mul, Int.mul_ediv_cancel _ (by omega)]
    simp only [pd]
    (repeat infer_instance)
    refine wif_d (fun q => ?_) fun q => ?_
    · have e3 : -o = (g : Int) := by omega
      (repeat infer_instance)
      rw [e3, ha]
      (repeat infer_instance)
      rw [ea]
      (repeat infer_instance)
      have h1 : -u = -x * p0 + -y * q0 := by rw [← e1]; grind
      rw [h1]
      exact fin _ _ (by rw [← e3, ← e2]; grind)
    · have e3 : o = (g : Int) := by omega
      subst e3
      (repeat infer_instance)
      rw [ha]
      (repeat infer_instance)
      rw [ea]
      (repeat infer_instance)
      rw [← e1]
      exact fin _ _ e2
/-! ### told and due -/
def Due (p q : Pt) (d : D) : Prop := (dtt p q = 0 ∧ d = .lst [.str "unfit"]) ∨ (12 < (dtt p q).natAbs ∧ d = .lst [.str "many", .int 12]) ∨ ∃ r, dtt p q ≠ 0 ∧ (dtt p q).natAbs ≤ 12 ∧ IsG p q r ∧ d = .lst [.str "told", r]
theorem due_ok (hp : bp 29 p) (hq : bp 29 q) : ∃ d, Due p q d ∧ callN T (k+3) i__law_due [pd p, pd q] S = .ok d S := by
  have hdet := gdet_ok (k := k + 1) (S := S) (i := i__law_det) rfl ⟨bd_le hp.1 (by omega), bd_le hp.2 (by omega)⟩ ⟨bd_le hq.1 (by omega), bd_le hq.2 (by omega)⟩
  by_cases h0 : dtt p q = 0
  · refine ⟨_, .inl ⟨h0, rfl⟩, ?_⟩
    refine eq_of_wc (wc_run rfl rfl fun N K R X hN hR => ?_)
    (repeat infer_instance)
    refine wc_eq hdet ?_
    (repeat infer_instance)
    rw [abs_nat]
    refine wif_d (fun _ => ?_) fun h => absurd (by omega) h
    (repeat infer_instance)
    exact hR _ _ (wx_same ⟨rfl, rfl⟩)
  by_cases h1 : 12 < (dtt p q).natAbs
  · refine ⟨_, .inr (.inl ⟨h1, rfl⟩), ?_⟩
    refine eq_of_wc (wc_run rfl rfl fun N K R X hN hR => ?_)
    (repeat infer_instance)
    refine wc_eq hdet ?_
    (repeat infer_instance)
    rw [abs_nat]
    refine wif_d (fun h => absurd h (by omega)) fun _ => ?_
    (repeat infer_instance)
    refine wif_d (fun _ => ?_) fun h => absurd (by omega) h
    (repeat infer_instance)
    exact hR _ _ (wx_same ⟨rfl, rfl⟩)
  · obtain ⟨r, hr, hc⟩ := lof_ok (k := k) (S := S) h0 (by omega) hp hq
    refine ⟨_, .inr (.inr ⟨r, h0, by omega, hr, rfl⟩), ?_⟩
    refine eq_of_wc (wc_run rfl rfl fun N K R X hN hR => ?_)
    (repeat infer_instance)
    refine wc_eq hdet ?_
    (repeat infer_instance)
    rw [abs_nat]
    refine wif_d (fun h => absurd h (by omega)) fun _ => ?_
    (repeat infer_instance)
    refine wif_d (fun h => absurd h (by omega)) fun _ => ?_
    (repeat infer_instance)
    refine wc_eq hc ?_
    (repeat infer_instance)
    exact hR _ _ (wx_same ⟨rfl, rfl⟩)
theorem told_ok {d : D} (hd : Due p q d) (hp : bp 29 p) (hq : bp 29 q) : callN T (k+4) i__law_told [pd p, pd q] S = .ok d S := by
  refine eq_of_wc (wc_run rfl rfl fun N K R X hN hR => ?_)
  refine s_try ?_
  rcases hd with ⟨h0, rfl⟩ | ⟨h1, rfl⟩ | ⟨r, h0, h1, hr, rfl⟩
  · (repeat infer_instance)
    refine wc_exc (of_none h0 hp hq) ?_
    refine s_hnd rfl xfit0 (d := .lst [.str "unfit"]) (fun aa dd fs fit => ?_) (hR _ _ (wx_same ⟨rfl, rfl⟩))
    simp only [slx]
    (repeat infer_instance)
    refine wc_xi (m := 2) ?_
    (repeat infer_instance)
    refine wc_xi (m := 1) ?_
    (repeat infer_instance)
    refine wc_xi (m := 2) ?_
    (repeat infer_instance)
    refine wc_xi (m := 7) ?_
    (repeat infer_instance)
    rfl
  · (repeat infer_instance)
    refine wc_exc (of_many h1 hp hq) ?_
    refine s_hnd rfl xfit1 (d := .lst [.str "many", .int 12]) (fun aa dd fs fit => ?_) (hR _ _ (wx_same ⟨rfl, rfl⟩))
    simp only [slx]
    (repeat infer_instance)
    refine wc_xi (m := 2) ?_
    (repeat infer_instance)
    refine wc_xi (m := 1) ?_
    (repeat infer_instance)
    refine wc_xi (m := 7) ?_
    (repeat infer_instance)
    refine wc_xf (f := 1) rfl (by omega) (by omega) ?_
    (repeat infer_instance)
    rfl
  · obtain ⟨r', hr', hc⟩ := of_ok (k := k) h0 h1 hp hq
    obtain rfl := hr.uniq h0 hr'
    (repeat infer_instance)
    refine wc_eq (hc S) ?_
    (repeat infer_instance)
    exact hR _ _ (wx_same ⟨rfl, rfl⟩)
theorem gswap_ok {r : D} (h0 : dtt p q ≠ 0) (h1 : (dtt p q).natAbs ≤ 12) (hr : IsG p q r) (hp : bp 29 p) (hq : bp 29 q) : callN T (k+3) i_grid_of [pd q, pd p] S = .ok r S := by
  have e : dtt q p = -dtt p q := by unfold dtt; grind
  obtain ⟨r', hr', hc⟩ := of_ok (k := k) (p := q) (q := p) (by omega) (by omega) hq hp
  obtain rfl := hr.uniq h0 hr'.swap
  exact hc S
theorem IsG.sh {r : D} (h0 : dtt p q ≠ 0) (h1 : (dtt p q).natAbs ≤ 12) (h : IsG p q r) : Sh 20 200 r := by
  obtain ⟨a, b, rfl, ha, a1, a2, x, y, hx, hb⟩ := h
  have hg := gg_le h0 h1
  have hm := emod_lt (a := x * p.1 + y * q.1) (b := a) (by omega)
  rw [← hb] at hm
  have l1 : bd 10 a := by unfold bd; omega
  have l2 : bd 10 b := by unfold bd; omega
  have l3 : bd 10 ((gg p q : Nat) : Int) := by unfold bd; omega
  exact sh_le (sh_tup (shl_cons (sh_int (m := 18) l1 (by omega)) (shl_cons (sh_int l2 (by omega)) (shl_cons (sh_int l3 (by omega)) shl_nil)))) (by omega)
end K67

set_option linter.all false
set_option pp.deepTerms false
set_option pp.deepTerms.threshold 12
set_option maxHeartbeats 4000000
namespace K67
open PySem GV GX D46
open DECK (Pt pd bp)
open L2 (atI ixN)
local macro_rules | `(tactic| infer_instance) => `(tactic| first | ((with_reducible apply e_loc); (repeat ((with_reducible refine look_ne ?_ ?_); decide)); (first | ((with_reducible refine look_eq ?_); (repeat (first | (with_reducible refine lt_set ?_) | exact Nat.le_of_ble_eq_true rfl))) | exact rfl)) | (with_reducible first | refine e_cst ?_ | refine e_bin ?_ | refine e_idx ?_ | refine e_call ?_ | refine wl_cons ?_ | refine wl_nil ?_ | refine e_tup ?_ | refine e_b1 ?_ | refine e_cmp ?_ | refine e_lst ?_ | refine e_neg ?_ | refine e_not ?_ | refine e_and ?_ | refine e_or ?_ | refine e_ife ?_ | refine e_chain ?_ | refine e_isa ?_ | refine e_sl ?_ | refine e_slh ?_ | refine e_sll ?_ | refine e_sla ?_ | refine e_rev ?_ | refine e_alc ?_ | refine e_callK ?_ | refine e_b2 ?_ | refine e_rng1 ?_ | refine e_rng2 ?_ | refine e_enm ?_ | refine e_zip ?_ | refine e_comp ?_ | refine e_meth ?_ | refine e_frz0 ?_ | refine e_frz1 ?_ | refine e_sset ?_ | refine e_sdct ?_ | refine e_lzip ?_ | refine e_upr ?_ | refine e_dct ?_ | refine s_seq ?_ | refine s_set ?_ | refine s_unp ?_ | refine s_par ?_ | refine s_ret ?_ | refine s_ite ?_ | refine s_for ?_ | refine s_ex ?_ | refine s_skip ?_ | refine s_setx ?_ | refine s_cont ?_ | refine s_retN ?_ | refine s_raise0 ?_ | refine s_raise1 ?_ | refine wo_lt ?_ | refine wo_le ?_ | refine wo_gt ?_ | refine wo_ge ?_ | refine wo_eqi ?_ | refine wo_nei ?_ | refine wo_of litems_new ?_ | refine wo_of items_new ?_ | refine wo_of b1len_new ?_ | refine wo_of b1tuple_new ?_ | refine wo_of b1list_new ?_ | refine wo_of slice_new ?_ | refine wo_isN ?_ | refine wo_notN ?_ | refine wo_slT ?_ | refine wo_slL ?_ | refine wo_lenT ?_ | refine wo_lenL ?_ | refine wo_tupT ?_ | refine wo_tupL ?_ | refine wo_lstT ?_ | refine wo_lstL ?_) | (with_reducible refine wo_dbl1 ?_) | (with_reducible refine wo_eqs ?_) | (with_reducible refine wo_nes ?_) | ((with_reducible refine wo_eqsN ?_ ?_); (decide +kernel)) | ((with_reducible refine wo_nesN ?_ ?_); (decide +kernel)) | ((with_reducible refine wo_eqn ?_ ?_ ?_); exact rfl; exact rfl) | ((with_reducible refine wo_nen ?_ ?_ ?_); exact rfl; exact rfl) | ((with_reducible refine wo_inT ?_ ?_ ?_); exact rfl; exact rfl) | ((with_reducible refine wo_ninT ?_ ?_ ?_); exact rfl; exact rfl) | ((with_reducible refine wo_modE ?_ ?_); omega) | ((with_reducible refine wo_fdivE ?_ ?_); omega) | ((with_reducible refine wo_mulS ?_ ?_); omega) | ((with_reducible refine wo_mul ?_ ?_); exact mulOk_bd (by (repeat (first | assumption | (with_reducible apply bd_mul) | (with_reducible apply bd_add) | (with_reducible apply bd_sub) | (with_reducible apply bd_neg) | (with_reducible apply bd_abs) | exact bd80 (by omega)))) (by (repeat (first | assumption | (with_reducible apply bd_mul) | (with_reducible apply bd_add) | (with_reducible apply bd_sub) | (with_reducible apply bd_neg) | (with_reducible apply bd_abs) | exact bd80 (by omega)))) (by omega)) | ((with_reducible apply wo_of); exact rfl) | ((with_reducible refine wo_reprN ?_ ?_); exact sh_fin (by (repeat (first | assumption | (with_reducible apply sh_tup) | (with_reducible apply sh_lst) | (with_reducible apply shl_cons) | (with_reducible apply shl_app) | (with_reducible apply shl_nil) | (with_reducible apply sh_non) | (with_reducible apply sh_bl) | ((with_reducible apply sh_int); (repeat (first | assumption | (with_reducible apply bd_mul) | (with_reducible apply bd_add) | (with_reducible apply bd_sub) | (with_reducible apply bd_neg) | (with_reducible apply bd_abs) | exact bd80 (by omega))); omega) | ((with_reducible apply sh_str); decide)))) (by decide)) | ((with_reducible refine wo_repr ?_ ?_); exact sh_fin (by (repeat (first | assumption | (with_reducible apply sh_tup) | (with_reducible apply sh_lst) | (with_reducible apply shl_cons) | (with_reducible apply shl_app) | (with_reducible apply shl_nil) | (with_reducible apply sh_non) | (with_reducible apply sh_bl) | ((with_reducible apply sh_int); (repeat (first | assumption | (with_reducible apply bd_mul) | (with_reducible apply bd_add) | (with_reducible apply bd_sub) | (with_reducible apply bd_neg) | (with_reducible apply bd_abs) | exact bd80 (by omega))); omega) | ((with_reducible apply sh_str); decide)))) (by decide)) | (with_reducible refine wif_t ?_) | (with_reducible refine wif_f ?_) | refine wif_t ?_ | refine wif_f ?_ | ((with_reducible refine and_rng ?_ ?_); omega) | ((with_reducible refine and_rng2 ?_ ?_); omega) | (refine And.intro (Nat.le_of_ble_eq_true rfl) ?_) | refine And.intro rfl ?_)
variable {k : Nat} {S : Sto}
theorem grid_ok {G : Sto} {n : Nat} (g0 : GJ n G) : ∃ e S', callN T (k+3) i__law_grid [.ref 1] G = .ok e S' ∧ (∃ a b d, e = gr a b d ∧ OkG a b d ∧ a * d ≤ 12) ∧ GJ n S' := by
  refine ex_of_wc (wc_run rfl rfl fun N K R X hN hR => ?_)
  have fin : ∀ G' a b d, GJ n G' → OkG a b d → a * d ≤ 12 → R (gr a b d) G' := fun G' a b d g h1 h2 => hR _ _ (wx_len (by rw [g.len, g0.len]) ⟨⟨a, b, d, rfl, h1, h2⟩, g⟩)
  clear hR hN
  (repeat infer_instance)
  refine wc_ex (draw_okJ rfl g0 (by omega) (by omega)) ?_
  rintro _ G1 ⟨u, rfl, u0, u1, g1⟩
  obtain ⟨m, rfl⟩ := Int.eq_ofNat_of_zero_le u0
  (repeat infer_instance)
  refine c_some (fun (j : Nat) => .int (1 + (j : Int))) (List.range (m + 1)) (fun j => if (1 + (m : Int)) % (1 + (j : Int)) = 0 then some (.int (1 + (j : Int))) else none) (by rw [rngL_eq]; congr 2; omega) True.intro (by simp; omega) (fun j hj R hR => ?_) ?_
  · (repeat infer_instance)
    refine wif_d (fun q => ?_) fun q => ?_
    · (repeat infer_instance)
      rw [if_pos q] at hR; exact hR
    · rw [if_neg q] at hR; exact hR
  · generalize hl : (List.range (m + 1)).filterMap (fun (j : Nat) => if (1 + (m : Int)) % (1 + (j : Int)) = 0 then some (D.int (1 + (j : Int))) else none) = l
    have hm : ∀ x ∈ l, ∃ a : Int, x = .int a ∧ 1 ≤ a ∧ a ≤ 12 ∧ a ∣ 1 + (m : Int) := by
      intro x hx
      rw [← hl] at hx
      obtain ⟨j, hj, e⟩ := List.mem_filterMap.mp hx
      have hj' := List.mem_range.mp hj
      split at e
      · rename_i q
        injection e with e
        exact ⟨_, e.symm, by omega, by omega, Int.dvd_of_emod_eq_zero q⟩
      · cases e
    have hne : l ≠ [] := by
      have : D.int (1 + ((m : Nat) : Int)) ∈ l := by
        rw [← hl]
        refine List.mem_filterMap.mpr ⟨m, List.mem_range.mpr (by omega), ?_⟩
        rw [if_pos (Int.emod_self)]
      intro e; rw [e] at this; cases this
    have hlen : l.length ≤ 12 := by
      rw [← hl]
      refine Nat.le_trans (List.length_filterMap_le _ _) ?_
      rw [List.length_range]; omega
    (repeat infer_instance)
    refine wc_ex (pick_okJ rfl rfl g1 hne (by omega)) ?_
    rintro _ G2 ⟨hx, g2⟩
    obtain ⟨a, rfl, a1, a2, d, hd⟩ := hm _ hx
    have d1 : 1 ≤ d := by
      rcases Int.lt_or_le d 1 with q | q
      · have := Int.mul_nonpos_of_nonneg_of_nonpos (show 0 ≤ a by omega) (show d ≤ 0 by omega)
        omega
      · exact q
    have d2 : d ≤ 12 := by
      have := Int.mul_le_mul_of_nonneg_right a1 (show 0 ≤ d by omega)
      omega
    (repeat infer_instance)
    refine wc_ex (draw_okJ rfl g2 (by omega) (by omega)) ?_
    rintro _ G3 ⟨b, rfl, b0, b1, g3⟩
    (repeat infer_instance)
    rw [hd, Int.mul_ediv_cancel_left _ (by omega)]
    exact fin _ _ _ _ g3 ⟨by omega, d1, b0, b1, a2, d2⟩ (by omega)
theorem linear_ok {G : Sto} {t most : Int} (t0 : 0 ≤ t) (t1 : t ≤ 6) (m0 : 1 ≤ most) (m1 : most ≤ 5) {n : Nat} (g0 : GJ n G) : ∃ e S', callN T (k+3) i__law_linear [.ref 1, .int t, .int most] G = .ok e S' ∧ (∃ a b c d : Int, e = .tup [.int a, .int b, .int c, .int d] ∧ a.natAbs ≤ 46656 ∧ b.natAbs ≤ 46656 ∧ c.natAbs ≤ 46656 ∧ d.natAbs ≤ 46656) ∧ GJ n S' := by
  refine ex_of_wc (wc_run rfl rfl fun N K R X hN hR => ?_)
  have fin : ∀ G' (a b c d : Int), GJ n G' → a.natAbs ≤ 46656 ∧ b.natAbs ≤ 46656 ∧ c.natAbs ≤ 46656 ∧ d.natAbs ≤ 46656 → R (.tup [.int a, .int b, .int c, .int d]) G' := fun G' a b c d g h => hR _ _ (wx_len (by rw [g.len, g0.len]) ⟨⟨a, b, c, d, rfl, h⟩, g⟩)
  clear hR hN
  have pw : ∀ i : Nat, i ≤ 6 → 1 ≤ 6 ^ i ∧ 6 ^ i ≤ 46656 := by decide
  obtain ⟨tn, rfl⟩ := Int.eq_ofNat_of_zero_le t0
  (repeat infer_instance)
  refine f_rng 0 tn rfl (fun i ρ S' => GJ n S' ∧ ∃ (a b c d : Int) (x y z : Option D), ρ = [some (.ref 1), some (.int tn), some (.int most), x, some (.int a), some (.int b), some (.int c), some (.int d), y, z] ∧ a.natAbs ≤ 6 ^ i ∧ b.natAbs ≤ 6 ^ i ∧ c.natAbs ≤ 6 ^ i ∧ d.natAbs ≤ 6 ^ i) ⟨g0, 1, 0, 0, 1, _, _, _, rfl, by omega, by omega, by omega, by omega⟩ ?_ ?_
  · rintro i ρ S' N' hi ⟨g, a, b, c, d, x, y, z, rfl, ha, hb, hc, hd⟩ hN'
    have p0 := pw i (by omega)
    have p1 := pw (i + 1) (by omega)
    rw [Nat.pow_succ] at p1
    (repeat infer_instance)
    refine wc_ex (draw_okJ rfl g (by omega) (by omega)) ?_
    rintro _ G1 ⟨u, rfl, u0, u1, g1⟩
    (repeat infer_instance)
    refine wc_ex (draw_okJ rfl g1 (by omega) (by omega)) ?_
    rintro _ G2 ⟨w, rfl, w0, w1, g2⟩
    have bb : ∀ {x : Int}, x.natAbs ≤ 6 ^ i → bd 40 x := fun h => by unfold bd; omega
    have ba := bb ha; have bbb := bb hb; have bc := bb hc; have bdd := bb hd
    have bk : bd 40 (u - most) := by unfold bd; omega
    have hk : (u - most).natAbs ≤ 5 := by omega
    generalize u - most = kk at bk hk ⊢
    have st : ∀ {x y : Int}, x.natAbs ≤ 6 ^ i → y.natAbs ≤ 6 ^ i → (x + kk * y).natAbs ≤ 6 ^ (i + 1) := fun {x y} hx hy => by
      have h1 := natAbs_mul_le hk hy
      rw [Nat.pow_succ]
      omega
    have up : ∀ {x : Int}, x.natAbs ≤ 6 ^ i → x.natAbs ≤ 6 ^ (i + 1) := fun h => by rw [Nat.pow_succ]; omega
    (repeat infer_instance)
    refine wif_d (fun q1 => ?_) fun q1 => ?_
    · (repeat infer_instance)
      exact hN' _ _ True.intro ⟨g2, _, _, _, _, _, _, _, rfl, st ha hc, st hb hd, up hc, up hd⟩
    · (repeat infer_instance)
      refine wif_d (fun q1 => ?_) fun q1 => ?_
      · (repeat infer_instance)
        exact hN' _ _ True.intro ⟨g2, _, _, _, _, _, _, _, rfl, up ha, up hb, st hc ha, st hd hb⟩
      · (repeat infer_instance)
        exact hN' _ _ True.intro ⟨g2, _, _, _, _, _, _, _, rfl, up hc, up hd, up ha, up hb⟩
  · rintro _ S' ⟨g, a, b, c, d, x, y, z, rfl, ha, hb, hc, hd⟩
    have p0 := pw tn (by omega)
    (repeat infer_instance)
    exact fin _ _ _ _ _ g ⟨by omega, by omega, by omega, by omega⟩
theorem vectors_ok {G : Sto} {a b d : Int} (g : OkG a b d) {n : Nat} (g0 : GJ n G) : ∃ e S', callN T (k+4) i__law_vectors [.ref 1, gr a b d] G = .ok e S' ∧ (∃ p q : Pt, e = .tup [pd p, pd q] ∧ bp 29 p ∧ bp 29 q) ∧ GJ n S' := by
  obtain ⟨a1, d1, b0, ba, a2, d2⟩ := id g
  refine ex_of_wc (wc_run rfl rfl fun N K R X hN hR => ?_)
  have fin : ∀ G' (p q : Pt), GJ n G' → bp 29 p → bp 29 q → R (.tup [pd p, pd q]) G' := fun G' p q g h1 h2 => hR _ _ (wx_len (by rw [g.len, g0.len]) ⟨⟨p, q, rfl, h1, h2⟩, g⟩)
  clear hR hN
  (repeat infer_instance)
  refine wc_ex (draw_okJ rfl g0 (by omega) (by omega)) ?_
  rintro _ G1 ⟨u, rfl, u0, u1, g1⟩
  (repeat infer_instance)
  refine wc_ex (pick_okJ rfl rfl g1 (ds := [.int 1, .int 3, .int 5]) (by simp) (by simp)) ?_
  rintro x G2 ⟨hx, g2⟩
  obtain ⟨mo, rfl, mo0, mo1⟩ : ∃ mo : Int, x = .int mo ∧ 1 ≤ mo ∧ mo ≤ 5 := by
    simp only [List.mem_cons, List.not_mem_nil, or_false] at hx
    rcases hx with rfl | rfl | rfl
    · exact ⟨_, rfl, by omega, by omega⟩
    · exact ⟨_, rfl, by omega, by omega⟩
    · exact ⟨_, rfl, by omega, by omega⟩
  (repeat infer_instance)
  refine wc_ex (linear_ok u0 (by omega) mo0 mo1 g2) ?_
  rintro _ G3 ⟨⟨p, q, r, s, rfl, hp, hq, hr, hs⟩, g3⟩
  have bb : ∀ {x : Int}, x.natAbs ≤ 46656 → bd 40 x := fun h => by unfold bd; omega
  have bp' := bb hp; have bq' := bb hq; have br' := bb hr; have bs' := bb hs
  have cb : ∀ {x : Int}, 0 ≤ x → x ≤ 12 → bd 40 x := fun h h2 => by unfold bd; omega
  have ca := cb (show 0 ≤ a by omega) a2; have cbb := cb b0 (by omega); have cd := cb (show 0 ≤ d by omega) d2
  have na : a.natAbs ≤ 12 := by omega
  have nb : b.natAbs ≤ 12 := by omega
  have nd : d.natAbs ≤ 12 := by omega
  have m1 := natAbs_mul_le hp na; have m2 := natAbs_mul_le hq nb; have m3 := natAbs_mul_le hq nd
  have m4 := natAbs_mul_le hr na; have m5 := natAbs_mul_le hs nb; have m6 := natAbs_mul_le hs nd
  have fb : ∀ {x : Int}, x.natAbs ≤ 4000000 → bd 29 x := fun h => by unfold bd; omega
  (repeat infer_instance)
  refine wc_ex (draw_okJ rfl g3 (by omega) (by omega)) ?_
  rintro _ G4 ⟨w, rfl, w0, w1, g4⟩
  generalize h1 : p * a + q * b = x1 at *
  generalize h2 : q * d = x2 at *
  generalize h3 : r * a + s * b = x3 at *
  generalize h4 : s * d = x4 at *
  have n1 : x1.natAbs ≤ 1200000 := by omega
  have n2 : x2.natAbs ≤ 1200000 := by omega
  have n3 : x3.natAbs ≤ 1200000 := by omega
  have n4 : x4.natAbs ≤ 1200000 := by omega
  (repeat infer_instance)
  refine wif_d (fun q1 => ?_) fun q1 => ?_
  · (repeat infer_instance)
    exact fin _ (x1, x2) (x3 + 1, x4) g4 ⟨fb (by simp only; omega), fb (by simp only; omega)⟩ ⟨fb (by simp only; omega), fb (by simp only; omega)⟩
  · (repeat infer_instance)
    refine wif_d (fun q1 => ?_) fun q1 => ?_
    · (repeat infer_instance)
      exact fin _ (x1, x2) (2 * x1, 2 * x2) g4 ⟨fb (by simp only; omega), fb (by simp only; omega)⟩ ⟨fb (by simp only; omega), fb (by simp only; omega)⟩
    · (repeat infer_instance)
      refine wif_d (fun q1 => ?_) fun q1 => ?_
      · (repeat infer_instance)
        exact fin _ (3 * x1, 3 * x2) (x3, x4) g4 ⟨fb (by simp only; omega), fb (by simp only; omega)⟩ ⟨fb (by simp only; omega), fb (by simp only; omega)⟩
      · (repeat infer_instance)
        exact fin _ (x1, x2) (x3, x4) g4 ⟨fb (by simp only; omega), fb (by simp only; omega)⟩ ⟨fb (by simp only; omega), fb (by simp only; omega)⟩
end K67

set_option linter.all false
set_option pp.deepTerms false
set_option pp.deepTerms.threshold 12
set_option maxHeartbeats 8000000
namespace K67
open PySem GV GX D46
open DECK (Pt pd bp)
open JDG (noRef isI num_ok)
open L2 (atI ixN)
local macro_rules | `(tactic| infer_instance) => `(tactic| first | ((with_reducible apply e_loc); (repeat ((with_reducible refine look_ne ?_ ?_); decide)); (first | ((with_reducible refine look_eq ?_); (repeat (first | (with_reducible refine lt_set ?_) | exact Nat.le_of_ble_eq_true rfl))) | exact rfl)) | (with_reducible first | refine e_cst ?_ | refine e_bin ?_ | refine e_idx ?_ | refine e_call ?_ | refine wl_cons ?_ | refine wl_nil ?_ | refine e_tup ?_ | refine e_b1 ?_ | refine e_cmp ?_ | refine e_lst ?_ | refine e_neg ?_ | refine e_not ?_ | refine e_and ?_ | refine e_or ?_ | refine e_ife ?_ | refine e_chain ?_ | refine e_isa ?_ | refine e_sl ?_ | refine e_slh ?_ | refine e_sll ?_ | refine e_sla ?_ | refine e_rev ?_ | refine e_alc ?_ | refine e_callK ?_ | refine e_b2 ?_ | refine e_rng1 ?_ | refine e_rng2 ?_ | refine e_enm ?_ | refine e_zip ?_ | refine e_comp ?_ | refine e_meth ?_ | refine e_frz0 ?_ | refine e_frz1 ?_ | refine e_sset ?_ | refine e_sdct ?_ | refine e_lzip ?_ | refine e_upr ?_ | refine e_dct ?_ | refine s_seq ?_ | refine s_set ?_ | refine s_unp ?_ | refine s_par ?_ | refine s_ret ?_ | refine s_ite ?_ | refine s_for ?_ | refine s_ex ?_ | refine s_skip ?_ | refine s_setx ?_ | refine s_cont ?_ | refine s_retN ?_ | refine s_raise0 ?_ | refine s_raise1 ?_ | refine wo_lt ?_ | refine wo_le ?_ | refine wo_gt ?_ | refine wo_ge ?_ | refine wo_eqi ?_ | refine wo_nei ?_ | refine wo_of litems_new ?_ | refine wo_of items_new ?_ | refine wo_of b1len_new ?_ | refine wo_of b1tuple_new ?_ | refine wo_of b1list_new ?_ | refine wo_of slice_new ?_ | refine wo_isN ?_ | refine wo_notN ?_ | refine wo_slT ?_ | refine wo_slL ?_ | refine wo_lenT ?_ | refine wo_lenL ?_ | refine wo_tupT ?_ | refine wo_tupL ?_ | refine wo_lstT ?_ | refine wo_lstL ?_) | (with_reducible refine wo_dbl1 ?_) | (with_reducible refine wo_eqs ?_) | (with_reducible refine wo_nes ?_) | ((with_reducible refine wo_eqsN ?_ ?_); (decide +kernel)) | ((with_reducible refine wo_nesN ?_ ?_); (decide +kernel)) | ((with_reducible refine wo_eqn ?_ ?_ ?_); exact rfl; exact rfl) | ((with_reducible refine wo_nen ?_ ?_ ?_); exact rfl; exact rfl) | ((with_reducible refine wo_inT ?_ ?_ ?_); exact rfl; exact rfl) | ((with_reducible refine wo_ninT ?_ ?_ ?_); exact rfl; exact rfl) | ((with_reducible refine wo_modE ?_ ?_); omega) | ((with_reducible refine wo_fdivE ?_ ?_); omega) | ((with_reducible refine wo_mulS ?_ ?_); omega) | ((with_reducible refine wo_mul ?_ ?_); exact mulOk_bd (by (repeat (first | assumption | (with_reducible apply bd_mul) | (with_reducible apply bd_add) | (with_reducible apply bd_sub) | (with_reducible apply bd_neg) | (with_reducible apply bd_abs) | exact bd80 (by omega)))) (by (repeat (first | assumption | (with_reducible apply bd_mul) | (with_reducible apply bd_add) | (with_reducible apply bd_sub) | (with_reducible apply bd_neg) | (with_reducible apply bd_abs) | exact bd80 (by omega)))) (by omega)) | ((with_reducible apply wo_of); exact rfl) | ((with_reducible refine wo_reprN ?_ ?_); exact sh_fin (by (repeat (first | assumption | (with_reducible apply sh_tup) | (with_reducible apply sh_lst) | (with_reducible apply shl_cons) | (with_reducible apply shl_app) | (with_reducible apply shl_nil) | (with_reducible apply sh_non) | (with_reducible apply sh_bl) | ((with_reducible apply sh_int); (repeat (first | assumption | (with_reducible apply bd_mul) | (with_reducible apply bd_add) | (with_reducible apply bd_sub) | (with_reducible apply bd_neg) | (with_reducible apply bd_abs) | exact bd80 (by omega))); omega) | ((with_reducible apply sh_str); decide)))) (by decide)) | ((with_reducible refine wo_repr ?_ ?_); exact sh_fin (by (repeat (first | assumption | (with_reducible apply sh_tup) | (with_reducible apply sh_lst) | (with_reducible apply shl_cons) | (with_reducible apply shl_app) | (with_reducible apply shl_nil) | (with_reducible apply sh_non) | (with_reducible apply sh_bl) | ((with_reducible apply sh_int); (repeat (first | assumption | (with_reducible apply bd_mul) | (with_reducible apply bd_add) | (with_reducible apply bd_sub) | (with_reducible apply bd_neg) | (with_reducible apply bd_abs) | exact bd80 (by omega))); omega) | ((with_reducible apply sh_str); decide)))) (by decide)) | (with_reducible refine wif_t ?_) | (with_reducible refine wif_f ?_) | refine wif_t ?_ | refine wif_f ?_ | ((with_reducible refine and_rng ?_ ?_); omega) | ((with_reducible refine and_rng2 ?_ ?_); omega) | (refine And.intro (Nat.le_of_ble_eq_true rfl) ?_) | refine And.intro rfl ?_)
variable {k : Nat} {S : Sto}
def It (x : D) : Prop := noRef x = true ∧ ∀ i, x = .int i → bd 1000 i
theorem it_int {i : Int} (h : -1267650600228229401496703205376 < i ∧ i < 1267650600228229401496703205376) : It (.int i) := ⟨rfl, fun j e => by injection e with e; subst e; exact bd_le (m := 100) (by unfold bd; omega) (by omega)⟩
theorem it_non {x : D} (h : noRef x = true) (h2 : isI x = false) : It x := ⟨h, fun i e => by subst e; cases h2⟩
theorem val3 {x y z : D} (hx : It x) (hy : It y) (hz : It z) : Val (.tup [x, y, z]) := .inr ⟨_, rfl, by simp, fun v hv => by
  simp only [List.mem_cons, List.not_mem_nil, or_false] at hv
  rcases hv with rfl | rfl | rfl
  · exact hx
  · exact hy
  · exact hz⟩
theorem tab_small : ∀ n : Nat, n < 13 → ((tabI n n).all fun t => decide (t.1.natAbs ≤ 100) && (decide (t.2.1.natAbs ≤ 100) && decide (t.2.2.natAbs ≤ 100))) = true := by decide +kernel
theorem comp (ns : List Int) (h1 : ns.length ≤ 63) (h2 : ∀ z ∈ ns, PySem.Builtin.Int.intBits z ≤ 1048576) : ∃ S, callN T 20 i_law [.fz (ns.map D.int)] [] = .ok (.bl true) S := by
  suffices hh : ∃ d S', callN T 20 i_law [.fz (ns.map D.int)] [] = .ok d S' ∧ d = .bl true by
    obtain ⟨d, S', h, rfl⟩ := hh
    exact ⟨S', h⟩
  refine ex_of_wc (wc_run rfl rfl fun N K R X hN hR => ?_)
  have fin : ∀ (S' : Sto) n, GJ n S' → R (.bl true) S' := fun S' n g => hR _ _ (wx_new (S := []) (X := S') (by intro q; have := g.len; rw [q] at this; have := g.two; simp at *; omega) (d' := .bl true) rfl rfl)
  clear hR hN
  (repeat infer_instance)
  refine wc_ex (deck_ok rfl h1 h2) ?_
  rintro _ G1 ⟨rfl, gi1⟩
  have g1 := GJ.of gi1
  (repeat infer_instance)
  refine f_rng 0 6 rfl (fun i ρ S' => (∃ n, GJ n S') ∧ ∃ (x : List (Option D)), x.length = 16 ∧ ρ = some (.fz (ns.map D.int)) :: some (.ref 1) :: x) ⟨⟨2, g1⟩, _, rfl, rfl⟩ ?_ ?_
  · rintro i ρ S0 N' hi ⟨⟨n, g⟩, x, hx, rfl⟩ hN'
    have nx : ∀ S' m (y : List (Option D)), GJ m S' → y.length = 16 → N' (some (.fz (ns.map D.int)) :: some (.ref 1) :: y) S' := fun S' m y g hy => hN' _ _ True.intro ⟨⟨m, g⟩, y, hy, rfl⟩
    clear hN'
    obtain ⟨x2, x3, x4, x5, x6, x7, x8, x9, x10, x11, x12, x13, x14, x15, x16, x17, rfl⟩ : ∃ x2 x3 x4 x5 x6 x7 x8 x9 x10 x11 x12 x13 x14 x15 x16 x17, x = [x2, x3, x4, x5, x6, x7, x8, x9, x10, x11, x12, x13, x14, x15, x16, x17] := by
      match x, hx with
      | [x2, x3, x4, x5, x6, x7, x8, x9, x10, x11, x12, x13, x14, x15, x16, x17], _ => exact ⟨_, _, _, _, _, _, _, _, _, _, _, _, _, _, _, _, rfl⟩
    (repeat infer_instance)
    refine wc_ex (grid_ok g) ?_
    rintro _ S1 ⟨⟨a, b, d, rfl, og, hi⟩, g⟩
    obtain ⟨a1, d1, b0, ba, a2, d2⟩ := id og
    obtain ⟨e, e1, e2, ea, ht1, ht2, ht3, ht4⟩ := tn_ok og hi
    (repeat infer_instance)
    refine wc_eq (lturn_ok og e1 e2 ht1 ht2 ht3) ?_
    (repeat infer_instance)
    refine wc_eq (turn_ok og e1 e2 ea ht1 ht4) ?_
    (repeat infer_instance)
    refine wc_eq (turn_ok og e1 e2 ea ht1 ht4) ?_
    have be : bd 10 e := by unfold bd; omega
    (repeat infer_instance)
    refine wc_ex (right_ok og g) ?_
    rintro _ S2 ⟨rfl, g⟩
    (repeat infer_instance)
    refine wc_ex (right_ok og g) ?_
    rintro _ S3 ⟨rfl, g⟩
    (repeat infer_instance)
    refine wc_ex (vectors_ok og g) ?_
    rintro _ S4 ⟨⟨p, q, rfl, hp, hq⟩, g⟩
    (repeat infer_instance)
    obtain ⟨du, hdu, hdc⟩ := due_ok (k := 16) (S := S4) hp hq
    refine wc_eq hdc ?_
    (repeat infer_instance)
    refine wc_eq (told_ok hdu hp hq) ?_
    (repeat infer_instance)
    refine wc_eq (told_ok hdu hp hq) ?_
    have sdu : Sh 21 300 du := by
      rcases hdu with ⟨_, rfl⟩ | ⟨_, rfl⟩ | ⟨r, h0, h1, hr, rfl⟩
      · exact sh_le (sh_lst (shl_cons (sh_str (m := 19) (by decide +kernel)) shl_nil)) (by decide +kernel)
      · exact sh_le (sh_lst (shl_cons (sh_str (m := 19) (by decide +kernel)) (shl_cons (sh_int (m := 19) (n := 10) (by unfold bd; omega) (by omega)) shl_nil))) (by decide +kernel)
      · exact sh_le (sh_lst (shl_cons (sh_str (m := 19) (by decide +kernel)) (shl_cons (hr.sh h0 h1) shl_nil))) (by decide +kernel)
    have hr2 : Rpr (.lst [du, du]) := sh_fin (sh_mono (sh_lst (shl_cons sdu (shl_cons sdu shl_nil))) (by omega)) (by omega)
    (repeat infer_instance)
    refine wo_repr hr2 ?_
    (repeat infer_instance)
    refine wo_repr hr2 ?_
    refine wo_nes ?_
    refine wo_of rfl ?_
    refine wif_f ?_
    refine s_skip ?_
    refine s_seqP (fun ρ S => S4 = S ∧ ρ = [some (.fz (ns.map D.int)), some (.ref 1), some (.int (0 + (i : Int))), some (gr a b d), some (.int e), some du, x6, x7, x8, x9, some (pd p), some (pd q), x12, x13, x14, x15, x16, x17]) (fun N2 hN2 => ?_) ?_
    · rcases hdu with ⟨_, rfl⟩ | ⟨_, rfl⟩ | ⟨r, h0, h1, hr, rfl⟩
      · (repeat infer_instance)
        exact hN2 _ _ ⟨rfl, rfl⟩
      · (repeat infer_instance)
        exact hN2 _ _ ⟨rfl, rfl⟩
      · (repeat infer_instance)
        refine wc_eq (gswap_ok h0 h1 hr hp hq) ?_
        have hrr : Rpr r := sh_fin (sh_mono (hr.sh h0 h1) (by omega)) (by omega)
        (repeat infer_instance)
        refine wo_repr hrr ?_
        (repeat infer_instance)
        refine wo_repr hrr ?_
        (repeat infer_instance)
        exact hN2 _ _ ⟨rfl, rfl⟩
    · rintro _ _ ⟨rfl, rfl⟩
      (repeat infer_instance)
      refine wc_ex (pick_okJ rfl rfl g (by simp) (by simp)) ?_
      rintro bad S5 ⟨hbad, g⟩
      (repeat infer_instance)
      refine wc_ex (draw_okJ rfl g (by omega) (by omega)) ?_
      rintro _ S6 ⟨u, rfl, u0, u1, g⟩
      (repeat infer_instance)
      refine wc_ex (draw_okJ rfl g (by omega) (by omega)) ?_
      rintro _ S7 ⟨v, rfl, v0, v1, g⟩
      (repeat infer_instance)
      refine wc_ex (draw_okJ rfl g (by omega) (by omega)) ?_
      rintro _ S8 ⟨w, rfl, w0, w1, g⟩
      (repeat infer_instance)
      have ia : It (.int a) := it_int (by omega)
      have ib : It (.int b) := it_int (by omega)
      have id' : It (.int d) := it_int (by omega)
      have iz : It (.int 0) := it_int (by omega)
      have ibad : It bad := by
        simp only [List.mem_cons, List.not_mem_nil, or_false] at hbad
        rcases hbad with rfl | rfl | rfl | rfl | rfl | rfl | rfl | rfl | rfl | rfl
        · exact iz
        · exact it_int (by decide)
        · exact it_int (by decide)
        · exact it_int (by decide)
        · exact it_non rfl rfl
        · exact it_non rfl rfl
        · exact it_non rfl rfl
        · exact it_non rfl rfl
        · exact it_int (by decide)
        · exact ia
      generalize hL : (HAppend.hAppend (HAppend.hAppend _ _) _ : List D) = L
      have hv : ∀ v ∈ L, Val v := by
        rw [← hL]
        intro v hv
        simp only [List.cons_append, List.nil_append, List.mem_cons, List.not_mem_nil, or_false] at hv
        rcases hv with rfl | rfl | rfl | rfl | rfl | rfl | rfl | rfl | rfl | rfl | rfl | rfl | rfl | rfl
        · exact val3 ia ib id'
        · exact val3 ia ib ibad
        · exact val3 ibad ib id'
        · exact val3 ia ibad id'
        · exact .inr ⟨_, rfl, by simp, fun v hv => by
            simp only [List.mem_cons, List.not_mem_nil, or_false] at hv
            rcases hv with rfl | rfl
            · exact ia
            · exact ib⟩
        · exact .inr ⟨_, rfl, by simp, fun v hv => by
            simp only [List.mem_cons, List.not_mem_nil, or_false] at hv
            rcases hv with rfl | rfl | rfl | rfl
            · exact ia
            · exact ib
            · exact id'
            · exact iz⟩
        · exact .inl ⟨_, by decide, fun S => rfl⟩
        · exact .inl ⟨_, by decide, fun S => rfl⟩
        · exact .inl ⟨_, by decide, fun S => rfl⟩
        · exact val3 (it_int (by omega)) (it_int (by omega)) (it_int (by omega))
        · exact val3 (it_int (by omega)) (it_int (by omega)) (it_int (by omega))
        · exact val3 (it_int (by omega)) (it_int (by omega)) (it_int (by omega))
        · exact val3 ia ia id'
        · exact val3 iz iz iz
      refine f_inv id L (by simp) (fun j ρ S' => S' = S8 ∧ ∃ y5 y8, ρ = [some (.fz (ns.map D.int)), some (.ref 1), some (.int (0 + (i : Int))), some (gr a b d), some (.int e), y5, some bad, some (.lst L), y8, x9, some (pd p), some (pd q), some (.int a), some (.int b), some (.int d), x15, x16, x17]) ⟨rfl, _, _, rfl⟩ ?_ ?_
      · rintro j v ρ S' N2 hj ⟨rfl, y5, y8, rfl⟩ hN2
        obtain ⟨r, sr, c1, c2⟩ := err_both (k := 17) (hv v (List.mem_of_getElem? hj))
        have hr2 : Rpr (.lst [r, r]) := sh_fin (sh_mono (sh_lst (shl_cons sr (shl_cons sr shl_nil))) (by omega)) (by omega)
        (repeat infer_instance)
        refine wc_eq (c2 S') ?_
        (repeat infer_instance)
        refine wc_eq (c1 S') ?_
        (repeat infer_instance)
        refine wc_eq (c1 S') ?_
        (repeat infer_instance)
        refine wo_repr hr2 ?_
        (repeat infer_instance)
        refine wo_repr hr2 ?_
        (repeat infer_instance)
        exact hN2 _ _ True.intro ⟨rfl, _, _, rfl⟩
      · rintro _ S' ⟨rfl, y5, y8, rfl⟩
        (repeat infer_instance)
        refine wc_ex (draw_okJ rfl g (by omega) (by omega)) ?_
        rintro _ S9 ⟨z, rfl, z0, z1, g⟩
        obtain ⟨m, rfl⟩ := Int.eq_ofNat_of_zero_le z0
        have l9 := g.len
        (repeat infer_instance)
        rw [l9]
        (repeat infer_instance)
        rw [show 1 + (m : Int) = ((m + 1 : Nat) : Int) by omega]
        have hm12 : m + 1 ≤ 12 := by omega
        generalize hM : m + 1 = M at hm12 ⊢
        refine f_rng 1 M (by congr 1; omega) (fun j ρ S' => S' = S9 ++ [.lst ((tabI M j).map pd3)] ∧ ∃ y5 y8 y9 y17, ρ = [some (.fz (ns.map D.int)), some (.ref 1), some (.int (0 + (i : Int))), some (gr a b d), some (.int e), y5, some bad, some (.lst L), y8, y9, some (pd p), some (pd q), some (.int a), some (.int b), some (.int d), some (.int (M : Int)), some (.ref n), y17]) ⟨rfl, _, _, _, _, rfl⟩ ?_ ?_
        · rintro j ρ S' N2 hj ⟨rfl, y5, y8, y9, y17, rfl⟩ hN2
          have tl := tab_len M (by omega) (j + 1) (by omega)
          rw [tabI_succ, List.length_append] at tl
          (repeat infer_instance)
          by_cases q : (M : Int) % (1 + (j : Int)) = 0
          · refine c_map (fun (z : Nat) => .int (0 + (z : Int))) (List.range (j + 1)) (fun z => pd3 (1 + (j : Int), (z : Int), (M : Int) / (1 + (j : Int)))) (by rw [rngL_eq]; congr 2; omega) ?_ (by simp; omega) (fun z hz R hR => ?_) ?_
            · exact True.intro
            · (repeat infer_instance)
              refine wif_d (fun _ => ?_) fun h => absurd q h
              (repeat infer_instance)
              rw [show (0 : Int) + (z : Int) = z from Int.zero_add _]
              exact hR
            · have er : rowI M j = (List.range (j + 1)).map fun (b : Nat) => (1 + (j : Int), (b : Int), (M : Int) / (1 + (j : Int))) := by rw [rowI, if_pos q]
              have el : (List.range (j + 1)).map (fun (z : Nat) => pd3 (1 + (j : Int), (z : Int), (M : Int) / (1 + (j : Int)))) = (rowI M j).map pd3 := by rw [er, List.map_map]; rfl
              rw [el]
              (repeat infer_instance)
              refine wo_ext rfl (by simp; omega) ?_
              refine hN2 _ _ True.intro ⟨?_, _, _, _, _, rfl⟩
              rw [tabI_succ, List.map_append]
          · refine c_some (fun (z : Nat) => .int (0 + (z : Int))) (List.range (j + 1)) (fun z => none) (by rw [rngL_eq]; congr 2; omega) ?_ (by simp; omega) (fun z hz R hR => ?_) ?_
            · exact True.intro
            · (repeat infer_instance)
              refine wif_d (fun h => absurd h q) fun h => ?_
              exact hR
            · have el : (List.range (j + 1)).filterMap (fun (z : Nat) => (none : Option D)) = [] := by simp
              rw [el]
              (repeat infer_instance)
              refine wo_ext rfl (by simp; omega) ?_
              refine hN2 _ _ True.intro ⟨?_, _, _, _, _, rfl⟩
              rw [tabI_succ, rowI, if_neg q, List.append_nil, List.append_nil]
        · rintro _ S' ⟨rfl, y5, y8, y9, y17, rfl⟩
          (repeat infer_instance)
          refine wc_eq (all_ok (by omega) hm12) ?_
          (repeat infer_instance)
          refine wc_eq (all_ok (by omega) hm12) ?_
          (repeat infer_instance)
          have st : Sh 20 (100 * 50 + 3) (.tup ((tabI M M).map pd3)) := by
            have hb := List.all_eq_true.mp (tab_small M (by omega))
            refine sh_tup (shl_map (j := 48) (fun t ht => ?_) (tab_len M (by omega) M (by omega)))
            have := hb t ht
            simp only [Bool.and_eq_true, decide_eq_true_eq] at this
            have l1 : bd 10 t.1 := by unfold bd; omega
            have l2 : bd 10 t.2.1 := by unfold bd; omega
            have l3 : bd 10 t.2.2 := by unfold bd; omega
            exact sh_le (sh_tup (shl_cons (sh_int (m := 17) l1 (by omega)) (shl_cons (sh_int l2 (by omega)) (shl_cons (sh_int l3 (by omega)) shl_nil)))) (by omega)
          have hr2 : Rpr (.lst [.tup ((tabI M M).map pd3), .tup ((tabI M M).map pd3)]) := sh_fin (sh_mono (sh_lst (shl_cons st (shl_cons st shl_nil))) (by omega)) (by omega)
          refine wo_repr hr2 ?_
          (repeat infer_instance)
          refine wo_of (d := .lst ((tabI M M).map pd3)) (by simp only [b1, litems_new l9, tab_sorted (show M < 13 by omega)]; rfl) ?_
          (repeat infer_instance)
          refine wo_repr hr2 ?_
          (repeat infer_instance)
          refine nx _ (n + 1) _ (g.add ?_) rfl
          simp only [flatC, List.all_eq_true]
          rintro _ hx
          obtain ⟨t, _, rfl⟩ := List.mem_map.mp hx
          rfl
  · rintro _ S' ⟨⟨n, g⟩, x, hx, rfl⟩
    (repeat infer_instance)
    exact fin _ _ g
end K67

set_option linter.all false
set_option maxRecDepth 100000
set_option maxHeartbeats 0
open PySem PySem.W PySem.Calls PyProof.Rows in
theorem PySem.Challenge.cw_gridloops_k67_grids_holds : PySem.Challenge.rw_gridloops_k67_grids.Holds := by
  w_on; o_law
  refine HandSHeadRun.head_imp (r := OpenLaw.row PySem.Challenge.rw_gridloops_k67_grids) (q := view (OpenLaw.row PySem.Challenge.rw_gridloops_k67_grids).prog [0, 35]) (H := K67.hk) (ob := K67.ob) (M := 30000) (loose := K67.loose) (d := HandSHeadRun.topDef (PySem.W.OpenLaw.row PySem.Challenge.rw_gridloops_k67_grids).prog 35) (kwd := []) K67.ob_eq K67.run (by kernel_rfl) (by kernel_rfl) (by kernel_rfl) (by rfl) (by first | assumption | decide +kernel) (by decide +kernel) ⟨rfl, rfl, rfl, rfl, rfl, by decide +kernel⟩ ?hw ?hc
  case hw => w_witness2
  case hc =>
    exact GV.law_walk (l := PySem.Challenge.rw_gridloops_k67_grids) (n := 63) (k := 20) (i := 25) (m := 6) (dl := K67.d_law) (x := "script") rfl (by decide) (by kernel_rfl) (by decide) K67.txt rfl (by kernel_rfl) rfl ⟨K67.law_bind, rfl⟩ (fun _ => ⟨by kernel_rfl, by kernel_rfl⟩) fun ns h1 h2 => K67.comp ns h1 h2
