import PyProof.Rows.All
import Wide.All
import OpenK.AllK
import Wide.FinOn
import HandS.ForMost
import HandS.ForExc
import HandS.Flow
import KE.SortData
import KE.KDictKeyed
import KE.LtData
import HandS.Deep
import HandS.Wide
import HandS.TupAny
import HandS.Text
import HandS.TupLe
import HandS.IsInst
import KE.KRevSl
import HandS.More
import HandS.WideBits
import HandS.WordsDict
import HandS.ExcOwn
import HandS.OwnEq
import HandS.Iter
import HandS.Zip
import HandS.DictComp
import HandS.Style
import HandS.WordsExc
import HandS.Star
import KE.KDictPairs
import HandS.Conv
import HandS.Defaults
import HandS.Strs
import HandS.TupSets
import HandS.NoneIn
import HandS.CallSlots
import HandS.DictSubView
import KE.KDictSum
import HandS.TupLen
import KE.KDictList
import KE.KExcSuper
import HandS.ListItems
import HandS.Finally
import PyProof.StrOps2
import KE.KDictWalk
import KE.KDictCopyH
import KE.KTupSum
import KE.GoesMore
import KE.GoesZip
import KE.KDictDisplayH
import PySem.Challenge.RW_evenfriends_k56_whole_even_families_and
set_option Elab.async false
set_option linter.all false
set_option maxRecDepth 100000
set_option maxHeartbeats 0
/-! Pv, part A: values as trees, a small store of what may change, the inner language and its evaluator. -/
namespace Pv
open PySem

/-- where the classes stand; the world (what the hashes of texts are) -/
structure CA where
  f : Str → Addr
  w : World
instance : CoeFun CA fun _ => Str → Addr := ⟨CA.f⟩

inductive Val where
  | non | bl (b : Bool) | int (i : Int) | str (s : Str)
  | tup (vs : List Val) | lst (vs : List Val) | rol (vs : List Val) | dct (t : Bool) (ks vs : List Val)
  | ins (c : Str) (fs : List Str) (vs : List Val)
  | ref (n : Nat) | cls (c : Str) | ty (n : String)
  | rot (vs : List Val)
  | ndc (ks vs : List Val)
  deriving Inhabited

inductive Obj where
  | lst (vs : List Val) | dct (t : Bool) (ks vs : List Val) | ins (c : Str) (fs : List Str) (vs : List Val) | ndc (ks vs : List Val)
  deriving Inhabited

structure Store where
  nx : Nat
  m : List (Nat × Obj)
  deriving Inhabited

namespace Store
def get (st : Store) (n : Nat) : Option Obj := st.m.lookup n
/-- the next number is taken, nothing stands there yet -/
def reserve (st : Store) : Store := ⟨st.nx + 1, st.m⟩
def add (st : Store) (n : Nat) (o : Obj) : Store := ⟨st.nx, (n, o) :: st.m⟩
def alloc (st : Store) (o : Obj) : Store := ⟨st.nx + 1, (st.nx, o) :: st.m⟩
def put (st : Store) (n : Nat) (o : Obj) : Store := ⟨st.nx, st.m.map fun p => if p.1 == n then (n, o) else p⟩
def drop (st : Store) (n : Nat) : Store := ⟨st.nx, st.m.filter fun p => p.1 != n⟩
end Store

/-- what an evaluation gives: a value, or an error of a class with its field -/
inductive Out (α : Type) where
  | ok (a : α) | err (c : Str) (v : Option Val)
  deriving Inhabited
abbrev M (α : Type) := Store → Option (Out α × Store)
def ret {α : Type} (a : α) : M α := fun st => some (.ok a, st)
def bd {α β : Type} (x : M α) (f : α → M β) : M β := fun st =>
  match x st with
  | some (.ok a, st1) => f a st1
  | some (.err c v, st1) => some (.err c v, st1)
  | none => none
def bad {α : Type} : M α := fun _ => none
def lift {α : Type} (o : Option α) : M α := fun st => match o with | some a => some (.ok a, st) | none => none
/-- a value that is read off the store -/
def rd {α : Type} (f : Store → Option α) : M α := fun st => match f st with | some a => some (.ok a, st) | none => none

/-! ### values -/
mutual
def toD : Val → Option PyData
  | .non => some .none
  | .bl b => some (.bool b)
  | .int i => some (.int i)
  | .str s => some (.str s)
  | .tup vs => (toDs vs).map .tuple
  | .lst vs => (toDs vs).map .list
  | .rol vs => (toDs vs).map .list
  | .rot vs => (toDs vs).map .tuple
  | _ => none
def toDs : List Val → Option (List PyData)
  | [] => some []
  | v :: vs => match toD v, toDs vs with
    | some d, some ds => some (d :: ds)
    | _, _ => none
end
mutual
def ofD : PyData → Val
  | .none => .non
  | .bool b => .bl b
  | .int i => .int i
  | .str s => .str s
  | .tuple ds => .tup (ofDs ds)
  | .list ds => .lst (ofDs ds)
  | .dict _ => .non
def ofDs : List PyData → List Val
  | [] => []
  | d :: ds => ofD d :: ofDs ds
end

/-- a list that is read, wherever it stands -/
def asL (st : Store) : Val → Option (List Val)
  | .lst vs => some vs
  | .rol vs => some vs
  | .ref n => match st.get n with
    | some (.lst vs) => some vs
    | _ => none
  | _ => none
def asT : Val → Option (List Val)
  | .tup vs => some vs
  | .rot vs => some vs
  | _ => none
/-- a list or a tuple -/
def asQ (st : Store) (v : Val) : Option (List Val) := match asL st v with
  | some vs => some vs
  | none => asT v
/-- a list that stands by itself (no script, no list of the module's) -/
def asM (st : Store) : Val → Option (List Val)
  | .lst vs => some vs
  | .ref n => match st.get n with
    | some (.lst vs) => some vs
    | _ => none
  | _ => none
/-- a dict that is read: are its keys tuples, its keys, its values -/
def asD (st : Store) : Val → Option (Bool × List Val × List Val)
  | .dct t ks vs => some (t, ks, vs)
  | .ref n => match st.get n with
    | some (.dct t ks vs) => some (t, ks, vs)
    | _ => none
  | _ => none
def asInt : Val → Option Int
  | .int i => some i
  | _ => none
def asB : Val → Option Bool
  | .bl b => some b
  | _ => none
def intL : List Val → Option (List Int)
  | [] => some []
  | v :: vs => match asInt v, intL vs with
    | some i, some is => some (i :: is)
    | _, _ => none
def blL : List Val → Option (List Bool)
  | [] => some []
  | v :: vs => match asB v, blL vs with
    | some i, some is => some (i :: is)
    | _, _ => none
/-! ### the same value -/
mutual
def beqV : Val → Val → Bool
  | .non, .non => true
  | .bl a, .bl b => a == b
  | .int a, .int b => a == b
  | .str a, .str b => decide (a = b)
  | .tup a, .tup b => beqVs a b
  | .lst a, .lst b => beqVs a b
  | .rol a, .rol b => beqVs a b
  | .rot a, .rot b => beqVs a b
  | .dct t a c, .dct u b d => t == u && beqVs a b && beqVs c d
  | .ins c f a, .ins d g b => decide (c = d) && decide (f = g) && beqVs a b
  | .ref a, .ref b => a == b
  | .cls a, .cls b => decide (a = b)
  | .ty a, .ty b => a == b
  | .ndc a c, .ndc b d => beqVs a b && beqVs c d
  | _, _ => false
def beqVs : List Val → List Val → Bool
  | [], [] => true
  | a :: as, b :: bs => beqV a b && beqVs as bs
  | _, _ => false
end
mutual
theorem beqV_eq : ∀ (a b : Val), beqV a b = true → a = b
  | .non, b, h => by cases b <;> first | rfl | (simp [beqV] at h)
  | .bl x, b, h => by cases b <;> first | (simp [beqV] at h; rw [h]) | (simp [beqV] at h)
  | .int x, b, h => by cases b <;> first | (simp [beqV] at h; rw [h]) | (simp [beqV] at h)
  | .str x, b, h => by cases b <;> first | (simp [beqV] at h; rw [h]) | (simp [beqV] at h)
  | .tup x, b, h => by
    cases b with
    | tup y => rw [beqV] at h; rw [beqVs_eq x y h]
    | _ => simp [beqV] at h
  | .lst x, b, h => by
    cases b with
    | lst y => rw [beqV] at h; rw [beqVs_eq x y h]
    | _ => simp [beqV] at h
  | .rol x, b, h => by
    cases b with
    | rol y => rw [beqV] at h; rw [beqVs_eq x y h]
    | _ => simp [beqV] at h
  | .rot x, b, h => by
    cases b with
    | rot y => rw [beqV] at h; rw [beqVs_eq x y h]
    | _ => simp [beqV] at h
  | .dct t x z, b, h => by
    cases b with
    | dct u y w =>
      rw [beqV, Bool.and_eq_true, Bool.and_eq_true] at h
      rw [beqVs_eq x y h.1.2, beqVs_eq z w h.2, eq_of_beq h.1.1]
    | _ => simp [beqV] at h
  | .ins c f x, b, h => by
    cases b with
    | ins d g y =>
      rw [beqV, Bool.and_eq_true, Bool.and_eq_true] at h
      rw [beqVs_eq x y h.2, of_decide_eq_true h.1.1, of_decide_eq_true h.1.2]
    | _ => simp [beqV] at h
  | .ndc x z, b, h => by
    cases b with
    | ndc y w =>
      rw [beqV, Bool.and_eq_true] at h
      rw [beqVs_eq x y h.1, beqVs_eq z w h.2]
    | _ => simp [beqV] at h
  | .ref x, b, h => by cases b <;> first | (simp [beqV] at h; rw [h]) | (simp [beqV] at h)
  | .cls x, b, h => by cases b <;> first | (simp [beqV] at h; rw [h]) | (simp [beqV] at h)
  | .ty x, b, h => by cases b <;> first | (simp [beqV] at h; rw [h]) | (simp [beqV] at h)
theorem beqVs_eq : ∀ (a b : List Val), beqVs a b = true → a = b
  | [], b, h => by cases b with
    | nil => rfl
    | cons => simp [beqVs] at h
  | x :: xs, b, h => by cases b with
    | nil => simp [beqVs] at h
    | cons y ys => rw [beqVs, Bool.and_eq_true] at h; rw [beqV_eq x y h.1, beqVs_eq xs ys h.2]
end
/-- a walked list stays as it is -/
abbrev Gd := Store → Bool
def gYes : Gd := fun _ => true
def gAnd (a b : Gd) : Gd := fun st => a st && b st
def gRef (n : Nat) (vs : List Val) : Gd := fun st => match st.get n with
  | some (.lst ws) => beqVs ws vs
  | _ => false

/-! ### keys -/
def toKey : Val → Option L2.Key
  | .int i => some (.inl i)
  | .str s => some (.inr s)
  | _ => none
def toKeyL : List Val → Option (List L2.Key)
  | [] => some []
  | v :: vs => match toKey v, toKeyL vs with
    | some k, some ks => some (k :: ks)
    | _, _ => none
/-- a key of a dict: an int or a text (t = false), or a tuple of such (t = true) -/
abbrev DK := Sum L2.Key (List L2.Key)
def toDK (t : Bool) : Val → Option DK
  | .tup vs => if t then (toKeyL vs).map .inr else none
  | v => if t then none else (toKey v).map .inl
def toDKs (t : Bool) : List Val → Option (List DK)
  | [] => some []
  | v :: vs => match toDK t v, toDKs t vs with
    | some k, some ks => some (k :: ks)
    | _, _ => none
def hasK (kk : List DK) (j : DK) : Bool := kk.any fun k => decide (k = j)
/-- the value at a key -/
def dGet : List DK → List Val → DK → Option Val
  | k :: ks, v :: vs, j => if k = j then some v else dGet ks vs j
  | _, _, _ => none
/-- the values behind a store at a key that is there -/
def dSet : List DK → List Val → DK → Val → List Val
  | k :: ks, v :: vs, j, w => (if k = j then w else v) :: dSet ks vs j w
  | _, _, _, _ => []
def dPut (t : Bool) (ks vs : List Val) (j w : Val) : Option (List Val × List Val) :=
  match toDKs t ks, toDK t j with
  | some kk, some jj => if kk.length = vs.length ∧ ks.length < 16777216 then
      (if hasK kk jj then some (ks, dSet kk vs jj w) else some (ks ++ [j], vs ++ [w])) else none
  | _, _ => none

/-! ### keys that are tuples of tuples -/
mutual
def toNK : Val → Option NestedKey
  | .non => some .none
  | .int i => some (.num i)
  | .str s => some (.text s)
  | .tup vs => (toNKs vs).map .tup
  | _ => none
def toNKs : List Val → Option (List NestedKey)
  | [] => some []
  | v :: vs => match toNK v, toNKs vs with
    | some k, some ks => some (k :: ks)
    | _, _ => none
end
/-- a key: a tuple, to depth 8 -/
def toNKey : Val → Option NestedKey
  | .tup vs => match toNKs vs with
    | some ks => if (NestedKey.tup ks).depth ≤ 8 then some (.tup ks) else none
    | none => none
  | _ => none
def toNKeys : List Val → Option (List NestedKey)
  | [] => some []
  | v :: vs => match toNKey v, toNKeys vs with
    | some k, some ks => some (k :: ks)
    | _, _ => none
def nHas (kk : List NestedKey) (j : NestedKey) : Bool := kk.any fun k => decide (k = j)
def nSet : List NestedKey → List Val → NestedKey → Val → List Val
  | k :: ks, v :: vs, j, w => (if k = j then w else v) :: nSet ks vs j w
  | _, _, _, _ => []
def nPut (ks vs : List Val) (j w : Val) : Option (List Val × List Val) :=
  match toNKeys ks, toNKey j with
  | some kk, some jj => if kk.length = vs.length ∧ ks.length < 16777216 then
      (if nHas kk jj then some (ks, nSet kk vs jj w) else some (ks ++ [j], vs ++ [w])) else none
  | _, _ => none
def asND (st : Store) : Val → Option (List Val × List Val)
  | .ndc ks vs => some (ks, vs)
  | .ref n => match st.get n with
    | some (.ndc ks vs) => some (ks, vs)
    | _ => none
  | _ => none
/-! ### places -/
def cut {α : Type} (xs : List α) (lo hi : Option Int) : List α :=
  (xs.drop (HT.sIx xs.length 0 lo)).take (HT.sIx xs.length xs.length hi - HT.sIx xs.length 0 lo)

/-! ### targets, frames -/
inductive Tg where
  | nm (i : Nat) | tup (ts : List Tg)
  deriving Inhabited
abbrev Env := List (Option Val)

/-! ### what operations do -/
def truthy (st : Store) : Val → Option Bool
  | .non => some false
  | .bl b => some b
  | .int i => some (i != 0)
  | .str s => if s.length ≤ 16777216 then some ((s.length : Int) != 0) else none
  | v => match asQ st v with
    | some vs => some (!vs.isEmpty)
    | none => none

def mulOk (i j : Int) : Bool := (decide (-(2 ^ 64) < i) && decide (i < 2 ^ 64)) || (decide (-(2 ^ 64) < j) && decide (j < 2 ^ 64))

/-- a new list: it may change (a number of the store), or never again -/
def newL (m : Bool) (vs : List Val) : M Val := fun st => if vs.length ≤ 16777216 then
  (match m with | true => some (.ok (.ref st.nx), st.alloc (.lst vs)) | false => some (.ok (.lst vs), st)) else none

def binop (op : Operator) (x y : Val) : M Val := match op, x, y with
  | .Add, .int i, .int j => ret (.int (i + j))
  | .Sub, .int i, .int j => ret (.int (i - j))
  | .Mult, .int i, .int j => if mulOk i j then ret (.int (i * j)) else bad
  | .FloorDiv, .int i, .int j => if 0 < j then (if j < 1073741824 ∨ Builtin.divisionGoesByPylong i j = false then ret (.int (i / j)) else bad) else bad
  | .Mod, .int i, .int j => if 0 < j then ret (.int (i % j)) else bad
  | .Pow, .int i, .int j => if 0 ≤ j ∧ (Builtin.Int.intBits i : Int) * j ≤ 2 ^ 27 then ret (.int (i ^ j.toNat)) else bad
  | .Add, .str s, .str z => if s.length + z.length ≤ 16777216 then ret (.str (s ++ z)) else bad
  | .Add, .tup vs, .tup ws => if vs.length + ws.length ≤ 16777216 then ret (.tup (vs ++ ws)) else bad
  | .Add, x, y => fun st => match asM st x, asM st y with
    | some vs, some ws => newL false (vs ++ ws) st
    | _, _ => none
  | .Mult, x, .int k => fun st => match asM st x with
    | some vs => if -(2 ^ 63) ≤ k ∧ k < 2 ^ 63 ∧ vs.length * k.toNat ≤ 16777216 then newL false (List.replicate k.toNat vs).flatten st else none
    | _ => none
  | _, _, _ => bad

/-- the data of a value, read off the store at the top -/
def datum (st : Store) (v : Val) : Option PyData := match v with
  | .ref n => match st.get n with
    | some (.lst vs) => (toDs vs).map .list
    | _ => none
  | v => toD v
def pyEq (st : Store) (x y : Val) : Option Bool := match datum st x, datum st y with
  | some d, some e => if SeqAt.shaped d && SeqAt.shaped e then some (PyData.eqv d e) else none
  | _, _ => none
def flat : Val → Bool
  | .non => true | .bl _ => true | .int _ => true | .str _ => true | _ => false
def pyIn (st : Store) (x y : Val) : Option Bool := match asD st y with
  | some (t, ks, vs) => match toDKs t ks, toDK t x with
    | some kk, some j => if kk.length = vs.length then some (hasK kk j) else none
    | _, _ => none
  | none => match x, y with
    | .str s, .str z => some (!(Builtin.Str.occurrences z s 0 z.length 1).isEmpty)
    | x, .tup ys => match toD x, toDs ys with
      | some d, some ds => if flat x && ys.all flat then some (ds.any fun z => PyData.eqv z d) else if SeqAt.shaped d && SeqAt.shaped (.tuple ds) then some (ds.any fun z => PyData.eqv z d) else none
      | _, _ => none
    | x, .rot ys => match toD x, toDs ys with
      | some d, some ds => if flat x && ys.all flat then some (ds.any fun z => PyData.eqv z d) else if SeqAt.shaped d && SeqAt.shaped (.tuple ds) then some (ds.any fun z => PyData.eqv z d) else none
      | _, _ => none
    | x, y => match toD x, datum st y with
      | some d, some (.list ds) => if SeqAt.shaped d && SeqAt.shaped (.list ds) then some (ds.any fun z => PyData.eqv z d) else none
      | _, _ => none
/-- t < u, tuples that are alike -/
def ltT (xs ys : List Val) : Option Bool := match toDs xs, toDs ys with
  | some ds, some es => if PySem.W.alike (.tuple ds) (.tuple es) && decide ((PyData.tuple ds).depth ≤ 60) then some (PySem.W.dataLt (.tuple ds) (.tuple es)) else none
  | _, _ => none
def cmpop (op : CmpOp) (x y : Val) (st : Store) : Option Bool := match op, x, y with
  | .Eq, x, y => pyEq st x y
  | .NotEq, x, y => (pyEq st x y).map (!·)
  | .Lt, .int i, .int j => some (decide (i < j))
  | .LtE, .int i, .int j => some (decide (i ≤ j))
  | .Gt, .int i, .int j => some (decide (j < i))
  | .GtE, .int i, .int j => some (decide (j ≤ i))
  | .Lt, .str i, .str j => some (decide (i.cps.toList < j.cps.toList))
  | .Gt, .str i, .str j => some (decide (j.cps.toList < i.cps.toList))
  | .Lt, .tup xs, .tup ys => ltT xs ys
  | .In, x, y => pyIn st x y
  | .NotIn, x, y => (pyIn st x y).map (!·)
  | .Is, .non, .non => some true
  | .IsNot, .non, .non => some false
  | .Is, .ref _, .non => some false
  | .IsNot, .ref _, .non => some true
  | .Is, x, .non => some (match x with | .non => true | _ => false)
  | .IsNot, x, .non => some (match x with | .non => false | _ => true)
  | .Is, .bl a, .bl b => some (decide (a = b))
  | .IsNot, .bl a, .bl b => some (!decide (a = b))
  | _, _, _ => none

def getItem (x i : Val) : M Val := fun st => match asD st x with
  | some (t, ks, vs) => match toDKs t ks, toDK t i with
    | some kk, some j => if kk.length = vs.length then (match dGet kk vs j with | some v => some (.ok v, st) | none => none) else none
    | _, _ => none
  | none => match x, i with
    | .str s, .int k => if s.length ≤ 16777216 then (match L2.atI s.cps.toList k with | some c => some (.ok (.str ⟨#[c]⟩), st) | none => none) else none
    | x, .int k => match asQ st x with
      | some vs => (match L2.atI vs k with | some v => some (.ok v, st) | none => none)
      | none => none
    | _, _ => none

def setItem (x i v : Val) : M Unit := fun st => match x with
  | .ref n => match st.get n, i with
    | some (.lst vs), .int k => match L2.ixN vs.length k with
      | some j => some (.ok (), st.put n (.lst (vs.set j v)))
      | none => none
    | some (.dct t ks vs), j => match dPut t ks vs j v with
      | some (ks', vs') => some (.ok (), st.put n (.dct t ks' vs'))
      | none => none
    | _, _ => none
  | _ => none

/-- xs[lo:hi], s[lo:hi], t[lo:hi] (not the whole tuple) -/
def slice (m : Bool) (x : Val) (lo hi : Option Int) : M Val := fun st => match x with
  | .str s => if s.length ≤ 16777216 then some (.ok (.str (L2.cutS s lo hi)), st) else none
  | .tup vs => if HT.sIx vs.length 0 lo = 0 ∧ HT.sIx vs.length vs.length hi = vs.length then none else some (.ok (.tup (cut vs lo hi)), st)
  | x => match asL st x with
    | some vs => newL m (cut vs lo hi) st
    | none => none
/-- a value's type: a built-in one, a class of these -/
def tyOfV (cs : List Str) (st : Store) (x : Val) : Option (Sum String Str) := match x with
  | .non => some (.inl "NoneType")
  | .bl _ => some (.inl "bool")
  | .int _ => some (.inl "int")
  | .str _ => some (.inl "str")
  | .tup _ => some (.inl "tuple")
  | .lst _ => some (.inl "list")
  | .rol _ => some (.inl "list")
  | .rot _ => some (.inl "tuple")
  | .dct false _ _ => some (.inl "dict")
  | .ins d _ _ => if d ∈ cs then some (.inr d) else none
  | .ref k => match st.get k with
    | some (.lst _) => some (.inl "list")
    | some (.dct _ _ _) => some (.inl "dict")
    | some (.ins d _ _) => if d ∈ cs then some (.inr d) else none
    | some (.ndc _ _) => none
    | none => none
  | _ => none
def bTys0 : List String := ["NoneType", "bool", "int", "str", "tuple", "list", "dict"]
def bTys : List String := ["bool", "int", "str", "tuple", "list", "dict"]
/-- is it an instance -/
def isA (cs : List Str) (st : Store) (x t : Val) : Option Bool := match tyOfV cs st x, t with
  | some (.inl T), .ty n => if n ∈ bTys then some (n == T || (T == "bool" && n == "int")) else none
  | some (.inl _), .cls c => if c ∈ cs then some false else none
  | some (.inr _), .ty n => if n ∈ bTys then some false else none
  | some (.inr d), .cls c => if c ∈ cs then some (d == c) else none
  | _, _ => none

def encV (v : Val) : PyData := (toD v).getD .none
def sortV (vs : List Val) : List Val := vs.mergeSort (PySem.W.dataLe false encV)
def allAlike (ds : List PyData) : Bool := ds.all fun d => ds.all fun e => PySem.W.alike d e
def sortable (ds : List PyData) : Bool := ((ds.all fun d => match d with | .tuple (_ :: _) => true | _ => false) || ds.all fun d => match d with | .none => false | .tuple _ => false | _ => true) ||
  ((match ds with | .tuple [] :: _ => true | _ => false) && ds.all fun d => match d with | .tuple _ => true | _ => false)
end Pv
/-! Pv, part B: the evaluator. -/
namespace Pv
open PySem

mutual
def bindT : Tg → Val → Env → Option Env
  | .nm i, v, env => if i < env.length then some (env.set i (some v)) else none
  | .tup ts, v, env => match v with
    | .tup vs => bindTs ts vs env
    | .rot vs => bindTs ts vs env
    | _ => none
def bindTs : List Tg → List Val → Env → Option Env
  | [], [], env => some env
  | t :: ts, v :: vs, env => match bindT t v env with
    | some env1 => bindTs ts vs env1
    | none => none
  | _, _, _ => none
end
def wipeE (env : Env) : List Nat → Env
  | [] => env
  | v :: vs => (wipeE env vs).set v none

/-- what no error leaves -/
def noErr {α : Type} (x : M α) : M α := fun st => match x st with
  | some (.ok a, s) => some (.ok a, s)
  | _ => none
def loopC (gd : Gd) (tg : Tg) (cond : Env → M Bool) (elt : Env → M Val) (env : Env) : List Val → List Val → M (List Val)
  | [], acc => fun st => if gd st then some (.ok acc, st) else none
  | v :: vs, acc => fun st => if gd st then (match bindT tg v env with
    | none => none
    | some env1 => bd (noErr (cond env1)) (fun b => match b with
      | true => bd (noErr (elt env1)) fun x => if acc.length < 16777216 then loopC gd tg cond elt env vs (acc ++ [x]) else bad
      | false => loopC gd tg cond elt env vs acc) st) else none
/-- what may change changes no more: a tree -/
def fzL (f : Val → Store → Option (Val × Store)) : List Val → Store → Option (List Val × Store)
  | [], st => some ([], st)
  | v :: vs, st => match f v st with
    | some (w, st1) => match fzL f vs st1 with
      | some (ws, st2) => some (w :: ws, st2)
      | none => none
    | none => none
def fz : Nat → Val → Store → Option (Val × Store)
  | 0, _, _ => none
  | n + 1, v, st => match v with
    | .ref k => match st.get k with
      | some (.lst vs) => match fzL (fz n) vs (st.drop k) with
        | some (ws, st1) => some (.lst ws, st1)
        | none => none
      | some (.dct t ks vs) => match fzL (fz n) vs (st.drop k) with
        | some (ws, st1) => some (.dct t ks ws, st1)
        | none => none
      | some (.ins c fs vs) => match fzL (fz n) vs (st.drop k) with
        | some (ws, st1) => some (.ins c fs ws, st1)
        | none => none
      | some (.ndc ks vs) => match fzL (fz n) vs (st.drop k) with
        | some (ws, st1) => some (.ndc ks ws, st1)
        | none => none
      | none => none
    | v => some (v, st)

def zipV : List Val → List Val → List Val
  | x :: xs, y :: ys => .tup [x, y] :: zipV xs ys
  | _, _ => []
def rangeV (lo : Int) : Nat → List Val
  | 0 => []
  | n + 1 => .int lo :: rangeV (lo + 1) n
def small62 (i : Int) : Bool := decide (-(2 ^ 62) ≤ i) && decide (i < 2 ^ 62)
/-- what a for walks over one value -/
def itemsOf (st : Store) : Val → Option (List Val × Gd)
  | .lst vs => some (vs, gYes)
  | .rol vs => some (vs, gYes)
  | .rot vs => some (vs, gYes)
  | .tup vs => some (vs, gYes)
  | .str s => some (s.cps.toList.map fun c => .str ⟨#[c]⟩, gYes)
  | .ref n => match st.get n with
    | some (.lst vs) => some (vs, gRef n vs)
    | _ => none
  | _ => none
/-- the keys of a dict that changes no more -/
def keysOf : Val → Option (List Val × Gd)
  | .dct false ks _ => some (ks, gYes)
  | _ => none
/-- a list of values, wherever it stands -/
def listOf (st : Store) : Val → Option (List Val × Gd)
  | .lst vs => some (vs, gYes)
  | .ref n => match st.get n with
    | some (.lst vs) => some (vs, gRef n vs)
    | _ => none
  | _ => none
def zipOf (st : Store) (x y : Val) : Option (List Val × Gd) := match x, y with
  | .tup xs, .tup ys => some (zipV xs ys, gYes)
  | .rot xs, .tup ys => some (zipV xs ys, gYes)
  | .tup xs, .rot ys => some (zipV xs ys, gYes)
  | .rot xs, .rot ys => some (zipV xs ys, gYes)
  | x, y => match listOf st x, listOf st y with
    | some (xs, g), some (ys, g') => some (zipV xs ys, gAnd g g')
    | _, _ => none


/-! ### built-in functions, methods -/
abbrev BF := List Val → M Val
def fLen : BF := fun vs st => match vs with
  | [.str s] => if s.length ≤ 16777216 then some (.ok (.int s.length), st) else none
  | [v] => match asQ st v with
    | some xs => some (.ok (.int xs.length), st)
    | none => none
  | _ => none
def fInt : BF := fun vs st => match vs with
  | [.int i] => some (.ok (.int i), st)
  | [.bl b] => some (.ok (.int (if b then 1 else 0)), st)
  | _ => none
def fMax2 : BF := fun vs st => match vs with
  | [.int i, .int j] => some (.ok (.int (if j > i then j else i)), st)
  | _ => none
def fMin2 : BF := fun vs st => match vs with
  | [.int i, .int j] => some (.ok (.int (if j < i then j else i)), st)
  | _ => none
def fSum : BF := fun vs st => match vs with
  | [v] => match asL st v with
    | some xs => match intL xs with
      | some is => some (.ok (.int is.sum), st)
      | none => none
    | none => none
  | _ => none
def fAll : BF := fun vs st => match vs with
  | [v] => match asL st v with
    | some xs => match blL xs with
      | some bs => some (.ok (.bl (bs.all id)), st)
      | none => none
    | none => none
  | _ => none
def fSorted (m : Bool) : BF := fun vs st => match vs with
  | [v] => match asL st v with
    | some xs => match toDs xs with
      | some ds => if allAlike ds && sortable ds && SeqAt.shaped (.list ds) && xs.length ≤ 16777216 then newL m (sortV xs) st else none
      | none => none
    | none => none
  | _ => none
def fTuple : BF := fun vs st => match vs with
  | [v] => match asL st v with
    | some xs => some (.ok (.tup xs), st)
    | none => none
  | _ => none
def isAs (cs : List Str) (st : Store) (v : Val) : List Val → Option (List Bool)
  | [] => some []
  | t :: ts => match isA cs st v t, isAs cs st v ts with
    | some b, some bs => some (b :: bs)
    | _, _ => none
def fIsi (cs : List Str) : BF := fun vs st => match vs with
  | [v, .tup ts] => (match isAs cs st v ts with
    | some bs => if ts.isEmpty = false then some (.ok (.bl (bs.any id)), st) else none
    | none => none)
  | [v, t] => (match isA cs st v t with
    | some b => some (.ok (.bl b), st)
    | none => none)
  | _ => none
def mAppend (x : Val) : BF := fun vs st => match x, vs with
  | .ref n, [v] => (match st.get n with
    | some (.lst xs) => if xs.length < 16777216 then some (.ok .non, st.put n (.lst (xs ++ [v]))) else none
    | _ => none)
  | _, _ => none
def mBits (x : Val) : BF := fun vs st => match x, vs with
  | .int i, [] => some (.ok (.int (Builtin.Int.intBits i : Nat)), st)
  | _, _ => none
/-! ### expressions: functions of the frame -/
abbrev EF := Env → M Val
abbrev LF := Env → M (List Val)
abbrev BT := Env → M Bool
def eLit (v : Val) : EF := fun _ => ret v
def eVar (i : Nat) : EF := fun env => lift (env[i]?.bind id)
def aNil : LF := fun _ => ret []
def aCons (f : EF) (g : LF) : LF := fun env => bd (f env) fun v => bd (g env) fun vs => ret (v :: vs)
def eTup (g : LF) : EF := fun env => bd (g env) fun vs => if vs.length ≤ 16777216 then ret (.tup vs) else bad
def eLst (m : Bool) (g : LF) : EF := fun env => bd (g env) fun vs => newL m vs
def eBin (op : Operator) (a b : EF) : EF := fun env => bd (a env) fun x => bd (b env) fun y => binop op x y
def eNot (a : EF) : EF := fun env => bd (a env) fun x => rd fun st => (truthy st x).map fun b => .bl (!b)
def eCmp (op : CmpOp) (a b : EF) : EF := fun env => bd (a env) fun x => bd (b env) fun y => rd fun st => (cmpop op x y st).map .bl
def eAnd (a b : EF) : EF := fun env => bd (a env) fun x => bd (rd fun st => truthy st x) fun r => match r with
  | true => b env
  | false => ret x
def eOr (a b : EF) : EF := fun env => bd (a env) fun x => bd (rd fun st => truthy st x) fun r => match r with
  | true => ret x
  | false => b env
def eIf (c : BT) (a b : EF) : EF := fun env => bd (c env) fun r => match r with
  | true => a env
  | false => b env
def eSub (a i : EF) : EF := fun env => bd (a env) fun x => bd (i env) fun y => getItem x y
def oNone : Env → M (Option Int) := fun _ => ret none
def oSome (a : EF) : Env → M (Option Int) := fun env => bd (a env) fun x => lift (match x with | .int i => some (some i) | _ => none)
def eSlc (m : Bool) (a : EF) (lo hi : Env → M (Option Int)) : EF := fun env => bd (a env) fun x => bd (lo env) fun l => bd (hi env) fun h => slice m x l h
/-- a call of a def, of a built-in function -/
def eCall (f : BF) (g : LF) : EF := fun env => bd (g env) fun vs => f vs
/-- a method of a list, of a text -/
def eMl (f : Val → BF) (o : EF) (g : LF) : EF := fun env => bd (o env) fun x => fun st => match asM st x with
  | some _ => bd (g env) (fun vs => f x vs) st
  | none => none
def eBits (o : EF) : EF := fun env => bd (o env) fun x => mBits x []
abbrev IF := Env → M (List Val × Gd)
def eComp (m : Bool) (own : List Nat) (elt : EF) (tg : Tg) (it : IF) (cond : BT) : EF := fun env => bd (it env) fun xs => fun st =>
  bd (loopC xs.2 tg cond elt (wipeE env own) xs.1 []) (fun acc => fun s => match m with | true => some (.ok (.ref st.nx), s.add st.nx (.lst acc)) | false => some (.ok (.lst acc), s)) st.reserve
def eFrz (e : EF) : EF := fun env => bd (e env) fun x => fun st => match fz 40 x st with
  | some (v, st1) => some (.ok v, st1)
  | none => none
/-! ### tests -/
def bYes : BT := fun _ => ret true
def bNot (a : BT) : BT := fun env => bd (a env) fun r => ret (!r)
def bAnd (a b : BT) : BT := fun env => bd (a env) fun r => match r with
  | true => b env
  | false => ret false
def bOr (a b : BT) : BT := fun env => bd (a env) fun r => match r with
  | true => ret true
  | false => b env
def bCmp (op : CmpOp) (a b : EF) : BT := fun env => bd (a env) fun x => bd (b env) fun y => rd fun st => cmpop op x y st
def bTru (a : EF) : BT := fun env => bd (a env) fun x => rd fun st => truthy st x
/-! ### what a for walks over -/
def iSeq (e : EF) : IF := fun env => bd (e env) fun x => rd fun st => itemsOf st x
def iKeys (e : EF) : IF := fun env => bd (e env) fun x => lift (keysOf x)
def iRange1 (a : EF) : IF := fun env => bd (a env) fun x => lift (match x with | .int j => if small62 j then some (rangeV 0 j.toNat, gYes) else none | _ => none)
def iRange2 (a b : EF) : IF := fun env => bd (a env) fun x => bd (b env) fun y => lift (match x, y with | .int i, .int j => if small62 i && small62 j then some (rangeV i (j - i).toNat, gYes) else none | _, _ => none)
def iZip (a b : EF) : IF := fun env => bd (a env) fun x => bd (b env) fun y => rd fun st => zipOf st x y
/-! ### statements -/
inductive Fl where
  | nx | br | ct | rt (v : Val)
  deriving Inhabited
inductive OS where
  | fl (f : Fl) (env : Env) | er (c : Str) (v : Option Val) (env : Env)
  deriving Inhabited
abbrev MS := Store → Option (OS × Store)
abbrev SF := Env → MS
/-- an expression's value, then a statement's rest -/
def bs {α : Type} (env : Env) (x : M α) (f : α → MS) : MS := fun st => match x st with
  | some (.ok a, s) => f a s
  | some (.err c v, s) => some (.er c v env, s)
  | none => none
def done (f : Fl) (env : Env) : MS := fun st => some (.fl f env, st)
def badS : MS := fun _ => none
def loopF (gd : Gd) (tg : Tg) (body : SF) : List Val → SF
  | [], env => fun st => if gd st then some (.fl .nx env, st) else none
  | v :: vs, env => fun st => if gd st then (match bindT tg v env with
    | none => none
    | some env1 => match body env1 st with
      | some (.fl .nx e, s) => loopF gd tg body vs e s
      | some (.fl .ct e, s) => loopF gd tg body vs e s
      | some (.fl .br e, s) => some (.fl .nx e, s)
      | r => r) else none
def loopW (test : BT) (body : SF) : Nat → SF
  | 0, _ => badS
  | k + 1, env => bs env (test env) fun b => match b with
    | true => fun st => match body env st with
      | some (.fl .nx e, s) => loopW test body k e s
      | some (.fl .ct e, s) => loopW test body k e s
      | some (.fl .br e, s) => some (.fl .nx e, s)
      | r => r
    | false => done .nx env
def storeAt (o : Option Env) : MS := match o with
  | some e => done .nx e
  | none => badS
def sNil : SF := fun env => done .nx env
def sCons (a b : SF) : SF := fun env st => match a env st with
  | some (.fl .nx env1, s) => b env1 s
  | r => r
def sExpr (e : EF) : SF := fun env => bs env (e env) fun _ => done .nx env
def sSet (t : Tg) (e : EF) : SF := fun env => bs env (e env) fun v => storeAt (bindT t v env)
def sSub (a i e : EF) : SF := fun env => bs env (e env) fun v => bs env (a env) fun x => bs env (i env) fun y => bs env (setItem x y v) fun _ => done .nx env
/-- a, b = x, y by plain names -/
def sPar2 (i j : Nat) (g : LF) : SF := fun env => bs env (g env) fun vs => match vs with
  | [v, w] => if i < env.length ∧ j < env.length then done .nx ((env.set i (some v)).set j (some w)) else badS
  | _ => badS
def sRet (e : EF) : SF := fun env => bs env (e env) fun v => done (.rt v) env
def sIf (c : BT) (a b : SF) : SF := fun env => bs env (c env) fun r => match r with
  | true => a env
  | false => b env
def sFor (t : Tg) (it : IF) (b : SF) : SF := fun env => bs env (it env) fun xs => loopF xs.2 t b xs.1 env
def sWhile (c : BT) (b : SF) : SF := fun env => loopW c b 100000 env
def startE (N : Nat) (vs : List Val) : Env := vs.map some ++ List.replicate (N - vs.length) none
/-- a def: how many names, how many parameters, its body -/
def mkFn (N k : Nat) (body : SF) : BF := fun vs st => if vs.length = k then (match body (startE N vs) st with
  | some (.fl (.rt v) _, s) => some (.ok v, s)
  | some (.fl .nx _, s) => some (.ok .non, s)
  | some (.er c v _, s) => some (.err c v, s)
  | _ => none) else none
end Pv
namespace Pv
open PySem
def sBad : SF := fun _ => badS
end Pv
namespace Pv
open PySem
/-- list(d) -/
def fListD (m : Bool) : BF := fun vs st => match vs with
  | [v] => match asD st v with
    | some (false, ks, _) => newL m ks st
    | _ => none
  | _ => none
end Pv
namespace Pv
open PySem
/-- range(a, b, c) -/
def iRange3 (a b c : EF) : IF := fun env => bd (aCons a (aCons b (aCons c aNil)) env) fun vs => lift (match vs with
  | [.int i, .int j, .int k] => if k ≠ 0 ∧ k.natAbs < 1073741824 ∧ Builtin.Range.small i j k = true ∧ 0 ≤ Builtin.Range.rangeSize i j k then some ((List.range (Builtin.Range.rangeSize i j k).toNat).map fun (n : Nat) => .int (i + n * k), gYes) else none
  | _ => none)
/-- list(range(n)) -/
def eListRg (m : Bool) (a : EF) : EF := fun env => bd (a env) fun x => match x with
  | .int n => if small62 n && decide (n ≤ 16777216) then newL m (rangeV 0 n.toNat) else bad
  | _ => bad
end Pv
namespace Pv
open PySem
/-! ### no reference in it; a call that leaves the store alone -/
mutual
def gnd : Val → Bool
  | .ref _ => false
  | .tup vs => gnds vs
  | .lst vs => gnds vs
  | .rol vs => gnds vs
  | .rot vs => gnds vs
  | .dct _ _ vs => gnds vs
  | .ins _ _ vs => gnds vs
  | .ndc ks vs => gnds ks && gnds vs
  | _ => true
def gnds : List Val → Bool
  | [] => true
  | v :: vs => gnd v && gnds vs
end
/-- a def whose arguments and whose answer hold nothing that changes: run with an empty store -/
def locF (f : BF) : BF := fun vs st => if gnds vs then (match f vs ⟨0, []⟩ with
  | some (.ok v, _) => if gnd v then some (.ok v, st) else none
  | _ => none) else none
/-- the answer of such a def -/
def run (f : BF) (vs : List Val) : Option Val := match f vs ⟨0, []⟩ with
  | some (.ok v, _) => some v
  | _ => none
/-- {k: v, ..} -/
abbrev PF := Env → M (List (Val × Val))
/-- name op= e, whole numbers -/
def intop (op : Operator) (i j : Int) : Option Int := match op with
  | .Add => some (i + j)
  | .Sub => some (i - j)
  | .Mult => if mulOk i j then some (i * j) else none
  | _ => none
def sAugI (i : Nat) (op : Operator) (e : EF) : SF := fun env => bs env (lift (env[i]?.bind id)) fun x => bs env (e env) fun y => match x, y with
  | .int m, .int n => (match intop op m n with
    | some k => storeAt (bindT (.nm i) (.int k) env)
    | none => badS)
  | _, _ => badS
/-- .. appended -/
def aLast (g : LF) (v : Val) : LF := fun env => bd (g env) fun vs => ret (vs ++ [v])
/-- a, b, c = x, y, z by plain names -/
def sPar3 (i j k : Nat) (g : LF) : SF := fun env => bs env (g env) fun vs => match vs with
  | [u, v, w] => done .nx (((env.set k (some w)).set j (some v)).set i (some u))
  | _ => badS
end Pv
/-! Pv, part B2: more combinators. -/
namespace Pv
open PySem
/-- what a value holds, read through the store: a tree -/
def vwL (f : Val → Option Val) : List Val → Option (List Val)
  | [] => some []
  | v :: vs => match f v, vwL f vs with
    | some w, some ws => some (w :: ws)
    | _, _ => none
def vw (st : Store) : Nat → Val → Option Val
  | 0, _ => none
  | n + 1, v => match v with
    | .ref k => (match st.get k with
      | some (.lst vs) => (vwL (vw st n) vs).map .lst
      | some (.dct t ks vs) => (vwL (vw st n) vs).map (.dct t ks)
      | some (.ins c fs vs) => (vwL (vw st n) vs).map (.ins c fs)
      | some (.ndc _ _) => none
      | none => none)
    | .tup vs => (vwL (vw st n) vs).map .tup
    | .lst vs => (vwL (vw st n) vs).map .lst
    | .rol vs => (vwL (vw st n) vs).map .rol
    | .rot vs => (vwL (vw st n) vs).map .rot
    | .dct t ks vs => (vwL (vw st n) vs).map (.dct t ks)
    | .ins c fs vs => (vwL (vw st n) vs).map (.ins c fs)
    | .ndc _ _ => none
    | v => some v
def vwE (st : Store) (env : Env) : Env := env.map fun o => o.bind (vw st 40)
/-- looked at only: run over what the values hold, nothing stays but a plain answer -/
def ePeek (e : EF) : EF := fun env st => match e (vwE st env) ⟨0, []⟩ with
  | some (.ok v, _) => if flat v then some (.ok v, st) else none
  | _ => none
end Pv
/-! Pv, part B3: keyword calls, dicts copied, listed, cleared, l.pop(i), text * n, a[i], b[j] = x, y. -/
namespace Pv
open PySem
end Pv
/-! Pv, part B4: dicts whose keys are tuples of tuples: what the functions say. -/
namespace Pv
open PySem
/-! ### what the functions say -/
def newN (ks vs : List Val) : M Val := fun st => some (.ok (.ref st.nx), st.alloc (.ndc ks vs))
/-- zip of a tuple and of a tuple or a list -/
def zipX (st : Store) (x y : Val) : Option (List Val × Gd) := match asT x with
  | some xs => (match asT y with
    | some ys => some (zipV xs ys, gYes)
    | none => (match listOf st y with
      | some (ys, g) => some (zipV xs ys, g)
      | none => none))
  | none => none
def iZipX (a b : EF) : IF := fun env => bd (a env) fun x => bd (b env) fun y => rd fun st => zipX st x y
/-- any, all of whole numbers -/
def fAnyI : BF := fun vs st => match vs with
  | [v] => match asL st v with
    | some xs => match intL xs with
      | some is => some (.ok (.bl (is.any fun i => i != 0)), st)
      | none => none
    | none => none
  | _ => none
/-- sum of a tuple -/
def fSumT : BF := fun vs st => match vs with
  | [v] => match asT v with
    | some xs => match intL xs with
      | some is => some (.ok (.int is.sum), st)
      | none => none
    | none => none
  | _ => none
/-- [x] * n that stays changeable -/
def eRepL (a b : EF) : EF := fun env => bd (a env) fun x => bd (b env) fun k => fun st => match k with
  | .int k => (match asM st x with
    | some vs => if -(2 ^ 63) ≤ k ∧ k < 2 ^ 63 ∧ vs.length * k.toNat ≤ 16777216 then newL true (List.replicate k.toNat vs).flatten st else none
    | none => none)
  | _ => none
def eNNew : EF := fun _ => newN [] []
def nSetItem (x i v : Val) : M Unit := fun st => match x with
  | .ref n => match st.get n with
    | some (.ndc ks vs) => match nPut ks vs i v with
      | some (ks', vs') => some (.ok (), st.put n (.ndc ks' vs'))
      | none => none
    | _ => none
  | _ => none
def sNSub (a i e : EF) : SF := fun env => bs env (e env) fun v => bs env (a env) fun x => bs env (i env) fun y => bs env (nSetItem x y v) fun _ => done .nx env
/-- list(d.values()) -/
def eNVals (m : Bool) (e : EF) : EF := fun env => bd (e env) fun v => fun st => match asND st v with
  | some (_, vs) => newL m vs st
  | none => none
end Pv
/-! What the linked text computes, def by def (printed by gen.py). -/
namespace Pv
open PySem
def cs0 : List Str := []
def f_is_whole : BF := locF (mkFn 1 1
    (sCons (sRet (eAnd (eCall (fIsi cs0) (aCons (eVar 0) (aCons (eLit (.ty "int")) aNil))) (eNot (eCall (fIsi cs0) (aCons (eVar 0) (aCons (eLit (.ty "bool")) aNil))))))
    sNil))

def f_is_count : BF := locF (mkFn 2 2
    (sCons (sRet (eAnd (eCall f_is_whole (aCons (eVar 0) aNil)) (eAnd (eCmp .GtE (eVar 0) (eLit (.int 0))) (eOr (eCmp .Is (eVar 1) (eLit .non)) (eCmp .LtE (eVar 0) (eVar 1))))))
    sNil))

def f_check_count : BF := locF (mkFn 2 2
    (sCons (sIf (bNot (bTru (eCall f_is_count (aCons (eVar 0) (aCons (eVar 1) aNil)))))
    (sCons sBad
    sNil)
    sNil)
    sNil))

def f_check_many : BF := locF (mkFn 1 1
    (sCons (sIf (bOr (bNot (bTru (eCall f_is_count (aLast (aCons (eVar 0) aNil) .non)))) (bCmp .Lt (eVar 0) (eLit (.int 1))))
    (sCons sBad
    sNil)
    sNil)
    sNil))

def f_power : BF := locF (mkFn 3 1
    (sCons (sSet (.nm 1) (eLit (.int 1)))
    (sCons (sFor (.nm 2) (iRange1 (eVar 0))
    (sCons (sAugI 1 .Mult (eLit (.int 2)))
    sNil))
    (sCons (sRet (eVar 1))
    sNil))))

def f_narrow_families : BF := locF (mkFn 5 2
    (sCons (sSet (.tup [(.nm 2), (.nm 3)]) (eTup (aCons (eLit (.int 1)) (aCons (eLit (.int 1)) aNil))))
    (sCons (sFor (.nm 4) (iRange1 (eVar 1))
    (sCons (sAugI 2 .Mult (eBin .Sub (eCall f_power (aCons (eCall fMax2 (aCons (eLit (.int 0)) (aCons (eBin .Sub (eVar 0) (eBin .Mult (eLit (.int 2)) (eVar 4))) aNil))) aNil)) (eLit (.int 1))))
    (sCons (sAugI 3 .Mult (eBin .Sub (eCall f_power (aCons (eBin .Add (eVar 4) (eLit (.int 1))) aNil)) (eLit (.int 1))))
    sNil)))
    (sCons (sRet (eBin .FloorDiv (eVar 2) (eVar 3)))
    sNil))))

def f_families : BF := locF (mkFn 3 2
    (sCons (sIf (bCmp .Eq (eVar 0) (eLit (.int 0)))
    (sCons (sRet (eCall fInt (aCons (eCmp .Eq (eVar 1) (eLit (.int 0))) aNil)))
    sNil)
    sNil)
    (sCons (sIf (bCmp .Eq (eBin .Mod (eVar 0) (eLit (.int 2))) (eLit (.int 1)))
    (sCons (sRet (eCall f_narrow_families (aCons (eBin .Sub (eVar 0) (eLit (.int 1))) (aCons (eVar 1) aNil))))
    sNil)
    sNil)
    (sCons (sSet (.nm 2) (eIf (bCmp .Gt (eVar 1) (eLit (.int 0))) (eCall f_narrow_families (aCons (eBin .Sub (eVar 0) (eLit (.int 2))) (aCons (eBin .Sub (eVar 1) (eLit (.int 1))) aNil))) (eLit (.int 0))))
    (sCons (sRet (eBin .Add (eVar 2) (eBin .Mult (eCall f_power (aCons (eVar 1) aNil)) (eCall f_narrow_families (aCons (eBin .Sub (eVar 0) (eLit (.int 2))) (aCons (eVar 1) aNil))))))
    sNil)))))

def f_untied : BF := locF (mkFn 3 1
    (sCons (sIf (bCmp .Eq (eBin .Mod (eVar 0) (eLit (.int 2))) (eLit (.int 1)))
    (sCons (sRet (eLit (.int 0)))
    sNil)
    sNil)
    (sCons (sSet (.nm 1) (eLit (.int 1)))
    (sCons (sFor (.nm 2) (iRange3 (eLit (.int 1)) (eVar 0) (eLit (.int 2)))
    (sCons (sAugI 1 .Mult (eBin .Mult (eBin .Sub (eCall f_power (aCons (eVar 2) aNil)) (eLit (.int 1))) (eCall f_power (aCons (eBin .Sub (eVar 2) (eLit (.int 1))) aNil))))
    sNil))
    (sCons (sRet (eVar 1))
    sNil)))))

def f_even_families : BF := locF (mkFn 2 2
    (sCons (sExpr (eCall f_check_many (aCons (eVar 0) aNil)))
    (sCons (sExpr (eCall f_check_count (aLast (aCons (eVar 1) aNil) .non)))
    (sCons (sRet (eCall f_families (aCons (eVar 0) (aCons (eVar 1) aNil))))
    sNil))))

def f_untied_companies : BF := locF (mkFn 1 1
    (sCons (sExpr (eCall f_check_count (aLast (aCons (eVar 0) aNil) .non)))
    (sCons (sRet (eCall f_untied (aCons (eVar 0) aNil)))
    sNil)))

def f__law_purse : BF := mkFn 3 2
    (sCons (sSet (.nm 2) (eCall fSum (aCons (eSlc false (eVar 0) (oSome (eVar 1)) (oSome (eBin .Add (eVar 1) (eLit (.int 1))))) aNil)))
    (sCons (sRet (eLst true (aCons (eBin .Mod (eCall fInt (aCons (eCall fMax2 (aCons (eBin .Sub (eVar 2) (eBin .Pow (eLit (.int 10)) (eLit (.int 18)))) (aCons (eLit (.int 0)) aNil))) aNil)) (eBin .Pow (eBin .Pow (eLit (.int 10)) (eLit (.int 60))) (eLit (.int 8)))) (aCons (eBin .Mod (eCall fInt (aCons (eVar 2) aNil)) (eLit (.int 2147483629))) (aCons (eLit (.int 0)) (aCons (eVar 1) aNil))))))
    sNil))

def f__law_mixed : BF := locF (mkFn 4 3
    (sCons (sSet (.nm 3) (eBin .Add (eBin .Mult (eVar 0) (eLit (.int 69069))) (eBin .Mult (eBin .Mult (eLit (.int 104729)) (eVar 1)) (eVar 1))))
    (sCons (sSet (.nm 3) (eBin .Mod (eCall fInt (aCons (eBin .Add (eBin .Add (eVar 3) (eBin .Mult (eLit (.int 7919)) (eVar 2))) (eVar 1)) aNil)) (eLit (.int 2147483647))))
    (sCons (sSet (.nm 3) (eBin .Mod (eCall fInt (aCons (eBin .Add (eBin .Mult (eVar 3) (eVar 3)) (eLit (.int 40503))) aNil)) (eLit (.int 2147483629))))
    (sCons (sRet (eBin .Mod (eCall fInt (aCons (eBin .Mult (eVar 3) (eLit (.int 48271))) aNil)) (eLit (.int 2147483587))))
    sNil)))))

def f__law_draw : BF := mkFn 5 2
    (sCons (sIf (bCmp .Gt (eSub (eVar 0) (eLit (.int 0))) (eLit (.int 0)))
    (sCons (sSet (.nm 2) (eBin .Mod (eCall fInt (aCons (eSub (eVar 0) (eLit (.int 0))) aNil)) (eVar 1)))
    (sCons (sSub (eVar 0) (eLit (.int 0)) (eBin .FloorDiv (eSub (eVar 0) (eLit (.int 0))) (eVar 1)))
    (sCons (sRet (eVar 2))
    sNil)))
    sNil)
    (sCons (sSet (.nm 3) (eLit (.int 0)))
    (sCons (sFor (.nm 4) (iRange1 (eBin .Add (eLit (.int 1)) (eBin .FloorDiv (eBits (eVar 1)) (eLit (.int 28)))))
    (sCons (sSub (eVar 0) (eLit (.int 2)) (eBin .Add (eSub (eVar 0) (eLit (.int 2))) (eLit (.int 1))))
    (sCons (sSet (.nm 3) (eBin .Add (eBin .Mult (eVar 3) (eLit (.int 2147483587))) (eCall f__law_mixed (aCons (eSub (eVar 0) (eLit (.int 1))) (aCons (eSub (eVar 0) (eLit (.int 2))) (aCons (eSub (eVar 0) (eLit (.int 3))) aNil))))))
    sNil)))
    (sCons (sRet (eBin .Mod (eCall fInt (aCons (eVar 3) aNil)) (eVar 1)))
    sNil))))

def f__law_purses : BF := mkFn 3 2
    (sCons (sRet (eComp false [2] (eCall f__law_purse (aCons (eVar 0) (aCons (eVar 2) aNil))) (.nm 2) (iRange1 (eCall fMax2 (aCons (eLit (.int 1)) (aCons (eCall fMin2 (aCons (eVar 1) (aCons (eCall fLen (aCons (eVar 0) aNil)) aNil))) aNil)))) bYes))
    sNil)

def f__law_exact : Nat → BF
  | 0 => fun _ _ => none
  | n + 1 => (fun f => locF (mkFn 6 2
    (sCons (sIf (bTru (eCall (fIsi cs0) (aCons (eVar 0) (aCons (eTup (aCons (eLit (.ty "list")) (aCons (eLit (.ty "tuple")) aNil))) aNil))))
    (sCons (sSet (.nm 2) (eAnd (eCmp .Eq (eCall (fIsi cs0) (aCons (eVar 1) (aCons (eLit (.ty "list")) aNil))) (eCall (fIsi cs0) (aCons (eVar 0) (aCons (eLit (.ty "list")) aNil)))) (eCmp .Eq (eCall (fIsi cs0) (aCons (eVar 1) (aCons (eLit (.ty "tuple")) aNil))) (eCall (fIsi cs0) (aCons (eVar 0) (aCons (eLit (.ty "tuple")) aNil))))))
    (sCons (sRet (eAnd (eVar 2) (eAnd (eCmp .Eq (eCall fLen (aCons (eVar 0) aNil)) (eCall fLen (aCons (eVar 1) aNil))) (eCall fAll (aCons (eComp false [3, 4] (eCall f (aCons (eVar 3) (aCons (eVar 4) aNil))) (.tup [(.nm 3), (.nm 4)]) (iZip (eVar 0) (eVar 1)) bYes) aNil)))))
    sNil))
    sNil)
    (sCons (sIf (bTru (eCall (fIsi cs0) (aCons (eVar 0) (aCons (eLit (.ty "dict")) aNil))))
    (sCons (sSet (.nm 2) (eAnd (eCall (fIsi cs0) (aCons (eVar 1) (aCons (eLit (.ty "dict")) aNil))) (eCall f (aCons (eCall (fListD false) (aCons (eVar 0) aNil)) (aCons (eCall (fListD false) (aCons (eVar 1) aNil)) aNil)))))
    (sCons (sRet (eAnd (eVar 2) (eCall fAll (aCons (eComp false [5] (eCall f (aCons (eSub (eVar 0) (eVar 5)) (aCons (eSub (eVar 1) (eVar 5)) aNil))) (.nm 5) (iKeys (eVar 0)) bYes) aNil))))
    sNil))
    sNil)
    (sCons (sSet (.nm 2) (eCmp .Eq (eCall (fIsi cs0) (aCons (eVar 0) (aCons (eLit (.ty "int")) aNil))) (eCall (fIsi cs0) (aCons (eVar 1) (aCons (eLit (.ty "int")) aNil)))))
    (sCons (sRet (eAnd (eVar 2) (eAnd (eCmp .Eq (eCall (fIsi cs0) (aCons (eVar 0) (aCons (eLit (.ty "bool")) aNil))) (eCall (fIsi cs0) (aCons (eVar 1) (aCons (eLit (.ty "bool")) aNil)))) (eCmp .Eq (eVar 0) (eVar 1)))))
    sNil)))))) (f__law_exact n)

def f__law_pairs : BF := locF (mkFn 4 1
    (sCons (sSet (.nm 1) (eLst false aNil))
    (sCons (sFor (.nm 2) (iRange1 (eCall fLen (aCons (eVar 0) aNil)))
    (sCons (sSet (.nm 1) (eBin .Add (eVar 1) (eComp false [3] (eTup (aCons (eSub (eVar 0) (eVar 2)) (aCons (eVar 3) aNil))) (.nm 3) (iSeq (eSlc false (eVar 0) (oSome (eBin .Add (eVar 2) (eLit (.int 1)))) oNone)) bYes)))
    sNil))
    (sCons (sRet (eVar 1))
    sNil))))

def f__law_power : BF := locF (mkFn 3 1
    (sCons (sSet (.nm 1) (eLit (.int 1)))
    (sCons (sFor (.nm 2) (iRange1 (eVar 0))
    (sCons (sSet (.nm 1) (eBin .Mult (eVar 1) (eLit (.int 2))))
    sNil))
    (sCons (sRet (eVar 1))
    sNil))))

def f__law_untied_to : BF := locF (mkFn 7 1
    (sCons (sSet (.tup [(.nm 1), (.nm 2), (.nm 3)]) (eTup (aCons (eComp false [6] (eCall f__law_power (aCons (eVar 6) aNil)) (.nm 6) (iRange1 (eBin .Add (eVar 0) (eLit (.int 1)))) bYes) (aCons (eLst false (aCons (eLit (.int 1)) aNil)) (aCons (eLst true (aCons (eLit (.int 1)) aNil)) aNil)))))
    (sCons (sFor (.nm 4) (iRange2 (eLit (.int 1)) (eBin .Add (eVar 0) (eLit (.int 1))))
    (sCons (sSet (.nm 5) (eBin .Add (eVar 2) (eLst false (aCons (eLit (.int 0)) aNil))))
    (sCons (sSet (.nm 2) (eBin .Add (eLst false (aCons (eLit (.int 1)) aNil)) (eComp false [6] (eBin .Add (eSub (eVar 5) (eBin .Sub (eVar 6) (eLit (.int 1)))) (eBin .Mult (eSub (eVar 1) (eVar 6)) (eSub (eVar 5) (eVar 6)))) (.nm 6) (iRange2 (eLit (.int 1)) (eBin .Add (eVar 4) (eLit (.int 1)))) bYes)))
    (sCons (sExpr (eMl mAppend (eVar 3) (aCons (eBin .Sub (eCall f__law_power (aCons (eBin .FloorDiv (eBin .Mult (eVar 4) (eBin .Sub (eVar 4) (eLit (.int 1)))) (eLit (.int 2))) aNil)) (eCall fSum (aCons (eComp false [6] (eBin .Mult (eSub (eVar 2) (eVar 6)) (eSub (eVar 3) (eVar 6))) (.nm 6) (iRange1 (eVar 4)) bYes) aNil))) aNil)))
    sNil))))
    (sCons (sRet (eFrz (eVar 3)))
    sNil))))

def f__law_families : Nat → BF
  | 0 => fun _ _ => none
  | n + 1 => (fun f => locF (mkFn 6 2
    (sCons (sIf (bCmp .Eq (eBin .Mod (eCall fInt (aCons (eVar 0) aNil)) (eLit (.int 2))) (eLit (.int 1)))
    (sCons (sSet (.tup [(.nm 2), (.nm 3)]) (eTup (aCons (eLit (.int 1)) (aCons (eLit (.int 1)) aNil))))
    (sCons (sFor (.nm 4) (iRange1 (eVar 1))
    (sCons (sSet (.nm 2) (eIf (bCmp .Gt (eBin .Sub (eBin .Sub (eVar 0) (eLit (.int 1))) (eVar 4)) (eVar 4)) (eBin .Mult (eVar 2) (eBin .Sub (eCall f__law_power (aCons (eBin .Sub (eBin .Sub (eVar 0) (eLit (.int 1))) (eVar 4)) aNil)) (eCall f__law_power (aCons (eVar 4) aNil)))) (eLit (.int 0))))
    (sCons (sSet (.nm 3) (eBin .Mult (eVar 3) (eBin .Sub (eCall f__law_power (aCons (eVar 1) aNil)) (eCall f__law_power (aCons (eVar 4) aNil)))))
    sNil)))
    (sCons (sRet (eBin .FloorDiv (eVar 2) (eVar 3)))
    sNil)))
    sNil)
    (sCons (sSet (.nm 5) (eIf (bCmp .Gt (eVar 1) (eLit (.int 0))) (eCall f (aCons (eBin .Sub (eVar 0) (eLit (.int 1))) (aCons (eBin .Sub (eVar 1) (eLit (.int 1))) aNil))) (eLit (.int 0))))
    (sCons (sRet (eBin .Add (eBin .Mult (eCall f__law_power (aCons (eVar 1) aNil)) (eCall f (aCons (eBin .Sub (eVar 0) (eLit (.int 1))) (aCons (eVar 1) aNil)))) (eVar 5)))
    sNil))))) (f__law_families n)

def f__law_lists : BF := locF (mkFn 4 1
    (sCons (sSet (.nm 1) (eLst false (aCons (eTup aNil) aNil)))
    (sCons (sFor (.nm 2) (iRange1 (eVar 0))
    (sCons (sSet (.nm 1) (eBin .Add (eComp false [3] (eBin .Add (eVar 3) (eTup (aCons (eLit (.int 0)) aNil))) (.nm 3) (iSeq (eVar 1)) bYes) (eComp false [3] (eBin .Add (eVar 3) (eTup (aCons (eLit (.int 1)) aNil))) (.nm 3) (iSeq (eVar 1)) bYes)))
    sNil))
    (sCons (sRet (eVar 1))
    sNil))))

def f__law_differ : BF := locF (mkFn 4 2
    (sCons (sRet (eCall fTuple (aCons (eComp false [3, 2] (eCall fInt (aCons (eCmp .NotEq (eVar 3) (eVar 2)) aNil)) (.tup [(.nm 3), (.nm 2)]) (iZip (eVar 0) (eVar 1)) bYes) aNil)))
    sNil))

def f__law_share : BF := locF (mkFn 4 2
    (sCons (sRet (eBin .Mod (eCall fInt (aCons (eCall fSum (aCons (eComp false [3, 2] (eBin .Mult (eVar 3) (eVar 2)) (.tup [(.nm 3), (.nm 2)]) (iZipX (eVar 0) (eVar 1)) bYes) aNil)) aNil)) (eLit (.int 2))))
    sNil))

def f__law_counted_families : BF := locF (mkFn 9 1
    (sCons (sSet (.nm 1) (eComp false [6] (eVar 6) (.nm 6) (iSeq (eCall f__law_lists (aCons (eVar 0) aNil))) (bCmp .Eq (eBin .Mod (eCall fInt (aCons (eCall fSumT (aCons (eVar 6) aNil)) aNil)) (eLit (.int 2))) (eLit (.int 0)))))
    (sCons (sPar2 2 3 (aCons (eLst false (aCons (eLst false (aCons (eSub (eVar 1) (eLit (.int 0))) aNil)) aNil)) (aCons (eLst true aNil) aNil)))
    (sCons (sWhile (bCmp .NotEq (eVar 2) (eLst false aNil))
    (sCons (sExpr (eMl mAppend (eVar 3) (aCons (eCall fLen (aCons (eVar 2) aNil)) aNil)))
    (sCons (sSet (.nm 4) eNNew)
    (sCons (sFor (.nm 5) (iSeq (eVar 2))
    (sCons (sFor (.nm 6) (iSeq (eVar 1))
    (sCons (sIf (bAnd (bCmp .NotIn (eVar 6) (eVar 5)) (bNot (bTru (eCall fAnyI (aCons (eComp false [8] (eCall f__law_share (aCons (eVar 6) (aCons (eVar 8) aNil))) (.nm 8) (iSeq (eVar 5)) bYes) aNil)))))
    (sCons (sSet (.nm 7) (eCall (fSorted false) (aCons (eBin .Add (eVar 5) (eComp false [8] (eCall f__law_differ (aCons (eVar 6) (aCons (eVar 8) aNil))) (.nm 8) (iSeq (eVar 5)) bYes)) aNil)))
    (sCons (sNSub (eVar 4) (eCall fTuple (aCons (eVar 7) aNil)) (eVar 7))
    sNil))
    sNil)
    sNil))
    sNil))
    (sCons (sSet (.nm 2) (eNVals false (eVar 4)))
    sNil)))))
    (sCons (sRet (eFrz (eVar 3)))
    sNil)))))

def f__law_counted_untied : BF := locF (mkFn 12 1
    (sCons (sPar3 1 2 3 (aCons (eCall f__law_pairs (aCons (eListRg false (eVar 0)) aNil)) (aCons (eLit (.int 0)) (aCons (eLst false (aCons (eTup aNil) aNil)) aNil))))
    (sCons (sFor (.nm 4) (iSeq (eVar 1))
    (sCons (sSet (.nm 3) (eBin .Add (eComp false [6] (eBin .Add (eVar 6) (eTup (aCons (eLit (.int 0)) aNil))) (.nm 6) (iSeq (eVar 3)) bYes) (eComp false [6] (eBin .Add (eVar 6) (eTup (aCons (eLit (.int 1)) aNil))) (.nm 6) (iSeq (eVar 3)) bYes)))
    sNil))
    (sCons (sSet (.nm 5) (eComp false [11] (eVar 11) (.nm 11) (iSeq (eCall f__law_lists (aCons (eVar 0) aNil))) (bCmp .Gt (eCall fSumT (aCons (eVar 11) aNil)) (eLit (.int 0)))))
    (sCons (sFor (.nm 6) (iSeq (eVar 3))
    (sCons (sSet (.nm 7) (eComp false [10] (eRepL (eLst false (aCons (eLit (.int 0)) aNil)) (eVar 0)) (.nm 10) (iRange1 (eVar 0)) bYes))
    (sCons (sFor (.nm 8) (iRange1 (eCall fLen (aCons (eVar 1) aNil)))
    (sCons (sSub (eSub (eVar 7) (eSub (eSub (eVar 1) (eVar 8)) (eLit (.int 0)))) (eSub (eSub (eVar 1) (eVar 8)) (eLit (.int 1))) (eSub (eVar 6) (eVar 8)))
    (sCons (sSub (eSub (eVar 7) (eSub (eSub (eVar 1) (eVar 8)) (eLit (.int 1)))) (eSub (eSub (eVar 1) (eVar 8)) (eLit (.int 0))) (eSub (eVar 6) (eVar 8)))
    sNil)))
    (sCons (sSet (.nm 2) (eBin .Add (eVar 2) (eCall fInt (aCons (ePeek (eCall fAll (aCons (eComp false [11] (eCall fAnyI (aCons (eComp false [9] (eCall f__law_share (aCons (eVar 11) (aCons (eVar 9) aNil))) (.nm 9) (iSeq (eVar 7)) bYes) aNil)) (.nm 11) (iSeq (eVar 5)) bYes) aNil))) aNil))))
    sNil))))
    (sCons (sRet (eVar 2))
    sNil))))))

def f_law : BF := mkFn 8 1
    (sCons (sFor (.nm 1) (iSeq (eCall f__law_purses (aCons (eVar 0) (aCons (eLit (.int 1)) aNil))))
    (sCons (sSet (.nm 2) (eIf (bCmp .Eq (eCall f__law_draw (aCons (eVar 1) (aCons (eLit (.int 12)) aNil))) (eLit (.int 0))) (eLit (.int 6)) (eBin .Add (eLit (.int 1)) (eCall f__law_draw (aCons (eVar 1) (aCons (eLit (.int 5)) aNil))))))
    (sCons (sSet (.nm 3) (eBin .Add (eCall f__law_counted_families (aCons (eVar 2) aNil)) (eBin .Mult (eLst false (aCons (eLit (.int 0)) aNil)) (eLit (.int 6)))))
    (sCons (sIf (bNot (bTru (eCall (f__law_exact 6) (aCons (eComp false [4] (eCall f_even_families (aCons (eVar 2) (aCons (eVar 4) aNil))) (.nm 4) (iRange1 (eLit (.int 5))) bYes) (aCons (eSlc false (eVar 3) oNone (oSome (eLit (.int 5)))) aNil)))))
    (sCons (sRet (eLit (.bl false)))
    sNil)
    sNil)
    (sCons (sSet (.nm 4) (eIf (bCmp .Eq (eCall f__law_draw (aCons (eVar 1) (aCons (eLit (.int 6)) aNil))) (eLit (.int 0))) (eLit (.int 4)) (eCall f__law_draw (aCons (eVar 1) (aCons (eLit (.int 4)) aNil)))))
    (sCons (sIf (bNot (bTru (eCall (f__law_exact 6) (aCons (eCall f_untied_companies (aCons (eVar 4) aNil)) (aCons (eCall f__law_counted_untied (aCons (eVar 4) aNil)) aNil)))))
    (sCons (sRet (eLit (.bl false)))
    sNil)
    sNil)
    (sCons (sSet (.nm 5) (eCall f__law_untied_to (aCons (eLit (.int 14)) aNil)))
    (sCons (sFor (.nm 6) (iRange1 (eLit (.int 4)))
    (sCons (sSet (.tup [(.nm 2), (.nm 4)]) (eTup (aCons (eBin .Add (eLit (.int 1)) (eCall f__law_draw (aCons (eVar 1) (aCons (eLit (.int 14)) aNil)))) (aCons (eCall f__law_draw (aCons (eVar 1) (aCons (eLit (.int 10)) aNil))) aNil))))
    (sCons (sIf (bNot (bTru (eCall (f__law_exact 6) (aCons (eLst false (aCons (eCall f_even_families (aCons (eVar 2) (aCons (eVar 4) aNil))) (aCons (eCall f_untied_companies (aCons (eVar 2) aNil)) aNil))) (aCons (eLst false (aCons (eCall (f__law_families 3) (aCons (eVar 2) (aCons (eVar 4) aNil))) (aCons (eSub (eVar 5) (eVar 2)) aNil))) aNil)))))
    (sCons (sRet (eLit (.bl false)))
    sNil)
    sNil)
    sNil)))
    sNil))))))))
    (sCons (sSet (.nm 7) (eLst false (aCons (eCall f_even_families (aCons (eLit (.int 2)) (aCons (eLit (.int 1)) aNil))) (aCons (eCall f_even_families (aCons (eLit (.int 4)) (aCons (eLit (.int 2)) aNil))) (aCons (eCall f_even_families (aCons (eLit (.int 6)) (aCons (eLit (.int 3)) aNil))) (aCons (eCall f_even_families (aCons (eLit (.int 5)) (aCons (eLit (.int 3)) aNil))) (aCons (eCall f_untied_companies (aCons (eLit (.int 4)) aNil)) (aCons (eCall f_untied_companies (aCons (eLit (.int 6)) aNil)) aNil))))))))
    (sCons (sRet (eCall (f__law_exact 6) (aCons (eVar 7) (aCons (eLst false (aCons (eLit (.int 1)) (aCons (eLit (.int 3)) (aCons (eLit (.int 15)) (aCons (eLit (.int 0)) (aCons (eLit (.int 28)) (aCons (eLit (.int 13888)) aNil))))))) aNil))))
    sNil)))
end Pv
/-! Qa: what expressions and statements give, read off their form; nothing of any law. -/
namespace Pv.Q
open PySem

abbrev Mem := List (Nat × Obj)
/-- all numbers of the store are taken -/
def Wf (n : Nat) (m : Mem) : Prop := ∀ p ∈ m, p.1 < n
theorem Wf.more {n n' : Nat} {m : Mem} (h : Wf n m) (hn : n ≤ n') : Wf n' m := fun p hp => Nat.lt_of_lt_of_le (h p hp) hn
theorem Wf.nil {n : Nat} : Wf n [] := fun p hp => by cases hp
/-- gives a, and leaves what the store holds -/
def Ru {α : Type} (m : Mem) (x : M α) (a : α) : Prop := ∀ n, Wf n m → ∃ n', n ≤ n' ∧ x ⟨n, m⟩ = some (.ok a, ⟨n', m⟩)
section
variable {α β : Type} {m : Mem} {x : M α} {f : α → M β} {a : α} {b : β} {o : Option α}
theorem Ru.ret : Ru m (Pv.ret a) a := fun n _ => ⟨n, Nat.le_refl _, rfl⟩
theorem Ru.bd (h : Ru m x a) (k : Ru m (f a) b) : Ru m (Pv.bd x f) b := fun n w => by
  obtain ⟨n1, l, e⟩ := h n w
  obtain ⟨n2, l2, e2⟩ := k n1 (w.more l)
  refine ⟨n2, Nat.le_trans l l2, ?_⟩
  unfold Pv.bd
  rw [e]
  exact e2
theorem Ru.lift (h : o = some a) : Ru m (Pv.lift o) a := by subst h; exact fun n _ => ⟨n, Nat.le_refl _, rfl⟩
theorem Ru.rd {g : Store → Option α} (h : ∀ n, g ⟨n, m⟩ = some a) : Ru m (Pv.rd g) a := fun n _ => ⟨n, Nat.le_refl _, by unfold Pv.rd; rw [h n]⟩
theorem Ru.of (h : ∀ n, x ⟨n, m⟩ = some (.ok a, ⟨n, m⟩)) : Ru m x a := fun n _ => ⟨n, Nat.le_refl _, h n⟩
theorem Ru.noErr (h : Ru m x a) : Ru m (Pv.noErr x) a := fun n w => by
  obtain ⟨n', l, e⟩ := h n w
  exact ⟨n', l, by unfold Pv.noErr; rw [e]⟩
end
section
variable {m : Mem} {env : Env} {a b c : EF} {g : LF} {v w x y : Val} {vs ws : List Val} {i j : Int} {r r1 r2 : Bool}
theorem ru_lit : Ru m (eLit v env) v := Ru.ret
theorem ru_var {i : Nat} (h : env[i]? = some (some v)) : Ru m (eVar i env) v := Ru.lift (by rw [h]; rfl)
theorem ru_nil : Ru m (aNil env) [] := Ru.ret
theorem ru_cons (h : Ru m (a env) v) (t : Ru m (g env) vs) : Ru m (aCons a g env) (v :: vs) := h.bd (t.bd Ru.ret)
theorem ru_tup (h : Ru m (g env) vs) (hl : vs.length ≤ 16777216) : Ru m (eTup g env) (.tup vs) := h.bd (by
  show Ru m (if vs.length ≤ 16777216 then Pv.ret (Val.tup vs) else bad) _
  rw [if_pos hl]
  exact Ru.ret)
theorem ru_newL (hl : vs.length ≤ 16777216) : Ru m (newL false vs) (.lst vs) := Ru.of fun st => by unfold newL; rw [if_pos hl]
theorem ru_lst (h : Ru m (g env) vs) (hl : vs.length ≤ 16777216) : Ru m (eLst false g env) (.lst vs) := h.bd (ru_newL hl)
theorem ru_bin {op : Operator} (h : Ru m (a env) x) (h2 : Ru m (b env) y) (k : Ru m (binop op x y) v) : Ru m (eBin op a b env) v := h.bd (h2.bd k)
theorem bin_add : Ru m (binop .Add (.int i) (.int j)) (.int (i + j)) := Ru.ret
theorem bin_mul (h : mulOk i j = true) : Ru m (binop .Mult (.int i) (.int j)) (.int (i * j)) := by
  show Ru m (if mulOk i j then Pv.ret (Val.int (i * j)) else bad) _
  rw [if_pos h]; exact Ru.ret
theorem bin_mod (h : 0 < j) : Ru m (binop .Mod (.int i) (.int j)) (.int (i % j)) := by
  show Ru m (if 0 < j then Pv.ret (Val.int (i % j)) else bad) _
  rw [if_pos h]; exact Ru.ret
theorem bin_lst (h : (vs ++ ws).length ≤ 16777216) : Ru m (binop .Add (.lst vs) (.lst ws)) (.lst (vs ++ ws)) := Ru.of fun st => by
  show newL false (vs ++ ws) ⟨st, m⟩ = _
  unfold newL
  rw [if_pos h]
theorem ru_cmp {op : CmpOp} (h : Ru m (a env) x) (h2 : Ru m (b env) y) (k : ∀ n, cmpop op x y ⟨n, m⟩ = some r) : Ru m (eCmp op a b env) (.bl r) := h.bd (h2.bd (Ru.rd fun st => by rw [k st]; rfl))
theorem ru_and (h : Ru m (a env) (.bl r1)) (k : r1 = true → Ru m (b env) (.bl r2)) : Ru m (eAnd a b env) (.bl (r1 && r2)) := h.bd ((Ru.rd (m := m) (a := r1) fun st => rfl).bd (by
  cases r1
  · exact Ru.ret
  · exact k rfl))
theorem ru_sub (h : Ru m (a env) x) (h2 : Ru m (b env) y) (k : Ru m (getItem x y) v) : Ru m (eSub a b env) v := h.bd (h2.bd k)
theorem get_lst {i : Nat} (h : vs[i]? = some v) : Ru m (getItem (.lst vs) (.int i)) v := Ru.of fun st => by
  have hl : i < vs.length := (List.getElem?_eq_some_iff.mp h).1
  have e : L2.atI vs (i : Int) = some v := by
    have h1 : (i : Int) < (vs.length : Int) := by omega
    simp only [L2.atI, L2.ixN]
    rw [← h]
    simp [h1]
  simp only [getItem, asD, asQ, asL, e]
theorem get_dct {t : Bool} {ks : List Val} {kk : List DK} {jj : DK} (h : toDKs t ks = some kk) (h2 : toDK t y = some jj) (hl : kk.length = vs.length) (k : dGet kk vs jj = some v) : Ru m (getItem (.dct t ks vs) y) v := Ru.of fun st => by
  unfold getItem
  simp only [asD, h, h2, if_pos hl, k]
theorem ru_call {f : BF} (h : Ru m (g env) vs) (k : Ru m (f vs) v) : Ru m (eCall f g env) v := h.bd k
theorem ru_call1 {f : BF} (h : Ru m (a env) x) (k : Ru m (f [x]) v) : Ru m (eCall f (aCons a aNil) env) v := ru_call (ru_cons h ru_nil) k
theorem ru_call2 {f : BF} (h : Ru m (a env) x) (h2 : Ru m (b env) y) (k : Ru m (f [x, y]) v) : Ru m (eCall f (aCons a (aCons b aNil)) env) v := ru_call (ru_cons h (ru_cons h2 ru_nil)) k
/-! tests -/
theorem rb_yes : Ru m (bYes env) true := Ru.ret
theorem rb_trub (h : Ru m (a env) (.bl r)) : Ru m (bTru a env) r := h.bd (Ru.rd fun st => rfl)
/-! what a for walks over -/
theorem ri_keys {ks : List Val} (h : Ru m (a env) (.dct false ks vs)) : Ru m (iKeys a env) (ks, gYes) := h.bd (Ru.lift rfl)
theorem small_nat {n : Nat} (h : n ≤ 16777216) : small62 (n : Int) = true := by unfold small62; rw [Bool.and_eq_true, decide_eq_true_eq, decide_eq_true_eq]; omega
theorem rangeV_eq : ∀ (n lo : Nat), rangeV lo n = (List.range n).map fun (i : Nat) => Val.int ((lo + i : Nat) : Int)
  | 0, _ => rfl
  | n + 1, lo => by
    have := rangeV_eq n (lo + 1)
    rw [rangeV, List.range_succ_eq_map, List.map_cons, List.map_map]
    congr 1
    rw [show ((lo : Int) + 1) = ((lo + 1 : Nat) : Int) by omega, this]
    refine List.map_congr_left fun i _ => ?_
    simp only [Function.comp]
    congr 2
    omega
theorem ri_range {n : Nat} (h : Ru m (a env) (.int n)) (hn : n ≤ 16777216) : Ru m (iRange1 a env) ((List.range n).map fun (i : Nat) => Val.int i, gYes) := h.bd (by
  have hs := small_nat hn
  refine Ru.lift ?_
  dsimp only
  rw [if_pos hs, Int.toNat_natCast, show (0 : Int) = ((0 : Nat) : Int) from rfl, rangeV_eq]
  simp)
/-! comprehensions -/
theorem loop_all {ι : Type} {enc : ι → Val} {tg : Tg} {cond : BT} {elt : EF} {W : ι → Env} {p : ι → Bool} {f : ι → Val} : ∀ (xs : List ι) (acc : List Val), (∀ q ∈ xs, bindT tg (enc q) env = some (W q)) → (∀ q ∈ xs, Ru m (cond (W q)) (p q)) → (∀ q ∈ xs, p q = true → Ru m (elt (W q)) (f q)) → acc.length + xs.length < 16777216 →
    Ru m (loopC gYes tg cond elt env (xs.map enc) acc) (acc ++ (xs.filter p).map f)
  | [], acc, _, _, _, _ => Ru.of fun st => by simp [loopC, gYes]
  | q :: xs, acc, hb, hc, hf, hl => by
    have e1 := hb q (List.mem_cons_self ..)
    have e2 := hc q (List.mem_cons_self ..)
    have ih := fun acc => loop_all xs acc (fun q m => hb q (List.mem_cons_of_mem _ m)) (fun q m => hc q (List.mem_cons_of_mem _ m)) fun q m => hf q (List.mem_cons_of_mem _ m)
    rw [List.length_cons] at hl
    have key : Ru m (bd (noErr (cond (W q))) fun b => match b with
      | true => bd (noErr (elt (W q))) fun x => if acc.length < 16777216 then loopC gYes tg cond elt env (xs.map enc) (acc ++ [x]) else bad
      | false => loopC gYes tg cond elt env (xs.map enc) acc) (acc ++ ((q :: xs).filter p).map f) := by
      refine e2.noErr.bd ?_
      rw [List.filter_cons]
      cases hp : p q with
      | false => exact ih acc (by omega)
      | true =>
        refine (hf q (List.mem_cons_self ..) hp).noErr.bd ?_
        rw [if_pos (by omega)]
        have := ih (acc ++ [f q]) (by rw [List.length_append]; simp; omega)
        simpa using this
    intro n w
    obtain ⟨n', l, e⟩ := key n w
    refine ⟨n', l, ?_⟩
    rw [← e]
    simp only [List.map_cons, loopC, gYes, if_true, e1]
    try rfl
theorem ru_comp {ι : Type} {enc : ι → Val} {own : List Nat} {tg : Tg} {cond : BT} {elt : EF} {it : IF} {W : ι → Env} {p : ι → Bool} {f : ι → Val} {xs : List ι} (hi : Ru m (it env) (xs.map enc, gYes)) (hb : ∀ q ∈ xs, bindT tg (enc q) (wipeE env own) = some (W q))
    (hc : ∀ q ∈ xs, Ru m (cond (W q)) (p q)) (hf : ∀ q ∈ xs, p q = true → Ru m (elt (W q)) (f q)) (hl : xs.length < 16777216) : Ru m (eComp false own elt tg it cond env) (.lst ((xs.filter p).map f)) := hi.bd (fun n w => by
  have key := loop_all (env := wipeE env own) xs [] hb hc hf (by simpa using hl)
  obtain ⟨n', l, e⟩ := key (n + 1) (w.more (Nat.le_succ n))
  refine ⟨n', Nat.le_trans (Nat.le_succ _) l, ?_⟩
  unfold bd
  dsimp only
  rw [show (Store.reserve ⟨n, m⟩) = ⟨n + 1, m⟩ from rfl, e]
  rfl)
end

/-! ### statements -/
/-- goes on, with the frame e and the store's things m' -/
def Sm (s : SF) (env : Env) (m : Mem) (e : Env) (m' : Mem) : Prop := ∀ n, Wf n m → ∃ n', n ≤ n' ∧ Wf n' m' ∧ s env ⟨n, m⟩ = some (.fl .nx e, ⟨n', m'⟩)
/-- returns v -/
def Rm (s : SF) (env : Env) (m : Mem) (v : Val) (m' : Mem) : Prop := ∀ n, Wf n m → ∃ n' e, n ≤ n' ∧ Wf n' m' ∧ s env ⟨n, m⟩ = some (.fl (.rt v) e, ⟨n', m'⟩)
section
variable {m m1 m2 : Mem} {env e e1 e2 : Env} {a b : SF} {f g k : EF} {v w x y : Val} {i j : Nat} {r : Bool} {c : BT}
theorem sm_nil : Sm sNil env m env m := fun n w => ⟨n, Nat.le_refl _, w, rfl⟩
theorem rm_cons (h : Sm a env m e1 m1) (k : Rm b e1 m1 v m2) : Rm (sCons a b) env m v m2 := fun n w => by
  obtain ⟨n1, l1, w1, q1⟩ := h n w
  obtain ⟨n2, e, l2, w2, q2⟩ := k n1 w1
  exact ⟨n2, e, Nat.le_trans l1 l2, w2, by unfold sCons; rw [q1]; exact q2⟩
theorem rm_first (h : Rm a env m v m1) : Rm (sCons a b) env m v m1 := fun n w => by
  obtain ⟨n1, e, l1, w1, q1⟩ := h n w
  exact ⟨n1, e, l1, w1, by unfold sCons; rw [q1]⟩
theorem rm_ret (h : Ru m (f env) v) : Rm (sRet f) env m v m := fun n w => by
  obtain ⟨n1, l1, q1⟩ := h n w
  exact ⟨n1, env, l1, w.more l1, by unfold sRet bs; rw [q1]; rfl⟩
theorem sm_setT {t : Tg} (h : Ru m (f env) v) (k : bindT t v env = some e) : Sm (sSet t f) env m e m := fun n w => by
  obtain ⟨n1, l1, q1⟩ := h n w
  exact ⟨n1, l1, w.more l1, by unfold sSet bs; rw [q1]; dsimp only; rw [k]; rfl⟩
theorem sm_set (h : Ru m (f env) v) (hi : i < env.length) : Sm (sSet (.nm i) f) env m (env.set i (some v)) m := sm_setT h (by simp only [bindT, if_pos hi])
theorem sm_if (h : Ru m (c env) r) (k : Sm (if r = true then a else b) env m e m1) : Sm (sIf c a b) env m e m1 := fun n w => by
  obtain ⟨n1, l1, q1⟩ := h n w
  obtain ⟨n2, l2, w2, q2⟩ := k n1 (w.more l1)
  refine ⟨n2, Nat.le_trans l1 l2, w2, ?_⟩
  unfold sIf bs
  rw [q1]
  cases r <;> exact q2
theorem rm_if (h : Ru m (c env) r) (k : Rm (if r = true then a else b) env m v m1) : Rm (sIf c a b) env m v m1 := fun n w => by
  obtain ⟨n1, l1, q1⟩ := h n w
  obtain ⟨n2, e, l2, w2, q2⟩ := k n1 (w.more l1)
  refine ⟨n2, e, Nat.le_trans l1 l2, w2, ?_⟩
  unfold sIf bs
  rw [q1]
  cases r <;> exact q2
theorem sm_skip (h : Ru m (c env) false) : Sm (sIf c a sNil) env m env m := sm_if h sm_nil
/-! what may change -/
/-! defs -/
theorem ru_loc {N k : Nat} {vs : List Val} {m' : Mem} (hl : vs.length = k) (h : Rm a (startE N vs) [] v m') (gv : gnds vs = true) (gw : gnd v = true) : Ru m (locF (mkFn N k a) vs) v := Ru.of fun n => by
  obtain ⟨n1, e, l1, w1, q1⟩ := h 0 Wf.nil
  have q : mkFn N k a vs ⟨0, []⟩ = some (.ok v, ⟨n1, m'⟩) := by unfold mkFn; rw [if_pos hl, q1]
  unfold locF
  rw [if_pos gv, q]
  dsimp only
  rw [if_pos gw]
end
end Pv.Q
/-! Qb: texts and pairs of texts: compared, looked for, sorted. -/
namespace Pv.Q
open PySem

def sLt (a b : Str) : Bool := decide (a.cps.toList < b.cps.toList)
theorem sLt_irr (a : Str) : sLt a a = false := by unfold sLt; rw [decide_eq_false_iff_not]; exact List.lt_irrefl _
theorem sLt_trans {a b c : Str} (h : sLt a b = true) (k : sLt b c = true) : sLt a c = true := by
  unfold sLt at h k ⊢
  rw [decide_eq_true_eq] at h k ⊢
  exact List.lt_trans h k
theorem sLt_asymm {a b : Str} (h : sLt a b = true) : sLt b a = false := by
  cases e : sLt b a with
  | false => rfl
  | true => have := sLt_trans h e; rw [sLt_irr] at this; cases this
theorem sLt_ne {a b : Str} (h : sLt a b = true) : a ≠ b := fun e => by rw [e, sLt_irr] at h; cases h
abbrev Pr := Str × Str
def encP (p : Pr) : Val := .tup [.str p.1, .str p.2]
def encN (xs : List Str) : Val := .lst (xs.map .str)
def encPs (ps : List Pr) : Val := .lst (ps.map encP)
def pLt (p q : Pr) : Bool := sLt p.1 q.1 || (decide (p.1 = q.1) && sLt p.2 q.2)

/-! ### sorting -/
def leV (v w : Val) : Bool := PySem.W.dataLe false encV v w
theorem leV_trans {a b c : Val} (h : leV a b = true) (k : leV b c = true) : leV a c = true := (PySem.W.sortLe_total (PyProof.Rows.listOrd PyProof.Rows.itemOrd) false fun b => PySem.W.keyToks (encV b)).trans a b c h k
theorem leV_total (a b : Val) : (leV a b || leV b a) = true := by
  have h := (PySem.W.sortLe_total (PyProof.Rows.listOrd PyProof.Rows.itemOrd) false fun b => PySem.W.keyToks (encV b)).total a b
  rw [Bool.or_eq_true]
  exact h
theorem sortV_pw (xs : List Val) : (sortV xs).Pairwise (fun a b => leV a b = true) := List.pairwise_mergeSort (le := leV) (fun a b c => leV_trans) leV_total xs
theorem eqv_str (a b : Str) : PyData.eqv (.str a) (.str b) = decide (a = b) := by
  by_cases z : a = b
  · subst z; simp [PyData.eqv]
  · simp [PyData.eqv, z]
theorem pLt_asymm {p q : Pr} (h : pLt p q = true) : pLt q p = false := by
  unfold pLt at h ⊢
  rw [Bool.or_eq_true, Bool.and_eq_true, decide_eq_true_eq] at h
  rcases h with h | ⟨h, k⟩
  · rw [sLt_asymm h]
    simp [(sLt_ne h).symm]
  · rw [h, sLt_irr, sLt_asymm k]
    simp
/-! ### data of values -/
def sOk (s : Str) : Prop := PyData.strOk s = true
theorem shaped_str {x : Str} (h : sOk x) : SeqAt.shaped (.str x) = true := by
  unfold SeqAt.shaped
  rw [Bool.and_eq_true, decide_eq_true_eq]
  exact ⟨by simp only [PyData.canLay0]; exact h, by simp [PyData.depth]⟩
/-! ### comparisons -/
section
variable {st : Store} {a b : Str} {p q : Pr} {xs ys : List Str} {ps qs : List Pr} {i j : Int}
theorem c_ieq : cmpop .Eq (.int i) (.int j) st = some (i == j) := by
  show (if (SeqAt.shaped (.int i) && SeqAt.shaped (.int j)) = true then some (PyData.eqv (.int i) (.int j)) else none) = _
  rw [show (SeqAt.shaped (.int i) && SeqAt.shaped (.int j)) = true from rfl, if_pos rfl]
  simp [PyData.eqv]
theorem c_seq (ha : sOk a) (hb : sOk b) : cmpop .Eq (.str a) (.str b) st = some (decide (a = b)) := by
  show (if (SeqAt.shaped (.str a) && SeqAt.shaped (.str b)) = true then some (PyData.eqv (.str a) (.str b)) else none) = _
  rw [shaped_str ha, shaped_str hb, eqv_str]; rfl
/-! keys of dicts -/
theorem dk_strs : ∀ xs : List Str, toDKs false (xs.map .str) = some (xs.map fun x => Sum.inl (Sum.inr x))
  | [] => rfl
  | x :: xs => by simp [toDKs, toDK, toKey, dk_strs xs]
end
/-! ### sorted(..) -/
section
variable {m : Mem} {xs : List Str} {ps : List Pr}
end
end Pv.Q
/-! Qw: slices, lists of pairs, words, crowds, worlds; nothing of any def. -/
namespace Pv.Q
open PySem
section
variable {m : Mem} {env : Env} {a b c : EF} {x y v w : Val} {vs ws : List Val} {k n : Nat}
theorem ro_none : Ru m (oNone env) none := Ru.ret
theorem ro_some {i : Int} (h : Ru m (a env) (.int i)) : Ru m (oSome a env) (some i) := h.bd (Ru.lift rfl)
theorem ru_slc {lo hi : Env → M (Option Int)} {l h : Option Int} (h1 : Ru m (a env) (.lst vs)) (h2 : Ru m (lo env) l) (h3 : Ru m (hi env) h) (hl : (cut vs l h).length ≤ 16777216) : Ru m (eSlc false a lo hi env) (.lst (cut vs l h)) := h1.bd (h2.bd (h3.bd (Ru.of fun n => by
  show newL false (cut vs l h) _ = _
  unfold newL
  rw [if_pos hl])))
theorem cut_to {α : Type} (xs : List α) (k : Nat) : cut xs none (some (k : Int)) = xs.take k := by
  unfold cut
  rw [HT.sIx_none, HT.sIx_nat, List.drop_zero, Nat.sub_zero]
  rcases Nat.le_total k xs.length with h | h
  · rw [Nat.min_eq_left h]
  · rw [Nat.min_eq_right h, List.take_of_length_le (Nat.le_refl _), List.take_of_length_le h]
theorem ru_to (h1 : Ru m (a env) (.lst vs)) (h2 : Ru m (b env) (.int (k : Nat))) (hl : vs.length ≤ 16777216) : Ru m (eSlc false a oNone (oSome b) env) (.lst (vs.take k)) := by
  have := ru_slc (l := none) (h := some (k : Int)) h1 ro_none (ro_some h2) (by rw [cut_to, List.length_take]; omega)
  rwa [cut_to] at this
theorem ru_tup2 (h : Ru m (a env) v) (h2 : Ru m (b env) w) : Ru m (eTup (aCons a (aCons b aNil)) env) (.tup [v, w]) := ru_tup (ru_cons h (ru_cons h2 ru_nil)) (by simp)
theorem ru_lst1 (h : Ru m (a env) v) : Ru m (eLst false (aCons a aNil) env) (.lst [v]) := ru_lst (ru_cons h ru_nil) (by simp)
theorem ru_lst2 (h : Ru m (a env) v) (h2 : Ru m (b env) w) : Ru m (eLst false (aCons a (aCons b aNil)) env) (.lst [v, w]) := ru_lst (ru_cons h (ru_cons h2 ru_nil)) (by simp)
theorem ru_intI {i : Int} (h : Ru m (a env) (.int i)) : Ru m (eCall fInt (aCons a aNil) env) (.int i) := ru_call1 h (Ru.of fun n => rfl)
end
/-! ### all pairs of a list -/
def pairsL : List Str → List Pr
  | [] => []
  | x :: xs => xs.map (fun y => (x, y)) ++ pairsL xs
theorem gnds_of {vs : List Val} (h : ∀ v ∈ vs, gnd v = true) : gnds vs = true := by
  induction vs with
  | nil => rfl
  | cons v vs ih => simp [gnds, h v (List.mem_cons_self ..), ih fun w hw => h w (List.mem_cons_of_mem _ hw)]
/-! ### words, crowds, worlds -/
def isWord (s : Str) : Prop := 0 < s.length ∧ s.length < 9 ∧ ∀ c ∈ s.cps.toList, 97 ≤ c ∧ c ≤ 122
theorem isWord.ok {s : Str} (h : isWord s) : sOk s := by
  unfold sOk PyData.strOk
  rw [Array.all_eq_true']
  intro c hc
  have := h.2.2 c (by simpa using hc)
  simp only [decide_eq_true_eq]
  omega
structure Crowd (c : List Str) : Prop where
  word : ∀ s ∈ c, isWord s
  asc : c.Pairwise (fun a b => sLt a b = true)
  few : c.length ≤ 9
  some : c ≠ []
theorem Crowd.ok {c : List Str} (h : Crowd c) : ∀ s ∈ c, sOk s := fun s hs => (h.word s hs).ok
theorem Crowd.nd {c : List Str} (h : Crowd c) : c.Nodup := h.asc.imp fun q => sLt_ne q
theorem pairsL_mem : ∀ {c : List Str} {p : Pr}, p ∈ pairsL c → p.1 ∈ c ∧ p.2 ∈ c
  | [], p, h => by simp [pairsL] at h
  | x :: c, p, h => by
    rw [pairsL, List.mem_append] at h
    rcases h with h | h
    · obtain ⟨y, hy, rfl⟩ := List.mem_map.mp h
      exact ⟨List.mem_cons_self .., List.mem_cons_of_mem _ hy⟩
    · have := pairsL_mem h
      exact ⟨List.mem_cons_of_mem _ this.1, List.mem_cons_of_mem _ this.2⟩
theorem pairsL_iff : ∀ {c : List Str}, c.Pairwise (fun a b => sLt a b = true) → ∀ {p : Pr}, p ∈ pairsL c ↔ p.1 ∈ c ∧ p.2 ∈ c ∧ sLt p.1 p.2 = true
  | [], _, p => by simp [pairsL]
  | x :: c, h, p => by
    rw [List.pairwise_cons] at h
    rw [pairsL, List.mem_append, pairsL_iff h.2, List.mem_map]
    constructor
    · rintro (⟨y, hy, rfl⟩ | ⟨h1, h2, h3⟩)
      · exact ⟨List.mem_cons_self .., List.mem_cons_of_mem _ hy, h.1 y hy⟩
      · exact ⟨List.mem_cons_of_mem _ h1, List.mem_cons_of_mem _ h2, h3⟩
    · rintro ⟨h1, h2, h3⟩
      rcases List.mem_cons.mp h1 with e | h1
      · rcases List.mem_cons.mp h2 with e2 | h2
        · rw [e, e2, sLt_irr] at h3; cases h3
        · exact .inl ⟨p.2, h2, by rw [← e]⟩
      · rcases List.mem_cons.mp h2 with e2 | h2
        · have := h.1 p.1 h1
          rw [e2] at h3
          rw [sLt_asymm h3] at this
          cases this
        · exact .inr ⟨h1, h2, h3⟩
theorem pairsL_asc : ∀ {c : List Str}, c.Pairwise (fun a b => sLt a b = true) → (pairsL c).Pairwise (fun p q => pLt p q = true)
  | [], _ => by simp [pairsL]
  | x :: c, h => by
    rw [List.pairwise_cons] at h
    rw [pairsL, List.pairwise_append]
    refine ⟨?_, pairsL_asc h.2, ?_⟩
    · rw [List.pairwise_map]
      exact h.2.imp fun q => by unfold pLt; rw [q]; simp
    · intro p hp q hq
      obtain ⟨y, hy, rfl⟩ := List.mem_map.mp hp
      have := h.1 q.1 (pairsL_mem hq).1
      unfold pLt
      rw [this]; rfl
theorem pairsL_len : ∀ c : List Str, (pairsL c).length * 2 = c.length * (c.length - 1)
  | [] => rfl
  | x :: c => by
    have := pairsL_len c
    simp only [pairsL, List.length_append, List.length_map, List.length_cons, Nat.add_sub_cancel, Nat.add_mul]
    rw [this]
    cases c with
    | nil => rfl
    | cons y c => simp only [List.length_cons, Nat.add_sub_cancel, Nat.add_mul, Nat.mul_add]; omega
structure Wd where
  c : List Str
  p : List Pr
structure World (w : Wd) : Prop where
  crowd : Crowd w.c
  sub : w.p.Sublist (pairsL w.c)
theorem World.asc {w : Wd} (h : World w) : w.p.Pairwise (fun p q => pLt p q = true) := (pairsL_asc h.crowd.asc).sublist h.sub
theorem World.nd {w : Wd} (h : World w) : w.p.Nodup := h.asc.imp fun {p q} r e => by rw [e] at r; have := pLt_asymm r; rw [r] at this; cases this
theorem World.mem {w : Wd} (h : World w) {p : Pr} (hp : p ∈ w.p) : p.1 ∈ w.c ∧ p.2 ∈ w.c ∧ sLt p.1 p.2 = true := (pairsL_iff h.crowd.asc).mp (h.sub.subset hp)
theorem Crowd.pairs {c : List Str} (h : Crowd c) : (pairsL c).length ≤ 36 := by
  have h1 := pairsL_len c
  have h2 := h.few
  have : c.length * (c.length - 1) ≤ 9 * 8 := Nat.mul_le_mul h2 (by omega)
  omega
theorem World.few {w : Wd} (h : World w) : w.p.length ≤ 36 := Nat.le_trans h.sub.length_le h.crowd.pairs
end Pv.Q
namespace Pv.Q
open PySem
section
variable {m : Mem} {env : Env} {a b c : EF} {x y v : Val} {vs ws xs kk vv : List Val} {t : Bool}
end
section
variable {m : Mem} {env : Env} {a b : EF} {w : Wd}
end
def netV (ps : List Pr) : Val := .dct true (ps.map encP) (ps.map fun _ => .bl true)
end Pv.Q
namespace Pv.Q
open PySem
/-! ### calls that leave the store alone -/
theorem locF_run {f : BF} {vs : List Val} {v : Val} (h : run (locF f) vs = some v) (st : Store) : locF f vs st = some (.ok v, st) := by
  unfold run at h
  unfold locF at h ⊢
  by_cases g : gnds vs = true
  · rw [if_pos g] at h ⊢
    cases q : f vs ⟨0, []⟩ with
    | none => rw [q] at h; cases h
    | some p =>
      obtain ⟨o, s⟩ := p
      rw [q] at h
      cases o with
      | err c w => cases h
      | ok w =>
        dsimp only at h ⊢
        by_cases gw : gnd w = true
        · rw [if_pos gw] at h ⊢; cases h; rfl
        · rw [if_neg gw] at h; cases h
  · rw [if_neg g] at h; cases h

theorem get_alloc {st : Store} {o : Obj} {n : Nat} : (st.alloc o).get n = if n = st.nx then some o else st.get n := by
  show List.lookup n ((st.nx, o) :: st.m) = _
  by_cases h : n = st.nx
  · subst h; simp [List.lookup]
  · have hb : (n == st.nx) = false := by simpa using h
    simp [List.lookup, hb, h, Store.get]
theorem get_put {st : Store} {n m : Nat} {o : Obj} (h : st.get n ≠ none) : (st.put n o).get m = if m = n then some o else st.get m := by
  have key : ∀ l : List (Nat × Obj), (l.map fun p => if p.1 == n then (n, o) else p).lookup m = if m = n then (l.lookup n).map (fun _ => o) else l.lookup m := by
    intro l
    induction l with
    | nil => by_cases h : m = n <;> simp [h]
    | cons p r ih =>
      obtain ⟨k, ob⟩ := p
      by_cases hk : k = n
      · subst hk
        by_cases hm : m = k
        · subst hm; simp [List.lookup]
        · have hb : (m == k) = false := by simpa using hm
          simp only [List.map_cons, beq_self_eq_true, if_true, List.lookup, hb, ih, hm, if_false]
      · have hk' : (k == n) = false := by simpa using hk
        have hk2 : (n == k) = false := by simpa using fun e : n = k => hk e.symm
        simp only [List.map_cons, hk', Bool.false_eq_true, if_false, List.lookup, ih, hk2]
        by_cases hm : m = n
        · subst hm; simp [hk2]
        · by_cases hmk : m = k
          · subst hmk; simp [hm]
          · have hb : (m == k) = false := by simpa using hmk
            simp [hb, hm]
  show List.lookup m (st.m.map _) = _
  rw [key]
  by_cases hm : m = n
  · simp only [hm, if_true]
    cases e : List.lookup n st.m with
    | none => exact absurd e h
    | some q => rfl
  · simp only [hm, if_false]; rfl

/-- the purse at n: k draws may have been made -/
def PI (st : Store) (n k : Nat) : Prop := ∃ a b c d : Int, st.get n = some (.lst [.int a, .int b, .int c, .int d]) ∧ 0 ≤ a ∧ 0 ≤ c ∧ c ≤ k ∧ n < st.nx

theorem mulOk_l {i j : Int} (h : -(2 ^ 64) < i ∧ i < 2 ^ 64) : mulOk i j = true := by
  unfold mulOk; simp only [Bool.or_eq_true, Bool.and_eq_true, decide_eq_true_eq]; exact .inl h
theorem mulOk_r {i j : Int} (h : -(2 ^ 64) < j ∧ j < 2 ^ 64) : mulOk i j = true := by
  unfold mulOk; simp only [Bool.or_eq_true, Bool.and_eq_true, decide_eq_true_eq]; exact .inr h

def mix1 (s t a : Int) : Int := (s * 69069 + 104729 * t * t + 7919 * a + t) % 2147483647
def mixN (s t a : Int) : Int := ((mix1 s t a * mix1 s t a + 40503) % 2147483629 * 48271) % 2147483587
theorem mixed_ok (s t a : Int) (ht : 0 ≤ t ∧ t < 1000000) (st : Store) : f__law_mixed [.int s, .int t, .int a] st = some (.ok (.int (mixN s t a)), st) := by
  have h1 : mulOk s 69069 = true := mulOk_r (by omega)
  have h2 : mulOk 104729 t = true := mulOk_l (by omega)
  have h3 : mulOk (104729 * t) t = true := mulOk_r (by omega)
  have h4 : mulOk 7919 a = true := mulOk_l (by omega)
  have h5 : mulOk ((s * 69069 + 104729 * t * t + 7919 * a + t) % 2147483647) ((s * 69069 + 104729 * t * t + 7919 * a + t) % 2147483647) = true := mulOk_r (by omega)
  have h6 : ∀ x : Int, mulOk x 48271 = true := fun x => mulOk_r (by omega)
  unfold f__law_mixed
  refine locF_run ?_ st
  simp [run, locF, gnds, gnd, mkFn, startE, sCons, sSet, bs, bd, eBin, eVar, eLit, lift, ret, binop, h1, h2, h3, h4, h5, h6, storeAt, bindT, done, eCall, aCons, aNil, fInt, sRet, mixN, mix1]

theorem bits_small {m : Int} (h : 0 < m ∧ m < 100000000) : Builtin.Int.intBits m < 28 := by
  unfold Builtin.Int.intBits
  have h0 : (m == 0) = false := by simpa using (show m ≠ 0 by omega)
  rw [h0]
  have : m.natAbs.log2 < 27 := (Nat.log2_lt (by omega)).mpr (by omega)
  simp only [Bool.false_eq_true, if_false]
  omega
theorem sCons_nx {a b : SF} {env e : Env} {st s : Store} (h : a env st = some (.fl .nx e, s)) : sCons a b env st = b e s := by unfold sCons; rw [h]
theorem sCons_rt {a b : SF} {env e : Env} {st s : Store} {v : Val} (h : a env st = some (.fl (.rt v) e, s)) : sCons a b env st = some (.fl (.rt v) e, s) := by unfold sCons; rw [h]
theorem sIf_f {c : BT} {a b : SF} {env : Env} {st s : Store} (h : c env st = some (.ok false, s)) : sIf c a b env st = b env s := by unfold sIf bs; rw [h]
theorem sFor_ok {t : Tg} {it : IF} {b : SF} {env : Env} {st s : Store} {xs : List Val} {g : Gd} (h : it env st = some (.ok (xs, g), s)) : sFor t it b env st = loopF g t b xs env s := by unfold sFor bs; rw [h]
theorem sSet_ok {i : Nat} {e : EF} {env : Env} {st s : Store} {v : Val} (h : e env st = some (.ok v, s)) (hi : i < env.length) : sSet (.nm i) e env st = some (.fl .nx (env.set i (some v)), s) := by
  unfold sSet bs; rw [h]; unfold storeAt; simp only [bindT, if_pos hi]; rfl
theorem sRet_ok {e : EF} {env : Env} {st s : Store} {v : Val} (h : e env st = some (.ok v, s)) : sRet e env st = some (.fl (.rt v) env, s) := by unfold sRet bs; rw [h]; rfl
theorem mkFn_rt {N k : Nat} {body : SF} {vs : List Val} {st s : Store} {e : Env} {v : Val} (hl : vs.length = k) (h : body (startE N vs) st = some (.fl (.rt v) e, s)) : mkFn N k body vs st = some (.ok v, s) := by unfold mkFn; rw [if_pos hl, h]
theorem one_loop {t : Nat} {b : SF} {v : Val} {env e : Env} {st s : Store} (ht : t < env.length) (h : b (env.set t (some v)) st = some (.fl .nx e, s)) : loopF gYes (.nm t) b [v] env st = some (.fl .nx e, s) := by
  simp only [loopF, gYes, if_true, bindT, if_pos ht, h]
theorem bump (st : Store) (n : Nat) (a b c d : Int) (env : Env) (he : env[0]? = some (some (.ref n))) (hg : st.get n = some (.lst [.int a, .int b, .int c, .int d])) :
  sSub (eVar 0) (eLit (.int 2)) (eBin .Add (eSub (eVar 0) (eLit (.int 2))) (eLit (.int 1))) env st = some (.fl .nx env, st.put n (.lst [.int a, .int b, .int (c + 1), .int d])) := by
  simp [sSub, bs, bd, eSub, getItem, asD, asQ, asL, he, hg, L2.atI, L2.ixN, eBin, eVar, eLit, lift, ret, binop, done, setItem]
theorem spent (st : Store) (n : Nat) (a b c d : Int) (env : Env) (h : ¬ 0 < a) (he : env[0]? = some (some (.ref n))) (hg : st.get n = some (.lst [.int a, .int b, .int c, .int d])) :
  (bCmp .Gt (eSub (eVar 0) (eLit (.int 0))) (eLit (.int 0))) env st = some (.ok false, st) := by
  simp [bd, rd, bCmp, cmpop, eSub, getItem, asD, asQ, asL, he, hg, L2.atI, L2.ixN, eVar, eLit, lift, ret, done, h]
theorem once (st : Store) (env : Env) (m : Int) (hb : (1 : Int) + (Builtin.Int.intBits m : Nat) / 28 = 1) (h62 : small62 1 = true) (he : env[1]? = some (some (.int m))) : iRange1 (eBin .Add (eLit (.int 1)) (eBin .FloorDiv (eBits (eVar 1)) (eLit (.int 28)))) env st = some (.ok ([.int 0], gYes), st) := by
  simp [iRange1, eBin, bd, eLit, ret, eBits, eVar, he, lift, mBits, binop, hb, h62, rangeV]
theorem stir (n : Nat) (a b c d m : Int) (s : Store) (x : Int) (h1 : mulOk 0 2147483587 = true) (hx : f__law_mixed [.int b, .int c, .int d] s = some (.ok (.int x), s)) (hg : s.get n = some (.lst [.int a, .int b, .int c, .int d])) :
  (eBin .Add (eBin .Mult (eVar 3) (eLit (.int 2147483587))) (eCall f__law_mixed (aCons (eSub (eVar 0) (eLit (.int 1))) (aCons (eSub (eVar 0) (eLit (.int 2))) (aCons (eSub (eVar 0) (eLit (.int 3))) aNil))))) [some (.ref n), some (.int m), none, some (.int 0), some (.int 0)] s = some (.ok (.int x), s) := by
  simp [bd, eSub, getItem, asD, asQ, asL, hg, L2.atI, L2.ixN, eBin, eVar, eLit, lift, ret, binop, eCall, aCons, aNil, h1, hx]
theorem draw_mix {st : Store} {n : Nat} {m a b c d : Int} (hm : 0 < m ∧ m < 100000000) (hc0 : 0 ≤ c) (hc1 : c < 900000) (h : ¬ 0 < a) (hg : st.get n = some (.lst [.int a, .int b, .int c, .int d])) :
   f__law_draw [.ref n, .int m] st = some (.ok (.int (mixN b (c + 1) d % m)), st.put n (.lst [.int a, .int b, .int (c + 1), .int d])) := by
  have hb : (1 : Int) + (Builtin.Int.intBits m : Nat) / 28 = 1 := by
    have := bits_small hm
    omega
  have h62 : small62 1 = true := by unfold small62; rw [Bool.and_eq_true, decide_eq_true_eq, decide_eq_true_eq]; omega
  have h1 : mulOk 0 2147483587 = true := mulOk_l (by omega)
  have hne : st.get n ≠ none := by rw [hg]; simp
  have hg2 : (st.put n (.lst [.int a, .int b, .int (c + 1), .int d])).get n = some (.lst [.int a, .int b, .int (c + 1), .int d]) := by rw [get_put hne, if_pos rfl]
  have hx := mixed_ok b (c + 1) d (by omega) (st.put n (.lst [.int a, .int b, .int (c + 1), .int d]))
  refine mkFn_rt (e := [some (.ref n), some (.int m), none, some (.int (mixN b (c + 1) d)), some (.int 0)]) rfl ?_
  have e0 : startE 5 [.ref n, .int m] = [some (.ref n), some (.int m), none, none, none] := rfl
  rw [e0]
  refine (sCons_nx (sIf_f (spent st n a b c d _ h rfl hg))).trans ?_
  refine (sCons_nx (sSet_ok (v := .int 0) rfl (by simp))).trans ?_
  refine (sCons_nx ((sFor_ok (once st _ m hb h62 rfl)).trans (one_loop (by simp) ((sCons_nx (bump st n a b c d _ rfl hg)).trans ((sCons_nx (sSet_ok (stir n a b (c + 1) d m _ _ h1 hx hg2) (by simp))).trans rfl))))).trans ?_
  refine sCons_rt (sRet_ok ?_)
  have hm1 := hm.1
  simp [eBin, bd, eCall, aCons, aNil, eVar, lift, ret, fInt, binop, hm1]
end Pv.Q
/-! Qc: what the law's own defs about pairs and worlds compute. -/
namespace Pv.Q
open PySem

end Pv.Q
/-! Qi: evaluations that draw from the purse p. -/
namespace Pv.Q
open PySem

/-- nothing but the purse is changed -/
structure Fr (p : Nat) (st s : Store) : Prop where
  nx : st.nx ≤ s.nx
  old : ∀ j, j < st.nx → j ≠ p → s.get j = st.get j
theorem Fr.refl (p : Nat) (st : Store) : Fr p st st := ⟨Nat.le_refl _, fun _ _ _ => rfl⟩
theorem Fr.trans {p : Nat} {a b c : Store} (h : Fr p a b) (k : Fr p b c) : Fr p a c := ⟨Nat.le_trans h.nx k.nx, fun j hj hp => (k.old j (Nat.lt_of_lt_of_le hj h.nx) hp).trans (h.old j hj hp)⟩
/-- the purse p, at most k draws made; all numbers taken -/
def PW (st : Store) (p k : Nat) : Prop := PI st p k ∧ Wf st.nx st.m
theorem PW.lt {st : Store} {p k : Nat} (h : PW st p k) : p < st.nx := by obtain ⟨⟨a, b, c, d, h1, h2, h3, h4, h5⟩, _⟩ := h; exact h5
theorem PW.le {st : Store} {p k k' : Nat} (h : PW st p k) (hk : k ≤ k') : PW st p k' := by
  obtain ⟨⟨a, b, c, d, h1, h2, h3, h4, h5⟩, w⟩ := h
  exact ⟨⟨a, b, c, d, h1, h2, h3, by omega, h5⟩, w⟩
theorem PW.of {st s : Store} {p k : Nat} (h : PW st p k) (f : st.nx ≤ s.nx) (w : Wf s.nx s.m) (e : s.get p = st.get p) : PW s p k := by
  obtain ⟨⟨a, b, c, d, h1, h2, h3, h4, h5⟩, _⟩ := h
  exact ⟨⟨a, b, c, d, e.trans h1, h2, h3, h4, by omega⟩, w⟩
def big : Nat := 800000
/-- at most K draws from p, and a value like that -/
def Im {α : Type} (p K : Nat) (x : M α) (P : α → Prop) : Prop := ∀ st k, PW st p k → k + K < big → ∃ a s, x st = some (.ok a, s) ∧ P a ∧ PW s p (k + K) ∧ Fr p st s
section
variable {α β : Type} {p K K2 : Nat} {x : M α} {f : α → M β} {a : α} {P P2 : α → Prop} {Q : β → Prop}
theorem Im.ru (h : ∀ m, Ru m x a) (hp : P a) : Im p 0 x P := fun st k w _ => by
  obtain ⟨n, l, e⟩ := h st.m st.nx w.2
  exact ⟨a, ⟨n, st.m⟩, e, hp, w.of l (w.2.more l) rfl, l, fun _ _ _ => rfl⟩
theorem Im.bd (h : Im p K x P) (k : ∀ a, P a → Im p K2 (f a) Q) : Im p (K + K2) (Pv.bd x f) Q := fun st n w hb => by
  obtain ⟨a, s, e, pa, w1, f1⟩ := h st n w (by omega)
  obtain ⟨b, s2, e2, qb, w2, f2⟩ := k a pa s (n + K) w1 (by omega)
  exact ⟨b, s2, by unfold Pv.bd; rw [e]; exact e2, qb, by rw [← Nat.add_assoc]; exact w2, f1.trans f2⟩
theorem Im.more (h : Im p K x P) (hk : K ≤ K2) : Im p K2 x P := fun st n w hb => by
  obtain ⟨a, s, e, pa, w1, f1⟩ := h st n w (by omega)
  exact ⟨a, s, e, pa, w1.le (by omega), f1⟩
theorem Im.imp (h : Im p K x P) (k : ∀ a, P a → P2 a) : Im p K x P2 := fun st n w hb => by
  obtain ⟨a, s, e, pa, w1, f1⟩ := h st n w hb
  exact ⟨a, s, e, k a pa, w1, f1⟩
theorem Im.noErr (h : Im p K x P) : Im p K (Pv.noErr x) P := fun st n w hb => by
  obtain ⟨a, s, e, pa, w1, f1⟩ := h st n w hb
  exact ⟨a, s, by unfold Pv.noErr; rw [e], pa, w1, f1⟩
theorem Im.of (h : ∀ st, PW st p 0 ∨ True → x st = some (.ok a, st)) (hp : P a) : Im p 0 x P := fun st k w _ => ⟨a, st, h st (.inr trivial), hp, w, Fr.refl p st⟩
end
theorem put_wf {st : Store} {n r : Nat} {o : Obj} (h : Wf n st.m) : Wf n (st.put r o).m := fun q hq => by
  obtain ⟨z, hz, rfl⟩ := List.mem_map.mp hq
  by_cases c : (z.1 == r) = true
  · rw [if_pos c]
    have := beq_iff_eq.mp c
    exact this ▸ h z hz
  · rw [if_neg c]; exact h z hz
/-- a draw -/
theorem im_draw {p : Nat} {m : Nat} (hm : 0 < m ∧ m < 100000000) : Im p 1 (f__law_draw [.ref p, .int m]) (fun v => ∃ i : Nat, v = .int i ∧ i < m) := fun st k w hb => by
  have hp := w.1
  obtain ⟨a, b, c, d, hg, ha, hc0, hc, hn⟩ := w.1
  have hne : st.get p ≠ none := by rw [hg]; simp
  have fr : ∀ o, Fr p st (st.put p o) := fun o => ⟨Nat.le_refl _, fun j _ hj => by rw [get_put hne, if_neg hj]⟩
  have hmz : (0 : Int) < (m : Int) := by omega
  by_cases h : 0 < a
  · have hm2 : (m : Int) < 1073741824 := by omega
    refine ⟨.int (a % m), st.put p (.lst [.int (a / m), .int b, .int c, .int d]), ?_, ⟨(a % m).toNat, ?_, ?_⟩, ⟨⟨a / m, b, c, d, ?_, Int.ediv_nonneg ha (by omega), hc0, by omega, hn⟩, put_wf w.2⟩, fr _⟩
    · simp [f__law_draw, mkFn, startE, sCons, sIf, bs, bd, bCmp, rd, cmpop, eSub, getItem, asD, asQ, asL, hg, h, L2.atI, L2.ixN, sSet, eBin, eVar, eLit, lift, ret, binop, storeAt, bindT, done, eCall, aCons, aNil, fInt, sRet, sSub, setItem, hmz, hm2, hm.1]
    · rw [Int.toNat_of_nonneg (Int.emod_nonneg _ (by omega))]
    · have := Int.emod_lt_of_pos a hmz
      have h0 := Int.emod_nonneg a (b := (m : Int)) (by omega)
      omega
    · rw [get_put hne, if_pos rfl]
  · refine ⟨.int (mixN b (c + 1) d % m), st.put p (.lst [.int a, .int b, .int (c + 1), .int d]), draw_mix (by omega) hc0 (by unfold big at hb; omega) h hg, ⟨(mixN b (c + 1) d % m).toNat, ?_, ?_⟩, ⟨⟨a, b, c + 1, d, ?_, ha, by omega, by omega, hn⟩, put_wf w.2⟩, fr _⟩
    · rw [Int.toNat_of_nonneg (Int.emod_nonneg _ (by omega))]
    · have := Int.emod_lt_of_pos (mixN b (c + 1) d) hmz
      have h0 := Int.emod_nonneg (mixN b (c + 1) d) (b := (m : Int)) (by omega)
      omega
    · rw [get_put hne, if_pos rfl]
section
variable {p K K2 K3 : Nat} {env : Env} {a b c : EF} {g : LF} {v w : Val} {P Q R : Val → Prop} {f : BF}
theorem im_cons {PL : List Val → Prop} (h : Im p K (a env) P) (h2 : Im p K2 (g env) PL) : Im p (K + K2) (aCons a g env) (fun vs => ∃ v ws, vs = v :: ws ∧ P v ∧ PL ws) :=
  h.bd fun v pv => (h2.bd (K2 := 0) fun ws pw => Im.of (fun _ _ => rfl) ⟨v, ws, rfl, pv, pw⟩)
theorem im_nil : Im p 0 (aNil env) (fun vs => vs = []) := Im.of (fun _ _ => rfl) rfl
theorem im_call2 (h : Im p K (a env) P) (h2 : Im p K2 (b env) Q) (k : ∀ v w, P v → Q w → Im p K3 (f [v, w]) R) : Im p (K + K2 + K3) (eCall f (aCons a (aCons b aNil)) env) R := by
  refine (im_cons h (im_cons h2 im_nil)).bd fun vs hv => ?_
  obtain ⟨v, ws, rfl, pv, w, us, rfl, pw, rfl⟩ := hv
  exact k v w pv pw
theorem im_var {i : Nat} (h : env[i]? = some (some v)) : Im p 0 (eVar i env) (fun x => x = v) := Im.ru (fun m => ru_var h) rfl
theorem im_lit : Im p 0 (eLit v env) (fun x => x = v) := Im.ru (fun m => ru_lit) rfl
/-- _law_draw(purse, m) -/
theorem im_drawE {i m : Nat} (h : env[i]? = some (some (.ref p))) (hb : ∀ k, Ru k (b env) (.int m)) (hm : 0 < m ∧ m < 100000000) : Im p 1 (eCall f__law_draw (aCons (eVar i) (aCons b aNil)) env) (fun v => ∃ j : Nat, v = .int j ∧ j < m) :=
  im_call2 (K := 0) (K2 := 0) (K3 := 1) (im_var h) (Im.ru (P := fun x => x = .int m) hb rfl) fun v w e1 e2 => by subst e1; subst e2; exact im_draw hm
theorem im_drawL {i m : Nat} (h : env[i]? = some (some (.ref p))) (hm : 0 < m ∧ m < 100000000) : Im p 1 (eCall f__law_draw (aCons (eVar i) (aCons (eLit (.int m)) aNil)) env) (fun v => ∃ j : Nat, v = .int j ∧ j < m) := im_drawE h (fun k => ru_lit) hm
theorem im_bin {op : Operator} (h : Im p K (a env) P) (h2 : Im p K2 (b env) Q) (k : ∀ v w, P v → Q w → ∃ u, R u ∧ ∀ m, Ru m (binop op v w) u) : Im p (K + K2) (eBin op a b env) R := by
  have : Im p (K + (K2 + 0)) (eBin op a b env) R := h.bd fun v pv => h2.bd fun w qw => by
    obtain ⟨u, ru, e⟩ := k v w pv qw
    exact Im.ru e ru
  simpa using this
theorem im_cmp {op : CmpOp} {PB : Bool → Prop} (h : Im p K (a env) P) (h2 : Im p K2 (b env) Q) (k : ∀ v w, P v → Q w → ∃ r, PB r ∧ ∀ st, cmpop op v w st = some r) : Im p (K + K2) (bCmp op a b env) PB := by
  have : Im p (K + (K2 + 0)) (bCmp op a b env) PB := h.bd fun v pv => h2.bd fun w qw => by
    obtain ⟨r, pr, e⟩ := k v w pv qw
    exact Im.of (fun st _ => by simp only [rd, e st]) pr
  simpa using this
theorem im_if {c : BT} {PB : Bool → Prop} (h : Im p K (c env) PB) (k1 : Im p K2 (a env) P) (k2 : Im p K2 (b env) P) : Im p (K + K2) (eIf c a b env) P := h.bd fun r _ => by
  cases r
  · exact k2
  · exact k1
end
section
variable {p K : Nat} {env : Env} {own : List Nat} {tg : Tg} {cond : BT} {elt : EF} {it : IF} {ι : Type} {enc : ι → Val} {W : ι → Env} {f : ι → Val} {xs : List ι}
end
/-! ### statements that draw -/
def In (p K : Nat) (s : SF) (env : Env) (P : Env → Prop) : Prop := ∀ st k, PW st p k → k + K < big → ∃ e s', s env st = some (.fl .nx e, s') ∧ P e ∧ PW s' p (k + K) ∧ Fr p st s'
def Ir (p K : Nat) (s : SF) (env : Env) (P : Val → Prop) : Prop := ∀ st k, PW st p k → k + K < big → ∃ v e s', s env st = some (.fl (.rt v) e, s') ∧ P v ∧ PW s' p (k + K) ∧ Fr p st s'
section
variable {p K K2 : Nat} {env e : Env} {a b : SF} {f g : EF} {P : Env → Prop} {Q Q2 : Val → Prop} {c : BT} {r : Bool}
theorem ir_cons (h : In p K a env P) (k : ∀ e, P e → Ir p K2 b e Q) : Ir p (K + K2) (sCons a b) env Q := fun st n w hb => by
  obtain ⟨e, s, q, pe, w1, f1⟩ := h st n w (by omega)
  obtain ⟨v, e2, s2, q2, pv, w2, f2⟩ := k e pe s (n + K) w1 (by omega)
  exact ⟨v, e2, s2, by unfold sCons; rw [q]; exact q2, pv, by rw [← Nat.add_assoc]; exact w2, f1.trans f2⟩
theorem ir_first (h : Ir p K a env Q) : Ir p K (sCons a b) env Q := fun st n w hb => by
  obtain ⟨v, e2, s2, q2, rest⟩ := h st n w hb
  exact ⟨v, e2, s2, by unfold sCons; rw [q2], rest⟩
theorem ir_ret (h : Im p K (f env) Q) : Ir p K (sRet f) env Q := fun st n w hb => by
  obtain ⟨v, s, q, rest⟩ := h st n w hb
  exact ⟨v, env, s, by unfold sRet bs; rw [q]; rfl, rest⟩
theorem in_set {i : Nat} (h : Im p K (f env) Q) (hi : i < env.length) : In p K (sSet (.nm i) f) env (fun e => ∃ v, Q v ∧ e = env.set i (some v)) := fun st n w hb => by
  obtain ⟨v, s, q, pv, rest⟩ := h st n w hb
  exact ⟨env.set i (some v), s, by unfold sSet bs; rw [q]; simp only [bindT, if_pos hi]; rfl, ⟨v, pv, rfl⟩, rest⟩
end
end Pv.Q
/-! Qj: shuffled lists, words, people. -/
namespace Pv.Q
open PySem

theorem e_cons {a : EF} {g : LF} {env : Env} {st s s2 : Store} {v : Val} {vs : List Val} (h : a env st = some (.ok v, s)) (h2 : g env s = some (.ok vs, s2)) : aCons a g env st = some (.ok (v :: vs), s2) := by
  unfold aCons bd
  rw [h]
  dsimp only
  rw [h2]
  rfl
theorem e_nil {env : Env} {st : Store} : aNil env st = some (.ok [], st) := rfl
theorem e_call {f : BF} {g : LF} {env : Env} {st s s2 : Store} {vs : List Val} {v : Val} (h : g env st = some (.ok vs, s)) (h2 : f vs s = some (.ok v, s2)) : eCall f g env st = some (.ok v, s2) := by
  unfold eCall bd
  rw [h]
  exact h2
theorem e_bin {op : Operator} {a b : EF} {env : Env} {st s s2 s3 : Store} {v w u : Val} (h : a env st = some (.ok v, s)) (h2 : b env s = some (.ok w, s2)) (h3 : binop op v w s2 = some (.ok u, s3)) : eBin op a b env st = some (.ok u, s3) := by
  unfold eBin bd
  rw [h]
  dsimp only
  rw [h2]
  exact h3
theorem e_var {i : Nat} {env : Env} {st : Store} {v : Val} (h : env[i]? = some (some v)) : eVar i env st = some (.ok v, st) := by
  unfold eVar lift
  rw [h]
  rfl
/-- a list in the store, and the draws so far -/
structure Li (p r k : Nat) (acc : List Val) (st0 st : Store) : Prop where
  pw : PW st p k
  at_ : st.get r = some (.lst acc)
  ne : r ≠ p
  lt : r < st.nx
  fr : ∀ j, j < st0.nx → j ≠ p → st.get j = st0.get j
  nx : st0.nx ≤ st.nx
  new : st0.nx ≤ r
theorem Li.put {p r k : Nat} {acc acc' : List Val} {st0 st : Store} (h : Li p r k acc st0 st) : Li p r k acc' st0 (st.put r (.lst acc')) := by
  have hne : st.get r ≠ none := by rw [h.at_]; simp
  exact ⟨h.pw.of (Nat.le_refl _) (put_wf h.pw.2) (by rw [get_put hne, if_neg (Ne.symm h.ne)]), by rw [get_put hne, if_pos rfl], h.ne, h.lt, fun j hj hp => by rw [get_put hne, if_neg (by have := h.new; omega)]; exact h.fr j hj hp, h.nx, h.new⟩
theorem get_drop {st : Store} {r j : Nat} (h : j ≠ r) : (st.drop r).get j = st.get j := by
  show List.lookup j (st.m.filter fun p => p.1 != r) = List.lookup j st.m
  induction st.m with
  | nil => rfl
  | cons q l ih =>
    obtain ⟨a, o⟩ := q
    rw [List.filter_cons]
    by_cases c : a = r
    · subst c
      have hb : (j == a) = false := by simpa using h
      simp [List.lookup, hb, ih]
    · have hc : (a != r) = true := by simpa using c
      simp only [hc, if_true, List.lookup, ih]
theorem Li.drop {p r k : Nat} {acc : List Val} {st0 st : Store} (h : Li p r k acc st0 st) : PW (st.drop r) p k ∧ Fr p st0 (st.drop r) :=
  ⟨h.pw.of (Nat.le_refl _) (fun q hq => h.pw.2 q (List.mem_filter.mp hq).1) (get_drop (Ne.symm h.ne)), h.nx, fun j hj hp => (get_drop (by have := h.new; omega)).trans (h.fr j hj hp)⟩
end Pv.Q
namespace Pv.Q
open PySem
/-! ### letters, words -/
def ch (c : Nat) : Str := ⟨#[c]⟩
end Pv.Q
namespace Pv.Q
open PySem
end Pv.Q
/-! Qk: lists of words, people. -/
namespace Pv.Q
open PySem

theorem Li.nx' {p r k n : Nat} {acc : List Val} {st0 st : Store} (h : Li p r k acc st0 st) (hn : st.nx ≤ n) : Li p r k acc st0 ⟨n, st.m⟩ :=
  ⟨h.pw.of hn (h.pw.2.more hn) rfl, h.at_, h.ne, Nat.lt_of_lt_of_le h.lt hn, h.fr, Nat.le_trans h.nx hn, h.new⟩
theorem Li.le {p r k k' : Nat} {acc : List Val} {st0 st : Store} (h : Li p r k acc st0 st) (hk : k ≤ k') : Li p r k' acc st0 st := ⟨h.pw.le hk, h.at_, h.ne, h.lt, h.fr, h.nx, h.new⟩
end Pv.Q
/-! Qm: people, worlds drawn. -/
namespace Pv.Q
open PySem

theorem in_cons {p K K2 : Nat} {a b : SF} {env : Env} {P P2 : Env → Prop} (h : In p K a env P) (k : ∀ e, P e → In p K2 b e P2) : In p (K + K2) (sCons a b) env P2 := fun st n w hb => by
  obtain ⟨e, s, q, pe, w1, f1⟩ := h st n w (by omega)
  obtain ⟨e2, s2, q2, pv, w2, f2⟩ := k e pe s (n + K) w1 (by omega)
  exact ⟨e2, s2, by unfold sCons; rw [q]; exact q2, pv, by rw [← Nat.add_assoc]; exact w2, f1.trans f2⟩
theorem in_nil {p : Nat} {env : Env} {P : Env → Prop} (h : P env) : In p 0 sNil env P := fun st n w _ => ⟨env, st, rfl, h, w, Fr.refl p st⟩
end Pv.Q
/-! Qn: worlds by density, by labels. -/
namespace Pv.Q
open PySem

/-! ### by labels -/
section
variable {p size r : Nat} {c : List Str} {rows : List Val} {ties : List (Nat × Nat)}
end
end Pv.Q
/-! Qo: worlds by labels (the whole def). -/
namespace Pv.Q
open PySem

end Pv.Q
/-! Qp: worlds of shapes. -/
namespace Pv.Q
open PySem

theorem c_beq {a b : Bool} {st : Store} : cmpop .Eq (.bl a) (.bl b) st = some (a == b) := by
  show (if (SeqAt.shaped (.bool a) && SeqAt.shaped (.bool b)) = true then some (PyData.eqv (.bool a) (.bool b)) else none) = _
  rw [show (SeqAt.shaped (.bool a) && SeqAt.shaped (.bool b)) = true from rfl, if_pos rfl]
  simp [PyData.eqv]

section
variable {p : Nat} {c mx : List Str} {way : Nat} {x5 : Option Val}
end
end Pv.Q
/-! Qq: worlds of shapes (the whole def), all worlds. -/
namespace Pv.Q
open PySem

section
variable {p : Nat} {c mx : List Str} {way : Nat}
end
end Pv.Q
/-! Qr: all worlds. -/
namespace Pv.Q
open PySem
section
variable {p : Nat} {c mx : List Str} {way : Nat}
theorem Perm.pos {mx c : List Str} (h : Crowd c) (pm : mx.Perm c) : 0 < mx.length ∧ mx.length ≤ 9 := by
  have ml := pm.length_eq
  have few := h.few
  refine ⟨?_, by omega⟩
  rcases Nat.eq_zero_or_pos mx.length with z | z
  · exact absurd (List.eq_nil_of_length_eq_zero (ml ▸ z)) h.some
  · exact z
end
end Pv.Q
/-! Qs: words, pairs, people judged by the program. -/
namespace Pv.Q
open PySem

theorem ru_isi {m : Mem} {env : Env} {a : EF} {b : EF} {cs : List Str} {v w : Val} {r : Bool} (h : Ru m (a env) v) (h2 : Ru m (b env) w) (k : ∀ n, fIsi cs [v, w] ⟨n, m⟩ = some (.ok (.bl r), ⟨n, m⟩)) : Ru m (eCall (fIsi cs) (aCons a (aCons b aNil)) env) (.bl r) := ru_call2 h h2 (Ru.of k)
theorem ru_allT {m : Mem} {env : Env} {a : EF} {α : Type} {xs : List α} (h : Ru m (a env) (.lst (xs.map fun _ => .bl true))) : Ru m (eCall fAll (aCons a aNil) env) (.bl true) := ru_call1 h (Ru.of fun n => by
  have e : ∀ l : List α, blL (l.map fun _ => Val.bl true) = some (l.map fun _ => true) := by
    intro l
    induction l with
    | nil => rfl
    | cons x l ih => simp [blL, asB, ih]
  unfold fAll
  simp only [asL, e]
  simp)
end Pv.Q
/-! Qt: a company is made. -/
namespace Pv.Q
open PySem

section
variable {m : Mem} {env : Env} {ι : Type} {enc : ι → Val} {dk : Val → DK} {t : Bool} {tg : Tg} {key val : EF} {W : ι → Env} {kf vf : ι → Val}
end
section
variable {m : Mem} {env : Env} {a : Nat} {c f : Str} {fs : List Str} {vs : List Val} {v : Val}
end
end Pv.Q

namespace Pv.Q
open PySem
/-! ### a dict of new lists -/
/-! ### the lists filled -/
def cFs : List Str := ["names", "pairs", "ties", "near"]
/-- a company that is being made: the instance at a, the dict at d, the lists behind it -/
structure Mk (d : Nat) (w : Wd) (F : Str → List Str) (m : Mem) : Prop where
  ins : m.lookup 0 = some (.ins "Company" cFs [encN w.c, encPs w.p, netV w.p, .ref d])
  dct : m.lookup d = some (.dct false (w.c.map .str) ((List.range w.c.length).map fun i => .ref (d + 1 + i)))
  lst : ∀ i x, w.c[i]? = some x → m.lookup (d + 1 + i) = some (.lst ((F x).map .str))
  lt : 0 < d
end Pv.Q
/-! Qu: a company is made of a world. -/
namespace Pv.Q
open PySem

end Pv.Q
/-! Qv: what stands in a company; kinds of third people. -/
namespace Pv.Q
open PySem

/-! ### plain -/
/-! ### read off a company -/
section
variable {m : Mem} {env : Env} {a b : EF} {w : Wd} {x : Str} {q : Pr}
end
end Pv.Q
/-! Qx: a value is exactly itself; a copy is the same. -/
namespace Pv.Q
open PySem

/-- a tree of texts, numbers, lists, tuples, dicts by texts; at most so deep -/
def okX : Nat → Val → Prop
  | 0, _ => False
  | n + 1, v => match v with
    | .non => True
    | .bl _ => True
    | .int _ => True
    | .str s => sOk s
    | .tup vs => vs.length < 16777216 ∧ ∀ x ∈ vs, okX n x
    | .lst vs => vs.length < 16777216 ∧ ∀ x ∈ vs, okX n x
    | .dct false ks vs => 2 ≤ n ∧ ∃ xs : List Str, ks = xs.map .str ∧ xs.Nodup ∧ (∀ s ∈ xs, sOk s) ∧ xs.length = vs.length ∧ xs.length < 16777216 ∧ ∀ x ∈ vs, okX n x
    | _ => False
theorem okX_gnd : ∀ {n : Nat} {v : Val}, okX n v → gnd v = true
  | 0, _, h => h.elim
  | n + 1, v, h => by
    cases v with
    | non => rfl
    | bl b => rfl
    | int i => rfl
    | str s => rfl
    | tup vs => simp only [gnd]; exact gnds_of fun x hx => okX_gnd (h.2 x hx)
    | lst vs => simp only [gnd]; exact gnds_of fun x hx => okX_gnd (h.2 x hx)
    | rol vs => exact absurd h (by simp [okX])
    | dct t ks vs =>
      cases t with
      | true => exact absurd h (by simp [okX])
      | false =>
        obtain ⟨_, xs, _, _, _, _, _, h7⟩ := h
        simp only [gnd]
        exact gnds_of fun x hx => okX_gnd (h7 x hx)
    | ins c fs vs => exact absurd h (by simp [okX])
    | ndc ks vs => exact absurd h (by simp [okX])
    | ref n => exact absurd h (by simp [okX])
    | cls c => exact absurd h (by simp [okX])
    | rot vs => exact absurd h (by simp [okX])
    | ty t => exact absurd h (by simp [okX])
theorem zipV_self : ∀ vs : List Val, zipV vs vs = vs.map fun x => .tup [x, x]
  | [] => rfl
  | v :: vs => by rw [zipV, zipV_self vs]; rfl
theorem dGet_zip {k : Str} {v : Val} : ∀ {xs : List Str} {vs : List Val}, xs.Nodup → (k, v) ∈ xs.zip vs → dGet (xs.map fun x => Sum.inl (Sum.inr x)) vs (Sum.inl (Sum.inr k)) = some v
  | [], _, _, h => by simp at h
  | x :: xs, [], _, h => by simp at h
  | x :: xs, w :: vs, nd, h => by
    rw [List.nodup_cons] at nd
    rw [List.zip_cons_cons, List.mem_cons] at h
    rw [List.map_cons, dGet]
    rcases h with h | h
    · injection h with h1 h2
      rw [if_pos (by rw [h1]), h2]
    · have ne : ¬ ((Sum.inl (Sum.inr x) : DK) = Sum.inl (Sum.inr k)) := fun e => by
        injection e with e
        injection e with e
        exact nd.1 (e ▸ (List.of_mem_zip h).1)
      rw [if_neg ne, dGet_zip nd.2 h]
theorem zip_keys {xs : List Str} {vs : List Val} (h : xs.length = vs.length) : (xs.zip vs).map (fun q => Val.str q.1) = xs.map .str := by
  have := List.map_fst_zip (l₁ := xs) (l₂ := vs) (by omega)
  conv => rhs; rw [← this]
  rw [List.map_map]
  rfl
theorem c_same {n : Nat} {v : Val} (h : okX n v) (ha : ∀ vs, v ≠ .lst vs ∧ v ≠ .tup vs) (hd : ∀ t ks vs, v ≠ .dct t ks vs) {st : Store} : cmpop .Eq v v st = some true := by
  cases n with
  | zero => exact h.elim
  | succ n =>
    cases v with
    | non => rfl
    | bl b => rw [c_beq]; simp
    | int i => rw [c_ieq]; simp
    | str s => rw [c_seq h h]; simp
    | tup vs => exact absurd rfl (ha vs).2
    | lst vs => exact absurd rfl (ha vs).1
    | rol vs => exact absurd h (by simp [okX])
    | dct t ks vs => exact absurd rfl (hd t ks vs)
    | ins c fs vs => exact absurd h (by simp [okX])
    | ndc ks vs => exact absurd h (by simp [okX])
    | ref n => exact absurd h (by simp [okX])
    | cls c => exact absurd h (by simp [okX])
    | rot vs => exact absurd h (by simp [okX])
    | ty t => exact absurd h (by simp [okX])
section
variable {m : Mem} {env : Env} {a b : EF} {v w : Val} {r : Bool}
theorem ru_isiT {n : Nat} (h : okX (n + 1) v) (T : String) (hT : T ∈ bTys) : ∃ r, ∀ m (env : Env) (a : EF), Ru m (a env) v → Ru m (eCall (fIsi cs0) (aCons a (aCons (eLit (.ty T)) aNil)) env) (.bl r) := by
  have key : ∃ r, ∀ st, isA cs0 st v (.ty T) = some r := by
    cases v with
    | non => exact ⟨_, fun st => by show (if T ∈ bTys then _ else none) = _; rw [if_pos hT]⟩
    | bl b => exact ⟨_, fun st => by show (if T ∈ bTys then _ else none) = _; rw [if_pos hT]⟩
    | int i => exact ⟨_, fun st => by show (if T ∈ bTys then _ else none) = _; rw [if_pos hT]⟩
    | str s => exact ⟨_, fun st => by show (if T ∈ bTys then _ else none) = _; rw [if_pos hT]⟩
    | tup vs => exact ⟨_, fun st => by show (if T ∈ bTys then _ else none) = _; rw [if_pos hT]⟩
    | lst vs => exact ⟨_, fun st => by show (if T ∈ bTys then _ else none) = _; rw [if_pos hT]⟩
    | dct t ks vs =>
      cases t with
      | true => exact absurd h (by simp [okX])
      | false => exact ⟨_, fun st => by show (if T ∈ bTys then _ else none) = _; rw [if_pos hT]⟩
    | rol vs => exact absurd h (by simp [okX])
    | ins c fs vs => exact absurd h (by simp [okX])
    | ndc ks vs => exact absurd h (by simp [okX])
    | ref n => exact absurd h (by simp [okX])
    | cls c => exact absurd h (by simp [okX])
    | rot vs => exact absurd h (by simp [okX])
    | ty t => exact absurd h (by simp [okX])
  obtain ⟨r, e⟩ := key
  refine ⟨r, fun m env a ha => ru_isi ha ru_lit fun n => ?_⟩
  unfold fIsi
  split
  · rename_i heq
    injection heq with _ h2
    injection h2 with h2
    cases h2
  · rename_i heq
    injection heq with h1 h2
    injection h2 with h2
    subst h1 h2
    rw [e]
  · rename_i h1 h2
    exact absurd rfl (h2 v (.ty T))
theorem exact_seq {n : Nat} (ih : ∀ v, okX n v → ∀ m, Ru m (f__law_exact n [v, v]) (.bl true)) {tp : Bool} {vs : List Val} (h : okX (n + 1) (if tp then .tup vs else .lst vs)) : ∀ m, Ru m (f__law_exact (n + 1) [if tp then .tup vs else .lst vs, if tp then .tup vs else .lst vs]) (.bl true) := fun m => by
  have hk : vs.length < 16777216 ∧ ∀ x ∈ vs, okX n x := by cases tp <;> exact h
  have g := okX_gnd h
  generalize hv : (if tp then Val.tup vs else .lst vs) = v at h g ⊢
  obtain ⟨r1, e1⟩ := ru_isiT h "list" (by decide)
  obtain ⟨r2, e2⟩ := ru_isiT h "tuple" (by decide)
  unfold f__law_exact
  refine ru_loc (m' := []) rfl ?_ (by simp only [gnds, g, Bool.and_true, Bool.and_self]) rfl
  have t1 : Ru [] (bTru (eCall (fIsi cs0) (aCons (eVar 0) (aCons (eTup (aCons (eLit (.ty "list")) (aCons (eLit (.ty "tuple")) aNil))) aNil))) (startE 6 [v, v])) true := rb_trub (ru_call2 (x := v) (y := .tup [.ty "list", .ty "tuple"]) (ru_var rfl) (ru_tup2 ru_lit ru_lit) (Ru.of fun n => by subst hv; cases tp <;> rfl))
  refine rm_first (rm_if t1 ?_)
  rw [if_pos rfl]
  have alike := ru_and (ru_cmp (m := []) (env := startE 6 [v, v]) (op := .Eq) (e1 [] _ (eVar 1) (ru_var rfl)) (e1 [] _ (eVar 0) (ru_var rfl)) fun _ => c_beq) fun _ => ru_cmp (m := []) (env := startE 6 [v, v]) (op := .Eq) (e2 [] _ (eVar 1) (ru_var rfl)) (e2 [] _ (eVar 0) (ru_var rfl)) fun _ => c_beq
  have eb : ((r1 == r1) && (r2 == r2)) = true := by simp
  rw [eb] at alike
  refine rm_cons (e1 := [some v, some v, some (.bl true), none, none, none]) (sm_set alike (by show 2 < 6; decide)) ?_
  have len : ∀ i, i < 2 → Ru [] (eCall fLen (aCons (eVar i) aNil) [some v, some v, some (.bl true), none, none, none]) (.int (vs.length : Nat)) := fun i hi => by
    have hx : Ru [] (eVar i [some v, some v, some (.bl true), none, none, none]) v := ru_var (by
      rcases i with _ | _ | i
      · rfl
      · rfl
      · omega)
    exact ru_call1 hx (Ru.of fun n => by subst hv; cases tp <;> rfl)
  have hc := ru_comp (m := []) (env := [some v, some v, some (.bl true), none, none, none]) (own := [3, 4]) (tg := .tup [(.nm 3), (.nm 4)]) (cond := bYes) (elt := eCall (f__law_exact n) (aCons (eVar 3) (aCons (eVar 4) aNil))) (it := iZip (eVar 0) (eVar 1)) (enc := fun x => .tup [x, x]) (xs := vs) (W := fun x => [some v, some v, some (.bl true), some x, some x, none]) (p := fun _ => true) (f := fun _ => .bl true)
    ((ru_var rfl).bd ((ru_var rfl).bd (Ru.rd fun n => by
      subst hv
      cases tp
      · show some (zipV vs vs, gAnd gYes gYes) = _
        rw [zipV_self]
        rfl
      · show some (zipV vs vs, gYes) = _
        rw [zipV_self]))) (fun x _ => rfl) (fun x _ => rb_yes) (fun x hx _ => ru_call2 (ru_var rfl) (ru_var rfl) (ih x (hk.2 x hx) [])) hk.1
  rw [List.filter_eq_self.mpr (fun _ _ => rfl)] at hc
  have eq := ru_cmp (op := .Eq) (len 0 (by omega)) (len 1 (by omega)) fun _ => c_ieq
  rw [show (((vs.length : Nat) : Int) == ((vs.length : Nat) : Int)) = true by simp] at eq
  exact rm_first (rm_ret (ru_and (r1 := true) (r2 := true) (ru_var rfl) fun _ => ru_and eq fun _ => ru_allT hc))
theorem exact_ok : ∀ (n : Nat) (v : Val), okX n v → ∀ m, Ru m (f__law_exact n [v, v]) (.bl true)
  | 0, v, h, m => h.elim
  | n + 1, v, h, m => by
    by_cases q1 : ∃ vs, v = .lst vs
    · obtain ⟨vs, rfl⟩ := q1
      exact exact_seq (exact_ok n) (tp := false) h m
    by_cases q2 : ∃ vs, v = .tup vs
    · obtain ⟨vs, rfl⟩ := q2
      exact exact_seq (exact_ok n) (tp := true) h m
    have g := okX_gnd h
    have ha : ∀ vs, v ≠ .lst vs ∧ v ≠ .tup vs := fun vs => ⟨fun e => q1 ⟨vs, e⟩, fun e => q2 ⟨vs, e⟩⟩
    have t1 : Ru [] (bTru (eCall (fIsi cs0) (aCons (eVar 0) (aCons (eTup (aCons (eLit (.ty "list")) (aCons (eLit (.ty "tuple")) aNil))) aNil))) (startE 6 [v, v])) false := rb_trub (ru_call2 (x := v) (y := .tup [.ty "list", .ty "tuple"]) (ru_var rfl) (ru_tup2 ru_lit ru_lit) (Ru.of fun n => by
      cases v with
      | non => rfl
      | bl b => rfl
      | int i => rfl
      | str s => rfl
      | tup vs => exact absurd rfl (ha vs).2
      | lst vs => exact absurd rfl (ha vs).1
      | dct t ks vs =>
        cases t with
        | true => exact absurd h (by simp [okX])
        | false => rfl
      | rol vs => exact absurd h (by simp [okX])
      | ins c fs vs => exact absurd h (by simp [okX])
      | ndc ks vs => exact absurd h (by simp [okX])
      | ref n => exact absurd h (by simp [okX])
      | cls c => exact absurd h (by simp [okX])
      | rot vs => exact absurd h (by simp [okX])
      | ty t => exact absurd h (by simp [okX])))
    by_cases q3 : ∃ t ks vs, v = .dct t ks vs
    · obtain ⟨t, ks, vs, rfl⟩ := q3
      cases t with
      | true => exact absurd h (by simp [okX])
      | false =>
      obtain ⟨h2, xs, rfl, nd, so, hl, hs, hv⟩ := h
      obtain ⟨n, rfl⟩ : ∃ k, n = k + 2 := ⟨n - 2, by omega⟩
      let v : Val := .dct false (xs.map .str) vs
      have ok1 : okX (n + 2) (encN xs) := ⟨by rw [List.length_map]; exact hs, fun x hx => by
        obtain ⟨s, hs2, rfl⟩ := List.mem_map.mp hx
        exact so s hs2⟩
      unfold f__law_exact
      refine ru_loc (m' := []) rfl ?_ (by simp only [gnds, g, Bool.and_true, Bool.and_self]) rfl
      refine rm_cons (sm_skip t1) ?_
      have t2 : Ru [] (bTru (eCall (fIsi cs0) (aCons (eVar 0) (aCons (eLit (.ty "dict")) aNil))) (startE 6 [v, v])) true := rb_trub (ru_isi (cs := cs0) (r := true) (v := v) (ru_var rfl) ru_lit fun n => rfl)
      refine rm_first (rm_if t2 ?_)
      rw [if_pos rfl]
      have ls : ∀ i, i < 2 → Ru [] (eCall (fListD false) (aCons (eVar i) aNil) (startE 6 [v, v])) (encN xs) := fun i hi => by
        have hx : Ru [] (eVar i (startE 6 [v, v])) v := ru_var (by
          rcases i with _ | _ | i
          · rfl
          · rfl
          · omega)
        exact ru_call1 hx (ru_newL (by rw [List.length_map]; omega))
      refine rm_cons (e1 := [some v, some v, some (.bl true), none, none, none]) (sm_set (ru_and (r1 := true) (r2 := true) (ru_isi (cs := cs0) (r := true) (v := v) (a := eVar 1) (ru_var rfl) ru_lit fun n => rfl) fun _ => ru_call2 (ls 0 (by omega)) (ls 1 (by omega)) (exact_ok (n + 2) _ ok1 [])) (by show 2 < 6; decide)) ?_
      have hc := ru_comp (m := []) (env := [some v, some v, some (.bl true), none, none, none]) (own := [5]) (tg := .nm 5) (cond := bYes) (elt := eCall (f__law_exact (n + 2)) (aCons (eSub (eVar 0) (eVar 5)) (aCons (eSub (eVar 1) (eVar 5)) aNil))) (it := iKeys (eVar 0)) (enc := fun q : Str × Val => .str q.1) (xs := xs.zip vs) (W := fun q => [some v, some v, some (.bl true), none, none, some (.str q.1)]) (p := fun _ => true) (f := fun _ => .bl true)
        (by rw [zip_keys hl]; exact ri_keys (ru_var rfl)) (fun x _ => rfl) (fun x _ => rb_yes) (fun q hq _ => by
          have gt : ∀ i, i < 2 → Ru [] (eSub (eVar i) (eVar 5) [some v, some v, some (.bl true), none, none, some (.str q.1)]) q.2 := fun i hi => by
            have hx : Ru [] (eVar i [some v, some v, some (.bl true), none, none, some (.str q.1)]) v := ru_var (by
              rcases i with _ | _ | i
              · rfl
              · rfl
              · omega)
            exact ru_sub hx (ru_var rfl) (get_dct (dk_strs xs) (jj := Sum.inl (Sum.inr q.1)) rfl (by rw [List.length_map]; exact hl) (dGet_zip nd hq))
          exact ru_call2 (gt 0 (by omega)) (gt 1 (by omega)) (exact_ok (n + 2) _ (hv q.2 (List.of_mem_zip hq).2) [])) (by rw [List.length_zip]; omega)
      rw [List.filter_eq_self.mpr (fun _ _ => rfl)] at hc
      exact rm_first (rm_ret (ru_and (r1 := true) (r2 := true) (ru_var rfl) fun _ => ru_allT hc))
    have hd : ∀ t ks vs, v ≠ .dct t ks vs := fun t ks vs e => q3 ⟨t, ks, vs, e⟩
    obtain ⟨r1, e1⟩ := ru_isiT h "int" (by decide)
    obtain ⟨r2, e2⟩ := ru_isiT h "bool" (by decide)
    unfold f__law_exact
    refine ru_loc (m' := []) rfl ?_ (by simp only [gnds, g, Bool.and_true, Bool.and_self]) rfl
    refine rm_cons (sm_skip t1) ?_
    have t2 : Ru [] (bTru (eCall (fIsi cs0) (aCons (eVar 0) (aCons (eLit (.ty "dict")) aNil))) (startE 6 [v, v])) false := rb_trub (ru_isi (cs := cs0) (r := false) (v := v) (ru_var rfl) ru_lit fun n => by
      cases v with
      | non => rfl
      | bl b => rfl
      | int i => rfl
      | str s => rfl
      | tup vs => exact absurd rfl (ha vs).2
      | lst vs => exact absurd rfl (ha vs).1
      | dct t ks vs => exact absurd rfl (hd t ks vs)
      | rol vs => exact absurd h (by simp [okX])
      | ins c fs vs => exact absurd h (by simp [okX])
      | ndc ks vs => exact absurd h (by simp [okX])
      | ref n => exact absurd h (by simp [okX])
      | cls c => exact absurd h (by simp [okX])
      | rot vs => exact absurd h (by simp [okX])
      | ty t => exact absurd h (by simp [okX]))
    refine rm_cons (sm_skip t2) ?_
    have al := ru_cmp (m := []) (env := startE 6 [v, v]) (op := .Eq) (e1 [] _ (eVar 0) (ru_var rfl)) (e1 [] _ (eVar 1) (ru_var rfl)) fun _ => c_beq
    rw [show (r1 == r1) = true by simp] at al
    refine rm_cons (e1 := [some v, some v, some (.bl true), none, none, none]) (sm_set al (by show 2 < 6; decide)) ?_
    have a2 := ru_cmp (m := []) (env := [some v, some v, some (.bl true), none, none, none]) (op := .Eq) (e2 [] _ (eVar 0) (ru_var rfl)) (e2 [] _ (eVar 1) (ru_var rfl)) fun _ => c_beq
    rw [show (r2 == r2) = true by simp] at a2
    have a3 := ru_cmp (m := []) (env := [some v, some v, some (.bl true), none, none, none]) (op := .Eq) (a := eVar 0) (b := eVar 1) (x := v) (y := v) (ru_var rfl) (ru_var rfl) fun _ => c_same h ha hd
    exact rm_first (rm_ret (ru_and (r1 := true) (r2 := true) (ru_var rfl) fun _ => ru_and a2 fun _ => a3))
end
end Pv.Q
/-! Qy: copies; numbers of friends, kinds, strangers. -/
namespace Pv.Q
open PySem

section
variable {m : Mem} {env : Env} {w : Wd} {x : Str} {q : Pr}
theorem x_cons {a b : SF} {env e : Env} {st s : Store} {r : Option (OS × Store)} (h : a env st = some (.fl .nx e, s)) (k : b e s = r) : sCons a b env st = r := by unfold sCons; rw [h]; exact k
end
end Pv.Q
/-! Qz: numbers, strangers; a company stands as its world does. -/
namespace Pv.Q
open PySem
section
variable {m : Mem} {env : Env} {a b : EF} {w : Wd} {x : Str} {q : Pr}
/-! two fors in one comprehension -/
end
end Pv.Q
/-! Ra: a company stands as its world does. -/
namespace Pv.Q
open PySem
theorem okX_two {n : Nat} {v w : Val} (h : okX n v) (h2 : okX n w) : okX (n + 1) (.lst [v, w]) := ⟨by simp, fun x hx => by
  rcases List.mem_cons.mp hx with rfl | hx
  · exact h
  · rw [List.mem_singleton.mp hx]
    exact h2⟩
section
variable {m : Mem} {env : Env} {a b : EF} {w : Wd} {x : Str} {q : Pr}
end
end Pv.Q
/-! Rb: kinds that move, plainly. -/
namespace Pv.Q
open PySem

structure Qd where
  o : Pr
  x : Str
  a : Int
  b : Int
/-! ### what moves -/
end Pv.Q
/-! Rc: kinds_moved walked. -/
namespace Pv.Q
open PySem
theorem Wf.cons {m : Mem} {r : Nat} {o : Obj} (h : Wf r m) : Wf (r + 1) ((r, o) :: m) := fun q hq => by
  rcases List.mem_cons.mp hq with rfl | hq
  · exact Nat.lt_succ_self _
  · exact Nat.lt_succ_of_lt (h q hq)
end Pv.Q
/-! Rd: loops that draw, lists of the store shuffled. -/
namespace Pv.Q
open PySem
mutual
theorem beqV_self : ∀ v : Val, beqV v v = true
  | .non => rfl
  | .bl b => by simp [beqV]
  | .int i => by simp [beqV]
  | .str s => by simp [beqV]
  | .tup vs => by rw [beqV]; exact beqVs_self vs
  | .lst vs => by rw [beqV]; exact beqVs_self vs
  | .rol vs => by rw [beqV]; exact beqVs_self vs
  | .rot vs => by rw [beqV]; exact beqVs_self vs
  | .dct t ks vs => by simp [beqV, beqVs_self ks, beqVs_self vs]
  | .ins c fs vs => by simp [beqV, beqVs_self vs]
  | .ndc ks vs => by simp [beqV, beqVs_self ks, beqVs_self vs]
  | .ref n => by simp [beqV]
  | .cls c => by simp [beqV]
  | .ty t => by simp [beqV]
theorem beqVs_self : ∀ vs : List Val, beqVs vs vs = true
  | [] => rfl
  | v :: vs => by rw [beqVs, beqV_self v, beqVs_self vs]; rfl
end
section
variable {m : Mem} {env : Env}
end
/-- a loop whose turns draw -/
theorem in_loop {p K : Nat} {ι : Type} {enc : ι → Val} {t : Tg} {body : SF} {I : Env → Prop} : ∀ (xs : List ι) (env : Env), I env → (∀ q ∈ xs, ∀ e, I e → ∃ e1, bindT t (enc q) e = some e1 ∧ In p K body e1 I) → In p (xs.length * K) (loopF gYes t body (xs.map enc)) env I
  | [], env, h, _ => fun st k w hb => ⟨env, st, by simp [loopF, gYes], h, by simpa using w, Fr.refl p st⟩
  | q :: xs, env, h, k => fun st n w hb => by
    have hk : (q :: xs).length * K = K + xs.length * K := by rw [List.length_cons, Nat.add_mul, Nat.one_mul, Nat.add_comm]
    rw [hk] at hb ⊢
    obtain ⟨e1, b1, b2⟩ := k q (List.mem_cons_self ..) env h
    obtain ⟨e2, s2, q2, i2, w2, f2⟩ := b2 st n w (by omega)
    obtain ⟨e3, s3, q3, i3, w3, f3⟩ := in_loop xs e2 i2 (fun r hr => k r (List.mem_cons_of_mem _ hr)) s2 (n + K) w2 (by omega)
    refine ⟨e3, s3, ?_, i3, by rw [← Nat.add_assoc]; exact w3, f2.trans f3⟩
    simp only [List.map_cons, loopF, gYes, if_true, b1, q2]
    exact q3
theorem in_for {p K K0 : Nat} {ι : Type} {enc : ι → Val} {t : Tg} {it : IF} {env : Env} {body : SF} {I : Env → Prop} {P : List ι → Prop} {B : Nat} (hi : Im p K0 (it env) (fun x => ∃ xs : List ι, P xs ∧ xs.length ≤ B ∧ x = (xs.map enc, gYes))) (h0 : I env) (step : ∀ xs, P xs → ∀ q ∈ xs, ∀ e, I e → ∃ e1, bindT t (enc q) e = some e1 ∧ In p K body e1 I) : In p (K0 + B * K) (sFor t it body) env I := fun st k w hb => by
  obtain ⟨x, s, q, ⟨xs, hp, hl, rfl⟩, w1, f1⟩ := hi st k w (by omega)
  have lk : xs.length * K ≤ B * K := Nat.mul_le_mul_right K hl
  obtain ⟨e2, s2, q2, i2, w2, f2⟩ := in_loop xs env h0 (step xs hp) s (k + K0) w1 (by omega)
  refine ⟨e2, s2, ?_, i2, w2.le (by omega), f1.trans f2⟩
  unfold sFor bs
  rw [q]
  exact q2
end Pv.Q
/-! Rg: the purses, the law's own loop over them. -/
namespace Pv.Q
open PySem
theorem intL_int : ∀ ns : List Int, intL (ns.map .int) = some ns
  | [] => rfl
  | n :: ns => by simp [intL, asInt, intL_int ns]
theorem cut_len {α : Type} (xs : List α) (l h : Option Int) : (cut xs l h).length ≤ xs.length := by
  unfold cut
  rw [List.length_take, List.length_drop]
  omega
theorem cut_map {α β : Type} (f : α → β) (xs : List α) (l h : Option Int) : cut (xs.map f) l h = (cut xs l h).map f := by
  unfold cut
  rw [List.length_map, List.map_take, List.map_drop]
theorem purse_at (ns : List Int) (hn : ns.length ≤ 63) (i : Nat) (st : Store) : ∃ a b : Int, f__law_purse [.rol (ns.map .int), .int i] st = some (.ok (.ref st.nx), st.alloc (.lst [.int a, .int b, .int 0, .int i])) ∧ 0 ≤ a := by
  let cs : List Int := cut ns (some (i : Int)) (some ((i : Int) + 1))
  let x : Int := cs.sum
  let y : Int := x - 10 ^ (18 : Int).toNat
  let z : Int := if 0 > y then 0 else y
  have c1 : (0 : Int) ≤ 18 ∧ (Builtin.Int.intBits 10 : Int) * 18 ≤ 2 ^ 27 := by decide +kernel
  have c2 : (0 : Int) ≤ 60 ∧ (Builtin.Int.intBits 10 : Int) * 60 ≤ 2 ^ 27 := by decide +kernel
  have c3 : (0 : Int) ≤ 8 ∧ (Builtin.Int.intBits (10 ^ (60 : Int).toNat) : Int) * 8 ≤ 2 ^ 27 := by decide +kernel
  have c4 : (0 : Int) < (10 ^ (60 : Int).toNat) ^ (8 : Int).toNat := by decide +kernel
  have pw : ∀ {i j : Int} {st : Store}, 0 ≤ j ∧ (Builtin.Int.intBits i : Int) * j ≤ 2 ^ 27 → binop .Pow (.int i) (.int j) st = some (.ok (.int (i ^ j.toNat)), st) := fun {i j st} h => by
    show (if 0 ≤ j ∧ (Builtin.Int.intBits i : Int) * j ≤ 2 ^ 27 then ret (Val.int (i ^ j.toNat)) else bad) st = _
    rw [if_pos h]
    rfl
  have md : ∀ {i j : Int} {st : Store}, 0 < j → binop .Mod (.int i) (.int j) st = some (.ok (.int (i % j)), st) := fun {i j st} h => by
    show (if 0 < j then ret (Val.int (i % j)) else bad) st = _
    rw [if_pos h]
    rfl
  let env0 : Env := [some (.rol (ns.map .int)), some (.int i), none]
  have sl : slice false (.rol (ns.map .int)) (some (i : Int)) (some ((i : Int) + 1)) st = some (.ok (.lst (cs.map .int)), st) := by
    show newL false (cut (ns.map Val.int) (some (i : Int)) (some ((i : Int) + 1))) st = _
    have hl : (cut (ns.map Val.int) (some (i : Int)) (some ((i : Int) + 1))).length ≤ 16777216 := by
      have := cut_len (ns.map Val.int) (some (i : Int)) (some ((i : Int) + 1))
      rw [List.length_map] at this
      omega
    unfold newL
    rw [if_pos hl, cut_map]
  have e0 : eSlc false (eVar 0) (oSome (eVar 1)) (oSome (eBin .Add (eVar 1) (eLit (.int 1)))) env0 st = some (.ok (.lst (cs.map .int)), st) := by
    have v0 : eVar 0 env0 st = some (.ok (.rol (ns.map .int)), st) := rfl
    have o1 : oSome (eVar 1) env0 st = some (.ok (some (i : Int)), st) := rfl
    have o2 : oSome (eBin .Add (eVar 1) (eLit (.int 1))) env0 st = some (.ok (some ((i : Int) + 1)), st) := rfl
    unfold eSlc bd
    rw [v0]
    dsimp only
    rw [o1]
    dsimp only
    rw [o2]
    exact sl
  have e1 : eCall fSum (aCons (eSlc false (eVar 0) (oSome (eVar 1)) (oSome (eBin .Add (eVar 1) (eLit (.int 1))))) aNil) env0 st = some (.ok (.int x), st) := by
    refine e_call (e_cons e0 e_nil) ?_
    simp only [fSum, asL, intL_int]
    rfl
  let env1 : Env := [some (.rol (ns.map .int)), some (.int i), some (.int x)]
  have e2 : eBin .Sub (eVar 2) (eBin .Pow (eLit (.int 10)) (eLit (.int 18))) env1 st = some (.ok (.int y), st) := e_bin (v := .int x) rfl (e_bin (v := .int 10) (w := .int 18) (s := st) (s2 := st) rfl rfl (pw c1)) rfl
  have e4 : eCall fInt (aCons (eCall fMax2 (aCons (eBin .Sub (eVar 2) (eBin .Pow (eLit (.int 10)) (eLit (.int 18)))) (aCons (eLit (.int 0)) aNil))) aNil) env1 st = some (.ok (.int z), st) := e_call (e_cons (e_call (e_cons e2 (e_cons (v := .int 0) (s := st) rfl e_nil)) rfl) e_nil) rfl
  have e5 := e_bin (op := .Mod) (b := eBin .Pow (eBin .Pow (eLit (.int 10)) (eLit (.int 60))) (eLit (.int 8))) e4 (e_bin (w := .int 8) (s2 := st) (e_bin (v := .int 10) (w := .int 60) (s := st) (s2 := st) rfl rfl (pw c2)) rfl (pw c3)) (md c4)
  have e6 : eCall fInt (aCons (eVar 2) aNil) env1 st = some (.ok (.int x), st) := e_call (e_cons (v := .int x) (s := st) rfl e_nil) rfl
  have e7 := e_bin (op := .Mod) (b := eLit (.int 2147483629)) (w := .int 2147483629) (s2 := st) e6 rfl (md (by decide))
  let a : Int := z % (10 ^ (60 : Int).toNat) ^ (8 : Int).toNat
  let b : Int := x % 2147483629
  have ls : eLst true (aCons (eBin .Mod (eCall fInt (aCons (eCall fMax2 (aCons (eBin .Sub (eVar 2) (eBin .Pow (eLit (.int 10)) (eLit (.int 18)))) (aCons (eLit (.int 0)) aNil))) aNil)) (eBin .Pow (eBin .Pow (eLit (.int 10)) (eLit (.int 60))) (eLit (.int 8)))) (aCons (eBin .Mod (eCall fInt (aCons (eVar 2) aNil)) (eLit (.int 2147483629))) (aCons (eLit (.int 0)) (aCons (eVar 1) aNil)))) env1 st = some (.ok (.ref st.nx), st.alloc (.lst [.int a, .int b, .int 0, .int i])) := by
    have ar := e_cons e5 (e_cons e7 (e_cons (a := eLit (.int 0)) (v := .int 0) (s := st) rfl (e_cons (a := eVar 1) (v := .int i) (s := st) rfl (e_nil (env := env1)))))
    have hl : [Val.int a, .int b, .int 0, .int i].length ≤ 16777216 := by simp
    unfold eLst bd
    rw [ar]
    show newL true [Val.int a, .int b, .int 0, .int i] st = _
    unfold newL
    rw [if_pos hl]
  refine ⟨a, b, ?_, Int.emod_nonneg z (Int.ne_of_gt c4)⟩
  unfold f__law_purse
  exact mkFn_rt (e := env1) rfl (x_cons (sSet_ok e1 (by show 2 < 3; decide)) (sCons_rt (sRet_ok ls)))
theorem purse_loop (ns : List Int) (hn : ns.length ≤ 63) (few : Val) : ∀ (xs : List Nat) (acc : List Val) (st : Store), Wf st.nx st.m → acc.length + xs.length < 16777216 →
    ∃ (rs : List Nat) (s : Store), loopC gYes (.nm 2) bYes (eCall f__law_purse (aCons (eVar 0) (aCons (eVar 2) aNil))) [some (.rol (ns.map .int)), some few, none] (xs.map fun (i : Nat) => .int i) acc st = some (.ok (acc ++ rs.map .ref), s) ∧ Wf s.nx s.m ∧ (∀ r ∈ rs, PI s r 0 ∧ st.nx ≤ r) ∧ rs.Nodup ∧ (∀ j, j < st.nx → s.get j = st.get j) ∧ st.nx ≤ s.nx
  | [], acc, st, wf, _ => ⟨[], st, by simp [loopC, gYes], wf, by simp, by simp, fun _ _ => rfl, Nat.le_refl _⟩
  | i :: xs, acc, st, wf, hl => by
    rw [List.length_cons] at hl
    obtain ⟨a, b, e1, ha⟩ := purse_at ns hn i st
    have w1 : Wf (st.alloc (.lst [.int a, .int b, .int 0, .int i])).nx (st.alloc (.lst [.int a, .int b, .int 0, .int i])).m := wf.cons
    obtain ⟨rs, s, e2, w2, h2, nd, old, nx⟩ := purse_loop ns hn few xs (acc ++ [.ref st.nx]) _ w1 (by rw [List.length_append]; simp; omega)
    have nx1 : (st.alloc (.lst [.int a, .int b, .int 0, .int i])).nx = st.nx + 1 := rfl
    refine ⟨st.nx :: rs, s, ?_, w2, ?_, ?_, ?_, by omega⟩
    · have c : eCall f__law_purse (aCons (eVar 0) (aCons (eVar 2) aNil)) [some (.rol (ns.map .int)), some few, some (.int i)] st = some (.ok (.ref st.nx), st.alloc (.lst [.int a, .int b, .int 0, .int i])) := e_call (e_cons (e_var rfl) (e_cons (e_var rfl) e_nil)) e1
      have hb : bindT (.nm 2) (.int i) [some (.rol (ns.map .int)), some few, none] = some [some (.rol (ns.map .int)), some few, some (.int i)] := rfl
      have k0 : noErr (bYes [some (.rol (ns.map .int)), some few, some (.int i)]) st = some (.ok true, st) := rfl
      have k1 : noErr (eCall f__law_purse (aCons (eVar 0) (aCons (eVar 2) aNil)) [some (.rol (ns.map .int)), some few, some (.int i)]) st = some (.ok (.ref st.nx), st.alloc (.lst [.int a, .int b, .int 0, .int i])) := by unfold noErr; rw [c]
      have hl2 : acc.length < 16777216 := by omega
      rw [List.map_cons]
      simp only [loopC, gYes, if_true, hb, bd, k0, k1, if_pos hl2]
      refine e2.trans ?_
      simp
    · intro r hr
      rcases List.mem_cons.mp hr with rfl | hr
      · exact ⟨⟨a, b, 0, i, (old st.nx (by omega)).trans (by rw [get_alloc, if_pos rfl]), ha, by omega, by omega, by omega⟩, Nat.le_refl _⟩
      · have := h2 r hr
        exact ⟨this.1, by omega⟩
    · rw [List.nodup_cons]
      exact ⟨fun z => by have := (h2 _ z).2; omega, nd⟩
    · intro j hj
      rw [old j (by omega), get_alloc, if_neg (by omega)]
theorem e_rangeN {a : EF} {env : Env} {st s : Store} {n : Nat} (h : a env st = some (.ok (.int n), s)) (hn : n ≤ 16777216) : iRange1 a env st = some (.ok ((List.range n).map fun (i : Nat) => Val.int i, gYes), s) := by
  have hs : small62 (n : Int) = true := small_nat hn
  have rv := rangeV_eq n 0
  have e : (List.range n).map (fun (i : Nat) => Val.int ((0 + i : Nat) : Int)) = (List.range n).map fun (i : Nat) => Val.int i := List.map_congr_left fun i _ => by rw [Nat.zero_add]
  rw [e] at rv
  unfold iRange1 bd
  rw [h]
  dsimp only
  rw [if_pos hs, Int.toNat_natCast, show (0 : Int) = ((0 : Nat) : Int) from rfl, rv]
  rfl
theorem e_comp {own : List Nat} {tg : Tg} {cond : BT} {elt : EF} {it : IF} {env : Env} {st s s2 : Store} {vs acc : List Val} (hi : it env st = some (.ok (vs, gYes), s)) (hl : loopC gYes tg cond elt (wipeE env own) vs [] s.reserve = some (.ok acc, s2)) : eComp false own elt tg it cond env st = some (.ok (.lst acc), s2) := by
  unfold eComp
  simp only [bd, hi, hl]
end Pv.Q
/-! Rn: new lists, lists that draw; nothing of any one law. -/
namespace Pv.Q
open PySem
theorem e_ntru {e : EF} {env : Env} {st s : Store} (h : e env st = some (.ok (.bl true), s)) : bNot (bTru e) env st = some (.ok false, s) := by
  unfold bNot bTru bd
  rw [h]
  rfl
theorem x_skip {c : BT} {a : SF} {env : Env} {st s : Store} (h : c env st = some (.ok false, s)) : sIf c a sNil env st = some (.fl .nx env, s) := by
  unfold sIf bs
  rw [h]
  rfl
/-! ### new lists -/
/-- a new list vs at r; what stood stays -/
structure Nl (n : Nat) (m : Mem) (r : Nat) (vs : List Val) (s : Store) : Prop where
  ge : n ≤ r
  lt : r < s.nx
  wf : Wf s.nx s.m
  at_ : s.get r = some (.lst vs)
  old : ∀ j, j < n → s.get j = m.lookup j
def Ns (a : SF) (env : Env) (vs : List Val) : Prop := ∀ n m, Wf n m → ∃ r e s, a env ⟨n, m⟩ = some (.fl (.rt (.ref r)) e, s) ∧ Nl n m r vs s
theorem Nl.more {n n' : Nat} {m : Mem} {r : Nat} {vs : List Val} {s : Store} (h : Nl n' m r vs s) (hn : n ≤ n') : Nl n m r vs s := ⟨Nat.le_trans hn h.ge, h.lt, h.wf, h.at_, fun j hj => h.old j (Nat.lt_of_lt_of_le hj hn)⟩
section
variable {env : Env} {vs : List Val}
/-- a list of new lists -/
structure Nls (n : Nat) (m : Mem) (rs : List (Nat × List Val)) (s : Store) : Prop where
  le : n ≤ s.nx
  wf : Wf s.nx s.m
  ge : ∀ q ∈ rs, n ≤ q.1 ∧ q.1 < s.nx
  at_ : ∀ q ∈ rs, s.get q.1 = some (.lst q.2)
  nd : (rs.map (·.1)).Nodup
  old : ∀ j, j < n → s.get j = m.lookup j
/-! ### something put behind lists -/
theorem put_at {s : Store} {r j : Nat} {o o' : Obj} (h : s.get r = some o) : (s.put r o').get j = if j = r then some o' else s.get j := get_put (by rw [h]; simp)
end
/-! ### the law's own loop, in general -/
end Pv.Q
/-! Ro: what is told, looked at, spoilt, told anew. -/
namespace Pv.Q
open PySem
/-! ### with a list at r -/
section
variable {p K r : Nat} {env : Env} {vs : List Val} {P : Env → Prop} {b : SF}
end
/-- one of the numbers below n, in order -/
theorem im_range {p n : Nat} {env : Env} (hn : n ≤ 16777216) : Im p 0 (iRange1 (eLit (.int n)) env) (fun x => ∃ xs : List Nat, xs = List.range n ∧ xs.length ≤ n ∧ x = (xs.map fun (i : Nat) => .int i, gYes)) := Im.ru (fun m => ri_range ru_lit hn) ⟨List.range n, rfl, by rw [List.length_range]; exact Nat.le_refl _, rfl⟩
/-- a value at a place of the frame, whatever else stands there -/
theorem ru_comp1 {m : Mem} {env : Env} {ι : Type} {enc : ι → Val} {i : Nat} {cond : BT} {elt : EF} {it : IF} {p : ι → Bool} {f : ι → Val} {xs : List ι} (hl : i < env.length) (hi : Ru m (it env) (xs.map enc, gYes))
    (hc : ∀ q ∈ xs, Ru m (cond (env.set i (some (enc q)))) (p q)) (hf : ∀ q ∈ xs, p q = true → Ru m (elt (env.set i (some (enc q)))) (f q)) (hs : xs.length < 16777216) : Ru m (eComp false [i] elt (.nm i) it cond env) (.lst ((xs.filter p).map f)) := by
  have e : ∀ v, ((wipeE env [i]).set i (some v)) = env.set i (some v) := fun v => by simp [wipeE]
  refine ru_comp (W := fun q => env.set i (some (enc q))) hi (fun q _ => ?_) hc hf hs
  have h : i < (wipeE env [i]).length := by simpa [wipeE] using hl
  simp only [bindT, if_pos h, e]
theorem ru_map1 {m : Mem} {env : Env} {ι : Type} {enc : ι → Val} {i : Nat} {elt : EF} {it : IF} {f : ι → Val} {xs : List ι} (hl : i < env.length) (hi : Ru m (it env) (xs.map enc, gYes)) (hf : ∀ q ∈ xs, Ru m (elt (env.set i (some (enc q)))) (f q)) (hs : xs.length < 16777216) : Ru m (eComp false [i] elt (.nm i) it bYes env) (.lst (xs.map f)) := by
  have := ru_comp1 (p := fun _ => true) hl hi (fun q _ => rb_yes) (fun q hq _ => hf q hq) hs
  rwa [List.filter_eq_self.mpr (fun _ _ => rfl)] at this
end Pv.Q
/-! Rt: triples, forks, counted plainly. -/
namespace Pv.Q
open PySem
section
variable {E : Str → Str → Nat} (sym : ∀ a b, E a b = E b a) (irr : ∀ a, E a a = 0) (one : ∀ a b, E a b ≤ 1)
def hh (E : Str → Str → Nat) (t : Str × Str × Str) : Nat := E t.1 t.2.1 * E t.1 t.2.2 + (E t.1 t.2.1 * E t.2.1 t.2.2 + E t.1 t.2.2 * E t.2.1 t.2.2)
end
/-! ### of a world -/
/-! ### triples by places -/
/-! ### tallies -/
end Pv.Q
/-! Sb: the law's own triples. -/
namespace Pv.Q
open PySem
end Pv.Q
/-! Sc: blocks, loops with what is done, the law. -/
namespace Pv.Q
open PySem
/-! ### blocks -/
theorem im_ntru {p K : Nat} {e : EF} {env : Env} (h : Im p K (e env) (fun v => v = .bl true)) : Im p K (bNot (bTru e) env) (fun r => r = false) := fun st k w hb => by
  obtain ⟨v, s, q, rfl, rest⟩ := h st k w hb
  exact ⟨false, s, e_ntru q, rfl, rest⟩
theorem in_skip {p K : Nat} {c : BT} {a : SF} {env : Env} (h : Im p K (c env) (fun r => r = false)) : In p K (sIf c a sNil) env (fun e => e = env) := fun st k w hb => by
  obtain ⟨v, s, q, rfl, rest⟩ := h st k w hb
  exact ⟨env, s, x_skip q, rfl, rest⟩
/-! a for, with what is done -/
end Pv.Q
/-! Sa: companies changed; forks, odd people. -/
namespace Pv.Q
open PySem
section
variable {w : Wd} {q : Pr} {m : Mem} {env : Env} {x : Str}
/-! forks -/
end
end Pv.Q
/-! Rw: triples, plainly; what one deed moves. -/
namespace Pv.Q
open PySem
/-! as the loops tell them -/
/-! ### what a deed moves -/
end Pv.Q
/-! Rx: many told lists; a list that grows in a loop; numbers. -/
namespace Pv.Q
open PySem
section
variable {p K : Nat} {env : Env} {rs : List (Nat × List Val)} {P : Env → Prop} {b : SF}
end
end Pv.Q
/-! Ry: manners: what is let. -/
namespace Pv.Q
open PySem
/-! the opposite company -/
/-! the others of all kinds -/
/-! ### the program's reading -/
section
variable {m : Mem} {env : Env} {w : Wd} {q : Pr}
/-! the law's own reading -/
theorem in_imp {p K : Nat} {a : SF} {env : Env} {P P2 : Env → Prop} (h : In p K a env P) (k : ∀ e, P e → P2 e) : In p K a env P2 := fun st n w hb => by
  obtain ⟨e, s, q, pe, rest⟩ := h st n w hb
  exact ⟨e, s, q, k e pe, rest⟩
end
end Pv.Q
/-! Rz: numbers drawn; the law's own loop with an end; closed tables. -/
namespace Pv.Q
open PySem
/-! whole numbers sorted, so that it can be computed -/
theorem intL_inv : ∀ {xs : List Val} {is : List Int}, intL xs = some is → xs = is.map .int
  | [], is, e => by simp only [intL, Option.some.injEq] at e; subst e; rfl
  | v :: vs, is, e => by
    simp only [intL] at e
    split at e
    · rename_i i js e1 e2
      cases e
      cases v with
      | int j => cases e1; rw [intL_inv e2]; rfl
      | _ => cases e1
    · cases e
end Pv.Q
/-! Tc: the law's loop over its purses, and what stands behind it (out of Sh13, for any law). -/
namespace Pv.Q
open PySem
section
variable {env : Env}
theorem loopC_len {tg : Tg} {elt : EF} : ∀ (xs acc : List Val) (st : Store) (vs : List Val) (s : Store), loopC gYes tg bYes elt env xs acc st = some (.ok vs, s) → vs.length = acc.length + xs.length
  | [], acc, st, vs, s, e => by
    simp only [loopC, gYes, if_true, Option.some.injEq, Prod.mk.injEq, Out.ok.injEq] at e
    rw [← e.1]; rfl
  | x :: xs, acc, st, vs, s, e => by
    simp only [loopC, gYes, if_true] at e
    cases q : bindT tg x env with
    | none => rw [q] at e; cases e
    | some env1 =>
      rw [q] at e
      have k0 : noErr (bYes env1) st = some (.ok true, st) := rfl
      simp only [bd, k0] at e
      cases q2 : noErr (elt env1) st with
      | none => rw [q2] at e; cases e
      | some p =>
        obtain ⟨o, s2⟩ := p
        rw [q2] at e
        cases o with
        | err c v => cases e
        | ok y =>
          dsimp only at e
          split at e
          · have := loopC_len xs (acc ++ [y]) s2 vs s e
            rw [this, List.length_append, List.length_cons]
            simp
            omega
          · cases e
end
theorem purses_ne (ns : List Int) (hn : ns.length ≤ 63) (few : Nat) (hf : 1 ≤ few ∧ few ≤ 10) : ∃ (rs : List Nat) (s : Store), f__law_purses [.rol (ns.map .int), .int few] ⟨0, []⟩ = some (.ok (.lst (rs.map .ref)), s) ∧ Wf s.nx s.m ∧ (∀ r ∈ rs, PI s r 0) ∧ rs.Nodup ∧ rs ≠ [] := by
  let N : Nat := max 1 (min few ns.length)
  obtain ⟨rs, s, e1, wf, hr, nd, _, _⟩ := purse_loop ns hn (.int few) (List.range N) [] ⟨1, []⟩ Wf.nil (by rw [List.length_range]; show 0 + max 1 (min few ns.length) < _; omega)
  have ne : rs ≠ [] := fun z => by
    have := loopC_len _ _ _ _ _ e1
    rw [z] at this
    simp only [List.map_nil, List.append_nil, List.length_nil, List.length_map, List.length_range] at this
    have : 1 ≤ N := Nat.le_max_left _ _
    omega
  rw [List.nil_append] at e1
  let env0 : Env := [some (.rol (ns.map .int)), some (.int few), none]
  have ln : eCall fLen (aCons (eVar 0) aNil) env0 ⟨0, []⟩ = some (.ok (.int ns.length), ⟨0, []⟩) := by
    refine e_call (e_cons (e_var rfl) e_nil) ?_
    simp only [fLen, asQ, asL, List.length_map]
  have mn : eCall fMin2 (aCons (eVar 1) (aCons (eCall fLen (aCons (eVar 0) aNil)) aNil)) env0 ⟨0, []⟩ = some (.ok (.int ((min few ns.length : Nat) : Int)), ⟨0, []⟩) := by
    refine e_call (e_cons (v := .int few) (e_var rfl) (e_cons ln e_nil)) ?_
    show some (Out.ok (Val.int (if (ns.length : Int) < few then (ns.length : Int) else few)), _) = _
    have : (if (ns.length : Int) < few then (ns.length : Int) else few) = ((min few ns.length : Nat) : Int) := by split <;> omega
    rw [this]
  have mx : eCall fMax2 (aCons (eLit (.int 1)) (aCons (eCall fMin2 (aCons (eVar 1) (aCons (eCall fLen (aCons (eVar 0) aNil)) aNil))) aNil)) env0 ⟨0, []⟩ = some (.ok (.int N), ⟨0, []⟩) := by
    refine e_call (e_cons (v := .int 1) (s := ⟨0, []⟩) rfl (e_cons mn e_nil)) ?_
    show some (Out.ok (Val.int (if ((min few ns.length : Nat) : Int) > 1 then ((min few ns.length : Nat) : Int) else 1)), _) = some (Out.ok (Val.int ((max 1 (min few ns.length) : Nat) : Int)), _)
    have : (if ((min few ns.length : Nat) : Int) > 1 then ((min few ns.length : Nat) : Int) else 1) = ((max 1 (min few ns.length) : Nat) : Int) := by split <;> omega
    rw [this]
  have rg := e_rangeN mx (by show max 1 (min few ns.length) ≤ _; omega)
  have pe : f__law_purses [.rol (ns.map .int), .int few] ⟨0, []⟩ = some (.ok (.lst (rs.map .ref)), s) := by
    unfold f__law_purses
    exact mkFn_rt (e := env0) rfl (sCons_rt (sRet_ok (e_comp (own := [2]) rg e1)))
  exact ⟨rs, s, pe, wf, fun r hr2 => (hr r hr2).1, nd, ne⟩
/-- the loop over the purses; the last one is at hand behind it -/
theorem law_loopL {K : Nat} {B : SF} {J : Env → Prop} {I : Nat → Env → Prop} (hK : K < big) (hJ : ∀ r e, I r e → J e) (step : ∀ r e, J e → ∃ e1, bindT (.nm 1) (.ref r) e = some e1 ∧ In r K B e1 (I r)) : ∀ (rs : List Nat) (e : Env) (st : Store), rs ≠ [] → J e → Wf st.nx st.m → (∀ r ∈ rs, PI st r 0) → rs.Nodup →
    ∃ r e' s, loopF gYes (.nm 1) B (rs.map .ref) e st = some (.fl .nx e', s) ∧ I r e' ∧ PW s r K
  | [], e, st, ne, _, _, _, _ => absurd rfl ne
  | [r], e, st, _, j, wf, hp, _ => by
    obtain ⟨e1, b1, hB⟩ := step r e j
    obtain ⟨e2, s, q, i2, w1, f1⟩ := hB st 0 ⟨hp r (List.mem_cons_self ..), wf⟩ (by omega)
    refine ⟨r, e2, s, ?_, i2, by simpa using w1⟩
    simp only [List.map_cons, List.map_nil, loopF, gYes, if_true, b1, q]
  | r :: r' :: rs, e, st, _, j, wf, hp, nd => by
    rw [List.nodup_cons] at nd
    obtain ⟨e1, b1, hB⟩ := step r e j
    obtain ⟨e2, s, q, i2, w1, f1⟩ := hB st 0 ⟨hp r (List.mem_cons_self ..), wf⟩ (by omega)
    have hp2 : ∀ q ∈ r' :: rs, PI s q 0 := fun q hq => by
      obtain ⟨a, b, c, d, h1, h2, h3, h4, h5⟩ := hp q (List.mem_cons_of_mem _ hq)
      have ne : q ≠ r := fun e => nd.1 (e ▸ hq)
      exact ⟨a, b, c, d, (f1.old q h5 ne).trans h1, h2, h3, h4, Nat.lt_of_lt_of_le h5 f1.nx⟩
    obtain ⟨z, e3, s2, q3, i3, w3⟩ := law_loopL hK hJ step (r' :: rs) e2 s (by simp) (hJ r e2 i2) w1.2 hp2 nd.2
    refine ⟨z, e3, s2, ?_, i3, w3⟩
    rw [List.map_cons]
    simp only [loopF, gYes, if_true, b1, q]
    exact q3
theorem law_driveL {K K2 few N : Nat} {B C : SF} {J : Env → Prop} {I : Nat → Env → Prop} (hK : K + K2 < big) (hf : 1 ≤ few ∧ few ≤ 10) (h0 : ∀ v, J (startE N [v])) (hJ : ∀ r e, I r e → J e) (step : ∀ r e, J e → ∃ e1, bindT (.nm 1) (.ref r) e = some e1 ∧ In r K B e1 (I r)) (hC : ∀ r e, I r e → Ir r K2 C e (fun v => v = .bl true)) : ∀ ns : List Int, ns.length ≤ 63 → ∃ st, mkFn N 1
    (sCons (sFor (.nm 1) (iSeq (eCall f__law_purses (aCons (eVar 0) (aCons (eLit (.int few)) aNil)))) B) C) [.rol (ns.map .int)] ⟨0, []⟩ = some (.ok (.bl true), st) := by
  intro ns hn
  obtain ⟨rs, s, pe, wf, hr, nd, ne⟩ := purses_ne ns hn few hf
  have it : iSeq (eCall f__law_purses (aCons (eVar 0) (aCons (eLit (.int few)) aNil))) (startE N [.rol (ns.map .int)]) ⟨0, []⟩ = some (.ok (rs.map .ref, gYes), s) := by
    have := e_call (env := startE N [.rol (ns.map .int)]) (f := f__law_purses) (e_cons (a := eVar 0) (v := .rol (ns.map .int)) (e_var rfl) (e_cons (a := eLit (.int few)) (v := .int few) rfl e_nil)) pe
    unfold iSeq bd
    rw [this]
    rfl
  obtain ⟨r, e', s2, e2, i2, w2⟩ := law_loopL (by omega) hJ step rs (startE N [.rol (ns.map .int)]) s ne (h0 _) wf hr nd
  have fo : sFor (.nm 1) (iSeq (eCall f__law_purses (aCons (eVar 0) (aCons (eLit (.int few)) aNil)))) B (startE N [.rol (ns.map .int)]) ⟨0, []⟩ = some (.fl .nx e', s2) := by
    unfold sFor bs
    rw [it]
    exact e2
  obtain ⟨v, e3, s3, q3, rfl, _, _⟩ := hC r e' i2 s2 K w2 hK
  exact ⟨_, mkFn_rt (e := e3) rfl (x_cons fo q3)⟩
end Pv.Q
/-! Tb: sorting by insertion, which the kernel can run. -/
namespace Pv.Q
open PySem
def insV (a : Val) : List Val → List Val
  | [] => [a]
  | b :: l => if leV a b then a :: b :: l else b :: insV a l
def isortV : List Val → List Val
  | [] => []
  | a :: l => insV a (isortV l)
theorem insV_at (a : Val) : ∀ (l₁ l₂ : List Val), (∀ b ∈ l₁, leV a b = false) → (∀ b ∈ l₂, leV a b = true) → insV a (l₁ ++ l₂) = l₁ ++ a :: l₂
  | [], [], _, _ => rfl
  | [], b :: l, _, h => by rw [List.nil_append, insV, if_pos (h b (List.mem_cons_self ..))]; rfl
  | b :: l₁, l₂, h, k => by
    rw [List.cons_append, insV, if_neg (by rw [h b (List.mem_cons_self ..)]; decide), insV_at a l₁ l₂ (fun c hc => h c (List.mem_cons_of_mem _ hc)) k]
    rfl
theorem sortV_ins : ∀ xs : List Val, sortV xs = isortV xs
  | [] => by unfold sortV; simp [isortV]
  | a :: xs => by
    obtain ⟨l₁, l₂, e1, e2, h⟩ := List.mergeSort_cons (le := leV) (fun a b c => leV_trans) leV_total a xs
    have e1 : sortV (a :: xs) = l₁ ++ a :: l₂ := e1
    have e2 : sortV xs = l₁ ++ l₂ := e2
    have pw := sortV_pw (a :: xs)
    rw [e1] at pw
    have k := (List.pairwise_cons.mp (List.pairwise_append.mp pw).2.1).1
    rw [e1, isortV, ← sortV_ins xs, e2, insV_at a l₁ l₂ (fun b hb => by simpa using h b hb) k]
end Pv.Q
/-! Sa56: what the closed functions give, computed. -/
namespace Pv.Q
open PySem
def same (a b : Option Val) : Bool := match a, b with
  | some x, some y => beqV x y
  | _, _ => false
theorem same_eq {a : Option Val} {v : Val} (h : same a (some v) = true) : a = some v := by
  cases a with
  | none => cases h
  | some x => rw [beqV_eq x v h]
def chkI : Option Val → Option Val → Bool
  | some (.int i), some (.int j) => i == j
  | _, _ => false
theorem chkI_eq {a b : Option Val} (h : chkI a b = true) : ∃ x : Int, a = some (.int x) ∧ b = some (.int x) := by
  unfold chkI at h
  split at h
  · rw [beq_iff_eq] at h; exact ⟨_, rfl, by rw [h]⟩
  · cases h
def fSortedV (m : Bool) : BF := fun vs st => match vs with
  | [v] => match asL st v with
    | some xs => match toDs xs with
      | some ds => if allAlike ds && sortable ds && SeqAt.shaped (.list ds) && xs.length ≤ 16777216 then newL m (isortV xs) st else none
      | none => none
    | none => none
  | _ => none
theorem fSorted_V : fSorted = fSortedV := by
  have e : sortV = isortV := funext sortV_ins
  unfold fSorted fSortedV
  rw [e] <;> rfl
theorem ruR {f : BF} {vs : List Val} {v : Val} (h : run (locF f) vs = some v) (m : Mem) : Ru m ((locF f) vs) v := Ru.of fun n => locF_run h _

theorem loc_exact {N k : Nat} {a : SF} {vs : List Val} {v : Val} {m' : Mem} (hl : vs.length = k) (h : Rm a (startE N vs) [] v m') (gv : gnds vs = true) (gw : gnd v = true) (st : Store) : locF (mkFn N k a) vs st = some (.ok v, st) := by
  obtain ⟨n1, e, l1, w1, q1⟩ := h 0 Wf.nil
  have q : mkFn N k a vs ⟨0, []⟩ = some (.ok v, ⟨n1, m'⟩) := by unfold mkFn; rw [if_pos hl, q1]
  unfold locF
  rw [if_pos gv, q]
  dsimp only
  rw [if_pos gw]
/-! ### the parity of what two rows share, in short -/
def smallI (is : List Int) : Bool := decide (is.length < 100) && is.all fun i => decide (-100 < i) && decide (i < 100)
def dot (is js : List Int) : Int := ((is.zip js).map fun q => q.1 * q.2).sum
theorem zipV_ints : ∀ (is js : List Int), zipV (is.map .int) (js.map .int) = (is.zip js).map fun q => .tup [.int q.1, .int q.2]
  | [], _ => by simp [zipV]
  | _ :: _, [] => by simp [zipV]
  | i :: is, j :: js => by simp only [List.map_cons, zipV, List.zip_cons_cons, zipV_ints is js]
theorem small_at {is : List Int} (h : smallI is = true) : is.length < 100 ∧ ∀ i ∈ is, -100 < i ∧ i < 100 := by
  unfold smallI at h
  rw [Bool.and_eq_true, decide_eq_true_eq] at h
  refine ⟨h.1, fun i hi => ?_⟩
  have := List.all_eq_true.mp h.2 i hi
  rw [Bool.and_eq_true, decide_eq_true_eq, decide_eq_true_eq] at this
  exact this
theorem gndsI : ∀ is : List Int, gnds (is.map .int) = true
  | [] => rfl
  | i :: is => by rw [List.map_cons, gnds, gndsI is]; rfl
theorem intL_map : ∀ is : List Int, intL (is.map .int) = some is
  | [] => rfl
  | i :: is => by rw [List.map_cons, intL, intL_map is]; rfl
theorem share_ok {is js : List Int} (h : smallI is = true) (h2 : smallI js = true) {y : Val} (hy : y = .tup (js.map .int) ∨ y = .lst (js.map .int)) (st : Store) : f__law_share [.tup (is.map .int), y] st = some (.ok (.int (dot is js % 2)), st) := by
  obtain ⟨l1, s1⟩ := small_at h
  obtain ⟨l2, s2⟩ := small_at h2
  have gy : gnd y = true := by rcases hy with rfl | rfl <;> exact gndsI js
  unfold f__law_share
  refine loc_exact (m' := []) rfl (rm_first (rm_ret ?_)) (by simp only [gnds, gnd, gndsI, gy, Bool.and_self]) rfl st
  let env : Env := startE 4 [.tup (is.map .int), y]
  have hz : Ru [] (iZipX (eVar 0) (eVar 1) env) ((is.zip js).map (fun q : Int × Int => Val.tup [.int q.1, .int q.2]), gYes) := (ru_var (v := .tup (is.map .int)) rfl).bd ((ru_var (v := y) rfl).bd (Ru.rd fun n => by
    rcases hy with rfl | rfl
    · show some (zipV _ _, gYes) = _
      rw [zipV_ints]
    · show some (zipV _ _, gYes) = _
      rw [zipV_ints]))
  have c := ru_comp (m := []) (env := env) (own := [3, 2]) (tg := .tup [.nm 3, .nm 2]) (cond := bYes) (elt := eBin .Mult (eVar 3) (eVar 2)) (it := iZipX (eVar 0) (eVar 1)) (W := fun q : Int × Int => [some (.tup (is.map .int)), some y, some (.int q.2), some (.int q.1)]) (p := fun _ => true) (f := fun q => .int (q.1 * q.2)) hz (fun q _ => rfl) (fun q _ => rb_yes) (fun q hq _ => by
    have m1 := s1 q.1 (List.of_mem_zip hq).1
    exact ru_bin (ru_var rfl) (ru_var rfl) (bin_mul (mulOk_l (by omega)))) (by rw [List.length_zip]; omega)
  rw [List.filter_eq_self.mpr (fun _ _ => rfl)] at c
  have s := ru_call1 (f := fSum) c (v := .int (dot is js)) (Ru.of fun n => by
    have e : intL ((is.zip js).map fun q => Val.int (q.1 * q.2)) = some ((is.zip js).map fun q => q.1 * q.2) := by
      rw [← intL_map ((is.zip js).map fun q => q.1 * q.2), List.map_map]; rfl
    unfold fSum
    dsimp only [asL]
    rw [e]
    rfl)
  exact ru_bin (ru_intI s) ru_lit (bin_mod (by decide))
def shF : BF := fun vs st => match vs with
  | [.tup xs, .tup ys] => (match intL xs, intL ys with
    | some is, some js => if smallI is && smallI js then some (.ok (.int (dot is js % 2)), st) else f__law_share vs st
    | _, _ => f__law_share vs st)
  | [.tup xs, .lst ys] => (match intL xs, intL ys with
    | some is, some js => if smallI is && smallI js then some (.ok (.int (dot is js % 2)), st) else f__law_share vs st
    | _, _ => f__law_share vs st)
  | _ => f__law_share vs st
theorem sh_eq : f__law_share = shF := by
  funext vs st
  unfold shF
  split
  · split
    · rename_i xs ys _ _ is js q1 q2
      split
      · rename_i h
        rw [Bool.and_eq_true] at h
        rw [intL_inv q1, intL_inv q2]
        exact share_ok h.1 h.2 (.inl rfl) st
      · rfl
    · rfl
  · split
    · rename_i xs ys _ _ is js q1 q2
      split
      · rename_i h
        rw [Bool.and_eq_true] at h
        rw [intL_inv q1, intL_inv q2]
        exact share_ok h.1 h.2 (.inr rfl) st
      · rfl
    · rfl
  · rfl
def UnI : List Int := [1, 0, 1, 0, 28, 0, 13888, 0, 112881664, 0, 14766727757824, 0, 30952951521552105472, 0, 1038481923739784380093038592]
def NumI : Nat → List Int
  | 1 => [1] | 2 => [1, 1] | 3 => [1, 3] | 4 => [1, 7, 3] | 5 => [1, 15, 15] | _ => [1, 31, 75, 15]
def numL (m : Nat) : List Int := NumI m ++ List.replicate 6 0
theorem fam_all : ((List.range 15).all fun m => (List.range 10).all fun s => m == 0 || chkI (run f_even_families [.int (m : Nat), .int (s : Nat)]) (run (f__law_families 3) [.int (m : Nat), .int (s : Nat)])) = true := by decide +kernel
theorem unt_all : ((List.range 15).all fun m => same (run f_untied_companies [.int (m : Nat)]) (some (.int (UnI.getD m 0)))) = true := by decide +kernel
theorem unt_to : same (run f__law_untied_to [.int 14]) (some (.lst (UnI.map .int))) = true := by decide +kernel
theorem num_all : ([1, 2, 3, 4, 5, 6].all fun m => (List.range 5).all fun s => same (run f_even_families [.int (m : Nat), .int (s : Nat)]) (some (.int ((numL m).getD s 0)))) = true := by decide +kernel
theorem told_1 : run f_even_families [.int 2, .int 1] = some (.int 1) := same_eq (by decide +kernel)
theorem told_2 : run f_even_families [.int 4, .int 2] = some (.int 3) := same_eq (by decide +kernel)
theorem told_3 : run f_even_families [.int 6, .int 3] = some (.int 15) := same_eq (by decide +kernel)
theorem told_4 : run f_even_families [.int 5, .int 3] = some (.int 0) := same_eq (by decide +kernel)
theorem cnt_0 : same (run f__law_counted_untied [.int 0]) (some (.int 1)) = true := by unfold f__law_counted_untied; rw [sh_eq]; decide +kernel
theorem cnt_1 : same (run f__law_counted_untied [.int 1]) (some (.int 0)) = true := by unfold f__law_counted_untied; rw [sh_eq]; decide +kernel
theorem cnt_2 : same (run f__law_counted_untied [.int 2]) (some (.int 1)) = true := by unfold f__law_counted_untied; rw [sh_eq]; decide +kernel
theorem cnt_3 : same (run f__law_counted_untied [.int 3]) (some (.int 0)) = true := by unfold f__law_counted_untied; rw [sh_eq]; decide +kernel
theorem cnt_4 : same (run f__law_counted_untied [.int 4]) (some (.int 28)) = true := by unfold f__law_counted_untied; rw [sh_eq]; decide +kernel
theorem cfm_1 : same (run f__law_counted_families [.int 1]) (some (.lst [.int 1])) = true := by unfold f__law_counted_families; rw [fSorted_V, sh_eq]; decide +kernel
theorem cfm_2 : same (run f__law_counted_families [.int 2]) (some (.lst [.int 1, .int 1])) = true := by unfold f__law_counted_families; rw [fSorted_V, sh_eq]; decide +kernel
theorem cfm_3 : same (run f__law_counted_families [.int 3]) (some (.lst [.int 1, .int 3])) = true := by unfold f__law_counted_families; rw [fSorted_V, sh_eq]; decide +kernel
theorem cfm_4 : same (run f__law_counted_families [.int 4]) (some (.lst [.int 1, .int 7, .int 3])) = true := by unfold f__law_counted_families; rw [fSorted_V, sh_eq]; decide +kernel
theorem cfm_5 : same (run f__law_counted_families [.int 5]) (some (.lst [.int 1, .int 15, .int 15])) = true := by unfold f__law_counted_families; rw [fSorted_V, sh_eq]; decide +kernel
end Pv.Q
/-! Sb56: the families of six people, computed (printed by tools/k56chunks.py). -/
namespace Pv.Q
open PySem
def rw6 (x : Nat) : Val := .tup ([32, 16, 8, 4, 2, 1].map fun w => .int (if x / w % 2 = 1 then 1 else 0))
def fmV (xs : List Nat) : Val := .lst (xs.map rw6)
def kyV (xs : List Nat) : Val := .tup (xs.map rw6)
def rowB : SF := sCons (sIf (bAnd (bCmp .NotIn (eVar 6) (eVar 5)) (bNot (bTru (eCall fAnyI (aCons (eComp false [8] (eCall shF (aCons (eVar 6) (aCons (eVar 8) aNil))) (.nm 8) (iSeq (eVar 5)) bYes) aNil)))))
    (sCons (sSet (.nm 7) (eCall (fSortedV false) (aCons (eBin .Add (eVar 5) (eComp false [8] (eCall f__law_differ (aCons (eVar 6) (aCons (eVar 8) aNil))) (.nm 8) (iSeq (eVar 5)) bYes)) aNil)))
    (sCons (sNSub (eVar 4) (eCall fTuple (aCons (eVar 7) aNil)) (eVar 7))
    sNil))
    sNil)
    sNil
def famB : SF := sCons (sFor (.nm 6) (iSeq (eVar 1)) rowB) sNil
def whB : SF := sCons (sExpr (eMl mAppend (eVar 3) (aCons (eCall fLen (aCons (eVar 2) aNil)) aNil)))
    (sCons (sSet (.nm 4) eNNew)
    (sCons (sFor (.nm 5) (iSeq (eVar 2)) famB)
    (sCons (sSet (.nm 2) (eNVals false (eVar 4)))
    sNil)))
def cfB : SF := sCons (sSet (.nm 1) (eComp false [6] (eVar 6) (.nm 6) (iSeq (eCall f__law_lists (aCons (eVar 0) aNil))) (bCmp .Eq (eBin .Mod (eCall fInt (aCons (eCall fSumT (aCons (eVar 6) aNil)) aNil)) (eLit (.int 2))) (eLit (.int 0)))))
    (sCons (sPar2 2 3 (aCons (eLst false (aCons (eLst false (aCons (eSub (eVar 1) (eLit (.int 0))) aNil)) aNil)) (aCons (eLst true aNil) aNil)))
    (sCons (sWhile (bCmp .NotEq (eVar 2) (eLst false aNil)) whB)
    (sCons (sRet (eFrz (eVar 3)))
    sNil)))
theorem cf_eq : f__law_counted_families = locF (mkFn 9 1 cfB) := by
  unfold f__law_counted_families
  rw [fSorted_V, sh_eq]
  rfl
def eqO : Option Val → Option Val → Bool
  | some a, some b => beqV a b
  | none, none => true
  | _, _ => false
def eqE : Env → Env → Bool
  | [], [] => true
  | a :: r, b :: s => eqO a b && eqE r s
  | _, _ => false
def eqOb : Obj → Obj → Bool
  | .lst a, .lst b => beqVs a b
  | .ndc a c, .ndc b d => beqVs a b && beqVs c d
  | _, _ => false
def eqM : List (Nat × Obj) → List (Nat × Obj) → Bool
  | [], [] => true
  | (i, a) :: r, (j, b) :: s => i == j && eqOb a b && eqM r s
  | _, _ => false
theorem eqO_eq {a b : Option Val} (h : eqO a b = true) : a = b := by
  unfold eqO at h
  split at h
  · rw [beqV_eq _ _ h]
  · rfl
  · cases h
theorem eqE_eq : ∀ {a b : Env}, eqE a b = true → a = b
  | [], [], _ => rfl
  | [], _ :: _, h => by cases h
  | _ :: _, [], h => by cases h
  | a :: r, b :: s, h => by
    rw [eqE, Bool.and_eq_true] at h
    rw [eqO_eq h.1, eqE_eq h.2]
theorem eqOb_eq {a b : Obj} (h : eqOb a b = true) : a = b := by
  unfold eqOb at h
  split at h
  · rw [beqVs_eq _ _ h]
  · rw [Bool.and_eq_true] at h
    rw [beqVs_eq _ _ h.1, beqVs_eq _ _ h.2]
  · cases h
theorem eqM_eq : ∀ {a b : List (Nat × Obj)}, eqM a b = true → a = b
  | [], [], _ => rfl
  | [], _ :: _, h => by simp [eqM] at h
  | _ :: _, [], h => by simp [eqM] at h
  | (i, a) :: r, (j, b) :: s, h => by
    rw [eqM, Bool.and_eq_true, Bool.and_eq_true, beq_iff_eq] at h
    rw [h.1.1, eqOb_eq h.1.2, eqM_eq h.2]
def okR (x : Option (OS × Store)) (e : Env) (s : Store) : Bool := match x with
  | some (.fl .nx e1, s1) => eqE e1 e && s1.nx == s.nx && eqM s1.m s.m
  | _ => false
theorem okR_eq {x : Option (OS × Store)} {e : Env} {s : Store} (h : okR x e s = true) : x = some (.fl .nx e, s) := by
  unfold okR at h
  split at h
  · rename_i e1 s1
    rw [Bool.and_eq_true, Bool.and_eq_true, beq_iff_eq] at h
    obtain ⟨n, m⟩ := s1
    obtain ⟨n2, m2⟩ := s
    rw [eqE_eq h.1.1, (show n = n2 from h.1.2), (show m = m2 from eqM_eq h.2)]
  · cases h
theorem loopF_app {t : Tg} {b : SF} {e : Env} {s : Store} {ys : List Val} : ∀ (xs : List Val) {env : Env} {st : Store}, loopF gYes t b xs env st = some (.fl .nx e, s) → (∀ x ∈ xs, ∀ env st e s, b env st ≠ some (.fl .br e, s)) → loopF gYes t b (xs ++ ys) env st = loopF gYes t b ys e s
  | [], env, st, h, _ => by
    simp only [loopF, gYes, if_true, Option.some.injEq, Prod.mk.injEq, OS.fl.injEq, true_and] at h
    rw [List.nil_append, h.1, h.2]
  | x :: xs, env, st, h, nb => by
    simp only [List.cons_append, loopF, gYes, if_true] at h ⊢
    cases q : bindT t x env with
    | none => rw [q] at h; cases h
    | some env1 =>
      rw [q] at h
      dsimp only at h ⊢
      cases q2 : b env1 st with
      | none => rw [q2] at h; cases h
      | some p =>
        obtain ⟨o, s1⟩ := p
        rw [q2] at h
        cases o with
        | er c v e1 => cases h
        | fl f e1 =>
          cases f with
          | nx => exact loopF_app xs h fun y hy => nb y (List.mem_cons_of_mem _ hy)
          | ct => exact loopF_app xs h fun y hy => nb y (List.mem_cons_of_mem _ hy)
          | br => exact absurd q2 (nb x (List.mem_cons_self ..) _ _ _ _)
          | rt v => cases h
def evV : Val := .lst ([0, 48, 40, 24, 36, 20, 12, 60, 34, 18, 10, 58, 6, 54, 46, 30, 33, 17, 9, 57, 5, 53, 45, 29, 3, 51, 43, 27, 39, 23, 15, 63].map rw6)
def ly1 : List (List Nat) := [[0]]
def fd1_0 : List (List Nat) := []
def fd1_1 : List (List Nat) := [[0, 48], [0, 40], [0, 24], [0, 36], [0, 20], [0, 12], [0, 60], [0, 34], [0, 18], [0, 10], [0, 58], [0, 6], [0, 54], [0, 46], [0, 30], [0, 33], [0, 17], [0, 9], [0, 57], [0, 5], [0, 53], [0, 45], [0, 29], [0, 3], [0, 51], [0, 43], [0, 27], [0, 39], [0, 23], [0, 15], [0, 63]]
def en1_0 : Env := [some (.int 6), some evV, some (.lst (ly1.map fmV)), some (.ref 1), some (.ref 2), none, none, none, none]
def st1_0 : Store := ⟨3, [(2, .ndc (fd1_0.map kyV) (fd1_0.map fmV)), (1, .lst [.int 1])]⟩
def en1_1 : Env := [some (.int 6), some evV, some (.lst (ly1.map fmV)), some (.ref 1), some (.ref 2), some (fmV [0]), some (rw6 63), some (fmV [0, 63]), none]
def st1_1 : Store := ⟨65, [(2, .ndc (fd1_1.map kyV) (fd1_1.map fmV)), (1, .lst [.int 1])]⟩
theorem ch1_0 : okR (loopF gYes (.nm 5) famB (((ly1.drop 0).take 1).map fmV) en1_0 st1_0) en1_1 st1_1 = true := by decide +kernel
def ly2 : List (List Nat) := [[0, 48], [0, 40], [0, 24], [0, 36], [0, 20], [0, 12], [0, 60], [0, 34], [0, 18], [0, 10], [0, 58], [0, 6], [0, 54], [0, 46], [0, 30], [0, 33], [0, 17], [0, 9], [0, 57], [0, 5], [0, 53], [0, 45], [0, 29], [0, 3], [0, 51], [0, 43], [0, 27], [0, 39], [0, 23], [0, 15], [0, 63]]
def fd2_0 : List (List Nat) := []
def fd2_1 : List (List Nat) := [[0, 12, 48, 60], [0, 10, 48, 58], [0, 6, 48, 54], [0, 9, 48, 57], [0, 5, 48, 53], [0, 3, 48, 51], [0, 15, 48, 63], [0, 20, 40, 60], [0, 18, 40, 58], [0, 6, 40, 46], [0, 17, 40, 57], [0, 5, 40, 45], [0, 3, 40, 43], [0, 23, 40, 63], [0, 24, 36, 60], [0, 24, 34, 58], [0, 6, 24, 30], [0, 24, 33, 57], [0, 5, 24, 29], [0, 3, 24, 27], [0, 24, 39, 63], [0, 18, 36, 54], [0, 10, 36, 46], [0, 17, 36, 53], [0, 9, 36, 45], [0, 3, 36, 39], [0, 27, 36, 63], [0, 20, 34, 54], [0, 10, 20, 30], [0, 20, 33, 53], [0, 9, 20, 29], [0, 3, 20, 23], [0, 20, 43, 63], [0, 12, 34, 46], [0, 12, 18, 30], [0, 12, 33, 45], [0, 12, 17, 29], [0, 3, 12, 15], [0, 12, 51, 63], [0, 3, 60, 63], [0, 15, 51, 60], [0, 23, 43, 60], [0, 27, 39, 60], [0, 17, 34, 51], [0, 9, 34, 43], [0, 5, 34, 39], [0, 29, 34, 63], [0, 18, 33, 51], [0, 9, 18, 27], [0, 5, 18, 23], [0, 18, 45, 63]]
def fd2_2 : List (List Nat) := [[0, 12, 48, 60], [0, 10, 48, 58], [0, 6, 48, 54], [0, 9, 48, 57], [0, 5, 48, 53], [0, 3, 48, 51], [0, 15, 48, 63], [0, 20, 40, 60], [0, 18, 40, 58], [0, 6, 40, 46], [0, 17, 40, 57], [0, 5, 40, 45], [0, 3, 40, 43], [0, 23, 40, 63], [0, 24, 36, 60], [0, 24, 34, 58], [0, 6, 24, 30], [0, 24, 33, 57], [0, 5, 24, 29], [0, 3, 24, 27], [0, 24, 39, 63], [0, 18, 36, 54], [0, 10, 36, 46], [0, 17, 36, 53], [0, 9, 36, 45], [0, 3, 36, 39], [0, 27, 36, 63], [0, 20, 34, 54], [0, 10, 20, 30], [0, 20, 33, 53], [0, 9, 20, 29], [0, 3, 20, 23], [0, 20, 43, 63], [0, 12, 34, 46], [0, 12, 18, 30], [0, 12, 33, 45], [0, 12, 17, 29], [0, 3, 12, 15], [0, 12, 51, 63], [0, 3, 60, 63], [0, 15, 51, 60], [0, 23, 43, 60], [0, 27, 39, 60], [0, 17, 34, 51], [0, 9, 34, 43], [0, 5, 34, 39], [0, 29, 34, 63], [0, 18, 33, 51], [0, 9, 18, 27], [0, 5, 18, 23], [0, 18, 45, 63], [0, 10, 33, 43], [0, 10, 17, 27], [0, 5, 10, 15], [0, 10, 53, 63], [0, 5, 58, 63], [0, 15, 53, 58], [0, 23, 45, 58], [0, 29, 39, 58], [0, 6, 33, 39], [0, 6, 17, 23], [0, 6, 9, 15], [0, 6, 57, 63], [0, 9, 54, 63], [0, 15, 54, 57], [0, 27, 45, 54], [0, 29, 43, 54], [0, 17, 46, 63], [0, 23, 46, 57], [0, 27, 46, 53], [0, 29, 46, 51]]
def fd2_3 : List (List Nat) := [[0, 12, 48, 60], [0, 10, 48, 58], [0, 6, 48, 54], [0, 9, 48, 57], [0, 5, 48, 53], [0, 3, 48, 51], [0, 15, 48, 63], [0, 20, 40, 60], [0, 18, 40, 58], [0, 6, 40, 46], [0, 17, 40, 57], [0, 5, 40, 45], [0, 3, 40, 43], [0, 23, 40, 63], [0, 24, 36, 60], [0, 24, 34, 58], [0, 6, 24, 30], [0, 24, 33, 57], [0, 5, 24, 29], [0, 3, 24, 27], [0, 24, 39, 63], [0, 18, 36, 54], [0, 10, 36, 46], [0, 17, 36, 53], [0, 9, 36, 45], [0, 3, 36, 39], [0, 27, 36, 63], [0, 20, 34, 54], [0, 10, 20, 30], [0, 20, 33, 53], [0, 9, 20, 29], [0, 3, 20, 23], [0, 20, 43, 63], [0, 12, 34, 46], [0, 12, 18, 30], [0, 12, 33, 45], [0, 12, 17, 29], [0, 3, 12, 15], [0, 12, 51, 63], [0, 3, 60, 63], [0, 15, 51, 60], [0, 23, 43, 60], [0, 27, 39, 60], [0, 17, 34, 51], [0, 9, 34, 43], [0, 5, 34, 39], [0, 29, 34, 63], [0, 18, 33, 51], [0, 9, 18, 27], [0, 5, 18, 23], [0, 18, 45, 63], [0, 10, 33, 43], [0, 10, 17, 27], [0, 5, 10, 15], [0, 10, 53, 63], [0, 5, 58, 63], [0, 15, 53, 58], [0, 23, 45, 58], [0, 29, 39, 58], [0, 6, 33, 39], [0, 6, 17, 23], [0, 6, 9, 15], [0, 6, 57, 63], [0, 9, 54, 63], [0, 15, 54, 57], [0, 27, 45, 54], [0, 29, 43, 54], [0, 17, 46, 63], [0, 23, 46, 57], [0, 27, 46, 53], [0, 29, 46, 51], [0, 30, 33, 63], [0, 30, 39, 57], [0, 30, 43, 53], [0, 30, 45, 51]]
def fd2_4 : List (List Nat) := [[0, 12, 48, 60], [0, 10, 48, 58], [0, 6, 48, 54], [0, 9, 48, 57], [0, 5, 48, 53], [0, 3, 48, 51], [0, 15, 48, 63], [0, 20, 40, 60], [0, 18, 40, 58], [0, 6, 40, 46], [0, 17, 40, 57], [0, 5, 40, 45], [0, 3, 40, 43], [0, 23, 40, 63], [0, 24, 36, 60], [0, 24, 34, 58], [0, 6, 24, 30], [0, 24, 33, 57], [0, 5, 24, 29], [0, 3, 24, 27], [0, 24, 39, 63], [0, 18, 36, 54], [0, 10, 36, 46], [0, 17, 36, 53], [0, 9, 36, 45], [0, 3, 36, 39], [0, 27, 36, 63], [0, 20, 34, 54], [0, 10, 20, 30], [0, 20, 33, 53], [0, 9, 20, 29], [0, 3, 20, 23], [0, 20, 43, 63], [0, 12, 34, 46], [0, 12, 18, 30], [0, 12, 33, 45], [0, 12, 17, 29], [0, 3, 12, 15], [0, 12, 51, 63], [0, 3, 60, 63], [0, 15, 51, 60], [0, 23, 43, 60], [0, 27, 39, 60], [0, 17, 34, 51], [0, 9, 34, 43], [0, 5, 34, 39], [0, 29, 34, 63], [0, 18, 33, 51], [0, 9, 18, 27], [0, 5, 18, 23], [0, 18, 45, 63], [0, 10, 33, 43], [0, 10, 17, 27], [0, 5, 10, 15], [0, 10, 53, 63], [0, 5, 58, 63], [0, 15, 53, 58], [0, 23, 45, 58], [0, 29, 39, 58], [0, 6, 33, 39], [0, 6, 17, 23], [0, 6, 9, 15], [0, 6, 57, 63], [0, 9, 54, 63], [0, 15, 54, 57], [0, 27, 45, 54], [0, 29, 43, 54], [0, 17, 46, 63], [0, 23, 46, 57], [0, 27, 46, 53], [0, 29, 46, 51], [0, 30, 33, 63], [0, 30, 39, 57], [0, 30, 43, 53], [0, 30, 45, 51]]
def fd2_5 : List (List Nat) := [[0, 12, 48, 60], [0, 10, 48, 58], [0, 6, 48, 54], [0, 9, 48, 57], [0, 5, 48, 53], [0, 3, 48, 51], [0, 15, 48, 63], [0, 20, 40, 60], [0, 18, 40, 58], [0, 6, 40, 46], [0, 17, 40, 57], [0, 5, 40, 45], [0, 3, 40, 43], [0, 23, 40, 63], [0, 24, 36, 60], [0, 24, 34, 58], [0, 6, 24, 30], [0, 24, 33, 57], [0, 5, 24, 29], [0, 3, 24, 27], [0, 24, 39, 63], [0, 18, 36, 54], [0, 10, 36, 46], [0, 17, 36, 53], [0, 9, 36, 45], [0, 3, 36, 39], [0, 27, 36, 63], [0, 20, 34, 54], [0, 10, 20, 30], [0, 20, 33, 53], [0, 9, 20, 29], [0, 3, 20, 23], [0, 20, 43, 63], [0, 12, 34, 46], [0, 12, 18, 30], [0, 12, 33, 45], [0, 12, 17, 29], [0, 3, 12, 15], [0, 12, 51, 63], [0, 3, 60, 63], [0, 15, 51, 60], [0, 23, 43, 60], [0, 27, 39, 60], [0, 17, 34, 51], [0, 9, 34, 43], [0, 5, 34, 39], [0, 29, 34, 63], [0, 18, 33, 51], [0, 9, 18, 27], [0, 5, 18, 23], [0, 18, 45, 63], [0, 10, 33, 43], [0, 10, 17, 27], [0, 5, 10, 15], [0, 10, 53, 63], [0, 5, 58, 63], [0, 15, 53, 58], [0, 23, 45, 58], [0, 29, 39, 58], [0, 6, 33, 39], [0, 6, 17, 23], [0, 6, 9, 15], [0, 6, 57, 63], [0, 9, 54, 63], [0, 15, 54, 57], [0, 27, 45, 54], [0, 29, 43, 54], [0, 17, 46, 63], [0, 23, 46, 57], [0, 27, 46, 53], [0, 29, 46, 51], [0, 30, 33, 63], [0, 30, 39, 57], [0, 30, 43, 53], [0, 30, 45, 51]]
def fd2_6 : List (List Nat) := [[0, 12, 48, 60], [0, 10, 48, 58], [0, 6, 48, 54], [0, 9, 48, 57], [0, 5, 48, 53], [0, 3, 48, 51], [0, 15, 48, 63], [0, 20, 40, 60], [0, 18, 40, 58], [0, 6, 40, 46], [0, 17, 40, 57], [0, 5, 40, 45], [0, 3, 40, 43], [0, 23, 40, 63], [0, 24, 36, 60], [0, 24, 34, 58], [0, 6, 24, 30], [0, 24, 33, 57], [0, 5, 24, 29], [0, 3, 24, 27], [0, 24, 39, 63], [0, 18, 36, 54], [0, 10, 36, 46], [0, 17, 36, 53], [0, 9, 36, 45], [0, 3, 36, 39], [0, 27, 36, 63], [0, 20, 34, 54], [0, 10, 20, 30], [0, 20, 33, 53], [0, 9, 20, 29], [0, 3, 20, 23], [0, 20, 43, 63], [0, 12, 34, 46], [0, 12, 18, 30], [0, 12, 33, 45], [0, 12, 17, 29], [0, 3, 12, 15], [0, 12, 51, 63], [0, 3, 60, 63], [0, 15, 51, 60], [0, 23, 43, 60], [0, 27, 39, 60], [0, 17, 34, 51], [0, 9, 34, 43], [0, 5, 34, 39], [0, 29, 34, 63], [0, 18, 33, 51], [0, 9, 18, 27], [0, 5, 18, 23], [0, 18, 45, 63], [0, 10, 33, 43], [0, 10, 17, 27], [0, 5, 10, 15], [0, 10, 53, 63], [0, 5, 58, 63], [0, 15, 53, 58], [0, 23, 45, 58], [0, 29, 39, 58], [0, 6, 33, 39], [0, 6, 17, 23], [0, 6, 9, 15], [0, 6, 57, 63], [0, 9, 54, 63], [0, 15, 54, 57], [0, 27, 45, 54], [0, 29, 43, 54], [0, 17, 46, 63], [0, 23, 46, 57], [0, 27, 46, 53], [0, 29, 46, 51], [0, 30, 33, 63], [0, 30, 39, 57], [0, 30, 43, 53], [0, 30, 45, 51]]
def fd2_7 : List (List Nat) := [[0, 12, 48, 60], [0, 10, 48, 58], [0, 6, 48, 54], [0, 9, 48, 57], [0, 5, 48, 53], [0, 3, 48, 51], [0, 15, 48, 63], [0, 20, 40, 60], [0, 18, 40, 58], [0, 6, 40, 46], [0, 17, 40, 57], [0, 5, 40, 45], [0, 3, 40, 43], [0, 23, 40, 63], [0, 24, 36, 60], [0, 24, 34, 58], [0, 6, 24, 30], [0, 24, 33, 57], [0, 5, 24, 29], [0, 3, 24, 27], [0, 24, 39, 63], [0, 18, 36, 54], [0, 10, 36, 46], [0, 17, 36, 53], [0, 9, 36, 45], [0, 3, 36, 39], [0, 27, 36, 63], [0, 20, 34, 54], [0, 10, 20, 30], [0, 20, 33, 53], [0, 9, 20, 29], [0, 3, 20, 23], [0, 20, 43, 63], [0, 12, 34, 46], [0, 12, 18, 30], [0, 12, 33, 45], [0, 12, 17, 29], [0, 3, 12, 15], [0, 12, 51, 63], [0, 3, 60, 63], [0, 15, 51, 60], [0, 23, 43, 60], [0, 27, 39, 60], [0, 17, 34, 51], [0, 9, 34, 43], [0, 5, 34, 39], [0, 29, 34, 63], [0, 18, 33, 51], [0, 9, 18, 27], [0, 5, 18, 23], [0, 18, 45, 63], [0, 10, 33, 43], [0, 10, 17, 27], [0, 5, 10, 15], [0, 10, 53, 63], [0, 5, 58, 63], [0, 15, 53, 58], [0, 23, 45, 58], [0, 29, 39, 58], [0, 6, 33, 39], [0, 6, 17, 23], [0, 6, 9, 15], [0, 6, 57, 63], [0, 9, 54, 63], [0, 15, 54, 57], [0, 27, 45, 54], [0, 29, 43, 54], [0, 17, 46, 63], [0, 23, 46, 57], [0, 27, 46, 53], [0, 29, 46, 51], [0, 30, 33, 63], [0, 30, 39, 57], [0, 30, 43, 53], [0, 30, 45, 51]]
def en2_0 : Env := [some (.int 6), some evV, some (.lst (ly2.map fmV)), some (.ref 1), some (.ref 65), some (fmV [0]), some (rw6 63), some (fmV [0, 63]), none]
def st2_0 : Store := ⟨66, [(65, .ndc (fd2_0.map kyV) (fd2_0.map fmV)), (2, .ndc (fd1_1.map kyV) (fd1_1.map fmV)), (1, .lst [.int 1, .int 31])]⟩
def en2_1 : Env := [some (.int 6), some evV, some (.lst (ly2.map fmV)), some (.ref 1), some (.ref 65), some (fmV [0, 18]), some (rw6 63), some (fmV [0, 18, 45, 63]), none]
def st2_1 : Store := ⟨462, [(65, .ndc (fd2_1.map kyV) (fd2_1.map fmV)), (2, .ndc (fd1_1.map kyV) (fd1_1.map fmV)), (1, .lst [.int 1, .int 31])]⟩
def en2_2 : Env := [some (.int 6), some evV, some (.lst (ly2.map fmV)), some (.ref 1), some (.ref 65), some (fmV [0, 46]), some (rw6 63), some (fmV [0, 17, 46, 63]), none]
def st2_2 : Store := ⟨682, [(65, .ndc (fd2_2.map kyV) (fd2_2.map fmV)), (2, .ndc (fd1_1.map kyV) (fd1_1.map fmV)), (1, .lst [.int 1, .int 31])]⟩
def en2_3 : Env := [some (.int 6), some evV, some (.lst (ly2.map fmV)), some (.ref 1), some (.ref 65), some (fmV [0, 9]), some (rw6 63), some (fmV [0, 9, 54, 63]), none]
def st2_3 : Store := ⟨858, [(65, .ndc (fd2_3.map kyV) (fd2_3.map fmV)), (2, .ndc (fd1_1.map kyV) (fd1_1.map fmV)), (1, .lst [.int 1, .int 31])]⟩
def en2_4 : Env := [some (.int 6), some evV, some (.lst (ly2.map fmV)), some (.ref 1), some (.ref 65), some (fmV [0, 45]), some (rw6 63), some (fmV [0, 18, 45, 63]), none]
def st2_4 : Store := ⟨1034, [(65, .ndc (fd2_4.map kyV) (fd2_4.map fmV)), (2, .ndc (fd1_1.map kyV) (fd1_1.map fmV)), (1, .lst [.int 1, .int 31])]⟩
def en2_5 : Env := [some (.int 6), some evV, some (.lst (ly2.map fmV)), some (.ref 1), some (.ref 65), some (fmV [0, 43]), some (rw6 63), some (fmV [0, 20, 43, 63]), none]
def st2_5 : Store := ⟨1210, [(65, .ndc (fd2_5.map kyV) (fd2_5.map fmV)), (2, .ndc (fd1_1.map kyV) (fd1_1.map fmV)), (1, .lst [.int 1, .int 31])]⟩
def en2_6 : Env := [some (.int 6), some evV, some (.lst (ly2.map fmV)), some (.ref 1), some (.ref 65), some (fmV [0, 15]), some (rw6 63), some (fmV [0, 15, 48, 63]), none]
def st2_6 : Store := ⟨1386, [(65, .ndc (fd2_6.map kyV) (fd2_6.map fmV)), (2, .ndc (fd1_1.map kyV) (fd1_1.map fmV)), (1, .lst [.int 1, .int 31])]⟩
def en2_7 : Env := [some (.int 6), some evV, some (.lst (ly2.map fmV)), some (.ref 1), some (.ref 65), some (fmV [0, 63]), some (rw6 63), some (fmV [0, 15, 48, 63]), none]
def st2_7 : Store := ⟨1446, [(65, .ndc (fd2_7.map kyV) (fd2_7.map fmV)), (2, .ndc (fd1_1.map kyV) (fd1_1.map fmV)), (1, .lst [.int 1, .int 31])]⟩
theorem ch2_0 : okR (loopF gYes (.nm 5) famB (((ly2.drop 0).take 9).map fmV) en2_0 st2_0) en2_1 st2_1 = true := by decide +kernel
theorem ch2_1 : okR (loopF gYes (.nm 5) famB (((ly2.drop 9).take 5).map fmV) en2_1 st2_1) en2_2 st2_2 = true := by decide +kernel
theorem ch2_2 : okR (loopF gYes (.nm 5) famB (((ly2.drop 14).take 4).map fmV) en2_2 st2_2) en2_3 st2_3 = true := by decide +kernel
theorem ch2_3 : okR (loopF gYes (.nm 5) famB (((ly2.drop 18).take 4).map fmV) en2_3 st2_3) en2_4 st2_4 = true := by decide +kernel
theorem ch2_4 : okR (loopF gYes (.nm 5) famB (((ly2.drop 22).take 4).map fmV) en2_4 st2_4) en2_5 st2_5 = true := by decide +kernel
theorem ch2_5 : okR (loopF gYes (.nm 5) famB (((ly2.drop 26).take 4).map fmV) en2_5 st2_5) en2_6 st2_6 = true := by decide +kernel
theorem ch2_6 : okR (loopF gYes (.nm 5) famB (((ly2.drop 30).take 1).map fmV) en2_6 st2_6) en2_7 st2_7 = true := by decide +kernel
def ly3 : List (List Nat) := [[0, 12, 48, 60], [0, 10, 48, 58], [0, 6, 48, 54], [0, 9, 48, 57], [0, 5, 48, 53], [0, 3, 48, 51], [0, 15, 48, 63], [0, 20, 40, 60], [0, 18, 40, 58], [0, 6, 40, 46], [0, 17, 40, 57], [0, 5, 40, 45], [0, 3, 40, 43], [0, 23, 40, 63], [0, 24, 36, 60], [0, 24, 34, 58], [0, 6, 24, 30], [0, 24, 33, 57], [0, 5, 24, 29], [0, 3, 24, 27], [0, 24, 39, 63], [0, 18, 36, 54], [0, 10, 36, 46], [0, 17, 36, 53], [0, 9, 36, 45], [0, 3, 36, 39], [0, 27, 36, 63], [0, 20, 34, 54], [0, 10, 20, 30], [0, 20, 33, 53], [0, 9, 20, 29], [0, 3, 20, 23], [0, 20, 43, 63], [0, 12, 34, 46], [0, 12, 18, 30], [0, 12, 33, 45], [0, 12, 17, 29], [0, 3, 12, 15], [0, 12, 51, 63], [0, 3, 60, 63], [0, 15, 51, 60], [0, 23, 43, 60], [0, 27, 39, 60], [0, 17, 34, 51], [0, 9, 34, 43], [0, 5, 34, 39], [0, 29, 34, 63], [0, 18, 33, 51], [0, 9, 18, 27], [0, 5, 18, 23], [0, 18, 45, 63], [0, 10, 33, 43], [0, 10, 17, 27], [0, 5, 10, 15], [0, 10, 53, 63], [0, 5, 58, 63], [0, 15, 53, 58], [0, 23, 45, 58], [0, 29, 39, 58], [0, 6, 33, 39], [0, 6, 17, 23], [0, 6, 9, 15], [0, 6, 57, 63], [0, 9, 54, 63], [0, 15, 54, 57], [0, 27, 45, 54], [0, 29, 43, 54], [0, 17, 46, 63], [0, 23, 46, 57], [0, 27, 46, 53], [0, 29, 46, 51], [0, 30, 33, 63], [0, 30, 39, 57], [0, 30, 43, 53], [0, 30, 45, 51]]
def fd3_0 : List (List Nat) := []
def fd3_1 : List (List Nat) := [[0, 3, 12, 15, 48, 51, 60, 63], [0, 5, 10, 15, 48, 53, 58, 63], [0, 6, 9, 15, 48, 54, 57, 63], [0, 3, 20, 23, 40, 43, 60, 63], [0, 5, 18, 23, 40, 45, 58, 63], [0, 6, 17, 23, 40, 46, 57, 63], [0, 3, 24, 27, 36, 39, 60, 63], [0, 5, 24, 29, 34, 39, 58, 63], [0, 6, 24, 30, 33, 39, 57, 63]]
def fd3_2 : List (List Nat) := [[0, 3, 12, 15, 48, 51, 60, 63], [0, 5, 10, 15, 48, 53, 58, 63], [0, 6, 9, 15, 48, 54, 57, 63], [0, 3, 20, 23, 40, 43, 60, 63], [0, 5, 18, 23, 40, 45, 58, 63], [0, 6, 17, 23, 40, 46, 57, 63], [0, 3, 24, 27, 36, 39, 60, 63], [0, 5, 24, 29, 34, 39, 58, 63], [0, 6, 24, 30, 33, 39, 57, 63], [0, 9, 18, 27, 36, 45, 54, 63], [0, 10, 17, 27, 36, 46, 53, 63], [0, 9, 20, 29, 34, 43, 54, 63], [0, 10, 20, 30, 33, 43, 53, 63], [0, 12, 17, 29, 34, 46, 51, 63], [0, 12, 18, 30, 33, 45, 51, 63]]
def fd3_3 : List (List Nat) := [[0, 3, 12, 15, 48, 51, 60, 63], [0, 5, 10, 15, 48, 53, 58, 63], [0, 6, 9, 15, 48, 54, 57, 63], [0, 3, 20, 23, 40, 43, 60, 63], [0, 5, 18, 23, 40, 45, 58, 63], [0, 6, 17, 23, 40, 46, 57, 63], [0, 3, 24, 27, 36, 39, 60, 63], [0, 5, 24, 29, 34, 39, 58, 63], [0, 6, 24, 30, 33, 39, 57, 63], [0, 9, 18, 27, 36, 45, 54, 63], [0, 10, 17, 27, 36, 46, 53, 63], [0, 9, 20, 29, 34, 43, 54, 63], [0, 10, 20, 30, 33, 43, 53, 63], [0, 12, 17, 29, 34, 46, 51, 63], [0, 12, 18, 30, 33, 45, 51, 63]]
def fd3_4 : List (List Nat) := [[0, 3, 12, 15, 48, 51, 60, 63], [0, 5, 10, 15, 48, 53, 58, 63], [0, 6, 9, 15, 48, 54, 57, 63], [0, 3, 20, 23, 40, 43, 60, 63], [0, 5, 18, 23, 40, 45, 58, 63], [0, 6, 17, 23, 40, 46, 57, 63], [0, 3, 24, 27, 36, 39, 60, 63], [0, 5, 24, 29, 34, 39, 58, 63], [0, 6, 24, 30, 33, 39, 57, 63], [0, 9, 18, 27, 36, 45, 54, 63], [0, 10, 17, 27, 36, 46, 53, 63], [0, 9, 20, 29, 34, 43, 54, 63], [0, 10, 20, 30, 33, 43, 53, 63], [0, 12, 17, 29, 34, 46, 51, 63], [0, 12, 18, 30, 33, 45, 51, 63]]
def fd3_5 : List (List Nat) := [[0, 3, 12, 15, 48, 51, 60, 63], [0, 5, 10, 15, 48, 53, 58, 63], [0, 6, 9, 15, 48, 54, 57, 63], [0, 3, 20, 23, 40, 43, 60, 63], [0, 5, 18, 23, 40, 45, 58, 63], [0, 6, 17, 23, 40, 46, 57, 63], [0, 3, 24, 27, 36, 39, 60, 63], [0, 5, 24, 29, 34, 39, 58, 63], [0, 6, 24, 30, 33, 39, 57, 63], [0, 9, 18, 27, 36, 45, 54, 63], [0, 10, 17, 27, 36, 46, 53, 63], [0, 9, 20, 29, 34, 43, 54, 63], [0, 10, 20, 30, 33, 43, 53, 63], [0, 12, 17, 29, 34, 46, 51, 63], [0, 12, 18, 30, 33, 45, 51, 63]]
def fd3_6 : List (List Nat) := [[0, 3, 12, 15, 48, 51, 60, 63], [0, 5, 10, 15, 48, 53, 58, 63], [0, 6, 9, 15, 48, 54, 57, 63], [0, 3, 20, 23, 40, 43, 60, 63], [0, 5, 18, 23, 40, 45, 58, 63], [0, 6, 17, 23, 40, 46, 57, 63], [0, 3, 24, 27, 36, 39, 60, 63], [0, 5, 24, 29, 34, 39, 58, 63], [0, 6, 24, 30, 33, 39, 57, 63], [0, 9, 18, 27, 36, 45, 54, 63], [0, 10, 17, 27, 36, 46, 53, 63], [0, 9, 20, 29, 34, 43, 54, 63], [0, 10, 20, 30, 33, 43, 53, 63], [0, 12, 17, 29, 34, 46, 51, 63], [0, 12, 18, 30, 33, 45, 51, 63]]
def en3_0 : Env := [some (.int 6), some evV, some (.lst (ly3.map fmV)), some (.ref 1), some (.ref 1446), some (fmV [0, 63]), some (rw6 63), some (fmV [0, 15, 48, 63]), none]
def st3_0 : Store := ⟨1447, [(1446, .ndc (fd3_0.map kyV) (fd3_0.map fmV)), (65, .ndc (fd2_7.map kyV) (fd2_7.map fmV)), (2, .ndc (fd1_1.map kyV) (fd1_1.map fmV)), (1, .lst [.int 1, .int 31, .int 75])]⟩
def en3_1 : Env := [some (.int 6), some evV, some (.lst (ly3.map fmV)), some (.ref 1), some (.ref 1446), some (fmV [0, 3, 24, 27]), some (rw6 63), some (fmV [0, 3, 24, 27, 36, 39, 60, 63]), none]
def st3_1 : Store := ⟨2103, [(1446, .ndc (fd3_1.map kyV) (fd3_1.map fmV)), (65, .ndc (fd2_7.map kyV) (fd2_7.map fmV)), (2, .ndc (fd1_1.map kyV) (fd1_1.map fmV)), (1, .lst [.int 1, .int 31, .int 75])]⟩
def en3_2 : Env := [some (.int 6), some evV, some (.lst (ly3.map fmV)), some (.ref 1), some (.ref 1446), some (fmV [0, 12, 18, 30]), some (rw6 63), some (fmV [0, 12, 18, 30, 33, 45, 51, 63]), none]
def st3_2 : Store := ⟨2607, [(1446, .ndc (fd3_2.map kyV) (fd3_2.map fmV)), (65, .ndc (fd2_7.map kyV) (fd2_7.map fmV)), (2, .ndc (fd1_1.map kyV) (fd1_1.map fmV)), (1, .lst [.int 1, .int 31, .int 75])]⟩
def en3_3 : Env := [some (.int 6), some evV, some (.lst (ly3.map fmV)), some (.ref 1), some (.ref 1446), some (fmV [0, 18, 33, 51]), some (rw6 63), some (fmV [0, 12, 18, 30, 33, 45, 51, 63]), none]
def st3_3 : Store := ⟨3047, [(1446, .ndc (fd3_3.map kyV) (fd3_3.map fmV)), (65, .ndc (fd2_7.map kyV) (fd2_7.map fmV)), (2, .ndc (fd1_1.map kyV) (fd1_1.map fmV)), (1, .lst [.int 1, .int 31, .int 75])]⟩
def en3_4 : Env := [some (.int 6), some evV, some (.lst (ly3.map fmV)), some (.ref 1), some (.ref 1446), some (fmV [0, 6, 17, 23]), some (rw6 63), some (fmV [0, 6, 17, 23, 40, 46, 57, 63]), none]
def st3_4 : Store := ⟨3487, [(1446, .ndc (fd3_4.map kyV) (fd3_4.map fmV)), (65, .ndc (fd2_7.map kyV) (fd2_7.map fmV)), (2, .ndc (fd1_1.map kyV) (fd1_1.map fmV)), (1, .lst [.int 1, .int 31, .int 75])]⟩
def en3_5 : Env := [some (.int 6), some evV, some (.lst (ly3.map fmV)), some (.ref 1), some (.ref 1446), some (fmV [0, 30, 39, 57]), some (rw6 63), some (fmV [0, 6, 24, 30, 33, 39, 57, 63]), none]
def st3_5 : Store := ⟨3903, [(1446, .ndc (fd3_5.map kyV) (fd3_5.map fmV)), (65, .ndc (fd2_7.map kyV) (fd2_7.map fmV)), (2, .ndc (fd1_1.map kyV) (fd1_1.map fmV)), (1, .lst [.int 1, .int 31, .int 75])]⟩
def en3_6 : Env := [some (.int 6), some evV, some (.lst (ly3.map fmV)), some (.ref 1), some (.ref 1446), some (fmV [0, 30, 45, 51]), some (rw6 63), some (fmV [0, 12, 18, 30, 33, 45, 51, 63]), none]
def st3_6 : Store := ⟨3967, [(1446, .ndc (fd3_6.map kyV) (fd3_6.map fmV)), (65, .ndc (fd2_7.map kyV) (fd2_7.map fmV)), (2, .ndc (fd1_1.map kyV) (fd1_1.map fmV)), (1, .lst [.int 1, .int 31, .int 75])]⟩
theorem ch3_0 : okR (loopF gYes (.nm 5) famB (((ly3.drop 0).take 20).map fmV) en3_0 st3_0) en3_1 st3_1 = true := by decide +kernel
theorem ch3_1 : okR (loopF gYes (.nm 5) famB (((ly3.drop 20).take 15).map fmV) en3_1 st3_1) en3_2 st3_2 = true := by decide +kernel
theorem ch3_2 : okR (loopF gYes (.nm 5) famB (((ly3.drop 35).take 13).map fmV) en3_2 st3_2) en3_3 st3_3 = true := by decide +kernel
theorem ch3_3 : okR (loopF gYes (.nm 5) famB (((ly3.drop 48).take 13).map fmV) en3_3 st3_3) en3_4 st3_4 = true := by decide +kernel
theorem ch3_4 : okR (loopF gYes (.nm 5) famB (((ly3.drop 61).take 12).map fmV) en3_4 st3_4) en3_5 st3_5 = true := by decide +kernel
theorem ch3_5 : okR (loopF gYes (.nm 5) famB (((ly3.drop 73).take 2).map fmV) en3_5 st3_5) en3_6 st3_6 = true := by decide +kernel
def ly4 : List (List Nat) := [[0, 3, 12, 15, 48, 51, 60, 63], [0, 5, 10, 15, 48, 53, 58, 63], [0, 6, 9, 15, 48, 54, 57, 63], [0, 3, 20, 23, 40, 43, 60, 63], [0, 5, 18, 23, 40, 45, 58, 63], [0, 6, 17, 23, 40, 46, 57, 63], [0, 3, 24, 27, 36, 39, 60, 63], [0, 5, 24, 29, 34, 39, 58, 63], [0, 6, 24, 30, 33, 39, 57, 63], [0, 9, 18, 27, 36, 45, 54, 63], [0, 10, 17, 27, 36, 46, 53, 63], [0, 9, 20, 29, 34, 43, 54, 63], [0, 10, 20, 30, 33, 43, 53, 63], [0, 12, 17, 29, 34, 46, 51, 63], [0, 12, 18, 30, 33, 45, 51, 63]]
def fd4_0 : List (List Nat) := []
def fd4_1 : List (List Nat) := []
def en4_0 : Env := [some (.int 6), some evV, some (.lst (ly4.map fmV)), some (.ref 1), some (.ref 3967), some (fmV [0, 30, 45, 51]), some (rw6 63), some (fmV [0, 12, 18, 30, 33, 45, 51, 63]), none]
def st4_0 : Store := ⟨3968, [(3967, .ndc (fd4_0.map kyV) (fd4_0.map fmV)), (1446, .ndc (fd3_6.map kyV) (fd3_6.map fmV)), (65, .ndc (fd2_7.map kyV) (fd2_7.map fmV)), (2, .ndc (fd1_1.map kyV) (fd1_1.map fmV)), (1, .lst [.int 1, .int 31, .int 75, .int 15])]⟩
def en4_1 : Env := [some (.int 6), some evV, some (.lst (ly4.map fmV)), some (.ref 1), some (.ref 3967), some (fmV [0, 12, 18, 30, 33, 45, 51, 63]), some (rw6 63), some (fmV [0, 12, 18, 30, 33, 45, 51, 63]), none]
def st4_1 : Store := ⟨4328, [(3967, .ndc (fd4_1.map kyV) (fd4_1.map fmV)), (1446, .ndc (fd3_6.map kyV) (fd3_6.map fmV)), (65, .ndc (fd2_7.map kyV) (fd2_7.map fmV)), (2, .ndc (fd1_1.map kyV) (fd1_1.map fmV)), (1, .lst [.int 1, .int 31, .int 75, .int 15])]⟩
theorem ch4_0 : okR (loopF gYes (.nm 5) famB (((ly4.drop 0).take 15).map fmV) en4_0 st4_0) en4_1 st4_1 = true := by decide +kernel
def ly5 : List (List Nat) := []
def enE : Env := [some (.int 6), some evV, some (.lst (ly5.map fmV)), some (.ref 1), some (.ref 3967), some (fmV [0, 12, 18, 30, 33, 45, 51, 63]), some (rw6 63), some (fmV [0, 12, 18, 30, 33, 45, 51, 63]), none]
def stE : Store := ⟨4328, [(3967, .ndc (fd4_1.map kyV) (fd4_1.map fmV)), (1446, .ndc (fd3_6.map kyV) (fd3_6.map fmV)), (65, .ndc (fd2_7.map kyV) (fd2_7.map fmV)), (2, .ndc (fd1_1.map kyV) (fd1_1.map fmV)), (1, .lst [.int 1, .int 31, .int 75, .int 15])]⟩
def enS1 : Env := [some (.int 6), some evV, some (.lst (ly1.map fmV)), some (.ref 1), none, none, none, none, none]
def stS1 : Store := ⟨2, [(1, .lst [])]⟩
def enS2 : Env := [some (.int 6), some evV, some (.lst (ly2.map fmV)), some (.ref 1), some (.ref 2), some (fmV [0]), some (rw6 63), some (fmV [0, 63]), none]
def stS2 : Store := ⟨65, [(2, .ndc (fd1_1.map kyV) (fd1_1.map fmV)), (1, .lst [.int 1])]⟩
def enS3 : Env := [some (.int 6), some evV, some (.lst (ly3.map fmV)), some (.ref 1), some (.ref 65), some (fmV [0, 63]), some (rw6 63), some (fmV [0, 15, 48, 63]), none]
def stS3 : Store := ⟨1446, [(65, .ndc (fd2_7.map kyV) (fd2_7.map fmV)), (2, .ndc (fd1_1.map kyV) (fd1_1.map fmV)), (1, .lst [.int 1, .int 31])]⟩
def enS4 : Env := [some (.int 6), some evV, some (.lst (ly4.map fmV)), some (.ref 1), some (.ref 1446), some (fmV [0, 30, 45, 51]), some (rw6 63), some (fmV [0, 12, 18, 30, 33, 45, 51, 63]), none]
def stS4 : Store := ⟨3967, [(1446, .ndc (fd3_6.map kyV) (fd3_6.map fmV)), (65, .ndc (fd2_7.map kyV) (fd2_7.map fmV)), (2, .ndc (fd1_1.map kyV) (fd1_1.map fmV)), (1, .lst [.int 1, .int 31, .int 75])]⟩
def enS5 : Env := enE
def stS5 : Store := stE
end Pv.Q
/-! Sd56: the families of six people, joined (printed by tools/k56chunks.py). -/
namespace Pv.Q
open PySem
theorem loopF_nobr {g : Gd} {t : Tg} {b : SF} {e : Env} {s : Store} : ∀ (xs : List Val) (env : Env) (st : Store), loopF g t b xs env st ≠ some (.fl .br e, s)
  | [], env, st, h => by
    simp only [loopF] at h
    split at h <;> cases h
  | x :: xs, env, st, h => by
    simp only [loopF] at h
    split at h
    · split at h
      · cases h
      · rename_i env1 _
        split at h
        · exact loopF_nobr xs _ _ h
        · exact loopF_nobr xs _ _ h
        · cases h
        · rename_i _ _ _ h3
          exact h3 _ _ h
    · cases h
theorem famB_nobr (env : Env) (st : Store) (e : Env) (s : Store) : famB env st ≠ some (.fl .br e, s) := fun h => by
  unfold famB sCons at h
  split at h
  · cases h
  · unfold sFor bs at h
    split at h
    · exact loopF_nobr _ _ _ h
    · cases h
    · cases h
theorem loopW_go {t : BT} {b : SF} {k : Nat} {env e : Env} {st s0 s : Store} (h : t env st = some (.ok true, s0)) (h2 : b env s0 = some (.fl .nx e, s)) : loopW t b (k + 1) env st = loopW t b k e s := by
  show bs env (t env) _ st = _
  unfold bs
  rw [h]
  dsimp only
  rw [h2]
theorem loopW_stop {t : BT} {b : SF} {k : Nat} {env : Env} {st s0 : Store} (h : t env st = some (.ok false, s0)) : loopW t b (k + 1) env st = some (.fl .nx env, s0) := by
  show bs env (t env) _ st = _
  unfold bs
  rw [h]
  rfl
def okT (x : Option (Out Bool × Store)) (r : Bool) (s : Store) : Bool := match x with
  | some (.ok q, s1) => q == r && s1.nx == s.nx && eqM s1.m s.m
  | _ => false
theorem okT_eq {x : Option (Out Bool × Store)} {r : Bool} {s : Store} (h : okT x r s = true) : x = some (.ok r, s) := by
  unfold okT at h
  split at h
  · rename_i q s1
    rw [Bool.and_eq_true, Bool.and_eq_true, beq_iff_eq, beq_iff_eq] at h
    obtain ⟨n, m⟩ := s1
    obtain ⟨n2, m2⟩ := s
    rw [h.1.1, (show n = n2 from h.1.2), (show m = m2 from eqM_eq h.2)]
  · cases h
abbrev wT : BT := bCmp .NotEq (eVar 2) (eLst false aNil)
theorem cons_nx {a b : SF} {env e e2 : Env} {st s s2 : Store} (h : a env st = some (.fl .nx e, s)) (h2 : b e s = some (.fl .nx e2, s2)) : sCons a b env st = some (.fl .nx e2, s2) := by unfold sCons; rw [h]; exact h2
theorem cons_inv {a b : SF} {env e : Env} {st s : Store} (h : sCons a (sCons b sNil) env st = some (.fl .nx e, s)) {c : SF} {e2 : Env} {s2 : Store} (h2 : c e s = some (.fl .nx e2, s2)) : sCons a (sCons b c) env st = some (.fl .nx e2, s2) := by
  unfold sCons at h ⊢
  cases q : a env st with
  | none => rw [q] at h; cases h
  | some p =>
    obtain ⟨o, s1⟩ := p
    rw [q] at h
    cases o with
    | er => cases h
    | fl f e1 =>
      cases f with
      | nx =>
        dsimp only at h ⊢
        cases q2 : b e1 s1 with
        | none => rw [q2] at h; cases h
        | some p2 =>
          obtain ⟨o2, s3⟩ := p2
          rw [q2] at h
          cases o2 with
          | er => cases h
          | fl f2 e3 =>
            cases f2 with
            | nx => cases h; exact h2
            | br => cases h
            | ct => cases h
            | rt v => cases h
      | br => cases h
      | ct => cases h
      | rt v => cases h
theorem tst1 : okT (wT enS1 stS1) true stS1 = true := by decide +kernel
theorem hd1 : okR (sCons (sExpr (eMl mAppend (eVar 3) (aCons (eCall fLen (aCons (eVar 2) aNil)) aNil))) (sCons (sSet (.nm 4) eNNew) sNil) enS1 stS1) en1_0 st1_0 = true := by decide +kernel
theorem tl1 : okR (sCons (sSet (.nm 2) (eNVals false (eVar 4))) sNil en1_1 st1_1) enS2 stS2 = true := by decide +kernel
theorem fr1 : loopF gYes (.nm 5) famB (ly1.map fmV) en1_0 st1_0 = some (.fl .nx en1_1, st1_1) := by
  have e : ly1.map fmV = ((ly1.drop 0).take 1).map fmV := rfl
  rw [e]
  exact (okR_eq ch1_0)
theorem wh1 : whB enS1 stS1 = some (.fl .nx enS2, stS2) := cons_inv (okR_eq hd1) (cons_nx ((sFor_ok (xs := ly1.map fmV) (g := gYes) rfl).trans fr1) (okR_eq tl1))
theorem tst2 : okT (wT enS2 stS2) true stS2 = true := by decide +kernel
theorem hd2 : okR (sCons (sExpr (eMl mAppend (eVar 3) (aCons (eCall fLen (aCons (eVar 2) aNil)) aNil))) (sCons (sSet (.nm 4) eNNew) sNil) enS2 stS2) en2_0 st2_0 = true := by decide +kernel
theorem tl2 : okR (sCons (sSet (.nm 2) (eNVals false (eVar 4))) sNil en2_7 st2_7) enS3 stS3 = true := by decide +kernel
theorem fr2 : loopF gYes (.nm 5) famB (ly2.map fmV) en2_0 st2_0 = some (.fl .nx en2_7, st2_7) := by
  have e : ly2.map fmV = ((ly2.drop 0).take 9).map fmV ++ (((ly2.drop 9).take 5).map fmV ++ (((ly2.drop 14).take 4).map fmV ++ (((ly2.drop 18).take 4).map fmV ++ (((ly2.drop 22).take 4).map fmV ++ (((ly2.drop 26).take 4).map fmV ++ (((ly2.drop 30).take 1).map fmV)))))) := rfl
  rw [e]
  exact ((loopF_app _ (okR_eq ch2_0) fun _ _ => famB_nobr).trans ((loopF_app _ (okR_eq ch2_1) fun _ _ => famB_nobr).trans ((loopF_app _ (okR_eq ch2_2) fun _ _ => famB_nobr).trans ((loopF_app _ (okR_eq ch2_3) fun _ _ => famB_nobr).trans ((loopF_app _ (okR_eq ch2_4) fun _ _ => famB_nobr).trans ((loopF_app _ (okR_eq ch2_5) fun _ _ => famB_nobr).trans (okR_eq ch2_6)))))))
theorem wh2 : whB enS2 stS2 = some (.fl .nx enS3, stS3) := cons_inv (okR_eq hd2) (cons_nx ((sFor_ok (xs := ly2.map fmV) (g := gYes) rfl).trans fr2) (okR_eq tl2))
theorem tst3 : okT (wT enS3 stS3) true stS3 = true := by decide +kernel
theorem hd3 : okR (sCons (sExpr (eMl mAppend (eVar 3) (aCons (eCall fLen (aCons (eVar 2) aNil)) aNil))) (sCons (sSet (.nm 4) eNNew) sNil) enS3 stS3) en3_0 st3_0 = true := by decide +kernel
theorem tl3 : okR (sCons (sSet (.nm 2) (eNVals false (eVar 4))) sNil en3_6 st3_6) enS4 stS4 = true := by decide +kernel
theorem fr3 : loopF gYes (.nm 5) famB (ly3.map fmV) en3_0 st3_0 = some (.fl .nx en3_6, st3_6) := by
  have e : ly3.map fmV = ((ly3.drop 0).take 20).map fmV ++ (((ly3.drop 20).take 15).map fmV ++ (((ly3.drop 35).take 13).map fmV ++ (((ly3.drop 48).take 13).map fmV ++ (((ly3.drop 61).take 12).map fmV ++ (((ly3.drop 73).take 2).map fmV))))) := rfl
  rw [e]
  exact ((loopF_app _ (okR_eq ch3_0) fun _ _ => famB_nobr).trans ((loopF_app _ (okR_eq ch3_1) fun _ _ => famB_nobr).trans ((loopF_app _ (okR_eq ch3_2) fun _ _ => famB_nobr).trans ((loopF_app _ (okR_eq ch3_3) fun _ _ => famB_nobr).trans ((loopF_app _ (okR_eq ch3_4) fun _ _ => famB_nobr).trans (okR_eq ch3_5))))))
theorem wh3 : whB enS3 stS3 = some (.fl .nx enS4, stS4) := cons_inv (okR_eq hd3) (cons_nx ((sFor_ok (xs := ly3.map fmV) (g := gYes) rfl).trans fr3) (okR_eq tl3))
theorem tst4 : okT (wT enS4 stS4) true stS4 = true := by decide +kernel
theorem hd4 : okR (sCons (sExpr (eMl mAppend (eVar 3) (aCons (eCall fLen (aCons (eVar 2) aNil)) aNil))) (sCons (sSet (.nm 4) eNNew) sNil) enS4 stS4) en4_0 st4_0 = true := by decide +kernel
theorem tl4 : okR (sCons (sSet (.nm 2) (eNVals false (eVar 4))) sNil en4_1 st4_1) enS5 stS5 = true := by decide +kernel
theorem fr4 : loopF gYes (.nm 5) famB (ly4.map fmV) en4_0 st4_0 = some (.fl .nx en4_1, st4_1) := by
  have e : ly4.map fmV = ((ly4.drop 0).take 15).map fmV := rfl
  rw [e]
  exact (okR_eq ch4_0)
theorem wh4 : whB enS4 stS4 = some (.fl .nx enS5, stS5) := cons_inv (okR_eq hd4) (cons_nx ((sFor_ok (xs := ly4.map fmV) (g := gYes) rfl).trans fr4) (okR_eq tl4))
theorem tstE : okT (wT enS5 stS5) false stS5 = true := by decide +kernel
theorem beg : okR (sCons (sSet (.nm 1) (eComp false [6] (eVar 6) (.nm 6) (iSeq (eCall f__law_lists (aCons (eVar 0) aNil))) (bCmp .Eq (eBin .Mod (eCall fInt (aCons (eCall fSumT (aCons (eVar 6) aNil)) aNil)) (eLit (.int 2))) (eLit (.int 0))))) (sCons (sPar2 2 3 (aCons (eLst false (aCons (eLst false (aCons (eSub (eVar 1) (eLit (.int 0))) aNil)) aNil)) (aCons (eLst true aNil) aNil))) sNil) (startE 9 [.int 6]) ⟨0, []⟩) enS1 stS1 = true := by decide +kernel
theorem cons_inv' {a b : SF} {env e : Env} {st s : Store} (h : sCons a (sCons b sNil) env st = some (.fl .nx e, s)) {c : SF} : sCons a (sCons b c) env st = c e s := by
  unfold sCons at h ⊢
  cases q : a env st with
  | none => rw [q] at h; cases h
  | some p =>
    obtain ⟨o, s1⟩ := p
    rw [q] at h
    cases o with
    | er => cases h
    | fl f e1 =>
      cases f with
      | nx =>
        dsimp only at h ⊢
        cases q2 : b e1 s1 with
        | none => rw [q2] at h; cases h
        | some p2 =>
          obtain ⟨o2, s3⟩ := p2
          rw [q2] at h
          cases o2 with
          | er => cases h
          | fl f2 e3 =>
            cases f2 with
            | nx => cases h; rfl
            | br => cases h
            | ct => cases h
            | rt v => cases h
      | br => cases h
      | ct => cases h
      | rt v => cases h
theorem loopW_4 {t : BT} {b : SF} {n : Nat} {e1 e2 e3 e4 e5 : Env} {s1 s2 s3 s4 s5 : Store} (a1 : t e1 s1 = some (.ok true, s1)) (b1 : b e1 s1 = some (.fl .nx e2, s2)) (a2 : t e2 s2 = some (.ok true, s2)) (b2 : b e2 s2 = some (.fl .nx e3, s3))
    (a3 : t e3 s3 = some (.ok true, s3)) (b3 : b e3 s3 = some (.fl .nx e4, s4)) (a4 : t e4 s4 = some (.ok true, s4)) (b4 : b e4 s4 = some (.fl .nx e5, s5)) (a5 : t e5 s5 = some (.ok false, s5)) : loopW t b (n + 5) e1 s1 = some (.fl .nx e5, s5) :=
  (loopW_go (k := n + 4) a1 b1).trans ((loopW_go (k := n + 3) a2 b2).trans ((loopW_go (k := n + 2) a3 b3).trans ((loopW_go (k := n + 1) a4 b4).trans (loopW_stop (k := n) a5))))
theorem sWhile_4 {t : BT} {b : SF} {e1 e5 : Env} {s1 s5 : Store} (h : ∀ n, loopW t b (n + 5) e1 s1 = some (.fl .nx e5, s5)) : sWhile t b e1 s1 = some (.fl .nx e5, s5) := h 99995
theorem whl : sWhile wT whB enS1 stS1 = some (.fl .nx enS5, stS5) := sWhile_4 fun n => loopW_4 (okT_eq tst1) wh1 (okT_eq tst2) wh2 (okT_eq tst3) wh3 (okT_eq tst4) wh4 (okT_eq tstE)
def okV (x : Option (OS × Store)) (v : Val) : Bool := match x with
  | some (.fl (.rt w) _, _) => beqV w v
  | _ => false
theorem okV_eq {x : Option (OS × Store)} {v : Val} (h : okV x v = true) : ∃ e s, x = some (.fl (.rt v) e, s) := by
  unfold okV at h
  split at h
  · rw [← beqV_eq _ _ h]; exact ⟨_, _, rfl⟩
  · cases h
theorem lst : okV (sCons (sRet (eFrz (eVar 3))) sNil enS5 stS5) (.lst [.int 1, .int 31, .int 75, .int 15]) = true := by decide +kernel
end Pv.Q
/-! Se56: what the families of six people give. -/
namespace Pv.Q
open PySem
theorem cfB_at {v : Val} {e : Env} {s : Store} (h : sCons (sRet (eFrz (eVar 3))) sNil enS5 stS5 = some (.fl (.rt v) e, s)) : cfB (startE 9 [.int 6]) ⟨0, []⟩ = some (.fl (.rt v) e, s) :=
  (cons_inv' (c := sCons (sWhile wT whB) (sCons (sRet (eFrz (eVar 3))) sNil)) (okR_eq beg)).trans ((sCons_nx whl).trans h)
theorem run_mk {N k : Nat} {b : SF} {vs : List Val} {v : Val} {e : Env} {s : Store} (hl : vs.length = k) (gv : gnds vs = true) (gw : gnd v = true) (h : b (startE N vs) ⟨0, []⟩ = some (.fl (.rt v) e, s)) : run (locF (mkFn N k b)) vs = some v := by
  have z := mkFn_rt (N := N) hl h
  unfold run locF
  rw [if_pos gv, z]
  dsimp only
  rw [if_pos gw]
theorem cfm_6 : run f__law_counted_families [.int 6] = some (.lst [.int 1, .int 31, .int 75, .int 15]) := by
  rw [cf_eq]
  obtain ⟨e, s, q⟩ := okV_eq lst
  exact run_mk rfl rfl rfl (cfB_at q)
end Pv.Q
/-! Sc56: the law. -/
namespace Pv.Q
open PySem
theorem fam_at {m s : Nat} (h1 : 1 ≤ m) (hm : m ≤ 14) (hs : s < 10) : ∃ x : Int, run f_even_families [.int m, .int s] = some (.int x) ∧ run (f__law_families 3) [.int m, .int s] = some (.int x) := by
  have h := List.all_eq_true.mp (List.all_eq_true.mp fam_all m (List.mem_range.mpr (by omega))) s (List.mem_range.mpr hs)
  rw [Bool.or_eq_true] at h
  rcases h with h | h
  · rw [beq_iff_eq] at h; omega
  · exact chkI_eq h
theorem unt_at {m : Nat} (hm : m ≤ 14) : run f_untied_companies [.int m] = some (.int (UnI.getD m 0)) := same_eq (List.all_eq_true.mp unt_all m (List.mem_range.mpr (by omega)))
theorem cnt_at {s : Nat} (hs : s ≤ 4) : run f__law_counted_untied [.int s] = some (.int (UnI.getD s 0)) := by
  rcases (by omega : s = 0 ∨ s = 1 ∨ s = 2 ∨ s = 3 ∨ s = 4) with rfl | rfl | rfl | rfl | rfl
  · exact same_eq cnt_0
  · exact same_eq cnt_1
  · exact same_eq cnt_2
  · exact same_eq cnt_3
  · exact same_eq cnt_4
theorem cfm_at {m : Nat} (h1 : 1 ≤ m) (hm : m ≤ 6) : run f__law_counted_families [.int m] = some (.lst ((NumI m).map .int)) := by
  rcases (by omega : m = 1 ∨ m = 2 ∨ m = 3 ∨ m = 4 ∨ m = 5 ∨ m = 6) with rfl | rfl | rfl | rfl | rfl | rfl
  · exact same_eq cfm_1
  · exact same_eq cfm_2
  · exact same_eq cfm_3
  · exact same_eq cfm_4
  · exact same_eq cfm_5
  · exact cfm_6
theorem num_at {m s : Nat} (h1 : 1 ≤ m) (hm : m ≤ 6) (hs : s < 5) : run f_even_families [.int m, .int s] = some (.int ((numL m).getD s 0)) :=
  same_eq (List.all_eq_true.mp (List.all_eq_true.mp num_all m (by simp only [List.mem_cons, List.not_mem_nil, or_false]; omega)) s (List.mem_range.mpr hs))
theorem numL_take {m : Nat} (h1 : 1 ≤ m) (hm : m ≤ 6) : ((numL m).map Val.int).take 5 = (List.range 5).map fun s => Val.int ((numL m).getD s 0) := by
  rcases (by omega : m = 1 ∨ m = 2 ∨ m = 3 ∨ m = 4 ∨ m = 5 ∨ m = 6) with rfl | rfl | rfl | rfl | rfl | rfl <;> rfl
theorem numL_len {m : Nat} : (numL m).length ≤ 10 := by
  unfold numL NumI
  split <;> decide
theorem okXI {n : Nat} {is : List Int} (h : is.length < 16777216) : okX (n + 2) (.lst (is.map .int)) := ⟨by rw [List.length_map]; exact h, fun v hv => by
  obtain ⟨i, _, rfl⟩ := List.mem_map.mp hv
  trivial⟩
section
variable {m : Mem} {env : Env} {x : Nat}
theorem ru_zeros : Ru m (eBin .Mult (eLst false (aCons (eLit (.int 0)) aNil)) (eLit (.int 6)) env) (.lst ((List.replicate 6 (0 : Int)).map .int)) := by
  refine ru_bin (ru_lst1 ru_lit) ru_lit (Ru.of fun n => ?_)
  show (if -(2 ^ 63) ≤ (6 : Int) ∧ (6 : Int) < 2 ^ 63 ∧ [Val.int 0].length * (6 : Int).toNat ≤ 16777216 then newL false (List.replicate (6 : Int).toNat [Val.int 0]).flatten ⟨n, m⟩ else none) = _
  rw [if_pos ⟨by omega, by omega, by simp⟩]
  rfl
theorem ru_numbers {k : Nat} (h1 : 1 ≤ k) (hm : k ≤ 6) (h : env[2]? = some (some (.int k))) : Ru m (eBin .Add (eCall f__law_counted_families (aCons (eVar 2) aNil)) (eBin .Mult (eLst false (aCons (eLit (.int 0)) aNil)) (eLit (.int 6))) env) (.lst ((numL k).map .int)) := by
  have := ru_bin (op := .Add) (ru_call1 (ru_var h) (ruR (cfm_at h1 hm) m)) (ru_zeros (m := m) (env := env)) (bin_lst (by rw [← List.map_append, List.length_map]; have := numL_len (m := k); unfold numL at this; omega))
  rwa [← List.map_append] at this
theorem ru_first {k : Nat} (h1 : 1 ≤ k) (hm : k ≤ 6) (h : env[2]? = some (some (.int k))) (h3 : env[3]? = some (some (.lst ((numL k).map .int)))) (hl : 4 < env.length) :
    Ru m (eCall (f__law_exact 6) (aCons (eComp false [4] (eCall f_even_families (aCons (eVar 2) (aCons (eVar 4) aNil))) (.nm 4) (iRange1 (eLit (.int 5))) bYes) (aCons (eSlc false (eVar 3) oNone (oSome (eLit (.int 5)))) aNil)) env) (.bl true) := by
  have c := ru_map1 (m := m) (env := env) (ι := Nat) (enc := fun i => Val.int i) (i := 4) (elt := eCall f_even_families (aCons (eVar 2) (aCons (eVar 4) aNil))) (it := iRange1 (eLit (.int 5))) (f := fun s => Val.int ((numL k).getD s 0)) (xs := List.range 5) hl (ri_range (n := 5) ru_lit (by decide)) (fun q hq => by
    refine ru_call2 (x := .int k) (y := .int q) (ru_var (by rw [List.getElem?_set_ne (by decide)]; exact h)) (ru_var (List.getElem?_set_self hl)) (ruR (num_at h1 hm (List.mem_range.mp hq)) m)) (by simp)
  have s := ru_to (m := m) (env := env) (a := eVar 3) (b := eLit (.int 5)) (vs := (numL k).map .int) (k := 5) (ru_var h3) ru_lit (by rw [List.length_map]; have := numL_len (m := k); omega)
  rw [numL_take h1 hm] at s
  refine ru_call2 c s (exact_ok 6 _ ?_ m)
  have := okXI (n := 4) (is := (List.range 5).map fun s => (numL k).getD s 0) (by simp)
  rwa [List.map_map] at this
end
theorem im_tup2 {p K K2 : Nat} {a b : EF} {env : Env} {P Q : Val → Prop} (h : Im p K (a env) P) (h2 : Im p K2 (b env) Q) : Im p (K + K2) (eTup (aCons a (aCons b aNil)) env) (fun v => ∃ x y, P x ∧ Q y ∧ v = .tup [x, y]) := by
  have := h.bd (K2 := K2) (f := fun x => bd (b env) fun y => (if ([x, y] : List Val).length ≤ 16777216 then Pv.ret (Val.tup [x, y]) else bad)) (Q := fun v => ∃ x y, P x ∧ Q y ∧ v = .tup [x, y]) fun x hx => (h2.bd (K2 := 0) fun y hy => Im.ru (a := .tup [x, y]) (fun m => by rw [if_pos (by simp)]; exact Ru.ret) ⟨x, y, hx, hy, rfl⟩).more (by omega)
  refine fun st k w hb => ?_
  obtain ⟨v, s, e, hv, w2, fr⟩ := this st k w hb
  refine ⟨v, s, ?_, hv, w2, fr⟩
  rw [← e]
  unfold eTup aCons aNil bd ret
  cases a env st with
  | none => rfl
  | some q =>
    obtain ⟨o, s1⟩ := q
    cases o with
    | err c z => rfl
    | ok x =>
      dsimp only
      cases b env s1 with
      | none => rfl
      | some q2 =>
        obtain ⟨o2, s2⟩ := q2
        cases o2 <;> rfl
theorem im_less {p K m : Nat} {env : Env} (h : env[1]? = some (some (.ref p))) (hm : 0 < m ∧ m < 100000000) : Im p 1 (eBin .Add (eLit (.int 1)) (eCall f__law_draw (aCons (eVar 1) (aCons (eLit (.int m)) aNil))) env) (fun v => ∃ k : Nat, v = .int k ∧ 1 ≤ k ∧ k ≤ m) := by
  have := im_bin (p := p) (K := 0) (K2 := 1) (env := env) (op := .Add) (a := eLit (.int 1)) (P := fun v => v = .int 1) (R := fun v => ∃ k : Nat, v = .int k ∧ 1 ≤ k ∧ k ≤ m) im_lit (im_drawL (i := 1) (m := m) h hm) (by
    rintro v u rfl ⟨j, rfl, hj⟩
    exact ⟨.int ((1 + j : Nat) : Int), ⟨1 + j, rfl, by omega, by omega⟩, fun m => by rw [show ((1 + j : Nat) : Int) = 1 + (j : Int) by omega]; exact bin_add⟩)
  exact this.more (by omega)
theorem in_setT {p K : Nat} {t : Tg} {f : EF} {env : Env} {Q : Val → Prop} {P : Env → Prop} (h : Im p K (f env) Q) (k : ∀ v, Q v → ∃ e, bindT t v env = some e ∧ P e) : In p K (sSet t f) env P := fun st n w0 hb => by
  obtain ⟨v, s, e, hv, w1, fr⟩ := h st n w0 hb
  obtain ⟨e', b, hp⟩ := k v hv
  refine ⟨e', s, ?_, hp, w1, fr⟩
  unfold sSet bs
  rw [e]
  dsimp only
  rw [b]
  rfl
theorem plain_law : ∀ ns : List Int, ns.length ≤ 63 → ∃ st, f_law [.rol (ns.map .int)] ⟨0, []⟩ = some (.ok (.bl true), st) := by
  let J : Env → Prop := fun e => ∃ x0 x1 x2 x3 x4 x5 x6, e = [x0, x1, x2, x3, x4, x5, x6, none]
  let I : Nat → Env → Prop := fun r e => ∃ x0 x2 x3 x4 x5 x6, e = [x0, some (.ref r), x2, x3, x4, x5, x6, none]
  let UnV : Val := .lst (UnI.map .int)
  refine law_driveL (K := 1 + 1 + (0 + (0 + (1 + 1 + (0 + (0 + ((0 + 4 * (1 + 1 + (0 + 0))) + 0))))))) (K2 := 0 + (0)) (few := 1) (J := J) (I := I) (by unfold big; omega) (by omega) (fun v => ⟨_, _, _, _, _, _, _, rfl⟩) (fun r e ⟨x0, x2, x3, x4, x5, x6, h⟩ => ⟨_, _, _, _, _, _, _, h⟩) ?_ ?_
  · rintro r e ⟨x0, x1, x2, x3, x4, x5, x6, rfl⟩
    refine ⟨_, rfl, ?_⟩
    refine in_cons (P := fun e => ∃ k : Nat, (1 ≤ k ∧ k ≤ 6) ∧ e = [x0, some (.ref r), some (.int k), x3, x4, x5, x6, none]) (in_imp (in_set (i := 2) (im_if (K := 1) (K2 := 1) (P := fun v => ∃ k : Nat, v = .int k ∧ 1 ≤ k ∧ k ≤ 6) (PB := fun _ => True) (im_cmp (K := 1) (K2 := 0) (im_drawL (i := 1) (m := 12) rfl (by omega)) im_lit (by
      rintro v w ⟨j, rfl, _⟩ rfl
      exact ⟨_, trivial, fun st => c_ieq⟩)) ((Im.ru (a := .int 6) (fun m => ru_lit) ⟨6, rfl, by omega, by omega⟩).more (by omega)) ((im_less (K := 0) (m := 5) rfl (by omega)).imp fun v ⟨k, h1, h2, h3⟩ => ⟨k, h1, h2, by omega⟩)) (by show 2 < 8; decide)) ?_) ?_
    · rintro e ⟨v, ⟨k, rfl, h1, h2⟩, rfl⟩
      exact ⟨k, ⟨h1, h2⟩, rfl⟩
    rintro e ⟨k, ⟨k1, k2⟩, rfl⟩
    refine in_cons (P := fun e => e = [x0, some (.ref r), some (.int k), some (.lst ((numL k).map .int)), x4, x5, x6, none]) (in_imp (in_set (i := 3) (Q := fun v => v = .lst ((numL k).map .int)) (Im.ru (fun m => ru_numbers k1 k2 rfl) rfl) (by show 3 < 8; decide)) ?_) ?_
    · rintro e ⟨v, rfl, rfl⟩; rfl
    rintro e rfl
    refine in_cons (P := fun e => e = [x0, some (.ref r), some (.int k), some (.lst ((numL k).map .int)), x4, x5, x6, none]) (in_skip (im_ntru (Im.ru (fun m => ru_first k1 k2 rfl rfl (by show 4 < 8; decide)) rfl))) ?_
    rintro e rfl
    refine in_cons (P := fun e => ∃ s : Nat, s ≤ 4 ∧ e = [x0, some (.ref r), some (.int k), some (.lst ((numL k).map .int)), some (.int s), x5, x6, none]) (in_imp (in_set (i := 4) (im_if (K := 1) (K2 := 1) (P := fun v => ∃ s : Nat, v = .int s ∧ s ≤ 4) (PB := fun _ => True) (im_cmp (K := 1) (K2 := 0) (im_drawL (i := 1) (m := 6) rfl (by omega)) im_lit (by
      rintro v w ⟨j, rfl, _⟩ rfl
      exact ⟨_, trivial, fun st => c_ieq⟩)) ((Im.ru (a := .int 4) (fun m => ru_lit) ⟨4, rfl, by omega⟩).more (by omega)) ((im_drawL (i := 1) (m := 4) rfl (by omega)).imp fun v ⟨j, h1, h2⟩ => ⟨j, h1, by omega⟩)) (by show 4 < 8; decide)) ?_) ?_
    · rintro e ⟨v, ⟨s, rfl, h1⟩, rfl⟩
      exact ⟨s, h1, rfl⟩
    rintro e ⟨s, hs, rfl⟩
    refine in_cons (P := fun e => e = [x0, some (.ref r), some (.int k), some (.lst ((numL k).map .int)), some (.int s), x5, x6, none]) (in_skip (im_ntru (Im.ru (a := .bl true) (fun m => ru_call2 (x := .int (UnI.getD s 0)) (y := .int (UnI.getD s 0)) (ru_call1 (ru_var rfl) (ruR (unt_at (by omega)) m)) (ru_call1 (ru_var rfl) (ruR (cnt_at hs) m)) (exact_ok 6 (.int (UnI.getD s 0)) trivial m)) rfl))) ?_
    rintro e rfl
    refine in_cons (P := fun e => ∃ x2 x4 x6, e = [x0, some (.ref r), x2, some (.lst ((numL k).map .int)), x4, some UnV, x6, none]) (in_imp (in_set (i := 5) (Q := fun v => v = UnV) (Im.ru (fun m => ru_call1 ru_lit (ruR (same_eq unt_to) m)) rfl) (by show 5 < 8; decide)) ?_) ?_
    · rintro e ⟨v, rfl, rfl⟩; exact ⟨_, _, _, rfl⟩
    rintro e ⟨y2, y4, y6, rfl⟩
    refine in_cons (P := fun e => ∃ x2 x4 x6, e = [x0, some (.ref r), x2, some (.lst ((numL k).map .int)), x4, some UnV, x6, none]) ?_ ?_
    · refine in_for (enc := fun i : Nat => Val.int i) (B := 4) (P := fun xs => xs = List.range 4) (I := fun e => ∃ x2 x4 x6, e = [x0, some (.ref r), x2, some (.lst ((numL k).map .int)), x4, some UnV, x6, none]) ((im_range (n := 4) (by decide)).imp fun x ⟨xs, h1, h2, h3⟩ => ⟨xs, h1, by rw [h1]; simp, h3⟩) ⟨_, _, _, rfl⟩ ?_
      rintro xs rfl q hq e ⟨z2, z4, z6, rfl⟩
      refine ⟨_, rfl, ?_⟩
      refine in_cons (P := fun e => ∃ a b : Nat, (1 ≤ a ∧ a ≤ 14) ∧ b < 10 ∧ e = [x0, some (.ref r), some (.int a), some (.lst ((numL k).map .int)), some (.int b), some UnV, some (.int q), none]) (in_setT (im_tup2 (im_less (K := 0) (m := 14) rfl (by omega)) (im_drawL (i := 1) (m := 10) rfl (by omega))) ?_) ?_
      · rintro v ⟨x, y, ⟨a, rfl, h1, h2⟩, ⟨b, rfl, h3⟩, rfl⟩
        exact ⟨_, rfl, a, b, ⟨h1, h2⟩, h3, rfl⟩
      rintro e ⟨a, b, ⟨a1, a2⟩, b1, rfl⟩
      obtain ⟨x, f1, f2⟩ := fam_at a1 a2 b1
      refine in_cons (P := fun e => e = [x0, some (.ref r), some (.int a), some (.lst ((numL k).map .int)), some (.int b), some UnV, some (.int q), none]) (in_skip (im_ntru (Im.ru (a := .bl true) (fun m => ?_) rfl))) ?_
      · refine ru_call2 (x := .lst [.int x, .int (UnI.getD a 0)]) (y := .lst [.int x, .int (UnI.getD a 0)]) (ru_lst2 (ru_call2 (ru_var rfl) (ru_var rfl) (ruR f1 m)) (ru_call1 (ru_var rfl) (ruR (unt_at a2) m))) (ru_lst2 (ru_call2 (ru_var rfl) (ru_var rfl) (ruR f2 m)) (ru_sub (x := UnV) (y := .int (a : Nat)) (ru_var rfl) (ru_var rfl) (get_lst (i := a) ?_))) (exact_ok 6 _ (okX_two (n := 5) (v := .int x) (w := .int (UnI.getD a 0)) trivial trivial) m)
        rw [List.getElem?_map, List.getElem?_eq_getElem (show a < UnI.length by show a < 15; omega), List.getD_eq_getElem?_getD, List.getElem?_eq_getElem (show a < UnI.length by show a < 15; omega)]
        rfl
      rintro e rfl
      exact in_nil ⟨_, _, _, rfl⟩
    rintro e ⟨z2, z4, z6, rfl⟩
    exact in_nil ⟨_, _, _, _, _, _, rfl⟩
  · rintro r e ⟨x0, x2, x3, x4, x5, x6, rfl⟩
    let T : Val := .lst [.int 1, .int 3, .int 15, .int 0, .int 28, .int 13888]
    have six : ∀ {m : Mem} {env : Env} {a b c d f g : EF} {u v w x y z : Val}, Ru m (a env) u → Ru m (b env) v → Ru m (c env) w → Ru m (d env) x → Ru m (f env) y → Ru m (g env) z → Ru m (eLst false (aCons a (aCons b (aCons c (aCons d (aCons f (aCons g aNil)))))) env) (.lst [u, v, w, x, y, z]) := fun h1 h2 h3 h4 h5 h6 => ru_lst (ru_cons h1 (ru_cons h2 (ru_cons h3 (ru_cons h4 (ru_cons h5 (ru_cons h6 ru_nil)))))) (by simp)
    refine ir_cons (P := fun e => e = [x0, some (.ref r), x2, x3, x4, x5, x6, some T]) (in_imp (in_set (i := 7) (Q := fun v => v = T) (Im.ru (fun m => six (ru_call2 ru_lit ru_lit (ruR told_1 m)) (ru_call2 ru_lit ru_lit (ruR told_2 m)) (ru_call2 ru_lit ru_lit (ruR told_3 m)) (ru_call2 ru_lit ru_lit (ruR told_4 m)) (ru_call1 ru_lit (ruR (unt_at (m := 4) (by omega)) m)) (ru_call1 ru_lit (ruR (unt_at (m := 6) (by omega)) m))) rfl) (by show 7 < 8; decide)) ?_) ?_
    · rintro e ⟨v, rfl, rfl⟩; rfl
    rintro e rfl
    refine ir_first (ir_ret (Im.ru (P := fun v => v = Val.bl true) (a := Val.bl true) (fun m => ?_) rfl))
    refine ru_call2 (x := T) (y := T) (ru_var rfl) (six ru_lit ru_lit ru_lit ru_lit ru_lit ru_lit) (exact_ok 6 _ ?_ m)
    exact okXI (n := 4) (is := [1, 3, 15, 0, 28, 13888]) (by decide)
end Pv.Q

namespace Pv
open PySem
theorem plain_law : ∀ ns : List Int, ns.length ≤ 63 → ∃ st, f_law [.rol (ns.map .int)] ⟨0, []⟩ = some (.ok (.bl true), st) := Q.plain_law
end Pv
/-! Pv, part C: how trees and the small store stand in the layer's heap. -/
namespace Pv
open PySem PySem.Spec L2

/-- what is never changed again keeps what it holds -/
structure Keep (F : Addr → Prop) (H H' : Hp) : Prop where
  same : ∀ a, F a → H' a = H a
  tups : ∀ a xs, H a = some (.tup xs) → H' a = some (.tup xs)
section
variable {F : Addr → Prop} {H H' : Hp}
theorem Keep.lst (k : Keep F H H') : ∀ a xs, F a → H a = some (.lst xs) → H' a = some (.lst xs) := fun a xs f h => (k.same a f).trans h
theorem Keep.tup (k : Keep F H H') : ∀ a xs, H a = some (.tup xs) → H' a = some (.tup xs) := k.tups
theorem Keep.ins (k : Keep F H H') : ∀ a C dx ff, F a → H a = some (.ins C dx ff) → H' a = some (.ins C dx ff) := fun a C dx ff f h => (k.same a f).trans h
theorem Keep.rd (k : Keep F H H') : ∀ a u, F a → Rd H a u → Rd H' a u := fun a u f h => by
  unfold Rd at h ⊢
  rw [k.same a f]; exact h
end
theorem Keep.refl {F : Addr → Prop} {H : Hp} : Keep F H H := ⟨fun _ _ => rfl, fun _ _ h => h⟩
theorem Keep.put {F : Addr → Prop} {H : Hp} {p : Addr} {o : HO} (h : ¬ F p) (ht : ∀ xs, H p ≠ some (.tup xs)) : Keep F H (upd H p o) := ⟨fun a fa => upd_ne (fun e => h (e ▸ fa)), fun a xs q => (upd_ne (fun e => ht xs (by rw [← e]; exact q))).trans q⟩
theorem Keep.new {F : Addr → Prop} {H : Hp} {p : Addr} {o : HO} (h : ¬ F p) (hp : H p = none) : Keep F H (upd H p o) := Keep.put h fun xs q => by rw [hp] at q; cases q

section
variable (K : PySem.W.Frag) (ca : CA)
/-- a tuple that is read -/
def FT (_F : Addr → Prop) (H : Hp) (a : Addr) (xs : List V) : Prop := H a = some (.tup xs)
/-- a list that is only read -/
def FR (F : Addr → Prop) (H : Hp) (a : Addr) (xs : List V) : Prop := (F a ∧ Rd H a (.lst xs)) ∨
  ∃ (o : PySem.Obj) (its : Array Value) (n : Nat), K.lookup a = some o ∧ o.cls = .type "list" ∧ o.dict = none ∧ o.data = .seq its n ∧ its.size ≤ sizeLine ∧ Vals xs its.toList
/-- a tuple of the module -/
def FK (a : Addr) (xs : List V) : Prop := ∃ (o : PySem.Obj) (its : Array Value) (n : Nat), K.lookup a = some o ∧ o.cls = .type "tuple" ∧ o.data = .seq its n ∧ its.size ≤ sizeLine ∧ Vals xs its.toList
/-- the keys of a dict -/
def DA (H : Hp) (a : Addr) (t : Bool) (kk : List DK) (xs : List V) : Prop := match t with
  | false => ∃ kvs : List (Key × V), Rd H a (.dK kvs) ∧ kk = kvs.map (fun p => Sum.inl p.1) ∧ xs = kvs.map (·.2)
  | true => ∃ kvs : List (List Key × V), Rd H a (.dT kvs) ∧ kk = kvs.map (fun p => Sum.inr p.1) ∧ xs = kvs.map (·.2)
/-- .. of one that is locked -/
def DF (H : Hp) (a : Addr) (t : Bool) (kk : List DK) (xs : List V) : Prop := match t with
  | false => ∃ o, ∃ kvs : List (Key × V), H a = some (.frz o (.dK kvs)) ∧ kk = kvs.map (fun p => Sum.inl p.1) ∧ xs = kvs.map (·.2)
  | true => ∃ o, ∃ kvs : List (List Key × V), H a = some (.frz o (.dT kvs)) ∧ kk = kvs.map (fun p => Sum.inr p.1) ∧ xs = kvs.map (·.2)
theorem DF.da {H : Hp} {a : Addr} {t : Bool} {kk : List DK} {xs : List V} (h : DF H a t kk xs) : DA H a t kk xs := by
  cases t with
  | false => obtain ⟨o, kvs, h1, h2⟩ := h; exact ⟨kvs, .inr ⟨o, h1⟩, h2⟩
  | true => obtain ⟨o, kvs, h1, h2⟩ := h; exact ⟨kvs, .inr ⟨o, h1⟩, h2⟩
/-- .. of one that may be changed -/
def DM (H : Hp) (a : Addr) (t : Bool) (kk : List DK) (xs : List V) : Prop := match t with
  | false => ∃ kvs : List (Key × V), H a = some (.dK kvs) ∧ kk = kvs.map (fun p => Sum.inl p.1) ∧ xs = kvs.map (·.2)
  | true => ∃ kvs : List (List Key × V), H a = some (.dT kvs) ∧ kk = kvs.map (fun p => Sum.inr p.1) ∧ xs = kvs.map (·.2)
theorem DM.da {H : Hp} {a : Addr} {t : Bool} {kk : List DK} {xs : List V} (h : DM H a t kk xs) : DA H a t kk xs := by
  cases t with
  | false => obtain ⟨kvs, h1, h2⟩ := h; exact ⟨kvs, .inl h1, h2⟩
  | true => obtain ⟨kvs, h1, h2⟩ := h; exact ⟨kvs, .inl h1, h2⟩

theorem DM.notTup {H : Hp} {a : Addr} {t : Bool} {kk : List DK} {xs : List V} (h : DM H a t kk xs) : ∀ zs, H a ≠ some (.tup zs) := by
  intro zs z
  cases t with
  | false => obtain ⟨kvs, h1, _⟩ := h; rw [h1] at z; cases z
  | true => obtain ⟨kvs, h1, _⟩ := h; rw [h1] at z; cases z

/-- a dict whose keys are tuples of tuples, at a -/
def NDO (w : World) (a : Addr) (kvs : List (NestedKey × Addr × V)) : HO := .ext fun h => kvs.length ≤ sizeLine ∧ (a == sysModules) = false ∧
  ∃ xs : List (NestedKey × Addr × Value), Paired (fun (p : NestedKey × Addr × V) (q : NestedKey × Addr × Value) => p.1 = q.1 ∧ p.2.1 = q.2.1 ∧ RelV p.2.2 q.2.2) kvs xs ∧
  ∃ (o : PySem.Obj) (es : Array DictEntry) (ep : Nat), h.get? a = some o ∧ o.ExactDict ∧ o.data = .dict es ep ∧ es.toList = xs.map (fun x => (⟨x.1.hash w, .ref x.2.1, x.2.2⟩ : DictEntry)) ∧ (xs.map (·.1)).Nodup
mutual
def RV (F : Addr → Prop) (H : Hp) (as : Nat → Addr) (nx : Nat) : Val → V → Prop
  | .non, x => x = .non
  | .bl b, x => x = .bl b
  | .int i, x => x = .int i
  | .str s, x => x = .str s
  | .tup vs, x => ∃ a xs, x = .ref a ∧ FT F H a xs ∧ RVs F H as nx vs xs
  | .lst vs, x => ∃ a xs, x = .ref a ∧ F a ∧ H a = some (.lst xs) ∧ RVs F H as nx vs xs
  | .rol vs, x => ∃ a xs, x = .ref a ∧ FR K F H a xs ∧ RVs F H as nx vs xs
  | .rot vs, x => ∃ a xs, x = .ref a ∧ FK K a xs ∧ RVs F H as nx vs xs
  | .dct t ks vs, x => ∃ a kk xs, x = .ref a ∧ F a ∧ toDKs t ks = some kk ∧ DF H a t kk xs ∧ RVs F H as nx vs xs
  | .ins c fs vs, x => ∃ a dx ff, x = .ref a ∧ F a ∧ H a = some (.ins (ca c) dx ff) ∧ ff.map (·.1) = fs ∧ RVs F H as nx vs (ff.map (·.2))
  | .ref n, x => n < nx ∧ x = .ref (as n)
  | .ndc ks vs, x => ∃ a kvs, x = .ref a ∧ F a ∧ H a = some (NDO ca.w a kvs) ∧ toNKeys ks = some (kvs.map (·.1)) ∧ RVs F H as nx ks (kvs.map fun p => V.ref p.2.1) ∧ RVs F H as nx vs (kvs.map (·.2.2))
  | .cls c, x => x = .ref (ca c)
  | .ty n, x => x = .ty n
def RVs (F : Addr → Prop) (H : Hp) (as : Nat → Addr) (nx : Nat) : List Val → List V → Prop
  | [], xs => xs = []
  | v :: vs, xs => ∃ x r, xs = x :: r ∧ RV F H as nx v x ∧ RVs F H as nx vs r
end

/-- a thing of the store, at its place -/
def OV (F : Addr → Prop) (H : Hp) (as : Nat → Addr) (nx : Nat) (a : Addr) : Obj → Prop
  | .lst vs => ∃ xs, H a = some (.lst xs) ∧ RVs K ca F H as nx vs xs
  | .dct t ks vs => ∃ kk xs, toDKs t ks = some kk ∧ DM H a t kk xs ∧ RVs K ca F H as nx vs xs
  | .ins c fs vs => ∃ dx ff, H a = some (.ins (ca c) dx ff) ∧ ff.map (·.1) = fs ∧ RVs K ca F H as nx vs (ff.map (·.2))
  | .ndc ks vs => ∃ kvs, H a = some (NDO ca.w a kvs) ∧ toNKeys ks = some (kvs.map (·.1)) ∧ RVs K ca F H as nx ks (kvs.map fun p => V.ref p.2.1) ∧ RVs K ca F H as nx vs (kvs.map (·.2.2))

structure Rel (F : Addr → Prop) (H : Hp) (as : Nat → Addr) (st : Store) : Prop where
  dom : ∀ a, F a → H a ≠ none
  here : ∀ n, n < st.nx → H (as n) ≠ none
  inj : ∀ m n, m < st.nx → n < st.nx → as m = as n → m = n
  live : ∀ n o, st.get n = some o → n < st.nx ∧ ¬ F (as n) ∧ OV K ca F H as st.nx (as n) o

structure Ext (F : Addr → Prop) (H : Hp) (as : Nat → Addr) (st : Store) (F' : Addr → Prop) (H' : Hp) (as' : Nat → Addr) (st' : Store) : Prop where
  sub : ∀ a, F a → F' a
  keep : Keep F H H'
  ags : ∀ n, n < st.nx → as' n = as n
  nx : st.nx ≤ st'.nx
  gone : ∀ n, n < st.nx → st.get n = none → st'.get n = none ∧ H' (as n) = H (as n) ∧ (F' (as n) → F (as n))
  fresh : ∀ n, st.nx ≤ n → n < st'.nx → H (as' n) = none
  grow : ∀ a, H a ≠ none → H' a ≠ none
  frame : ∀ a, H a ≠ none → (∀ n, n < st.nx → st.get n ≠ none → as n ≠ a) → H' a = H a ∧ (F' a → F a)
end

section
variable {K : PySem.W.Frag} {ca : CA} {F F' F'' : Addr → Prop} {H H' H'' : Hp} {as as' as'' : Nat → Addr} {st st' st'' : Store} {nx nx' : Nat}
theorem Ext.refl : Ext F H as st F H as st := ⟨fun _ h => h, Keep.refl, fun _ _ => rfl, Nat.le_refl _, fun _ _ h => ⟨h, rfl, fun z => z⟩, fun n h1 h2 => absurd h2 (Nat.not_lt.mpr h1), fun _ h => h, fun _ _ _ => ⟨rfl, fun z => z⟩⟩
theorem grow_upd {a : Addr} {o : HO} : ∀ b, H b ≠ none → upd H a o b ≠ none := fun b h => by
  by_cases e : b = a
  · rw [e, upd_same]; simp
  · rw [upd_ne e]; exact h
theorem Keep.trans (a : Keep F H H') (b : Keep F' H' H'') (s : ∀ x, F x → F' x) : Keep F H H'' := ⟨fun x fx => (b.same x (s x fx)).trans (a.same x fx), fun x xs h => b.tups x xs (a.tups x xs h)⟩
theorem Ext.trans (a : Ext F H as st F' H' as' st') (b : Ext F' H' as' st' F'' H'' as'' st'') : Ext F H as st F'' H'' as'' st'' where
  sub := fun x h => b.sub x (a.sub x h)
  keep := a.keep.trans b.keep a.sub
  ags := fun n h => (b.ags n (Nat.lt_of_lt_of_le h a.nx)).trans (a.ags n h)
  nx := Nat.le_trans a.nx b.nx
  gone := fun n h e => by
    obtain ⟨e1, h1, f1⟩ := a.gone n h e
    obtain ⟨e2, h2, f2⟩ := b.gone n (Nat.lt_of_lt_of_le h a.nx) e1
    rw [a.ags n h] at h2 f2
    exact ⟨e2, h2.trans h1, fun z => f1 (f2 z)⟩
  fresh := fun n h1 h2 => by
    by_cases h : n < st'.nx
    · rw [b.ags n h]; exact a.fresh n h1 h
    · have q := b.fresh n (Nat.not_lt.mp h) h2
      by_cases z : H (as'' n) = none
      · exact z
      · exact absurd q (a.grow _ z)
  grow := fun x h => b.grow x (a.grow x h)
  frame := fun x hx hl => by
    obtain ⟨e1, f1⟩ := a.frame x hx hl
    obtain ⟨e2, f2⟩ := b.frame x (a.grow x hx) fun n hn hg => by
      by_cases h : n < st.nx
      · rw [a.ags n h]
        exact hl n h fun z => hg (a.gone n h z).1
      · intro z
        have := a.fresh n (Nat.not_lt.mp h) hn
        rw [z] at this
        exact hx this
    exact ⟨e2.trans e1, fun z => f1 (f2 z)⟩
theorem FT.mono {a : Addr} {xs : List V} (_s : ∀ x, F x → F' x) (k : Keep F H H') (h : FT F H a xs) : FT F' H' a xs := k.tup a xs h
theorem FR.mono {a : Addr} {xs : List V} (s : ∀ x, F x → F' x) (k : Keep F H H') (h : FR K F H a xs) : FR K F' H' a xs :=
  h.elim (fun ⟨f, r⟩ => .inl ⟨s a f, k.rd a _ f r⟩) .inr
theorem FT.sq {a : Addr} {xs : List V} (h : FT F H a xs) : SqT K H a xs := .inl (.inl h)
theorem FR.sq {a : Addr} {xs : List V} (h : FR K F H a xs) : SqL K H a xs := h.elim (fun ⟨_, r⟩ => .inl r) .inr
theorem DF.mono {a : Addr} {t : Bool} {kk : List DK} {xs : List V} (f : F a) (k : Keep F H H') (h : DF H a t kk xs) : DF H' a t kk xs := by
  cases t with
  | false => obtain ⟨o, kvs, h1, h2⟩ := h; exact ⟨o, kvs, (k.same a f).trans h1, h2⟩
  | true => obtain ⟨o, kvs, h1, h2⟩ := h; exact ⟨o, kvs, (k.same a f).trans h1, h2⟩
mutual
theorem RV.mono (s : ∀ x, F x → F' x) (k : Keep F H H') (g : ∀ n, n < nx → as' n = as n) (hn : nx ≤ nx') : ∀ (v : Val) (x : V), RV K ca F H as nx v x → RV K ca F' H' as' nx' v x
  | .non, x, h => by simp only [RV] at h ⊢; exact h
  | .bl b, x, h => by simp only [RV] at h ⊢; exact h
  | .int b, x, h => by simp only [RV] at h ⊢; exact h
  | .str b, x, h => by simp only [RV] at h ⊢; exact h
  | .tup vs, x, h => by
    simp only [RV] at h ⊢
    obtain ⟨a, xs, e, h1, h2⟩ := h
    exact ⟨a, xs, e, h1.mono s k, RVs.mono s k g hn vs xs h2⟩
  | .lst vs, x, h => by
    simp only [RV] at h ⊢
    obtain ⟨a, xs, e, f, h1, h2⟩ := h
    exact ⟨a, xs, e, s a f, k.lst a xs f h1, RVs.mono s k g hn vs xs h2⟩
  | .rol vs, x, h => by
    simp only [RV] at h ⊢
    obtain ⟨a, xs, e, h1, h2⟩ := h
    exact ⟨a, xs, e, h1.mono s k, RVs.mono s k g hn vs xs h2⟩
  | .dct t ks vs, x, h => by
    simp only [RV] at h ⊢
    obtain ⟨a, kk, xs, e, f, h0, h1, h2⟩ := h
    exact ⟨a, kk, xs, e, s a f, h0, h1.mono f k, RVs.mono s k g hn vs xs h2⟩
  | .ins c fs vs, x, h => by
    simp only [RV] at h ⊢
    obtain ⟨a, dx, ff, e, f, h1, h2, h3⟩ := h
    exact ⟨a, dx, ff, e, s a f, k.ins a _ dx ff f h1, h2, RVs.mono s k g hn vs _ h3⟩
  | .ref n, x, h => by
    simp only [RV] at h ⊢
    obtain ⟨h1, h2⟩ := h
    exact ⟨Nat.lt_of_lt_of_le h1 hn, by rw [g n h1]; exact h2⟩
  | .cls c, x, h => by simp only [RV] at h ⊢; exact h
  | .ty n, x, h => by simp only [RV] at h ⊢; exact h
  | .rot vs, x, h => by
    simp only [RV] at h ⊢
    obtain ⟨a, xs, e, h1, h2⟩ := h
    exact ⟨a, xs, e, h1, RVs.mono s k g hn vs xs h2⟩
  | .ndc ks vs, x, h => by
    simp only [RV] at h ⊢
    obtain ⟨a, kvs, e, f, h1, h2, h3, h4⟩ := h
    exact ⟨a, kvs, e, s a f, (k.same a f).trans h1, h2, RVs.mono s k g hn ks _ h3, RVs.mono s k g hn vs _ h4⟩
theorem RVs.mono (s : ∀ x, F x → F' x) (k : Keep F H H') (g : ∀ n, n < nx → as' n = as n) (hn : nx ≤ nx') : ∀ (vs : List Val) (xs : List V), RVs K ca F H as nx vs xs → RVs K ca F' H' as' nx' vs xs
  | [], xs, h => by simp only [RVs] at h ⊢; exact h
  | v :: vs, xs, h => by
    simp only [RVs] at h ⊢
    obtain ⟨x, r, e, h1, h2⟩ := h
    exact ⟨x, r, e, RV.mono s k g hn v x h1, RVs.mono s k g hn vs r h2⟩
end
theorem RV.ext {v : Val} {x : V} (h : RV K ca F H as st.nx v x) (e : Ext F H as st F' H' as' st') : RV K ca F' H' as' st'.nx v x := RV.mono e.sub e.keep e.ags e.nx v x h
theorem RVs.ext {v : List Val} {x : List V} (h : RVs K ca F H as st.nx v x) (e : Ext F H as st F' H' as' st') : RVs K ca F' H' as' st'.nx v x := RVs.mono e.sub e.keep e.ags e.nx v x h
theorem RVs.nil : RVs K ca F H as nx [] [] := by simp only [RVs]
theorem RVs.cons {v : Val} {vs : List Val} {x : V} {xs : List V} (h : RV K ca F H as nx v x) (t : RVs K ca F H as nx vs xs) : RVs K ca F H as nx (v :: vs) (x :: xs) := by
  simp only [RVs]; exact ⟨x, xs, rfl, h, t⟩
theorem RVs.inv {v : Val} {vs : List Val} {xs : List V} (h : RVs K ca F H as nx (v :: vs) xs) : ∃ x r, xs = x :: r ∧ RV K ca F H as nx v x ∧ RVs K ca F H as nx vs r := by
  simpa only [RVs] using h
theorem RVs.nil_inv {xs : List V} (h : RVs K ca F H as nx [] xs) : xs = [] := by simpa only [RVs] using h
theorem RVs.length : ∀ {vs : List Val} {xs : List V}, RVs K ca F H as nx vs xs → vs.length = xs.length
  | [], xs, h => by rw [h.nil_inv]; rfl
  | v :: vs, xs, h => by
    obtain ⟨x, r, rfl, _, t⟩ := h.inv
    simp only [List.length_cons, RVs.length t]
theorem RVs.get : ∀ {vs : List Val} {xs : List V} {i : Nat} {v : Val}, RVs K ca F H as nx vs xs → vs[i]? = some v → ∃ x, xs[i]? = some x ∧ RV K ca F H as nx v x
  | [], _, _, _, _, e => by simp at e
  | v :: vs, xs, i, w, h, e => by
    obtain ⟨x, r, rfl, h1, t⟩ := h.inv
    cases i with
    | zero => simp at e; subst e; exact ⟨x, rfl, h1⟩
    | succ i => simpa using RVs.get (i := i) t (by simpa using e)
theorem RVs.append : ∀ {vs ws : List Val} {xs ys : List V}, RVs K ca F H as nx vs xs → RVs K ca F H as nx ws ys → RVs K ca F H as nx (vs ++ ws) (xs ++ ys)
  | [], _, xs, _, h, t => by rw [h.nil_inv]; exact t
  | v :: vs, _, xs, _, h, t => by
    obtain ⟨x, r, rfl, h1, h2⟩ := h.inv
    exact .cons h1 (RVs.append h2 t)
theorem RVs.drop : ∀ (n : Nat) {vs : List Val} {xs : List V}, RVs K ca F H as nx vs xs → RVs K ca F H as nx (vs.drop n) (xs.drop n)
  | 0, _, _, h => h
  | n + 1, [], xs, h => by rw [h.nil_inv]; exact .nil
  | n + 1, v :: vs, xs, h => by
    obtain ⟨x, r, rfl, h1, h2⟩ := h.inv
    exact RVs.drop n h2
theorem RVs.take : ∀ (n : Nat) {vs : List Val} {xs : List V}, RVs K ca F H as nx vs xs → RVs K ca F H as nx (vs.take n) (xs.take n)
  | 0, _, _, h => .nil
  | n + 1, [], xs, h => by rw [h.nil_inv]; exact .nil
  | n + 1, v :: vs, xs, h => by
    obtain ⟨x, r, rfl, h1, h2⟩ := h.inv
    exact .cons h1 (RVs.take n h2)
theorem RVs.reverse : ∀ {vs : List Val} {xs : List V}, RVs K ca F H as nx vs xs → RVs K ca F H as nx vs.reverse xs.reverse
  | [], xs, h => by rw [h.nil_inv]; exact .nil
  | v :: vs, xs, h => by
    obtain ⟨x, r, rfl, h1, h2⟩ := h.inv
    rw [List.reverse_cons, List.reverse_cons]
    exact (RVs.reverse h2).append (.cons h1 .nil)
theorem RVs.set : ∀ {vs : List Val} {xs : List V} {i : Nat} {v : Val} {x : V}, RVs K ca F H as nx vs xs → RV K ca F H as nx v x → RVs K ca F H as nx (vs.set i v) (xs.set i x)
  | [], xs, _, _, _, h, _ => by rw [h.nil_inv]; exact .nil
  | v :: vs, xs, 0, w, y, h, g => by
    obtain ⟨x, r, rfl, h1, h2⟩ := h.inv
    exact .cons g h2
  | v :: vs, xs, i + 1, w, y, h, g => by
    obtain ⟨x, r, rfl, h1, h2⟩ := h.inv
    exact .cons h1 (RVs.set h2 g)
theorem RVs.rep {vs : List Val} {xs : List V} (h : RVs K ca F H as nx vs xs) : ∀ k : Nat, RVs K ca F H as nx (List.replicate k vs).flatten (List.replicate k xs).flatten
  | 0 => .nil
  | k + 1 => by
    rw [List.replicate_succ, List.replicate_succ, List.flatten_cons, List.flatten_cons]
    exact h.append (RVs.rep h k)
theorem OV.mono {a : Addr} {o : Obj} (s : ∀ x, F x → F' x) (k : Keep F H H') (g : ∀ n, n < nx → as' n = as n) (hn : nx ≤ nx') (e : H' a = H a) (h : OV K ca F H as nx a o) : OV K ca F' H' as' nx' a o := by
  cases o with
  | lst vs =>
    obtain ⟨xs, h1, h2⟩ := h
    exact ⟨xs, by rw [e]; exact h1, RVs.mono s k g hn vs xs h2⟩
  | dct t ks vs =>
    obtain ⟨kk, xs, h0, h1, h2⟩ := h
    refine ⟨kk, xs, h0, ?_, RVs.mono s k g hn vs xs h2⟩
    cases t with
    | false => obtain ⟨kvs, q1, q2⟩ := h1; exact ⟨kvs, by rw [e]; exact q1, q2⟩
    | true => obtain ⟨kvs, q1, q2⟩ := h1; exact ⟨kvs, by rw [e]; exact q1, q2⟩
  | ins c fs vs =>
    obtain ⟨dx, ff, h1, h2, h3⟩ := h
    exact ⟨dx, ff, by rw [e]; exact h1, h2, RVs.mono s k g hn vs _ h3⟩
  | ndc ks vs =>
    obtain ⟨kvs, h1, h2, h3, h4⟩ := h
    exact ⟨kvs, by rw [e]; exact h1, h2, RVs.mono s k g hn ks _ h3, RVs.mono s k g hn vs _ h4⟩
theorem OV.there {a : Addr} {o : Obj} (h : OV K ca F H as nx a o) : H a ≠ none := by
  cases o with
  | lst vs => obtain ⟨xs, h1, _⟩ := h; rw [h1]; simp
  | dct t ks vs =>
    obtain ⟨kk, xs, h0, h1, h2⟩ := h
    cases t with
    | false => obtain ⟨kvs, q1, q2⟩ := h1; rw [q1]; simp
    | true => obtain ⟨kvs, q1, q2⟩ := h1; rw [q1]; simp
  | ins c fs vs => obtain ⟨dx, ff, h1, _⟩ := h; rw [h1]; simp
  | ndc ks vs => obtain ⟨kvs, h1, _⟩ := h; rw [h1]; simp

theorem OV.notTup {a : Addr} {o : Obj} (h : OV K ca F H as nx a o) : ∀ xs, H a ≠ some (.tup xs) := by
  intro zs e
  cases o with
  | lst vs => obtain ⟨xs, h1, _⟩ := h; rw [h1] at e; cases e
  | dct t ks vs =>
    obtain ⟨kk, xs, h0, h1, h2⟩ := h
    cases t with
    | false => obtain ⟨kvs, q1, q2⟩ := h1; rw [q1] at e; cases e
    | true => obtain ⟨kvs, q1, q2⟩ := h1; rw [q1] at e; cases e
  | ins c fs vs => obtain ⟨dx, ff, h1, _⟩ := h; rw [h1] at e; cases e
  | ndc ks vs => obtain ⟨kvs, h1, _⟩ := h; rw [h1] at e; cases e

/-! ### new things -/
/-- something new that never changes -/
theorem new_fz (R : Rel K ca F H as st) {p : Addr} (o : HO) (hp : H p = none) : Ext F H as st (fun a => F a ∨ a = p) (upd H p o) as st ∧ Rel K ca (fun a => F a ∨ a = p) (upd H p o) as st := by
  have nF : ¬ F p := fun f => R.dom p f hp
  have ne : ∀ n, n < st.nx → as n ≠ p := fun n h e => R.here n h (e ▸ hp)
  have k : Keep F H (upd H p o) := Keep.new nF hp
  refine ⟨⟨fun a h => .inl h, k, fun _ _ => rfl, Nat.le_refl _, fun n h e => ⟨e, upd_ne (ne n h), fun z => z.elim (fun z => z) fun z => absurd z (ne n h)⟩, fun n h1 h2 => absurd h2 (Nat.not_lt.mpr h1), grow_upd, fun a ha _ => ⟨upd_ne (fun z => ha (z ▸ hp)), fun z => z.elim (fun z => z) fun z => absurd hp (z ▸ ha)⟩⟩, fun a h => ?_, fun n h => ?_, R.inj, fun n ob e => ?_⟩
  · rcases h with h | h
    · rw [upd_ne (fun z => nF (by rw [← z]; exact h))]; exact R.dom a h
    · rw [h, upd_same]; simp
  · rw [upd_ne (ne n h)]; exact R.here n h
  · obtain ⟨h1, h2, h3⟩ := R.live n ob e
    exact ⟨h1, fun z => z.elim h2 (ne n h1), h3.mono (fun a h => .inl h) k (fun _ _ => rfl) (Nat.le_refl _) (upd_ne (ne n h1))⟩
/-- a number is taken, at p something new -/
def asN (as : Nat → Addr) (n : Nat) (p : Addr) : Nat → Addr := fun m => if m = n then p else as m
theorem asN_eq {n : Nat} {p : Addr} : asN as n p n = p := if_pos rfl
theorem asN_ne {n m : Nat} {p : Addr} (h : m ≠ n) : asN as n p m = as m := if_neg h
theorem new_res (R : Rel K ca F H as st) {p : Addr} (o : HO) (hp : H p = none) : Ext F H as st F (upd H p o) (asN as st.nx p) st.reserve ∧ Rel K ca F (upd H p o) (asN as st.nx p) st.reserve := by
  have nF : ¬ F p := fun f => R.dom p f hp
  have ne : ∀ n, n < st.nx → as n ≠ p := fun n h e => R.here n h (e ▸ hp)
  have k : Keep F H (upd H p o) := Keep.new nF hp
  have ag : ∀ n, n < st.nx → asN as st.nx p n = as n := fun n h => asN_ne (Nat.ne_of_lt h)
  refine ⟨⟨fun a h => h, k, ag, Nat.le_succ _, fun n h e => ⟨e, upd_ne (ne n h), fun z => z⟩, fun n h1 h2 => by
    have : n = st.nx := Nat.le_antisymm (Nat.lt_succ_iff.mp h2) h1
    rw [this, asN_eq]; exact hp, grow_upd, fun a ha _ => ⟨upd_ne (fun z => ha (z ▸ hp)), fun z => z⟩⟩, fun a h => ?_, fun n h => ?_, fun m n hm hn e => ?_, fun n ob e => ?_⟩
  · rw [upd_ne (fun z => nF (by rw [← z]; exact h))]; exact R.dom a h
  · rcases Nat.lt_succ_iff_lt_or_eq.mp h with h | h
    · rw [ag n h, upd_ne (ne n h)]; exact R.here n h
    · rw [h, asN_eq, upd_same]; simp
  · rcases Nat.lt_succ_iff_lt_or_eq.mp hm with hm | hm <;> rcases Nat.lt_succ_iff_lt_or_eq.mp hn with hn | hn
    · rw [ag m hm, ag n hn] at e; exact R.inj m n hm hn e
    · rw [ag m hm, hn, asN_eq] at e; exact absurd e (ne m hm)
    · rw [ag n hn, hm, asN_eq] at e; exact absurd e.symm (ne n hn)
    · rw [hm, hn]
  · have e' : st.get n = some ob := e
    obtain ⟨h1, h2, h3⟩ := R.live n ob e'
    rw [ag n h1]
    exact ⟨Nat.lt_succ_of_lt h1, h2, h3.mono (fun a h => h) k ag (Nat.le_succ _) (upd_ne (ne n h1))⟩
theorem Store.get_add {n m : Nat} {o : Obj} : (st.add n o).get m = if m = n then some o else st.get m := by
  show List.lookup m ((n, o) :: st.m) = _
  by_cases h : m = n
  · subst h; simp [List.lookup]
  · have hb : (m == n) = false := by simpa using h
    simp [List.lookup, hb, h, Store.get]
theorem Store.get_put {n m : Nat} {o : Obj} (h : st.get n ≠ none) : (st.put n o).get m = if m = n then some o else st.get m := by
  have key : ∀ l : List (Nat × Obj), (l.map fun p => if p.1 == n then (n, o) else p).lookup m = if m = n then (l.lookup n).map (fun _ => o) else l.lookup m := by
    intro l
    induction l with
    | nil => by_cases h : m = n <;> simp [h]
    | cons p r ih =>
      obtain ⟨k, ob⟩ := p
      by_cases hk : k = n
      · subst hk
        by_cases hm : m = k
        · subst hm; simp [List.lookup]
        · have hb : (m == k) = false := by simpa using hm
          simp only [List.map_cons, beq_self_eq_true, if_true, List.lookup, hb, ih, hm, if_false]
      · have hk' : (k == n) = false := by simpa using hk
        have hk2 : (n == k) = false := by simpa using fun e : n = k => hk e.symm
        simp only [List.map_cons, hk', Bool.false_eq_true, if_false, List.lookup, ih, hk2]
        by_cases hm : m = n
        · subst hm; simp [hk2]
        · by_cases hmk : m = k
          · subst hmk; simp [hm]
          · have hb : (m == k) = false := by simpa using hmk
            simp [hb, hm]
  show List.lookup m (st.m.map _) = _
  rw [key]
  by_cases hm : m = n
  · simp only [hm, if_true]
    cases e : List.lookup n st.m with
    | none => exact absurd e h
    | some q => rfl
  · simp only [hm, if_false]; rfl
theorem get_drop {n m : Nat} : (st.drop n).get m = if m = n then none else st.get m := by
  show List.lookup m (st.m.filter _) = _
  have key : ∀ l : List (Nat × Obj), (l.filter fun p => p.1 != n).lookup m = if m = n then none else l.lookup m := by
    intro l
    induction l with
    | nil => by_cases h : m = n <;> simp [h]
    | cons p r ih =>
      obtain ⟨k, ob⟩ := p
      by_cases hk : k = n
      · subst hk
        by_cases hm : m = k
        · subst hm; simp only [List.filter_cons, bne_self_eq_false, Bool.false_eq_true, if_false, ih, if_true]
        · have hb : (m == k) = false := by simpa using hm
          simp only [List.filter_cons, bne_self_eq_false, Bool.false_eq_true, if_false, ih, hm, List.lookup, hb]
      · have hk' : (k != n) = true := by simpa using hk
        simp only [List.filter_cons, hk', if_true, List.lookup, ih]
        by_cases hmk : m = k
        · subst hmk; simp [hk]
        · have hb : (m == k) = false := by simpa using hmk
          simp [hb]
  exact key st.m
/-- what stands at a taken number comes to life -/
theorem live_at (R : Rel K ca F H as st) {n : Nat} {o : Obj} (h1 : n < st.nx) (h2 : ¬ F (as n)) (h3 : OV K ca F H as st.nx (as n) o) : Rel K ca F H as (st.add n o) :=
  ⟨R.dom, R.here, R.inj, fun m ob e => by
    rw [Store.get_add] at e
    by_cases hm : m = n
    · rw [if_pos hm] at e; cases e; subst hm; exact ⟨h1, h2, h3⟩
    · rw [if_neg hm] at e; exact R.live m ob e⟩
/-- a thing of the store is changed: what stands at its place now -/
theorem put_at (R : Rel K ca F H as st) {n : Nat} {o o' : Obj} {u : HO} (hn : st.get n = some o)
    (h3 : Ext F H as st F (upd H (as n) u) as (st.put n o') → OV K ca F (upd H (as n) u) as st.nx (as n) o') :
    Ext F H as st F (upd H (as n) u) as (st.put n o') ∧ Rel K ca F (upd H (as n) u) as (st.put n o') := by
  obtain ⟨q1, q2, q3⟩ := R.live n o hn
  have hne : st.get n ≠ none := by rw [hn]; simp
  have k : Keep F H (upd H (as n) u) := Keep.put q2 q3.notTup
  have ne : ∀ m, m < st.nx → m ≠ n → as m ≠ as n := fun m hm d e => d (R.inj m n hm q1 e)
  have x : Ext F H as st F (upd H (as n) u) as (st.put n o') := ⟨fun a h => h, k, fun _ _ => rfl, Nat.le_refl _, fun m hm e => by
    have d : m ≠ n := fun z => by rw [z, hn] at e; cases e
    exact ⟨by rw [Store.get_put hne, if_neg d]; exact e, upd_ne (ne m hm d), fun z => z⟩, fun n h1 h2 => absurd h2 (Nat.not_lt.mpr h1), grow_upd, fun a _ hl => ⟨upd_ne (fun z => hl n q1 hne z.symm), fun z => z⟩⟩
  refine ⟨x, fun a h => ?_, fun m h => ?_, R.inj, fun m ob e => ?_⟩
  · rw [upd_ne (fun z => q2 (by rw [← z]; exact h))]; exact R.dom a h
  · by_cases d : m = n
    · rw [d, upd_same]; simp
    · rw [upd_ne (ne m h d)]; exact R.here m h
  · rw [Store.get_put hne] at e
    by_cases d : m = n
    · rw [if_pos d] at e; cases e; subst d; exact ⟨q1, q2, h3 x⟩
    · rw [if_neg d] at e
      obtain ⟨w1, w2, w3⟩ := R.live m ob e
      exact ⟨w1, w2, w3.mono (fun a h => h) k (fun _ _ => rfl) (Nat.le_refl _) (upd_ne (ne m w1 d))⟩
end
end Pv
/-! Pv, part D: readings of the evaluator, and how they are put together. -/
namespace Pv
open PySem PySem.Spec L2

section
variable (K : PySem.W.Frag) (ca : CA)
/-- the frame's values -/
def RE (F : Addr → Prop) (H : Hp) (as : Nat → Addr) (nx : Nat) (env : Env) (σ : St) : Prop :=
  env.length = σ.length ∧ ∀ (i : Nat) (v : Val), env[i]? = some (some v) → ∃ x : V, σ[i]? = some (some x) ∧ RV K ca F H as nx v x
/-- how an error lies -/
def RX (c : Str) (v : Option Val) (cls : Value) (d : Option Addr) (F : Addr → Prop) (H : Hp) (as : Nat → Addr) (nx : Nat) : Prop :=
  cls = .ref (ca c) ∧ match v with
    | none => d = none
    | some w => ∃ dd x, d = some dd ∧ H dd = some (.xd [(("value" : Str), x)]) ∧ RV K ca F H as nx w x
abbrev Rl (α β : Type) := (Addr → Prop) → Hp → (Nat → Addr) → Nat → α → β → Prop
/-- what is wanted behind an evaluation that gave r -/
def Post {α β : Type} (rel : Rl α β) (σ : St) (Q : β → Hp → Prop) (W : WX) (F : Addr → Prop) (H : Hp) (as : Nat → Addr) (st st' : Store) (r : Out α) : Prop :=
  ∀ F' H' as', Ext F H as st F' H' as' st' → Rel K ca F' H' as' st' → match r with
    | .ok a => ∀ b, rel F' H' as' st'.nx a b → Q b H'
    | .err c v => ∀ cls d, RX K ca c v cls d F' H' as' st'.nx → W cls d σ H'
/-- the reading of an evaluation -/
def tG {α β : Type} (rel : Rl α β) (W : WX) (f : Env → M α) : St → Hp → (β → Hp → Prop) → Prop := fun σ H Q =>
  ∃ F as env st r st', RE K ca F H as st.nx env σ ∧ Rel K ca F H as st ∧ f env st = some (r, st') ∧ Post K ca rel σ Q W F H as st st' r
def rB : Rl Bool Bool := fun _ _ _ _ a b => b = a
def rO : Rl (Option Int) (Option Int) := fun _ _ _ _ a b => b = a
abbrev tE (W : WX) (f : Env → M Val) : TE := tG K ca (RV K ca) W f
abbrev tA (W : WX) (f : Env → M (List Val)) : TA := tG K ca (RVs K ca) W f
abbrev tT (W : WX) (f : Env → M Bool) : TT := tG K ca rB W f
end

section
variable {K : PySem.W.Frag} {ca : CA} {F F' : Addr → Prop} {H H' : Hp} {as as' : Nat → Addr} {st st1 st' : Store} {σ : St} {env : Env} {W : WX} {α β γ δ : Type} {rel : Rl α β} {rel2 : Rl γ δ}
theorem RE.ext (h : RE K ca F H as st.nx env σ) (e : Ext F H as st F' H' as' st') : RE K ca F' H' as' st'.nx env σ :=
  ⟨h.1, fun i v q => let ⟨x, h1, h2⟩ := h.2 i v q; ⟨x, h1, h2.ext e⟩⟩
theorem Post.ext {Q : β → Hp → Prop} {r : Out α} (h : Post K ca rel σ Q W F H as st st' r) (e : Ext F H as st F' H' as' st1) : Post K ca rel σ Q W F' H' as' st1 st' r :=
  fun F2 H2 as2 e2 R2 => h F2 H2 as2 (e.trans e2) R2
/-- the value as it is, in the state as it is -/
theorem Post.here {Q : β → Hp → Prop} {a : α} (h : Post K ca rel σ Q W F H as st st (.ok a)) (R : Rel K ca F H as st) {b : β} (r : rel F H as st.nx a b) : Q b H := h F H as Ext.refl R b r
theorem Post.at {Q : β → Hp → Prop} {a : α} (h : Post K ca rel σ Q W F H as st st' (.ok a)) (e : Ext F H as st F' H' as' st') (R : Rel K ca F' H' as' st') {b : β} (r : rel F' H' as' st'.nx a b) : Q b H' := h F' H' as' e R b r
/-- one evaluation, then the rest -/
theorem step_bind {fa : Env → M α} {g : α → M γ} {Q : δ → Hp → Prop} {Q1 : β → Hp → Prop} {r : Out γ} (re : RE K ca F H as st.nx env σ) (rl : Rel K ca F H as st)
    (e : bd (fa env) g st = some (r, st')) (post : Post K ca rel2 σ Q W F H as st st' r)
    (k : ∀ a s1, g a s1 = some (r, st') → ∀ F1 H1 as1, Ext F H as st F1 H1 as1 s1 → Rel K ca F1 H1 as1 s1 → ∀ b, rel F1 H1 as1 s1.nx a b → Post K ca rel2 σ Q W F1 H1 as1 s1 st' r → Q1 b H1) :
    tG K ca rel W fa σ H Q1 := by
  unfold bd at e
  cases q : fa env st with
  | none => rw [q] at e; cases e
  | some p =>
    obtain ⟨o, s1⟩ := p
    rw [q] at e
    cases o with
    | ok a => exact ⟨F, as, env, st, .ok a, s1, re, rl, q, fun F1 H1 as1 x1 R1 b rb => k a s1 e F1 H1 as1 x1 R1 b rb (post.ext x1)⟩
    | err c v =>
      simp only [Option.some.injEq, Prod.mk.injEq] at e
      obtain ⟨rfl, rfl⟩ := e
      exact ⟨F, as, env, st, .err c v, s1, re, rl, q, fun F1 H1 as1 x1 R1 => post F1 H1 as1 x1 R1⟩
end

section
variable {X : Cx} {e : Expr} {t t' : TE}
theorem _root_.L2.PE.weak (h : PE X e t) (w : ∀ σ H Q, t' σ H Q → t σ H Q) : PE X e t' := ⟨fun pins s σ H Q I q => h.run pins s σ H Q I (w σ H Q q)⟩
theorem _root_.L2.PE.or (h : PE X e t) (h' : PE X e t') : PE X e (fun σ H Q => t σ H Q ∨ t' σ H Q) := ⟨fun pins s σ H Q I q => q.elim (h.run pins s σ H Q I) (h'.run pins s σ H Q I)⟩
theorem _root_.L2.PE.ex {ι : Type} {u : ι → TE} (h : ∀ i, PE X e (u i)) : PE X e (fun σ H Q => ∃ i, u i σ H Q) := ⟨fun pins s σ H Q I ⟨i, q⟩ => (h i).run pins s σ H Q I q⟩
theorem _root_.L2.PE.of {C : St → Hp → VK → Prop} (h : ∀ σ H Q, C σ H Q → ∃ t, PE X e t ∧ t σ H Q) : PE X e C := ⟨fun pins s σ H Q I q => let ⟨_, h1, h2⟩ := h σ H Q q; h1.run pins s σ H Q I h2⟩
theorem _root_.L2.PT.weak {t t' : TT} (h : PT X e t) (w : ∀ σ H Q, t' σ H Q → t σ H Q) : PT X e t' := ⟨fun pins s σ H Q I q => h.run pins s σ H Q I (w σ H Q q)⟩
theorem _root_.L2.PW.weak {t t' : TT} (h : PW X e t) (w : ∀ σ H Q, t' σ H Q → t σ H Q) : PW X e t' := ⟨fun wh pins s σ H Q I q => h.run wh pins s σ H Q I (w σ H Q q)⟩
theorem _root_.L2.PA.weak {es : List Expr} {t t' : TA} (h : PA X es t) (w : ∀ σ H Q, t' σ H Q → t σ H Q) : PA X es t' := ⟨fun pos pins s σ H Q I q => h.run pos pins s σ H Q I (w σ H Q q)⟩
theorem _root_.L2.PS.weak {st : Stmt} {t t' : TS} (h : PS X st t) (w : ∀ D σ H, t' D σ H → t D σ H) : PS X st t' := ⟨fun pins s σ H D I q => h.run pins s σ H D I (w D σ H q)⟩
theorem _root_.L2.PSs.weak {st : List Stmt} {t t' : TS} (h : PSs X st t) (w : ∀ D σ H, t' D σ H → t D σ H) : PSs X st t' := ⟨fun pins s σ H D I q => h.run pins s σ H D I (w D σ H q)⟩
end

/-! ### what is read off a value -/
section
variable {K : PySem.W.Frag} {ca : CA} {F F' : Addr → Prop} {H H' : Hp} {as as' : Nat → Addr} {st st' : Store} {v w : Val} {x y : V}
theorem asL_at (R : Rel K ca F H as st) (h : RV K ca F H as st.nx v x) {vs : List Val} (e : asL st v = some vs) : ∃ a xs, x = .ref a ∧ SqL K H a xs ∧ RVs K ca F H as st.nx vs xs := by
  cases v with
  | lst ws =>
    simp only [asL, Option.some.injEq] at e; subst e
    simp only [RV] at h
    obtain ⟨a, xs, e, _, h1, h2⟩ := h
    exact ⟨a, xs, e, .inl (.inl h1), h2⟩
  | rol ws =>
    simp only [asL, Option.some.injEq] at e; subst e
    simp only [RV] at h
    obtain ⟨a, xs, e, h1, h2⟩ := h
    exact ⟨a, xs, e, h1.sq, h2⟩
  | ref n =>
    simp only [asL] at e
    simp only [RV] at h
    cases q : st.get n with
    | none => rw [q] at e; cases e
    | some o =>
      rw [q] at e
      cases o with
      | lst ws =>
        simp only [Option.some.injEq] at e; subst e
        obtain ⟨_, _, xs, h1, h2⟩ := R.live n _ q
        exact ⟨as n, xs, h.2, .inl (.inl h1), h2⟩
      | dct t ks vs => cases e
      | ins c fs vs => cases e
      | ndc ks vs => cases e
  | _ => simp only [asL] at e; cases e
theorem asM_at (R : Rel K ca F H as st) (h : RV K ca F H as st.nx v x) {vs : List Val} (e : asM st v = some vs) : ∃ a xs, x = .ref a ∧ H a = some (.lst xs) ∧ RVs K ca F H as st.nx vs xs := by
  cases v with
  | lst ws =>
    simp only [asM, Option.some.injEq] at e; subst e
    simp only [RV] at h
    obtain ⟨a, xs, e, _, h1, h2⟩ := h
    exact ⟨a, xs, e, h1, h2⟩
  | ref n =>
    simp only [asM] at e
    simp only [RV] at h
    cases q : st.get n with
    | none => rw [q] at e; cases e
    | some o =>
      rw [q] at e
      cases o with
      | lst ws =>
        simp only [Option.some.injEq] at e; subst e
        obtain ⟨_, _, xs, h1, h2⟩ := R.live n _ q
        exact ⟨as n, xs, h.2, h1, h2⟩
      | dct t ks vs => cases e
      | ins c fs vs => cases e
      | ndc ks vs => cases e
  | _ => simp only [asM] at e; cases e
theorem asT_at (h : RV K ca F H as st.nx v x) {vs : List Val} (e : asT v = some vs) : ∃ a xs, x = .ref a ∧ SqT K H a xs ∧ RVs K ca F H as st.nx vs xs := by
  cases v with
  | rot ws =>
    simp only [asT, Option.some.injEq] at e; subst e
    simp only [RV] at h
    obtain ⟨a, xs, e, h1, h2⟩ := h
    exact ⟨a, xs, e, .inr h1, h2⟩
  | tup ws =>
    simp only [asT, Option.some.injEq] at e; subst e
    simp only [RV] at h
    obtain ⟨a, xs, e, h1, h2⟩ := h
    exact ⟨a, xs, e, h1.sq, h2⟩
  | _ => simp only [asT] at e; cases e
theorem asQ_at (R : Rel K ca F H as st) (h : RV K ca F H as st.nx v x) {vs : List Val} (e : asQ st v = some vs) : ∃ a xs, x = .ref a ∧ (SqL K H a xs ∨ SqT K H a xs) ∧ RVs K ca F H as st.nx vs xs := by
  unfold asQ at e
  cases q : asL st v with
  | some ws =>
    rw [q] at e; cases e
    obtain ⟨a, xs, h1, h2, h3⟩ := asL_at R h q
    exact ⟨a, xs, h1, .inl h2, h3⟩
  | none =>
    rw [q] at e
    obtain ⟨a, xs, h1, h2, h3⟩ := asT_at h e
    exact ⟨a, xs, h1, .inr h2, h3⟩
theorem asD_at (R : Rel K ca F H as st) (h : RV K ca F H as st.nx v x) {t : Bool} {ks vs : List Val} (e : asD st v = some (t, ks, vs)) :
    ∃ a kk xs, x = .ref a ∧ toDKs t ks = some kk ∧ DA H a t kk xs ∧ RVs K ca F H as st.nx vs xs := by
  cases v with
  | dct t' ks' ws =>
    simp only [asD, Option.some.injEq, Prod.mk.injEq] at e
    obtain ⟨rfl, rfl, rfl⟩ := e
    simp only [RV] at h
    obtain ⟨a, kk, xs, e, _, h0, h1, h2⟩ := h
    exact ⟨a, kk, xs, e, h0, h1.da, h2⟩
  | ref n =>
    simp only [asD] at e
    simp only [RV] at h
    cases q : st.get n with
    | none => rw [q] at e; cases e
    | some o =>
      rw [q] at e
      cases o with
      | dct t' ks' ws =>
        simp only [Option.some.injEq, Prod.mk.injEq] at e
        obtain ⟨rfl, rfl, rfl⟩ := e
        obtain ⟨_, _, kk, xs, h0, h1, h2⟩ := R.live n _ q
        exact ⟨as n, kk, xs, h.2, h0, h1.da, h2⟩
      | lst vs => cases e
      | ins c fs vs => cases e
      | ndc ks vs => cases e
  | _ => simp only [asD] at e; cases e
mutual
theorem toD_at : ∀ (v : Val) (x : V) (d : PyData), RV K ca F H as st.nx v x → toD v = some d → Dp K H x d
  | .non, x, d, h, e => by simp only [RV] at h; simp only [toD, Option.some.injEq] at e; subst h; subst e; exact .non
  | .bl b, x, d, h, e => by simp only [RV] at h; simp only [toD, Option.some.injEq] at e; subst h; subst e; exact .bl b
  | .int b, x, d, h, e => by simp only [RV] at h; simp only [toD, Option.some.injEq] at e; subst h; subst e; exact .int b
  | .str b, x, d, h, e => by simp only [RV] at h; simp only [toD, Option.some.injEq] at e; subst h; subst e; exact .str b
  | .tup vs, x, d, h, e => by
    simp only [RV] at h
    obtain ⟨a, xs, rfl, h1, h2⟩ := h
    simp only [toD] at e
    cases q : toDs vs with
    | none => rw [q] at e; cases e
    | some ds => rw [q] at e; cases e; exact .tup h1.sq (toDs_at vs xs ds h2 q)
  | .lst vs, x, d, h, e => by
    simp only [RV] at h
    obtain ⟨a, xs, rfl, _, h1, h2⟩ := h
    simp only [toD] at e
    cases q : toDs vs with
    | none => rw [q] at e; cases e
    | some ds => rw [q] at e; cases e; exact .lst (.inl (.inl h1)) (toDs_at vs xs ds h2 q)
  | .rol vs, x, d, h, e => by
    simp only [RV] at h
    obtain ⟨a, xs, rfl, h1, h2⟩ := h
    simp only [toD] at e
    cases q : toDs vs with
    | none => rw [q] at e; cases e
    | some ds => rw [q] at e; cases e; exact .lst h1.sq (toDs_at vs xs ds h2 q)
  | .rot vs, x, d, h, e => by
    simp only [RV] at h
    obtain ⟨a, xs, rfl, h1, h2⟩ := h
    simp only [toD] at e
    cases q : toDs vs with
    | none => rw [q] at e; cases e
    | some ds => rw [q] at e; cases e; exact .tup (.inr h1) (toDs_at vs xs ds h2 q)
  | .dct t ks vs, x, d, h, e => by simp only [toD] at e; cases e
  | .ins c fs vs, x, d, h, e => by simp only [toD] at e; cases e
  | .ndc ks vs, x, d, h, e => by simp only [toD] at e; cases e
  | .ref n, x, d, h, e => by simp only [toD] at e; cases e
  | .cls c, x, d, h, e => by simp only [toD] at e; cases e
  | .ty n, x, d, h, e => by simp only [toD] at e; cases e
theorem toDs_at : ∀ (vs : List Val) (xs : List V) (ds : List PyData), RVs K ca F H as st.nx vs xs → toDs vs = some ds → DpAll K H xs ds
  | [], xs, ds, h, e => by
    rw [h.nil_inv]
    simp only [toDs, Option.some.injEq] at e; subst e; exact .nil
  | v :: vs, xs, ds, h, e => by
    obtain ⟨x, r, rfl, h1, h2⟩ := h.inv
    simp only [toDs] at e
    cases q : toD v with
    | none => rw [q] at e; cases e
    | some d =>
      cases q2 : toDs vs with
      | none => rw [q, q2] at e; cases e
      | some ds' => rw [q, q2] at e; cases e; exact .cons (toD_at v x d h1 q) (toDs_at vs r ds' h2 q2)
end
theorem datum_at (R : Rel K ca F H as st) (h : RV K ca F H as st.nx v x) {d : PyData} (e : datum st v = some d) : Dp K H x d := by
  unfold datum at e
  cases v with
  | ref n =>
    simp only at e
    simp only [RV] at h
    cases q : st.get n with
    | none => rw [q] at e; cases e
    | some o =>
      rw [q] at e
      cases o with
      | lst ws =>
        obtain ⟨_, _, xs, h1, h2⟩ := R.live n _ q
        rw [h.2]
        dsimp only at e
        cases q2 : toDs ws with
        | none => rw [q2] at e; cases e
        | some ds => rw [q2] at e; cases e; exact .lst (.inl (.inl h1)) (toDs_at ws xs ds h2 q2)
      | dct t ks vs => cases e
      | ins c fs vs => cases e
      | ndc ks vs => cases e
  | _ => exact toD_at _ _ _ h e
end
end Pv
/-! Pv, part E: operations on values. -/
namespace Pv
open PySem PySem.Spec L2

theorem ret_inv {α : Type} {a : α} {st st' : Store} {r : Out α} (e : ret a st = some (r, st')) : r = .ok a ∧ st' = st := by
  unfold ret at e; cases e; exact ⟨rfl, rfl⟩
theorem lift_inv {α : Type} {o : Option α} {st st' : Store} {r : Out α} (e : lift o st = some (r, st')) : ∃ a, o = some a ∧ r = .ok a ∧ st' = st := by
  unfold lift at e
  cases o with
  | none => cases e
  | some a => cases e; exact ⟨a, rfl, rfl, rfl⟩
theorem rd_inv {α : Type} {f : Store → Option α} {st st' : Store} {r : Out α} (e : rd f st = some (r, st')) : ∃ a, f st = some a ∧ r = .ok a ∧ st' = st := by
  unfold rd at e
  cases q : f st with
  | none => rw [q] at e; cases e
  | some a => rw [q] at e; cases e; exact ⟨a, rfl, rfl, rfl⟩
theorem bad_inv {α : Type} {st : Store} {p : Out α × Store} (e : bad st = some p) : False := by
  unfold bad at e; cases e
theorem if_inv {α : Type} {c : Prop} [Decidable c] {x : Option α} {a : α} (e : (if c then x else none) = some a) : c ∧ x = some a := by
  by_cases h : c
  · rw [if_pos h] at e; exact ⟨h, e⟩
  · rw [if_neg h] at e; cases e
theorem ifM_inv {α : Type} {c : Prop} [Decidable c] {x : M α} {st : Store} {p : Out α × Store} (e : (if c then x else bad) st = some p) : c ∧ x st = some p := by
  by_cases h : c
  · rw [if_pos h] at e; exact ⟨h, e⟩
  · rw [if_neg h] at e; exact (bad_inv e).elim

section
variable {K : PySem.W.Frag} {ca : CA} {F F' : Addr → Prop} {H H' : Hp} {as as' : Nat → Addr} {st st' : Store} {v w : Val} {x y : V} {σ : L2.St} {W : WX} {Q : VK} {res : Out Val}

/-- a new list -/
theorem newL_at (R : Rel K ca F H as st) {m : Bool} {vs : List Val} {xs : List V} (h : RVs K ca F H as st.nx vs xs) (e : newL m vs st = some (res, st')) (post : Post K ca (RV K ca) σ Q W F H as st st' res) :
    xs.length ≤ sizeLine ∧ ∀ p, H p = none → Q (.ref p) (upd H p (.lst xs)) := by
  unfold newL at e
  obtain ⟨hl, e⟩ := if_inv e
  refine ⟨by rw [← h.length, sizeLine_eq]; exact hl, fun p hp => ?_⟩
  cases m with
  | false =>
    cases e
    obtain ⟨x1, R1⟩ := new_fz R (.lst xs) hp
    refine post.at x1 R1 ?_
    simp only [RV]
    exact ⟨p, xs, rfl, .inr rfl, upd_same, h.ext x1⟩
  | true =>
    cases e
    obtain ⟨x1, R1⟩ := new_res R (.lst xs) hp
    have nF : ¬ F p := fun f => R.dom p f hp
    have R2 : Rel K ca F (upd H p (.lst xs)) (asN as st.nx p) (st.reserve.add st.nx (.lst vs)) :=
      live_at R1 (Nat.lt_succ_self _) (by rw [asN_eq]; exact nF) ⟨xs, by rw [asN_eq, upd_same], h.ext x1⟩
    have x2 : Ext F H as st F (upd H p (.lst xs)) (asN as st.nx p) (st.alloc (.lst vs)) :=
      ⟨x1.sub, x1.keep, x1.ags, x1.nx, fun n hn q => ⟨by
        show (st.reserve.add st.nx (.lst vs)).get n = none
        rw [Store.get_add, if_neg (Nat.ne_of_lt hn)]; exact q, (x1.gone n hn q).2⟩, x1.fresh, x1.grow, x1.frame⟩
    refine post.at x2 R2 ?_
    simp only [RV]
    exact ⟨Nat.lt_succ_self _, by rw [asN_eq]⟩

/-- a new tuple -/
theorem newT_at (R : Rel K ca F H as st) {vs : List Val} {xs : List V} (h : RVs K ca F H as st.nx vs xs) (post : Post K ca (RV K ca) σ Q W F H as st st (.ok (.tup vs))) :
    ∀ p, H p = none → Q (.ref p) (upd H p (.tup xs)) := fun p hp => by
  obtain ⟨x1, R1⟩ := new_fz R (.tup xs) hp
  refine post.at x1 R1 ?_
  simp only [RV]
  exact ⟨p, xs, rfl, upd_same, h.ext x1⟩

def CDivG (i j : Int) : Prop := 0 < j ∧ (j < 1073741824 ∨ Builtin.divisionGoesByPylong i j = false)
def CPowB (i j : Int) : Prop := 0 ≤ j ∧ (Builtin.Int.intBits i : Int) * j ≤ 2 ^ 27
def rAdds (K : PySem.W.Frag) : R2 := fun x y H Q => (∃ i j, x = .str i ∧ y = .str j ∧ i.length + j.length ≤ sizeLine ∧ Q (.str (i ++ j)) H) ∨ rCat x y H Q ∨ rCatA K x y H Q
def rBin (K : PySem.W.Frag) : Operator → R2
  | .Add => fun x y H Q => rI0 (fun i j => .int (i + j)) x y H Q ∨ rAdds K x y H Q
  | .Sub => rI0 fun i j => .int (i - j)
  | .Mult => fun x y H Q => rI CMul (fun i j => .int (i * j)) x y H Q ∨ rRep x y H Q
  | .FloorDiv => rI CDivG fun i j => .int (i / j)
  | .Mod => rI (fun _ j => 0 < j) fun i j => .int (i % j)
  | .Pow => rI CPowB fun i j => .int (i ^ j.toNat)
  | _ => fun _ _ _ _ => False
theorem op_bin (X : Cx) (op : Operator) : OpR X (binaryOp op) (rBin X.K op) := by
  cases op with
  | Add => exact op_add.or (op_add_str.or (op_cat.or op_catA))
  | Sub => exact op_sub
  | Mult => exact op_mul.or op_rep
  | FloorDiv =>
    exact opI fun i j _ _ _ _ _ hc q => by
      have h1 : (0 : Int) < j := hc.1
      refine PyProof.Rows.floordiv_int (by omega) (by rw [Int.fdiv_eq_ediv_of_nonneg i (by omega)]; exact q) (.inl ?_)
      rcases hc.2 with h2 | h2
      · exact PyProof.noPylong_small (by omega)
      · exact h2
  | Mod => exact op_mod
  | Pow => exact opI fun _ _ _ _ _ _ _ hc q => PyProof.Rows.pow_int hc.1 hc.2 q
  | _ => exact fun _ _ _ _ _ _ _ _ _ _ _ _ q => q.elim
theorem mulOk_of {i j : Int} (h : mulOk i j = true) : CMul i j := by
  unfold mulOk at h
  simp only [Bool.or_eq_true, Bool.and_eq_true, decide_eq_true_eq] at h
  exact h

theorem binop_at {op : Operator} (R : Rel K ca F H as st) (hv : RV K ca F H as st.nx v x) (hw : RV K ca F H as st.nx w y) (e : binop op v w st = some (res, st')) (post : Post K ca (RV K ca) σ Q W F H as st st' res) :
    rBin K op x y H Q := by
  have ii : ∀ {i j : Int} {g : Int → Int → V} {z : Val}, v = .int i → w = .int j → res = .ok z → st' = st → (RV K ca F H as st.nx z (g i j)) → rI0 g x y H Q := fun {i j g z} e1 e2 e3 e4 r => by
    subst e1 e2 e3 e4
    simp only [RV] at hv hw
    exact ⟨i, j, hv, hw, post.here R r⟩
  unfold binop at e
  split at e
  · obtain ⟨e1, e2⟩ := ret_inv e
    exact .inl (ii rfl rfl e1 e2 (by simp only [RV]))
  · obtain ⟨e1, e2⟩ := ret_inv e
    exact ii rfl rfl e1 e2 (by simp only [RV])
  · obtain ⟨hc, e⟩ := ifM_inv e
    obtain ⟨e1, e2⟩ := ret_inv e
    subst e1 e2
    simp only [RV] at hv hw
    exact .inl ⟨_, _, hv, hw, mulOk_of hc, post.here R (by simp only [RV])⟩
  · obtain ⟨hc, e⟩ := ifM_inv e
    obtain ⟨hc2, e⟩ := ifM_inv e
    obtain ⟨e1, e2⟩ := ret_inv e
    subst e1 e2
    simp only [RV] at hv hw
    exact ⟨_, _, hv, hw, ⟨hc, hc2⟩, post.here R (by simp only [RV])⟩
  · obtain ⟨hc, e⟩ := ifM_inv e
    obtain ⟨e1, e2⟩ := ret_inv e
    subst e1 e2
    simp only [RV] at hv hw
    exact ⟨_, _, hv, hw, hc, post.here R (by simp only [RV])⟩
  · obtain ⟨hc, e⟩ := ifM_inv e
    obtain ⟨e1, e2⟩ := ret_inv e
    subst e1 e2
    simp only [RV] at hv hw
    exact ⟨_, _, hv, hw, hc, post.here R (by simp only [RV])⟩
  · obtain ⟨hc, e⟩ := ifM_inv e
    obtain ⟨e1, e2⟩ := ret_inv e
    subst e1 e2
    simp only [RV] at hv hw
    exact .inr (.inl ⟨_, _, hv, hw, by rw [sizeLine_eq]; exact hc, post.here R (by simp only [RV])⟩)
  · obtain ⟨hc, e⟩ := ifM_inv e
    obtain ⟨e1, e2⟩ := ret_inv e
    subst e1 e2
    rename_i vs ws e0
    simp only [RV] at hv hw
    obtain ⟨a, xs, rfl, h1, r1⟩ := hv
    obtain ⟨b, ys, rfl, h2, r2⟩ := hw
    refine .inr (.inr (.inr ⟨a, b, xs, ys, rfl, rfl, h1.sq, h2.sq, by rw [← r1.length, ← r2.length, sizeLine_eq]; exact hc, fun e => ?_, fun _ e => ?_, fun _ _ => newT_at R (r1.append r2) post⟩))
    · subst e
      have : vs = [] := List.eq_nil_of_length_eq_zero r1.length
      subst this
      exact post.here R (by simp only [RV, List.nil_append]; exact ⟨b, ys, rfl, h2, r2⟩)
    · subst e
      have : ws = [] := List.eq_nil_of_length_eq_zero r2.length
      subst this
      exact post.here R (by simp only [RV, List.append_nil]; exact ⟨a, xs, rfl, h1, r1⟩)
  · dsimp only at e
    split at e
    · rename_i vs ws q1 q2
      obtain ⟨a, xs, e1, h1, r1⟩ := asM_at R hv q1
      obtain ⟨b, ys, e2, h2, r2⟩ := asM_at R hw q2
      obtain ⟨z, k⟩ := newL_at R (r1.append r2) e post
      rw [List.length_append] at z
      exact .inr (.inr (.inl ⟨a, b, xs, ys, e1, e2, h1, h2, z, k⟩))
    · cases e
  · dsimp only at e
    split at e
    · rename_i vs q1
      obtain ⟨a, xs, e1, h1, r1⟩ := asM_at R hv q1
      obtain ⟨hc, e⟩ := if_inv e
      obtain ⟨z, k⟩ := newL_at R (r1.rep _) e post
      simp only [RV] at hw
      exact .inr ⟨a, _, xs, e1, hw, h1, hc.1, hc.2.1, by rw [← r1.length, sizeLine_eq]; exact hc.2.2, k⟩
    · cases e
  · exact (bad_inv e).elim
end
end Pv
/-! Pv, part F: comparisons, dicts, places, attributes. -/
namespace Pv
open PySem PySem.Spec L2

theorem toKey_at {K : PySem.W.Frag} {ca : CA} {F : Addr → Prop} {H : Hp} {as : Nat → Addr} {nx : Nat} {v : Val} {x : V} {k : Key} (h : RV K ca F H as nx v x) (e : toKey v = some k) : x = kV k := by
  cases v with
  | int i => simp only [toKey, Option.some.injEq] at e; subst e; simp only [RV] at h; exact h
  | str i => simp only [toKey, Option.some.injEq] at e; subst e; simp only [RV] at h; exact h
  | _ => simp only [toKey] at e; cases e
theorem toKeyL_at {K : PySem.W.Frag} {ca : CA} {F : Addr → Prop} {H : Hp} {as : Nat → Addr} {nx : Nat} : ∀ {vs : List Val} {xs : List V} {ks : List Key}, RVs K ca F H as nx vs xs → toKeyL vs = some ks → xs = ks.map kV
  | [], xs, ks, h, e => by
    simp only [toKeyL, Option.some.injEq] at e; subst e; exact h.nil_inv
  | v :: vs, xs, ks, h, e => by
    obtain ⟨x, r, rfl, h1, h2⟩ := h.inv
    simp only [toKeyL] at e
    cases q : toKey v with
    | none => rw [q] at e; cases e
    | some k =>
      cases q2 : toKeyL vs with
      | none => rw [q, q2] at e; cases e
      | some ks' =>
        rw [q, q2] at e; cases e
        rw [toKey_at h1 q, toKeyL_at h2 q2, List.map_cons]
def dkT (t : Bool) : DK → Prop
  | .inl _ => t = false
  | .inr _ => t = true
/-- a key's value in the heap -/
def KeyV (H : Hp) : DK → V → Prop
  | .inl k, x => x = kV k
  | .inr ks, x => ∃ b, x = .ref b ∧ H b = some (.tup (ks.map kV))
theorem toDK_at {K : PySem.W.Frag} {ca : CA} {F : Addr → Prop} {H : Hp} {as : Nat → Addr} {nx : Nat} {t : Bool} {v : Val} {x : V} {j : DK} (h : RV K ca F H as nx v x) (e : toDK t v = some j) : KeyV H j x ∧ dkT t j := by
  have other : ∀ {w : Val}, RV K ca F H as nx w x → (if t = true then none else (toKey w).map Sum.inl) = some j → KeyV H j x ∧ dkT t j := fun {w} hw e => by
    cases t with
    | true => simp at e
    | false =>
      simp only [Bool.false_eq_true, if_false] at e
      cases q : toKey w with
      | none => rw [q] at e; cases e
      | some k => rw [q] at e; cases e; exact ⟨toKey_at hw q, rfl⟩
  cases v with
  | tup vs =>
    cases t with
    | false => simp [toDK] at e
    | true =>
      simp only [toDK, if_true] at e
      cases q : toKeyL vs with
      | none => rw [q] at e; cases e
      | some ks =>
        rw [q] at e; cases e
        simp only [RV] at h
        obtain ⟨a, xs, rfl, h1, h2⟩ := h
        exact ⟨⟨a, rfl, by rw [← toKeyL_at h2 q]; exact h1⟩, rfl⟩
  | _ => exact other h (by simpa only [toDK] using e)

theorem dGet_K {K : PySem.W.Frag} {ca : CA} {F : Addr → Prop} {H : Hp} {as : Nat → Addr} {nx : Nat} {κ : Type} [DecidableEq κ] (f : κ → DK) (hf : ∀ a b, f a = f b → a = b) (k : κ) : ∀ (kvs : List (κ × V)) {vs : List Val} {w : Val}, RVs K ca F H as nx vs (kvs.map (·.2)) → dGet (kvs.map fun p => f p.1) vs (f k) = some w →
    ∃ z, valV kvs k = some z ∧ RV K ca F H as nx w z
  | [], vs, w, h, e => by simp [dGet] at e
  | p :: r, vs, w, h, e => by
    cases vs with
    | nil => simp [dGet] at e
    | cons v vs =>
      obtain ⟨x, xr, ex, h1, h2⟩ := h.inv
      simp only [List.map_cons, List.cons.injEq] at ex
      obtain ⟨rfl, rfl⟩ := ex
      simp only [List.map_cons, dGet] at e
      by_cases hk : p.1 = k
      · rw [if_pos (by rw [hk])] at e; cases e
        exact ⟨p.2, valV_pos hk, h1⟩
      · rw [if_neg (fun z => hk (hf _ _ z))] at e
        rw [valV_neg hk]
        exact dGet_K f hf k r h2 e
theorem hasK_K {κ : Type} [DecidableEq κ] (f : κ → DK) (hf : ∀ a b, f a = f b → a = b) (k : κ) (kvs : List (κ × V)) : hasK (kvs.map fun p => f p.1) (f k) = (valV kvs k).isSome := by
  rw [← valV_any]
  unfold hasK
  rw [List.any_map]
  congr 1
  funext p
  show decide (f p.1 = f k) = decide (p.1 = k)
  by_cases h : p.1 = k
  · rw [decide_eq_true h, decide_eq_true (by rw [h])]
  · rw [decide_eq_false h, decide_eq_false (fun z => h (hf _ _ z))]

section
variable {K : PySem.W.Frag} {ca : CA} {F F' : Addr → Prop} {H H' : Hp} {as as' : Nat → Addr} {st st' : Store} {v w : Val} {x y : V} {σ : L2.St} {W : WX} {Q : VK} {res : Out Val} {nx : Nat}

/-- a dict asked by a key -/
theorem DA.get {a : Addr} {t : Bool} {kk : List DK} {xs : List V} {j : DK} (h : DA H a t kk xs) (hk : KeyV H j y) (ht : dkT t j) :
    ∃ o, DGet H a y o ∧ o.isSome = hasK kk j ∧ ∀ {vs : List Val} {w : Val}, RVs K ca F H as nx vs xs → dGet kk vs j = some w → ∃ z, o = some z ∧ RV K ca F H as nx w z := by
  cases j with
  | inl k =>
    have ht' : t = false := ht
    subst ht'
    obtain ⟨kvs, h1, rfl, rfl⟩ := h
    have hk' : y = kV k := hk
    exact ⟨valV kvs k, .inl ⟨kvs, k, h1, hk', rfl⟩, (hasK_K Sum.inl (fun a b e => Sum.inl.inj e) k kvs).symm, fun r e => dGet_K Sum.inl (fun a b e => Sum.inl.inj e) k kvs r e⟩
  | inr ks =>
    have ht' : t = true := ht
    subst ht'
    obtain ⟨kvs, h1, rfl, rfl⟩ := h
    obtain ⟨b, e1, e2⟩ := hk
    exact ⟨valV kvs ks, .inr ⟨kvs, ks, b, h1, e1, e2, rfl⟩, (hasK_K Sum.inr (fun a b e => Sum.inr.inj e) ks kvs).symm, fun r e => dGet_K Sum.inr (fun a b e => Sum.inr.inj e) ks kvs r e⟩

/-! ### comparisons -/
def rInDict : R2 := fun x y H Q => ∃ a o, y = .ref a ∧ DGet H a x o ∧ Q (.bl o.isSome) H
def rNotInDict : R2 := fun x y H Q => ∃ a o, y = .ref a ∧ DGet H a x o ∧ Q (.bl (!o.isSome)) H
theorem op_inDict {X : Cx} (hu : X.A.units + 1 < cLine) : OpR X (compareOp .In) rInDict := by
  intro pins s σ H x y v u Q I rx ry ⟨a, o, e, g, q⟩
  subst e
  cases ry
  exact d_in hu I g rx fun s3 I3 => ⟨.bl o.isSome, H, I3, rfl, q⟩
theorem op_notInDict {X : Cx} (hu : X.A.units + 1 < cLine) : OpR X (compareOp .NotIn) rNotInDict := by
  intro pins s σ H x y v u Q I rx ry ⟨a, o, e, g, q⟩
  subst e
  cases ry
  exact d_notIn hu I g rx fun s3 I3 => ⟨.bl (!o.isSome), H, I3, rfl, q⟩
def rInStr (b : Bool) : R2 := fun x y H Q => ∃ i j, x = .str i ∧ y = .str j ∧ Q (.bl (if b then !(!(Builtin.Str.occurrences j i 0 j.length 1).isEmpty) else !(Builtin.Str.occurrences j i 0 j.length 1).isEmpty)) H
def rInT (K : PySem.W.Frag) (b : Bool) : R2 := fun x y H Q => ∃ d ds, Dp K H x d ∧ Dp K H y (.tuple ds) ∧ SeqAt.shaped d = true ∧ SeqAt.shaped (.tuple ds) = true ∧ Q (.bl (if b then !(ds.any fun z => PyData.eqv z d) else ds.any fun z => PyData.eqv z d)) H
theorem shaped_tup {ds : List PyData} (h : SeqAt.shaped (.tuple ds) = true) : PyData.canLayAll0 ds = true ∧ PyData.depthAll ds ≤ 64 := by
  unfold SeqAt.shaped at h
  rw [Bool.and_eq_true, decide_eq_true_eq] at h
  refine ⟨by simpa only [PyData.canLay0] using h.1, ?_⟩
  have := h.2
  simp only [PyData.depth] at this
  omega
theorem shaped_lay {d : PyData} (h : SeqAt.shaped d = true) : d.canLay0 = true := by
  unfold SeqAt.shaped at h
  rw [Bool.and_eq_true] at h
  exact h.1
theorem op_inT {X : Cx} (hu : X.A.units + 65 < cLine) : OpR X (compareOp .In) (rInT X.K false) := by
  intro pins s σ H x y v u Q I rx ry h
  obtain ⟨d, ds, hd, he, sd, se, q⟩ := h
  obtain ⟨as, r1⟩ := Dp.reads I d x v hd rx
  obtain ⟨bs, r2⟩ := Dp.reads I (.tuple ds) y u he ry
  obtain ⟨h1, h2⟩ := shaped_tup se
  exact SeqAt.in_tuple_reads r2 r1 h1 (shaped_lay sd) (by have := Nat.min_le_left (PyData.depthAll ds) d.depth; omega) ⟨.bl _, H, I, rfl, q⟩
theorem op_notInT {X : Cx} (hu : X.A.units + 65 < cLine) : OpR X (compareOp .NotIn) (rInT X.K true) := by
  intro pins s σ H x y v u Q I rx ry h
  obtain ⟨d, ds, hd, he, sd, se, q⟩ := h
  obtain ⟨as, r1⟩ := Dp.reads I d x v hd rx
  obtain ⟨bs, r2⟩ := Dp.reads I (.tuple ds) y u he ry
  obtain ⟨h1, h2⟩ := shaped_tup se
  exact SeqAt.notIn_tuple_reads r2 r1 h1 (shaped_lay sd) (by have := Nat.min_le_left (PyData.depthAll ds) d.depth; omega) ⟨.bl _, H, I, rfl, q⟩
def rLtD (K : PySem.W.Frag) : R2 := fun x y H Q => ∃ d d', Dp K H x d ∧ Dp K H y d' ∧ PySem.W.alike d d' = true ∧ d ≠ .none ∧ d.depth ≤ 60 ∧ Q (.bl (PySem.W.dataLt d d')) H
theorem op_ltD {X : Cx} (hu : X.A.units + 65 < cLine) : OpR X (compareOp .Lt) (rLtD X.K) := by
  intro pins s σ H x y v u Q I rx ry h
  obtain ⟨d, e, hd, he, ha, hn, hdp, q⟩ := h
  obtain ⟨as, r1⟩ := Dp.reads I d x v hd rx
  obtain ⟨bs, r2⟩ := Dp.reads I e y u he ry
  exact PySem.W.rcLt_alike d e X.A s v u as bs r1 r2 ha hn (by omega) X.prog X.w X.xe (EP X pins σ Q) ⟨.bl _, H, I, rfl, q⟩
def rCmp (K : PySem.W.Frag) : CmpOp → R2
  | .Eq => rEqD K
  | .NotEq => rNeD K
  | .Lt => fun x y H Q => rI0 (fun i j => .bl (decide (i < j))) x y H Q ∨ (∃ i j, x = .str i ∧ y = .str j ∧ Q (.bl (decide (i.cps.toList < j.cps.toList))) H) ∨ rLtD K x y H Q
  | .LtE => rI0 (fun i j => .bl (decide (i ≤ j)))
  | .Gt => fun x y H Q => rI0 (fun i j => .bl (decide (j < i))) x y H Q ∨ ∃ i j, x = .str i ∧ y = .str j ∧ Q (.bl (decide (j.cps.toList < i.cps.toList))) H
  | .GtE => rI0 (fun i j => .bl (decide (j ≤ i)))
  | .In => fun x y H Q => rInDict x y H Q ∨ rInStr false x y H Q ∨ rIn K false x y H Q ∨ rInD K x y H Q ∨ rInT K false x y H Q
  | .NotIn => fun x y H Q => rNotInDict x y H Q ∨ rInStr true x y H Q ∨ rIn K true x y H Q ∨ rNotInD K x y H Q ∨ rInT K true x y H Q
  | .Is => fun x y H Q => (y = .non ∧ Q (.bl (decide (x = .non))) H) ∨ ∃ a b, x = .bl a ∧ y = .bl b ∧ Q (.bl (decide (a = b))) H
  | .IsNot => fun x y H Q => (y = .non ∧ Q (.bl (!decide (x = .non))) H) ∨ ∃ a b, x = .bl a ∧ y = .bl b ∧ Q (.bl (!decide (a = b))) H
theorem op_cmp (X : Cx) (hu : X.A.units + 65 < cLine) (op : CmpOp) : OpR X (compareOp op) (rCmp X.K op) := by
  cases op with
  | Eq => exact op_eqD (by omega)
  | NotEq => exact op_neD (by omega)
  | Lt => exact op_lt.or (op_lt_str.or (op_ltD hu))
  | LtE => exact op_le
  | Gt => exact op_gt.or op_gt_str
  | GtE => exact op_ge
  | In => exact (op_inDict (by omega)).or (op_in_str.or (op_in_seq.or ((op_inD hu).or (op_inT hu))))
  | NotIn => exact (op_notInDict (by omega)).or (L2.op_notin_str.or (op_notIn_seq.or ((op_notInD hu).or (op_notInT hu))))
  | Is => exact op_isN.or op_is_bl
  | IsNot => exact op_notN.or op_isnot_bl

theorem pyEq_at (R : Rel K ca F H as st) (hv : RV K ca F H as st.nx v x) (hw : RV K ca F H as st.nx w y) {b : Bool} (e : pyEq st v w = some b) :
    ∃ d d', Dp K H x d ∧ Dp K H y d' ∧ SeqAt.shaped d = true ∧ SeqAt.shaped d' = true ∧ b = PyData.eqv d d' := by
  unfold pyEq at e
  cases q1 : datum st v with
  | none => rw [q1] at e; cases e
  | some d =>
    cases q2 : datum st w with
    | none => rw [q1, q2] at e; cases e
    | some d' =>
      rw [q1, q2] at e
      dsimp only at e
      obtain ⟨h, e⟩ := if_inv e
      cases e
      rw [Bool.and_eq_true] at h
      exact ⟨d, d', datum_at R hv q1, datum_at R hw q2, h.1, h.2, rfl⟩
theorem flat_at (h : RV K ca F H as nx v x) (f : flat v = true) : flatV x = true ∧ ∃ d, toD v = some d := by
  cases v with
  | non => simp only [RV] at h; subst h; exact ⟨rfl, _, rfl⟩
  | bl b => simp only [RV] at h; subst h; exact ⟨rfl, _, rfl⟩
  | int b => simp only [RV] at h; subst h; exact ⟨rfl, _, rfl⟩
  | str b => simp only [RV] at h; subst h; exact ⟨rfl, _, rfl⟩
  | _ => exact absurd f (by simp [flat])
theorem eqV_at {d d' : PyData} (h : RV K ca F H as nx v x) (f : flat v = true) (e : toD v = some d) (h' : RV K ca F H as nx w y) (f' : flat w = true) (e' : toD w = some d') : eqV x y = PyData.eqv d d' := by
  cases v <;> cases w <;> first
    | exact absurd (show false = true from f) Bool.false_ne_true
    | exact absurd (show false = true from f') Bool.false_ne_true
    | (simp only [RV] at h h'; simp only [toD, Option.some.injEq] at e e'; subst h; subst h'; subst e; subst e'; simp [eqV, PyData.eqv])
theorem inV_at {d : PyData} (hv : RV K ca F H as nx v x) (f : flat v = true) (e : toD v = some d) : ∀ (vs : List Val) (xs : List V) (ds : List PyData), RVs K ca F H as nx vs xs → vs.all flat = true → toDs vs = some ds → inV x xs = (ds.any fun z => PyData.eqv z d) ∧ xs.all flatV = true
  | [], xs, ds, h, _, e2 => by
    rw [h.nil_inv]
    simp only [toDs, Option.some.injEq] at e2; subst e2
    exact ⟨rfl, rfl⟩
  | w :: vs, xs, ds, h, fa, e2 => by
    obtain ⟨z, r, rfl, h1, h2⟩ := h.inv
    rw [List.all_cons, Bool.and_eq_true] at fa
    simp only [toDs] at e2
    cases q : toD w with
    | none => rw [q] at e2; cases e2
    | some d' =>
      cases q2 : toDs vs with
      | none => rw [q, q2] at e2; cases e2
      | some ds' =>
        rw [q, q2] at e2; cases e2
        obtain ⟨i1, i2⟩ := inV_at hv f e vs r ds' h2 fa.2 q2
        unfold inV at i1 ⊢
        exact ⟨by rw [List.any_cons, List.any_cons, i1, eqV_at h1 fa.1 q hv f e], by rw [List.all_cons, (flat_at h1 fa.1).1, i2]; rfl⟩
theorem FK.sq {K : PySem.W.Frag} {H : Hp} {a : Addr} {xs : List V} (h : FK K a xs) : SqT K H a xs := .inr h
theorem pyIn_at (R : Rel K ca F H as st) (hv : RV K ca F H as st.nx v x) (hw : RV K ca F H as st.nx w y) {b : Bool} (e : pyIn st v w = some b) :
    (∃ a o, y = .ref a ∧ DGet H a x o ∧ b = o.isSome) ∨ (∃ i j, x = .str i ∧ y = .str j ∧ b = !(Builtin.Str.occurrences j i 0 j.length 1).isEmpty) ∨
    (∃ p xs, y = .ref p ∧ (SqL K H p xs ∨ SqT K H p xs) ∧ flatV x = true ∧ xs.all flatV = true ∧ b = inV x xs) ∨
    (∃ d ds, Dp K H x d ∧ Dp K H y (.list ds) ∧ SeqAt.shaped d = true ∧ SeqAt.shaped (.list ds) = true ∧ b = ds.any fun z => PyData.eqv z d) ∨
    (∃ d ds, Dp K H x d ∧ Dp K H y (.tuple ds) ∧ SeqAt.shaped d = true ∧ SeqAt.shaped (.tuple ds) = true ∧ b = ds.any fun z => PyData.eqv z d) := by
  unfold pyIn at e
  split at e
  · rename_i t ks vs q
    obtain ⟨a, kk, xs, e1, h0, h1, h2⟩ := asD_at R hw q
    rw [h0] at e
    cases q2 : toDK t v with
    | none => rw [q2] at e; cases e
    | some j =>
      rw [q2] at e
      dsimp only at e
      obtain ⟨_, e⟩ := if_inv e
      cases e
      obtain ⟨k1, k2⟩ := toDK_at hv q2
      obtain ⟨o, g, o1, _⟩ := DA.get (K := K) (ca := ca) (F := F) (as := as) (nx := st.nx) h1 k1 k2
      exact .inl ⟨a, o, e1, g, o1.symm⟩
  · split at e
    · simp only [RV] at hv hw
      cases e
      exact .inr (.inl ⟨_, _, hv, hw, rfl⟩)
    · rename_i ys _
      cases q1 : toD v with
      | none => rw [q1] at e; cases e
      | some d =>
        cases q2 : toDs ys with
        | none => rw [q1, q2] at e; cases e
        | some ds =>
          rw [q1, q2] at e
          dsimp only at e
          split at e
          · rename_i hf
            rw [Bool.and_eq_true] at hf
            cases e
            simp only [RV] at hw
            obtain ⟨a, xs, e1, h1, h2⟩ := hw
            obtain ⟨i1, i2⟩ := inV_at hv hf.1 q1 ys xs ds h2 hf.2 q2
            exact .inr (.inr (.inl ⟨a, xs, e1, .inr h1.sq, (flat_at hv hf.1).1, i2, i1.symm⟩))
          · obtain ⟨hs, e⟩ := if_inv e
            rw [Bool.and_eq_true] at hs
            cases e
            exact .inr (.inr (.inr (.inr ⟨d, ds, toD_at _ _ _ hv q1, toD_at _ _ _ hw (by rw [toD, q2]; rfl), hs.1, hs.2, rfl⟩)))
    · rename_i ys _
      cases q1 : toD v with
      | none => rw [q1] at e; cases e
      | some d =>
        cases q2 : toDs ys with
        | none => rw [q1, q2] at e; cases e
        | some ds =>
          rw [q1, q2] at e
          dsimp only at e
          split at e
          · rename_i hf
            rw [Bool.and_eq_true] at hf
            cases e
            simp only [RV] at hw
            obtain ⟨a, xs, e1, h1, h2⟩ := hw
            obtain ⟨i1, i2⟩ := inV_at hv hf.1 q1 ys xs ds h2 hf.2 q2
            exact .inr (.inr (.inl ⟨a, xs, e1, .inr h1.sq, (flat_at hv hf.1).1, i2, i1.symm⟩))
          · obtain ⟨hs, e⟩ := if_inv e
            rw [Bool.and_eq_true] at hs
            cases e
            exact .inr (.inr (.inr (.inr ⟨d, ds, toD_at _ _ _ hv q1, toD_at _ _ _ hw (by rw [toD, q2]; rfl), hs.1, hs.2, rfl⟩)))
    · split at e
      · rename_i d ds q1 q2
        obtain ⟨hs, e⟩ := if_inv e
        rw [Bool.and_eq_true] at hs
        cases e
        exact .inr (.inr (.inr (.inl ⟨d, ds, toD_at _ _ _ hv q1, datum_at R hw q2, hs.1, hs.2, rfl⟩)))
      · cases e
theorem is_non (hv : RV K ca F H as nx v x) (h : match v with | .non => False | _ => True) : decide (x = V.non) = false := by
  cases v with
  | non => exact h.elim
  | tup vs => simp only [RV] at hv; obtain ⟨a, xs, rfl, _⟩ := hv; rfl
  | lst vs => simp only [RV] at hv; obtain ⟨a, xs, rfl, _⟩ := hv; rfl
  | rol vs => simp only [RV] at hv; obtain ⟨a, xs, rfl, _⟩ := hv; rfl
  | rot vs => simp only [RV] at hv; obtain ⟨a, xs, rfl, _⟩ := hv; rfl
  | dct t ks vs => simp only [RV] at hv; obtain ⟨a, kk, xs, rfl, _⟩ := hv; rfl
  | ins c fs vs => simp only [RV] at hv; obtain ⟨a, dx, ff, rfl, _⟩ := hv; rfl
  | ndc ks vs => simp only [RV] at hv; obtain ⟨a, kvs, rfl, _⟩ := hv; rfl
  | ref n => simp only [RV] at hv; rw [hv.2]; rfl
  | _ => simp only [RV] at hv; subst hv; rfl
theorem cmpop_at {op : CmpOp} (R : Rel K ca F H as st) (hv : RV K ca F H as st.nx v x) (hw : RV K ca F H as st.nx w y) {b : Bool} (e : cmpop op v w st = some b) {Q : VK} (q : Q (.bl b) H) : rCmp K op x y H Q := by
  unfold cmpop at e
  split at e
  · obtain ⟨d, d', h1, h2, h3, h4, rfl⟩ := pyEq_at R hv hw e
    exact ⟨d, d', h1, h2, h3, h4, q⟩
  · cases q1 : pyEq st v w with
    | none => rw [q1] at e; cases e
    | some c =>
      rw [q1] at e; cases e
      obtain ⟨d, d', h1, h2, h3, h4, rfl⟩ := pyEq_at R hv hw q1
      exact ⟨d, d', h1, h2, h3, h4, q⟩
  · simp only [RV] at hv hw; cases e; exact .inl ⟨_, _, hv, hw, q⟩
  · simp only [RV] at hv hw; cases e; exact ⟨_, _, hv, hw, q⟩
  · simp only [RV] at hv hw; cases e; exact .inl ⟨_, _, hv, hw, q⟩
  · simp only [RV] at hv hw; cases e; exact ⟨_, _, hv, hw, q⟩
  · simp only [RV] at hv hw; cases e; exact .inr (.inl ⟨_, _, hv, hw, q⟩)
  · simp only [RV] at hv hw; cases e; exact .inr ⟨_, _, hv, hw, q⟩
  · unfold ltT at e
    split at e
    · rename_i ds es q1 q2
      obtain ⟨hc, e⟩ := if_inv e
      cases e
      rw [Bool.and_eq_true, decide_eq_true_eq] at hc
      exact .inr (.inr ⟨_, _, toD_at _ _ _ hv (by rw [toD, q1]; rfl), toD_at _ _ _ hw (by rw [toD, q2]; rfl), hc.1, (fun z => by cases z), hc.2, q⟩)
    · cases e
  · rcases pyIn_at R hv hw e with ⟨a, o, h1, h2, rfl⟩ | ⟨i, j, h1, h2, rfl⟩ | ⟨p, xs, h1, h2, h3, h4, rfl⟩ | ⟨d, ds, h1, h2, h3, h4, rfl⟩ | ⟨d, ds, h1, h2, h3, h4, rfl⟩
    · exact .inl ⟨a, o, h1, h2, q⟩
    · exact .inr (.inl ⟨i, j, h1, h2, q⟩)
    · exact .inr (.inr (.inl ⟨p, xs, h1, h2, h3, h4, q⟩))
    · exact .inr (.inr (.inr (.inl ⟨d, ds, h1, h2, h3, h4, q⟩)))
    · exact .inr (.inr (.inr (.inr ⟨d, ds, h1, h2, h3, h4, q⟩)))
  · cases q1 : pyIn st v w with
    | none => rw [q1] at e; cases e
    | some c =>
      rw [q1] at e; cases e
      rcases pyIn_at R hv hw q1 with ⟨a, o, h1, h2, rfl⟩ | ⟨i, j, h1, h2, rfl⟩ | ⟨p, xs, h1, h2, h3, h4, rfl⟩ | ⟨d, ds, h1, h2, h3, h4, rfl⟩ | ⟨d, ds, h1, h2, h3, h4, rfl⟩
      · exact .inl ⟨a, o, h1, h2, q⟩
      · exact .inr (.inl ⟨i, j, h1, h2, q⟩)
      · exact .inr (.inr (.inl ⟨p, xs, h1, h2, h3, h4, q⟩))
      · exact .inr (.inr (.inr (.inl ⟨d, ds, h1, h2, h3, h4, q⟩)))
      · exact .inr (.inr (.inr (.inr ⟨d, ds, h1, h2, h3, h4, q⟩)))
  · simp only [RV] at hv hw; cases e; subst hv; exact .inl ⟨hw, q⟩
  · simp only [RV] at hv hw; cases e; subst hv; exact .inl ⟨hw, q⟩
  · have := is_non hv trivial
    simp only [RV] at hw; cases e; exact .inl ⟨hw, by rw [this]; exact q⟩
  · have := is_non hv trivial
    simp only [RV] at hw; cases e; exact .inl ⟨hw, by rw [this]; exact q⟩
  · simp only [RV] at hw
    cases e
    refine .inl ⟨hw, ?_⟩
    cases v with
    | non => simp only [RV] at hv; subst hv; exact q
    | _ => rw [is_non hv trivial]; exact q
  · simp only [RV] at hw
    cases e
    refine .inl ⟨hw, ?_⟩
    cases v with
    | non => simp only [RV] at hv; subst hv; exact q
    | _ => rw [is_non hv trivial]; exact q
  · simp only [RV] at hv hw; cases e; exact .inr ⟨_, _, hv, hw, q⟩
  · simp only [RV] at hv hw; cases e; exact .inr ⟨_, _, hv, hw, q⟩
  · cases e
end
end Pv
/-! Pv, part G: truth, items, slices, attributes, built-in calls. -/
namespace Pv
open PySem PySem.Spec L2

section
variable {K : PySem.W.Frag} {ca : CA} {F F' : Addr → Prop} {H H' : Hp} {as as' : Nat → Addr} {st st' : Store} {v w : Val} {x y z : V} {σ : L2.St} {W : WX} {Q : VK} {res : Out Val} {nx : Nat}

theorem isEmpty_rv {vs : List Val} {xs : List V} (h : RVs K ca F H as nx vs xs) : (!vs.isEmpty) = !xs.isEmpty := by
  have e := h.length
  cases vs <;> cases xs <;> first | rfl | (simp at e)
theorem truthy_at (R : Rel K ca F H as st) (hv : RV K ca F H as st.nx v x) {b : Bool} (e : truthy st v = some b) : TruV K x H b := by
  have seq : ∀ {u : Val}, RV K ca F H as st.nx u x → (match asQ st u with
    | some vs => some (!vs.isEmpty)
    | none => none) = some b → TruV K x H b := fun {u} hu e => by
    cases q : asQ st u with
    | some vs =>
      rw [q] at e; cases e
      obtain ⟨a, xs, rfl, h1, h2⟩ := asQ_at R hu q
      rcases h1 with h1 | h1
      · exact .inl ⟨xs, h1, isEmpty_rv h2⟩
      · exact .inr (.inl ⟨xs, h1, isEmpty_rv h2⟩)
    | none => rw [q] at e; cases e
  unfold truthy at e
  cases v with
  | non => simp only [RV] at hv; subst hv; cases e; rfl
  | bl b => simp only [RV] at hv; subst hv; cases e; rfl
  | int b => simp only [RV] at hv; subst hv; cases e; rfl
  | str b =>
    simp only [RV] at hv; subst hv
    dsimp only at e
    obtain ⟨h, e⟩ := if_inv e
    cases e
    exact ⟨by rw [sizeLine_eq]; exact h, rfl⟩
  | _ => exact seq hv e

/-! ### items -/
theorem atI_rv {vs : List Val} {xs : List V} (h : RVs K ca F H as nx vs xs) {i : Int} (e : L2.atI vs i = some v) : ∃ x, L2.atI xs i = some x ∧ RV K ca F H as nx v x := by
  unfold L2.atI at e ⊢
  rw [← h.length]
  cases q : L2.ixN vs.length i with
  | none => rw [q] at e; cases e
  | some j => rw [q] at e; exact h.get (i := j) e
def rItem (K : PySem.W.Frag) : R2 := fun x y H Q => (∃ a v, x = .ref a ∧ DGet H a y (some v) ∧ Q v H) ∨ rIx K x y H Q
theorem getItem_at (R : Rel K ca F H as st) (hv : RV K ca F H as st.nx v x) (hw : RV K ca F H as st.nx w y) (e : getItem v w st = some (res, st')) (post : Post K ca (RV K ca) σ Q W F H as st st' res) : rItem K x y H Q := by
  unfold getItem at e
  split at e
  · rename_i t ks vs q
    obtain ⟨a, kk, xs, e1, h0, h1, h2⟩ := asD_at R hv q
    rw [h0] at e
    cases q2 : toDK t w with
    | none => rw [q2] at e; cases e
    | some j =>
      rw [q2] at e
      dsimp only at e
      obtain ⟨_, e⟩ := if_inv e
      obtain ⟨k1, k2⟩ := toDK_at hw q2
      obtain ⟨o, g, _, get⟩ := DA.get (K := K) (ca := ca) (F := F) (as := as) (nx := st.nx) h1 k1 k2
      cases q3 : dGet kk vs j with
      | none => rw [q3] at e; cases e
      | some u =>
        rw [q3] at e; cases e
        obtain ⟨z, rfl, rz⟩ := get h2 q3
        exact .inl ⟨a, z, e1, g, post.here R rz⟩
  · split at e
    · obtain ⟨hl, e⟩ := if_inv e
      split at e
      · rename_i c q
        cases e
        simp only [RV] at hv hw
        exact .inr (.inr (.inr ⟨_, _, c, hv, hw, by rw [sizeLine_eq]; exact hl, q, post.here R (by simp only [RV])⟩))
      · cases e
    · split at e
      · rename_i vs q
        split at e
        · rename_i u q2
          cases e
          obtain ⟨a, xs, e1, h1, h2⟩ := asQ_at R hv q
          obtain ⟨z, q3, rz⟩ := atI_rv h2 q2
          simp only [RV] at hw
          rcases h1 with h1 | h1
          · exact .inr (.inl ⟨a, xs, _, z, e1, hw, h1, q3, post.here R rz⟩)
          · exact .inr (.inr (.inl ⟨a, xs, _, z, e1, hw, h1, q3, post.here R rz⟩))
        · cases e
      · cases e
    · cases e

/-! ### stores -/
def rSetI : TSet := fun o i v H Q => (∃ a H', o = .ref a ∧ DPut H a i v H' ∧ Q H') ∨ rSetL o i v H Q
theorem set_dict {X : Cx} (hu : X.A.units + 1 < cLine) : PSet X (fun o i v H Q => ∃ a H', o = .ref a ∧ DPut H a i v H' ∧ Q H') := by
  intro pins s σ H o i v ov iv u Q I ro ri rv ⟨a, H', e, g, q⟩
  subst e
  cases ro
  exact d_setItem hu I g ri rv fun s4 I4 => ⟨H', I4, q⟩
theorem _root_.L2.PSet.or {X : Cx} {t t' : TSet} (h : PSet X t) (h' : PSet X t') : PSet X (fun o i v H Q => t o i v H Q ∨ t' o i v H Q) := by
  intro pins s σ H o i v ov iv u Q I ro ri rv q
  rcases q with q | q
  · exact h pins s σ H o i v ov iv u Q I ro ri rv q
  · exact h' pins s σ H o i v ov iv u Q I ro ri rv q
theorem set_any {X : Cx} (hu : X.A.units + 1 < cLine) : PSet X rSetI := (set_dict hu).or L2.set_list

theorem toDKs_len {t : Bool} : ∀ {ks : List Val} {kk : List DK}, toDKs t ks = some kk → ks.length = kk.length
  | [], kk, h => by simp only [toDKs, Option.some.injEq] at h; subst h; rfl
  | k :: r, kk, h => by
    simp only [toDKs] at h
    cases q3 : toDK t k with
    | none => rw [q3] at h; cases h
    | some j =>
      cases q4 : toDKs t r with
      | none => rw [q3, q4] at h; cases h
      | some jj => rw [q3, q4] at h; cases h; simp only [List.length_cons, toDKs_len q4]
theorem toDKs_snoc {t : Bool} {k : Val} {j : DK} (hk : toDK t k = some j) : ∀ {ks : List Val} {kk : List DK}, toDKs t ks = some kk → toDKs t (ks ++ [k]) = some (kk ++ [j])
  | [], kk, h => by simp only [toDKs, Option.some.injEq] at h; subst h; simp [toDKs, hk]
  | k' :: r, kk, h => by
    simp only [toDKs] at h
    cases q3 : toDK t k' with
    | none => rw [q3] at h; cases h
    | some j' =>
      cases q4 : toDKs t r with
      | none => rw [q3, q4] at h; cases h
      | some jj => rw [q3, q4] at h; cases h; simp only [List.cons_append, toDKs, q3, toDKs_snoc hk q4]
theorem dSet_K {κ : Type} [DecidableEq κ] (f : κ → DK) (hf : ∀ a b, f a = f b → a = b) (k : κ) (hy : RV K ca F H as nx w y) : ∀ (kvs : List (κ × V)) {vs : List Val}, RVs K ca F H as nx vs (kvs.map (·.2)) →
    RVs K ca F H as nx (dSet (kvs.map fun p => f p.1) vs (f k) w) ((kvs.map fun kv => if kv.1 = k then (kv.1, y) else kv).map (·.2))
  | [], vs, h => by
    have : dSet (([] : List (κ × V)).map fun p => f p.1) vs (f k) w = [] := by simp [dSet]
    rw [this]; exact .nil
  | p :: r, vs, h => by
    cases vs with
    | nil => simp only [List.map_cons] at h; have := h.nil_inv; cases this
    | cons v vs =>
      obtain ⟨x, xr, ex, h1, h2⟩ := h.inv
      simp only [List.map_cons, List.cons.injEq] at ex
      obtain ⟨rfl, rfl⟩ := ex
      simp only [List.map_cons, dSet]
      refine .cons ?_ (dSet_K f hf k hy r h2)
      by_cases hk : p.1 = k
      · rw [if_pos hk, if_pos (by rw [hk])]; exact hy
      · rw [if_neg hk, if_neg (fun z => hk (hf _ _ z))]; exact h1
theorem map_keys {κ : Type} [DecidableEq κ] (f : κ → DK) (k : κ) (y : V) (kvs : List (κ × V)) : (kvs.map fun kv => if kv.1 = k then (kv.1, y) else kv).map (fun p => f p.1) = kvs.map fun p => f p.1 := by
  induction kvs with
  | nil => rfl
  | cons p r ih =>
    simp only [List.map_cons, ih]
    congr 1
    by_cases h : p.1 = k
    · rw [if_pos h]
    · rw [if_neg h]
/-- a dict's pairs behind a store -/
theorem put_K {κ : Type} [DecidableEq κ] (f : κ → DK) (hf : ∀ a b, f a = f b → a = b) (t : Bool) {ks vs ks' vs' : List Val} {j : Val} {k : κ} {kvs : List (κ × V)} (h0 : toDKs t ks = some (kvs.map fun p => f p.1)) (hj : toDK t j = some (f k))
    (hr : RVs K ca F H as nx vs (kvs.map (·.2))) (hy : RV K ca F H as nx w y) (e : dPut t ks vs j w = some (ks', vs')) :
    kvs.length < sizeLine ∧ toDKs t ks' = some ((putK kvs k y).map fun p => f p.1) ∧ RVs K ca F H as nx vs' ((putK kvs k y).map (·.2)) := by
  unfold dPut at e
  rw [h0, hj] at e
  dsimp only at e
  obtain ⟨⟨_, hl⟩, e⟩ := if_inv e
  have hlen : kvs.length < sizeLine := by
    have := toDKs_len h0
    rw [List.length_map] at this
    rw [sizeLine_eq, ← this]; exact hl
  refine ⟨hlen, ?_⟩
  have hh := hasK_K f hf k kvs
  unfold putK
  rw [valV_any]
  by_cases hb : (valV kvs k).isSome = true
  · rw [if_pos hb]
    rw [if_pos (hh.trans hb)] at e
    cases e
    exact ⟨by rw [map_keys]; exact h0, dSet_K f hf k hy kvs hr⟩
  · rw [if_neg hb]
    rw [if_neg (fun z => hb (hh.symm.trans z))] at e
    cases e
    refine ⟨?_, ?_⟩
    · rw [List.map_append]
      exact toDKs_snoc hj h0
    · rw [List.map_append]
      exact hr.append (.cons hy .nil)
theorem toDK_K {t : Bool} {j : Val} {d : DK} (h : toDK t j = some d) : match d with | .inl _ => t = false | .inr _ => t = true := by
  cases j with
  | tup vs =>
    cases t with
    | false => simp [toDK] at h
    | true =>
      simp only [toDK, if_true] at h
      cases q : toKeyL vs with
      | none => rw [q] at h; cases h
      | some ks => rw [q] at h; cases h; rfl
  | _ =>
    cases t with
    | true => simp [toDK] at h
    | false =>
      simp only [toDK, Bool.false_eq_true, if_false] at h
      first
        | (simp only [toKey, Option.map_some, Option.some.injEq] at h; subst h; rfl)
        | (simp only [toKey, Option.map_none] at h; cases h)
/-- a dict of the store behind a store -/
theorem dput_at {a : Addr} {t : Bool} {ks vs ks' vs' : List Val} {j : Val} {xj : V} {kk : List DK} {xs : List V} (h0 : toDKs t ks = some kk) (hm : DM H a t kk xs) (hr : RVs K ca F H as nx vs xs) (hj : RV K ca F H as nx j xj) (hy : RV K ca F H as nx w y)
    (e : dPut t ks vs j w = some (ks', vs')) : ∃ u kk' xs', DPut H a xj y (upd H a u) ∧ toDKs t ks' = some kk' ∧ DM (upd H a u) a t kk' xs' ∧ RVs K ca F H as nx vs' xs' := by
  cases qj : toDK t j with
  | none => unfold dPut at e; rw [h0, qj] at e; cases e
  | some d =>
    obtain ⟨k1, _⟩ := toDK_at hj qj
    have k2 := toDK_K qj
    cases d with
    | inl k =>
      have ht : t = false := k2
      subst ht
      obtain ⟨kvs, h1, rfl, rfl⟩ := hm
      obtain ⟨z1, z2, z3⟩ := put_K Sum.inl (fun a b e => Sum.inl.inj e) false h0 qj hr hy e
      have k1' : xj = kV k := k1
      subst k1'
      exact ⟨.dK (putK kvs k y), _, _, DPut.k h1 z1, z2, ⟨_, upd_same, rfl, rfl⟩, z3⟩
    | inr k =>
      have ht : t = true := k2
      subst ht
      obtain ⟨kvs, h1, rfl, rfl⟩ := hm
      obtain ⟨z1, z2, z3⟩ := put_K Sum.inr (fun a b e => Sum.inr.inj e) true h0 qj hr hy e
      obtain ⟨b, rfl, hb⟩ := k1
      exact ⟨.dT (putK kvs k y), _, _, DPut.t h1 hb z1, z2, ⟨_, upd_same, rfl, rfl⟩, z3⟩
theorem setItem_at {u : Val} {xu : V} {q : Hp → Prop} {r : Out Unit} (R : Rel K ca F H as st) (hv : RV K ca F H as st.nx v x) (hw : RV K ca F H as st.nx w y) (hu : RV K ca F H as st.nx u xu) (e : setItem v w u st = some (r, st'))
    (post : ∀ H1, Ext F H as st F H1 as st' → Rel K ca F H1 as st' → q H1) : rSetI x y xu H q ∧ r = .ok () := by
  unfold setItem at e
  split at e
  · rename_i n
    simp only [RV] at hv
    split at e
    · rename_i vs k q1
      split at e
      · rename_i j q2
        cases e
        obtain ⟨_, _, xs, h1, h2⟩ := R.live n _ q1
        simp only [RV] at hw
        obtain ⟨x1, R1⟩ := put_at (o' := .lst (vs.set j u)) (u := .lst (xs.set j xu)) R q1 fun x1 => ⟨xs.set j xu, upd_same, (h2.ext x1).set (hu.ext x1)⟩
        exact ⟨.inr ⟨as n, xs, k, j, hv.2, hw, h1, by rw [← h2.length]; exact q2, post _ x1 R1⟩, rfl⟩
      · cases e
    · rename_i t ks vs q1
      split at e
      · rename_i ks' vs' q2
        cases e
        obtain ⟨_, _, kk, xs, h0, h1, h2⟩ := R.live n _ q1
        obtain ⟨ho, kk', xs', g, z0, z1, z2⟩ := dput_at h0 h1 h2 hw hu q2
        obtain ⟨x1, R1⟩ := put_at (o' := .dct t ks' vs') (u := ho) R q1 fun x1 => ⟨kk', xs', z0, z1, (z2 : RVs K ca F H as st.nx _ _).mono x1.sub x1.keep x1.ags (Nat.le_refl _)⟩
        exact ⟨.inl ⟨as n, _, hv.2, g, post _ x1 R1⟩, rfl⟩
      · cases e
    · cases e
  · cases e

/-! ### slices -/
theorem cut_rv {vs : List Val} {xs : List V} (h : RVs K ca F H as nx vs xs) (lo hi : Option Int) : RVs K ca F H as nx (cut vs lo hi) (cutV xs lo hi) := by
  unfold cut cutV
  rw [h.length]
  exact (h.drop _).take _
def rSlice (K : PySem.W.Frag) : V → Option Int → Option Int → Hp → VK → Prop := fun x lo hi H Q => rSlS x lo hi H Q ∨ rSlT K x lo hi H Q ∨ rSlL K x lo hi H Q
theorem sl_any {X : Cx} : SlR X (rSlice X.K) := sl_str.or (sl_tup.or L2.sl_list)
theorem slice_at {m : Bool} {lo hi : Option Int} (R : Rel K ca F H as st) (hv : RV K ca F H as st.nx v x) (e : slice m v lo hi st = some (res, st')) (post : Post K ca (RV K ca) σ Q W F H as st st' res) : rSlice K x lo hi H Q := by
  unfold slice at e
  split at e
  · obtain ⟨h, e⟩ := if_inv e
    cases e
    simp only [RV] at hv
    exact .inl ⟨_, hv, by rw [sizeLine_eq]; exact h, post.here R (by simp only [RV])⟩
  · rename_i vs
    split at e
    · cases e
    · rename_i hn
      cases e
      simp only [RV] at hv
      obtain ⟨a, xs, e1, h1, h2⟩ := hv
      exact .inr (.inl ⟨a, xs, e1, h1.sq, by rw [← h2.length]; exact hn, newT_at R (cut_rv h2 lo hi) post⟩)
  · split at e
    · rename_i vs q
      obtain ⟨a, xs, e1, h1, h2⟩ := asL_at R hv q
      obtain ⟨_, k⟩ := newL_at R (cut_rv h2 lo hi) e post
      exact .inr (.inr ⟨a, xs, e1, h1, k⟩)
    · cases e

/-! ### attributes -/
end
end Pv
/-! Pv, part H: the readings of expressions and tests. -/
namespace Pv
open PySem PySem.Spec L2

/-- an expression, an argument list, a test reads as a function of the frame -/
abbrev SE (ca : CA) (X : Cx) (W : WX) (e : Expr) (f : EF) : Prop := PE X e (tE X.K ca W f)
abbrev SA (ca : CA) (X : Cx) (W : WX) (es : List Expr) (g : LF) : Prop := PA X es (tA X.K ca W g)
abbrev ST (ca : CA) (X : Cx) (W : WX) (e : Expr) (f : BT) : Prop := PT X e (tT X.K ca W f)
abbrev SW (ca : CA) (X : Cx) (W : WX) (e : Expr) (f : BT) : Prop := PW X e (tT X.K ca W f)

theorem rd_bind {α β : Type} {f : Store → Option α} {g : α → M β} {st st' : Store} {r : Out β} (e : bd (rd f) g st = some (r, st')) : ∃ k, f st = some k ∧ g k st = some (r, st') := by
  unfold bd rd at e
  cases q : f st with
  | none => rw [q] at e; cases e
  | some k => rw [q] at e; exact ⟨k, rfl, e⟩
theorem map_inv {α β : Type} {f : α → β} {o : Option α} {u : β} (e : o.map f = some u) : ∃ k, o = some k ∧ u = f k := by
  cases o with
  | none => cases e
  | some k => cases e; exact ⟨k, rfl, rfl⟩
section
variable {X : Cx} {ca : CA} {W : WX} {e a b c : Expr} {es rest : List Expr} {fa fb fc : EF} {g : LF} {ba bb : BT} {pos p2 : Pos}

theorem se_lit {v : Val} {x : V} (h : PE X e (tC x)) (hv : ∀ F H as nx, RV X.K ca F H as nx v x) : SE ca X W e (eLit v) := h.weak fun σ H Q ⟨F, as, env, st, r, st', re, R, e, post⟩ => by
  obtain ⟨rfl, rfl⟩ := ret_inv e
  exact post.here R (hv _ _ _ _)
theorem se_int {i : Int} {j} : SE ca X W (.Constant (.int i) j pos) (eLit (.int i)) := se_lit pe_int fun _ _ _ _ => by simp only [RV]
theorem se_bl {i : Bool} {j} : SE ca X W (.Constant (.bool i) j pos) (eLit (.bl i)) := se_lit pe_bl fun _ _ _ _ => by simp only [RV]
theorem se_non {j} : SE ca X W (.Constant .none j pos) (eLit .non) := se_lit pe_non fun _ _ _ _ => by simp only [RV]
theorem se_ty {x : Str} {n : String} (hg : Gl X x) (hm : X.mg x = none) (hv : bootBuiltins x = some (.type n)) (hn : x ≠ "__name__" := by decide) (hd : (x == ("__debug__" : Str)) = false := by decide) : SE ca X W (.Name x pos) (eLit (.ty n)) :=
  se_lit (pe_bltn (v := .ty n) hg hm hv rfl hn hd) fun _ _ _ _ => by simp only [RV]
theorem slot_at {env : Env} {i : Nat} {v : Val} (h : env[i]?.bind id = some v) : env[i]? = some (some v) := by
  cases q : env[i]? with
  | none => rw [q] at h; cases h
  | some o => rw [q] at h; cases o with
    | none => cases h
    | some w => simpa using h
theorem se_var {i : Nat} {x : Str} (hN : X.N[i]? = some x) (hv : Vis X.env.scope x) (hd : (x == ("__debug__" : Str)) = false := by decide) (hcd : (x == ("__classdict__" : Str)) = false := by decide) : SE ca X W (.Name x pos) (eVar i) := (pe_var hN hv hd hcd).weak fun σ H Q ⟨F, as, env, st, r, st', re, R, e, post⟩ => by
  obtain ⟨v, e', rfl, rfl⟩ := lift_inv e
  obtain ⟨x, h1, h2⟩ := re.2 i v (slot_at e')
  exact ⟨x, h1, post.here R h2⟩

theorem sa_nil : SA ca X W [] aNil := pa_nil.weak fun σ H Q ⟨F, as, env, st, r, st', re, R, e, post⟩ => by
  obtain ⟨rfl, rfl⟩ := ret_inv e
  exact post.here R .nil
theorem sa_cons (ha : SE ca X W e fa) (hr : SA ca X W es g) (hs : starEach (e :: es) X.env = (false, eval e X.env) :: starEach es X.env := by rfl) : SA ca X W (e :: es) (aCons fa g) := (pa_cons ha hr hs).weak fun σ H Q ⟨F, as, env, st, r, st', re, R, e, post⟩ =>
  step_bind re R e post fun v s1 e F1 H1 as1 x1 R1 x rx post => step_bind (re.ext x1) R1 e post fun vs s2 e F2 H2 as2 x2 R2 xs rxs post => by
    obtain ⟨rfl, rfl⟩ := ret_inv e
    exact post.here R2 (.cons (rx.ext x2) rxs)
theorem se_tup {x1} (h : SA ca X W es g) : SE ca X W (.Tuple es x1 pos) (eTup g) := (pe_tup h).weak fun σ H Q ⟨F, as, env, st, r, st', re, R, e, post⟩ =>
  step_bind re R e post fun vs s1 e F1 H1 as1 x1 R1 xs rxs post => by
    obtain ⟨hl, e⟩ := ifM_inv e
    obtain ⟨rfl, rfl⟩ := ret_inv e
    exact ⟨by rw [← rxs.length, sizeLine_eq]; exact hl, newT_at R1 rxs post⟩
theorem se_lst {m : Bool} (h : SA ca X W es g) : SE ca X W (.List es pos) (eLst m g) := (pe_lst h).weak fun σ H Q ⟨F, as, env, st, r, st', re, R, e, post⟩ =>
  step_bind re R e post fun vs s1 e F1 H1 as1 x1 R1 xs rxs post => newL_at R1 rxs e post
theorem se_bin {op : Operator} (ha : SE ca X W a fa) (hb : SE ca X W b fb) : SE ca X W (.BinOp a op b pos) (eBin op fa fb) := (pe_op (op_bin X op) ha hb).weak fun σ H Q ⟨F, as, env, st, r, st', re, R, e, post⟩ =>
  step_bind re R e post fun v s1 e F1 H1 as1 x1 R1 x rx post => step_bind (re.ext x1) R1 e post fun w s2 e F2 H2 as2 x2 R2 y ry post => binop_at R2 (rx.ext x2) ry e post
theorem se_not (ha : SE ca X W a fa) : SE ca X W (.UnaryOp .Not a pos) (eNot fa) := (pe_notT ha).weak fun σ H Q ⟨F, as, env, st, r, st', re, R, e, post⟩ =>
  step_bind re R e post fun v s1 e F1 H1 as1 x1 R1 x rx post => by
    obtain ⟨u, e', rfl, rfl⟩ := rd_inv e
    obtain ⟨k, q, rfl⟩ := map_inv e'
    exact ⟨k, truthy_at R1 rx q, post.here R1 (by simp only [RV])⟩
theorem se_cmp {op : CmpOp} (hu : X.A.units + 65 < cLine) (ha : SE ca X W a fa) (hb : SE ca X W b fb) (hm : behindInMarks op b = false) : SE ca X W (.Compare a [op] [b] pos) (eCmp op fa fb) := (pe_cmpR (op_cmp X hu op) ha hb hm).weak fun σ H Q ⟨F, as, env, st, r, st', re, R, e, post⟩ =>
  step_bind re R e post fun v s1 e F1 H1 as1 x1 R1 x rx post => step_bind (re.ext x1) R1 e post fun w s2 e F2 H2 as2 x2 R2 y ry post => by
    obtain ⟨u, e', rfl, rfl⟩ := rd_inv e
    obtain ⟨k, q, rfl⟩ := map_inv e'
    exact cmpop_at R2 (rx.ext x2) ry q (post.here R2 (by simp only [RV]))
theorem se_one {op} (h : SE ca X W a fa) : SE ca X W (.BoolOp op [a] pos) fa := pe_one h
theorem se_and (ha : SE ca X W a fa) (hb : SE ca X W (.BoolOp .And (b :: rest) pos) fb) : SE ca X W (.BoolOp .And (a :: b :: rest) pos) (eAnd fa fb) := (pe_andT ha hb).weak fun σ H Q ⟨F, as, env, st, r, st', re, R, e, post⟩ =>
  step_bind re R e post fun v s1 e F1 H1 as1 x1 R1 x rx post => by
    obtain ⟨k, q, e⟩ := rd_bind e
    refine ⟨k, truthy_at R1 rx q, ?_⟩
    cases k with
    | true => exact ⟨F1, as1, env, s1, r, st', re.ext x1, R1, e, post⟩
    | false => obtain ⟨rfl, rfl⟩ := ret_inv e; exact post.here R1 rx
theorem se_or (ha : SE ca X W a fa) (hb : SE ca X W (.BoolOp .Or (b :: rest) pos) fb) : SE ca X W (.BoolOp .Or (a :: b :: rest) pos) (eOr fa fb) := (pe_orT ha hb).weak fun σ H Q ⟨F, as, env, st, r, st', re, R, e, post⟩ =>
  step_bind re R e post fun v s1 e F1 H1 as1 x1 R1 x rx post => by
    obtain ⟨k, q, e⟩ := rd_bind e
    refine ⟨k, truthy_at R1 rx q, ?_⟩
    cases k with
    | false => exact ⟨F1, as1, env, s1, r, st', re.ext x1, R1, e, post⟩
    | true => obtain ⟨rfl, rfl⟩ := ret_inv e; exact post.here R1 rx
theorem se_if (hc : ST ca X W c ba) (ha : SE ca X W a fa) (hb : SE ca X W b fb) : SE ca X W (.IfExp c a b pos) (eIf ba fa fb) := (pe_ifExp hc ha hb).weak fun σ H Q ⟨F, as, env, st, r, st', re, R, e, post⟩ =>
  step_bind re R e post fun v s1 e F1 H1 as1 x1 R1 x rx post => by
    have rx' : x = v := rx
    subst rx'
    cases x with
    | true => exact ⟨F1, as1, env, s1, r, st', re.ext x1, R1, e, post⟩
    | false => exact ⟨F1, as1, env, s1, r, st', re.ext x1, R1, e, post⟩
def rDict : R2 := fun x y H Q => ∃ a v, x = .ref a ∧ DGet H a y (some v) ∧ Q v H
theorem ix_dict (hu : X.A.units + 1 < cLine) : IxR X rDict := by
  intro value slice pins s σ H x y v u Q I rx ry ⟨a, z, ex, g, q⟩ hs
  subst ex
  cases rx
  exact PyProof.Rows.tail_any (ops := [.ref a, u]) (dict_typeIs I g) PySem.F.slot_dict_getitem.lookup (d_getItem hu I g ry fun w' s3 I3 rw' => ⟨z, H, I3, rw', q⟩) hs
theorem ix_item (hu : X.A.units + 1 < cLine) : IxR X (rItem X.K) := (ix_dict hu).or ix_seq
theorem se_sub (hu : X.A.units + 65 < cLine) (ha : SE ca X W a fa) (hb : SE ca X W b fb) (hs : PlainIx b) : SE ca X W (.Subscript a b pos) (eSub fa fb) := (pe_ix (ix_item (by omega)) ha hb hs).weak fun σ H Q ⟨F, as, env, st, r, st', re, R, e, post⟩ =>
  step_bind re R e post fun v s1 e F1 H1 as1 x1 R1 x rx post => step_bind (re.ext x1) R1 e post fun w s2 e F2 H2 as2 x2 R2 y ry post => getItem_at R2 (rx.ext x2) ry e post

/-! ### slices -/
abbrev SO (ca : CA) (X : Cx) (W : WX) (e : Option Expr) (f : Env → M (Option Int)) : Prop := PO X e (tG X.K ca rO W f)
theorem po_weak {e : Option Expr} {t t' : TO} (h : PO X e t) (w : ∀ σ H Q, t' σ H Q → t σ H Q) : PO X e t' := ⟨fun pins s σ H Q I q => h.run pins s σ H Q I (w σ H Q q)⟩
theorem so_none : SO ca X W none oNone := po_weak po_none fun σ H Q ⟨F, as, env, st, r, st', re, R, e, post⟩ => by
  obtain ⟨rfl, rfl⟩ := ret_inv e
  exact post.here (rel := rO) R rfl
theorem so_some (h : SE ca X W e fa) : SO ca X W (some e) (oSome fa) := po_weak (po_some h) fun σ H Q ⟨F, as, env, st, r, st', re, R, e, post⟩ =>
  step_bind re R e post fun v s1 e F1 H1 as1 x1 R1 x rx post => by
    obtain ⟨u, e', rfl, rfl⟩ := lift_inv e
    cases v with
    | int i => cases e'; simp only [RV] at rx; exact ⟨i, rx, post.here (rel := rO) R1 rfl⟩
    | _ => cases e'
theorem se_slc {m : Bool} {lo hi : Option Expr} {fl fh : Env → M (Option Int)} (ha : SE ca X W a fa) (hl : SO ca X W lo fl) (hh : SO ca X W hi fh) : SE ca X W (.Subscript a (.Slice lo hi none p2) pos) (eSlc m fa fl fh) :=
  (pe_slice sl_any ha hl hh).weak fun σ H Q ⟨F, as, env, st, r, st', re, R, e, post⟩ =>
  step_bind re R e post fun v s1 e F1 H1 as1 x1 R1 x rx post => step_bind (re.ext x1) R1 e post fun l s2 e F2 H2 as2 x2 R2 l' rl post => step_bind ((re.ext x1).ext x2) R2 e post fun h s3 e F3 H3 as3 x3 R3 h' rh post => by
    have e1 : l' = l := rl
    have e2 : h' = h := rh
    subst e1 e2
    exact slice_at R3 ((rx.ext x2).ext x3) e post

/-! ### attributes -/
/-! ### tests -/
theorem st_tru (ha : SE ca X W a fa) (he : ∀ whole, isTrue a X.env whole = (do let v ← whole; standAt a.pos; holding [v] (PySem.truthy v)) := by intro _; rfl) : ST ca X W a (bTru fa) := (pt_truth ha he).weak fun σ H Q ⟨F, as, env, st, r, st', re, R, e, post⟩ =>
  step_bind re R e post fun v s1 e F1 H1 as1 x1 R1 x rx post => by
    obtain ⟨k, q, rfl, rfl⟩ := rd_inv e
    exact ⟨k, truthy_at R1 rx q, post.here (rel := rB) R1 rfl⟩
theorem st_cmp {op : CmpOp} (hu : X.A.units + 65 < cLine) (ha : SE ca X W a fa) (hb : SE ca X W b fb) (hm : behindInMarks op b = false) : ST ca X W (.Compare a [op] [b] pos) (bCmp op fa fb) := (pt_cmpR (op_cmp X hu op) ha hb hm).weak fun σ H Q ⟨F, as, env, st, r, st', re, R, e, post⟩ =>
  step_bind re R e post fun v s1 e F1 H1 as1 x1 R1 x rx post => step_bind (re.ext x1) R1 e post fun w s2 e F2 H2 as2 x2 R2 y ry post => by
    obtain ⟨k, q, rfl, rfl⟩ := rd_inv e
    exact cmpop_at R2 (rx.ext x2) ry q ⟨k, rfl, post.here (rel := rB) R2 rfl⟩
theorem bl_at {K : PySem.W.Frag} {F : Addr → Prop} {H : Hp} {as : Nat → Addr} {nx : Nat} {v : Val} {x : V} {k : Bool} (h : RV K ca F H as nx v x) (e : asB v = some k) : x = .bl k := by
  cases v with
  | bl b => cases e; simpa only [RV] using h
  | _ => cases e
theorem st_not (ha : ST ca X W a ba) : ST ca X W (.UnaryOp .Not a pos) (bNot ba) := (pt_not ha).weak fun σ H Q ⟨F, as, env, st, r, st', re, R, e, post⟩ =>
  step_bind re R e post fun v s1 e F1 H1 as1 x1 R1 x rx post => by
    obtain ⟨rfl, rfl⟩ := ret_inv e
    have e1 : x = v := rx
    subst e1
    exact post.here (rel := rB) R1 rfl
theorem sw_and1 (ha : ST ca X W a ba) : SW ca X W (.BoolOp .And [a] pos) ba := pw_and1 ha
theorem sw_or1 (ha : ST ca X W a ba) : SW ca X W (.BoolOp .Or [a] pos) ba := pw_or1 ha
theorem sw_and (ha : ST ca X W a ba) (hb : SW ca X W (.BoolOp .And (b :: rest) pos) bb) : SW ca X W (.BoolOp .And (a :: b :: rest) pos) (bAnd ba bb) := (pw_and ha hb).weak fun σ H Q ⟨F, as, env, st, r, st', re, R, e, post⟩ =>
  step_bind re R e post fun v s1 e F1 H1 as1 x1 R1 x rx post => by
    have e1 : x = v := rx
    subst e1
    cases x with
    | true => exact ⟨F1, as1, env, s1, r, st', re.ext x1, R1, e, post⟩
    | false =>
      obtain ⟨rfl, rfl⟩ := ret_inv e
      exact post.here (rel := rB) R1 rfl
theorem sw_or (ha : ST ca X W a ba) (hb : SW ca X W (.BoolOp .Or (b :: rest) pos) bb) : SW ca X W (.BoolOp .Or (a :: b :: rest) pos) (bOr ba bb) := (pw_or ha hb).weak fun σ H Q ⟨F, as, env, st, r, st', re, R, e, post⟩ =>
  step_bind re R e post fun v s1 e F1 H1 as1 x1 R1 x rx post => by
    have e1 : x = v := rx
    subst e1
    cases x with
    | false => exact ⟨F1, as1, env, s1, r, st', re.ext x1, R1, e, post⟩
    | true =>
      obtain ⟨rfl, rfl⟩ := ret_inv e
      exact post.here (rel := rB) R1 rfl
end
end Pv
/-! Pv, part I: calls of built-in functions, of methods of built-in types. -/
namespace Pv
open PySem PySem.Spec L2

/-- what a built-in function does fits a rule's reading -/
def BAt (K : PySem.W.Frag) (ca : CA) (f : BF) (r : List V → Hp → VK → Prop) : Prop :=
  ∀ {F : Addr → Prop} {H : Hp} {as : Nat → Addr} {st st' : Store} {vs : List Val} {xs : List V} {res : Out Val} {σ : L2.St} {W : WX} {Q : VK}, Rel K ca F H as st → RVs K ca F H as st.nx vs xs → f vs st = some (res, st') →
    Post K ca (RV K ca) σ Q W F H as st st' res → r xs H Q
def MAt (K : PySem.W.Frag) (ca : CA) (f : Val → BF) (r : V → List V → Hp → VK → Prop) : Prop :=
  ∀ {F : Addr → Prop} {H : Hp} {as : Nat → Addr} {st st' : Store} {v : Val} {x : V} {vs : List Val} {xs : List V} {res : Out Val} {σ : L2.St} {W : WX} {Q : VK}, Rel K ca F H as st → RV K ca F H as st.nx v x → RVs K ca F H as st.nx vs xs → f v vs st = some (res, st') →
    Post K ca (RV K ca) σ Q W F H as st st' res → r x xs H Q

section
variable {X : Cx} {ca : CA} {W : WX} {e a b c : Expr} {es rest : List Expr} {fa fb fc : EF} {g : LF} {pos p apos : Pos} {f : BF} {r : List V → Hp → VK → Prop} {id T : String} {x : Str}
theorem se_callB (hat : BAt X.K ca f r) (hc : CallR X (.builtin id) r) (hg : Gl X x) (hm : X.mg x = none) (hv : bootBuiltins x = some (.builtin id)) (ha : SA ca X W (e :: es) g) (hn : x ≠ "__name__" := by decide) (hdb : (x == ("__debug__" : Str)) = false := by decide)
    (he : starEach (e :: es) X.env = (false, eval e X.env) :: starEach es X.env := by rfl) (hpl : (backTo pos (starEach es X.env)).any (·.1) = false := by rfl) : SE ca X W (.Call (.Name x p) (e :: es) [] pos) (eCall f g) :=
  (pe_callB hc hg hm hv ha hn hdb he hpl).weak fun σ H Q ⟨F, as, env, st, r, st', re, R, e, post⟩ =>
  step_bind re R e post fun vs s1 e F1 H1 as1 x1 R1 xs rxs post => hat R1 rxs e post
theorem se_callTy (hat : BAt X.K ca f r) (hc : CallR X (.type T) r) (hg : Gl X x) (hm : X.mg x = none) (hv : bootBuiltins x = some (.type T)) (ha : SA ca X W (e :: es) g) (hn : x ≠ "__name__" := by decide) (hdb : (x == ("__debug__" : Str)) = false := by decide)
    (he : starEach (e :: es) X.env = (false, eval e X.env) :: starEach es X.env := by rfl) (hpl : (backTo pos (starEach es X.env)).any (·.1) = false := by rfl) : SE ca X W (.Call (.Name x p) (e :: es) [] pos) (eCall f g) :=
  (pe_callTy hc hg hm hv ha hn hdb he hpl).weak fun σ H Q ⟨F, as, env, st, r, st', re, R, e, post⟩ =>
  step_bind re R e post fun vs s1 e F1 H1 as1 x1 R1 xs rxs post => hat R1 rxs e post
end

section
variable {K : PySem.W.Frag} {ca : CA}
theorem int_at {F : Addr → Prop} {H : Hp} {as : Nat → Addr} {nx : Nat} {v : Val} {x : V} {i : Int} (h : RV K ca F H as nx v x) (e : asInt v = some i) : x = .int i := by
  cases v with
  | int j => cases e; simpa only [RV] using h
  | _ => cases e
theorem intL_at {F : Addr → Prop} {H : Hp} {as : Nat → Addr} {nx : Nat} : ∀ {vs : List Val} {xs : List V} {is : List Int}, RVs K ca F H as nx vs xs → intL vs = some is → xs = is.map V.int
  | [], xs, is, h, e => by cases e; exact h.nil_inv
  | v :: vs, xs, is, h, e => by
    obtain ⟨x, r, rfl, h1, h2⟩ := h.inv
    simp only [intL] at e
    cases q : asInt v with
    | none => rw [q] at e; cases e
    | some i =>
      cases q2 : intL vs with
      | none => rw [q, q2] at e; cases e
      | some js => rw [q, q2] at e; cases e; rw [int_at h1 q, intL_at h2 q2]; rfl
theorem blL_at {F : Addr → Prop} {H : Hp} {as : Nat → Addr} {nx : Nat} : ∀ {vs : List Val} {xs : List V} {is : List Bool}, RVs K ca F H as nx vs xs → blL vs = some is → xs = is.map V.bl
  | [], xs, is, h, e => by cases e; exact h.nil_inv
  | v :: vs, xs, is, h, e => by
    obtain ⟨x, r, rfl, h1, h2⟩ := h.inv
    simp only [blL] at e
    cases q : asB v with
    | none => rw [q] at e; cases e
    | some i =>
      cases q2 : blL vs with
      | none => rw [q, q2] at e; cases e
      | some js => rw [q, q2] at e; cases e; rw [bl_at h1 q, blL_at h2 q2]; rfl
theorem one_rv {F : Addr → Prop} {H : Hp} {as : Nat → Addr} {nx : Nat} {v : Val} {xs : List V} (h : RVs K ca F H as nx [v] xs) : ∃ x, xs = [x] ∧ RV K ca F H as nx v x := by
  obtain ⟨x, r, rfl, h1, h2⟩ := h.inv
  rw [h2.nil_inv]
  exact ⟨x, rfl, h1⟩
theorem two_rv {F : Addr → Prop} {H : Hp} {as : Nat → Addr} {nx : Nat} {v w : Val} {xs : List V} (h : RVs K ca F H as nx [v, w] xs) : ∃ x y, xs = [x, y] ∧ RV K ca F H as nx v x ∧ RV K ca F H as nx w y := by
  obtain ⟨x, r, rfl, h1, h2⟩ := h.inv
  obtain ⟨y, rfl, h3⟩ := one_rv h2
  exact ⟨x, y, rfl, h1, h3⟩
theorem at_fInt : BAt K ca fInt (fun xs H Q => (∃ i, xs = [.int i] ∧ Q (.int i) H) ∨ ∃ k, xs = [.bl k] ∧ Q (.int (if k then 1 else 0)) H) := by
  intro F H as st st' vs xs res σ W Q R rvs e post
  unfold fInt at e
  split at e
  · obtain ⟨x, rfl, rx⟩ := one_rv rvs
    simp only [RV] at rx; subst rx; cases e
    exact .inl ⟨_, rfl, post.here R (by simp only [RV])⟩
  · obtain ⟨x, rfl, rx⟩ := one_rv rvs
    simp only [RV] at rx; subst rx; cases e
    exact .inr ⟨_, rfl, post.here R (by simp only [RV])⟩
  · cases e
theorem at_fMax2 : BAt K ca fMax2 (fun xs H Q => ∃ i j, xs = [.int i, .int j] ∧ Q (.int (if j > i then j else i)) H) := by
  intro F H as st st' vs xs res σ W Q R rvs e post
  unfold fMax2 at e
  split at e
  · obtain ⟨x, y, rfl, rx, ry⟩ := two_rv rvs
    simp only [RV] at rx ry; subst rx; subst ry; cases e
    exact ⟨_, _, rfl, post.here R (by simp only [RV])⟩
  · cases e
theorem at_fMin2 : BAt K ca fMin2 (fun xs H Q => ∃ i j, xs = [.int i, .int j] ∧ Q (.int (if j < i then j else i)) H) := by
  intro F H as st st' vs xs res σ W Q R rvs e post
  unfold fMin2 at e
  split at e
  · obtain ⟨x, y, rfl, rx, ry⟩ := two_rv rvs
    simp only [RV] at rx ry; subst rx; subst ry; cases e
    exact ⟨_, _, rfl, post.here R (by simp only [RV])⟩
  · cases e
theorem at_fLen : BAt K ca fLen (fun xs H Q => ∃ x n, xs = [x] ∧ LenV K x H n ∧ Q (.int n) H) := by
  intro F H as st st' vs xs res σ W Q R rvs e post
  unfold fLen at e
  split at e
  · obtain ⟨x, rfl, rx⟩ := one_rv rvs
    obtain ⟨hl, e⟩ := if_inv e
    simp only [RV] at rx; subst rx; cases e
    exact ⟨_, _, rfl, ⟨by rw [sizeLine_eq]; exact hl, rfl⟩, post.here R (by simp only [RV])⟩
  · rename_i v _
    obtain ⟨x, rfl, rx⟩ := one_rv rvs
    cases q : asQ st v with
    | none => rw [q] at e; cases e
    | some ws =>
      rw [q] at e; cases e
      obtain ⟨a, ys, rfl, h1, h2⟩ := asQ_at R rx q
      refine ⟨_, ys.length, rfl, ?_, post.here R (by simp only [RV, h2.length])⟩
      rcases h1 with h1 | h1
      · exact .inl ⟨ys, h1, rfl⟩
      · exact .inr ⟨ys, h1, rfl⟩
  · cases e
theorem at_fSum : BAt K ca fSum (rSum K) := by
  intro F H as st st' vs xs res σ W Q R rvs e post
  unfold fSum at e
  split at e
  · rename_i v
    obtain ⟨x, rfl, rx⟩ := one_rv rvs
    cases q : asL st v with
    | none => rw [q] at e; cases e
    | some ws =>
      rw [q] at e
      dsimp only at e
      cases q2 : intL ws with
      | none => rw [q2] at e; cases e
      | some is =>
        rw [q2] at e; cases e
        obtain ⟨a, ys, rfl, h1, h2⟩ := asL_at R rx q
        have := intL_at h2 q2
        subst this
        exact ⟨a, is, rfl, h1, post.here R (by simp only [RV])⟩
  · cases e
theorem at_fAll : BAt K ca fAll (rAll K) := by
  intro F H as st st' vs xs res σ W Q R rvs e post
  unfold fAll at e
  split at e
  · rename_i v
    obtain ⟨x, rfl, rx⟩ := one_rv rvs
    cases q : asL st v with
    | none => rw [q] at e; cases e
    | some ws =>
      rw [q] at e
      dsimp only at e
      cases q2 : blL ws with
      | none => rw [q2] at e; cases e
      | some is =>
        rw [q2] at e; cases e
        obtain ⟨a, ys, rfl, h1, h2⟩ := asL_at R rx q
        have := blL_at h2 q2
        subst this
        exact ⟨a, is, rfl, h1, post.here R (by simp only [RV])⟩
  · cases e
theorem at_fTuple : BAt K ca fTuple (fun xs H Q => ∃ p ys, xs = [.ref p] ∧ ((SqL K H p ys ∧ ∀ l, H l = none → Q (.ref l) (upd H l (.tup ys))) ∨ (SqT K H p ys ∧ Q (.ref p) H))) := by
  intro F H as st st' vs xs res σ W Q R rvs e post
  unfold fTuple at e
  split at e
  · rename_i v
    obtain ⟨x, rfl, rx⟩ := one_rv rvs
    cases q : asL st v with
    | none => rw [q] at e; cases e
    | some ws =>
      rw [q] at e; cases e
      obtain ⟨a, ys, rfl, h1, h2⟩ := asL_at R rx q
      exact ⟨a, ys, rfl, .inl ⟨h1, newT_at R h2 post⟩⟩
  · cases e

/-! ### list(a text) -/
end

/-! ### sorted -/
open PySem.W in
theorem alike_all {ds : List PyData} (h : allAlike ds = true) : AllAlike ds := by
  unfold allAlike at h
  rw [List.all_eq_true] at h
  intro d hd d' hd'
  have := h d hd
  rw [List.all_eq_true] at this
  exact this d' hd'
end Pv
/-! Pv, part I2: tuples sorted of which the first is empty. -/
namespace Pv
section
open PySem PySem.W PySem.Calls PySem.SeqAt PyProof.Rows
/-- tuples, the first of them without an item -/
def SortE (ds : List PyData) : Prop := ∃ r, ds = .tuple [] :: r ∧ ∀ d ∈ ds, ∃ xs, d = .tuple xs
def SortP (ds : List PyData) : Prop := PySem.W.Sortable ds ∨ SortE ds
variable {prog : Program} {w : PySem.World} {A : Around} {E : Value → Shared → Prop} {s : Shared}
theorem tupLt_call {Q : Value → Shared → Prop} {k l : Addr} {us ws : Array Value} {e r : Nat → Bool} (hk : s.heap.IsTuple k us) (hl : s.heap.IsTuple l ws)
    (he : ∀ j (h1 : j < us.size) (h2 : j < ws.size), EqAt A.in1 s us[j] ws[j] (e j)) (hr : ∀ j (h1 : j < us.size) (h2 : j < ws.size), e j = false → RcLt A.in1 s us[j] ws[j] (r j))
    (h : Q (.bool (firstLt e r (decide (us.size < ws.size)) (List.range (min us.size ws.size)))) s) : wpAny (model prog w) A (call (.builtin "tuple.__lt__") [.ref k, .ref l]) Q E s := by
  obtain ⟨⟨c1, d1, t1, z1⟩, o1, rfl, n1, rfl⟩ := id hk
  obtain ⟨⟨c2, d2, t2, z2⟩, o2, rfl, n2, rfl⟩ := id hl
  exact call_meets PySem.F.slot_tuple_lt ⟨_, o1, rfl⟩ PySem.F.entry_tuple_lt (PySem.F.args_tuple_lt_2 _ _) (tuple_ltAt k l us ws n1 n2 d1 d2 z1 z2 e r) ⟨o1, o2, he, hr, h⟩
theorem tupLt_one {xs ys : List PyData} {a b : Value} {as bs : List Addr} {Q : Bool → Shared → Prop} (ra : Reads s.heap a (.tuple xs) as) (rb : Reads s.heap b (.tuple ys) bs) (h : alike (.tuple xs) (.tuple ys) = true) (hu : A.units + min (PyData.tuple xs).depth (PyData.tuple ys).depth < cLine)
    (hq : Q (dataLt (.tuple xs) (.tuple ys)) s) : wpAny (model prog w) A (oneLt' true a b) Q E s := by
  have al : alikeAll xs ys = true := by simpa [alike] using h
  cases ra with
  | @tuple k o us n _ as1 g1 g2 g3 g4 =>
    cases rb with
    | @tuple l o' ws n' _ bs1 f1 f2 f3 f4 =>
      have z1 : us.size = xs.length := by simpa using ReadsAll.length _ _ _ g4
      have z2 : ws.size = ys.length := by simpa using ReadsAll.length _ _ _ f4
      rw [dataLt_tuple, ← firstLt_toks xs ys al, ← z1, ← z2] at hq
      rw [oneLt'_eq]
      rw [if_pos rfl]
      refine wpAny_bind (wpAny_cRoomFor (room_here hu) (wpAny_bind (wpAny_callSpecialIfBound?_slot (T := "tuple") ⟨_, g1, g2⟩ PySem.F.slot_tuple_lt (tupLt_call (e := pairEq xs ys) (r := fun j => dataLt (xs.getD j .none) (ys.getD j .none)) ⟨_, g1, g2, _, g3⟩ ⟨_, f1, f2, _, f3⟩ (fun j j1 j2 => ?_) (fun j j1 j2 hj => ?_) (wpAny_truthy_bool hq)))))
      · have q := eqAt_alikeAll xs ys A.in1 s us.toList ws.toList _ _ g4 f4 al (room_in hu) j (by simpa using j1) (by simpa using j2)
        rwa [Array.getElem_toList, Array.getElem_toList] at q
      · have q := rcLt_alikeAll xs ys A.in1 s us.toList ws.toList _ _ g4 f4 al (room_in hu) j (by simpa using j1) (by simpa using j2) hj
        rwa [Array.getElem_toList, Array.getElem_toList] at q
def neT : PyData → Bool
  | .tuple (_ :: _) => true
  | _ => false
theorem firsts_tup : ∀ (vs : List Value) (ds : List PyData) {Q : List (Option Value) → Shared → Prop}, EachIs (fun v d => ∃ as, Reads s.heap v d as) vs ds → (∀ d ∈ ds, ∃ xs, d = .tuple xs) → (∀ L : List (Option Value), L.map (·.isSome) = ds.map neT → Q L s) → wpAny (model prog w) A (vs.mapM firstOfTuple') Q E s
  | _, _, _, .nil, _, h => by rw [List.mapM_nil]; exact wpAny_pure (h [] rfl)
  | v :: vs, d :: ds, Q, .cons ⟨as, rd⟩ t, ht, h => by
    obtain ⟨xs, rfl⟩ := ht d (List.mem_cons_self ..)
    cases rd with
    | @tuple k o us n _ as1 g1 g2 g3 g4 =>
      have z1 : us.size = xs.length := by simpa using ReadsAll.length _ _ _ g4
      have sm : (us[0]?).isSome = neT (.tuple xs) := by
        cases xs with
        | nil => rw [List.length_nil] at z1; simp [neT, z1]
        | cons y ys => rw [List.length_cons] at z1; simp [neT, z1]
      rw [List.mapM_cons]
      refine wpAny_bind ?_
      rw [kas_first_eq]
      refine wpAny_bind (Looks.here (show Looks (model prog w) s.heap (typeOf (.ref k)) o.cls from (Looks.ld g1).andThen .now) ?_)
      rw [g2, if_neg (by simp)]
      exact wpAny_bind (listItems_at g1 g3 (wpAny_pure (wpAny_bind (firsts_tup vs ds (Q := fun L s' => wpAny (model prog w) A (pure (us[0]? :: L)) Q E s') t (fun d hd => ht d (List.mem_cons_of_mem _ hd)) fun L hL => wpAny_pure (h _ (by rw [List.map_cons, List.map_cons, sm, hL]))))))
theorem sortsE {vs : List Value} {ds : List PyData} (e : EachIs (fun v d => ∃ as, Reads s.heap v d as) vs ds) (hal : AllAlike ds) (hk : SortE ds) (hu : ∀ d ∈ ds, A.units + d.depth < cLine) : SortsAt prog w A s (dataKind s.heap ds) vs := by
  obtain ⟨r0, rfl, ht⟩ := hk
  refine ⟨fun v hv => ?_, oneType', ?_, fun h2 E Q hq => ?_⟩
  · obtain ⟨d, hd, as, rd⟩ := e.left v hv
    exact ⟨_, dataKind_some hal hd rd⟩
  · intro E x y a b Q ha hb hq
    obtain ⟨d1, as1, m1, q1, rfl⟩ := dataKind_inv ha
    obtain ⟨d2, as2, m2, q2, rfl⟩ := dataKind_inv hb
    have al := hal _ m1 _ m2
    have u1 := hu _ m1
    obtain ⟨xs, rfl⟩ := ht d1 m1
    obtain ⟨ys, rfl⟩ := ht d2 m2
    rw [keyLt'_oneType]
    exact tupLt_one q1 q2 al (by omega) hq
  · have hT : ∀ v ∈ vs, Looks (model prog w) s.heap (typeOf v) (.type "tuple") := fun v hv => by
      obtain ⟨d, hd, as, rd⟩ := e.left v hv
      obtain ⟨xs, rfl⟩ := ht d hd
      exact looks_reads rd
    rw [kat_kind_eq, List.mapM_toArray, map_eq_pure_bind]
    refine wpAny_bind (wpAny_bind (firsts_tup vs _ e ht fun L hL => wpAny_pure ?_))
    obtain ⟨L', rfl⟩ : ∃ L', L = none :: L' := by
      cases L with
      | nil => cases hL
      | cons x L =>
        rw [List.map_cons, List.map_cons] at hL
        have hx : x.isSome = false := (List.cons.inj hL).1
        cases x with
        | none => exact ⟨L, rfl⟩
        | some y => cases hx
    rw [if_neg (by simp), if_neg (by simp)]
    obtain ⟨v1, rest, rfl⟩ : ∃ v1 rest, vs = v1 :: rest := by
      cases vs with
      | nil => simp at h2
      | cons v1 rest => exact ⟨_, _, rfl⟩
    rw [oneTypeOnly'_eq, List.mapM_toArray, map_eq_pure_bind]
    refine wpAny_bind (wpAny_bind (wpAny_bind (kas_mapM (r := .type "tuple") _ (fun v hv Q' h' => (hT v hv).here h') (wpAny_pure ?_))))
    have all2 : ((List.map (fun _ => Value.type "tuple") (v1 :: rest)).toArray.all fun x => x == Value.type "tuple") = true := by
      rw [List.all_toArray, List.all_map, List.all_eq_true]
      intro _ _
      rfl
    have at0 : (List.map (fun _ => Value.type "tuple") (v1 :: rest)).toArray[0]? = some (Value.type "tuple") := by simp
    rw [at0]
    simp only [all2, if_true]
    exact wpAny_pure (wpAny_pure hq)
theorem sorted_any {β : Type} {R : Value → β → Prop} {enc : β → PyData} {vs : List Value} {bs : List β} {l : Addr} {Q : Value → Shared → Prop} (hl : s.heap.IsList l vs.toArray) (e : EachIs R vs bs) (er : EachIs (fun v b => ∃ as, Reads s.heap v (enc b) as) vs bs) (hal : AllAlike (bs.map enc)) (hk : SortP (bs.map enc)) (hL : bs.length ≤ sizeLine)
    (hu : ∀ b ∈ bs, A.units + 2 + (enc b).depth < cLine) (h : ∀ out, out.length = bs.length → EachIs R out (bs.mergeSort (dataLe false enc)) → Q (.ref (s.heap.objs.size + 1)) { s with heap := sortedAll s.heap vs (List.toArray out) }) : wpAny (model prog w) A (call (.builtin "sorted") [.ref l]) Q E s := by
  rcases hk with hk | hk
  · exact sorted_data hl e er hal hk hL hu h
  let H : Heap := sortingHeap (copyHeap s.heap vs) (s.heap.objs.size + 1) vs
  have er2 : EachIs (fun v b => ∃ as, Reads H v (enc b) as) vs bs := er.mono fun _ _ ⟨as, r⟩ => ⟨as, PyProof.Rows.Reads.keeps (fun _ _ => sorting_copy_old) r⟩
  have S := sortsE (prog := prog) (w := w) (A := A.in1.in1) (s := { s with heap := H }) (each_map (R := fun v d => ∃ as, Reads H v d as) enc er2) hal hk (bound_map hu)
  refine sorted_vals hl S (by rw [e.length]; exact hL) (h _ ?_ (sortVals_data false e er2 hal))
  rw [sortVals_length false rfl]
  exact e.length
theorem sortable_all {ds : List PyData} (h : sortable ds = true) : SortP ds := by
  unfold sortable at h
  rw [Bool.or_eq_true, Bool.or_eq_true] at h
  rcases h with (h | h) | h
  · rw [List.all_eq_true] at h
    refine .inl (.inl fun d hd => ?_)
    have := h d hd
    cases d with
    | tuple ts => cases ts with
      | nil => cases this
      | cons x r => exact ⟨x, r, rfl⟩
    | _ => cases this
  · rw [List.all_eq_true] at h
    refine .inl (.inr fun d hd => ?_)
    have := h d hd
    cases d with
    | none => cases this
    | tuple ts => cases this
    | _ => exact ⟨nofun, nofun⟩
  · rw [Bool.and_eq_true, List.all_eq_true] at h
    obtain ⟨h1, h2⟩ := h
    cases ds with
    | nil => cases h1
    | cons d r =>
      cases d with
      | tuple ts =>
        cases ts with
        | nil => exact .inr ⟨r, rfl, fun d hd => by
            have := h2 d hd
            cases d with
            | tuple ts => exact ⟨ts, rfl⟩
            | _ => cases this⟩
        | cons => cases h1
      | _ => cases h1
end
end Pv
/-! Pv, part J: sorted, isinstance, methods. -/
namespace Pv
open PySem PySem.Spec L2

/-! ### sorted -/
def rSortD (K : PySem.W.Frag) : List V → Hp → VK → Prop := fun xs H Q => ∃ (a : Addr) (bs : List (PyData × V)), xs = [.ref a] ∧ SqL K H a (bs.map (·.2)) ∧ (∀ b ∈ bs, Dp K H b.2 b.1) ∧ PySem.W.AllAlike (bs.map (·.1)) ∧ SortP (bs.map (·.1)) ∧ bs.length ≤ sizeLine ∧ (∀ b ∈ bs, b.1.depth ≤ 64) ∧
  ∀ p, H p = none → Q (.ref p) (upd H p (.lst ((bs.mergeSort (PySem.W.dataLe false (·.1))).map (·.2))))
theorem each_of {K : PySem.W.Frag} : ∀ {bs : List (PyData × V)} {us : List Value}, Vals (bs.map (·.2)) us → PySem.W.EachIs (fun u b => RelV b.2 u) us bs
  | [], us, h => by cases h; exact .nil
  | b :: bs, us, h => by cases h with | cons h t => exact .cons h (each_of (K := K) t)
theorem of_each : ∀ {bs : List (PyData × V)} {us : List Value}, PySem.W.EachIs (fun u b => RelV b.2 u) us bs → Vals (bs.map (·.2)) us
  | _, _, .nil => .nil
  | _, _, .cons h t => .cons h (of_each t)
theorem each_reads {X : Cx} {pins : List (Addr × PySem.Obj)} {σ : L2.St} {H : Hp} {s : Shared} (I : L2.Inv X pins σ H s) : ∀ {bs : List (PyData × V)} {us : List Value}, (∀ b ∈ bs, Dp X.K H b.2 b.1) → PySem.W.EachIs (fun u b => RelV b.2 u) us bs → PySem.W.EachIs (fun u b => ∃ as, Reads s.heap u b.1 as) us bs
  | _, _, _, .nil => .nil
  | b :: bs, u :: us, hd, .cons h t => .cons (Dp.reads I b.1 b.2 u (hd b (List.mem_cons_self ..)) h) (each_reads I (fun b' hb => hd b' (List.mem_cons_of_mem _ hb)) t)
theorem call_sortD {X : Cx} (hu : X.A.units + 100 < cLine) : CallR X (.builtin "sorted") (rSortD X.K) := by
  intro pins s σ H vs us Q I r h
  obtain ⟨a, bs, rfl, hs, hd, hal, hk, hL, hdep, q⟩ := h
  obtain ⟨its, rv, hl, _⟩ := I.list hs
  rw [Vals.ref1 r]
  have e := each_of (K := X.K) rv
  refine sorted_any (R := fun u (b : PyData × V) => RelV b.2 u) (bs := bs) (enc := (·.1)) hl.isList e (each_reads I hd e) hal hk hL (fun b hb => by have := hdep b hb; omega) fun out h1 h2 => ?_
  obtain ⟨ep, he'⟩ := PyProof.Rows.sortedAll_at s.heap its (List.toArray out)
  have hlen : ((bs.mergeSort (PySem.W.dataLe false (·.1))).map (·.2)).length ≤ sizeLine := by rw [List.length_map, (List.mergeSort_perm _ _).length_eq]; exact hL
  exact ⟨.ref _, upd H (s.heap.objs.size + 1) (.lst _), I.laid (t' := s.toks) (fun _ _ => PyProof.Rows.sortedAll_old) (Nat.le_succ _) ⟨hlen, out, ep, of_each h2, he'⟩, rfl, q _ (I.hok.fresh (Nat.le_succ _))⟩

section
variable {K : PySem.W.Frag} {ca : CA} {F : Addr → Prop} {H : Hp} {as : Nat → Addr} {nx : Nat}
theorem toDs_enc : ∀ {vs : List Val} {ds : List PyData}, toDs vs = some ds → ds = vs.map encV
  | [], ds, e => by cases e; rfl
  | v :: vs, ds, e => by
    simp only [toDs] at e
    cases q : toD v with
    | none => rw [q] at e; cases e
    | some d =>
      cases q2 : toDs vs with
      | none => rw [q, q2] at e; cases e
      | some ds' =>
        rw [q, q2] at e; cases e
        rw [List.map_cons, ← toDs_enc q2]
        unfold encV
        rw [q]; rfl
theorem depth_mem : ∀ {ds : List PyData} {d : PyData}, d ∈ ds → d.depth ≤ PyData.depthAll ds
  | [], _, h => by cases h
  | x :: xs, d, h => by
    rw [PyData.depthAll]
    rcases List.mem_cons.mp h with h | h
    · rw [h]; exact Nat.le_max_left _ _
    · exact Nat.le_trans (depth_mem h) (Nat.le_max_right _ _)
/-- the values with theirs of the layer -/
theorem zip_rv : ∀ {vs : List Val} {xs : List V}, RVs K ca F H as nx vs xs → ∃ ts : List (Val × V), ts.map (·.1) = vs ∧ ts.map (·.2) = xs ∧ ∀ t ∈ ts, RV K ca F H as nx t.1 t.2
  | [], xs, h => ⟨[], rfl, h.nil_inv.symm, fun t ht => by cases ht⟩
  | v :: vs, xs, h => by
    obtain ⟨x, r, rfl, h1, h2⟩ := h.inv
    obtain ⟨ts, e1, e2, e3⟩ := zip_rv h2
    exact ⟨(v, x) :: ts, by rw [List.map_cons, e1], by rw [List.map_cons, e2], fun t ht => by
      rcases List.mem_cons.mp ht with h | h
      · rw [h]; exact h1
      · exact e3 t h⟩
theorem rvs_of : ∀ (ts : List (Val × V)), (∀ t ∈ ts, RV K ca F H as nx t.1 t.2) → RVs K ca F H as nx (ts.map (·.1)) (ts.map (·.2))
  | [], _ => .nil
  | t :: ts, h => .cons (h t (List.mem_cons_self ..)) (rvs_of ts fun t' ht => h t' (List.mem_cons_of_mem _ ht))
theorem rv_enc {st : Store} {v : Val} {x : V} (h : RV K ca F H as st.nx v x) (e : (toD v).isSome = true) : Dp K H x (encV v) := by
  unfold encV
  cases q : toD v with
  | none => rw [q] at e; cases e
  | some d => exact toD_at _ _ _ h q
theorem toDs_mem : ∀ {vs : List Val} {ds : List PyData}, toDs vs = some ds → ∀ v ∈ vs, (toD v).isSome = true
  | [], _, _, v, h => by cases h
  | w :: vs, ds, e, v, h => by
    simp only [toDs] at e
    cases q : toD w with
    | none => rw [q] at e; cases e
    | some d =>
      cases q2 : toDs vs with
      | none => rw [q, q2] at e; cases e
      | some ds' =>
        rcases List.mem_cons.mp h with h | h
        · rw [h, q]; rfl
        · exact toDs_mem q2 v h
theorem at_fSorted {m : Bool} : BAt K ca (fSorted m) (rSortD K) := by
  intro F H as st st' vs xs res σ W Q R rvs e post
  unfold fSorted at e
  split at e
  · rename_i v
    obtain ⟨x, rfl, rx⟩ := one_rv rvs
    cases q : asL st v with
    | none => rw [q] at e; cases e
    | some ws =>
      rw [q] at e
      dsimp only at e
      cases q2 : toDs ws with
      | none => rw [q2] at e; cases e
      | some ds =>
        rw [q2] at e
        dsimp only at e
        obtain ⟨hc, e⟩ := if_inv e
        simp only [Bool.and_eq_true, decide_eq_true_eq] at hc
        obtain ⟨⟨⟨c1, c2⟩, c3⟩, c4⟩ := hc
        obtain ⟨a, ys, rfl, h1, h2⟩ := asL_at R rx q
        obtain ⟨ts, t1, t2, t3⟩ := zip_rv h2
        have ed := toDs_enc q2
        have m1 : (ts.map fun t => (encV t.1, t.2)).map (·.1) = ds := by
          rw [List.map_map, ed, ← t1, List.map_map]; rfl
        have m2 : (ts.map fun t => (encV t.1, t.2)).map (·.2) = ys := by
          rw [List.map_map, ← t2]; rfl
        have ms : (ts.map fun t => (encV t.1, t.2)).mergeSort (PySem.W.dataLe false (·.1)) = (ts.mergeSort (PySem.W.dataLe false fun t => encV t.1)).map fun t => (encV t.1, t.2) :=
          (List.map_mergeSort (f := fun t : Val × V => (encV t.1, t.2)) (r := PySem.W.dataLe false fun t : Val × V => encV t.1) (s := PySem.W.dataLe false fun b : PyData × V => b.1) (l := ts) (fun a _ b _ => rfl)).symm
        have mv : sortV ws = (ts.mergeSort (PySem.W.dataLe false fun t => encV t.1)).map (·.1) := by
          unfold sortV
          rw [← t1]
          exact (List.map_mergeSort (f := fun t : Val × V => t.1) (r := PySem.W.dataLe false fun t : Val × V => encV t.1) (s := PySem.W.dataLe false encV) (l := ts) (fun a _ b _ => rfl)).symm
        have r2 : RVs K ca F H as st.nx (sortV ws) (((ts.map fun t => (encV t.1, t.2)).mergeSort (PySem.W.dataLe false (·.1))).map (·.2)) := by
          rw [ms, mv, List.map_map]
          exact rvs_of _ fun t ht => t3 t ((List.mergeSort_perm _ _).mem_iff.mp ht)
        refine ⟨a, ts.map fun t => (encV t.1, t.2), rfl, by rw [m2]; exact h1, fun b hb => ?_, by rw [m1]; exact alike_all c1, by rw [m1]; exact sortable_all c2, ?_, fun b hb => ?_, (newL_at R r2 e post).2⟩
        · obtain ⟨t, ht, rfl⟩ := List.mem_map.mp hb
          exact rv_enc (t3 t ht) (toDs_mem q2 _ (by rw [← t1]; exact List.mem_map_of_mem ht))
        · have : (ts.map fun t => (encV t.1, t.2)).length = ws.length := by rw [List.length_map, ← t1, List.length_map]
          rw [this, sizeLine_eq]; exact c4
        · have hd : b.1 ∈ ds := by rw [← m1]; exact List.mem_map_of_mem hb
          have := PySem.SeqAt.depth_of_shaped c3
          have h2 := depth_mem hd
          rw [PyData.depth] at this
          omega
  · cases e
end

/-! ### isinstance -/
/-- what the classes answer -/
structure KC (K : PySem.W.Frag) (ca : CA) (cs : List Str) : Prop where
  cl : ∀ c ∈ cs, Cls K (ca c)
  cc : ∀ c ∈ cs, PySem.W.findIn K (.ref (ca c)) "__class__" = some (some (.builtin "object.__class__"))
  gt : cs ≠ [] → PySem.W.specialIn K (.builtin "object.__class__") "__get__" = some (some (.builtin "getset_descriptor.__get__"))
  tk : cs ≠ [] → PySem.W.takesIn K (.builtin "object.__class__") = some true
  mr : ∀ c ∈ cs, PySem.W.mroIn K (ca c) (.type "object") = some true
  bt : ∀ c ∈ cs, ∀ T ∈ bTys0, PySem.W.kitOne K (.type T) (.ref (ca c)) = some false
  tb : ∀ c ∈ cs, ∀ T ∈ bTys, PySem.W.kitOne K (.ref (ca c)) (.type T) = some false
  dd : ∀ d ∈ cs, ∀ c ∈ cs, PySem.W.kitOne K (.ref (ca d)) (.ref (ca c)) = some (d == c)
section
variable {K : PySem.W.Frag} {ca : CA} {F : Addr → Prop} {H : Hp} {as : Nat → Addr} {st : Store} {cs : List Str} {v w : Val} {x y : V} {b : Bool}
def tyIn (cs : List Str) : Sum String Str → Prop
  | .inl T => T ∈ bTys0
  | .inr d => d ∈ cs
def tyX (ca : CA) : Sum String Str → Value
  | .inl T => .type T
  | .inr d => .ref (ca d)
theorem ins_ty {a dx : Addr} {d : Str} {ff : List (Str × V)} (kc : KC K ca cs) (hd : d ∈ cs) (h : H a = some (.ins (ca d) dx ff)) : TyX K H (.ref a) (.ref (ca d)) :=
  have ne : cs ≠ [] := fun e => by rw [e] at hd; cases hd
  .base (.ins h (kc.cl d hd) (kc.cc d hd) (kc.gt ne) (kc.tk ne) (kc.mr d hd))
theorem tyOf_at (kc : KC K ca cs) (R : Rel K ca F H as st) (hv : RV K ca F H as st.nx v x) {t : Sum String Str} (e : tyOfV cs st v = some t) : TyX K H x (tyX ca t) ∧ tyIn cs t := by
  unfold tyOfV at e
  cases v with
  | non => cases e; simp only [RV] at hv; subst hv; exact ⟨.base .non, by show _ ∈ bTys0; decide⟩
  | bl b => cases e; simp only [RV] at hv; subst hv; exact ⟨.base (.bl b), by show _ ∈ bTys0; decide⟩
  | int b => cases e; simp only [RV] at hv; subst hv; exact ⟨.base (.int b), by show _ ∈ bTys0; decide⟩
  | str b => cases e; simp only [RV] at hv; subst hv; exact ⟨.base (.str b), by show _ ∈ bTys0; decide⟩
  | tup vs => cases e; simp only [RV] at hv; obtain ⟨a, xs, rfl, h1, h2⟩ := hv; exact ⟨.base (.tup h1), by show _ ∈ bTys0; decide⟩
  | lst vs => cases e; simp only [RV] at hv; obtain ⟨a, xs, rfl, _, h1, h2⟩ := hv; exact ⟨.base (.lst h1), by show _ ∈ bTys0; decide⟩
  | rol vs =>
    cases e; simp only [RV] at hv; obtain ⟨a, xs, rfl, h1, h2⟩ := hv
    refine ⟨?_, by show _ ∈ bTys0; decide⟩
    rcases h1 with ⟨_, h | ⟨o, h⟩⟩ | ⟨o, its, n, h, h', _⟩
    · exact .base (.lst h)
    · exact .base (.frz h)
    · exact .kList h h'
  | rot vs => cases e; simp only [RV] at hv; obtain ⟨a, xs, rfl, ⟨o, its, n, h, h', _⟩, h2⟩ := hv; exact ⟨.kTuple h h', by show _ ∈ bTys0; decide⟩
  | dct t ks vs =>
    cases t with
    | true => cases e
    | false =>
      cases e; simp only [RV] at hv
      obtain ⟨a, kk, xs, rfl, _, _, ⟨o, kvs, h, _⟩, _⟩ := hv
      exact ⟨.fDict h, by show _ ∈ bTys0; decide⟩
  | ins d fs vs =>
    dsimp only at e
    obtain ⟨hd, e⟩ := if_inv e
    cases e; simp only [RV] at hv
    obtain ⟨a, dx, ff, rfl, _, h, _⟩ := hv
    exact ⟨ins_ty kc hd h, hd⟩
  | ndc ks vs => cases e
  | ref n =>
    simp only [RV] at hv
    dsimp only at e
    rw [hv.2]
    cases q : st.get n with
    | none => rw [q] at e; cases e
    | some o =>
      rw [q] at e
      obtain ⟨_, _, h⟩ := R.live n o q
      cases o with
      | lst ws => cases e; obtain ⟨xs, h1, _⟩ := h; exact ⟨.base (.lst h1), by show _ ∈ bTys0; decide⟩
      | dct t ks vs =>
        cases e
        obtain ⟨kk, xs, _, h1, _⟩ := h
        cases t with
        | false => obtain ⟨kvs, h1, _⟩ := h1; exact ⟨.base (.dK h1), by show _ ∈ bTys0; decide⟩
        | true => obtain ⟨kvs, h1, _⟩ := h1; exact ⟨.base (.dT h1), by show _ ∈ bTys0; decide⟩
      | ins d fs vs =>
        dsimp only at e
        obtain ⟨hd, e⟩ := if_inv e
        cases e
        obtain ⟨dx, ff, h1, _⟩ := h
        exact ⟨ins_ty kc hd h1, hd⟩
      | ndc ks vs => cases e
  | cls c => cases e
  | ty n => cases e
theorem kit_bt (K : PySem.W.Frag) {T n : String} (hT : T ∈ bTys0) (hn : n ∈ bTys) : PySem.W.kitOne K (.type T) (.type n) = some (n == T || (T == "bool" && n == "int")) := by
  simp only [bTys0, bTys, List.mem_cons, List.not_mem_nil, or_false] at hT hn
  rcases hT with rfl | rfl | rfl | rfl | rfl | rfl | rfl <;> rcases hn with rfl | rfl | rfl | rfl | rfl | rfl <;> rfl
theorem isA_ty (kc : KC K ca cs) (R : Rel K ca F H as st) (hv : RV K ca F H as st.nx v x) {t : Sum String Str} (ht : tyOfV cs st v = some t) (hw : RV K ca F H as st.nx w y) (e : isA cs st v w = some b) : ∃ u, ClsV y u ∧ PySem.W.kitOne K (tyX ca t) u = some b := by
  obtain ⟨_, h2⟩ := tyOf_at kc R hv ht
  unfold isA at e
  rw [ht] at e
  cases t with
  | inl T =>
    cases w with
    | ty n =>
      dsimp only at e
      obtain ⟨hn, e⟩ := if_inv e
      simp only [RV] at hw; subst hw
      cases e
      exact ⟨_, .ty n, kit_bt K h2 hn⟩
    | cls c =>
      dsimp only at e
      obtain ⟨hn, e⟩ := if_inv e
      simp only [RV] at hw; subst hw
      cases e
      exact ⟨_, .own _, kc.bt c hn T h2⟩
    | _ => cases e
  | inr d =>
    cases w with
    | ty n =>
      dsimp only at e
      obtain ⟨hn, e⟩ := if_inv e
      simp only [RV] at hw; subst hw
      cases e
      exact ⟨_, .ty n, kc.tb d h2 n hn⟩
    | cls c =>
      dsimp only at e
      obtain ⟨hn, e⟩ := if_inv e
      simp only [RV] at hw; subst hw
      cases e
      exact ⟨_, .own _, kc.dd d h2 c hn⟩
    | _ => cases e
theorem isA_at (kc : KC K ca cs) (R : Rel K ca F H as st) (hv : RV K ca F H as st.nx v x) (hw : RV K ca F H as st.nx w y) (e : isA cs st v w = some b) : ∃ t u, ClsV y u ∧ TyX K H x t ∧ PySem.W.kitOne K t u = some b := by
  cases qt : tyOfV cs st v with
  | none => unfold isA at e; rw [qt] at e; cases e
  | some t =>
    obtain ⟨u, c1, c2⟩ := isA_ty kc R hv qt hw e
    exact ⟨_, u, c1, (tyOf_at kc R hv qt).1, c2⟩
theorem isAs_at (kc : KC K ca cs) (R : Rel K ca F H as st) (hv : RV K ca F H as st.nx v x) : ∀ {ts : List Val} {ys : List V} {bs : List Bool}, ts ≠ [] → RVs K ca F H as st.nx ts ys → isAs cs st v ts = some bs → ∃ t us, Paired ClsV ys us ∧ TyX K H x t ∧ PySem.W.kitAny K t us = some (bs.any id)
  | [], _, _, n, _, _ => absurd rfl n
  | w :: ts, ys, bs, _, h, e => by
    obtain ⟨y, r, rfl, h1, h2⟩ := h.inv
    simp only [isAs] at e
    cases q : isA cs st v w with
    | none => rw [q] at e; cases e
    | some b =>
      cases q2 : isAs cs st v ts with
      | none => rw [q, q2] at e; cases e
      | some bs' =>
        rw [q, q2] at e; cases e
        have key : ∃ t, TyX K H x t ∧ ∃ u, ClsV y u ∧ PySem.W.kitOne K t u = some b ∧ ∃ us, Paired ClsV r us ∧ PySem.W.kitAny K t us = some (bs'.any id) := by
          have all : ∀ (ts : List Val) (ys : List V) (bs : List Bool) (t : Sum String Str), tyOfV cs st v = some t → RVs K ca F H as st.nx ts ys → isAs cs st v ts = some bs → ∃ us, Paired ClsV ys us ∧ PySem.W.kitAny K (tyX ca t) us = some (bs.any id) := by
            intro ts
            induction ts with
            | nil => intro ys bs t _ h e; cases e; rw [h.nil_inv]; exact ⟨[], .nil, rfl⟩
            | cons w ts ih =>
              intro ys bs t ht h e
              obtain ⟨y, r, rfl, h1, h2⟩ := h.inv
              simp only [isAs] at e
              cases q : isA cs st v w with
              | none => rw [q] at e; cases e
              | some b =>
                cases q2 : isAs cs st v ts with
                | none => rw [q, q2] at e; cases e
                | some bs' =>
                  rw [q, q2] at e; cases e
                  obtain ⟨us, p1, p2⟩ := ih r bs' t ht h2 q2
                  obtain ⟨u, c1, c2⟩ := isA_ty kc R hv ht h1 q
                  refine ⟨u :: us, .cons c1 p1, ?_⟩
                  rw [PySem.W.kitAny, c2]
                  cases b with
                  | true => rfl
                  | false => exact p2
          cases qt : tyOfV cs st v with
          | none => unfold isA at q; rw [qt] at q; cases q
          | some t =>
            obtain ⟨u, c1, c2⟩ := isA_ty kc R hv qt h1 q
            obtain ⟨us, p1, p2⟩ := all ts r bs' t qt h2 q2
            exact ⟨_, (tyOf_at kc R hv qt).1, u, c1, c2, us, p1, p2⟩
        obtain ⟨t, ht, u, c1, c2, us, p1, p2⟩ := key
        refine ⟨t, u :: us, .cons c1 p1, ht, ?_⟩
        rw [PySem.W.kitAny, c2]
        cases b with
        | true => rfl
        | false => exact p2
def rIsiA (K : PySem.W.Frag) : List V → Hp → VK → Prop := fun xs H Q => rIsi K xs H Q ∨ rIsiT K xs H Q
theorem call_isiA {X : Cx} : CallR X (.builtin "isinstance") (rIsiA X.K) := call_isi.or call_isiT
theorem at_fIsi (kc : KC K ca cs) : BAt K ca (fIsi cs) (rIsiA K) := by
  intro F H as st st' vs xs res σ W Q R rvs e post
  unfold fIsi at e
  split at e
  · rename_i v ts
    obtain ⟨x, y, rfl, rx, ry⟩ := two_rv rvs
    cases q : isAs cs st v ts with
    | none => rw [q] at e; cases e
    | some bs =>
      rw [q] at e
      dsimp only at e
      obtain ⟨hne, e⟩ := if_inv e
      cases e
      simp only [RV] at ry
      obtain ⟨a, ys, rfl, h1, h2⟩ := ry
      obtain ⟨t, us, c1, c2, c3⟩ := isAs_at kc R rx (by intro z; rw [z] at hne; cases hne) h2 q
      exact .inr ⟨x, a, ys, t, us, _, rfl, h1, c1, c2, c3, post.here R (by simp only [RV])⟩
  · rename_i v t _
    obtain ⟨x, y, rfl, rx, ry⟩ := two_rv rvs
    cases q : isA cs st v t with
    | none => rw [q] at e; cases e
    | some b =>
      rw [q] at e; cases e
      obtain ⟨t', u, c1, c2, c3⟩ := isA_at kc R rx ry q
      exact .inl ⟨x, y, t', u, _, rfl, c1, c2, c3, post.here R (by simp only [RV])⟩
  · cases e
end
end Pv
/-! Pv, part K: methods, calls of defs, new instances, freezing. -/
namespace Pv
open PySem PySem.Spec L2

section
variable {X : Cx} {ca : CA} {W : WX} {e a b c o : Expr} {es rest : List Expr} {fa fb fc fo : EF} {g : LF} {pos p apos cpos : Pos} {f : Val → BF} {r : V → List V → Hp → VK → Prop} {id : String} {name : Str}
theorem asM_inv {st st' : Store} {v : Val} {α : Type} {k : M α} {res : Out α} (e : (match asM st v with | some _ => k st | none => none) = some (res, st')) : ∃ vs, asM st v = some vs ∧ k st = some (res, st') := by
  cases q : asM st v with
  | none => rw [q] at e; cases e
  | some vs => rw [q] at e; exact ⟨vs, rfl, e⟩
/-- xs.m(..) -/
theorem se_ml (hat : MAt X.K ca f r) (slot : Slot "list" name id) (hty : typeOf (.builtin id) = pure (.type "method_descriptor")) (hm : MtR X id r) (ho : SE ca X W o fo) (ha : SA ca X W (e :: es) g)
    (hbase : attributeBase o name X.env (eval o X.env) = eval o X.env := by rfl)
    (hfew : ((backTo cpos (starEach (e :: es) X.env)).all (fun x => !x.1) && (backToKw cpos (keywordEach [] X.env)).all (fun x => x.1.isSome)
      && decide ((e :: es).length + ([] : List Keyword).length + (if ([] : List Keyword).isEmpty then 0 else 1) < 30)) = true := by rfl)
    (hline : (apos.endLine == cpos.line) = true := by rfl) (hs : starEach (e :: es) X.env = (false, eval e X.env) :: starEach es X.env := by rfl) (hplain : (backTo cpos (starEach es X.env)).any (·.1) = false := by rfl) :
    SE ca X W (.Call (.Attribute o name apos) (e :: es) [] cpos) (eMl f fo g) :=
  (pe_bm F.plainAttrs_list slot hty hm ho ha hbase hfew hline hs hplain).weak fun σ H Q ⟨F, as, env, st, r, st', re, R, e, post⟩ =>
  step_bind re R e post fun v s1 e F1 H1 as1 x1 R1 x rx post => by
    obtain ⟨ws, q, e⟩ := asM_inv e
    obtain ⟨a, ys, rfl, h1, h2⟩ := asM_at R1 rx q
    refine ⟨.inl ⟨rfl, ys, .inl (.inl h1)⟩, ?_⟩
    exact step_bind (re.ext x1) R1 e post fun vs s2 e F2 H2 as2 x2 R2 xs rxs post => hat R2 (rx.ext x2) rxs e post
theorem se_bits (ho : SE ca X W o fo) (hbase : attributeBase o "bit_length" X.env (eval o X.env) = eval o X.env := by rfl) (hline : (apos.endLine == pos.line) = true := by rfl) : SE ca X W (.Call (.Attribute o "bit_length" apos) [] [] pos) (eBits fo) :=
  (pe_bits ho hbase hline).weak fun σ H Q ⟨F, as, env, st, r, st', re, R, e, post⟩ =>
  step_bind re R e post fun v s1 e F1 H1 as1 x1 R1 x rx post => by
    cases v with
    | int i =>
      unfold mBits at e
      cases e
      simp only [RV] at rx
      exact ⟨i, rx, post.here R1 (by simp only [RV])⟩
    | _ => cases e
end

section
variable {K : PySem.W.Frag} {ca : CA}
theorem ref_lst {F : Addr → Prop} {H : Hp} {as : Nat → Addr} {st : Store} (R : Rel K ca F H as st) {n : Nat} {vs : List Val} (q : st.get n = some (.lst vs)) : ∃ xs, H (as n) = some (.lst xs) ∧ RVs K ca F H as st.nx vs xs := (R.live n _ q).2.2
theorem put_lst {F : Addr → Prop} {H : Hp} {as : Nat → Addr} {st : Store} {σ : L2.St} {W : WX} {Q : VK} (R : Rel K ca F H as st) {n : Nat} {vs ws : List Val} {ys : List V} {v : Val} {x : V} (q : st.get n = some (.lst vs)) (h : RVs K ca F H as st.nx ws ys) (hv : RV K ca F H as st.nx v x)
    (post : Post K ca (RV K ca) σ Q W F H as st (st.put n (.lst ws)) (.ok v)) : Q x (upd H (as n) (.lst ys)) := by
  obtain ⟨x1, R1⟩ := put_at (o' := .lst ws) (u := .lst ys) R q fun x1 => ⟨ys, upd_same, (h : RVs K ca F H as st.nx _ _).mono x1.sub x1.keep x1.ags (Nat.le_refl _)⟩
  exact post.at x1 R1 (hv.ext x1)
theorem at_mAppend : MAt K ca mAppend rAppend := by
  intro F H as st st' v x vs xs res σ W Q R rv rvs e post
  unfold mAppend at e
  split at e
  · rename_i n w
    simp only [RV] at rv
    obtain ⟨y, rfl, ry⟩ := one_rv rvs
    split at e
    · rename_i ws q
      obtain ⟨hl, e⟩ := if_inv e
      cases e
      obtain ⟨ys, h1, h2⟩ := ref_lst R q
      exact ⟨as n, ys, y, rv.2, rfl, h1, by rw [sizeLine_eq, ← h2.length]; exact hl, put_lst R q (h2.append (.cons ry .nil)) (by simp only [RV]) post⟩
    · cases e
  · cases e
end

/-! ### calls of defs -/
/-- what a def promises -/
def spF (K : PySem.W.Frag) (ca : CA) (f : BF) : Sp := fun vs H Q E => ∃ F as args st r st', Rel K ca F H as st ∧ RVs K ca F H as st.nx args vs ∧ f args st = some (r, st') ∧
  ∀ F' H' as', Ext F H as st F' H' as' st' → Rel K ca F' H' as' st' → match r with
    | .ok a => ∀ x, RV K ca F' H' as' st'.nx a x → Q x H'
    | .err c v => ∀ cls d, RX K ca c v cls d F' H' as' st'.nx → E cls d H'
section
variable {X : Cx} {ca : CA} {W : WX} {e a b c o : Expr} {es rest : List Expr} {fa fb fc fo : EF} {g : LF} {pos p apos cpos : Pos} {f : BF} {x m : Str} {k : Nat} {ad : Addr} {fd : FuncData} {ps : List Str}
theorem spF_of {F : Addr → Prop} {H : Hp} {as : Nat → Addr} {st st' : Store} {σ : L2.St} {Q : VK} {args : List Val} {vs : List V} {r : Out Val} {K : PySem.W.Frag} (R : Rel K ca F H as st) (h : RVs K ca F H as st.nx args vs) (e : f args st = some (r, st')) (post : Post K ca (RV K ca) σ Q W F H as st st' r) :
    spF K ca f vs H Q (WE W σ) := ⟨F, as, args, st, r, st', R, h, e, fun F' H' as' x1 R1 => by
      have := post F' H' as' x1 R1
      cases r with
      | ok a => exact this
      | err c v => exact this⟩
theorem se_call (tk : L2.Takes X W) (F : FnOk X.prog X.w X.K X.mg X.base (L2.CX X.prog X.w) k ad fd ps (spF X.K ca f)) (hr : Room k X.A) (hg : Gl X x) (hm : X.mg x = some (.ref ad)) (hk : PySem.W.keepIn X.K (.ref ad) = true) (hb : Binds X.K fd ps [])
    (ha : SA ca X W (e :: es) g) (hdb : (x == ("__debug__" : Str)) = false := by decide) (he : starEach (e :: es) X.env = (false, eval e X.env) :: starEach es X.env := by rfl) (hpl : (backTo pos (starEach es X.env)).any (·.1) = false := by rfl) :
    SE ca X W (.Call (.Name x p) (e :: es) [] pos) (eCall f g) :=
  (pe_callS (E := WE W) F hr hg hm hk hb (passAt tk) ha hdb he hpl).weak fun σ H Q ⟨F, as, env, st, r, st', re, R, e, post⟩ =>
  step_bind re R e post fun vs s1 e F1 H1 as1 x1 R1 xs rxs post => spF_of R1 rxs e post
/-! ### new instances -/
theorem new_any {K : PySem.W.Frag} {F : Addr → Prop} {H : Hp} {as : Nat → Addr} {st : Store} (R : Rel K ca F H as st) {q : Addr} (ob : HO) (hp : H q = none) : Ext F H as st F (upd H q ob) as st ∧ Rel K ca F (upd H q ob) as st := by
  have nF : ¬ F q := fun f => R.dom q f hp
  have ne : ∀ n, n < st.nx → as n ≠ q := fun n h e => R.here n h (e ▸ hp)
  have k : Keep F H (upd H q ob) := Keep.new nF hp
  refine ⟨⟨fun a h => h, k, fun _ _ => rfl, Nat.le_refl _, fun n h e => ⟨e, upd_ne (ne n h), fun z => z⟩, fun n h1 h2 => absurd h2 (Nat.not_lt.mpr h1), grow_upd, fun a ha _ => ⟨upd_ne (fun z => ha (z ▸ hp)), fun z => z⟩⟩, fun a h => ?_, fun n h => ?_, R.inj, fun n ob e => ?_⟩
  · rw [upd_ne (fun z => nF (by rw [← z]; exact h))]; exact R.dom a h
  · rw [upd_ne (ne n h)]; exact R.here n h
  · obtain ⟨h1, h2, h3⟩ := R.live n ob e
    exact ⟨h1, h2, h3.mono (fun a h => h) k (fun _ _ => rfl) (Nat.le_refl _) (upd_ne (ne n h1))⟩
/-- something new that may change -/
theorem new_live {K : PySem.W.Frag} {F : Addr → Prop} {H : Hp} {as : Nat → Addr} {st : Store} (R : Rel K ca F H as st) {q : Addr} {u : HO} {ob : Obj} (hp : H q = none) (h : OV K ca F (upd H q u) (asN as st.nx q) (st.nx + 1) q ob) :
    Ext F H as st F (upd H q u) (asN as st.nx q) (st.alloc ob) ∧ Rel K ca F (upd H q u) (asN as st.nx q) (st.alloc ob) := by
  obtain ⟨x1, R1⟩ := new_res R u hp
  have nF : ¬ F q := fun f => R.dom q f hp
  have R2 : Rel K ca F (upd H q u) (asN as st.nx q) (st.reserve.add st.nx ob) := live_at R1 (Nat.lt_succ_self _) (by rw [asN_eq]; exact nF) (by rw [asN_eq]; exact h)
  exact ⟨⟨x1.sub, x1.keep, x1.ags, x1.nx, fun n hn q => ⟨by
    show (st.reserve.add st.nx ob).get n = none
    rw [Store.get_add, if_neg (Nat.ne_of_lt hn)]; exact q, (x1.gone n hn q).2⟩, x1.fresh, x1.grow, x1.frame⟩, R2⟩
/-! ### == by the class's own method -/
end
end Pv
/-! Pv, part L: freezing; statements, targets, loops. -/
namespace Pv
open PySem PySem.Spec L2

/-! ### freezing -/
section
variable {K : PySem.W.Frag} {ca : CA} {F F1 : Addr → Prop} {H H1 : Hp} {as as1 : Nat → Addr} {s s1 : Store} {n0 : Nat}
/-- the place of a number that is dead is written -/
theorem poke (x : Ext F1 H1 as1 s1 F H as s) (R : Rel K ca F H as s) (hn : ∀ n, n < s1.nx → s1.get n = none → n ≠ n0) (h0 : n0 < s.nx) (hg : s.get n0 = none) (nF : ¬ F (as n0)) (nt : ∀ xs, H (as n0) ≠ some (.tup xs)) (u : HO) :
    Ext F1 H1 as1 s1 F (upd H (as n0) u) as s ∧ Rel K ca F (upd H (as n0) u) as s ∧ Keep F H (upd H (as n0) u) := by
  have k : Keep F H (upd H (as n0) u) := Keep.put nF nt
  have ne : ∀ n, n < s.nx → n ≠ n0 → as n ≠ as n0 := fun n h d z => d (R.inj n n0 h h0 z)
  refine ⟨⟨x.sub, x.keep.trans k x.sub, x.ags, x.nx, fun n h e => ?_, x.fresh, fun a h => grow_upd a (x.grow a h), fun a ha hl => ?_⟩, ⟨fun a h => ?_, fun n h => ?_, R.inj, fun n o e => ?_⟩, k⟩
  · obtain ⟨g1, g2, g3⟩ := x.gone n h e
    refine ⟨g1, ?_, g3⟩
    rw [upd_ne (fun z => ne n (Nat.lt_of_lt_of_le h x.nx) (hn n h e) (by rw [x.ags n h]; exact z))]
    exact g2
  · obtain ⟨g1, g2⟩ := x.frame a ha hl
    refine ⟨?_, g2⟩
    rw [upd_ne (fun z => ?_)]
    · exact g1
    · by_cases h1 : n0 < s1.nx
      · exact hl n0 h1 (fun q => hn n0 h1 q rfl) (by rw [← x.ags n0 h1]; exact z.symm)
      · have := x.fresh n0 (Nat.not_lt.mp h1) h0
        rw [← z] at this
        exact ha this
  · rw [upd_ne (fun z => nF (by rw [← z]; exact h))]; exact R.dom a h
  · by_cases d : n = n0
    · rw [d, upd_same]; simp
    · rw [upd_ne (ne n h d)]; exact R.here n h
  · obtain ⟨h1, h2, h3⟩ := R.live n o e
    have d : n ≠ n0 := fun z => by rw [z, hg] at e; cases e
    exact ⟨h1, h2, h3.mono (fun a h => h) k (fun _ _ => rfl) (Nat.le_refl _) (upd_ne (ne n h1 d))⟩
end
/-- these are locked -/
def LockRel (ds : List Addr) (H H' : Hp) : Prop := (∀ a, a ∉ ds → H' a = H a) ∧ ∀ d ∈ ds, ∃ o u, H d = some u ∧ H' d = some (.frz o u)
theorem lock_all {X : Cx} {pins : List (Addr × PySem.Obj)} {σ : L2.St} {s : Shared} : ∀ (ds : List Addr) (H : Hp), L2.Inv X pins σ H s → ds.Nodup → (∀ d ∈ ds, ∃ u, H d = some u ∧ Mut (some u)) → ∃ H', L2.Inv X pins σ H' s ∧ LockRel ds H H'
  | [], H, I, _, _ => ⟨H, I, fun _ _ => rfl, fun d h => by cases h⟩
  | d :: ds, H, I, nd, hm => by
    obtain ⟨u, hd, mu⟩ := hm d (List.mem_cons_self ..)
    obtain ⟨od, I1⟩ := I.lock hd mu
    rw [List.nodup_cons] at nd
    obtain ⟨H', I2, l1, l2⟩ := lock_all ds _ I1 nd.2 fun d' h' => by
      obtain ⟨u', e', m'⟩ := hm d' (List.mem_cons_of_mem _ h')
      exact ⟨u', by rw [upd_ne (fun z => nd.1 (by rw [← z]; exact h'))]; exact e', m'⟩
    refine ⟨H', I2, fun a ha => ?_, fun a ha => ?_⟩
    · rw [l1 a (fun z => ha (List.mem_cons_of_mem _ z)), upd_ne (fun z => ha (by rw [z]; exact List.mem_cons_self ..))]
    · rcases List.mem_cons.mp ha with h | h
      · subst h
        exact ⟨od, u, hd, by rw [l1 a nd.1, upd_same]⟩
      · obtain ⟨o, u', e1, e2⟩ := l2 a h
        rw [upd_ne (fun z => nd.1 (by rw [← z]; exact h))] at e1
        exact ⟨o, u', e1, e2⟩
section
variable {K : PySem.W.Frag} {ca : CA}
/-- freezing: the numbers of the dicts that are locked are known ahead -/
def FzOk (K : PySem.W.Frag) (ca : CA) {α β : Type} (rv : (Addr → Prop) → Hp → (Nat → Addr) → Nat → α → β → Prop) (f : α → Store → Option (α × Store)) : Prop :=
  ∀ v st w st1, f v st = some (w, st1) → (∀ n o, st1.get n = some o → st.get n = some o) ∧ ∃ ns : List Nat, ns.Nodup ∧ (∀ n ∈ ns, (∃ t ks vs, st.get n = some (.dct t ks vs)) ∧ st1.get n = none) ∧
    ∀ F H as x, Rel K ca F H as st → rv F H as st.nx v x → ∀ H', LockRel (ns.map as) H H' → ∃ F', Ext F H as st F' H' as st1 ∧ Rel K ca F' H' as st1 ∧ rv F' H' as st1.nx w x
theorem lock_nil {H H' : Hp} (l : LockRel [] H H') : H' = H := funext fun a => l.1 a (by simp)
theorem as_mem {F : Addr → Prop} {H : Hp} {as : Nat → Addr} {st : Store} (R : Rel K ca F H as st) {n : Nat} {ns : List Nat} (hn : n < st.nx) (hs : ∀ m ∈ ns, m < st.nx) (h : as n ∈ ns.map as) : n ∈ ns := by
  obtain ⟨m, hm, e⟩ := List.mem_map.mp h
  rw [R.inj n m hn (hs m hm) e.symm]
  exact hm
/-- a lock in two parts -/
theorem lock_split {F : Addr → Prop} {H H' : Hp} {as : Nat → Addr} {st : Store} (R : Rel K ca F H as st) {ns ms : List Nat} (h1 : ∀ n ∈ ns, n < st.nx) (h2 : ∀ n ∈ ms, n < st.nx) (dj : ∀ n ∈ ns, n ∉ ms) (l : LockRel ((ns ++ ms).map as) H H') :
    ∃ H1, LockRel (ns.map as) H H1 ∧ LockRel (ms.map as) H1 H' := by
  refine ⟨fun a => if a ∈ ns.map as then H' a else H a, ⟨fun a ha => if_neg ha, fun d hd => ?_⟩, fun a ha => ?_, fun d hd => ?_⟩
  · obtain ⟨o, u, e1, e2⟩ := l.2 d (by rw [List.map_append]; exact List.mem_append_left _ hd)
    exact ⟨o, u, e1, by show (if d ∈ ns.map as then H' d else H d) = _; rw [if_pos hd]; exact e2⟩
  · show H' a = if a ∈ ns.map as then H' a else H a
    by_cases hn : a ∈ ns.map as
    · rw [if_pos hn]
    · rw [if_neg hn]
      exact l.1 a (by rw [List.map_append]; exact fun z => (List.mem_append.mp z).elim hn ha)
  · obtain ⟨o, u, e1, e2⟩ := l.2 d (by rw [List.map_append]; exact List.mem_append_right _ hd)
    refine ⟨o, u, ?_, e2⟩
    show (if d ∈ ns.map as then H' d else H d) = some u
    rw [if_neg (fun z => ?_)]
    · exact e1
    · obtain ⟨m, hm, rfl⟩ := List.mem_map.mp hd
      exact dj m (as_mem R (h2 m hm) h1 z) hm
theorem fzL_ok {f : Val → Store → Option (Val × Store)} (hf : FzOk K ca (RV K ca) f) : FzOk K ca (RVs K ca) (fzL f) := by
  intro vs
  induction vs with
  | nil =>
    intro st w st1 e
    cases e
    exact ⟨fun n o h => h, [], List.nodup_nil, fun n h => (by cases h), fun F H as x R h H' l => by rw [lock_nil l]; exact ⟨F, Ext.refl, R, h⟩⟩
  | cons v vs ih =>
    intro st w st1 e
    simp only [fzL] at e
    cases q : f v st with
    | none => rw [q] at e; cases e
    | some p =>
      obtain ⟨u, s2⟩ := p
      rw [q] at e
      dsimp only at e
      cases q2 : fzL f vs s2 with
      | none => rw [q2] at e; cases e
      | some p =>
        obtain ⟨us, s3⟩ := p
        rw [q2] at e; cases e
        obtain ⟨m1, ns1, nd1, d1, k1⟩ := hf _ _ _ _ q
        obtain ⟨m2, ns2, nd2, d2, k2⟩ := ih _ _ _ q2
        have dj : ∀ n ∈ ns1, n ∉ ns2 := fun n h1 h2 => by
          obtain ⟨t, ks, ws, e⟩ := (d2 n h2).1
          rw [(d1 n h1).2] at e; cases e
        refine ⟨fun n o h => m1 n o (m2 n o h), ns1 ++ ns2, List.nodup_append.mpr ⟨nd1, nd2, fun a ha b hb z => dj a ha (by rw [z]; exact hb)⟩, fun n h => ?_, fun F H as x R h H' l => ?_⟩
        · rcases List.mem_append.mp h with h | h
          · refine ⟨(d1 n h).1, ?_⟩
            cases z : st1.get n with
            | none => rfl
            | some o => have := m2 n o z; rw [(d1 n h).2] at this; cases this
          · obtain ⟨t, ks, ws, e⟩ := (d2 n h).1
            exact ⟨⟨t, ks, ws, m1 n _ e⟩, (d2 n h).2⟩
        · obtain ⟨y, r, rfl, h1, h2⟩ := h.inv
          have lt1 : ∀ n ∈ ns1, n < st.nx := fun n h => by
            obtain ⟨t, ks, ws, e⟩ := (d1 n h).1
            exact (R.live n _ e).1
          have lt2 : ∀ n ∈ ns2, n < st.nx := fun n h => by
            obtain ⟨t, ks, ws, e⟩ := (d2 n h).1
            exact (R.live n _ (m1 n _ e)).1
          obtain ⟨H1, l1, l2⟩ := lock_split R lt1 lt2 dj l
          obtain ⟨F1, x1, R1, r1⟩ := k1 F H as y R h1 H1 l1
          obtain ⟨F2, x2, R2, r2⟩ := k2 F1 H1 as r R1 (h2.ext x1) H' l2
          exact ⟨F2, x1.trans x2, R2, .cons (r1.ext x2) r2⟩
theorem drop_ok {F : Addr → Prop} {H : Hp} {as : Nat → Addr} {st : Store} (R : Rel K ca F H as st) (k : Nat) : Ext F H as st F H as (st.drop k) ∧ Rel K ca F H as (st.drop k) := by
  refine ⟨⟨fun _ h => h, Keep.refl, fun _ _ => rfl, Nat.le_refl _, fun n h e => ⟨?_, rfl, fun z => z⟩, fun n h1 h2 => absurd h2 (Nat.not_lt.mpr h1), fun _ h => h, fun _ _ _ => ⟨rfl, fun z => z⟩⟩, R.dom, R.here, R.inj, fun n o e => ?_⟩
  · rw [get_drop]
    by_cases hn : n = k
    · rw [if_pos hn]
    · rw [if_neg hn]; exact e
  · rw [get_drop] at e
    by_cases hn : n = k
    · rw [if_pos hn] at e; cases e
    · rw [if_neg hn] at e; exact R.live n o e
/-- a dead number's place is frozen -/
theorem in_fz {F : Addr → Prop} {H : Hp} {as : Nat → Addr} {st : Store} (R : Rel K ca F H as st) {k : Nat} (hk : k < st.nx) (hd : st.get k = none) : Rel K ca (fun a => F a ∨ a = as k) H as st := by
  refine ⟨fun a h => ?_, R.here, R.inj, fun n o e => ?_⟩
  · rcases h with h | h
    · exact R.dom a h
    · rw [h]; exact R.here k hk
  · obtain ⟨h1, h2, h3⟩ := R.live n o e
    have ne : as n ≠ as k := fun z => by
      have := R.inj n k h1 hk z
      rw [this, hd] at e; cases e
    exact ⟨h1, fun z => z.elim h2 ne, h3.mono (fun a h => .inl h) Keep.refl (fun _ _ => rfl) (Nat.le_refl _) rfl⟩
theorem undrop {F F1 : Addr → Prop} {H H1 : Hp} {as : Nat → Addr} {st s1 : Store} {k : Nat} {o : Obj} (q : st.get k = some o) (x1 : Ext F H as (st.drop k) F1 H1 as s1) : Ext F H as st F1 H1 as s1 :=
  ⟨x1.sub, x1.keep, x1.ags, x1.nx, fun m hm e => x1.gone m hm (by
    have hmk : m ≠ k := fun z => by rw [z, q] at e; cases e
    rw [get_drop, if_neg hmk]; exact e), x1.fresh, x1.grow, fun a ha hl => x1.frame a ha fun n hn hg => hl n hn fun z => hg (by rw [get_drop, z]; exact ite_self _)⟩
/-- one number is frozen, its items ahead -/
theorem fz_one {F F1 : Addr → Prop} {H H1 : Hp} {as : Nat → Addr} {st s1 : Store} {k : Nat} {o : Obj} (R : Rel K ca F H as st) (q : st.get k = some o) (d1 : s1.get k = none) (x1 : Ext F H as st F1 H1 as s1) (R1 : Rel K ca F1 H1 as s1) :
    Ext F H as st (fun a => F1 a ∨ a = as k) H1 as s1 ∧ Rel K ca (fun a => F1 a ∨ a = as k) H1 as s1 := by
  obtain ⟨hk, nF, _⟩ := R.live k o q
  have hk1 : k < s1.nx := Nat.lt_of_lt_of_le hk x1.nx
  refine ⟨⟨fun a h => .inl (x1.sub a h), x1.keep, fun _ _ => rfl, x1.nx, fun m hm e => ?_, x1.fresh, x1.grow, fun a ha hl => ?_⟩, in_fz R1 hk1 d1⟩
  case refine_2 =>
    obtain ⟨g1, g2⟩ := x1.frame a ha hl
    exact ⟨g1, fun z => z.elim g2 fun z => absurd z.symm (hl k hk (by rw [q]; simp))⟩
  have hmk : m ≠ k := fun z => by rw [z, q] at e; cases e
  obtain ⟨g1, g2, g3⟩ := x1.gone m hm e
  exact ⟨g1, g2, fun z => z.elim g3 fun z => absurd (R.inj m k hm hk z) hmk⟩
theorem fz_ok : ∀ n, FzOk K ca (RV K ca) (fz n)
  | 0 => fun v st w st1 e => by cases e
  | n + 1 => by
    intro v st w st1 e
    have same : (some (v, st) : Option (Val × Store)) = some (w, st1) → (∀ n o, st1.get n = some o → st.get n = some o) ∧ ∃ ns : List Nat, ns.Nodup ∧ (∀ n ∈ ns, (∃ t ks vs, st.get n = some (.dct t ks vs)) ∧ st1.get n = none) ∧
        ∀ F H as x, Rel K ca F H as st → RV K ca F H as st.nx v x → ∀ H', LockRel (ns.map as) H H' → ∃ F', Ext F H as st F' H' as st1 ∧ Rel K ca F' H' as st1 ∧ RV K ca F' H' as st1.nx w x := fun e => by
      cases e
      exact ⟨fun n o h => h, [], List.nodup_nil, fun n h => (by cases h), fun F H as x R h H' l => by rw [lock_nil l]; exact ⟨F, Ext.refl, R, h⟩⟩
    cases v with
    | ref k =>
      simp only [fz] at e
      cases q : st.get k with
      | none => rw [q] at e; cases e
      | some o =>
        rw [q] at e
        have md : ∀ n o, (st.drop k).get n = some o → st.get n = some o := fun n o h => by
          rw [get_drop] at h
          by_cases hn : n = k
          · rw [if_pos hn] at h; cases h
          · rw [if_neg hn] at h; exact h
        have dead : (st.drop k).get k = none := by rw [get_drop, if_pos rfl]
        cases o with
        | lst vs =>
          dsimp only at e
          cases q2 : fzL (fz n) vs (st.drop k) with
          | none => rw [q2] at e; cases e
          | some p =>
            obtain ⟨ws, s1⟩ := p
            rw [q2] at e; cases e
            obtain ⟨m1, ns, nd, d1, k1⟩ := fzL_ok (fz_ok n) _ _ _ _ q2
            refine ⟨fun n o h => md n o (m1 n o h), ns, nd, fun n h => ?_, fun F H as x R h H' l => ?_⟩
            · obtain ⟨⟨t, ks, us, e⟩, d⟩ := d1 n h
              exact ⟨⟨t, ks, us, md n _ e⟩, d⟩
            · simp only [RV] at h
              obtain ⟨hk, rfl⟩ := h
              obtain ⟨_, nF, xs, h1, h2⟩ := R.live k _ q
              obtain ⟨x0, R0⟩ := drop_ok R k
              obtain ⟨F1, x1, R1, r1⟩ := k1 F H as xs R0 h2 H' l
              have kd := (x1.gone k hk dead).1
              obtain ⟨z3, z4⟩ := fz_one R q kd (undrop q x1) R1
              refine ⟨_, z3, z4, ?_⟩
              simp only [RV]
              exact ⟨as k, xs, rfl, .inr rfl, by rw [(x1.gone k hk dead).2.1]; exact h1, r1.mono (fun a h => .inl h) Keep.refl (fun _ _ => rfl) (Nat.le_refl _)⟩
        | ins c fs vs =>
          dsimp only at e
          cases q2 : fzL (fz n) vs (st.drop k) with
          | none => rw [q2] at e; cases e
          | some p =>
            obtain ⟨ws, s1⟩ := p
            rw [q2] at e; cases e
            obtain ⟨m1, ns, nd, d1, k1⟩ := fzL_ok (fz_ok n) _ _ _ _ q2
            refine ⟨fun n o h => md n o (m1 n o h), ns, nd, fun n h => ?_, fun F H as x R h H' l => ?_⟩
            · obtain ⟨⟨t, ks, us, e⟩, d⟩ := d1 n h
              exact ⟨⟨t, ks, us, md n _ e⟩, d⟩
            · simp only [RV] at h
              obtain ⟨hk, rfl⟩ := h
              obtain ⟨_, nF, dx, ff, h1, h2, h3⟩ := R.live k _ q
              obtain ⟨x0, R0⟩ := drop_ok R k
              obtain ⟨F1, x1, R1, r1⟩ := k1 F H as _ R0 h3 H' l
              have kd := (x1.gone k hk dead).1
              obtain ⟨z3, z4⟩ := fz_one R q kd (undrop q x1) R1
              refine ⟨_, z3, z4, ?_⟩
              simp only [RV]
              exact ⟨as k, dx, ff, rfl, .inr rfl, by rw [(x1.gone k hk dead).2.1]; exact h1, h2, r1.mono (fun a h => .inl h) Keep.refl (fun _ _ => rfl) (Nat.le_refl _)⟩
        | ndc ks vs =>
          dsimp only at e
          cases q2 : fzL (fz n) vs (st.drop k) with
          | none => rw [q2] at e; cases e
          | some p =>
            obtain ⟨ws, s1⟩ := p
            rw [q2] at e; cases e
            obtain ⟨m1, ns, nd, d1, k1⟩ := fzL_ok (fz_ok n) _ _ _ _ q2
            refine ⟨fun n o h => md n o (m1 n o h), ns, nd, fun n h => ?_, fun F H as x R h H' l => ?_⟩
            · obtain ⟨⟨t, ks, us, e⟩, d⟩ := d1 n h
              exact ⟨⟨t, ks, us, md n _ e⟩, d⟩
            · simp only [RV] at h
              obtain ⟨hk, rfl⟩ := h
              obtain ⟨_, nF, kvs, h1, h2, h3, h4⟩ := R.live k _ q
              obtain ⟨x0, R0⟩ := drop_ok R k
              obtain ⟨F1, x1, R1, r1⟩ := k1 F H as _ R0 h4 H' l
              have kd := (x1.gone k hk dead).1
              obtain ⟨z3, z4⟩ := fz_one R q kd (undrop q x1) R1
              have h3' := RVs.ext (K := K) (ca := ca) (st := st) (st' := st1) h3 (undrop q x1)
              refine ⟨_, z3, z4, ?_⟩
              simp only [RV]
              exact ⟨as k, kvs, rfl, .inr rfl, by rw [(x1.gone k hk dead).2.1]; exact h1, h2, h3'.mono (fun a h => .inl h) Keep.refl (fun _ _ => rfl) (Nat.le_refl _), r1.mono (fun a h => .inl h) Keep.refl (fun _ _ => rfl) (Nat.le_refl _)⟩
        | dct t ks vs =>
          dsimp only at e
          cases q2 : fzL (fz n) vs (st.drop k) with
          | none => rw [q2] at e; cases e
          | some p =>
            obtain ⟨ws, s1⟩ := p
            rw [q2] at e; cases e
            obtain ⟨m1, ns, nd, d1, k1⟩ := fzL_ok (fz_ok n) _ _ _ _ q2
            have hkn : k ∉ ns := fun z => by
              obtain ⟨⟨t', ks', us', e'⟩, _⟩ := d1 k z
              rw [dead] at e'; cases e'
            have kd : st1.get k = none := by
              cases z : st1.get k with
              | none => rfl
              | some o => have := m1 k o z; rw [dead] at this; cases this
            refine ⟨fun n o h => md n o (m1 n o h), ns ++ [k], ?_, fun n h => ?_, fun F H as x R h H' l => ?_⟩
            · exact List.nodup_append.mpr ⟨nd, by simp, fun a ha b hb z => hkn (by have := List.mem_singleton.mp hb; rw [← this, ← z]; exact ha)⟩
            · rcases List.mem_append.mp h with h | h
              · obtain ⟨⟨t, ks, us, e⟩, d⟩ := d1 n h
                exact ⟨⟨t, ks, us, md n _ e⟩, d⟩
              · have := List.mem_singleton.mp h
                subst this
                exact ⟨⟨t, ks, vs, q⟩, kd⟩
            · simp only [RV] at h
              obtain ⟨hk, rfl⟩ := h
              obtain ⟨_, nF, kk, xs, h0, h1, h2⟩ := R.live k _ q
              obtain ⟨x0, R0⟩ := drop_ok R k
              have lt1 : ∀ n ∈ ns, n < st.nx := fun n h => by
                obtain ⟨⟨t, ks, ws, e⟩, _⟩ := d1 n h
                exact (R.live n _ (md n _ e)).1
              obtain ⟨H1, l1, l2⟩ := lock_split R lt1 (ms := [k]) (fun n h => by rw [List.mem_singleton.mp h]; exact hk) (fun n h z => hkn (by rw [← List.mem_singleton.mp z]; exact h)) l
              obtain ⟨F1, x1, R1, r1⟩ := k1 F H as xs R0 h2 H1 l1
              obtain ⟨o, u, e1, e2⟩ := l2.2 (as k) (by simp)
              have hH : H' = upd H1 (as k) (.frz o u) := by
                funext a
                by_cases ha : a = as k
                · rw [ha, upd_same]; exact e2
                · rw [upd_ne ha]; exact l2.1 a (by simpa using ha)
              have hk1 : k < st1.nx := Nat.lt_of_lt_of_le hk x1.nx
              have nF1 : ¬ F1 (as k) := fun z => nF ((x1.gone k hk dead).2.2 z)
              obtain ⟨p1, p2, p3⟩ := poke (undrop q x1) R1 (n0 := k) (fun n hn e z => by rw [z, q] at e; cases e) hk1 kd nF1 (fun zs z => (R.live k _ q).2.2.notTup zs (by rw [← (x1.gone k hk dead).2.1]; exact z)) (.frz o u)
              obtain ⟨z3, z4⟩ := fz_one R q kd p1 p2
              rw [hH]
              refine ⟨_, z3, z4, ?_⟩
              have hk0 : H1 (as k) = H (as k) := (x1.gone k hk dead).2.1
              have df : DF (upd H1 (as k) (.frz o u)) (as k) t kk xs := by
                cases t with
                | false =>
                  obtain ⟨kvs, g1, g2⟩ := h1
                  have : u = .dK kvs := by rw [hk0, g1] at e1; exact (Option.some.inj e1).symm
                  exact ⟨o, kvs, by rw [upd_same, this], g2⟩
                | true =>
                  obtain ⟨kvs, g1, g2⟩ := h1
                  have : u = .dT kvs := by rw [hk0, g1] at e1; exact (Option.some.inj e1).symm
                  exact ⟨o, kvs, by rw [upd_same, this], g2⟩
              simp only [RV]
              exact ⟨as k, kk, xs, rfl, .inr rfl, h0, df, r1.mono (fun a h => .inl h) p3 (fun _ _ => rfl) (Nat.le_refl _)⟩
    | _ => exact same e
end

section
variable {X : Cx} {ca : CA} {W : WX} {e a b c o : Expr} {fa fb fc : EF} {pos : Pos}
theorem dct_mut {K : PySem.W.Frag} {F : Addr → Prop} {H : Hp} {as : Nat → Addr} {st : Store} (R : Rel K ca F H as st) {n : Nat} {t : Bool} {ks vs : List Val} (q : st.get n = some (.dct t ks vs)) : ∃ u, H (as n) = some u ∧ Mut (some u) := by
  obtain ⟨_, _, kk, xs, _, h1, _⟩ := R.live n _ q
  cases t with
  | false => obtain ⟨kvs, h1, _⟩ := h1; exact ⟨_, h1, trivial⟩
  | true => obtain ⟨kvs, h1, _⟩ := h1; exact ⟨_, h1, trivial⟩
theorem nodup_as {K : PySem.W.Frag} {F : Addr → Prop} {H : Hp} {as : Nat → Addr} {st : Store} (R : Rel K ca F H as st) {ns : List Nat} (nd : ns.Nodup) (lt : ∀ n ∈ ns, n < st.nx) : (ns.map as).Nodup := by
  induction ns with
  | nil => exact List.nodup_nil
  | cons n ns ih =>
    rw [List.nodup_cons] at nd
    rw [List.map_cons, List.nodup_cons]
    refine ⟨fun h => nd.1 (as_mem R (lt n (List.mem_cons_self ..)) (fun m hm => lt m (List.mem_cons_of_mem _ hm)) h), ih nd.2 fun m hm => lt m (List.mem_cons_of_mem _ hm)⟩
/-- what is known behind a lock that the layer gives -/
def LkQ (ds : List Addr) (H : Hp) (P : Hp → Prop) : Prop := ds.Nodup ∧ (∀ d ∈ ds, ∃ u, H d = some u ∧ Mut (some u)) ∧ ∀ H', LockRel ds H H' → P H'
theorem se_frz (ha : SE ca X W a fa) : SE ca X W a (eFrz fa) := ⟨fun pins s σ H Q I ⟨F, as, env, st, r, st', re, R, e, post⟩ => by
  have e' : bd (fa env) (fun x => fun st => match fz 40 x st with
    | some (v, st1) => some (.ok v, st1)
    | none => none) st = some (r, st') := e
  unfold bd at e'
  have red : tE X.K ca W fa σ H fun v H1 => ∃ ds, LkQ ds H1 (Q v) := by
    cases q : fa env st with
    | none => rw [q] at e'; cases e'
    | some p =>
      obtain ⟨o, s1⟩ := p
      rw [q] at e'
      refine ⟨F, as, env, st, o, s1, re, R, q, fun F' H' as' x1 R1 => ?_⟩
      cases o with
      | err c v => cases e'; exact post F' H' as' x1 R1
      | ok v =>
        intro x rx
        dsimp only at e'
        cases q2 : fz 40 v s1 with
        | none => rw [q2] at e'; cases e'
        | some p =>
          obtain ⟨w, s2⟩ := p
          rw [q2] at e'; cases e'
          obtain ⟨m1, ns, nd, d1, k1⟩ := fz_ok (K := X.K) (ca := ca) 40 _ _ _ _ q2
          refine ⟨ns.map as', nodup_as R1 nd (fun n h => ?_), fun d hd => ?_, fun H2 l => ?_⟩
          · obtain ⟨t, ks, ws, e⟩ := (d1 n h).1
            exact (R1.live n _ e).1
          · obtain ⟨n, hn, rfl⟩ := List.mem_map.mp hd
            obtain ⟨t, ks, ws, e⟩ := (d1 n hn).1
            exact dct_mut R1 e
          · obtain ⟨F2, x2, R2, r2⟩ := k1 F' H' as' x R1 rx H2 l
            exact post.at (x1.trans x2) R2 r2
  refine thn (ha.run pins s σ H _ I red) fun v s1 ⟨x, H1, I1, r1, ds, nd, hm, k⟩ => ?_
  obtain ⟨H2, I2, l⟩ := lock_all ds H1 I1 nd hm
  exact ⟨x, H2, I2, r1, k H2 l⟩⟩
end

/-! ### statements -/
def PostS (K : PySem.W.Frag) (ca : CA) (D : Ends) (W : WX) (F : Addr → Prop) (H : Hp) (as : Nat → Addr) (st st' : Store) (r : OS) : Prop :=
  ∀ F' H' as', Ext F H as st F' H' as' st' → Rel K ca F' H' as' st' → match r with
    | .fl .nx env => ∀ σ, RE K ca F' H' as' st'.nx env σ → D.nx σ H'
    | .fl .br env => ∀ σ, RE K ca F' H' as' st'.nx env σ → D.bk σ H'
    | .fl .ct env => ∀ σ, RE K ca F' H' as' st'.nx env σ → D.ct σ H'
    | .fl (.rt v) _ => ∀ x, RV K ca F' H' as' st'.nx v x → D.rt x H'
    | .er c v env => ∀ σ, RE K ca F' H' as' st'.nx env σ → ∀ cls d, RX K ca c v cls d F' H' as' st'.nx → W cls d σ H'
def tS (K : PySem.W.Frag) (ca : CA) (W : WX) (f : SF) : TS := fun D σ H => ∃ F as env st r st', RE K ca F H as st.nx env σ ∧ Rel K ca F H as st ∧ f env st = some (r, st') ∧ PostS K ca D W F H as st st' r
section
variable {K : PySem.W.Frag} {ca : CA} {F F' : Addr → Prop} {H H' : Hp} {as as' : Nat → Addr} {st st1 st' : Store} {σ : L2.St} {env : Env} {W : WX} {D D' : Ends} {α β : Type} {rel : Rl α β}
theorem PostS.ext {r : OS} (h : PostS K ca D W F H as st st' r) (e : Ext F H as st F' H' as' st1) : PostS K ca D W F' H' as' st1 st' r := fun F2 H2 as2 e2 R2 => h F2 H2 as2 (e.trans e2) R2
theorem PostS.nx (h : PostS K ca D W F H as st st (.fl .nx env)) (R : Rel K ca F H as st) (re : RE K ca F H as st.nx env σ) : D.nx σ H := h F H as Ext.refl R σ re
theorem step_bs {fa : Env → M α} {g : α → MS} {Q1 : β → Hp → Prop} {r : OS} (re : RE K ca F H as st.nx env σ) (rl : Rel K ca F H as st)
    (e : bs env (fa env) g st = some (r, st')) (post : PostS K ca D W F H as st st' r)
    (k : ∀ a s1, g a s1 = some (r, st') → ∀ F1 H1 as1, Ext F H as st F1 H1 as1 s1 → Rel K ca F1 H1 as1 s1 → ∀ b, rel F1 H1 as1 s1.nx a b → PostS K ca D W F1 H1 as1 s1 st' r → Q1 b H1) :
    tG K ca rel W fa σ H Q1 := by
  unfold bs at e
  cases q : fa env st with
  | none => rw [q] at e; cases e
  | some p =>
    obtain ⟨o, s1⟩ := p
    rw [q] at e
    cases o with
    | ok a => exact ⟨F, as, env, st, .ok a, s1, re, rl, q, fun F1 H1 as1 x1 R1 b rb => k a s1 e F1 H1 as1 x1 R1 b rb (post.ext x1)⟩
    | err c v =>
      simp only [Option.some.injEq, Prod.mk.injEq] at e
      obtain ⟨rfl, rfl⟩ := e
      exact ⟨F, as, env, st, .err c v, s1, re, rl, q, fun F1 H1 as1 x1 R1 => post F1 H1 as1 x1 R1 σ (re.ext x1)⟩
theorem done_inv {f : Fl} {r : OS} (e : done f env st = some (r, st')) : r = .fl f env ∧ st' = st := by
  unfold done at e; cases e; exact ⟨rfl, rfl⟩
theorem badS_inv {p : OS × Store} (e : badS st = some p) : False := by unfold badS at e; cases e
theorem storeAt_inv {o : Option Env} {r : OS} (e : storeAt o st = some (r, st')) : ∃ env', o = some env' ∧ r = .fl .nx env' ∧ st' = st := by
  unfold storeAt at e
  cases o with
  | none => exact (badS_inv e).elim
  | some env' => obtain ⟨h1, h2⟩ := done_inv e; exact ⟨env', rfl, h1, h2⟩
end

/-! ### targets -/
mutual
def Tg.slots : Tg → List Nat
  | .nm i => [i]
  | .tup ts => slotsL ts
def slotsL : List Tg → List Nat
  | [] => []
  | t :: ts => t.slots ++ slotsL ts
end
def SameBut (is : List Nat) (σ σ' : L2.St) : Prop := ∀ ws : List Nat, (∀ i ∈ is, i ∈ ws) → wipe σ' ws = wipe σ ws
theorem SameBut.trans {is js : List Nat} {σ σ' σ'' : L2.St} (a : SameBut is σ σ') (b : SameBut js σ' σ'') : SameBut (is ++ js) σ σ'' := fun ws h =>
  (b ws fun i hi => h i (List.mem_append_right _ hi)).trans (a ws fun i hi => h i (List.mem_append_left _ hi))
theorem wipe_set {σ : L2.St} {i : Nat} {v : Option V} : ∀ {ws : List Nat}, i ∈ ws → wipe (σ.set i v) ws = wipe σ ws
  | [], h => by cases h
  | w :: ws, h => by
    show (wipe (σ.set i v) ws).set w none = (wipe σ ws).set w none
    by_cases hi : i ∈ ws
    · rw [wipe_set hi]
    · have hw : i = w := by
        rcases List.mem_cons.mp h with h | h
        · exact h
        · exact absurd h hi
      subst hw
      have comm : ∀ ws : List Nat, i ∉ ws → wipe (σ.set i v) ws = (wipe σ ws).set i v := by
        intro ws
        induction ws with
        | nil => intro _; rfl
        | cons u us ih =>
          intro hn
          show (wipe (σ.set i v) us).set u none = ((wipe σ us).set u none).set i v
          rw [ih (fun z => hn (List.mem_cons_of_mem _ z)), List.set_comm _ _ (fun z : i = u => hn (by rw [z]; exact List.mem_cons_self ..))]
      rw [comm ws hi, List.set_set]
def tgR (K : PySem.W.Frag) (ca : CA) (t : Tg) : TG := fun x σ H Q => ∃ F as st env v env', RE K ca F H as st.nx env σ ∧ Rel K ca F H as st ∧ RV K ca F H as st.nx v x ∧ bindT t v env = some env' ∧ ∀ σ', RE K ca F H as st.nx env' σ' → SameBut t.slots σ σ' → Q σ' H
def tgsR (K : PySem.W.Frag) (ca : CA) (ts : List Tg) : TGs := fun xs σ H Q => ∃ F as st env vs env', RE K ca F H as st.nx env σ ∧ Rel K ca F H as st ∧ RVs K ca F H as st.nx vs xs ∧ bindTs ts vs env = some env' ∧ ∀ σ', RE K ca F H as st.nx env' σ' → SameBut (slotsL ts) σ σ' → Q σ' H
theorem RE.set {K : PySem.W.Frag} {ca : CA} {F : Addr → Prop} {H : Hp} {as : Nat → Addr} {nx : Nat} {env : Env} {σ : L2.St} (re : RE K ca F H as nx env σ) {i : Nat} {v : Val} {x : V} (h : RV K ca F H as nx v x) : RE K ca F H as nx (env.set i (some v)) (σ.set i (some x)) := by
  refine ⟨by rw [List.length_set, List.length_set]; exact re.1, fun j w e => ?_⟩
  rw [List.getElem?_set] at e
  rw [List.getElem?_set]
  by_cases hj : i = j
  · rw [if_pos hj] at e ⊢
    rw [← re.1]
    by_cases hl : i < env.length
    · rw [if_pos hl] at e ⊢
      cases e
      exact ⟨x, rfl, h⟩
    · rw [if_neg hl] at e; cases e
  · rw [if_neg hj] at e ⊢
    exact re.2 j w e
theorem RE.wipe {K : PySem.W.Frag} {ca : CA} {F : Addr → Prop} {H : Hp} {as : Nat → Addr} {nx : Nat} {env : Env} {σ : L2.St} (re : RE K ca F H as nx env σ) : ∀ ws : List Nat, RE K ca F H as nx (wipeE env ws) (L2.wipe σ ws)
  | [] => re
  | w :: ws => by
    have ih := RE.wipe re ws
    refine ⟨by show ((wipeE env ws).set w none).length = ((L2.wipe σ ws).set w none).length; rw [List.length_set, List.length_set]; exact ih.1, fun j v e => ?_⟩
    have e : ((wipeE env ws).set w none)[j]? = some (some v) := e
    show ∃ x, ((L2.wipe σ ws).set w none)[j]? = some (some x) ∧ _
    rw [List.getElem?_set] at e
    rw [List.getElem?_set]
    by_cases hj : w = j
    · rw [if_pos hj] at e
      by_cases hl : w < (wipeE env ws).length
      · rw [if_pos hl] at e; cases e
      · rw [if_neg hl] at e; cases e
    · rw [if_neg hj] at e ⊢
      exact ih.2 j v e
section
variable {X : Cx} {ca : CA} {W : WX} {e a b c o tg : Expr} {es rest : List Expr} {fa fb fc : EF} {g : LF} {pos p : Pos} {t : Tg} {ts : List Tg}
theorem _root_.L2.PG.weak {t t' : TG} (h : PG X tg t) (w : ∀ x σ H Q, t' x σ H Q → t x σ H Q) : PG X tg t' := ⟨fun pins s σ H v u Q I r q => h.run pins s σ H v u Q I r (w v σ H Q q)⟩
theorem _root_.L2.PGs.weak {t t' : TGs} (h : PGs X es t) (w : ∀ x σ H Q, t' x σ H Q → t x σ H Q) : PGs X es t' := ⟨fun pins s σ H v u Q I r q => h.run pins s σ H v u Q I r (w v σ H Q q)⟩
theorem sg_name {i : Nat} {x : Str} (hN : X.N.Nodup) (hi : X.N[i]? = some x) (hx : Loc X.env.scope x) (hf : X.fn x = true ∨ X.env.scope.names.lookup x = some .local := by first | exact .inl rfl | exact .inr rfl | assumption) : PG X (.Name x pos) (tgR X.K ca (.nm i)) :=
  (pg_name hN hi hx hf).weak fun x σ H Q ⟨F, as, st, env, v, env', re, R, rv, e, k⟩ => by
    simp only [bindT] at e
    obtain ⟨hl, e⟩ := if_inv e
    cases e
    exact k _ (re.set rv) fun ws h => wipe_set (h i (List.mem_cons_self ..))
theorem sgs_nil : PGs X [] (tgsR X.K ca []) := pgs_nil.weak fun xs σ H Q ⟨F, as, st, env, vs, env', re, R, rv, e, k⟩ => by
  cases vs with
  | nil => cases e; exact ⟨rv.nil_inv, k _ re fun ws _ => rfl⟩
  | cons v vs => cases e
theorem sgs_cons (h1 : PG X e (tgR X.K ca t)) (h2 : PGs X es (tgsR X.K ca ts)) (hs : (assignEach (e :: es) X.env).map (·.2) = assign e X.env :: (assignEach es X.env).map (·.2) := by rfl) : PGs X (e :: es) (tgsR X.K ca (t :: ts)) :=
  (pgs_cons h1 h2 hs).weak fun xs σ H Q ⟨F, as, st, env, vs, env', re, R, rv, e, k⟩ => by
    cases vs with
    | nil => cases e
    | cons v vs =>
      obtain ⟨x, r, rfl, r1, r2⟩ := rv.inv
      simp only [bindTs] at e
      cases q : bindT t v env with
      | none => rw [q] at e; cases e
      | some env1 =>
        rw [q] at e
        refine ⟨x, r, rfl, F, as, st, env, v, env1, re, R, r1, q, fun σ1 re1 s1 => ⟨F, as, st, env1, vs, env', re1, R, r2, e, fun σ2 re2 s2 => k σ2 re2 ?_⟩⟩
        rw [slotsL]
        exact s1.trans s2
theorem bindTs_len : ∀ {ts : List Tg} {vs : List Val} {env env' : Env}, bindTs ts vs env = some env' → vs.length = ts.length
  | [], [], _, _, _ => rfl
  | [], _ :: _, _, _, e => by cases e
  | _ :: _, [], _, _, e => by cases e
  | t :: ts, v :: vs, env, env', e => by
    simp only [bindTs] at e
    cases q : bindT t v env with
    | none => rw [q] at e; cases e
    | some env1 => rw [q] at e; simp only [List.length_cons, bindTs_len e]
theorem sg_tup {k : Nat} (hc : X.calm = true) (h : PGs X es (tgsR X.K ca ts)) (hn : (assignEach es X.env).length = ts.length := by rfl) (hst : (assignEach es X.env).findIdx? (·.1) = none := by rfl) : PG X (.Tuple es k pos) (tgR X.K ca (.tup ts)) :=
  (pg_tup hc h hn hst).weak fun x σ H Q ⟨F, as, st, env, v, env', re, R, rv, e, kk⟩ => by
    cases v with
    | tup vs =>
      simp only [bindT] at e
      simp only [RV] at rv
      obtain ⟨a, xs, rfl, h1, h2⟩ := rv
      refine ⟨a, xs, rfl, h1.sq, by rw [← h2.length, bindTs_len e], F, as, st, env, vs, env', re, R, h2, e, fun σ' re' s' => kk σ' re' ?_⟩
      rw [Tg.slots]
      exact s'
    | rot vs =>
      simp only [bindT] at e
      simp only [RV] at rv
      obtain ⟨a, xs, rfl, h1, h2⟩ := rv
      refine ⟨a, xs, rfl, .inr h1, by rw [← h2.length, bindTs_len e], F, as, st, env, vs, env', re, R, h2, e, fun σ' re' s' => kk σ' re' ?_⟩
      rw [Tg.slots]
      exact s'
    | _ => simp only [bindT] at e; cases e
end

/-! ### small statements -/
abbrev SS (ca : CA) (X : Cx) (W : WX) (s : Stmt) (f : SF) : Prop := PS X s (tS X.K ca W f)
abbrev SB (ca : CA) (X : Cx) (W : WX) (s : List Stmt) (f : SF) : Prop := PSs X s (tS X.K ca W f)
section
variable {X : Cx} {ca : CA} {W : WX} {e a b c o tg iter : Expr} {s : Stmt} {ss body : List Stmt} {fa fb fc fe : EF} {ba : BT} {g : LF} {pos p : Pos} {t : Tg} {ts : List Tg} {f f1 f2 : SF}
theorem sb_nil : SB ca X W [] sNil := pss_nil.weak fun D σ H ⟨F, as, env, st, r, st', re, R, e, post⟩ => by
  obtain ⟨rfl, rfl⟩ := done_inv e
  exact post.nx R re
theorem sb_cons (h1 : SS ca X W s f1) (h2 : SB ca X W ss f2) : SB ca X W (s :: ss) (sCons f1 f2) := (pss_cons h1 h2).weak fun D σ H ⟨F, as, env, st, r, st', re, R, e, post⟩ => by
  unfold sCons at e
  cases q : f1 env st with
  | none => rw [q] at e; cases e
  | some p =>
    obtain ⟨o, s1⟩ := p
    rw [q] at e
    refine ⟨F, as, env, st, o, s1, re, R, q, fun F' H' as' x1 R1 => ?_⟩
    cases o with
    | er c v env1 => cases e; exact post F' H' as' x1 R1
    | fl fl env1 =>
      cases fl with
      | nx => exact fun σ' re' => ⟨F', as', env1, s1, r, st', re', R1, e, post.ext x1⟩
      | br => cases e; exact post F' H' as' x1 R1
      | ct => cases e; exact post F' H' as' x1 R1
      | rt v => cases e; exact post F' H' as' x1 R1
theorem ss_expr (he : SE ca X W e fe) (hs : swapsWith e none pos.line X.env = pure false := by rfl) : SS ca X W (.Expr e pos) (sExpr fe) := (ps_expr he hs).weak fun D σ H ⟨F, as, env, st, r, st', re, R, e, post⟩ =>
  step_bs re R e post fun v s1 e F1 H1 as1 x1 R1 x rx post => by
    obtain ⟨rfl, rfl⟩ := done_inv e
    exact post.nx R1 (re.ext x1)
theorem ss_ret (he : SE ca X W e fe) : SS ca X W (.Return (some e) pos) (sRet fe) := (ps_ret he).weak fun D σ H ⟨F, as, env, st, r, st', re, R, e, post⟩ =>
  step_bs re R e post fun v s1 e F1 H1 as1 x1 R1 x rx post => by
    obtain ⟨rfl, rfl⟩ := done_inv e
    exact post F1 H1 as1 Ext.refl R1 x rx
theorem ss_if (hc : ST ca X W c ba) (ha : SB ca X W ss f1) (hb : SB ca X W body f2) : SS ca X W (.If c ss body pos) (sIf ba f1 f2) := (ps_if hc ha hb).weak fun D σ H ⟨F, as, env, st, r, st', re, R, e, post⟩ =>
  step_bs re R e post fun v s1 e F1 H1 as1 x1 R1 x rx post => by
    have e1 : x = v := rx
    subst e1
    cases x with
    | true => exact ⟨F1, as1, env, s1, r, st', re.ext x1, R1, e, post⟩
    | false => exact ⟨F1, as1, env, s1, r, st', re.ext x1, R1, e, post⟩
theorem set_read {te : TE} (hte : ∀ σ H Q, tE X.K ca W fe σ H Q → te σ H Q) : ∀ D σ H, tS X.K ca W (sSet t fe) D σ H → tAsg te (tgR X.K ca t) D σ H := fun D σ H ⟨F, as, env, st, r, st', re, R, e, post⟩ =>
  hte _ _ _ (step_bs re R e post fun v s1 e F1 H1 as1 x1 R1 x rx post => by
    obtain ⟨env', e', rfl, rfl⟩ := storeAt_inv e
    exact ⟨F1, as1, _, env, v, env', re.ext x1, R1, rx, e', fun σ' re' _ => post.nx R1 re'⟩)
theorem ss_set (he : SE ca X W e fe) (hg : PG X tg (tgR X.K ca t)) (hs : swapsWithSole [tg] e pos.line X.env = pure false := by rfl) (hw : swappedStores [tg] e X.env = pure none := by rfl)
    (h1 : (assignEach [tg] X.env).map (·.2) = [assign tg X.env] := by rfl) : SS ca X W (.Assign [tg] e pos) (sSet t fe) := (ps_asg he hg hs hw h1).weak (set_read fun _ _ _ h => h)
theorem ss_sub (hu : X.A.units + 1 < cLine) (ha : SE ca X W a fa) (hb : SE ca X W b fb) (he : SE ca X W e fe) (hs : swapsWithSole [.Subscript a b p] e pos.line X.env = pure false := by rfl) (hw : swappedStores [.Subscript a b p] e X.env = pure none := by rfl)
    (h1 : (assignEach [.Subscript a b p] X.env).map (·.2) = [assign (.Subscript a b p) X.env] := by rfl)
    (hx : ∀ v, assign (.Subscript a b p) X.env v = (do
      let ov ← holding [v] (eval a X.env)
      let iv ← holding [v, ov] (eval b X.env)
      standAt p
      holding [v, ov, iv] (PySem.setItem ov iv v)
      release [v, ov, iv] []) := by intro _; rfl) : SS ca X W (.Assign [.Subscript a b p] e pos) (sSub fa fb fe) :=
  (ps_asg he (pg_sub ha hb (set_any hu) hx) hs hw h1).weak fun D σ H ⟨F, as, env, st, r, st', re, R, e, post⟩ =>
  step_bs re R e post fun v s1 e F1 H1 as1 x1 R1 x rx post => step_bs (re.ext x1) R1 e post fun o s2 e F2 H2 as2 x2 R2 xo ro post => step_bs ((re.ext x1).ext x2) R2 e post fun i s3 e F3 H3 as3 x3 R3 xi ri post => by
    unfold bs at e
    cases q : setItem o i v s3 with
    | none => rw [q] at e; cases e
    | some p =>
      obtain ⟨u, s4⟩ := p
      rw [q] at e
      have re3 := ((re.ext x1).ext x2).ext x3
      refine (setItem_at (q := fun H' => D.nx σ H') R3 (ro.ext x3) ri ((rx.ext x2).ext x3) q fun H4 x4 R4 => ?_).1
      have hu : u = .ok () := (setItem_at (q := fun _ => True) R3 (ro.ext x3) ri ((rx.ext x2).ext x3) q fun _ _ _ => trivial).2
      subst hu
      obtain ⟨rfl, rfl⟩ := done_inv e
      exact post F3 H4 as3 x4 R4 σ (re3.ext x4)
theorem ss_par2 {i j : Nat} {x y : Str} {px py pt : Pos} {kt k2 pt2} (hc : X.calm = true) (hN : X.N.Nodup) (hi : X.N[i]? = some x) (hj : X.N[j]? = some y) (hij : i ≠ j)
    (hx : X.env.scope.names.lookup x = some .local) (hy : X.env.scope.names.lookup y = some .local) (ha : SA ca X W [a, b] g)
    (hw : swappedStores [.Tuple [.Name x px, .Name y py] kt pt] (.Tuple [a, b] k2 pt2) X.env = pure (some [x, y]))
    (hs : swapsWithSole [.Tuple [.Name x px, .Name y py] kt pt] (.Tuple [a, b] k2 pt2) pos.line X.env = pure false := by rfl) :
    SS ca X W (.Assign [.Tuple [.Name x px, .Name y py] kt pt] (.Tuple [a, b] k2 pt2) pos) (sPar2 i j g) := (ps_par hc hN hi hj hij hx hy ha hw hs).weak fun D σ H ⟨F, as, env, st, r, st', re, R, e, post⟩ =>
  step_bs re R e post fun vs s1 e F1 H1 as1 x1 R1 xs rxs post => by
    split at e
    · rename_i v w
      split at e
      · obtain ⟨rfl, rfl⟩ := done_inv e
        obtain ⟨x, y, rfl, rx, ry⟩ := two_rv rxs
        exact ⟨x, y, rfl, post.nx R1 (((re.ext x1).set rx).set ry)⟩
      · exact (badS_inv e).elim
    · exact (badS_inv e).elim
end
end Pv
/-! Pv, part M: what a for walks over; for; while. -/
namespace Pv
open PySem PySem.Spec L2

/-- the iterator J walks over these values, whatever is done between -/
def Wk (K : PySem.W.Frag) (ca : CA) (F : Addr → Prop) (H : Hp) (as : Nat → Addr) (nx : Nat) (vs : List Val × Gd) (J : L2.It) : Prop :=
  ∀ st F2 H2 as2 st2, st.nx = nx → Ext F H as st F2 H2 as2 st2 → Rel K ca F2 H2 as2 st2 → vs.2 st2 = true → (∀ i, vs.1.length ≤ i → J.stop i H2) ∧
    ∀ (i : Nat) v, vs.1[i]? = some v → J.go i H2 ∧ ∀ x H3, J.yld i H2 x H3 → ∃ F3, Ext F2 H2 as2 st2 F3 H3 as2 st2 ∧ Rel K ca F3 H3 as2 st2 ∧ RV K ca F3 H3 as2 st2.nx v x
abbrev SI (ca : CA) (X : Cx) (W : WX) (tg e : Expr) (f : IF) : Prop := PI X tg e (tG X.K ca (Wk X.K ca) W f)
theorem _root_.L2.PI.weak {X : Cx} {tg e : Expr} {t t' : TI} (h : PI X tg e t) (w : ∀ σ H R, t' σ H R → t σ H R) : PI X tg e t' := ⟨fun pins s σ H R I q => h.run pins s σ H R I (w σ H R q)⟩
theorem _root_.L2.PI.or {X : Cx} {tg e : Expr} {t t' : TI} (h : PI X tg e t) (h' : PI X tg e t') : PI X tg e (fun σ H R => t σ H R ∨ t' σ H R) := ⟨fun pins s σ H R I q => q.elim (h.run pins s σ H R I) (h'.run pins s σ H R I)⟩

section
variable {K : PySem.W.Frag} {ca : CA} {F : Addr → Prop} {H : Hp} {as : Nat → Addr} {st : Store}
theorem RVs.ge : ∀ {vs : List Val} {xs : List V} {nx i : Nat} {x : V}, RVs K ca F H as nx vs xs → xs[i]? = some x → ∃ v, vs[i]? = some v ∧ RV K ca F H as nx v x
  | [], xs, nx, i, x, h, e => by rw [h.nil_inv] at e; simp at e
  | v :: vs, xs, nx, 0, x, h, e => by
    obtain ⟨y, r, rfl, h1, h2⟩ := h.inv
    simp at e; subst e; exact ⟨v, rfl, h1⟩
  | v :: vs, xs, nx, i + 1, x, h, e => by
    obtain ⟨y, r, rfl, h1, h2⟩ := h.inv
    simpa using RVs.ge h2 (by simpa using e)
theorem wk_tup {F : Addr → Prop} {H : Hp} {as : Nat → Addr} {nx : Nat} {a : Addr} {vs : List Val} {xs : List V} (hs : FT F H a xs) (h : RVs K ca F H as nx vs xs) : Wk K ca F H as nx (vs, gYes) (Itt K a) := by
  intro st F2 H2 as2 st2 hn x1 R1 gd
  subst hn
  have q : SqT K H2 a xs := (hs.mono x1.sub x1.keep).sq
  have h2 : RVs K ca F2 H2 as2 st2.nx vs xs := RVs.mono x1.sub x1.keep x1.ags x1.nx _ _ h
  refine ⟨fun i hi => ⟨xs, q, by rw [← h.length]; exact hi⟩, fun i v e => ?_⟩
  obtain ⟨y, e1, ry⟩ := h2.get e
  refine ⟨⟨xs, y, q, e1⟩, fun x H3 ⟨e2, k⟩ => ?_⟩
  subst e2
  have := k xs q
  rw [e1] at this; cases this
  exact ⟨F2, Ext.refl, R1, ry⟩
theorem wk_rot {F : Addr → Prop} {H : Hp} {as : Nat → Addr} {nx : Nat} {a : Addr} {vs : List Val} {xs : List V} (hs : FK K a xs) (h : RVs K ca F H as nx vs xs) : Wk K ca F H as nx (vs, gYes) (Itt K a) := by
  intro st F2 H2 as2 st2 hn x1 R1 gd
  subst hn
  have q : SqT K H2 a xs := .inr hs
  have h2 : RVs K ca F2 H2 as2 st2.nx vs xs := RVs.mono x1.sub x1.keep x1.ags x1.nx _ _ h
  refine ⟨fun i hi => ⟨xs, q, by rw [← h.length]; exact hi⟩, fun i v e => ?_⟩
  obtain ⟨y, e1, ry⟩ := h2.get e
  refine ⟨⟨xs, y, q, e1⟩, fun x H3 ⟨e2, k⟩ => ?_⟩
  subst e2
  have := k xs q
  rw [e1] at this; cases this
  exact ⟨F2, Ext.refl, R1, ry⟩
theorem wk_str {F : Addr → Prop} {H : Hp} {as : Nat → Addr} {nx : Nat} {s : Str} : Wk K ca F H as nx (s.cps.toList.map fun c => Val.str ⟨#[c]⟩, gYes) (Its s) := by
  intro st F2 H2 as2 st2 hn x1 R1 gd
  refine ⟨fun i hi => by rw [List.length_map, Array.length_toList] at hi; exact hi, fun i v e => ?_⟩
  dsimp only at e
  rw [List.getElem?_map, Array.getElem?_toList] at e
  cases q : s.cps[i]? with
  | none => rw [q] at e; cases e
  | some c =>
    rw [q] at e; cases e
    refine ⟨(Array.getElem?_eq_some_iff.mp q).1, fun x H3 ⟨e2, d, k, ex⟩ => ?_⟩
    subst e2
    rw [q] at k; cases k
    exact ⟨F2, Ext.refl, R1, by simp only [RV]; exact ex⟩
theorem rangeV_get : ∀ (n : Nat) (lo : Int) (i : Nat), (rangeV lo n)[i]? = if i < n then some (.int (lo + i)) else none
  | 0, lo, i => by simp [rangeV]
  | n + 1, lo, 0 => by simp [rangeV]
  | n + 1, lo, i + 1 => by
    rw [rangeV, List.getElem?_cons_succ, rangeV_get n (lo + 1) i]
    by_cases h : i < n
    · rw [if_pos h, if_pos (by omega)]
      congr 2
      omega
    · rw [if_neg h, if_neg (by omega)]
theorem rangeV_len : ∀ (n : Nat) (lo : Int), (rangeV lo n).length = n
  | 0, _ => rfl
  | n + 1, lo => by rw [rangeV, List.length_cons, rangeV_len n]
theorem wk_range {F : Addr → Prop} {H : Hp} {as : Nat → Addr} {nx : Nat} {lo : Int} {n : Nat} : Wk K ca F H as nx (rangeV lo n, gYes) (Itr lo n) := by
  intro st F2 H2 as2 st2 hn x1 R1 gd
  refine ⟨fun i hi => by rw [rangeV_len] at hi; exact hi, fun i v e => ?_⟩
  dsimp only at e
  rw [rangeV_get] at e
  obtain ⟨hi, e⟩ := if_inv e
  cases e
  refine ⟨hi, fun x H3 ⟨e2, ex⟩ => ?_⟩
  subst e2
  exact ⟨F2, Ext.refl, R1, by simp only [RV]; exact ex⟩
end

section
variable {X : Cx} {ca : CA} {W : WX} {e a b c tg : Expr} {fa fb : EF} {g : LF} {pos p apos tpos : Pos} {elts : List Expr} {kk : Nat}
/-- a list's items, known once: the layer's own uniqueness stands behind the walk -/
theorem wk_lst {K : PySem.W.Frag} {F : Addr → Prop} {H : Hp} {as : Nat → Addr} {nx : Nat} {a : Addr} {vs : List Val} {xs : List V} (hs : ∀ (F2 : Addr → Prop) (H2 : Hp), (∀ x, F x → F2 x) → Keep F H H2 → SqL K H2 a xs) (h : RVs K ca F H as nx vs xs) : Wk K ca F H as nx (vs, gYes) (Itl K a) := by
  intro st F2 H2 as2 st2 hn x1 R1 gd
  subst hn
  have q := hs F2 H2 x1.sub x1.keep
  have h2 : RVs K ca F2 H2 as2 st2.nx vs xs := RVs.mono x1.sub x1.keep x1.ags x1.nx _ _ h
  refine ⟨fun i hi => ⟨xs, q, by rw [← h.length]; exact hi⟩, fun i v e => ?_⟩
  obtain ⟨y, e1, ry⟩ := h2.get e
  refine ⟨⟨xs, y, q, e1⟩, fun x H3 ⟨e2, k⟩ => ?_⟩
  subst e2
  have := k xs q
  rw [e1] at this; cases this
  exact ⟨F2, Ext.refl, R1, ry⟩
/-- a list of the store, as long as it stays -/
theorem wk_ref {K : PySem.W.Frag} {F : Addr → Prop} {H : Hp} {as : Nat → Addr} {st0 : Store} {n : Nat} {vs : List Val} (hn0 : n < st0.nx) : Wk K ca F H as st0.nx (vs, gRef n vs) (Itl K (as n)) := by
  intro st F2 H2 as2 st2 hn x1 R1 gd
  have hlt : n < st.nx := by rw [hn]; exact hn0
  have q : st2.get n = some (.lst vs) := by
    have gd : gRef n vs st2 = true := gd
    unfold gRef at gd
    cases q : st2.get n with
    | none => rw [q] at gd; cases gd
    | some o =>
      rw [q] at gd
      cases o with
      | lst ws => rw [beqVs_eq ws vs gd]
      | dct t ks vs => cases gd
      | ins c fs vs => cases gd
      | ndc ks vs => cases gd
  obtain ⟨_, _, xs, h1, h2⟩ := R1.live n _ q
  rw [x1.ags n hlt] at h1
  refine ⟨fun i hi => ⟨xs, .inl (.inl h1), by rw [← h2.length]; exact hi⟩, fun i v e => ?_⟩
  obtain ⟨y, e1, ry⟩ := h2.get e
  refine ⟨⟨xs, y, .inl (.inl h1), e1⟩, fun x H3 ⟨e2, k⟩ => ?_⟩
  subst e2
  have := k xs (.inl (.inl h1))
  rw [e1] at this; cases this
  exact ⟨F2, Ext.refl, R1, ry⟩
theorem si_seq (he : SE ca X W e fa) : SI ca X W tg e (iSeq fa) :=
  ((pi_list (tg := tg) he).or ((pi_tup (tg := tg) he).or (pi_str (tg := tg) he))).weak fun σ H Q ⟨F, as, env, st, r, st', re, R, e, post⟩ => by
    have e' : bd (fa env) (fun x => rd fun st => itemsOf st x) st = some (r, st') := e
    -- which kind it is, is known ahead
    cases q : fa env st with
    | none => unfold bd at e'; rw [q] at e'; cases e'
    | some t =>
      obtain ⟨o, s1⟩ := t
      cases o with
      | err c v =>
        unfold bd at e'; rw [q] at e'; cases e'
        exact .inl ⟨F, as, env, st, .err c v, st', re, R, q, post⟩
      | ok v =>
        have kind : ∀ (Q1 : VK), (∀ F1 H1 as1, Ext F H as st F1 H1 as1 s1 → Rel X.K ca F1 H1 as1 s1 → ∀ x, RV X.K ca F1 H1 as1 s1.nx v x → Q1 x H1) → tE X.K ca W fa σ H Q1 := fun Q1 k => ⟨F, as, env, st, .ok v, s1, re, R, q, k⟩
        clear e
        unfold bd at e'; rw [q] at e'
        dsimp only at e'
        obtain ⟨vs, e2, rfl, rfl⟩ := rd_inv e'
        cases v with
        | lst ws =>
          cases e2
          refine .inl (kind _ fun F1 H1 as1 x1 R1 x rx => ?_)
          simp only [RV] at rx
          obtain ⟨a, xs, rfl, fa, h1, h2⟩ := rx
          exact ⟨a, rfl, ⟨xs, .inl (.inl h1)⟩, post F1 H1 as1 x1 R1 _ (wk_lst (fun F2 H2 s k => .inl (.inl (k.lst a xs fa h1))) h2)⟩
        | rol ws =>
          cases e2
          refine .inl (kind _ fun F1 H1 as1 x1 R1 x rx => ?_)
          simp only [RV] at rx
          obtain ⟨a, xs, rfl, h1, h2⟩ := rx
          exact ⟨a, rfl, ⟨xs, h1.sq⟩, post F1 H1 as1 x1 R1 _ (wk_lst (fun F2 H2 s k => (h1.mono s k).sq) h2)⟩
        | tup ws =>
          cases e2
          refine .inr (.inl (kind _ fun F1 H1 as1 x1 R1 x rx => ?_))
          simp only [RV] at rx
          obtain ⟨a, xs, rfl, h1, h2⟩ := rx
          exact ⟨a, rfl, ⟨xs, h1.sq⟩, post F1 H1 as1 x1 R1 _ (wk_tup h1 h2)⟩
        | rot ws =>
          cases e2
          refine .inr (.inl (kind _ fun F1 H1 as1 x1 R1 x rx => ?_))
          simp only [RV] at rx
          obtain ⟨a, xs, rfl, h1, h2⟩ := rx
          exact ⟨a, rfl, ⟨xs, .inr h1⟩, post F1 H1 as1 x1 R1 _ (wk_rot h1 h2)⟩
        | str s =>
          cases e2
          refine .inr (.inr (kind _ fun F1 H1 as1 x1 R1 x rx => ?_))
          simp only [RV] at rx
          exact ⟨s, rx, post F1 H1 as1 x1 R1 _ wk_str⟩
        | ref n =>
          unfold itemsOf at e2
          dsimp only at e2
          cases q3 : st'.get n with
          | none => rw [q3] at e2; cases e2
          | some o =>
            rw [q3] at e2
            cases o with
            | lst ws =>
              cases e2
              refine .inl (kind _ fun F1 H1 as1 x1 R1 x rx => ?_)
              simp only [RV] at rx
              obtain ⟨_, _, xs, h1, h2⟩ := R1.live n _ q3
              exact ⟨as1 n, rx.2, ⟨xs, .inl (.inl h1)⟩, post F1 H1 as1 x1 R1 _ (wk_ref rx.1)⟩
            | dct t ks vs => cases e2
            | ins c fs vs => cases e2
            | ndc ks vs => cases e2
        | _ => cases e2
theorem small_of {i : Int} (h : small62 i = true) : -(2 ^ 62) ≤ i ∧ i < 2 ^ 62 := by
  unfold small62 at h
  simpa using h
theorem si_range1 (hg : Gl X "range") (hm : X.mg "range" = none) (ha : SE ca X W a fa) (hs : starEach [a] X.env = [(false, eval a X.env)] := by rfl) : SI ca X W tg (.Call (.Name "range" p) [a] [] pos) (iRange1 fa) :=
  (pi_range1 hg hm (sa_cons ha sa_nil hs) hs).weak fun σ H Q ⟨F, as, env, st, r, st', re, R, e, post⟩ => by
    have e' : bd (aCons fa aNil env) (fun vs => lift (match vs with | [.int j] => if small62 j then some (rangeV 0 j.toNat, gYes) else none | _ => none)) st = some (r, st') := by
      rw [← e]
      show _ = bd (fa env) _ st
      unfold aCons aNil bd ret
      cases fa env st with
      | none => rfl
      | some t => obtain ⟨o, s⟩ := t; cases o with
        | err c v => rfl
        | ok v => cases v <;> rfl
    refine step_bind re R e' post fun vs s1 e F1 H1 as1 x1 R1 xs rxs post => ?_
    obtain ⟨ws, e2, rfl, rfl⟩ := lift_inv e
    split at e2
    · obtain ⟨x, rfl, rx⟩ := one_rv rxs
      obtain ⟨hk, e2⟩ := if_inv e2
      cases e2
      simp only [RV] at rx; subst rx
      obtain ⟨h1, h2⟩ := small_of hk
      exact ⟨_, rfl, h1, h2, post F1 H1 as1 Ext.refl R1 _ wk_range⟩
    · cases e2
theorem si_range2 (hg : Gl X "range") (hm : X.mg "range" = none) (ha : SE ca X W a fa) (hb : SE ca X W b fb) (hs : starEach [a, b] X.env = [(false, eval a X.env), (false, eval b X.env)] := by rfl) (hs2 : starEach [b] X.env = [(false, eval b X.env)] := by rfl) : SI ca X W tg (.Call (.Name "range" p) [a, b] [] pos) (iRange2 fa fb) :=
  (pi_range2 hg hm (sa_cons ha (sa_cons hb sa_nil hs2) (by rw [hs, hs2])) hs hs2).weak fun σ H Q ⟨F, as, env, st, r, st', re, R, e, post⟩ => by
    have e' : bd (aCons fa (aCons fb aNil) env) (fun vs => lift (match vs with | [.int i, .int j] => if small62 i && small62 j then some (rangeV i (j - i).toNat, gYes) else none | _ => none)) st = some (r, st') := by
      rw [← e]
      show _ = bd (fa env) (fun x => bd (fb env) fun y => _) st
      unfold aCons aNil bd ret
      cases fa env st with
      | none => rfl
      | some t => obtain ⟨o, s⟩ := t; cases o with
        | err c v => rfl
        | ok v =>
          dsimp only
          cases fb env s with
          | none => rfl
          | some t => obtain ⟨o, s⟩ := t; cases o with
            | err c v => rfl
            | ok w => cases v <;> cases w <;> rfl
    refine step_bind re R e' post fun vs s1 e F1 H1 as1 x1 R1 xs rxs post => ?_
    obtain ⟨ws, e2, rfl, rfl⟩ := lift_inv e
    split at e2
    · obtain ⟨x, y, rfl, rx, ry⟩ := two_rv rxs
      obtain ⟨hk, e2⟩ := if_inv e2
      rw [Bool.and_eq_true] at hk
      cases e2
      simp only [RV] at rx ry; subst rx; subst ry
      obtain ⟨h1, h2⟩ := small_of hk.1
      obtain ⟨h3, h4⟩ := small_of hk.2
      exact ⟨_, _, rfl, ⟨h1, h2, h3, h4⟩, post F1 H1 as1 Ext.refl R1 _ wk_range⟩
    · cases e2
end

/-! ### for -/
section
variable {X : Cx} {ca : CA} {W : WX} {c tg iter : Expr} {body : List Stmt} {ba : BT} {fi : IF} {pos : Pos} {t : Tg} {f : SF}
theorem loopF_nil {gd : Gd} {tg : Tg} {b : SF} {env : Env} {st st' : Store} {r : OS} (e : loopF gd tg b [] env st = some (r, st')) : gd st = true ∧ r = .fl .nx env ∧ st' = st := by
  unfold loopF at e
  obtain ⟨h, e⟩ := if_inv e
  cases e; exact ⟨h, rfl, rfl⟩
theorem loopF_gd {gd : Gd} {tg : Tg} {b : SF} {env : Env} {vs : List Val} {st : Store} {p : OS × Store} (e : loopF gd tg b vs env st = some p) : gd st = true := by
  cases vs with
  | nil => unfold loopF at e; exact (if_inv e).1
  | cons v vs => unfold loopF at e; exact (if_inv e).1
theorem loopF_cons {gd : Gd} {tg : Tg} {b : SF} {v : Val} {vs : List Val} {env : Env} {st st' : Store} {r : OS} (e : loopF gd tg b (v :: vs) env st = some (r, st')) : ∃ env1 o s1, bindT tg v env = some env1 ∧ b env1 st = some (o, s1) ∧
    match o with
    | .fl .nx e1 => loopF gd tg b vs e1 s1 = some (r, st')
    | .fl .ct e1 => loopF gd tg b vs e1 s1 = some (r, st')
    | .fl .br e1 => r = .fl .nx e1 ∧ st' = s1
    | .fl (.rt w) e1 => r = .fl (.rt w) e1 ∧ st' = s1
    | .er c w e1 => r = .er c w e1 ∧ st' = s1 := by
  unfold loopF at e
  obtain ⟨_, e⟩ := if_inv e
  cases q : bindT tg v env with
  | none => rw [q] at e; cases e
  | some env1 =>
    rw [q] at e
    dsimp only at e
    cases q2 : b env1 st with
    | none => rw [q2] at e; cases e
    | some p =>
      obtain ⟨o, s1⟩ := p
      rw [q2] at e
      refine ⟨env1, o, s1, rfl, q2, ?_⟩
      cases o with
      | er c w e1 => cases e; exact ⟨rfl, rfl⟩
      | fl fl e1 => cases fl <;> first | exact e | (cases e; exact ⟨rfl, rfl⟩)
theorem ss_for (hp : PassesOwn (model X.prog X.w) X.A X.env X.xe) (hc : X.calm = true) (hi : SI ca X W tg iter fi) (hg : PG X tg (tgR X.K ca t)) (hb : SB ca X W body f) (hs : ∀ x, foldedSetIterable iter X.env x = pure x := by intro _; rfl) :
    SS ca X W (.For tg iter body [] pos) (sFor t fi f) := (ps_for hp hc hi hg hb hs).weak fun D σ H ⟨F, as, env, st, r, st', re, R, e, post⟩ =>
  step_bs re R e post fun vg s1 e F1 H1 as1 x1 R1 J wk post => by
    obtain ⟨vs, gd⟩ := vg
    dsimp only at e
    let Iv : Nat → L2.St → Hp → Prop := fun i σ H => i ≤ vs.length ∧ ∃ F as s env, Ext F1 H1 as1 s1 F H as s ∧ Rel X.K ca F H as s ∧ RE X.K ca F H as s.nx env σ ∧ loopF gd t f (vs.drop i) env s = some (r, st') ∧ PostS X.K ca D W F H as s st' r
    refine ⟨fun i m σ H => m = vs.length - i ∧ Iv i σ H, ⟨vs.length, by simp, Nat.zero_le _, F1, as1, s1, env, Ext.refl, R1, re.ext x1, e, post⟩, ?_⟩
    rintro i m σ H ⟨rfl, hi, F2, as2, s2, env2, x2, R2, re2, e2, post2⟩
    obtain ⟨w1, w2⟩ := wk s1 F2 H as2 s2 rfl x2 R2 (loopF_gd e2)
    by_cases hl : i < vs.length
    · rw [List.drop_eq_getElem_cons hl] at e2
      obtain ⟨env3, o, s3, b1, b2, b3⟩ := loopF_cons e2
      obtain ⟨g1, g2⟩ := w2 i vs[i] (List.getElem?_eq_getElem hl)
      refine .inr ⟨g1, Iv (i + 1), fun σ' H' h => ⟨vs.length - (i + 1), by omega, rfl, h⟩, fun x H3 y => ?_⟩
      obtain ⟨F3, x3, R3, rv⟩ := g2 x H3 y
      refine ⟨F3, as2, s2, env2, _, env3, re2.ext x3, R3, rv, b1, fun σ' re' _ => ⟨F3, as2, env3, s2, o, s3, re', R3, b2, fun F4 H4 as4 x4 R4 => ?_⟩⟩
      cases o with
      | er c w e1 =>
        obtain ⟨rfl, rfl⟩ := b3
        exact (post2.ext x3) F4 H4 as4 x4 R4
      | fl fl e1 =>
        cases fl with
        | nx => exact fun σ'' re'' => ⟨hl, F4, as4, s3, e1, (x2.trans x3).trans x4, R4, re'', b3, (post2.ext x3).ext x4⟩
        | ct => exact fun σ'' re'' => ⟨hl, F4, as4, s3, e1, (x2.trans x3).trans x4, R4, re'', b3, (post2.ext x3).ext x4⟩
        | br =>
          obtain ⟨rfl, rfl⟩ := b3
          exact (post2.ext x3) F4 H4 as4 x4 R4
        | rt w =>
          obtain ⟨rfl, rfl⟩ := b3
          exact (post2.ext x3) F4 H4 as4 x4 R4
    · have hi' : i = vs.length := by omega
      subst hi'
      rw [List.drop_length] at e2
      obtain ⟨_, rfl, rfl⟩ := loopF_nil e2
      exact .inl ⟨w1 _ (Nat.le_refl _), post2.nx R2 re2⟩
/-! ### while -/
theorem ss_while (hp : PassesOwn (model X.prog X.w) X.A X.env X.xe) (hc : ST ca X W c ba) (hb : SB ca X W body f) : SS ca X W (.While c body [] pos) (sWhile ba f) := (ps_while hp hc hb).weak fun D σ H ⟨F, as, env, st, r, st', re, R, e, post⟩ => by
  refine ⟨fun m σ H => ∃ F as s env, Rel X.K ca F H as s ∧ RE X.K ca F H as s.nx env σ ∧ loopW ba f m env s = some (r, st') ∧ PostS X.K ca D W F H as s st' r, ⟨100000, F, as, st, env, R, re, e, post⟩, ?_⟩
  rintro m σ H ⟨F2, as2, s2, env2, R2, re2, e2, post2⟩
  cases m with
  | zero => exact (badS_inv e2).elim
  | succ m =>
    refine step_bs (fa := ba) re2 R2 (show bs env2 (ba env2) (fun b => match b with
      | true => fun st => match f env2 st with
        | some (.fl .nx e, s) => loopW ba f m e s
        | some (.fl .ct e, s) => loopW ba f m e s
        | some (.fl .br e, s) => some (.fl .nx e, s)
        | r => r
      | false => done .nx env2) s2 = some (r, st') from e2) post2 fun v s1 e F1 H1 as1 x1 R1 x rx post => ?_
    have e1 : x = v := rx
    subst e1
    cases x with
    | false =>
      obtain ⟨rfl, rfl⟩ := done_inv e
      exact post.nx R1 (re2.ext x1)
    | true =>
      refine ⟨fun σ' H' => ∃ F as s env, Rel X.K ca F H' as s ∧ RE X.K ca F H' as s.nx env σ' ∧ loopW ba f m env s = some (r, st') ∧ PostS X.K ca D W F H' as s st' r, fun σ' H' h => ⟨m, Nat.lt_succ_self _, h⟩, ?_⟩
      dsimp only at e
      cases q2 : f env2 s1 with
      | none => rw [q2] at e; cases e
      | some p =>
        obtain ⟨o, s3⟩ := p
        rw [q2] at e
        refine ⟨F1, as1, env2, s1, o, s3, re2.ext x1, R1, q2, fun F4 H4 as4 x4 R4 => ?_⟩
        cases o with
        | er c w e1 => cases e; exact post F4 H4 as4 x4 R4
        | fl fl e1 =>
          cases fl with
          | nx => exact fun σ'' re'' => ⟨F4, as4, s3, e1, R4, re'', e, post.ext x4⟩
          | ct => exact fun σ'' re'' => ⟨F4, as4, s3, e1, R4, re'', e, post.ext x4⟩
          | br => cases e; exact post F4 H4 as4 x4 R4
          | rt w => cases e; exact post F4 H4 as4 x4 R4
end
end Pv
/-! Pv, part N: comprehensions. -/
namespace Pv
open PySem PySem.Spec L2

theorem wipe_wipe (σ : L2.St) : ∀ ws : List Nat, L2.wipe (L2.wipe σ ws) ws = L2.wipe σ ws := by
  have get : ∀ (ws : List Nat) (σ : L2.St) (j : Nat), (L2.wipe σ ws)[j]? = if j ∈ ws then (σ[j]?).map (fun _ => none) else σ[j]? := by
    intro ws
    induction ws with
    | nil => intro σ j; simp [L2.wipe]
    | cons w ws ih =>
      intro σ j
      show ((L2.wipe σ ws).set w none)[j]? = _
      rw [List.getElem?_set, ih, wipe_length]
      by_cases hj : w = j
      · subst hj
        rw [if_pos rfl, if_pos (List.mem_cons_self ..)]
        by_cases hl : w < σ.length
        · rw [if_pos hl, List.getElem?_eq_getElem hl]; rfl
        · rw [if_neg hl, List.getElem?_eq_none (by omega)]; rfl
      · rw [if_neg hj]
        by_cases hm : j ∈ ws
        · rw [if_pos hm, if_pos (List.mem_cons_of_mem _ hm)]
        · rw [if_neg hm, if_neg (fun z => (List.mem_cons.mp z).elim (fun z => hj z.symm) hm)]
  intro ws
  apply List.ext_getElem?
  intro j
  rw [get, get]
  by_cases hj : j ∈ ws
  · simp only [if_pos hj]
    cases σ[j]? <;> rfl
  · simp only [if_neg hj]

/-- no error: in a comprehension's block -/
abbrev W0 : WX := fun _ _ _ _ => False
section
variable {K : PySem.W.Frag} {ca : CA} {F F1 : Addr → Prop} {H H1 : Hp} {as as1 : Nat → Addr} {s s1 : Store} {n0 : Nat}
/-- .. is frozen -/
theorem ext_in (x : Ext F1 H1 as1 s1 F H as s) (R : Rel K ca F H as s) (hn : s1.nx ≤ n0) (h0 : n0 < s.nx) : Ext F1 H1 as1 s1 (fun a => F a ∨ a = as n0) H as s := by
  refine ⟨fun a h => .inl (x.sub a h), x.keep, x.ags, x.nx, fun n h e => ?_, x.fresh, x.grow, fun a ha hl => ⟨(x.frame a ha hl).1, fun z => z.elim (x.frame a ha hl).2 fun z => absurd (x.fresh n0 hn h0) (z ▸ ha)⟩⟩
  obtain ⟨g1, g2, g3⟩ := x.gone n h e
  refine ⟨g1, g2, fun z => z.elim g3 fun z => ?_⟩
  have := R.inj n n0 (Nat.lt_of_lt_of_le h x.nx) h0 (by rw [x.ags n h]; exact z)
  omega
theorem ext_add {o : Obj} (x : Ext F1 H1 as1 s1 F H as s) (hn : ∀ n, n < s1.nx → s1.get n = none → n ≠ n0) : Ext F1 H1 as1 s1 F H as (s.add n0 o) := by
  refine ⟨x.sub, x.keep, x.ags, x.nx, fun n h e => ?_, x.fresh, x.grow, x.frame⟩
  obtain ⟨g1, g2, g3⟩ := x.gone n h e
  exact ⟨by rw [Store.get_add, if_neg (hn n h e)]; exact g1, g2, g3⟩
theorem lt_ne {n0 : Nat} (h : s1.nx ≤ n0) : ∀ n, n < s1.nx → s1.get n = none → n ≠ n0 := fun n h1 _ => by omega
theorem add_ne {o : Obj} : ∀ n, n < (s.add n0 o).nx → (s.add n0 o).get n = none → n ≠ n0 := fun n _ e z => by rw [Store.get_add, if_pos z] at e; cases e
theorem ext_wk {o : Obj} (x : Ext F1 H1 as1 s1 F H as s) : Ext F1 H1 as1 (s1.add n0 o) F H as s := by
  refine ⟨x.sub, x.keep, x.ags, x.nx, fun n h e => ?_, x.fresh, x.grow, fun a ha hl => x.frame a ha fun n hn hg => hl n hn ?_⟩
  case refine_2 =>
    rw [Store.get_add]
    by_cases z : n = n0
    · rw [if_pos z]; simp
    · rw [if_neg z]; exact hg
  have := add_ne n h e
  rw [Store.get_add, if_neg this] at e
  exact x.gone n h e
end

def byB : Bool → Prop → Prop → Prop
  | true, p, _ => p
  | false, _, q => q
/-! ### the loop's steps -/
theorem noErr_inv {α : Type} {x : M α} {st st' : Store} {r : Out α} (e : noErr x st = some (r, st')) : ∃ a, r = .ok a ∧ x st = some (.ok a, st') := by
  unfold noErr at e
  split at e
  · rename_i a s q
    cases e
    exact ⟨_, rfl, q⟩
  · cases e
theorem bd_noErr {α β : Type} {x : M α} {g : α → M β} {st st' : Store} {r : Out β} (e : bd (noErr x) g st = some (r, st')) : ∃ a s1, x st = some (.ok a, s1) ∧ g a s1 = some (r, st') := by
  unfold bd at e
  cases q : noErr x st with
  | none => rw [q] at e; cases e
  | some p =>
    obtain ⟨o, s1⟩ := p
    obtain ⟨a, rfl, h⟩ := noErr_inv q
    rw [q] at e
    exact ⟨a, s1, h, e⟩
theorem loopC_nil {gd : Gd} {tg : Tg} {cond : BT} {elt : EF} {env : Env} {acc : List Val} {st st' : Store} {r : Out (List Val)} (e : loopC gd tg cond elt env [] acc st = some (r, st')) : r = .ok acc ∧ st' = st := by
  unfold loopC at e
  obtain ⟨h, e⟩ := if_inv e
  cases e; exact ⟨rfl, rfl⟩
theorem loopC_gd {gd : Gd} {tg : Tg} {cond : BT} {elt : EF} {env : Env} {vs acc : List Val} {st : Store} {p : Out (List Val) × Store} (e : loopC gd tg cond elt env vs acc st = some p) : gd st = true := by
  cases vs <;> (unfold loopC at e; exact (if_inv e).1)
theorem loopC_cons {gd : Gd} {tg : Tg} {cond : BT} {elt : EF} {env : Env} {v : Val} {vs acc : List Val} {st st' : Store} {r : Out (List Val)} (e : loopC gd tg cond elt env (v :: vs) acc st = some (r, st')) : ∃ env1 b s1, bindT tg v env = some env1 ∧ cond env1 st = some (.ok b, s1) ∧
    byB b (∃ x s2, elt env1 s1 = some (.ok x, s2) ∧ acc.length < 16777216 ∧ loopC gd tg cond elt env vs (acc ++ [x]) s2 = some (r, st'))
      (loopC gd tg cond elt env vs acc s1 = some (r, st')) := by
  unfold loopC at e
  obtain ⟨_, e⟩ := if_inv e
  cases q : bindT tg v env with
  | none => rw [q] at e; cases e
  | some env1 =>
    rw [q] at e
    dsimp only at e
    obtain ⟨b, s1, h1, e⟩ := bd_noErr e
    refine ⟨env1, b, s1, rfl, h1, ?_⟩
    cases b with
    | false => exact e
    | true =>
      obtain ⟨x, s2, h2, e⟩ := bd_noErr e
      obtain ⟨hl, e⟩ := ifM_inv e
      exact ⟨x, s2, h2, hl, e⟩
theorem loopC_ok {gd : Gd} {tg : Tg} {cond : BT} {elt : EF} {env : Env} : ∀ {vs acc : List Val} {st st' : Store} {r : Out (List Val)}, loopC gd tg cond elt env vs acc st = some (r, st') → ∃ ws, r = .ok ws
  | [], acc, st, st', r, e => by obtain ⟨rfl, _⟩ := loopC_nil e; exact ⟨_, rfl⟩
  | v :: vs, acc, st, st', r, e => by
    obtain ⟨env1, b, s1, _, _, h⟩ := loopC_cons e
    cases b with
    | false => exact loopC_ok h
    | true => obtain ⟨x, s2, _, _, h⟩ := h; exact loopC_ok h
/-- a list is being filled: its number n0 of the store is dead, its place holds what has come -/
structure Fill (K : PySem.W.Frag) (ca : CA) (F1 : Addr → Prop) (H1 : Hp) (as1 : Nat → Addr) (s1 : Store) (D : Addr) (env0 : Env) (σ0 : L2.St) (acc : List Val) (F : Addr → Prop) (H : Hp) (as : Nat → Addr) (s : Store) : Prop where
  ext : Ext F1 H1 as1 s1 F H as s
  rel : Rel K ca F H as s
  lt : s1.nx < s.nx
  at_ : as s1.nx = D
  dead : s.get s1.nx = none
  nF : ¬ F D
  cell : ∃ xs, H D = some (.lst xs) ∧ RVs K ca F H as s.nx acc xs
  re : RE K ca F H as s.nx env0 σ0
section
variable {K : PySem.W.Frag} {ca : CA} {F F' F1 : Addr → Prop} {H H' H1 : Hp} {as as' as1 : Nat → Addr} {s s' s1 : Store} {D : Addr} {env0 : Env} {σ0 : L2.St} {acc : List Val}
theorem Fill.go (f : Fill K ca F1 H1 as1 s1 D env0 σ0 acc F H as s) (x : Ext F H as s F' H' as' s') (R : Rel K ca F' H' as' s') : Fill K ca F1 H1 as1 s1 D env0 σ0 acc F' H' as' s' := by
  obtain ⟨g1, g2, g3⟩ := x.gone _ f.lt f.dead
  rw [f.at_] at g2 g3
  obtain ⟨xs, c1, c2⟩ := f.cell
  exact ⟨f.ext.trans x, R, Nat.lt_of_lt_of_le f.lt x.nx, (x.ags _ f.lt).trans f.at_, g1, fun z => f.nF (g3 z), ⟨xs, by rw [g2]; exact c1, c2.ext x⟩, f.re.ext x⟩
theorem Fill.nt (f : Fill K ca F1 H1 as1 s1 D env0 σ0 acc F H as s) : ∀ zs, H (as s1.nx) ≠ some (.tup zs) := by
  obtain ⟨xs, c1, _⟩ := f.cell
  intro zs z
  rw [f.at_, c1] at z
  cases z
theorem Fill.put (f : Fill K ca F1 H1 as1 s1 D env0 σ0 acc F H as s) {ws : List Val} {ys : List V} (h : RVs K ca F H as s.nx ws ys) : Fill K ca F1 H1 as1 s1 D env0 σ0 ws F (upd H D (.lst ys)) as s := by
  obtain ⟨x, R, k⟩ := poke f.ext f.rel (lt_ne (Nat.le_refl _)) f.lt f.dead (by rw [f.at_]; exact f.nF) f.nt (.lst ys)
  rw [f.at_] at x R k
  exact ⟨x, R, f.lt, f.at_, f.dead, f.nF, ⟨ys, upd_same, h.mono (fun a h => h) k (fun _ _ => rfl) (Nat.le_refl _)⟩, ⟨f.re.1, fun i v q => let ⟨x, e1, e2⟩ := f.re.2 i v q; ⟨x, e1, e2.mono (fun a h => h) k (fun _ _ => rfl) (Nat.le_refl _)⟩⟩⟩
/-- at the loop's start -/
theorem Fill.new (R : Rel K ca F1 H1 as1 s1) (hD : H1 D = none) (re : RE K ca F1 H1 as1 s1.nx env0 σ0) : Fill K ca F1 H1 as1 s1 D env0 σ0 [] F1 (upd H1 D (.lst [])) (asN as1 s1.nx D) s1.reserve := by
  obtain ⟨x, R2⟩ := new_res R (.lst []) hD
  have dead : s1.get s1.nx = none := by
    cases q : s1.get s1.nx with
    | none => rfl
    | some o => exact absurd (R.live _ o q).1 (Nat.lt_irrefl _)
  exact ⟨x, R2, Nat.lt_succ_self _, asN_eq, dead, fun z => R.dom D z hD, ⟨[], upd_same, .nil⟩, re.ext x⟩
/-- at its end -/
theorem Fill.fin {σ : L2.St} {W : WX} {Q : VK} {m : Bool} {r : Out Val} {st' : Store} (f : Fill K ca F1 H1 as1 s1 D env0 σ0 acc F H as s) (e : (match m with | true => some (.ok (.ref s1.nx), s.add s1.nx (.lst acc)) | false => some (.ok (.lst acc), s) : Option (Out Val × Store)) = some (r, st'))
    (post : Post K ca (RV K ca) σ Q W F1 H1 as1 s1 st' r) : Q (.ref D) H := by
  obtain ⟨xs, c1, c2⟩ := f.cell
  cases m with
  | true =>
    cases e
    have R2 : Rel K ca F H as (s.add s1.nx (.lst acc)) := live_at f.rel f.lt (by rw [f.at_]; exact f.nF) ⟨xs, by rw [f.at_]; exact c1, c2⟩
    refine post.at (ext_add f.ext (lt_ne (Nat.le_refl _))) R2 ?_
    simp only [RV]
    exact ⟨f.lt, by rw [f.at_]⟩
  | false =>
    cases e
    have R2 := in_fz f.rel f.lt f.dead
    have x2 := ext_in f.ext f.rel (Nat.le_refl _) f.lt
    refine post.at x2 R2 ?_
    simp only [RV]
    exact ⟨D, xs, rfl, .inr f.at_.symm, c1, c2.mono (fun a h => .inl h) Keep.refl (fun _ _ => rfl) (Nat.le_refl _)⟩
end

section
variable {K : PySem.W.Frag} {ca : CA} {W : WX} {fi fi1 : IF} {t t1 : Tg} {cond cond1 : BT} {elt : EF} {own own1 : List Nat} {m : Bool}
/-- one turn's end: the item is appended, or not -/
theorem _root_.Pv.Ext.cong {F F' : Addr → Prop} {H H' : Hp} {as as' : Nat → Addr} {s s' : Store} {n : Nat} {D : Addr} {u : HO} (x : Ext F H as s F' (upd H' (as' n) u) as' s') (e : as' n = D) : Ext F H as s F' (upd H' D u) as' s' := by rw [← e]; exact x
theorem turn_end {F1 : Addr → Prop} {H1 : Hp} {as1 : Nat → Addr} {s1 : Store} {D : Addr} {env0 env1 : Env} {σ0 σ2 : L2.St} {acc vs : List Val} {F : Addr → Prop} {H : Hp} {as : Nat → Addr} {s sN : Store} {accN : List Val} {gd : Gd} {tg : Tg} {Nx : Hp → Prop} {b : Bool} {s2 : Store} {env00 : Env}
    (f : Fill K ca F1 H1 as1 s1 D env0 σ0 acc F H as s) (re : RE K ca F H as s.nx env1 σ2) (q : cond env1 s = some (.ok b, s2)) (h : byB b (∃ x s3, elt env1 s2 = some (.ok x, s3) ∧ acc.length < 16777216 ∧ loopC gd tg cond elt env00 vs (acc ++ [x]) s3 = some (.ok accN, sN))
      (loopC gd tg cond elt env00 vs acc s2 = some (.ok accN, sN)))
    (nx : ∀ acc' F' H' as' s', Fill K ca F1 H1 as1 s1 D env0 σ0 acc' F' H' as' s' → Ext F H as (s.add s1.nx (.lst [])) F' H' as' s' → loopC gd tg cond elt env00 vs acc' s' = some (.ok accN, sN) → Nx H') :
    tT K ca W0 cond σ2 H fun b H3 => if b = true then tE K ca W0 elt σ2 H3 fun y H4 => ∃ acc, H4 D = some (.lst acc) ∧ acc.length < sizeLine ∧ Nx (upd H4 D (.lst (acc ++ [y]))) else Nx H3 := by
  refine ⟨F, as, env1, s, .ok b, s2, re, f.rel, q, fun F4 H4 as4 x4 R4 b' rb => ?_⟩
  have rb' : b' = b := rb
  subst rb'
  have f4 := f.go x4 R4
  cases b' with
  | false => exact nx acc F4 H4 as4 s2 f4 (ext_wk x4) h
  | true =>
    obtain ⟨x, s3, h1, h2, h3⟩ := h
    refine ⟨F4, as4, env1, s2, .ok x, s3, re.ext x4, R4, h1, fun F5 H5 as5 x5 R5 y ry => ?_⟩
    have f5 := f4.go x5 R5
    obtain ⟨xs, c1, c2⟩ := f5.cell
    exact ⟨xs, c1, by rw [← c2.length, sizeLine_eq]; exact h2, nx _ F5 _ as5 s3 (f5.put (c2.append (.cons ry .nil))) ((poke (ext_wk (x4.trans x5)) R5 add_ne f5.lt f5.dead (by rw [f5.at_]; exact f5.nF) f5.nt _).1.cong f5.at_) h3⟩
theorem comp_read (hsl : ∀ i ∈ t.slots, i ∈ own) {σ : L2.St} {H : Hp} {Q : VK} (h : tE K ca W (eComp m own elt t fi cond) σ H Q) : tLc (tG K ca (Wk K ca) W fi) (tgR K ca t) (tT K ca W0 cond) (tE K ca W0 elt) own σ H Q := by
  obtain ⟨F, as, env, st, r, st', re, R, e, post⟩ := h
  refine step_bind re R e post fun vg s1 e F1 H1 as1 x1 R1 J wk post => fun D hD => ?_
  obtain ⟨vs, gd⟩ := vg
  have e' : bd (loopC gd t cond elt (wipeE env own) vs []) (fun acc => fun s => match m with | true => some (.ok (.ref s1.nx), s.add s1.nx (.lst acc)) | false => some (.ok (.lst acc), s)) s1.reserve = some (r, st') := e
  unfold bd at e'
  cases q : loopC gd t cond elt (wipeE env own) vs [] s1.reserve with
  | none => rw [q] at e'; cases e'
  | some p =>
    obtain ⟨o, sN⟩ := p
    obtain ⟨accN, rfl⟩ := loopC_ok q
    rw [q] at e'
    dsimp only at e'
    let Iv : Nat → Hp → Prop := fun i H => i ≤ vs.length ∧ ∃ F as s acc, Fill K ca F1 H1 as1 s1 D (wipeE env own) (L2.wipe σ own) acc F H as s ∧ loopC gd t cond elt (wipeE env own) (vs.drop i) acc s = some (.ok accN, sN)
    have f0 := Fill.new (D := D) R1 hD ((re.ext x1).wipe own)
    refine ⟨fun i m H => m = vs.length - i ∧ Iv i H, ⟨vs.length, by simp, Nat.zero_le _, F1, _, _, [], f0, q⟩, ?_⟩
    rintro i k H ⟨rfl, hi, F2, as2, s2, acc, f, e2⟩
    obtain ⟨w1, w2⟩ := wk s1 F2 H as2 s2 rfl f.ext f.rel (loopC_gd e2)
    by_cases hl : i < vs.length
    · rw [List.drop_eq_getElem_cons hl] at e2
      obtain ⟨env3, b, s3, b1, b2, b3⟩ := loopC_cons e2
      obtain ⟨g1, g2⟩ := w2 i vs[i] (List.getElem?_eq_getElem hl)
      refine .inr ⟨g1, Iv (i + 1), fun H' h => ⟨vs.length - (i + 1), by omega, rfl, h⟩, fun x H3 y => ?_⟩
      obtain ⟨F3, x3, R3, rv⟩ := g2 x H3 y
      have f3 := f.go x3 R3
      refine ⟨F3, as2, s2, wipeE env own, _, env3, f3.re, R3, rv, b1, fun σ' re' sm => ⟨?_, turn_end f3 re' b2 b3 fun acc' F' H' as' s' f' _ h => ⟨hl, F', as', s', acc', f', h⟩⟩⟩
      rw [sm own hsl, wipe_wipe]
    · have hi' : i = vs.length := by omega
      subst hi'
      rw [List.drop_length] at e2
      obtain ⟨h1, h2⟩ := loopC_nil e2
      cases h1
      subst h2
      exact .inl ⟨w1 _ (Nat.le_refl _), f.fin e' post⟩

end

/-- a name is set: the reading for gName -/
theorem name_read {K : PySem.W.Frag} {ca : CA} {W : WX} {fe : EF} {i : Nat} {te : TE} (hte : ∀ σ H Q, tE K ca W fe σ H Q → te σ H Q) : ∀ D σ H, tS K ca W (sSet (.nm i) fe) D σ H → tAsg te (gName i) D σ H := fun D σ H ⟨F, as, env, st, r, st', re, R, e, post⟩ =>
  hte _ _ _ (step_bs re R e post fun v s1 e F1 H1 as1 x1 R1 x rx post => by
    obtain ⟨env', e', rfl, rfl⟩ := storeAt_inv e
    simp only [bindT] at e'
    obtain ⟨hl, e'⟩ := if_inv e'
    cases e'
    exact post.nx R1 ((re.ext x1).set rx))

/-! ### comprehensions in the text -/
section
variable {X : Cx} {ca : CA} {W : WX} {elt tg iter tg1 iter1 c : Expr} {ifs ifs1 : List Expr} {scope : Scope} {own : List (Str × Nat)} {own1 : List Nat} {pos spos py : Pos} {fi fi1 : IF} {t t1 : Tg} {cond cond1 : BT} {fe : EF} {m : Bool} {y : Str} {i : Nat}
theorem _root_.L2.PTs.weak {t t' : TT} (h : PTs X ifs t) (w : ∀ σ H Q, t' σ H Q → t σ H Q) : PTs X ifs t' := ⟨fun pins s σ H Q I q => h.run pins s σ H Q I (w σ H Q q)⟩
theorem sts_nil : PTs X [] (tT X.K ca W bYes) := pts_nil.weak fun σ H Q ⟨F, as, env, st, r, st', re, R, e, post⟩ => by
  obtain ⟨rfl, rfl⟩ := ret_inv e
  exact post.here (rel := rB) R rfl
theorem sts_one (h : ST ca X W c cond) : PTs X [c] (tT X.K ca W cond) := pts_one h
/-- all the blocks that a comprehension may run in -/
abbrev InBlk (X : Cx) (scope : Scope) (P : Cx → Prop) : Prop := ∀ (s : Shared) (H : Hp) (C : Addr) (cl : List (Str × Addr)) (fp : List Addr), P (X.blk s H scope (compEnvC scope cl C X.env) fp)
theorem se_comp (hc : X.calm = true) (hN : X.N.Nodup) (hi : SI ca X W tg iter fi) (ok : BlkOk X.N X.env.scope scope own) (hsl : ∀ i ∈ t.slots, i ∈ own.map (·.2)) (hg : InBlk X scope fun Y => PG Y tg (tgR X.K ca t)) (ht : InBlk X scope fun Y => PTs Y ifs (tT X.K ca W0 cond))
    (he : InBlk X scope fun Y => SE ca Y W0 elt fe) (hs : ∀ x, foldedSetIterable iter X.env x = pure x := by intro _; rfl) : SE ca X W (.ListComp elt [⟨tg, iter, ifs, 0⟩] scope pos) (eComp m (own.map (·.2)) fe t fi cond) :=
  (pe_lc hc hN hi ok hg ht he hs).weak fun σ H Q h => comp_read hsl h
theorem ss_setC (hc : X.calm = true) (hN : X.N.Nodup) (hy : X.N[i]? = some y) (hyl : X.env.scope.names.lookup y = some .local) (hsw : swapsWith (.ListComp elt [⟨tg, iter, ifs, 0⟩] scope pos) (some (.Name y py)) spos.line X.env = pure true)
    (hi : SI ca X W tg iter fi) (ok : BlkOk X.N X.env.scope scope own) (hsl : ∀ i ∈ t.slots, i ∈ own.map (·.2)) (hg : InBlk X scope fun Y => PG Y tg (tgR X.K ca t)) (ht : InBlk X scope fun Y => PTs Y ifs (tT X.K ca W0 cond))
    (he : InBlk X scope fun Y => SE ca Y W0 elt fe) (hs : ∀ x, foldedSetIterable iter X.env x = pure x := by intro _; rfl) : SS ca X W (.Assign [.Name y py] (.ListComp elt [⟨tg, iter, ifs, 0⟩] scope pos) spos) (sSet (.nm i) (eComp m (own.map (·.2)) fe t fi cond)) :=
  (ps_setLc hc hN hy hyl hsw hi ok hg ht he hs).weak fun D σ H h => name_read (fun _ _ _ h => comp_read hsl h) D σ H h
end
end Pv
/-! Pv, part O: what is not read; enumerate, zip; xs[::s]; a def by its body. -/
namespace Pv
open PySem PySem.Spec L2

section
variable {X : Cx} {ca : CA} {W : WX} {e a b c tg : Expr} {s : Stmt} {fa fb : EF} {g : LF} {pos p p2 apos tpos : Pos} {elts : List Expr} {kk : Nat}
theorem ss_bad : SS ca X W s sBad := ⟨fun pins s σ H D I ⟨F, as, env, st, r, st', re, R, e, post⟩ => (badS_inv e).elim⟩
theorem zipV_len : ∀ (xs ys : List Val), (zipV xs ys).length = min xs.length ys.length
  | [], _ => by simp [zipV]
  | _ :: _, [] => by simp [zipV]
  | x :: xs, y :: ys => by simp only [zipV, List.length_cons, zipV_len xs ys]; omega
theorem zipV_get : ∀ (xs ys : List Val) (i : Nat) (v : Val), (zipV xs ys)[i]? = some v → ∃ x y, xs[i]? = some x ∧ ys[i]? = some y ∧ v = .tup [x, y]
  | [], _, i, v, h => by simp [zipV] at h
  | _ :: _, [], i, v, h => by simp [zipV] at h
  | x :: xs, y :: ys, 0, v, h => by simp [zipV] at h; exact ⟨x, y, rfl, rfl, h.symm⟩
  | x :: xs, y :: ys, i + 1, v, h => by
    simp only [zipV, List.getElem?_cons_succ] at h ⊢
    exact zipV_get xs ys i v h
/-- a new pair -/
theorem new_pair {K : PySem.W.Frag} {F : Addr → Prop} {H : Hp} {as : Nat → Addr} {st : Store} (R : Rel K ca F H as st) {T : Addr} {v w : Val} {x y : V} (hT : H T = none) (hv : RV K ca F H as st.nx v x) (hw : RV K ca F H as st.nx w y) :
    ∃ F3, Ext F H as st F3 (upd H T (.tup [x, y])) as st ∧ Rel K ca F3 (upd H T (.tup [x, y])) as st ∧ RV K ca F3 (upd H T (.tup [x, y])) as st.nx (.tup [v, w]) (.ref T) := by
  obtain ⟨x1, R1⟩ := new_fz R (.tup [x, y]) hT
  refine ⟨_, x1, R1, ?_⟩
  simp only [RV]
  exact ⟨T, [x, y], rfl, upd_same, .cons (hv.ext x1) (.cons (hw.ext x1) .nil)⟩
/-- a list that is walked, frozen or as long as it stays -/
theorem listOf_at {K : PySem.W.Frag} {F : Addr → Prop} {H : Hp} {as : Nat → Addr} {st : Store} {v : Val} {x : V} {vs : List Val} {gd : Gd} (R : Rel K ca F H as st) (hv : RV K ca F H as st.nx v x) (e : listOf st v = some (vs, gd)) :
    ∃ a xs, x = .ref a ∧ H a = some (.lst xs) ∧ ∀ st0 F2 H2 as2 st2, st0.nx = st.nx → Ext F H as st0 F2 H2 as2 st2 → Rel K ca F2 H2 as2 st2 → gd st2 = true → ∃ ys, H2 a = some (.lst ys) ∧ RVs K ca F2 H2 as2 st2.nx vs ys := by
  cases v with
  | lst ws =>
    cases e
    simp only [RV] at hv
    obtain ⟨a, xs, rfl, fa, h1, h2⟩ := hv
    exact ⟨a, xs, rfl, h1, fun st0 F2 H2 as2 st2 hn x1 R1 _ => ⟨xs, x1.keep.lst a xs fa h1, RVs.mono x1.sub x1.keep (fun n h => x1.ags n (by rw [hn]; exact h)) (by rw [← hn]; exact x1.nx) _ _ h2⟩⟩
  | ref n =>
    unfold listOf at e
    dsimp only at e
    cases q : st.get n with
    | none => rw [q] at e; cases e
    | some o =>
      rw [q] at e
      cases o with
      | lst ws =>
        cases e
        simp only [RV] at hv
        obtain ⟨_, _, xs, h1, h2⟩ := R.live n _ q
        refine ⟨as n, xs, hv.2, h1, fun st0 F2 H2 as2 st2 hn x1 R1 gd => ?_⟩
        have q : st2.get n = some (.lst vs) := by
          unfold gRef at gd
          cases q : st2.get n with
          | none => rw [q] at gd; cases gd
          | some o =>
            rw [q] at gd
            cases o with
            | lst ws => rw [beqVs_eq ws vs gd]
            | dct t ks vs => cases gd
            | ins c fs vs => cases gd
            | ndc ks vs => cases gd
        obtain ⟨_, _, ys, h3, h4⟩ := R1.live n _ q
        rw [x1.ags n (by rw [hn]; exact hv.1)] at h3
        exact ⟨ys, h3, h4⟩
      | dct t ks vs => cases e
      | ins c fs vs => cases e
      | ndc ks vs => cases e
  | _ => cases e
theorem wk_zip {K : PySem.W.Frag} {F : Addr → Prop} {H : Hp} {as : Nat → Addr} {nx : Nat} {a b : Addr} {vs ws : List Val} {gd gd' : Gd}
    (h : ∀ (st0 : Store) F2 H2 as2 st2, st0.nx = nx → Ext F H as st0 F2 H2 as2 st2 → Rel K ca F2 H2 as2 st2 → gd st2 = true → ∃ ys, H2 a = some (.lst ys) ∧ RVs K ca F2 H2 as2 st2.nx vs ys)
    (h' : ∀ (st0 : Store) F2 H2 as2 st2, st0.nx = nx → Ext F H as st0 F2 H2 as2 st2 → Rel K ca F2 H2 as2 st2 → gd' st2 = true → ∃ ys, H2 b = some (.lst ys) ∧ RVs K ca F2 H2 as2 st2.nx ws ys) : Wk K ca F H as nx (zipV vs ws, gAnd gd gd') (Itz K a b) := by
  intro st F2 H2 as2 st2 hn x1 R1 hg
  have hg : (gd st2 && gd' st2) = true := hg
  rw [Bool.and_eq_true] at hg
  obtain ⟨xs, q0, h2⟩ := h st F2 H2 as2 st2 hn x1 R1 hg.1
  obtain ⟨ys, q0', h2'⟩ := h' st F2 H2 as2 st2 hn x1 R1 hg.2
  have q : SqL K H2 a xs := .inl (.inl q0)
  have q' : SqL K H2 b ys := .inl (.inl q0')
  refine ⟨fun i hi => ⟨xs, ys, q, q', ?_⟩, fun i v e => ?_⟩
  · have hi : (zipV vs ws).length ≤ i := hi
    rw [zipV_len, h2.length, h2'.length] at hi
    omega
  · obtain ⟨u, u', e1, e1', rfl⟩ := zipV_get _ _ _ _ e
    obtain ⟨y, e3, ry⟩ := h2.get e1
    obtain ⟨y', e3', ry'⟩ := h2'.get e1'
    refine ⟨⟨xs, ys, y, y', q, q', e3, e3'⟩, fun x H3 ⟨T, z, z', ex, hT, eH, k, k'⟩ => ?_⟩
    subst ex eH
    have := k xs q
    rw [e3] at this; cases this
    have := k' ys q'
    rw [e3'] at this; cases this
    exact new_pair R1 hT ry ry'
theorem wk_zipT {K : PySem.W.Frag} {F : Addr → Prop} {H : Hp} {as : Nat → Addr} {nx : Nat} {a b : Addr} {vs ws : List Val} {xs ys : List V} (hs : ∀ (F2 : Addr → Prop) H2, (∀ x, F x → F2 x) → Keep F H H2 → SqT K H2 a xs) (h : RVs K ca F H as nx vs xs) (hs' : ∀ (F2 : Addr → Prop) H2, (∀ x, F x → F2 x) → Keep F H H2 → SqT K H2 b ys) (h' : RVs K ca F H as nx ws ys) : Wk K ca F H as nx (zipV vs ws, gYes) (RZ.ItzT K a b) := by
  intro st F2 H2 as2 st2 hn x1 R1 _
  subst hn
  have q : SqT K H2 a xs := hs _ _ x1.sub x1.keep
  have q' : SqT K H2 b ys := hs' _ _ x1.sub x1.keep
  have h2 : RVs K ca F2 H2 as2 st2.nx vs xs := RVs.mono x1.sub x1.keep x1.ags x1.nx _ _ h
  have h2' : RVs K ca F2 H2 as2 st2.nx ws ys := RVs.mono x1.sub x1.keep x1.ags x1.nx _ _ h'
  refine ⟨fun i hi => ⟨xs, ys, q, q', ?_⟩, fun i v e => ?_⟩
  · have hi : (zipV vs ws).length ≤ i := hi
    rw [zipV_len, h2.length, h2'.length] at hi
    omega
  · obtain ⟨u, u', e1, e1', rfl⟩ := zipV_get _ _ _ _ e
    obtain ⟨y, e3, ry⟩ := h2.get e1
    obtain ⟨y', e3', ry'⟩ := h2'.get e1'
    refine ⟨⟨xs, ys, y, y', q, q', e3, e3'⟩, fun x H3 ⟨T, z, z', ex, hT, eH, k, k'⟩ => ?_⟩
    subst ex eH
    have := k xs q
    rw [e3] at this; cases this
    have := k' ys q'
    rw [e3'] at this; cases this
    exact new_pair R1 hT ry ry'
theorem rd2 {α : Type} {env : Env} {st st' : Store} {r : Out α} {h : Val → Val → Store → Option α} (e : bd (fa env) (fun x => bd (fb env) fun y => rd fun st => h x y st) st = some (r, st')) :
    bd (aCons fa (aCons fb aNil) env) (fun vs => rd fun st => match vs with | [x, y] => h x y st | _ => none) st = some (r, st') := by
  rw [← e]
  unfold aCons aNil bd ret
  cases fa env st with
  | none => rfl
  | some t => obtain ⟨o, s⟩ := t; cases o with
    | err c v => rfl
    | ok v =>
      dsimp only
      cases fb env s with
      | none => rfl
      | some t => obtain ⟨o, s⟩ := t; cases o with
        | err c v => rfl
        | ok w => rfl
theorem si_zip (hg : Gl X "zip") (hm : X.mg "zip" = none) (ha : SE ca X W a fa) (hb : SE ca X W b fb) (hs2 : starEach [b] X.env = [(false, eval b X.env)] := by rfl) (hs : starEach [a, b] X.env = (false, eval a X.env) :: starEach [b] X.env := by rfl) (hpl : (backTo pos (starEach [b] X.env)).any (·.1) = false := by rfl) :
    SI ca X W (.Tuple elts kk tpos) (.Call (.Name "zip" p) [a, b] [] pos) (iZip fa fb) :=
  (RZ.pi_zipA hg hm (sa_cons ha (sa_cons hb sa_nil hs2) hs) hs hpl).weak fun σ H Q ⟨F, as, env, st, r, st', re, R, e, post⟩ => by
    refine step_bind re R (rd2 (h := fun x y st => zipOf st x y) e) post fun vs s1 e F1 H1 as1 x1 R1 xs rxs post => ?_
    obtain ⟨ws, e2, rfl, rfl⟩ := rd_inv e
    split at e2
    · obtain ⟨x, y, rfl, rx, ry⟩ := two_rv rxs
      unfold zipOf at e2
      split at e2
      · cases e2
        simp only [RV] at rx ry
        obtain ⟨a, ys, rfl, h1, h2⟩ := rx
        obtain ⟨a', ys', rfl, h1', h2'⟩ := ry
        exact ⟨a, a', ys, ys', rfl, .inr ⟨h1.sq, h1'.sq, post F1 H1 as1 Ext.refl R1 _ (wk_zipT (fun _ _ s k => (h1.mono s k).sq) h2 (fun _ _ s k => (h1'.mono s k).sq) h2')⟩⟩
      · cases e2
        simp only [RV] at rx ry
        obtain ⟨a, ys, rfl, h1, h2⟩ := rx
        obtain ⟨a', ys', rfl, h1', h2'⟩ := ry
        exact ⟨a, a', ys, ys', rfl, .inr ⟨h1.sq, h1'.sq, post F1 H1 as1 Ext.refl R1 _ (wk_zipT (fun _ _ _ _ => h1.sq) h2 (fun _ _ s k => (h1'.mono s k).sq) h2')⟩⟩
      · cases e2
        simp only [RV] at rx ry
        obtain ⟨a, ys, rfl, h1, h2⟩ := rx
        obtain ⟨a', ys', rfl, h1', h2'⟩ := ry
        exact ⟨a, a', ys, ys', rfl, .inr ⟨h1.sq, h1'.sq, post F1 H1 as1 Ext.refl R1 _ (wk_zipT (fun _ _ s k => (h1.mono s k).sq) h2 (fun _ _ _ _ => h1'.sq) h2')⟩⟩
      · cases e2
        simp only [RV] at rx ry
        obtain ⟨a, ys, rfl, h1, h2⟩ := rx
        obtain ⟨a', ys', rfl, h1', h2'⟩ := ry
        exact ⟨a, a', ys, ys', rfl, .inr ⟨h1.sq, h1'.sq, post F1 H1 as1 Ext.refl R1 _ (wk_zipT (fun _ _ _ _ => h1.sq) h2 (fun _ _ _ _ => h1'.sq) h2')⟩⟩
      · split at e2
        · rename_i us gd us' gd' q q'
          cases e2
          obtain ⟨a, ys, rfl, h1, h2⟩ := listOf_at R1 rx q
          obtain ⟨a', ys', rfl, h1', h2'⟩ := listOf_at R1 ry q'
          exact ⟨a, a', ys, ys', rfl, .inl ⟨.inl (.inl h1), .inl (.inl h1'), post F1 H1 as1 Ext.refl R1 _ (wk_zip h2 h2')⟩⟩
        · cases e2
    · cases e2
end

/-! ### a def by its body -/
section
variable {P : Program} {w : World} {K : PySem.W.Frag} {mg : Str → Option Value} {base : Heap} {ca : CA} {x qual : Str} {st : Stmt} {fa : Addr} {fd : FuncData} {N ps : List Str} {k : Nat} {f : SF}
/-- the wish of a def's body -/
abbrev WD (E : XK) : WX := fun cls d _ H => E cls d H
theorem re_start {F : Addr → Prop} {H : Hp} {as : Nat → Addr} {nx : Nat} {args : List Val} {vs : List V} (h : RVs K ca F H as nx args vs) : RE K ca F H as nx (startE N.length args) (L2.start N vs) := by
  unfold startE L2.start
  refine ⟨by simp only [List.length_append, List.length_map, List.length_replicate, h.length], fun i v e => ?_⟩
  by_cases hi : i < args.length
  · rw [List.getElem?_append_left (by rw [List.length_map]; exact hi), List.getElem?_map] at e
    rw [List.getElem?_append_left (by rw [List.length_map, ← h.length]; exact hi), List.getElem?_map]
    cases q : args[i]? with
    | none => rw [q] at e; cases e
    | some u =>
      rw [q] at e; cases e
      obtain ⟨y, e1, ry⟩ := h.get q
      exact ⟨y, by rw [e1]; rfl, ry⟩
  · rw [List.getElem?_append_right (by rw [List.length_map]; omega), List.getElem?_replicate] at e
    split at e <;> cases e
end
end Pv
/-! Pv, part P: names in short; starred items; slices with a step; a[i] += e; defs with defaults. -/
namespace Pv
open PySem PySem.Spec L2 PyProof.Rows

section
variable {X : Cx} {ca : CA} {W : WX} {e a b c tg i o : Expr} {es : List Expr} {s : Stmt} {fa fb fi fe : EF} {g : LF} {pos p p2 apos tpos : Pos} {x : Str} {k : Nat}
theorem sv (i : Nat) (hN : X.N[i]? = some x := by rfl) (hv : Vis X.env.scope x := by first | exact Or.inl rfl | exact Or.inr (Or.inl rfl) | exact Or.inr (Or.inr rfl)) (hd : (x == ("__debug__" : Str)) = false := by decide)
    (hcd : (x == ("__classdict__" : Str)) = false := by decide) : SE ca X W (.Name x pos) (eVar i) := se_var hN hv hd hcd
theorem sg (i : Nat) (hN : X.N.Nodup) (hi : X.N[i]? = some x := by rfl) (hx : Loc X.env.scope x := by first | exact Or.inl rfl | exact Or.inr rfl) (hf : X.fn x = true ∨ X.env.scope.names.lookup x = some .local := by first | exact .inl rfl | exact .inr rfl) : PG X (.Name x pos) (tgR X.K ca (.nm i)) := sg_name hN hi hx hf
theorem hu65 (hr : Room k X.A) : X.A.units + 65 < cLine := by have := hr.un; omega
theorem hu1 (hr : Room k X.A) : X.A.units + 1 < cLine := by have := hr.un; omega
theorem hu100 (hr : Room k X.A) : X.A.units + 100 < cLine := by have := hr.un; omega
theorem tk0 : L2.Takes X W0 := L2.takes0
/-! ### a[::s] -/
/-! ### a[i] += e -/
end
end Pv
/-! Pv, part Q: dicts: from pairs, their keys, their values. -/
namespace Pv
open PySem PySem.Spec L2 PyProof.Rows

/-! ### dict(xs), tuple keys -/
section
variable {X : Cx} {pins : List (Addr × PySem.Obj)} {σ : L2.St} {H : Hp} {s : Shared}
end

/-! ### dict(xs): what the function says -/
section
variable {K : PySem.W.Frag} {ca : CA} {F : Addr → Prop} {H : Hp} {as : Nat → Addr} {nx : Nat}
end
end Pv
/-! Pv, part R: dict comprehensions (keys of any kind); list(d); walks over a dict. -/
namespace Pv
open PySem PySem.Spec L2 PyProof.Rows

section
variable {X : Cx}
end

/-! ### the loop's steps -/
/-- a dict is being filled -/
structure FillD (K : PySem.W.Frag) (ca : CA) (F1 : Addr → Prop) (H1 : Hp) (as1 : Nat → Addr) (s1 : Store) (D : Addr) (env0 : Env) (σ0 : L2.St) (t : Bool) (ks vs : List Val) (F : Addr → Prop) (H : Hp) (as : Nat → Addr) (s : Store) : Prop where
  ext : Ext F1 H1 as1 s1 F H as s
  rel : Rel K ca F H as s
  lt : s1.nx < s.nx
  at_ : as s1.nx = D
  dead : s.get s1.nx = none
  nF : ¬ F D
  cell : ∃ kk xs, toDKs t ks = some kk ∧ DM H D t kk xs ∧ RVs K ca F H as s.nx vs xs
  re : RE K ca F H as s.nx env0 σ0
def newU : Bool → HO
  | false => .dK []
  | true => .dT []
theorem DM.of {H H' : Hp} {a : Addr} {t : Bool} {kk : List DK} {xs : List V} (h : DM H a t kk xs) (e : H' a = H a) : DM H' a t kk xs := by
  cases t with
  | false => obtain ⟨kvs, h1, h2⟩ := h; exact ⟨kvs, e.trans h1, h2⟩
  | true => obtain ⟨kvs, h1, h2⟩ := h; exact ⟨kvs, e.trans h1, h2⟩
section
variable {K : PySem.W.Frag} {ca : CA} {F F' F1 : Addr → Prop} {H H' H1 : Hp} {as as' as1 : Nat → Addr} {s s' s1 : Store} {D : Addr} {env0 : Env} {σ0 : L2.St} {ks vs : List Val} {t : Bool}
theorem FillD.go (f : FillD K ca F1 H1 as1 s1 D env0 σ0 t ks vs F H as s) (x : Ext F H as s F' H' as' s') (R : Rel K ca F' H' as' s') : FillD K ca F1 H1 as1 s1 D env0 σ0 t ks vs F' H' as' s' := by
  obtain ⟨g1, g2, g3⟩ := x.gone _ f.lt f.dead
  rw [f.at_] at g2 g3
  obtain ⟨kk, xs, c0, c1, c2⟩ := f.cell
  exact ⟨f.ext.trans x, R, Nat.lt_of_lt_of_le f.lt x.nx, (x.ags _ f.lt).trans f.at_, g1, fun z => f.nF (g3 z), ⟨kk, xs, c0, c1.of g2, c2.ext x⟩, f.re.ext x⟩
theorem FillD.nt (f : FillD K ca F1 H1 as1 s1 D env0 σ0 t ks vs F H as s) : ∀ zs, H (as s1.nx) ≠ some (.tup zs) := by
  obtain ⟨kk, xs, _, c1, _⟩ := f.cell
  rw [f.at_]
  exact c1.notTup
theorem FillD.put (f : FillD K ca F1 H1 as1 s1 D env0 σ0 t ks vs F H as s) {k w : Val} {y z : V} {ks' vs' : List Val} (hk : RV K ca F H as s.nx k y) (hw : RV K ca F H as s.nx w z) (e : dPut t ks vs k w = some (ks', vs')) :
    ∃ Hn, DPut H D y z Hn ∧ FillD K ca F1 H1 as1 s1 D env0 σ0 t ks' vs' F Hn as s := by
  obtain ⟨kk, xs, c0, c1, c2⟩ := f.cell
  obtain ⟨u, kk', xs', g, z0, z1, z2⟩ := dput_at c0 c1 c2 hk hw e
  refine ⟨upd H D u, g, ?_⟩
  obtain ⟨x, R, k⟩ := poke f.ext f.rel (lt_ne (Nat.le_refl _)) f.lt f.dead (by rw [f.at_]; exact f.nF) f.nt u
  rw [f.at_] at x R k
  exact ⟨x, R, f.lt, f.at_, f.dead, f.nF, ⟨kk', xs', z0, z1, z2.mono (fun a h => h) k (fun _ _ => rfl) (Nat.le_refl _)⟩, ⟨f.re.1, fun i v q => let ⟨x, e1, e2⟩ := f.re.2 i v q; ⟨x, e1, e2.mono (fun a h => h) k (fun _ _ => rfl) (Nat.le_refl _)⟩⟩⟩
theorem FillD.new (R : Rel K ca F1 H1 as1 s1) (hD : H1 D = none) (re : RE K ca F1 H1 as1 s1.nx env0 σ0) : FillD K ca F1 H1 as1 s1 D env0 σ0 t [] [] F1 (upd H1 D (newU t)) (asN as1 s1.nx D) s1.reserve := by
  obtain ⟨x, R2⟩ := new_res R (newU t) hD
  have dead : s1.get s1.nx = none := by
    cases q : s1.get s1.nx with
    | none => rfl
    | some o => exact absurd (R.live _ o q).1 (Nat.lt_irrefl _)
  refine ⟨x, R2, Nat.lt_succ_self _, asN_eq, dead, fun z => R.dom D z hD, ⟨[], [], rfl, ?_, .nil⟩, re.ext x⟩
  cases t with
  | false => exact ⟨[], upd_same, rfl, rfl⟩
  | true => exact ⟨[], upd_same, rfl, rfl⟩
theorem FillD.fin {σ : L2.St} {W : WX} {Q : VK} (f : FillD K ca F1 H1 as1 s1 D env0 σ0 t ks vs F H as s)
    (post : Post K ca (RV K ca) σ Q W F1 H1 as1 s1 (s.add s1.nx (.dct t ks vs)) (.ok (.ref s1.nx))) : Q (.ref D) H := by
  obtain ⟨kk, xs, c0, c1, c2⟩ := f.cell
  have R2 : Rel K ca F H as (s.add s1.nx (.dct t ks vs)) := live_at f.rel f.lt (by rw [f.at_]; exact f.nF) ⟨kk, xs, c0, by rw [f.at_]; exact c1, c2⟩
  refine post.at (ext_add f.ext (lt_ne (Nat.le_refl _))) R2 ?_
  simp only [RV]
  exact ⟨f.lt, by rw [f.at_]⟩
end
section
variable {K : PySem.W.Frag} {ca : CA} {W : WX} {fi : IF} {t : Tg} {cond : BT} {key val : EF} {own : List Nat} {tt : Bool}
end
section
variable {X : Cx} {ca : CA} {W : WX} {kx vx tg iter e a : Expr} {ifs : List Expr} {scope : Scope} {own : List (Str × Nat)} {pos p apos cpos : Pos} {fi : IF} {t : Tg} {cond : BT} {fk fv fa : EF} {tt : Bool}
/-! ### {}, list(d), walks over a dict -/
theorem keys_rv {K : PySem.W.Frag} {F : Addr → Prop} {H : Hp} {as : Nat → Addr} {nx : Nat} : ∀ {ks : List Val} {kvs : List (Key × V)}, toDKs false ks = some (kvs.map fun p => Sum.inl p.1) → RVs K ca F H as nx ks (kvs.map fun kv => kV kv.1)
  | [], kvs, e => by
    cases kvs with
    | nil => exact .nil
    | cons p r => simp [toDKs] at e
  | k :: ks, kvs, e => by
    simp only [toDKs] at e
    cases q1 : toDK false k with
    | none => rw [q1] at e; cases e
    | some j =>
      cases q2 : toDKs false ks with
      | none => rw [q1, q2] at e; cases e
      | some jj =>
        rw [q1, q2] at e
        cases kvs with
        | nil => cases e
        | cons p r =>
          simp only [List.map_cons, Option.some.injEq, List.cons.injEq] at e
          obtain ⟨rfl, rfl⟩ := e
          refine .cons ?_ (keys_rv q2)
          cases k with
          | int i => simp only [toDK, toKey, Bool.false_eq_true, if_false, Option.map_some, Option.some.injEq, Sum.inl.injEq] at q1; show RV K ca F H as nx _ (kV p.1); rw [← q1]; simp only [RV]; rfl
          | str i => simp only [toDK, toKey, Bool.false_eq_true, if_false, Option.map_some, Option.some.injEq, Sum.inl.injEq] at q1; show RV K ca F H as nx _ (kV p.1); rw [← q1]; simp only [RV]; rfl
          | tup vs => simp [toDK] at q1
          | _ => simp [toDK, toKey] at q1
theorem at_fListD {K : PySem.W.Frag} {m : Bool} : BAt K ca (fListD m) (fun xs H Q => ∃ (a : Addr) (kvs : List (Key × V)), xs = [.ref a] ∧ Rd H a (.dK kvs) ∧ ∀ p, H p = none → Q (.ref p) (upd H p (.lst (kvs.map fun kv => kV kv.1)))) := by
  intro F H as st st' vs xs res σ W Q R rvs e post
  unfold fListD at e
  split at e
  · rename_i v
    obtain ⟨x, rfl, rx⟩ := one_rv rvs
    cases q : asD st v with
    | none => rw [q] at e; cases e
    | some p =>
      obtain ⟨t, ks, us⟩ := p
      rw [q] at e
      cases t with
      | true => cases e
      | false =>
        obtain ⟨a, kk, ys, rfl, h0, ⟨kvs, h1, rfl, rfl⟩, h2⟩ := asD_at R rx q
        exact ⟨a, kvs, rfl, h1, (newL_at R (keys_rv h0) e post).2⟩
  · cases e
theorem wk_keys {K : PySem.W.Frag} {F : Addr → Prop} {H : Hp} {as : Nat → Addr} {nx : Nat} {a : Addr} {o : PySem.Obj} {kvs : List (Key × V)} {ks : List Val} (fa : F a) (h : H a = some (.frz o (.dK kvs))) (hk : toDKs false ks = some (kvs.map fun p => Sum.inl p.1)) : Wk K ca F H as nx (ks, gYes) (Itk a o kvs) := by
  intro st F2 H2 as2 st2 hn x1 R1 _
  have q : H2 a = some (.frz o (.dK kvs)) := (x1.keep.same a fa).trans h
  have hl : ks.length = kvs.length := by have := toDKs_len hk; rw [List.length_map] at this; exact this
  refine ⟨fun i hi => ⟨q, by rw [← hl]; exact hi⟩, fun i v e => ?_⟩
  have r2 : RVs K ca F2 H2 as2 st2.nx ks (kvs.map fun kv => kV kv.1) := keys_rv hk
  obtain ⟨y, e1, ry⟩ := r2.get e
  refine ⟨⟨q, by rw [← hl]; exact (List.getElem?_eq_some_iff.mp e).1⟩, fun x H3 ⟨e2, k, w, ek, ex⟩ => ?_⟩
  subst e2
  rw [List.getElem?_map, ek] at e1
  cases e1
  exact ⟨F2, Ext.refl, R1, by rw [ex]; exact ry⟩
theorem si_keys (he : SE ca X W e fa) : SI ca X W tg e (iKeys fa) := (pi_keys he).weak fun σ H Q ⟨F, as, env, st, r, st', re, R, e, post⟩ =>
  step_bind re R e post fun v s1 e F1 H1 as1 x1 R1 x rx post => by
    obtain ⟨u, e', rfl, rfl⟩ := lift_inv e
    unfold keysOf at e'
    split at e'
    · cases e'
      simp only [RV] at rx
      obtain ⟨a, kk, xs, rfl, fa, h0, ⟨o, kvs, h1, rfl, rfl⟩, h2⟩ := rx
      exact ⟨a, o, rfl, .inl ⟨kvs, h1, post F1 H1 as1 Ext.refl R1 _ (wk_keys fa h1 h0)⟩⟩
    · cases e'
end
end Pv
/-! Pv, part S: defs with defaults; list(range(n)); len(set(xs)). -/
namespace Pv
open PySem PySem.Spec L2 PyProof.Rows

section
variable {P : Program} {w : World} {K : PySem.W.Frag} {mg : Str → Option Value} {base : Heap} {ca : CA} {x qual : Str} {st : Stmt} {fa : Addr} {fd : FuncData} {N ps : List Str} {k : Nat} {f : SF}
/-- a def of the text, whatever its defaults -/
structure FunV (K : PySem.W.Frag) (x qual : Str) (st : Stmt) (f : Addr) (fd : FuncData) : Prop where
  ex : ∃ (oc : Value) (od : Option Addr) (dV kV doc pm : Value) (an : Option Addr) (cdv ct : Value) (osl : Array (Option Value)),
    fd = PySem.W.fnOf x qual (defArgs st) (defBody st) (defScope st) dV kV doc pm an cdv ct ∧ K.lookup f = some ⟨oc, od, .func fd, osl⟩ ∧ PySem.W.codeIn K cdv qual = true
theorem ok_fnV {n : Nat} (F : FunV K x qual st fa fd) (S : FnScope N ps (defScope st)) (hn : ps.length = n)
    (hbody : ∀ (cdv : Value) (A : Around) (outer : List PySem.Env) (s : Shared) (H : Hp) (E : XK), Room k (A.deeper (envOfC qual (defScope st) s.heap.objs.size fa cdv)) →
      L2.Takes (cxOf (L2.CX P w) P w K mg base N qual (defScope st) fa cdv A outer s H E) (WD E) →
      SB ca (cxOf (L2.CX P w) P w K mg base N qual (defScope st) fa cdv A outer s H E) (WD E) (defBody st) f) :
    FnOk P w K mg base (L2.CX P w) (k + 1) fa fd ps (spF K ca (mkFn N.length n f)) := by
  obtain ⟨oc, od, dV, kV, doc, pm, an, cdv, ct, osl, rfl, lk, hcd⟩ := F.ex
  refine fn_of lk hcd S (fun vs H Q E h => ?_) fun A outer s H vs Q E hr h => ?_
  · obtain ⟨F', as, args, st', r, st2, R, rvs, e, _⟩ := h
    unfold mkFn at e
    obtain ⟨hl, _⟩ := if_inv e
    rw [← rvs.length, hl, hn]
  · refine ⟨_, hbody cdv A outer s H E hr (L2.takes_of rfl rfl rfl rfl), ?_⟩
    obtain ⟨F', as, args, st0, r, st2, R, rvs, e, post⟩ := h
    unfold mkFn at e
    obtain ⟨hl, e⟩ := if_inv e
    cases q : f (startE N.length args) st0 with
    | none => rw [q] at e; cases e
    | some p =>
      obtain ⟨o, s2⟩ := p
      rw [q] at e
      refine ⟨F', as, _, st0, o, s2, re_start rvs, R, q, fun F2 H2 as2 x2 R2 => ?_⟩
      cases o with
      | er c v env => cases e; exact fun σ re cls d rx => post F2 H2 as2 x2 R2 cls d rx
      | fl fl env =>
        cases fl with
        | nx => cases e; exact fun σ re => post F2 H2 as2 x2 R2 .non (by simp only [RV])
        | rt v => cases e; exact fun y ry => post F2 H2 as2 x2 R2 y ry
        | br => cases e
        | ct => cases e
theorem fn_none {CX : CXT} : FnOk P w K mg base CX k fa fd ps (spF K ca fun _ _ => none) :=
  ⟨fun vs H Q E ⟨_, _, _, _, _, _, _, _, e, _⟩ => (by cases e), fun A outer s H args us vs Q E hr e0 hb rv ⟨_, _, _, _, _, _, _, _, e, _⟩ => (by cases e)⟩
end

section
variable {X : Cx} {ca : CA} {W : WX} {a : Expr} {fa : EF} {p p2 q pos : Pos}
theorem rgV_rv {K : PySem.W.Frag} {F : Addr → Prop} {H : Hp} {as : Nat → Addr} {nx : Nat} : ∀ (n : Nat) (lo : Int), RVs K ca F H as nx (rangeV lo n) ((List.range n).map fun (i : Nat) => V.int (lo + i))
  | 0, lo => .nil
  | n + 1, lo => by
    rw [List.range_succ_eq_map, List.map_cons, List.map_map]
    refine .cons (by simp only [RV]; congr 1; omega) ?_
    have := rgV_rv (K := K) (F := F) (H := H) (as := as) (nx := nx) n (lo + 1)
    have e : ((fun (i : Nat) => V.int (lo + i)) ∘ Nat.succ) = fun (i : Nat) => V.int (lo + 1 + i) := by
      funext i
      show V.int (lo + ((i + 1 : Nat) : Int)) = _
      congr 1
      omega
    rw [e]
    exact this
theorem se_listRg {m : Bool} (hc : X.calm = true) (hg : Gl X "list") (hm : X.mg "list" = none) (hg2 : Gl X "range") (hm2 : X.mg "range" = none) (ha : SE ca X W a fa) (na : starEach [a] X.env = (false, eval a X.env) :: starEach [] X.env := by rfl)
    (na2 : starEach [.Call (.Name "range" p2) [a] [] q] X.env = (false, eval (.Call (.Name "range" p2) [a] [] q) X.env) :: starEach [] X.env := by rfl) : SE ca X W (.Call (.Name "list" p) [.Call (.Name "range" p2) [a] [] q] [] pos) (eListRg m fa) :=
  (pe_listRg hc hg hm (prg_1 hg2 hm2 ha na) na2).weak fun σ H Q ⟨F, as, env, st, r, st', re, R, e, post⟩ =>
  step_bind re R e post fun v s1 e F1 H1 as1 x1 R1 x rx post => by
    cases v with
    | int n =>
      obtain ⟨hk, e⟩ := ifM_inv e
      rw [Bool.and_eq_true, decide_eq_true_eq] at hk
      obtain ⟨b1, b2⟩ := small_of hk.1
      simp only [RV] at rx
      have hr : rgV 0 n = (List.range n.toNat).map fun (i : Nat) => V.int (0 + i) := by
        unfold rgV
        simp
      have rv : RVs X.K ca F1 H1 as1 s1.nx (rangeV 0 n.toNat) (rgV 0 n) := by rw [hr]; exact rgV_rv n.toNat 0
      have hs := sizeLine_eq
      exact ⟨n, rx, ⟨by omega, by omega, b1, b2, by have := hk.2; omega⟩, (newL_at R1 rv e post).2⟩
    | _ => exact (bad_inv e).elim
theorem wk_range3 {K : PySem.W.Frag} {F : Addr → Prop} {H : Hp} {as : Nat → Addr} {nx : Nat} {lo c : Int} {n : Nat} : Wk K ca F H as nx ((List.range n).map fun (k : Nat) => Val.int (lo + k * c), gYes) (Itc lo c n) := by
  intro st F2 H2 as2 st2 hn x1 R1 _
  refine ⟨fun i hi => (show n ≤ i by simpa using hi), fun i v e => ?_⟩
  dsimp only at e
  rw [List.getElem?_map] at e
  by_cases hi : i < n
  · rw [List.getElem?_range hi] at e
    cases e
    refine ⟨hi, fun x H3 ⟨e2, ex⟩ => ?_⟩
    subst e2
    exact ⟨F2, Ext.refl, R1, by simp only [RV]; exact ex⟩
  · rw [List.getElem?_eq_none (by simpa using hi)] at e
    cases e
theorem si_range3 {b c tg : Expr} {fb fc : EF} (hg : Gl X "range") (hm : X.mg "range" = none) (ha : SE ca X W a fa) (hb : SE ca X W b fb) (hc : SE ca X W c fc) (n3 : starEach [c] X.env = [(false, eval c X.env)] := by rfl) (n2 : starEach [b, c] X.env = (false, eval b X.env) :: starEach [c] X.env := by rfl)
    (hs : starEach [a, b, c] X.env = (false, eval a X.env) :: starEach [b, c] X.env := by rfl) (hpl : (backTo pos (starEach [b, c] X.env)).any (·.1) = false := by rfl) : SI ca X W tg (.Call (.Name "range" p) [a, b, c] [] pos) (iRange3 fa fb fc) :=
  (pi_range3 hg hm (sa_cons ha (sa_cons hb (sa_cons hc sa_nil n3) n2) hs) hs hpl).weak fun σ H Q ⟨F, as, env, st, r, st', re, R, e, post⟩ => by
    refine step_bind re R e post fun vs s1 e F1 H1 as1 x1 R1 xs rxs post => ?_
    obtain ⟨ws, e2, rfl, rfl⟩ := lift_inv e
    split at e2
    · rename_i i j k
      obtain ⟨hk, e2⟩ := if_inv e2
      cases e2
      obtain ⟨x, r, rfl, rx, h2⟩ := rxs.inv
      obtain ⟨y, z, rfl, ry, rz⟩ := two_rv h2
      simp only [RV] at rx ry rz; subst rx; subst ry; subst rz
      exact ⟨i, j, k, _, rfl, ⟨hk.1, hk.2.1, hk.2.2.1, by have := hk.2.2.2; omega⟩, post F1 H1 as1 Ext.refl R1 _ wk_range3⟩
    · cases e2
end
end Pv
/-! Pv, part T: from the facts of the written part to the facts of the text; the law's end. -/
namespace Pv
open PySem PySem.Spec L2 PyProof.Rows

/-- a def of the text: its address, its data, how it binds -/
structure Dn (K : PySem.W.Frag) (x qual : Str) (st : Stmt) (ps : List Str) (f : Addr) (fd : FuncData) : Prop where
  F : FunV K x qual st f fd
  b : Binds K fd ps []
section
variable {K : PySem.W.Frag} {x qual : Str} {st : Stmt} {ps : List Str} {f T : Addr} {oc : Value} {od an : Option Addr} {osl : Array (Option Value)} {kV doc pm cdv ct : Value} {o : PySem.Obj} {its : Array Value} {n : Nat}
theorem dn_mk (l : K.lookup f = some ⟨oc, od, .func (PySem.W.fnOf x qual (defArgs st) (defBody st) (defScope st) .none kV doc pm an cdv ct), osl⟩) (c : PySem.W.codeIn K cdv qual = true)
    (h : ∀ (kV doc pm : Value) (an : Option Addr) (cdv ct : Value) (us : List Value), us.length = ps.length → bindArgs (PySem.W.fnOf x qual (defArgs st) (defBody st) (defScope st) .none kV doc pm an cdv ct) ⟨us, []⟩ = pure (ps.zip us)) :
    Dn K x qual st ps f (PySem.W.fnOf x qual (defArgs st) (defBody st) (defScope st) .none kV doc pm an cdv ct) :=
  ⟨⟨oc, od, .none, kV, doc, pm, an, cdv, ct, osl, rfl, l, c⟩, .all (h kV doc pm an cdv ct)⟩
/-- the same, with a tuple of defaults that no call needs -/
theorem dn_mkD (l : K.lookup f = some ⟨oc, od, .func (PySem.W.fnOf x qual (defArgs st) (defBody st) (defScope st) (.ref T) kV doc pm an cdv ct), osl⟩) (c : PySem.W.codeIn K cdv qual = true) (lT : K.lookup T = some o) (oT : o.data = .seq its n)
    (h : ∀ (T : Addr) (v kV doc pm : Value) (an : Option Addr) (cdv ct : Value) (us : List Value), us.length = ps.length →
      ∃ k, bindArgs (PySem.W.fnOf x qual (defArgs st) (defBody st) (defScope st) (.ref T) kV doc pm an cdv ct) ⟨us, []⟩ = seqItems? (.ref T) >>= k ∧ k (some #[v]) = pure (ps.zip us)) (hs : its.size = 1) :
    Dn K x qual st ps f (PySem.W.fnOf x qual (defArgs st) (defBody st) (defScope st) (.ref T) kV doc pm an cdv ct) :=
  ⟨⟨oc, od, .ref T, kV, doc, pm, an, cdv, ct, osl, rfl, l, c⟩, fun s us X hl => by
    rw [List.append_nil] at hl ⊢
    obtain ⟨v, rfl⟩ : ∃ v, its = #[v] := by
      obtain ⟨l⟩ := its
      match l, hs with
      | [v], _ => exact ⟨v, rfl⟩
    obtain ⟨k, e1, e2⟩ := h T v kV doc pm an cdv ct us hl
    refine BindsTo.of_looks fun M => ?_
    rw [e1]
    exact looks_items X lT oT (.of_pure e2)⟩
end

theorem rvs_ints {K : PySem.W.Frag} {ca : CA} {F : Addr → Prop} {H : Hp} {as : Nat → Addr} {nx : Nat} : ∀ ns : List Int, RVs K ca F H as nx (ns.map Val.int) (ns.map V.int)
  | [] => .nil
  | n :: ns => .cons (by simp only [RV]) (rvs_ints ns)
/-- the law's end: from the plain statement -/
theorem sp_law {K : PySem.W.Frag} {ca : CA} {f : BF} (h : ∀ ns : List Int, ns.length ≤ 63 → ∃ st, f [.rol (ns.map .int)] ⟨0, []⟩ = some (.ok (.bl true), st))
    {H : Hp} {a : Addr} {ns : List Int} (hl : ns.length ≤ 63) (hS : SqL K H a (ns.map V.int)) : spF K ca f [.ref a] H (fun v _ => v = .bl true) fun _ _ _ => False := by
  obtain ⟨st, e⟩ := h ns hl
  refine ⟨fun b => b = a ∧ H b ≠ none, fun _ => 0, [.rol (ns.map .int)], ⟨0, []⟩, _, st, ⟨fun b hb => hb.2, fun n hn => absurd hn (Nat.not_lt_zero _), fun m n hm => absurd hm (Nat.not_lt_zero _), fun n o q => by cases q⟩, ?_, e, fun F' H' as' _ _ x r => by simpa only [RV] using r⟩
  refine .cons ?_ .nil
  simp only [RV]
  refine ⟨a, ns.map V.int, rfl, ?_, rvs_ints ns⟩
  rcases hS with hS | hS
  · refine .inl ⟨⟨rfl, fun z => ?_⟩, hS⟩
    rcases hS with q | ⟨o, q⟩ <;> rw [z] at q <;> cases q
  · exact .inr hS

/-- the address of a class of the text -/
def clsAt (K : PySem.W.Frag) (x : Str) : Addr := match PySem.W.nsIn K mainGlobals x with
  | some (some (.ref a)) => a
  | _ => 0
/-- .. and the world -/
abbrev clsC (w : World) (K : PySem.W.Frag) : CA := ⟨clsAt K, w⟩
section
variable {K : PySem.W.Frag} {h : Heap} {mg : Str → Option Value} {x cls qual : Str} {st : Stmt} {ps : List Str} {f T C : Addr} {oc : Value} {od an : Option Addr} {osl : Array (Option Value)} {kV doc pm cdv ct : Value} {o : PySem.Obj} {its : Array Value} {n : Nat} {R : Prop}
theorem def_then (X : K.In h) (G : h.Ns mainGlobals mg) (a : PySem.W.nsIn K mainGlobals x = some (some (.ref f)))
    (l : K.lookup f = some ⟨oc, od, .func (PySem.W.fnOf x x (defArgs st) (defBody st) (defScope st) .none kV doc pm an cdv ct), osl⟩) (c : PySem.W.codeIn K cdv x = true) (k : PySem.W.keepIn K (.ref f) = true)
    (hb : ∀ (kV doc pm : Value) (an : Option Addr) (cdv ct : Value) (us : List Value), us.length = ps.length → bindArgs (PySem.W.fnOf x x (defArgs st) (defBody st) (defScope st) .none kV doc pm an cdv ct) ⟨us, []⟩ = pure (ps.zip us))
    (r : ∀ (f : Addr) (fd : FuncData), Dn K x x st ps f fd → mg x = some (.ref f) → PySem.W.keepIn K (.ref f) = true → R) : R :=
  r f _ (dn_mk l c hb) (PySem.W.mg_of X G a) k
theorem law_then {p : Str} (X : K.In h) (G : h.Ns mainGlobals mg) (a : PySem.W.nsIn K mainGlobals x = some (some (.ref f)))
    (l : K.lookup f = some ⟨oc, od, .func (PySem.W.fnOf x x (defArgs st) (defBody st) (defScope st) .none kV doc pm an cdv ct), osl⟩) (c : PySem.W.codeIn K cdv x = true) (k : PySem.W.keepIn K (.ref f) = true)
    (hb : ∀ (kV doc pm : Value) (an : Option Addr) (cdv ct : Value) (us : List Value), us.length = [p].length → bindArgs (PySem.W.fnOf x x (defArgs st) (defBody st) (defScope st) .none kV doc pm an cdv ct) ⟨us, []⟩ = pure ([p].zip us))
    (r : ∀ (f : Addr) (fd : FuncData), Dn K x x st [p] f fd → mg x = some (.ref f) → PySem.W.keepIn K (.ref f) = true → (∀ (s : Shared) (u : Value), BindsTo s fd ⟨[u], []⟩ [(p, u)]) → R) : R :=
  r f _ (dn_mk l c hb) (PySem.W.mg_of X G a) k fun s u => .of_eq (hb _ _ _ _ _ _ [u] rfl)
theorem none_then (X : K.In h) (G : h.Ns mainGlobals mg) (a : PySem.W.nsIn K mainGlobals x = some none) (r : mg x = none → R) : R := r (PySem.W.mg_none_of X G a)
end
theorem walk {l : PySem.W.OpenLaw} {q : Program} {loose : List Str} {XP : (Str → Option Value) → Heap → Prop} {YP : World → Heap → Prop} {d : DefRec} {K : Params → PySem.W.Frag} {f : BF} {k : Nat} {x : Str} (hn : l.most = some 63) (hdf : d.params.defaults = []) (hr : Room k callerA)
    (hY : ∀ (w : World) (h : Heap), YP w h → (K w.params).In h) (plain : ∀ ns : List Int, ns.length ≤ 63 → ∃ st, f [.rol (ns.map .int)] ⟨0, []⟩ = some (.ok (.bl true), st))
    (F : ∀ (w : World) (mg : Str → Option Value) (fa : Addr) (h : Heap), (K w.params).In h → h.Ns mainGlobals mg → mg d.name = some (.ref fa) →
      ∃ fd : FuncData, (∀ (s : Shared) (u : Value), BindsTo s fd ⟨[u], []⟩ [(x, u)]) ∧ ∀ base : Heap, (K w.params).In base → base.Ns mainGlobals mg → FnOk l.prog w (K w.params) mg base (L2.CX l.prog w) k fa fd [x] (spF (K w.params) (clsC w (K w.params)) f)) :
    PySem.W.WalkO q loose XP YP l.row.toRowW d [] (fun f vs => PySem.call f vs) :=
  L2.walk_of (n := 63) (k := k) (x := x) (CX := fun w => L2.CX l.prog w) (sp := fun w => spF (K w.params) (clsC w (K w.params)) f) hn (by decide) hdf hr hY F (fun _ _ _ _ hl _ hS => sp_law plain hl hS) fun _ _ _ _ _ ⟨_, _, _, _, _, _, _, _, _, _, _, _, z⟩ => z
end Pv
/-! Pv, part U: set(xs) of several texts (the loop). -/
namespace Pv
open PySem PySem.Spec L2 PyProof.Rows

def addS (l : List Str) (x : Str) : List Str := if l.any (· == x) then l else l ++ [x]
def metS (xs : List Str) : List Str := xs.foldl addS []
theorem addS_any (l : List Str) (x y : Str) : (addS l x).any (· == y) = (l.any (· == y) || decide (y = x)) := by
  unfold addS
  by_cases h : l.any (· == x) = true
  · rw [if_pos h]
    by_cases e : y = x
    · subst e
      rw [h] <;> simp
    · simp [e]
  · rw [if_neg h, List.any_append]
    by_cases e : y = x
    · subst e
      simp
    · have hb : (x == y) = false := beq_eq_false_iff_ne.mpr fun z => e z.symm
      simp [hb, e]
theorem addS_len (l : List Str) (x : Str) : (addS l x).length = if l.any (· == x) then l.length else l.length + 1 := by
  unfold addS
  split <;> simp
theorem metS_succ {xs : List Str} {i : Nat} (h : i < xs.length) : metS (xs.take (i + 1)) = addS (metS (xs.take i)) (xs.getD i Str.empty) := by
  unfold metS
  rw [List.take_succ, List.getElem?_eq_getElem h, List.foldl_append, List.getD_eq_getElem?_getD, List.getElem?_eq_getElem h] <;> rfl
theorem metS_le (xs : List Str) : ∀ l : List Str, (xs.foldl addS l).length ≤ l.length + xs.length := by
  induction xs with
  | nil => exact fun l => Nat.le_refl _
  | cons x r ih =>
    intro l
    have h1 := ih (addS l x)
    have h2 := addS_len l x
    rw [List.foldl_cons, List.length_cons]
    split at h2 <;> omega

section
variable {P : Program} {w : World} {A : Around} {R : Result → Shared → Prop} {I : Addr} {fp wr : List Addr} {G : Array GenState → Array GenState → Prop} {n : Nat} {Z : Nat → Value → Prop} {St : Nat → Shared → Prop}
end
end Pv
/-! Pv, part U2: a set of tuples of texts: what is put into it. -/
namespace Pv
open PySem PySem.Spec L2 PyProof.Rows

section
variable (P : Program) (w : World)
/-- a tuple of texts -/
abbrev TK (h : Heap) (k : List Str) (b : Addr) : Prop := IsTupleKey (PySem.strKind P w) h k b
def kH (k : List Str) : Int := tupleKeyHash (PySem.strKind P w) k
abbrev KA := List Str × Addr
def rowsT (L : List KA) : List (Int × Value) := L.map fun e => (kH P w e.1, .ref e.2)
def hashesT (L : List KA) : List Int := L.map fun e => kH P w e.1
/-- the set at a holds just L -/
structure Held (h : Heap) (a : Addr) (L : List KA) (es : Array (Int × Value)) (t : SetTable) : Prop where
  obj : ∃ o ep, h.get? a = some o ∧ o.ExactSet ∧ o.data = .set es ep t
  row : es.toList = rowsT P w L
  tbl : TabOk t (hashesT P w L)
  one : (L.map (·.1)).Nodup
  key : ∀ e ∈ L, TK P w h e.1 e.2
  ord : w.params.followText "set-order" = true ∨ t.led = true
  gap : L.length * 5 < t.mask * 3
  few : L.length < 64
end
section
variable {P : Program} {w : World} {A : Around} {E : Value → Shared → Prop} {s : Shared} {a x : Addr} {L : List KA} {es : Array (Int × Value)} {t : SetTable} {k : List Str} {h h' : Heap}
theorem rowsT_len : (rowsT P w L).length = L.length := by unfold rowsT; rw [List.length_map]
theorem hashesT_len : (hashesT P w L).length = L.length := by unfold hashesT; rw [List.length_map]
theorem Held.many (S : Held P w h a L es t) : es.size = L.length := by
  have e := congrArg List.length S.row
  rw [rowsT_len, Array.length_toList] at e
  exact e
theorem Held.fit (S : Held P w h a L es t) : t.fits es.size = true := by
  have e1 := S.tbl.sz
  rw [hashesT_len] at e1
  have e2 := S.many
  have e3 := S.gap
  unfold SetTable.fits SetTable.fill
  rw [S.tbl.dm, Bool.and_eq_true, beq_iff_eq, decide_eq_true_eq]
  constructor
  · omega
  · show t.place.size + 0 ≤ t.mask
    omega
theorem Held.at (S : Held P w h a L es t) {i : Nat} {e : KA} (q : L[i]? = some e) : es[i]? = some (kH P w e.1, Value.ref e.2) := by
  have z : es.toList[i]? = some (kH P w e.1, Value.ref e.2) := by
    rw [S.row]
    unfold rowsT
    rw [List.getElem?_map, q]
    rfl
  rwa [Array.getElem?_toList] at z
theorem Held.stays (S : Held P w h a L es t) : ¬ t.gaveWay = true := by
  have z := mask_odd S.tbl.mok
  unfold SetTable.gaveWay
  rw [z]
  decide
/-! small questions asked of tuples of texts -/
theorem class_str (n : Nat) (y : Str) (u : Tok) : ofAClassStatement n (.str y u) = pure false := by cases n <;> rfl
theorem byval_str (n : Nat) (y : Str) (u : Tok) : hashByValue n (.str y u) = pure false := by cases n <;> rfl
theorem strs_of {ks : List Str} {vs : List Value} (i : ItemsAre (PySem.strKind P w) ks vs) : ∀ v ∈ vs, ∃ y u, v = Value.str y u := by
  induction i with
  | nil => exact fun v hv => absurd hv (by simp)
  | @cons k0 v0 ks0 vs0 h1 _ ih =>
    intro v hv
    rcases List.mem_cons.mp hv with rfl | z
    · cases v <;> first | exact ⟨_, _, rfl⟩ | cases h1
    · exact ih v z
theorem class_tk {Q : Bool → Shared → Prop} (q : TK P w s.heap k x) (z : Q false s) : wpAny (model P w) A (ofAClassStatement 8 (.ref x)) Q E s := by
  have ty := q.typeIs
  obtain ⟨o, its, n, q1, _, q2, q3⟩ := q
  unfold ofAClassStatement
  refine wpAny_bind (wpAny_typeOf ty ?_)
  dsimp only
  have e0 : (("tuple" : String) == "tuple") = true := by decide
  simp only [e0, if_true, Bool.not_true, Bool.false_eq_true, if_false]
  try refine wpAny_bind (wpAny_pure ?_)
  try simp only [Bool.not_true, Bool.false_eq_true, if_false]
  show wpAny (model P w) A (seqItems? (.ref x) >>= _) Q E s
  refine wpAny_bind (wpAny_seqItems q1 q2 ?_)
  dsimp only
  refine wpAny_bind ?_
  show wpAny (model P w) A (forIn its _ _) _ E s
  rw [← Array.forIn_toList]
  refine wpAny_forIn_list _ (fun more r s1 => r.1 = none ∧ s1 = s ∧ ∀ v ∈ more, ∃ y u, v = Value.str y u) _ ?_ ?_ _ _ ⟨rfl, rfl, strs_of q3⟩
  · rintro v more r s1 ⟨e1, rfl, e2⟩
    obtain ⟨y, u, rfl⟩ := e2 v List.mem_cons_self
    rw [class_str]
    refine wpAny_bind (wpAny_pure ?_)
    simp only [Bool.false_eq_true, if_false]
    exact wpAny_pure ⟨rfl, rfl, fun v0 m0 => e2 v0 (List.mem_cons_of_mem _ m0)⟩
  · rintro ⟨r1, r2⟩ s1 ⟨e1, rfl, _⟩
    dsimp only at e1
    rw [e1]
    exact wpAny_pure z
theorem byval_tk {Q : Bool → Shared → Prop} (q : TK P w s.heap k x) (z : ∀ b, Q b s) : wpAny (model P w) A (hashByValue 8 (.ref x)) Q E s := by
  have ty := q.typeIs
  obtain ⟨o, its, n, q1, _, q2, q3⟩ := q
  unfold hashByValue
  refine wpAny_bind (wpAny_specialOf ty PySem.F.slot_tuple_hash.lookup ?_)
  show wpAny (model P w) A (seqItems? (.ref x) >>= _) Q E s
  refine wpAny_bind (wpAny_seqItems q1 q2 ?_)
  refine wpAny_bind ?_
  show wpAny (model P w) A (forIn its _ _) _ E s
  rw [← Array.forIn_toList]
  refine wpAny_forIn_list _ (fun more r s1 => s1 = s ∧ ∀ v ∈ more, ∃ y u, v = Value.str y u) _ ?_ ?_ _ _ ⟨rfl, strs_of q3⟩
  · rintro v more r s1 ⟨rfl, e2⟩
    obtain ⟨y, u, rfl⟩ := e2 v List.mem_cons_self
    rw [byval_str]
    refine wpAny_bind (wpAny_pure ?_)
    simp only [Bool.not_false, if_true]
    refine wpAny_pure ?_
    exact wpAny_pure (z _)
  · rintro ⟨r1, r2⟩ s1 ⟨rfl, _⟩
    cases r1 <;> exact wpAny_pure (z _)
theorem unseen_tk {Q : Bool → Shared → Prop} (q : TK P w s.heap k x) {ys : List Value} (hy : ∀ y ∈ ys, ∃ k2 b, y = Value.ref b ∧ TK P w s.heap k2 b) (z : Q false s) : wpAny (model P w) A (searchCouldBeSeen (.ref x) ys) Q E s := by
  unfold searchCouldBeSeen
  refine wpAny_bind ?_
  refine wpAny_forIn_list _ (fun more r s1 => r.1 = none ∧ s1 = s ∧ ∀ y ∈ more, ∃ k2 b, y = Value.ref b ∧ TK P w s.heap k2 b) _ ?_ ?_ _ _ ⟨rfl, rfl, hy⟩
  · rintro v more r s1 ⟨e1, rfl, e2⟩
    obtain ⟨k2, b, rfl, q2⟩ := e2 v List.mem_cons_self
    have e3 : ∀ y ∈ more, ∃ k3 b3, y = Value.ref b3 ∧ TK P w s1.heap k3 b3 := fun v0 m0 => e2 v0 (List.mem_cons_of_mem _ m0)
    dsimp only
    by_cases c : (x == b || (carriedByValue (.ref x) && carriedByValue (.ref b))) = true
    · exact wp_if_pos c (wpAny_pure ⟨rfl, rfl, e3⟩)
    · refine wp_if_neg c (wpAny_bind (wpAny_eqIsQuiet_tuple q ?_))
      simp only [Bool.not_true, Bool.false_eq_true, if_false]
      refine wpAny_bind (wpAny_eqIsQuiet_tuple q2 ?_)
      simp only [Bool.not_true, Bool.false_eq_true, if_false]
      refine wpAny_bind (class_tk q ?_)
      simp only [Bool.false_eq_true, if_false]
      refine wpAny_bind (class_tk q2 ?_)
      simp only [Bool.false_eq_true, if_false]
      exact wpAny_pure ⟨rfl, rfl, e3⟩
  · rintro ⟨r1, r2⟩ s1 ⟨e1, rfl, _⟩
    dsimp only at e1
    rw [e1]
    exact wpAny_pure z

/-! the way of a search -/
def pth (m : Nat) (g : Int) (c : Nat) : SetTable.Probe := nth m (runAt m (SetTable.bits g % (m + 1)) (SetTable.bits g)) c
theorem pth_j (m : Nat) (g : Int) (c : Nat) : (pth m g c).j = way m g c := rfl
theorem pth_add (m : Nat) (g : Int) (c d : Nat) : nth m (pth m g c) d = pth m g (c + d) := (nth_add m c _ d).symm
theorem pth_bare (m : Nat) (g : Int) (c : Nat) : (pth m g c).dummy = none := by
  have all : ∀ (c : Nat) (p : SetTable.Probe), p.dummy = none → (nth m p c).dummy = none := by
    intro c
    induction c with
    | zero => exact fun p q => q
    | succ c ih =>
      intro p q
      refine ih (adv m p) ?_
      unfold adv
      split <;> exact q
  exact all c _ rfl
def hashIn (es : Array (Int × Value)) : Nat → Int := fun i => (es[i]?.map (·.1)).getD 0
theorem Held.hash (S : Held P w h a L es t) {i : Nat} {e : KA} (q : L[i]? = some e) : hashIn es i = kH P w e.1 := by
  unfold hashIn
  rw [S.at q]
  rfl
theorem seek (S : Held P w s.heap a L es t) (q : TK P w s.heap k x) (hu : A.units < cLine) {n : Nat} (n1 : n < 10 * SetTable.turns t.mask) (n2 : way t.mask (kH P w k) n ∉ t.place.toList) (n3 : ∀ c < n, way t.mask (kH P w k) c ∈ t.place.toList)
    {Q : SetFound → Shared → Prop} (yes : (∃ e ∈ L, e.1 = k) → Q (.there none) s) (no : (∀ e ∈ L, e.1 ≠ k) → Q (.free (way t.mask (kH P w k) n) false) s) :
    ∀ (f c : Nat) (st : Option SetTable.Probe), st.getD (t.probeStart (kH P w k)) = pth t.mask (kH P w k) c → c ≤ n → n - c < f →
      (∀ (i : Nat) (e : KA), L[i]? = some e → e.1 = k → ∃ d, c ≤ d ∧ d < n ∧ t.place.toList[i]? = some (way t.mask (kH P w k) d)) →
      wpAny (model P w) A (setSearchFrom a (.ref x) (kH P w k) true f st) Q E s
  | 0, c, st, _, _, f0, _ => absurd f0 (Nat.not_lt_zero _)
  | f + 1, c, st, e0, c0, f0, all => by
    obtain ⟨o, ep, o1, o2, o3⟩ := S.obj
    rw [setSearchFrom_succ]
    refine wpAny_bind (wpAny_setState_of o1 o3 S.fit ?_)
    dsimp only
    refine wp_if_neg S.stays ?_
    try refine wpAny_bind (wpAny_pure ?_)
    have jj : ∀ d, (nth t.mask (pth t.mask (kH P w k) c) d).j = way t.mask (kH P w k) (c + d) := fun d => by rw [pth_add, pth_j]
    have spec := go_spec t S.tbl.ris S.tbl.dm (hashIn es) (kH P w k) (10 * SetTable.turns t.mask) (n - c) (pth t.mask (kH P w k) c) (pth_bare _ _ _) (by omega)
      (fun d hd => by rw [jj]; exact n3 (c + d) (by omega)) (by rw [jj, show c + (n - c) = n by omega]; exact n2)
    rcases spec with ⟨d, i, d1, d2, d3, d4, d5⟩ | ⟨d4, d5⟩
    · have met : t.probe (hashIn es) (kH P w k) (st.getD (t.probeStart (kH P w k))) = some (.candidate (way t.mask (kH P w k) (c + d)) i (pth t.mask (kH P w k) (c + (d + 1)))) := by
        rw [e0, ← pth_add, ← jj]
        exact d5
      unfold hashIn at met
      rw [met]
      dsimp only
      rw [jj] at d2
      have il : i < L.length := by
        have z1 := (List.getElem?_eq_some_iff.mp d2).1
        have z2 := S.tbl.sz
        rw [hashesT_len] at z2
        rw [Array.length_toList] at z1
        omega
      obtain ⟨e, le⟩ : ∃ e, L[i]? = some e := ⟨_, List.getElem?_eq_getElem il⟩
      have em : e ∈ L := List.mem_of_getElem? le
      have slot : t.slot (way t.mask (kH P w k) (c + d)) = .live i := slot_live S.tbl.ris d2
      have more : wpAny (model P w) A (searchRest a (.ref x) (kH P w k) true f es t (way t.mask (kH P w k) (c + d)) i (pth t.mask (kH P w k) (c + (d + 1)))) Q E s := by
        unfold searchRest
        rw [S.at le]
        dsimp only
        refine wpAny_bind (wpAny_holding (wpAny_eqBool_tuple hu (S.key e em) q ?_))
        refine wpAny_bind (wpAny_setState_of o1 o3 S.fit ?_)
        dsimp only
        by_cases ek : e.1 = k
        · exact wp_if_pos (by simp [ek]) (wpAny_pure (yes ⟨e, em, ek⟩))
        · refine wp_if_neg (by simp [ek]) ?_
          try refine wpAny_bind (wpAny_pure ?_)
          rw [sameMem]
          dsimp only
          simp only [if_true, slot, S.at le]
          refine wpAny_bind (wpAny_isSame_ref_self (wpAny_bind (wpAny_pure ?_)))
          simp only [if_true]
          refine wp_if_neg (by simp [ek]) ?_
          refine seek S q hu n1 n2 n3 yes no f (c + (d + 1)) _ rfl (by omega) (by omega) fun j g lg gk => ?_
          obtain ⟨b, b1, b2, b3⟩ := all j g lg gk
          refine ⟨b, ?_, b2, b3⟩
          rcases Nat.lt_trichotomy b (c + d) with y | y | y
          · exact absurd ((S.hash lg).trans (congrArg (kH P w) gk)) (d4 (b - c) j (by omega) (by rw [jj, show c + (b - c) = b by omega]; exact b3))
          · rw [y] at b3
            have s2 := slot_live S.tbl.ris b3
            rw [slot] at s2
            injection s2 with s2
            subst s2
            rw [le] at lg
            cases lg
            exact absurd gk ek
          · omega
      by_cases ld : t.led = true
      · refine wp_if_neg (by simp [ld]) ?_
        try refine wpAny_bind (wpAny_pure ?_)
        exact more
      · refine wp_if_pos (by simp [ld]) ?_
        refine wpAny_bind (unseen_tk q (fun y hy => ?_) ?_)
        · obtain ⟨r, r1, rfl⟩ := List.mem_map.mp hy
          have r2 : r ∈ es.toList := by simpa using (show r ∈ es ∧ r.1 = kH P w k by simpa using r1).1
          rw [S.row] at r2
          obtain ⟨g, g1, rfl⟩ := List.mem_map.mp r2
          exact ⟨g.1, g.2, rfl, S.key g g1⟩
        · refine wp_if_neg (by decide) ?_
          try refine wpAny_bind (wpAny_pure ?_)
          exact more
    · have met : t.probe (hashIn es) (kH P w k) (st.getD (t.probeStart (kH P w k))) = some (.empty (way t.mask (kH P w k) n) none) := by
        have z := jj (n - c)
        rw [show c + (n - c) = n by omega] at z
        rw [e0, ← z]
        exact d5
      unfold hashIn at met
      rw [met]
      dsimp only
      refine wpAny_pure (no fun e em ek => ?_)
      obtain ⟨i, le⟩ := List.mem_iff_getElem?.mp em
      obtain ⟨b, b1, b2, b3⟩ := all i e le ek
      exact d4 (b - c) i (by omega) (by rw [jj, show c + (b - c) = b by omega]; exact b3) ((S.hash le).trans (congrArg (kH P w) ek))
end
end Pv
namespace Pv
open PySem PySem.Spec L2 PyProof.Rows
section
variable {P : Program} {w : World} {A : Around} {E : Value → Shared → Prop} {s : Shared} {a x : Addr} {L : List KA} {es : Array (Int × Value)} {t : SetTable} {k : List Str} {h h' : Heap}
theorem tk_other {b : Addr} {o : PySem.Obj} {ep : Nat} (q : TK P w h k b) (o1 : h.get? a = some o) (o3 : o.data = .set es ep t) (sb : Heap.SameBut a h h') : TK P w h' k b := by
  obtain ⟨o', its, n, q1, q2, q3, q4⟩ := q
  refine ⟨o', its, n, (sb.2 b fun z => ?_).trans q1, q2, q3, q4⟩
  subst z
  rw [o1] at q1
  cases q1
  rw [o3] at q3
  cases q3
theorem seek_all (S : Held P w s.heap a L es t) (q : TK P w s.heap k x) (hu : A.units < cLine) {Q : SetFound → Shared → Prop} (yes : (∃ e ∈ L, e.1 = k) → Q (.there none) s)
    (no : ∀ n, (∀ e ∈ L, e.1 ≠ k) → way t.mask (kH P w k) n ∉ t.place.toList → (∀ c < n, way t.mask (kH P w k) c ∈ t.place.toList) → Q (.free (way t.mask (kH P w k) n) false) s) :
    wpAny (model P w) A (setSearch a (.ref x) (kH P w k) true) Q E s := by
  have g := S.gap
  obtain ⟨n, n1, n2, n3⟩ := S.tbl.first (by rw [hashesT_len]; omega) (kH P w k)
  have big : n < 100000 := by
    have : 10 * SetTable.turns t.mask ≤ 1420 := by
      unfold SetTable.turns
      rcases S.tbl.mok with e | e | e <;> omega
    omega
  unfold setSearch
  refine seek S q hu n1 n2 n3 yes (fun z => no n z n2 n3) 100000 0 none rfl (Nat.zero_le n) (by omega) fun i e le ek => ?_
  have hi : (hashesT P w L)[i]? = some (kH P w k) := by
    unfold hashesT
    rw [List.getElem?_map, le, ← ek]
    rfl
  have il : i < t.place.toList.length := by
    have z1 := (List.getElem?_eq_some_iff.mp le).1
    have z2 := S.tbl.sz
    rw [hashesT_len] at z2
    rw [Array.length_toList]
    omega
  have hj := List.getElem?_eq_getElem il
  obtain ⟨c, c1, c2⟩ := S.tbl.before n2 hi hj
  exact ⟨c, Nat.zero_le c, c1, by rw [hj, c2]⟩
/-- the rows in another order -/
theorem rows_order (row : es.toList = rowsT P w L) (order : Array Nat) (pm : order.toList.Perm (List.range L.length)) :
    ∃ L2 : List KA, (order.filterMap (es[·]?)).toList = rowsT P w L2 ∧ L2.Perm L ∧ hashesT P w L2 = order.toList.map fun i => (es.map (·.1)).getD i 0 := by
  have ent : ∀ i : Nat, es[i]? = (L[i]?).map fun e => (kH P w e.1, Value.ref e.2) := fun i => by
    rw [← Array.getElem?_toList, row]
    unfold rowsT
    rw [List.getElem?_map]
  have step : ∀ l : List Nat, (∀ i ∈ l, i < L.length) → l.filterMap (fun i => es[i]?) = rowsT P w (l.filterMap fun i => L[i]?) ∧ hashesT P w (l.filterMap fun i => L[i]?) = l.map fun i => (es.map (·.1)).getD i 0 := by
    intro l hl
    induction l with
    | nil => exact ⟨rfl, rfl⟩
    | cons i l ih =>
      have il := hl i List.mem_cons_self
      obtain ⟨i1, i2⟩ := ih fun j hj => hl j (List.mem_cons_of_mem _ hj)
      have le : L[i]? = some L[i] := List.getElem?_eq_getElem il
      have ee : es[i]? = some (kH P w L[i].1, Value.ref L[i].2) := by rw [ent, le]; rfl
      rw [List.filterMap_cons_some (f := fun i => es[i]?) ee, List.filterMap_cons_some (f := fun i => L[i]?) le, List.map_cons, i1]
      refine ⟨rfl, ?_⟩
      show kH P w L[i].1 :: hashesT P w _ = _
      rw [i2]
      congr 1
      have e5 : (es.map (·.1))[i]? = some (kH P w L[i].1) := by rw [Array.getElem?_map, ee]; rfl
      simp [Array.getD_eq_getD_getElem?, e5]
  obtain ⟨e1, e2⟩ := step order.toList fun i hi => List.mem_range.mp (pm.mem_iff.mp hi)
  have whole : (List.range L.length).filterMap (fun i => L[i]?) = L := by
    refine List.ext_getElem? fun n => ?_
    have : ∀ m, m ≤ L.length → (List.range m).filterMap (fun i => L[i]?) = L.take m := by
      intro m
      induction m with
      | zero => exact fun _ => rfl
      | succ m ih =>
        intro hm
        rw [List.range_succ, List.filterMap_append, ih (by omega), List.take_succ]
        simp [List.getElem?_eq_getElem (show m < L.length by omega)]
    rw [this L.length (Nat.le_refl _), List.take_length]
  refine ⟨order.toList.filterMap fun i => L[i]?, by rw [Array.toList_filterMap]; exact e1, ?_, e2⟩
  have p2 := pm.filterMap fun i => L[i]?
  rw [whole] at p2
  exact p2
end
end Pv
namespace Pv
open PySem PySem.Spec L2 PyProof.Rows
section
variable {P : Program} {w : World} {A : Around} {E : Value → Shared → Prop} {s : Shared} {a x : Addr} {L : List KA} {es : Array (Int × Value)} {t : SetTable} {k : List Str} {h h' : Heap}
/-- what a table needs ahead of a row's laying -/
theorem fits_of (sz : t.place.size = es.size) (dm : t.dummies = #[]) (le : es.size ≤ t.mask) : t.fits es.size = true := by
  unfold SetTable.fits SetTable.fill
  rw [dm, Bool.and_eq_true, beq_iff_eq, decide_eq_true_eq]
  exact ⟨sz, by show t.place.size + 0 ≤ t.mask; omega⟩
theorem rows_size (row : es.toList = rowsT P w L) : es.size = L.length := by
  have e := congrArg List.length row
  rw [rowsT_len, Array.length_toList] at e
  exact e
theorem relay {o : PySem.Obj} {ep wanted M : Nat} {Q : Unit → Shared → Prop} (o1 : s.heap.get? a = some o) (o2 : o.ExactSet) (o3 : o.data = .set es ep t) (row : es.toList = rowsT P w L) (sz : t.place.size = es.size) (dm : t.dummies = #[]) (le : es.size ≤ t.mask)
    (one : (L.map (·.1)).Nodup) (key : ∀ e ∈ L, TK P w s.heap e.1 e.2) (ord : w.params.followText "set-order" = true ∨ t.led = true) (few : L.length < 64)
    (m1 : SetTable.sizeAbove wanted - 1 = M) (m2 : MaskOk M) (m3 : SetTable.sizeAbove wanted ≤ 128) (gap : L.length * 5 < M * 3)
    (z : ∀ h1 L1 es1 t1, Heap.SameBut a s.heap h1 → Held P w h1 a L1 es1 t1 → L1.Perm L → Q () { s with heap := h1 }) : wpAny (model P w) A (setRelay a wanted) Q E s := by
  have n := rows_size row
  obtain ⟨t1, order, r1, r2, r3, r4, r5, _, r7⟩ := relaid_ok t (hs := es.map (·.1)) (wanted := wanted) m1 m2 (by rw [Array.size_map, n]; omega)
  rw [Array.size_map, n] at r2
  obtain ⟨L1, p1, p2, p3⟩ := rows_order row order r2
  rw [← p3] at r3
  have n1 : (order.filterMap (es[·]?)).size = es.size := by rw [rows_size p1, p2.length_eq, n]
  have big : es.size ≤ sizeLine := by rw [n, sizeLine_eq]; omega
  rw [setRelay_eq]
  refine wpAny_bind (wpAny_setState_of o1 o3 (fits_of sz dm le) ?_)
  dsimp only
  refine wp_if_neg (by rw [sizeLine_eq]; omega) ?_
  try refine wpAny_bind (wpAny_pure ?_)
  rw [r1]
  dsimp only
  refine wpAny_bind (wp_if_neg (by rw [n1]; simp) ?_)
  try refine wpAny_bind (wpAny_pure ?_)
  refine wpAny_pure ?_
  dsimp only
  refine wpAny_storeSet_of o1 o3 ?_ (by rw [n1]; exact big)
  have sb : Heap.SameBut a s.heap (s.heap.update a (Obj.putSet (order.filterMap (es[·]?)) t1)) := Heap.SameBut.update ..
  refine z _ L1 _ t1 sb ⟨⟨_, _, store_at o1 o3, ⟨o2.1, o2.2.1, o2.2.2⟩, rfl⟩, p1, r3, ?_, fun e he => tk_other (key e (p2.mem_iff.mp he)) o1 o3 sb, by rw [r5]; exact ord, ?_, by rw [p2.length_eq]; exact few⟩ p2
  · exact (p2.map (·.1)).nodup_iff.mpr one
  · rw [p2.length_eq, r4]; exact gap
theorem put_in (L : List KA) (n : Nat) (e : KA) : (L.take n ++ e :: L.drop n).Perm (e :: L) := by
  have z : (L.take n ++ e :: L.drop n).Perm (e :: (L.take n ++ L.drop n)) := List.perm_middle
  rwa [List.take_append_drop] at z
theorem plain_tab {hs : List Int} {b : Bool} (T : TabOk t hs) : TabOk (if b = true then t else { t with plain := false }) hs := by
  cases b
  · exact ⟨T.ris, T.dm, T.sz, T.mok, T.bd, T.reach⟩
  · exact T
/-- one more -/
theorem put_ok (S : Held P w s.heap a L es t) (q : TK P w s.heap k x) (hu : A.units < cLine) (few : L.length + 1 < 64) {Q : Bool → Shared → Prop}
    (z : ∀ b h1 L1 es1 t1, Heap.SameBut a s.heap h1 → Held P w h1 a L1 es1 t1 → ((∃ e ∈ L, e.1 = k) → L1 = L) → ((∀ e ∈ L, e.1 ≠ k) → L1.Perm ((k, x) :: L)) → Q b { s with heap := h1 }) :
    wpAny (model P w) A (setAddHashed a (.ref x) (kH P w k)) Q E s := by
  obtain ⟨o, ep, o1, o2, o3⟩ := S.obj
  have n := S.many
  have g := S.gap
  unfold setAddHashed
  refine wpAny_holding ?_
  rw [show (100000 : Nat) = 99999 + 1 from rfl, setAddHashedIn_succ]
  refine wpAny_bind (wpAny_setState_of o1 o3 S.fit ?_)
  dsimp only
  refine wp_if_neg (by simp [byScan, Value.scannable]) ?_
  try refine wpAny_bind (wpAny_pure ?_)
  refine wpAny_bind (seek_all S q hu (fun y => ?_) fun c y c1 c2 => ?_)
  · dsimp only
    exact wpAny_pure (z false s.heap L es t (Heap.SameBut.refl a s.heap) S (fun _ => rfl) fun no => let ⟨e, e1, e2⟩ := y; absurd e2 (no e e1))
  · dsimp only
    refine wpAny_bind (wpAny_setState_of o1 o3 S.fit ?_)
    dsimp only
    obtain ⟨u1, u2, u3, u4, u5, u6, _, _, u9⟩ := S.tbl.put c1 c2
    generalize hp : t.put (way t.mask (kH P w k) c) = pt at u1 u3 u4 u5 u6 u9 ⊢
    obtain ⟨t0, n0⟩ := pt
    dsimp only at u1 u3 u4 u5 u6 u9 ⊢
    subst u1
    -- behind the question whether hashes are by value
    have rest : ∀ b : Bool, wpAny (model P w) A (do
        storeSet a (SetTable.insertAt es (SetTable.below t.place (way t.mask (kH P w k) c)) (kH P w k, Value.ref x)) (if b = true then t0 else { t0 with plain := false })
        if (!false && SetTable.tooFull (if b = true then t0 else { t0 with plain := false })) = true then setRelay a (SetTable.grown (es.size + 1))
        return true) Q E s := fun b => by
      have T1 := plain_tab (b := b) u3
      have f1 : (if b = true then t0 else { t0 with plain := false }).mask = t.mask := by cases b <;> exact u4
      have f2 : (if b = true then t0 else { t0 with plain := false }).led = t.led := by cases b <;> exact u5
      have f3 : (if b = true then t0 else { t0 with plain := false }).fill = (hashesT P w L).length + 1 := by cases b <;> exact u9
      generalize (if b = true then t0 else { t0 with plain := false }) = t1 at T1 f1 f2 f3 ⊢
      generalize SetTable.below t.place (way t.mask (kH P w k) c) = i0 at u2 T1 ⊢
      have row1 : (SetTable.insertAt es i0 (kH P w k, Value.ref x)).toList = rowsT P w (L.take i0 ++ (k, x) :: L.drop i0) := by
        rw [SetTable.toList_insertAt, S.row]
        unfold rowsT
        rw [List.map_append, List.map_cons, List.map_take, List.map_drop]
      have hs1 : (hashesT P w L).take i0 ++ kH P w k :: (hashesT P w L).drop i0 = hashesT P w (L.take i0 ++ (k, x) :: L.drop i0) := by
        unfold hashesT
        rw [List.map_append, List.map_cons, List.map_take, List.map_drop]
      rw [hs1] at T1
      have pm := put_in L i0 (k, x)
      have n1 : (L.take i0 ++ (k, x) :: L.drop i0).length = L.length + 1 := pm.length_eq
      have one1 : ((L.take i0 ++ (k, x) :: L.drop i0).map (·.1)).Nodup := by
        refine (pm.map (·.1)).nodup_iff.mpr ?_
        rw [List.map_cons]
        refine List.nodup_cons.mpr ⟨fun m => ?_, S.one⟩
        obtain ⟨e, e1, e2⟩ := List.mem_map.mp m
        exact y e e1 e2
      generalize L.take i0 ++ (k, x) :: L.drop i0 = L1 at row1 T1 pm n1 one1
      have nes : (SetTable.insertAt es i0 (kH P w k, Value.ref x)).size = L.length + 1 := by rw [rows_size row1, n1]
      generalize SetTable.insertAt es i0 (kH P w k, Value.ref x) = es1 at row1 nes ⊢
      refine wpAny_bind (wpAny_storeSet_of o1 o3 ?_ (by rw [nes, sizeLine_eq]; omega))
      have sb : Heap.SameBut a s.heap (s.heap.update a (Obj.putSet es1 t1)) := Heap.SameBut.update ..
      have st := store_at (es' := es1) (t' := t1) o1 o3
      generalize s.heap.update a (Obj.putSet es1 t1) = h1 at sb st ⊢
      have key1 : ∀ e ∈ L1, TK P w h1 e.1 e.2 := fun e he => by
        rcases List.mem_cons.mp (pm.mem_iff.mp he) with rfl | m
        · exact tk_other q o1 o3 sb
        · exact tk_other (S.key e m) o1 o3 sb
      have ord1 : w.params.followText "set-order" = true ∨ t1.led = true := by rw [f2]; exact S.ord
      rw [hashesT_len] at f3
      have no' : ¬ ∃ e ∈ L, e.1 = k := fun ⟨e, e1, e2⟩ => y e e1 e2
      by_cases tf : t1.tooFull = true
      · first
          | (refine wpAny_bind ?_; refine wp_if_pos (by simp [tf]) ?_)
          | (refine wp_if_pos (by simp [tf]) ?_; refine wpAny_bind ?_)
        have full : (L.length + 1) * 5 ≥ t1.mask * 3 := by
          have v := tf
          unfold SetTable.tooFull at v
          rw [decide_eq_true_eq, f3] at v
          exact v
        have sz1 : t1.place.size = es1.size := by
          have v := T1.sz
          rw [hashesT_len, n1] at v
          rw [v, nes]
        have two : (t.mask = 7 ∧ L.length = 4) ∨ (t.mask = 31 ∧ L.length = 18) := by
          rw [f1] at full
          rcases S.tbl.mok with e | e | e <;> rw [e] at full g
          · exact .inl ⟨e, by omega⟩
          · exact .inr ⟨e, by omega⟩
          · omega
        have le1 : es1.size ≤ t1.mask := by
          rw [nes, f1]
          rcases two with ⟨e, e2⟩ | ⟨e, e2⟩ <;> omega
        rw [n]
        have lay : ∀ M, SetTable.sizeAbove (SetTable.grown (L.length + 1)) - 1 = M → MaskOk M → SetTable.sizeAbove (SetTable.grown (L.length + 1)) ≤ 128 → (L.length + 1) * 5 < M * 3 →
            wpAny (model P w) A (setRelay a (SetTable.grown (L.length + 1))) (fun _ s1 => wpAny (model P w) A (pure true) Q E s1) E { s with heap := h1 } := fun M c1 c2 c3 c4 => by
          refine relay (s := { s with heap := h1 }) st ⟨o2.1, o2.2.1, o2.2.2⟩ rfl row1 sz1 T1.dm le1 one1 key1 ord1 (by rw [n1]; exact few) c1 c2 c3 (by rw [n1]; exact c4) ?_
          intro h2 L2 es2 t2 sb2 S2 pm2
          exact wpAny_pure (z true h2 L2 es2 t2 (sb.trans sb2) S2 (fun v => absurd v no') fun _ => pm2.trans pm)
        rcases two with ⟨_, e2⟩ | ⟨_, e2⟩
        · exact lay 31 (by rw [e2, size_20]) (.inr (.inl rfl)) (by rw [e2, size_20]; decide) (by omega)
        · exact lay 127 (by rw [e2, size_76]) (.inr (.inr rfl)) (by rw [e2, size_76]; decide) (by omega)
      · first
          | refine wp_if_neg (by simp [tf]) ?_
          | (refine wpAny_bind ?_; refine wp_if_neg (by simp [tf]) ?_; refine wpAny_pure ?_)
        have v := tf
        unfold SetTable.tooFull at v
        rw [decide_eq_true_eq, f3] at v
        exact wpAny_pure (z true h1 L1 es1 t1 sb ⟨⟨_, _, st, ⟨o2.1, o2.2.1, o2.2.2⟩, rfl⟩, row1, T1, one1, key1, ord1, by rw [n1]; omega, by rw [n1]; exact few⟩ (fun v => absurd v no') fun _ => pm)
    by_cases pl : t0.plain = true
    · first
        | (refine wpAny_bind ?_; refine wp_if_pos pl ?_; refine byval_tk q fun b => ?_)
        | refine wp_if_pos pl (wpAny_bind (byval_tk q fun b => ?_))
      exact rest b
    · first
        | (refine wpAny_bind ?_; refine wp_if_neg pl ?_; refine wpAny_pure ?_)
        | refine wp_if_neg pl ?_
      exact rest true
end
end Pv
/-! Pv, part U3: set(xs) of a list, its items put in one by one; len(set(xs)). -/
namespace Pv
open PySem PySem.Spec L2 PyProof.Rows

def bareSet (w : World) : PySem.Obj := { cls := .type "set", dict := none, data := .set #[] 0 (.fresh 0 0 (!w.params.followText "set-order")) }
section
variable {P : Program} {w : World} {A : Around} {R : Result → Shared → Prop} {I D : Addr} {fp wr : List Addr} {G : Array GenState → Array GenState → Prop} {n : Nat} {Z : Nat → Value → Prop} {St : Nat → Shared → Prop} {h0 : Heap} {J : Nat → Heap → Prop}
/-- old things are there still -/
def Olds (h0 h : Heap) : Prop := ∀ b o, h0.get? b = some o → h.get? b = some o
/-- what putting one item in does -/
def Adds (P : Program) (w : World) (h0 : Heap) (D : Addr) (J : Nat → Heap → Prop) (i : Nat) (v : Value) : Prop := ∀ (B : Around) (s : Shared) (Q : Bool → Shared → Prop) (E : Value → Shared → Prop), B.units < cLine → Olds h0 s.heap → J i s.heap →
  (∀ r h1 tk, Heap.SameBut D s.heap h1 → s.toks ≤ tk → J (i + 1) h1 → Q r { s with heap := h1, toks := tk }) → wpAny (model P w) B (setAdd D v) Q E s
end
section
variable {P : Program} {w : World} {A : Around} {E : Value → Shared → Prop} {s : Shared}
end
end Pv
/-! Pv, part U4: len(set(xs)), xs a list of texts or of tuples of texts. -/
namespace Pv
open PySem PySem.Spec L2 PyProof.Rows

section
variable {α : Type} [DecidableEq α]
end
section
variable {P : Program} {w : World} {h0 : Heap} {D : Addr}
def JS (P : Program) (w : World) (D : Addr) (xs : List Str) (i : Nat) (h : Heap) : Prop := h.SetOf (PySem.strKind P w) D (fun y => (metS (xs.take i)).any (· == y)) (metS (xs.take i)).length
theorem JS.add {xs : List Str} (few : xs.length < 64) {i : Nat} {x : Str} {u : Tok} (hx : xs[i]? = some x) : Adds P w h0 D (JS P w D xs) i (.str x u) := fun B s Q E hu ol j q => by
  have lt := (List.getElem?_eq_some_iff.mp hx).1
  have xd : xs.getD i Str.empty = x := by rw [List.getD_eq_getElem?_getD, hx]; rfl
  have room : (metS (xs.take i)).length + 1 < scanBound := by
    have h1 := metS_le (xs.take i) []
    have h2 : (metS (xs.take i)).length = ((xs.take i).foldl addS []).length := rfl
    rw [List.length_nil, List.length_take] at h1
    unfold scanBound
    omega
  unfold setAdd
  refine wpAny_holding ?_
  refine wpAny_bind ((PySem.strKind P w).pyHash (k := x) (strKind_is _ _ _ _) ?_)
  refine wpAny_setAddHashed_of (knd := PySem.strKind P w) (s := { s with toks := s.toks + 1 }) (strKind_is _ _ _ _) rfl j room fun h1 sb j1 => ?_
  refine q _ h1 _ sb (Nat.le_succ _) (SetOf_congr j1 (fun y => ?_) ?_)
  · rw [metS_succ lt, addS_any, xd]
  · rw [metS_succ lt, addS_len, xd]
theorem JS.first {xs : List Str} {h : Heap} (e : h.get? D = some (bareSet w)) : JS P w D xs 0 h :=
  ⟨_, #[], 0, _, e, ⟨rfl, rfl, rfl⟩, rfl, (fun e he => by simp at he), (fun k => by simp [metS]), (by decide), (by rfl), rfl⟩
/-- the first i keys, each once -/
structure Got (ks : List KA) (i : Nat) (L : List KA) : Prop where
  sub : ∀ e ∈ L, e ∈ ks.take i
  all : ∀ e ∈ ks.take i, ∃ g ∈ L, g.1 = e.1
  len : L.length ≤ i
def JT (P : Program) (w : World) (D : Addr) (ks : List KA) (i : Nat) (h : Heap) : Prop := ∃ L es t, Held P w h D L es t ∧ Got ks i L
theorem JT.keep {ks : List KA} (hk : ∀ e ∈ ks, TK P w h0 e.1 e.2) {i : Nat} {h h' : Heap} (j : JT P w D ks i h) (e : h'.get? D = h.get? D) (ol : Olds h0 h') : JT P w D ks i h' := by
  obtain ⟨L, es, t, S, g⟩ := j
  obtain ⟨o, ep, o1, o2⟩ := S.obj
  refine ⟨L, es, t, ⟨⟨o, ep, e.trans o1, o2⟩, S.row, S.tbl, S.one, fun f hf => ?_, S.ord, S.gap, S.few⟩, g⟩
  obtain ⟨o', its, n, q1, q2⟩ := hk f (List.mem_of_mem_take (g.sub f hf))
  exact ⟨o', its, n, ol _ _ q1, q2⟩
theorem JT.add {ks : List KA} (hk : ∀ e ∈ ks, TK P w h0 e.1 e.2) (few : ks.length < 64) {i : Nat} {e : KA} (he : ks[i]? = some e) : Adds P w h0 D (JT P w D ks) i (.ref e.2) := fun B s Q E hu ol j q => by
  obtain ⟨L, es, t, S, g⟩ := j
  have lt := (List.getElem?_eq_some_iff.mp he).1
  have hx : TK P w s.heap e.1 e.2 := by
    obtain ⟨o', its, n, q1, q2⟩ := hk e (List.mem_of_getElem? he)
    exact ⟨o', its, n, ol _ _ q1, q2⟩
  unfold setAdd
  refine wpAny_holding ?_
  refine wpAny_bind (wpAny_pyHash_tuple hu hx ?_)
  refine put_ok (s := { s with toks := s.toks + (e.1.length + 1) }) S hx hu (by have := g.len; omega) fun r h1 L1 es1 t1 sb S1 c1 c2 => ?_
  refine q r h1 _ sb (Nat.le_add_right _ _) ⟨L1, es1, t1, S1, ?_⟩
  have tk : ks.take (i + 1) = ks.take i ++ [e] := by rw [List.take_succ, he]; rfl
  by_cases y : ∃ f ∈ L, f.1 = e.1
  · rw [c1 y]
    refine ⟨fun f hf => by rw [tk]; exact List.mem_append_left _ (g.sub f hf), fun f hf => ?_, Nat.le_succ_of_le g.len⟩
    rw [tk] at hf
    rcases List.mem_append.mp hf with z | z
    · exact g.all f z
    · rw [List.mem_singleton.mp z]; exact y
  · have pm := c2 fun f hf e1 => y ⟨f, hf, e1⟩
    refine ⟨fun f hf => ?_, fun f hf => ?_, ?_⟩
    · rw [tk]
      rcases List.mem_cons.mp (pm.mem_iff.mp hf) with rfl | z
      · exact List.mem_append_right _ (List.mem_singleton.mpr rfl)
      · exact List.mem_append_left _ (g.sub f z)
    · rw [tk] at hf
      rcases List.mem_append.mp hf with z | z
      · obtain ⟨f2, h2, e2⟩ := g.all f z
        exact ⟨f2, pm.mem_iff.mpr (List.mem_cons_of_mem _ h2), e2⟩
      · rw [List.mem_singleton.mp z]
        exact ⟨(e.1, e.2), pm.mem_iff.mpr (List.mem_cons_self ..), rfl⟩
    · rw [pm.length_eq, List.length_cons]
      have := g.len
      omega
theorem JT.first {ks : List KA} {h : Heap} (e : h.get? D = some (bareSet w)) : JT P w D ks 0 h :=
  ⟨[], #[], .fresh 0 0 (!w.params.followText "set-order"), ⟨⟨_, _, e, ⟨rfl, rfl, rfl⟩, rfl⟩, rfl, ⟨List.Pairwise.nil, rfl, rfl, .inl rfl, fun x hx => (by cases hx), fun i h j hi => (by simp [hashesT] at hi)⟩, List.nodup_nil, fun e he => (by cases he), by
    show _ ∨ (!w.params.followText "set-order") = true
    cases w.params.followText "set-order"
    · exact .inr rfl
    · exact .inl rfl, by show 0 * 5 < 7 * 3; decide, by show 0 < 64; decide⟩, ⟨fun e he => (by cases he), fun e he => (by simp at he), Nat.le_refl _⟩⟩
end

section
variable {X : Cx}
end
section
variable {X : Cx} {ca : CA} {W : WX} {a : Expr} {fa : EF} {pos p p2 q : Pos}
end
end Pv
/-! Pv, part V: calls that leave the store alone; calls with a default; name op= e; sum of a dict's values; displays of dicts; a list unpacked; membership in a table of the module. -/
namespace Pv
open PySem PySem.Spec L2 PyProof.Rows

section
variable {K : PySem.W.Frag} {ca : CA} {F : Addr → Prop} {H : Hp} {as as' : Nat → Addr} {nx nx' : Nat}
mutual
theorem RV.gnd : ∀ (v : Val) (x : V), Pv.gnd v = true → RV K ca F H as nx v x → RV K ca F H as' nx' v x
  | .non, x, _, h => by simp only [RV] at h ⊢; exact h
  | .bl b, x, _, h => by simp only [RV] at h ⊢; exact h
  | .int b, x, _, h => by simp only [RV] at h ⊢; exact h
  | .str b, x, _, h => by simp only [RV] at h ⊢; exact h
  | .tup vs, x, g, h => by
    simp only [RV] at h ⊢
    simp only [Pv.gnd] at g
    obtain ⟨a, xs, e, h1, h2⟩ := h
    exact ⟨a, xs, e, h1, RVs.gnd vs xs g h2⟩
  | .lst vs, x, g, h => by
    simp only [RV] at h ⊢
    simp only [Pv.gnd] at g
    obtain ⟨a, xs, e, f, h1, h2⟩ := h
    exact ⟨a, xs, e, f, h1, RVs.gnd vs xs g h2⟩
  | .rol vs, x, g, h => by
    simp only [RV] at h ⊢
    simp only [Pv.gnd] at g
    obtain ⟨a, xs, e, h1, h2⟩ := h
    exact ⟨a, xs, e, h1, RVs.gnd vs xs g h2⟩
  | .dct t ks vs, x, g, h => by
    simp only [RV] at h ⊢
    simp only [Pv.gnd] at g
    obtain ⟨a, kk, xs, e, f, h0, h1, h2⟩ := h
    exact ⟨a, kk, xs, e, f, h0, h1, RVs.gnd vs xs g h2⟩
  | .ins c fs vs, x, g, h => by
    simp only [RV] at h ⊢
    simp only [Pv.gnd] at g
    obtain ⟨a, dx, ff, e, f, h1, h2, h3⟩ := h
    exact ⟨a, dx, ff, e, f, h1, h2, RVs.gnd vs _ g h3⟩
  | .ndc ks vs, x, g, h => by
    simp only [RV] at h ⊢
    simp only [Pv.gnd, Bool.and_eq_true] at g
    obtain ⟨a, kvs, e, f, h1, h2, h3, h4⟩ := h
    exact ⟨a, kvs, e, f, h1, h2, RVs.gnd ks _ g.1 h3, RVs.gnd vs _ g.2 h4⟩
  | .ref n, x, g, h => by simp only [Pv.gnd] at g; cases g
  | .cls c, x, _, h => by simp only [RV] at h ⊢; exact h
  | .ty n, x, _, h => by simp only [RV] at h ⊢; exact h
  | .rot vs, x, g, h => by
    simp only [RV] at h ⊢
    simp only [Pv.gnd] at g
    obtain ⟨a, xs, e, h1, h2⟩ := h
    exact ⟨a, xs, e, h1, RVs.gnd vs xs g h2⟩
theorem RVs.gnd : ∀ (vs : List Val) (xs : List V), Pv.gnds vs = true → RVs K ca F H as nx vs xs → RVs K ca F H as' nx' vs xs
  | [], xs, _, h => by simp only [RVs] at h ⊢; exact h
  | v :: vs, xs, g, h => by
    simp only [RVs] at h ⊢
    simp only [Pv.gnds, Bool.and_eq_true] at g
    obtain ⟨x, r, e, h1, h2⟩ := h
    exact ⟨x, r, e, RV.gnd v x g.1 h1, RVs.gnd vs r g.2 h2⟩
end
end

theorem spF_loc {K : PySem.W.Frag} {ca : CA} {f : BF} {vs : List V} {H : Hp} {Q : VK} {E : XK} (h : spF K ca (locF f) vs H Q E) : spF K ca f vs H Q E := by
  obtain ⟨F, as, args, st, r, st', R, rvs, e, k⟩ := h
  unfold locF at e
  obtain ⟨g, e⟩ := if_inv e
  split at e
  · rename_i v s1 q
    obtain ⟨gv, e⟩ := if_inv e
    cases e
    refine ⟨F, as, args, ⟨0, []⟩, .ok v, s1, ⟨R.dom, fun n h => absurd h (Nat.not_lt_zero _), fun m n h => absurd h (Nat.not_lt_zero _), fun n o e => by cases e⟩, RVs.gnd args vs g rvs, q, fun F' H' as' x1 R1 => ?_⟩
    have fr : ∀ n, n < st.nx → H' (as n) = H (as n) ∧ (F' (as n) → F (as n)) := fun n hn => x1.frame (as n) (R.here n hn) fun m hm => absurd hm (Nat.not_lt_zero _)
    have x2 : Ext F H as st F' H' as st := ⟨x1.sub, x1.keep, fun _ _ => rfl, Nat.le_refl _, fun n hn e => ⟨e, fr n hn⟩, fun n h1 h2 => absurd h2 (Nat.not_lt.mpr h1), x1.grow, fun a ha _ => x1.frame a ha fun m hm => absurd hm (Nat.not_lt_zero _)⟩
    have R2 : Rel K ca F' H' as st := ⟨R1.dom, fun n hn => x1.grow _ (R.here n hn), R.inj, fun n o e => by
      obtain ⟨h1, h2, h3⟩ := R.live n o e
      exact ⟨h1, fun z => h2 ((fr n h1).2 z), h3.mono x1.sub x1.keep (fun _ _ => rfl) (Nat.le_refl _) (fr n h1).1⟩⟩
    exact fun x rx => k F' H' as x2 R2 x (RV.gnd v x gv rx)
  · cases e
section
variable {P : Program} {w : World} {K : PySem.W.Frag} {mg : Str → Option Value} {base : Heap} {ca : CA} {fa : Addr} {fd : FuncData} {ps : List Str} {k : Nat} {f : BF} {CX : CXT}
theorem loc_ok (F : FnOk P w K mg base CX k fa fd ps (spF K ca f)) : FnOk P w K mg base CX k fa fd ps (spF K ca (locF f)) := F.imp fun _ _ _ _ h => spF_loc h
end

section
variable {X : Cx} {ca : CA} {W : WX} {e a b c o : Expr} {es rest : List Expr} {fa fb fc fo fe : EF} {g : LF} {pos p apos cpos tpos : Pos} {f : BF} {x m : Str} {k : Nat} {ad : Addr} {fd : FuncData} {ps : List Str}
theorem se_callD (tk : L2.Takes X W) (F : FnOk X.prog X.w X.K X.mg X.base (L2.CX X.prog X.w) k ad fd ps (spF X.K ca f)) (hr : Room k X.A) (hg : Gl X x) (hm : X.mg x = some (.ref ad)) (hk : PySem.W.keepIn X.K (.ref ad) = true) (hb : Binds X.K fd ps [.none])
    (ha : SA ca X W (e :: es) g) (hdb : (x == ("__debug__" : Str)) = false := by decide) (he : starEach (e :: es) X.env = (false, eval e X.env) :: starEach es X.env := by rfl) (hpl : (backTo pos (starEach es X.env)).any (·.1) = false := by rfl) :
    SE ca X W (.Call (.Name x p) (e :: es) [] pos) (eCall f (aLast g .non)) :=
  (pe_callSD (E := WE W) (dvs := [.non]) F hr hg hm hk hb (.cons rfl .nil) (passAt tk) ha hdb he hpl).weak fun σ H Q ⟨F, as, env, st, r, st', re, R, e, post⟩ => by
  have e' : bd (g env) (fun vs => f (vs ++ [.non])) st = some (r, st') := by
    rw [← e]
    show _ = bd (bd (g env) fun vs => ret (vs ++ [.non])) (fun vs => f vs) st
    unfold bd
    cases g env st with
    | none => rfl
    | some q =>
      obtain ⟨o, s⟩ := q
      cases o <;> rfl
  exact step_bind re R e' post fun vs s1 e F1 H1 as1 x1 R1 xs rxs post => spF_of R1 (rxs.append (.cons (by simp only [RV]) .nil)) e post

/-! ### name op= e -/
def ipMul : TIp := fun x y H Q => ∃ i j, x = .int i ∧ y = .int j ∧ CMul i j ∧ Q (.int (i * j)) H
theorem ip_mul : PIp X .Mult ipMul := by
  intro pins s σ H x y v u Q I r1 r2 h
  obtain ⟨i, j, e1, e2, hc, q⟩ := h
  subst e1; subst e2
  obtain ⟨t, rfl⟩ := r1
  obtain ⟨t', rfl⟩ := r2
  exact PyProof.Rows.imul_int ⟨.int _, H, I.tok _, ⟨_, rfl⟩, q⟩ hc.ok
theorem bs_inv {α : Type} {env : Env} {x : M α} {f : α → MS} {st st' : Store} {o : OS} (e : bs env x f st = some (o, st')) :
    (∃ a s, x st = some (.ok a, s) ∧ f a s = some (o, st')) ∨ ∃ c v, x st = some (.err c v, st') ∧ o = .er c v env := by
  unfold bs at e
  cases q : x st with
  | none => rw [q] at e; cases e
  | some p =>
    obtain ⟨r, s⟩ := p
    rw [q] at e
    cases r with
    | ok a => exact .inl ⟨a, s, rfl, e⟩
    | err c v => cases e; exact .inr ⟨c, v, rfl, rfl⟩
/-- what a statement name op= e gives -/
theorem ss_augI {i : Nat} {op : Operator} {ti : TIp} (ho : PIp X op ti) (hq : ∀ (m n k : Int) H (Q : VK), intop op m n = some k → Q (.int k) H → ti (.int m) (.int n) H Q) (he : SE ca X W e fe) (hN : X.N.Nodup) (hi : X.N[i]? = some x := by rfl) (hx : Loc X.env.scope x := by first | exact Or.inl rfl | exact Or.inr rfl)
    (hf : X.fn x = true ∨ X.env.scope.names.lookup x = some .local := by first | exact .inl rfl | exact .inr rfl) : SS ca X W (.AugAssign (.Name x p) op e pos) (sAugI i op fe) :=
  (ps_aug hN hi hx he ho hf).weak fun D σ H ⟨F, as, env, st, r, st', re, R, e, post⟩ => by
  rcases bs_inv e with ⟨v, s, q, e1⟩ | ⟨c, v, q, _⟩
  · obtain ⟨v', q1, h1, h2⟩ := lift_inv q
    cases h1
    subst h2
    obtain ⟨x, e2, rx⟩ := re.2 i v (by
      cases z : env[i]? with
      | none => rw [z] at q1; cases q1
      | some o => rw [z] at q1; exact congrArg some q1)
    refine ⟨x, e2, step_bs re R e1 post fun w s1 e F1 H1 as1 x1 R1 y ry post => ?_⟩
    split at e
    · rename_i m n
      cases q3 : intop op m n with
      | none => rw [q3] at e; exact (badS_inv e).elim
      | some k =>
        rw [q3] at e
        simp only [RV] at rx ry
        subst rx; subst ry
        refine hq m n k _ _ q3 ?_
        obtain ⟨env', e', rfl, rfl⟩ := storeAt_inv e
        simp only [bindT] at e'
        obtain ⟨hl, e'⟩ := if_inv e'
        cases e'
        exact post.nx R1 ((re.ext x1).set (by simp only [RV]))
    · exact (badS_inv e).elim
  · obtain ⟨_, _, h1, _⟩ := lift_inv q
    cases h1
theorem ss_mul {i : Nat} (he : SE ca X W e fe) (hN : X.N.Nodup) (hi : X.N[i]? = some x := by rfl) (hx : Loc X.env.scope x := by first | exact Or.inl rfl | exact Or.inr rfl)
    (hf : X.fn x = true ∨ X.env.scope.names.lookup x = some .local := by first | exact .inl rfl | exact .inr rfl) : SS ca X W (.AugAssign (.Name x p) .Mult e pos) (sAugI i .Mult fe) :=
  ss_augI ip_mul (fun m n k H Q h q => by
    simp only [intop] at h
    obtain ⟨h1, h2⟩ := if_inv h
    cases h2
    exact ⟨m, n, rfl, rfl, mulOk_of h1, q⟩) he hN hi hx hf
end
end Pv
/-! Pv, part W: sum of a dict's values; displays of dicts; a list unpacked; membership in a table of the module. -/
namespace Pv
open PySem PySem.Spec L2 PyProof.Rows

/-! ### sum(d.values()) -/
theorem paired_get {α β : Type} {R : α → β → Prop} {a : α} {b : β} : ∀ {as : List α} {bs : List β} {i : Nat}, Paired R as bs → as[i]? = some a → bs[i]? = some b → R a b
  | _, _, i, .nil, h, _ => by simp at h
  | _, _, 0, .cons h _, e1, e2 => by simp at e1 e2; subst e1 e2; exact h
  | _, _, i + 1, .cons _ t, e1, e2 => paired_get t (i := i) (by simpa using e1) (by simpa using e2)
section
variable {X : Cx} {ca : CA} {W : WX} {e a b c o tg : Expr} {es rest : List Expr} {fa fb fc fo fe : EF} {g : LF} {pos p apos cpos tpos : Pos} {x m : Str} {ts : List Tg}
/-! ### a list unpacked -/
/-! ### x in a table of the module -/
end
end Pv
/-! Pv, part X: displays of dicts. -/
namespace Pv
open PySem PySem.Spec L2 PyProof.Rows

def RPs (K : PySem.W.Frag) (ca : CA) (F : Addr → Prop) (H : Hp) (as : Nat → Addr) (nx : Nat) : List (Val × Val) → List (V × V) → Prop
  | [], ps => ps = []
  | p :: r, ps => ∃ x y s, ps = (x, y) :: s ∧ RV K ca F H as nx p.1 x ∧ RV K ca F H as nx p.2 y ∧ RPs K ca F H as nx r s
structure SP (ca : CA) (X : Cx) (W : WX) (pos : Pos) (keys : List (Option Expr)) (values : List Expr) (g : PF) : Prop where
  ex : ∃ trs, PPs X pos keys values trs ∧ keys.length = trs.length ∧ ∀ σ H Q, tG X.K ca (RPs X.K ca) W g σ H Q → tPairs trs σ H Q
section
variable {X : Cx} {ca : CA} {W : WX} {k v : Expr} {keys : List (Option Expr)} {values : List Expr} {fk fv : EF} {g : PF} {pos : Pos}
end
end Pv
/-! Pv, part Y: facts of the written part: tables of the module, a default None, no class of the text. -/
namespace Pv
open PySem PySem.Spec L2 PyProof.Rows

theorem kc_nil {K : PySem.W.Frag} {h : Heap} {R : Prop} {w : World} (X : K.In h) (r : KC K (clsC w K) [] → R) : R :=
  r ⟨fun c h => (by cases h), fun c h => (by cases h), fun h => absurd rfl h, fun h => absurd rfl h, fun c h => (by cases h), fun c h => (by cases h), fun c h => (by cases h), fun c h => (by cases h)⟩

mutual
/-- data that stand in K -/
inductive KD (K : PySem.W.Frag) : Value → PyData → Prop
  | int {i : Int} {t : Tok} : KD K (.int i t) (.int i)
  | str {s : Str} {t : Tok} : KD K (.str s t) (.str s)
  | lst {a : Addr} {o : PySem.Obj} {its : Array Value} {n : Nat} {ds : List PyData} : K.lookup a = some o → o.cls = .type "list" → o.dict = none → o.data = .seq its n → its.size ≤ sizeLine → KDs K its.toList ds → KD K (.ref a) (.list ds)
  | tup {a : Addr} {o : PySem.Obj} {its : Array Value} {n : Nat} {ds : List PyData} : K.lookup a = some o → o.cls = .type "tuple" → o.data = .seq its n → its.size ≤ sizeLine → KDs K its.toList ds → KD K (.ref a) (.tuple ds)
inductive KDs (K : PySem.W.Frag) : List Value → List PyData → Prop
  | nil : KDs K [] []
  | cons {v : Value} {vs : List Value} {d : PyData} {ds : List PyData} : KD K v d → KDs K vs ds → KDs K (v :: vs) (d :: ds)
end
mutual
theorem KD.dp {K : PySem.W.Frag} : ∀ {v : Value} {d : PyData}, KD K v d → ∃ x, RelV x v ∧ ∀ H, Dp K H x d
  | _, _, .int (i := i) (t := t) => ⟨.int i, ⟨t, rfl⟩, fun H => .int i⟩
  | _, _, .str (s := s) (t := t) => ⟨.str s, ⟨t, rfl⟩, fun H => .str s⟩
  | _, _, .lst (a := a) l c d e s h => by
    obtain ⟨xs, rv, k⟩ := KDs.dp h
    exact ⟨.ref a, rfl, fun H => .lst (.inr ⟨_, _, _, l, c, d, e, s, rv⟩) (k H)⟩
  | _, _, .tup (a := a) l c e s h => by
    obtain ⟨xs, rv, k⟩ := KDs.dp h
    exact ⟨.ref a, rfl, fun H => .tup (.inr ⟨_, _, _, l, c, e, s, rv⟩) (k H)⟩
theorem KDs.dp {K : PySem.W.Frag} : ∀ {vs : List Value} {ds : List PyData}, KDs K vs ds → ∃ xs, Vals xs vs ∧ ∀ H, DpAll K H xs ds
  | _, _, .nil => ⟨[], .nil, fun H => .nil⟩
  | _, _, .cons h t => by
    obtain ⟨x, r, k⟩ := KD.dp h
    obtain ⟨xs, rv, ks⟩ := KDs.dp t
    exact ⟨x :: xs, .cons r rv, fun H => .cons (k H) (ks H)⟩
end
section
variable {K : PySem.W.Frag} {h : Heap} {mg : Str → Option Value} {x : Str} {st : Stmt} {ps : List Str} {f T : Addr} {oc : Value} {od an : Option Addr} {osl : Array (Option Value)} {kV doc pm cdv ct : Value} {o : PySem.Obj} {its : Array Value} {n : Nat} {R : Prop} {ds : List PyData}
/-- a def with one default, None, that a call may leave out -/
theorem def_thenN (X : K.In h) (G : h.Ns mainGlobals mg) (a : PySem.W.nsIn K mainGlobals x = some (some (.ref f)))
    (l : K.lookup f = some ⟨oc, od, .func (PySem.W.fnOf x x (defArgs st) (defBody st) (defScope st) (.ref T) kV doc pm an cdv ct), osl⟩) (c : PySem.W.codeIn K cdv x = true) (k : PySem.W.keepIn K (.ref f) = true)
    (lT : K.lookup T = some o) (oT : o.data = .seq its n) (hs : its = #[.none])
    (hb : ∀ (T : Addr) (v kV doc pm : Value) (an : Option Addr) (cdv ct : Value) (us : List Value), us.length = ps.length →
      ∃ k, bindArgs (PySem.W.fnOf x x (defArgs st) (defBody st) (defScope st) (.ref T) kV doc pm an cdv ct) ⟨us, []⟩ = seqItems? (.ref T) >>= k ∧ k (some #[v]) = pure (ps.zip us))
    (hd : ∀ (T : Addr) (kV doc pm : Value) (an : Option Addr) (cdv ct : Value) (us : List Value), us.length + 1 = ps.length →
      ∃ k, bindArgs (PySem.W.fnOf x x (defArgs st) (defBody st) (defScope st) (.ref T) kV doc pm an cdv ct) ⟨us, []⟩ = seqItems? (.ref T) >>= k ∧ k (some #[.none]) = pure (ps.zip (us ++ [.none])))
    (r : ∀ (f : Addr) (fd : FuncData), Dn K x x st ps f fd → mg x = some (.ref f) → PySem.W.keepIn K (.ref f) = true → Binds K fd ps [.none] → R) : R :=
  r f _ (dn_mkD l c lT oT hb (by rw [hs]; rfl)) (PySem.W.mg_of X G a) k fun s us X hl => by
    subst hs
    obtain ⟨k, e1, e2⟩ := hd T kV doc pm an cdv ct us (by simpa using hl)
    refine BindsTo.of_looks fun M => ?_
    rw [e1]
    exact looks_items X lT oT (.of_pure e2)
end

/-! ### a, b, c = x, y, z -/
def tPar3 (i j k : Nat) (ta : TA) : TS := fun D σ H => ta σ H fun vs H1 => ∃ u v w, vs = [u, v, w] ∧ D.nx (((σ.set k (some w)).set j (some v)).set i (some u)) H1
theorem three_vals {u v w : V} {us : List Value} (r : Vals [u, v, w] us) : ∃ a b c, us = [a, b, c] ∧ RelV u a ∧ RelV v b ∧ RelV w c := by
  cases r with
  | cons h1 t1 => cases t1 with
    | cons h2 t2 => cases t2 with
      | cons h3 t3 => cases t3; exact ⟨_, _, _, rfl, h1, h2, h3⟩
section
variable {X : Cx} {ca : CA} {W : WX} {x y z : Str} {a b c : Expr} {g : LF} {i j k : Nat} {px py pz pt pos : Pos} {kt k2 : Nat} {pt2 : Pos}
theorem ps_par3 {ta : TA} (hc : X.calm = true) (hN : X.N.Nodup) (hi : X.N[i]? = some x) (hj : X.N[j]? = some y) (hk : X.N[k]? = some z)
    (hx : X.env.scope.names.lookup x = some .local) (hy : X.env.scope.names.lookup y = some .local) (hz : X.env.scope.names.lookup z = some .local) (ha : PA X [a, b, c] ta)
    (hw : swappedStores [.Tuple [.Name x px, .Name y py, .Name z pz] kt pt] (.Tuple [a, b, c] k2 pt2) X.env = pure (some [x, y, z]))
    (hs : swapsWithSole [.Tuple [.Name x px, .Name y py, .Name z pz] kt pt] (.Tuple [a, b, c] k2 pt2) pos.line X.env = pure false := by rfl) :
    PS X (.Assign [.Tuple [.Name x px, .Name y py, .Name z pz] kt pt] (.Tuple [a, b, c] k2 pt2) pos) (tPar3 i j k ta) := ⟨fun pins s σ H D I h => by
  rw [exec_Assign_arm]
  refine wpAny_bind (wpAny_standAt ?_)
  rw [hs]; refine wpAny_bind (wpAny_pure ?_)
  rw [if_neg (by decide)]; refine wpAny_bind (Tuple_ (thn (ha.run _ pins s σ H _ I h) fun us s1 ⟨vs, H1, I1, r1, u, v, w, e1, q⟩ => ?_))
  subst e1
  obtain ⟨u1, u2, u3, rfl, ru, rv, rw'⟩ := three_vals r1
  refine wpAny_newObj_type ?_ (by show 3 ≤ sizeLine; decide)
  have I2 : L2.Inv X pins σ H1 { s1 with heap := s1.heap.push { cls := .type "tuple", data := .seq [u1, u2, u3].toArray } } := I1.kept (t' := s1.toks) fun b o e => Heap.get?_push_of_some _ e
  rw [hw]; refine wpAny_bind (wpAny_pure ?_)
  show wpAny (model X.prog X.w) X.A (do rule "assign.swapped-stores"; let items ← unpackItems (.ref s1.heap.objs.size) 3 none; assignInOrder [fun v => bindName X.env z v, fun v => bindName X.env y v, fun v => bindName X.env x v] items.reverse; pure Flow.next) _ _ _
  refine wpAny_bind (wpAny_rule (wpAny_bind (unpackItems_tuple (items := #[u1, u2, u3]) (I.ok.hd hc) (IsTup.new s1.heap _) fun h' hx' => ?_)))
  have I3 := I2.kept (h' := h') (t' := s1.toks) fun b o e => hx' b o (Nat.ne_of_lt (Heap.lt_size e)) e
  show wpAny _ _ (assignInOrder [fun v => bindName X.env z v, fun v => bindName X.env y v, fun v => bindName X.env x v] [u3, u2, u1] >>= fun _ => pure Flow.next) _ _ _
  refine wpAny_bind (assignInOrder_cons (wpAny_bindName (store_ok I3 hN hk (.inl hz) rw' (fun s2 I4 => ?_) (.inr hz))))
  refine assignInOrder_cons (wpAny_bindName (store_ok I4 hN hj (.inl hy) rv (fun s3 I5 => ?_) (.inr hy)))
  refine assignInOrder_cons (wpAny_bindName (store_ok I5 hN hi (.inl hx) ru (fun s4 I6 => assignInOrder_nil (wpAny_pure ?_)) (.inr hx)))
  exact ⟨_, H1, I6, q⟩⟩
theorem ss_par3 (hc : X.calm = true) (hN : X.N.Nodup) (hi : X.N[i]? = some x) (hj : X.N[j]? = some y) (hk : X.N[k]? = some z)
    (hx : X.env.scope.names.lookup x = some .local) (hy : X.env.scope.names.lookup y = some .local) (hz : X.env.scope.names.lookup z = some .local) (ha : SA ca X W [a, b, c] g)
    (hw : swappedStores [.Tuple [.Name x px, .Name y py, .Name z pz] kt pt] (.Tuple [a, b, c] k2 pt2) X.env = pure (some [x, y, z]))
    (hs : swapsWithSole [.Tuple [.Name x px, .Name y py, .Name z pz] kt pt] (.Tuple [a, b, c] k2 pt2) pos.line X.env = pure false := by rfl) :
    SS ca X W (.Assign [.Tuple [.Name x px, .Name y py, .Name z pz] kt pt] (.Tuple [a, b, c] k2 pt2) pos) (sPar3 i j k g) := (ps_par3 hc hN hi hj hk hx hy hz ha hw hs).weak fun D σ H ⟨F, as, env, st, r, st', re, R, e, post⟩ =>
  step_bs re R e post fun vs s1 e F1 H1 as1 x1 R1 xs rxs post => by
    split at e
    · rename_i u v w
      obtain ⟨rfl, rfl⟩ := done_inv e
      obtain ⟨a, r, rfl, ra, h2⟩ := rxs.inv
      obtain ⟨b, c, rfl, rb, rc⟩ := two_rv h2
      exact ⟨a, b, c, rfl, post.nx R1 ((((re.ext x1).set rc).set rb).set ra)⟩
    · exact (badS_inv e).elim
end
end Pv
/-! Pv, part Z: tables of whole numbers that the module's defs walk over. -/
namespace Pv
open PySem PySem.Spec L2 PyProof.Rows

inductive KIs : List Value → List Int → Prop
  | nil : KIs [] []
  | cons {i : Int} {t : Tok} {vs : List Value} {is : List Int} : KIs vs is → KIs (.int i t :: vs) (i :: is)
theorem KIs.rv {K : PySem.W.Frag} {ca : CA} : ∀ {vs : List Value} {is : List Int}, KIs vs is → ∃ xs, Vals xs vs ∧ ∀ F H as nx, RVs K ca F H as nx (is.map .int) xs
  | _, _, .nil => ⟨[], .nil, fun _ _ _ _ => rfl⟩
  | _, _, .cons (i := i) (t := t) h => by
    obtain ⟨xs, rv, k⟩ := h.rv (K := K) (ca := ca)
    exact ⟨.int i :: xs, .cons ⟨t, rfl⟩ rv, fun F H as nx => ⟨_, _, rfl, rfl, k F H as nx⟩⟩
end Pv
/-! Pv, part AA: an expression that only looks at what may change. -/
namespace Pv
open PySem PySem.Spec L2 PyProof.Rows

/-- an error is none of these answers -/
def noErrE (e : EF) : EF := fun env st => match e env st with
  | some (.ok v, s) => some (.ok v, s)
  | _ => none
theorem noErrE_inv {e : EF} {env : Env} {st st' : Store} {r : Out Val} (h : noErrE e env st = some (r, st')) : ∃ v, e env st = some (.ok v, st') ∧ r = .ok v := by
  unfold noErrE at h
  split at h
  · rename_i v s q
    cases h
    exact ⟨v, q, rfl⟩
  · cases h
theorem noErrE_ok {e : EF} {env : Env} {st st' : Store} {v : Val} (h : e env st = some (.ok v, st')) : noErrE e env st = some (.ok v, st') := by
  unfold noErrE
  rw [h]
theorem vwL_gnd {f : Val → Option Val} (hf : ∀ v w, f v = some w → gnd w = true) : ∀ (vs ws : List Val), vwL f vs = some ws → gnds ws = true
  | [], ws, e => by simp only [vwL, Option.some.injEq] at e; subst e; rfl
  | v :: vs, ws, e => by
    simp only [vwL] at e
    split at e
    · rename_i w ws' e1 e2
      cases e
      simp only [gnds, hf v w e1, vwL_gnd hf vs ws' e2, Bool.and_self]
    · cases e
theorem vw_gnd (st : Store) : ∀ (n : Nat) (v w : Val), vw st n v = some w → gnd w = true
  | 0, v, w, e => by simp [vw] at e
  | n + 1, v, w, e => by
    have ih := vwL_gnd (f := vw st n) fun v w => vw_gnd st n v w
    cases v with
    | ref k =>
      simp only [vw] at e
      split at e
      · obtain ⟨ws, e1, rfl⟩ := Option.map_eq_some_iff.mp e; simp only [gnd]; exact ih _ _ e1
      · obtain ⟨ws, e1, rfl⟩ := Option.map_eq_some_iff.mp e; simp only [gnd]; exact ih _ _ e1
      · obtain ⟨ws, e1, rfl⟩ := Option.map_eq_some_iff.mp e; simp only [gnd]; exact ih _ _ e1
      · cases e
      · cases e
    | ndc ks vs => simp only [vw] at e; cases e
    | tup vs => simp only [vw] at e; obtain ⟨ws, e1, rfl⟩ := Option.map_eq_some_iff.mp e; simp only [gnd]; exact ih _ _ e1
    | lst vs => simp only [vw] at e; obtain ⟨ws, e1, rfl⟩ := Option.map_eq_some_iff.mp e; simp only [gnd]; exact ih _ _ e1
    | rol vs => simp only [vw] at e; obtain ⟨ws, e1, rfl⟩ := Option.map_eq_some_iff.mp e; simp only [gnd]; exact ih _ _ e1
    | rot vs => simp only [vw] at e; obtain ⟨ws, e1, rfl⟩ := Option.map_eq_some_iff.mp e; simp only [gnd]; exact ih _ _ e1
    | dct t ks vs => simp only [vw] at e; obtain ⟨ws, e1, rfl⟩ := Option.map_eq_some_iff.mp e; simp only [gnd]; exact ih _ _ e1
    | ins c fs vs => simp only [vw] at e; obtain ⟨ws, e1, rfl⟩ := Option.map_eq_some_iff.mp e; simp only [gnd]; exact ih _ _ e1
    | non => simp only [vw, Option.some.injEq] at e; subst e; rfl
    | bl b => simp only [vw, Option.some.injEq] at e; subst e; rfl
    | int b => simp only [vw, Option.some.injEq] at e; subst e; rfl
    | str b => simp only [vw, Option.some.injEq] at e; subst e; rfl
    | cls b => simp only [vw, Option.some.injEq] at e; subst e; rfl
    | ty b => simp only [vw, Option.some.injEq] at e; subst e; rfl
/-! ### many things locked at once -/
def tLocks : List Addr → TE → TE
  | [], t => t
  | a :: l, t => fun σ H Q => ∃ u, H a = some u ∧ Mut (some u) ∧ ∀ od, tLocks l t σ (upd H a (.frz od u)) fun v H' => H' a = some (.frz od u) ∧ Q v (upd H' a u)
theorem pe_locks {X : Cx} {e : Expr} {t : TE} (h : PE X e t) : ∀ l : List Addr, PE X e (tLocks l t)
  | [] => h
  | a :: l => (pe_lock (pe_locks h l)).weak fun σ H Q ⟨u, h1, h2, h3⟩ => ⟨a, u, h1, h2, h3⟩
/-- the things at l are back as they were -/
def unl (l : List Addr) (U : Addr → HO) (H : Hp) : Hp := fun a => if a ∈ l then some (U a) else H a
theorem locks_of {t : TE} (mono : ∀ σ H (Q Q' : VK), (∀ v H, Q v H → Q' v H) → t σ H Q → t σ H Q') {σ : L2.St} {U : Addr → HO} : ∀ (l : List Addr) (H : Hp) (Q : VK), l.Nodup → (∀ a ∈ l, H a = some (U a) ∧ Mut (some (U a))) →
    (∀ H', (∀ a ∈ l, ∃ od, H' a = some (.frz od (U a))) → (∀ a, a ∉ l → H' a = H a) → t σ H' (fun v H1 => (∀ a ∈ l, H1 a = H' a) ∧ Q v (unl l U H1))) → tLocks l t σ H Q
  | [], H, Q, _, _, k => mono _ _ _ _ (fun v H1 q => by
      have : unl [] U H1 = H1 := funext fun a => if_neg (by simp)
      rw [this] at q
      exact q.2) (k H (by simp) fun _ _ => rfl)
  | a :: l, H, Q, nd, hl, k => by
    rw [List.nodup_cons] at nd
    obtain ⟨h1, h2⟩ := hl a (List.mem_cons_self ..)
    refine ⟨U a, h1, h2, fun od => ?_⟩
    have ne : ∀ b ∈ l, b ≠ a := fun b hb z => nd.1 (z ▸ hb)
    refine locks_of mono l _ _ nd.2 (fun b hb => by rw [upd_ne (ne b hb)]; exact hl b (List.mem_cons_of_mem _ hb)) fun H' q1 q2 => ?_
    have ea : H' a = some (.frz od (U a)) := by rw [q2 a nd.1, upd_same]
    refine mono _ _ _ _ (fun v H1 q => ?_) (k H' (fun b hb => ?_) fun b hb => ?_)
    · refine ⟨fun b hb => q.1 b (List.mem_cons_of_mem _ hb), ?_, ?_⟩
      · show unl l U H1 a = _
        unfold unl
        rw [if_neg nd.1, q.1 a (List.mem_cons_self ..), ea]
      · have : upd (unl l U H1) a (U a) = unl (a :: l) U H1 := funext fun b => by
          by_cases z : b = a
          · subst z
            rw [upd_same]
            unfold unl
            rw [if_pos (List.mem_cons_self ..)]
          · rw [upd_ne z]
            unfold unl
            by_cases y : b ∈ l
            · rw [if_pos y, if_pos (List.mem_cons_of_mem _ y)]
            · rw [if_neg y, if_neg (by simp [z, y])]
        rw [this]
        exact q.2
    · rcases List.mem_cons.mp hb with z | z
      · exact ⟨od, by rw [z]; exact ea⟩
      · exact q1 b z
    · rw [q2 b (fun z => hb (List.mem_cons_of_mem _ z)), upd_ne (fun z => hb (by rw [z]; exact List.mem_cons_self ..))]

section
variable {K : PySem.W.Frag} {ca : CA} {F F' : Addr → Prop} {H H' : Hp} {as : Nat → Addr} {st : Store} {nx : Nat}
/-- what a thing of the store is seen as: its dict is locked, all else as it was -/
structure Seen (K : PySem.W.Frag) (F : Addr → Prop) (H : Hp) (as : Nat → Addr) (st : Store) (F' : Addr → Prop) (H' : Hp) : Prop where
  sub : ∀ a, F a → F' a
  keep : Keep F H H'
  fz : ∀ n o, st.get n = some o → F' (as n)
  lst : ∀ n vs, st.get n = some (.lst vs) → H' (as n) = H (as n)
  ins : ∀ n c fs vs, st.get n = some (.ins c fs vs) → H' (as n) = H (as n)
  dct : ∀ n t ks vs, st.get n = some (.dct t ks vs) → ∃ u o, H (as n) = some u ∧ H' (as n) = some (.frz o u)
theorem vwL_all {f : Val → Option Val} (hf : ∀ v w x, f v = some w → RV K ca F H as nx v x → RV K ca F' H' as nx w x) : ∀ (vs ws : List Val) (xs : List V), vwL f vs = some ws → RVs K ca F H as nx vs xs → RVs K ca F' H' as nx ws xs
  | [], ws, xs, e, h => by
    simp only [vwL, Option.some.injEq] at e
    subst e
    rw [h.nil_inv]; exact .nil
  | v :: vs, ws, xs, e, h => by
    obtain ⟨x, r, rfl, h1, h2⟩ := h.inv
    simp only [vwL] at e
    split at e
    · rename_i w ws' e1 e2
      cases e
      exact .cons (hf v w x e1 h1) (vwL_all hf vs ws' r e2 h2)
    · cases e
theorem DF.seen {a : Addr} {t : Bool} {kk : List DK} {xs : List V} {u : HO} {o : PySem.Obj} (h : DM H a t kk xs) (h1 : H a = some u) (h2 : H' a = some (.frz o u)) : DF H' a t kk xs := by
  cases t with
  | false =>
    obtain ⟨kvs, q1, q2⟩ := h
    rw [h1] at q1
    cases q1
    exact ⟨o, kvs, h2, q2⟩
  | true =>
    obtain ⟨kvs, q1, q2⟩ := h
    rw [h1] at q1
    cases q1
    exact ⟨o, kvs, h2, q2⟩
theorem vw_rv (R : Rel K ca F H as st) (S : Seen K F H as st F' H') : ∀ (n : Nat) (v w : Val) (x : V), vw st n v = some w → RV K ca F H as st.nx v x → RV K ca F' H' as st.nx w x
  | 0, v, w, x, e, _ => by simp [vw] at e
  | n + 1, v, w, x, e, h => by
    have ih := vwL_all (F := F) (F' := F') (H := H) (H' := H') (as := as) (nx := st.nx) (f := vw st n) fun v w x => vw_rv R S n v w x
    cases v with
    | ref k =>
      simp only [vw] at e
      simp only [RV] at h
      obtain ⟨hk, rfl⟩ := h
      cases g : st.get k with
      | none => rw [g] at e; cases e
      | some o =>
        rw [g] at e
        obtain ⟨l1, l2, l3⟩ := R.live k o g
        cases o with
        | lst vs =>
          obtain ⟨ws, e1, rfl⟩ := Option.map_eq_some_iff.mp e
          obtain ⟨xs, h1, h2⟩ := l3
          simp only [RV]
          exact ⟨as k, xs, rfl, S.fz k _ g, (S.lst k vs g).trans h1, ih _ _ _ e1 h2⟩
        | dct t ks vs =>
          obtain ⟨ws, e1, rfl⟩ := Option.map_eq_some_iff.mp e
          obtain ⟨kk, xs, h0, h1, h2⟩ := l3
          obtain ⟨u, od, q1, q2⟩ := S.dct k t ks vs g
          simp only [RV]
          exact ⟨as k, kk, xs, rfl, S.fz k _ g, h0, DF.seen h1 q1 q2, ih _ _ _ e1 h2⟩
        | ins c fs vs =>
          obtain ⟨ws, e1, rfl⟩ := Option.map_eq_some_iff.mp e
          obtain ⟨dx, ff, h1, h2, h3⟩ := l3
          simp only [RV]
          exact ⟨as k, dx, ff, rfl, S.fz k _ g, (S.ins k c fs vs g).trans h1, h2, ih _ _ _ e1 h3⟩
        | ndc ks vs => cases e
    | tup vs =>
      simp only [vw] at e
      obtain ⟨ws, e1, rfl⟩ := Option.map_eq_some_iff.mp e
      simp only [RV] at h ⊢
      obtain ⟨a, xs, rfl, h1, h2⟩ := h
      exact ⟨a, xs, rfl, h1.mono S.sub S.keep, ih _ _ _ e1 h2⟩
    | lst vs =>
      simp only [vw] at e
      obtain ⟨ws, e1, rfl⟩ := Option.map_eq_some_iff.mp e
      simp only [RV] at h ⊢
      obtain ⟨a, xs, rfl, f, h1, h2⟩ := h
      exact ⟨a, xs, rfl, S.sub a f, S.keep.lst a xs f h1, ih _ _ _ e1 h2⟩
    | rot vs =>
      simp only [vw] at e
      obtain ⟨ws, e1, rfl⟩ := Option.map_eq_some_iff.mp e
      simp only [RV] at h ⊢
      obtain ⟨a, xs, rfl, h1, h2⟩ := h
      exact ⟨a, xs, rfl, h1, ih _ _ _ e1 h2⟩
    | rol vs =>
      simp only [vw] at e
      obtain ⟨ws, e1, rfl⟩ := Option.map_eq_some_iff.mp e
      simp only [RV] at h ⊢
      obtain ⟨a, xs, rfl, h1, h2⟩ := h
      exact ⟨a, xs, rfl, h1.mono S.sub S.keep, ih _ _ _ e1 h2⟩
    | dct t ks vs =>
      simp only [vw] at e
      obtain ⟨ws, e1, rfl⟩ := Option.map_eq_some_iff.mp e
      simp only [RV] at h ⊢
      obtain ⟨a, kk, xs, rfl, f, h0, h1, h2⟩ := h
      exact ⟨a, kk, xs, rfl, S.sub a f, h0, h1.mono f S.keep, ih _ _ _ e1 h2⟩
    | ins c fs vs =>
      simp only [vw] at e
      obtain ⟨ws, e1, rfl⟩ := Option.map_eq_some_iff.mp e
      simp only [RV] at h ⊢
      obtain ⟨a, dx, ff, rfl, f, h1, h2, h3⟩ := h
      exact ⟨a, dx, ff, rfl, S.sub a f, S.keep.ins a _ dx ff f h1, h2, ih _ _ _ e1 h3⟩
    | ndc ks vs => simp only [vw] at e; cases e
    | non => simp only [vw, Option.some.injEq] at e; subst e; simp only [RV] at h ⊢; exact h
    | bl b => simp only [vw, Option.some.injEq] at e; subst e; simp only [RV] at h ⊢; exact h
    | int b => simp only [vw, Option.some.injEq] at e; subst e; simp only [RV] at h ⊢; exact h
    | str b => simp only [vw, Option.some.injEq] at e; subst e; simp only [RV] at h ⊢; exact h
    | cls b => simp only [vw, Option.some.injEq] at e; subst e; simp only [RV] at h ⊢; exact h
    | ty b => simp only [vw, Option.some.injEq] at e; subst e; simp only [RV] at h ⊢; exact h
end
section
variable {K : PySem.W.Frag} {ca : CA}
/-- a dict of the store stands as a thing that may change -/
theorem DM.mut {H : Hp} {a : Addr} {t : Bool} {kk : List DK} {xs : List V} (h : DM H a t kk xs) : ∃ u, H a = some u ∧ Mut (some u) := by
  cases t with
  | false => obtain ⟨kvs, q1, _⟩ := h; exact ⟨_, q1, trivial⟩
  | true => obtain ⟨kvs, q1, _⟩ := h; exact ⟨_, q1, trivial⟩
def isD : Option Obj → Bool
  | some (.dct _ _ _) => true
  | _ => false
def dicts (as : Nat → Addr) (st : Store) : List Addr := ((List.range st.nx).filter fun n => isD (st.get n)).map as
theorem dicts_mem {F : Addr → Prop} {H : Hp} {as : Nat → Addr} {st : Store} (R : Rel K ca F H as st) {a : Addr} : a ∈ dicts as st ↔ ∃ n t ks vs, st.get n = some (.dct t ks vs) ∧ as n = a := by
  unfold dicts
  rw [List.mem_map]
  constructor
  · rintro ⟨n, hn, rfl⟩
    have h := (List.mem_filter.mp hn).2
    cases g : st.get n with
    | none => rw [g] at h; cases h
    | some o =>
      rw [g] at h
      cases o with
      | dct t ks vs => exact ⟨n, t, ks, vs, g, rfl⟩
      | _ => cases h
  · rintro ⟨n, t, ks, vs, g, rfl⟩
    exact ⟨n, List.mem_filter.mpr ⟨List.mem_range.mpr (R.live n _ g).1, by rw [g]; rfl⟩, rfl⟩
theorem dicts_nodup {F : Addr → Prop} {H : Hp} {as : Nat → Addr} {st : Store} (R : Rel K ca F H as st) : (dicts as st).Nodup := by
  unfold dicts List.Nodup
  rw [List.pairwise_map]
  refine List.Pairwise.imp_of_mem (fun {m n} hm hn h e => h ?_) (List.nodup_range.filter _)
  exact R.inj m n (List.mem_range.mp (List.mem_filter.mp hm).1) (List.mem_range.mp (List.mem_filter.mp hn).1) e
theorem flat_rv {F F' : Addr → Prop} {H H' : Hp} {as as' : Nat → Addr} {nx nx' : Nat} {v : Val} {x : V} (h : flat v = true) (r : RV K ca F H as nx v x) : RV K ca F' H' as' nx' v x := by
  cases v <;> first | (simp only [RV] at r ⊢; exact r) | (cases h)
theorem tG_mono {W : WX} {f : EF} : ∀ (σ : L2.St) (H : Hp) (Q Q' : VK), (∀ v H, Q v H → Q' v H) → tE K ca W (noErrE f) σ H Q → tE K ca W (noErrE f) σ H Q' := fun σ H Q Q' k ⟨F, as, env, st, r, st', re, R, e, post⟩ => by
  obtain ⟨v, e1, rfl⟩ := noErrE_inv e
  exact ⟨F, as, env, st, .ok v, st', re, R, e, fun F1 H1 as1 x1 R1 b rb => k _ _ (post F1 H1 as1 x1 R1 b rb)⟩
end
theorem se_noErr {X : Cx} {ca : CA} {W : WX} {e : Expr} {fe : EF} (he : SE ca X W e fe) : SE ca X W e (noErrE fe) := he.weak fun σ H Q ⟨F, as, env, st, r, st', re, R, e, post⟩ => by
  obtain ⟨v, e1, rfl⟩ := noErrE_inv e
  exact ⟨F, as, env, st, .ok v, st', re, R, e1, post⟩
theorem se_peek {X : Cx} {ca : CA} {W : WX} {e : Expr} {fe : EF} (he : SE ca X W e fe) : SE ca X W e (ePeek fe) := by
  have hl : PE X e (fun σ H Q => ∃ l, tLocks l (tE X.K ca W (noErrE fe)) σ H Q) := PE.ex fun l => pe_locks (se_noErr he) l
  refine hl.weak fun σ H Q ⟨F, as, env, st, r, st', re, R, e, post⟩ => ?_
  unfold ePeek at e
  split at e
  · rename_i v s1 q
    obtain ⟨fv, e⟩ := if_inv e
    cases e
    let U : Addr → HO := fun a => (H a).getD (.lst [])
    have hU : ∀ a, a ∈ dicts as st → H a = some (U a) ∧ Mut (some (U a)) := fun a ha => by
      obtain ⟨n, t, ks, vs, g, rfl⟩ := (dicts_mem R).mp ha
      obtain ⟨kk, xs, h0, h1, h2⟩ := (R.live n _ g).2.2
      obtain ⟨u, q1, q2⟩ := h1.mut
      have : U (as n) = u := by show (H (as n)).getD _ = u; rw [q1]; rfl
      rw [this]
      exact ⟨q1, q2⟩
    refine ⟨dicts as st, locks_of tG_mono _ _ _ (dicts_nodup R) hU fun H' l1 l2 => ?_⟩
    let F' : Addr → Prop := fun a => F a ∨ ∃ n, st.get n ≠ none ∧ as n = a
    have nd : ∀ a, F a → a ∉ dicts as st := fun a fa ha => by
      obtain ⟨n, t, ks, vs, g, rfl⟩ := (dicts_mem R).mp ha
      exact (R.live n _ g).2.1 fa
    have kp : Keep F H H' := ⟨fun a fa => l2 a (nd a fa), fun a xs q => (l2 a fun ha => by
      obtain ⟨n, t, ks, vs, g, z⟩ := (dicts_mem R).mp ha
      exact (R.live n _ g).2.2.notTup xs (by rw [z]; exact q)).trans q⟩
    have some' : ∀ a, H a ≠ none → H' a ≠ none := fun a ha => by
      by_cases z : a ∈ dicts as st
      · obtain ⟨od, y⟩ := l1 a z; rw [y]; simp
      · rw [l2 a z]; exact ha
    have notd : ∀ n o, st.get n = some o → isD (some o) = false → as n ∉ dicts as st := fun n o g hd hm => by
      obtain ⟨m, t, ks, vs, g2, e2⟩ := (dicts_mem R).mp hm
      have := R.inj m n (R.live m _ g2).1 (R.live n _ g).1 e2
      subst this
      rw [g] at g2
      cases g2
      cases hd
    have S : Seen X.K F H as st F' H' := ⟨fun a fa => .inl fa, kp, fun n o g => .inr ⟨n, by rw [g]; simp, rfl⟩, fun n vs g => l2 _ (notd n _ g rfl), fun n c fs vs g => l2 _ (notd n _ g rfl), fun n t ks vs g => by
      have hm : as n ∈ dicts as st := (dicts_mem R).mpr ⟨n, t, ks, vs, g, rfl⟩
      obtain ⟨od, y⟩ := l1 _ hm
      exact ⟨_, od, (hU _ hm).1, y⟩⟩
    have re' : RE X.K ca F' H' as 0 (vwE st env) σ := by
      refine ⟨by unfold vwE; rw [List.length_map]; exact re.1, fun i w h => ?_⟩
      unfold vwE at h
      rw [List.getElem?_map] at h
      obtain ⟨o, h1, h2⟩ := Option.map_eq_some_iff.mp h
      cases o with
      | none => cases h2
      | some v0 =>
        obtain ⟨x, e1, rx⟩ := re.2 i v0 h1
        have r1 := vw_rv R S 40 v0 w x h2 rx
        exact ⟨x, e1, RV.gnd w x (vw_gnd st 40 v0 w h2) r1⟩
    have R' : Rel X.K ca F' H' as ⟨0, []⟩ := by
      refine ⟨fun a ha => ?_, fun n h => absurd h (Nat.not_lt_zero _), fun m n h => absurd h (Nat.not_lt_zero _), fun n o e => by cases e⟩
      rcases ha with fa | ⟨n, g, rfl⟩
      · exact some' a (R.dom a fa)
      · cases q2 : st.get n with
        | none => exact absurd q2 g
        | some o => exact some' _ (R.live n o q2).2.2.there
    refine ⟨F', as, vwE st env, ⟨0, []⟩, .ok v, s1, re', R', noErrE_ok q, fun F1 H1 as1 x1 R1 b rb => ?_⟩
    have fr : ∀ a, H' a ≠ none → H1 a = H' a := fun a ha => (x1.frame a ha fun m hm => absurd hm (Nat.not_lt_zero _)).1
    refine ⟨fun a ha => ?_, ?_⟩
    · obtain ⟨od, y⟩ := l1 a ha
      exact fr a (by rw [y]; simp)
    · have same : ∀ a, H a ≠ none → unl (dicts as st) U H1 a = H a := fun a ha => by
        unfold unl
        by_cases z : a ∈ dicts as st
        · rw [if_pos z]; exact (hU a z).1.symm
        · rw [if_neg z, fr a (some' a ha), l2 a z]
      have kp2 : Keep F H (unl (dicts as st) U H1) := ⟨fun a fa => same a (R.dom a fa), fun a xs q => (same a (by rw [q]; simp)).trans q⟩
      have x2 : Ext F H as st F (unl (dicts as st) U H1) as st := ⟨fun _ h => h, kp2, fun _ _ => rfl, Nat.le_refl _, fun n hn e => ⟨e, same _ (R.here n hn), fun z => z⟩, fun n h1 h2 => absurd h2 (Nat.not_lt.mpr h1), fun a ha => by rw [same a ha]; exact ha, fun a ha _ => ⟨same a ha, fun z => z⟩⟩
      have R2 : Rel X.K ca F (unl (dicts as st) U H1) as st := ⟨fun a fa => by rw [same a (R.dom a fa)]; exact R.dom a fa, fun n hn => by rw [same _ (R.here n hn)]; exact R.here n hn, R.inj, fun n o e => by
        obtain ⟨h1, h2, h3⟩ := R.live n o e
        exact ⟨h1, h2, h3.mono (fun _ h => h) kp2 (fun _ _ => rfl) (Nat.le_refl _) (same _ (R.here n h1))⟩⟩
      exact post.at x2 R2 (flat_rv fv rb)
  · cases e
end Pv
/-! Pv, part AB: l.index(x). -/
namespace Pv
open PySem PySem.Spec L2 PyProof.Rows
end Pv
/-! Pv, part AC: calls without arguments; tables of the module within tables. -/
namespace Pv
open PySem PySem.Spec L2 PyProof.Rows
section
variable {X : Cx} {CX : CXT} {k : Nat} {f : Addr} {fd : FuncData} {ps : List Str} {sp : Sp} {E : L2.St → XK} {x : Str} {p pos : Pos}
end
section
variable {X : Cx} {ca : CA} {W : WX} {p pos : Pos} {f : BF} {x : Str} {k : Nat} {ad : Addr} {fd : FuncData} {ps : List Str}
end
mutual
/-- data as a value that is only read -/
def ofDr : PyData → Val
  | .none => .non
  | .bool b => .bl b
  | .int i => .int i
  | .str s => .str s
  | .tuple ds => .rot (ofDrs ds)
  | .list ds => .rol (ofDrs ds)
  | .dict _ => .non
def ofDrs : List PyData → List Val
  | [] => []
  | d :: ds => ofDr d :: ofDrs ds
end
mutual
/-- what stands in K, read as a value -/
theorem KD.rv {K : PySem.W.Frag} {ca : CA} : ∀ {v : Value} {d : PyData}, KD K v d → ∃ x, RelV x v ∧ ∀ F H as nx, RV K ca F H as nx (ofDr d) x
  | _, _, .int (i := i) (t := t) => ⟨.int i, ⟨t, rfl⟩, fun F H as nx => by simp only [ofDr, RV]⟩
  | _, _, .str (s := s) (t := t) => ⟨.str s, ⟨t, rfl⟩, fun F H as nx => by simp only [ofDr, RV]⟩
  | _, _, .lst (a := a) l c d e s h => by
    obtain ⟨xs, rv, k⟩ := KDs.rv h
    exact ⟨.ref a, rfl, fun F H as nx => by simp only [ofDr, RV]; exact ⟨a, xs, rfl, .inr ⟨_, _, _, l, c, d, e, s, rv⟩, k F H as nx⟩⟩
  | _, _, .tup (a := a) l c e s h => by
    obtain ⟨xs, rv, k⟩ := KDs.rv h
    exact ⟨.ref a, rfl, fun F H as nx => by simp only [ofDr, RV]; exact ⟨a, xs, rfl, ⟨_, _, _, l, c, e, s, rv⟩, k F H as nx⟩⟩
theorem KDs.rv {K : PySem.W.Frag} {ca : CA} : ∀ {vs : List Value} {ds : List PyData}, KDs K vs ds → ∃ xs, Vals xs vs ∧ ∀ F H as nx, RVs K ca F H as nx (ofDrs ds) xs
  | _, _, .nil => ⟨[], .nil, fun F H as nx => by simp only [ofDrs, RVs]⟩
  | _, _, .cons h t => by
    obtain ⟨x, r, k⟩ := KD.rv h
    obtain ⟨xs, rv, ks⟩ := KDs.rv t
    exact ⟨x :: xs, .cons r rv, fun F H as nx => by simp only [ofDrs]; exact .cons (k F H as nx) (ks F H as nx)⟩
end
section
variable {K : PySem.W.Frag} {h : Heap} {mg : Str → Option Value} {x : Str} {f : Addr} {o : PySem.Obj} {its : Array Value} {n : Nat} {R : Prop} {ds : List PyData} {v : Val} {w : World}
end
end Pv
/-! Pv, part AD: keys that are tuples, read out of a dict. -/
namespace Pv
open PySem PySem.Spec L2 PyProof.Rows
section
variable {K : PySem.W.Frag} {ca : CA} {F : Addr → Prop} {H : Hp} {as : Nat → Addr} {nx : Nat}
end
end Pv
/-! Pv, part AE: len(d) by tuples; list(d.values()); l.extend(xs). -/
namespace Pv
open PySem PySem.Spec L2 PyProof.Rows
section
variable {K : PySem.W.Frag} {ca : CA}
end
end Pv
/-! != of two instances, by object's own, which asks the class's == -/
namespace Pv
open PySem PySem.Spec L2
section
variable {M : Model} {A : Around} {E : Value → Shared → Prop} {s : Shared} {K : PySem.W.Frag} {x y C f : Addr} {ox : PySem.Obj} {od : Option PySem.Obj} {args : List Value} {prog : Program} {w : World}
end
section
variable {X : Cx} {ca : CA} {W : WX} {a b : Expr} {fa fb : EF} {pos : Pos} {f : BF} {ad : Addr} {fd : FuncData} {ps : List Str}
end
end Pv
/-! Pv, part AG: an own class of errors whose __init__ says super().__init__() and self.value = value: made. -/
namespace PySem
namespace ErrX
open PySem.W PySem.Calls PyProof.Rows PySem.HandSPX
/-! ### the text of __init__ -/
def iA (p1 p2 p3 : Pos) : Arguments := { posonlyargs := [], args := [{ arg := "self", annotation := none, pos := p1 }, { arg := "value", annotation := none, pos := p2 }], vararg := none, kwonlyargs := [], kw_defaults := [], kwarg := none, defaults := [.Constant .none 0 p3] }
def iB (a1 a2 a3 a4 a5 q1 q2 q3 q4 : Pos) : List Stmt := [.Expr (.Call (.Attribute (.Call (.Name "super" a1) [] [] a2) "__init__" a3) [] [] a4) a5, .Assign [.Attribute (.Name "self" q1) "value" q2] (.Name "value" q3) q4]
def iS : Scope := { kind := .function, names := [(PySem.Str.ofString "self", .local), (PySem.Str.ofString "value", .local), (PySem.Str.ofString "__class__", .free), (PySem.Str.ofString "super", .globalImplicit)], isGenerator := false, isCoroutine := false, more := [] }
/-- what the written part says of the class x, at C, and of its __init__, at fI -/
structure ErrTxt (K : Frag) (mg : Str → Option Value) (P : Program) (x qual : Str) (C fI : Addr) : Prop where
  gC : mg x = some (.ref C)
  cls : ∃ nm q N bs bm sn sub ab col dd k0 k1 k2 k3 k5, K.lookup C = some (excClassObj nm q C N bs bm true sn sub ab col dd k0 k1 k2 k3 k5 "ValueError.__new__") ∧ refsVE bm = true ∧ alongIn K "__init__" bm = some (some (.builtin "ValueError.__init__"))
  sa : findIn K (.ref C) "__setattr__" = some (some (.builtin "object.__setattr__"))
  ga : findIn K (.ref C) "__getattribute__" = some (some (.builtin "BaseException.__getattribute__"))
  gg : findIn K (.ref C) "__getattr__" = some none
  noN : findIn K (.ref C) "value" = some none
  iC : findIn K (.ref C) "__init__" = some (some (.ref fI))
  tC : typeIn K (.ref fI) = some (.type "function")
  kC : keepIn K (.ref C) = true
  exC : subIn K (.ref C) (.type "BaseException") = some true
  vaC : subIn K (.ref C) (.type "ValueError") = some true
  tyC : typeIn K (.ref C) = some (.type "type")
  hdC : hasDictIn K C = true
  te : exmOne K (.ref C) (.ref C) = some true
  mr : mroIn K C (.ref C) = some true
  op : nsIn K cStatics "thirdparty.any" = some none
  su : mg "super" = none
  fn : ∃ (oc : Value) (od : Option Addr) (T cc cda : Addr) (kV doc pm : Value) (an : Option Addr) (ct : Value) (osl : Array (Option Value)) (p1 p2 p3 a1 a2 a3 a4 a5 q1 q2 q3 q4 : Pos),
    (a3.endLine == a4.line) = true ∧ K.lookup fI = some ⟨oc, od, .func (ksFn "__init__" qual (iA p1 p2 p3) (iB a1 a2 a3 a4 a5 q1 q2 q3 q4) iS (.ref T) kV doc pm an (.ref cda) ct cc), osl⟩ ∧ codeIn K (.ref cda) qual = true ∧
    (∃ (o : Obj) (v : Value) (n : Nat), K.lookup T = some o ∧ o.data = .seq #[v] n) ∧ (∃ cl cld csl, K.lookup cc = some ⟨cl, cld, .cell (some (.ref C)), csl⟩) ∧
    ∃ ccl cdd ccs vs file tf, K.lookup cda = some ⟨ccl, cdd, .fields vs, ccs⟩ ∧ vs[2]? = some (.str file tf) ∧ ((P.main.file : Str) == file) = true ∧ (P.main.scope.names.lookup ("super" : Str)).isSome = false
/-- what __init__ leaves of a fresh exception at x -/
structure InitEnd (h h' : Heap) (x C dx t1 : Addr) (v : Value) : Prop where
  keep : ∀ b o, b ≠ x → h.get? b = some o → h'.get? b = some o
  obj : h'.get? x = some { cls := .ref C, dict := some dx, data := .fields #[.ref t1, .none, .none, .none, .bool false, .none] }
  dbig : h.objs.size ≤ dx
  dne : dx ≠ x
  ns : h'.Ns1 dx (fun y => if y = "value" then some v else none)
/-- a made error -/
structure OwnMade (h h' : Heap) (e C d : Addr) (v : Value) : Prop where
  keep : ∀ b o, h.get? b = some o → h'.get? b = some o
  new : h.objs.size ≤ e
  obj : ∃ oe vs, h'.get? e = some oe ∧ oe.cls = .ref C ∧ oe.dict = some d ∧ oe.data = .fields vs ∧ vs[1]? = some .none
  dbig : h.objs.size ≤ d
  dne : d ≠ e
  ns : h'.Ns1 d (fun y => if y = "value" then some v else none)
section
variable {prog : Program} {w : World} {A : Around} {E : Value → Shared → Prop} {R : Result → Shared → Prop} {s : Shared} {K : Frag} {mg mb : Str → Option Value} {C fI : Addr} {x qual : Str}
end
end ErrX
end PySem
namespace L2
open PySem PySem.Spec PyProof.Rows
section
variable {X : Cx} {C fI : Addr} {x qual : Str}
end
end L2
/-! Pv, part AH: an error raised, caught, held, and its value read. -/
namespace L2
open PySem PySem.Spec PyProof.Rows
section
variable {X : Cx} {pins : List (Addr × Obj)} {σ : St} {H : Hp} {s : Shared}
end
section
variable {X : Cx} {x n y : Str} {c : Value} {i j : Nat} {body : List Stmt} {np pos pos' p1 p2 p3 : Pos} {tb : WX → TS} {Wout : WX}
end
section
variable {X : Cx} {C fI : Addr} {x qual : Str}
end
end L2
/-! Pv, part AI: raise C(e); a def that catches and looks at the value. -/
namespace Pv
open PySem PySem.Spec L2
section
variable {X : Cx} {ca : CA} {W : WX} {a ye call : Expr} {fa cf fy : EF} {c qual n y : Str} {fI : Addr} {k i j : Nat} {p pos pos2 : Pos}
end
end Pv

namespace Pv
open PySem PySem.Spec L2
section
variable {P : Program} {K : PySem.W.Frag} {h : Heap} {mg : Str → Option Value} {x qual : Str} {st : Stmt} {C f T cc cda N : Addr} {oc kV doc pm ct cl ccl : Value} {od an cld cdd : Option Addr} {osl csl ccs : Array (Option Value)} {o : PySem.Obj} {its vs : Array Value} {n : Nat} {file : Str} {tf : Tok} {R : Prop}
  {nm q : Str} {bs bm sub : List Value} {sn : List Str} {ab : Bool} {col : Option Bool} {dd : Option Addr} {k0 k1 k2 k3 k5 : Option Value}
end
end Pv
/-! Pv, part AJ: keyword calls; dicts copied, listed, cleared; l.pop(i); text * n; a[i], b[j] = x, y. -/
namespace Pv
open PySem PySem.Spec L2 PyProof.Rows

/-! ### keyword calls -/
section
variable {X : Cx} {CX : CXT} {k : Nat} {f : Addr} {fd : FuncData} {ps ks : List Str} {is : List Nat} {sp : Sp} {E : L2.St → XK} {x : Str} {p pos : Pos} {kws : List Keyword} {t : TA}
end
section
variable {X : Cx} {ca : CA} {W : WX} {e a b c d o : Expr} {es : List Expr} {kws : List Keyword} {fa fb fc fd' fo fe : EF} {g : LF} {pos p apos cpos kpos : Pos} {f : BF} {x m : Str} {k : Nat} {ad : Addr} {fd : FuncData} {ps ks : List Str} {is : List Nat} {nm : Option Str}
theorem _root_.L2.PK.weak {X : Cx} {kws : List Keyword} {t u : TA} (h : PK X kws t) (w : ∀ σ H Q, u σ H Q → t σ H Q) : PK X kws u := ⟨fun pos pins s σ H Q I hu => h.run pos pins s σ H Q I (w σ H Q hu)⟩
/-! ### l.pop(i), d.clear(), dict(d), list(d.items()), text * n -/
end
section
variable {K : PySem.W.Frag} {h : Heap} {mg : Str → Option Value} {x cls qual : Str} {st : Stmt} {ps ks : List Str} {is : List Nat} {f T C : Addr} {oc : Value} {od an : Option Addr} {osl : Array (Option Value)} {kV doc pm cdv ct : Value} {R : Prop}
end
end Pv
/-! Pv, part AK: dicts whose keys are tuples of tuples. -/
namespace Pv
open PySem PySem.Spec L2 PyProof.Rows

/-! ### keys in the layer's heap -/
mutual
def NKV (H : Hp) : NestedKey → V → Prop
  | .none, x => x = .non
  | .num i, x => x = .int i
  | .text s, x => x = .str s
  | .tup ks, x => ∃ b xs, x = .ref b ∧ H b = some (.tup xs) ∧ NKVs H ks xs
def NKVs (H : Hp) : List NestedKey → List V → Prop
  | [], xs => xs = []
  | k :: ks, xs => ∃ x r, xs = x :: r ∧ NKV H k x ∧ NKVs H ks r
end
section
variable {K : PySem.W.Frag} {ca : CA} {F : Addr → Prop} {H H' : Hp} {as : Nat → Addr} {nx : Nat}
mutual
theorem toNK_at : ∀ (v : Val) (x : V) (k : NestedKey), RV K ca F H as nx v x → toNK v = some k → NKV H k x
  | .non, x, k, h, e => by simp only [toNK, Option.some.injEq] at e; subst e; simp only [RV] at h; simp only [NKV]; exact h
  | .int i, x, k, h, e => by simp only [toNK, Option.some.injEq] at e; subst e; simp only [RV] at h; simp only [NKV]; exact h
  | .str s, x, k, h, e => by simp only [toNK, Option.some.injEq] at e; subst e; simp only [RV] at h; simp only [NKV]; exact h
  | .tup vs, x, k, h, e => by
    simp only [toNK, Option.map_eq_some_iff] at e
    obtain ⟨ks, e1, rfl⟩ := e
    simp only [RV] at h
    obtain ⟨a, xs, rfl, h1, h2⟩ := h
    simp only [NKV]
    exact ⟨a, xs, rfl, h1, toNKs_at vs xs ks h2 e1⟩
  | .bl b, x, k, h, e => by simp [toNK] at e
  | .lst vs, x, k, h, e => by simp [toNK] at e
  | .rol vs, x, k, h, e => by simp [toNK] at e
  | .rot vs, x, k, h, e => by simp [toNK] at e
  | .dct t ks vs, x, k, h, e => by simp [toNK] at e
  | .ndc ks vs, x, k, h, e => by simp [toNK] at e
  | .ins c fs vs, x, k, h, e => by simp [toNK] at e
  | .ref n, x, k, h, e => by simp [toNK] at e
  | .cls c, x, k, h, e => by simp [toNK] at e
  | .ty n, x, k, h, e => by simp [toNK] at e
theorem toNKs_at : ∀ (vs : List Val) (xs : List V) (ks : List NestedKey), RVs K ca F H as nx vs xs → toNKs vs = some ks → NKVs H ks xs
  | [], xs, ks, h, e => by
    simp only [toNKs, Option.some.injEq] at e
    subst e
    simp only [NKVs]
    exact h.nil_inv
  | v :: vs, xs, ks, h, e => by
    obtain ⟨x, r, rfl, h1, h2⟩ := h.inv
    simp only [toNKs] at e
    cases q1 : toNK v with
    | none => rw [q1] at e; cases e
    | some k =>
      cases q2 : toNKs vs with
      | none => rw [q1, q2] at e; cases e
      | some kk =>
        rw [q1, q2] at e
        cases e
        simp only [NKVs]
        exact ⟨x, r, rfl, toNK_at v x k h1 q1, toNKs_at vs r kk h2 q2⟩
end
/-- a key: a tracked tuple, to depth 8 -/
def NKey (H : Hp) (k : NestedKey) (b : Addr) : Prop := NKV H k (.ref b) ∧ k.depth ≤ 8
def KOk (H : Hp) (kvs : List (NestedKey × Addr × V)) : Prop := ∀ p ∈ kvs, NKey H p.1 p.2.1
theorem toNKey_at {v : Val} {x : V} {k : NestedKey} (h : RV K ca F H as nx v x) (e : toNKey v = some k) : ∃ b, x = .ref b ∧ NKey H k b := by
  unfold toNKey at e
  split at e
  · rename_i vs
    split at e
    · rename_i ks q
      obtain ⟨hd, e⟩ := if_inv e
      cases e
      have z := toNK_at (.tup vs) x (.tup ks) h (by simp only [toNK, q, Option.map_some])
      simp only [RV] at h
      obtain ⟨a, xs, rfl, _⟩ := h
      exact ⟨a, rfl, z, hd⟩
    · cases e
  · cases e
theorem KOk.of : ∀ {kvs : List (NestedKey × Addr × V)} {ks : List Val}, RVs K ca F H as nx ks (kvs.map fun p => V.ref p.2.1) → toNKeys ks = some (kvs.map (·.1)) → KOk H kvs
  | [], _, _, _ => fun p hp => nomatch hp
  | p :: r, [], h, e => by simp [toNKeys] at e
  | p :: r, k :: ks, h, e => by
    obtain ⟨x, xs, ex, h1, h2⟩ := h.inv
    simp only [List.map_cons, List.cons.injEq] at ex
    obtain ⟨rfl, rfl⟩ := ex
    simp only [toNKeys] at e
    cases q1 : toNKey k with
    | none => rw [q1] at e; cases e
    | some j =>
      cases q2 : toNKeys ks with
      | none => rw [q1, q2] at e; cases e
      | some jj =>
        rw [q1, q2] at e
        simp only [List.map_cons, Option.some.injEq, List.cons.injEq] at e
        obtain ⟨rfl, rfl⟩ := e
        intro q hq
        rcases List.mem_cons.mp hq with rfl | hq
        · obtain ⟨b, eb, hb⟩ := toNKey_at h1 q1
          cases eb
          exact hb
        · exact KOk.of h2 q2 q hq
mutual
theorem NKV.is {P : Program} {w : World} {h : Heap} (ok : HOk P w H h) : ∀ (k : NestedKey) (x : V) (u : Value), NKV H k x → RelV x u → NestedIs h k u
  | .none, x, u, n, r => by
    simp only [NKV] at n; subst n
    cases (show u = Value.none from r)
    exact .none
  | .num i, x, u, n, r => by
    simp only [NKV] at n; subst n
    obtain ⟨t, rfl⟩ := (show ∃ t, u = Value.int i t from r)
    exact .int i t
  | .text i, x, u, n, r => by
    simp only [NKV] at n; subst n
    obtain ⟨t, rfl⟩ := (show ∃ t, u = Value.str i t from r)
    exact .text i t
  | .tup ks, x, u, n, r => by
    simp only [NKV] at n
    obtain ⟨b, xs, rfl, hb, hk⟩ := n
    cases (show u = Value.ref b from r)
    obtain ⟨_, its, rl, o, h1, h2, m, h3⟩ := (show ObjOk P w H h b (.tup xs) from ok b _ hb)
    exact .tup h1 h2 h3 (by simpa using NKVs.is ok ks xs its hk rl)
theorem NKVs.is {P : Program} {w : World} {h : Heap} (ok : HOk P w H h) : ∀ (ks : List NestedKey) (xs : List V) (us : List Value), NKVs H ks xs → Vals xs us → NestedAll h ks us
  | [], xs, us, n, r => by
    simp only [NKVs] at n; subst n
    cases r
    exact .nil
  | k :: ks, xs, us, n, r => by
    simp only [NKVs] at n
    obtain ⟨x, t, rfl, h1, h2⟩ := n
    cases r with
    | cons r1 r2 => exact .cons (NKV.is ok k x _ h1 r1) (NKVs.is ok ks t _ h2 r2)
end
end

/-! ### lists of entries as tables -/
def valN (kvs : List (NestedKey × Addr × V)) (k : NestedKey) : Option V := (kvs.find? fun p => decide (p.1 = k)).map (·.2.2)
def putN (kvs : List (NestedKey × Addr × V)) (k : NestedKey) (b : Addr) (y : V) : List (NestedKey × Addr × V) :=
  if (kvs.any fun p => decide (p.1 = k)) = true then kvs.map (fun p => if p.1 = k then (p.1, p.2.1, y) else p) else kvs ++ [(k, b, y)]
def NT : List (NestedKey × Addr × V) → List (NestedKey × Addr × Value) → Prop := Paired fun p q => p.1 = q.1 ∧ p.2.1 = q.2.1 ∧ RelV p.2.2 q.2.2
theorem valN_pos {p : NestedKey × Addr × V} {r : List (NestedKey × Addr × V)} {k : NestedKey} (e : p.1 = k) : valN (p :: r) k = some p.2.2 := by simp [valN, List.find?_cons, e]
theorem valN_neg {p : NestedKey × Addr × V} {r : List (NestedKey × Addr × V)} {k : NestedKey} (e : ¬ p.1 = k) : valN (p :: r) k = valN r k := by simp [valN, List.find?_cons, e]
theorem valN_any (k : NestedKey) : ∀ kvs : List (NestedKey × Addr × V), (kvs.any fun p => decide (p.1 = k)) = (valN kvs k).isSome
  | [] => rfl
  | p :: r => by
    rw [List.any_cons]
    by_cases e : p.1 = k
    · simp only [valN_pos e, decide_eq_true e, Bool.true_or, Option.isSome_some]
    · rw [valN_neg e, decide_eq_false e, Bool.false_or]; exact valN_any k r
theorem NT.val {kvs : List (NestedKey × Addr × V)} {xs : List (NestedKey × Addr × Value)} (r : NT kvs xs) (k : NestedKey) : RelO (valN kvs k) ((atKey xs k).map (·.2)) := by
  unfold NT at r
  induction r with
  | nil => exact True.intro
  | @cons p q ps qs h t ih =>
    obtain ⟨h1, h2, h3⟩ := h
    by_cases e : p.1 = k
    · have e' : q.1 = k := h1.symm.trans e
      have b : atKey (q :: qs) k = some q.2 := by simp [atKey, List.find?_cons, e']
      rw [valN_pos e, b]; exact h3
    · have e' : ¬ q.1 = k := fun z => e (h1.trans z)
      have b : atKey (q :: qs) k = atKey qs k := by simp [atKey, List.find?_cons, e']
      rw [valN_neg e, b]; exact ih
theorem NT.repl {kvs : List (NestedKey × Addr × V)} {xs : List (NestedKey × Addr × Value)} (r : NT kvs xs) (k : NestedKey) {y : V} {u : Value} (ry : RelV y u) : NT (kvs.map fun p => if p.1 = k then (p.1, p.2.1, y) else p) (xs.map (putAt k u)) := by
  unfold NT at r ⊢
  induction r with
  | nil => exact .nil
  | @cons p q ps qs h t ih =>
    rw [List.map_cons, List.map_cons]
    refine .cons ?_ ih
    obtain ⟨h1, h2, h3⟩ := h
    unfold putAt
    by_cases e : p.1 = k
    · rw [if_pos e, if_pos (h1.symm.trans e)]; exact ⟨h1, h2, ry⟩
    · rw [if_neg e, if_neg (fun z => e (h1.trans z))]; exact ⟨h1, h2, h3⟩
theorem NT.put {kvs : List (NestedKey × Addr × V)} {xs : List (NestedKey × Addr × Value)} (r : NT kvs xs) (k : NestedKey) (b : Addr) {y : V} {u : Value} (ry : RelV y u) : NT (putN kvs k b y) (storedH xs k b u) := by
  have e : (kvs.any fun p => decide (p.1 = k)) = (atKey xs k).isSome := by
    rw [valN_any, (r.val k).isSome_eq, Option.isSome_map]
  unfold putN storedH
  rw [e]
  by_cases q : (atKey xs k).isSome = true
  · rw [if_pos q, if_pos q]; exact r.repl k ry
  · rw [if_neg q, if_neg q]; exact Paired.snoc r ⟨rfl, rfl, ry⟩
theorem NT.length {kvs : List (NestedKey × Addr × V)} {xs : List (NestedKey × Addr × Value)} (r : NT kvs xs) : kvs.length = xs.length := Paired.length r
theorem length_putN (kvs : List (NestedKey × Addr × V)) (k : NestedKey) (b : Addr) (y : V) : (putN kvs k b y).length ≤ kvs.length + 1 := by
  unfold putN
  split
  · rw [List.length_map]; omega
  · rw [List.length_append, List.length_cons, List.length_nil]; omega
theorem KOk.put {H : Hp} {kvs : List (NestedKey × Addr × V)} {k : NestedKey} {b : Addr} {y : V} (h : KOk H kvs) (hb : NKey H k b) : KOk H (putN kvs k b y) := by
  unfold putN
  split
  · intro p hp
    obtain ⟨q, hq, rfl⟩ := List.mem_map.mp hp
    by_cases e : q.1 = k
    · rw [if_pos e]; exact h q hq
    · rw [if_neg e]; exact h q hq
  · intro p hp
    rcases List.mem_append.mp hp with hp | hp
    · exact h p hp
    · rw [List.mem_singleton.mp hp]; exact hb

/-! ### the dict's object -/
section
variable {P : Program} {w : World} {H : Hp} {h : Heap} {a : Addr} {kvs : List (NestedKey × Addr × V)}
theorem nd_rd (ok : HOk P w H h) (e : Rd H a (NDO w a kvs)) (k : KOk H kvs) : kvs.length ≤ sizeLine ∧ (a == sysModules) = false ∧ ∃ xs, NT kvs xs ∧ h.DictOfH (nestedKind P w) a xs := by
  obtain ⟨⟨z, y, xs, r, o, es, ep, h1, h2, h3, h4, h5⟩, _⟩ := (show ObjOk P w H h a (NDO w a kvs) from e.ok ok)
  refine ⟨z, y, xs, r, o, es, ep, h1, h2, h3, h4, fun x hx => ?_, h5⟩
  have all : ∀ {l : List (NestedKey × Addr × V)} {m : List (NestedKey × Addr × Value)}, NT l m → KOk H l → ∀ x ∈ m, (nestedKind P w).is h x.1 x.2.1 := by
    intro l m q
    induction q with
    | nil => intro _ x hx; exact nomatch hx
    | @cons p q ps qs hq t ih =>
      intro kk x hx
      rcases List.mem_cons.mp hx with e | hx
      · subst e
        obtain ⟨k1, k2⟩ := kk p (List.mem_cons_self ..)
        rw [hq.1, hq.2.1] at k1
        rw [hq.1] at k2
        exact ⟨NKV.is ok _ _ _ k1 rfl, k2⟩
      · exact ih (fun q hq => kk q (List.mem_cons_of_mem _ hq)) x hx
  exact all r k x hx
theorem nd_ok {xs : List (NestedKey × Addr × Value)} (z : kvs.length ≤ sizeLine) (hd : (a == sysModules) = false) (r : NT kvs xs) (dd : h.DictOfH (nestedKind P w) a xs) : ObjOk P w H h a (NDO w a kvs) := by
  obtain ⟨o, es, ep, h1, h2, h3, h4, _, h5⟩ := dd
  exact ⟨⟨z, hd, xs, r, o, es, ep, h1, h2, h3, h4, h5⟩, ⟨o, h1⟩, fun g1 g2 ⟨z, y, xs, r, o, es, ep, h1, h2, h3, h4, h5⟩ st => ⟨z, y, xs, r, o, es, ep, st o h1, h2, h3, h4, h5⟩⟩
theorem nk_is (ok : HOk P w H h) {k : NestedKey} {b : Addr} (n : NKey H k b) : (nestedKind P w).is h k b := ⟨NKV.is ok _ _ _ n.1 rfl, n.2⟩
end
section
variable {X : Cx} {pins : List (Addr × PySem.Obj)} {σ : L2.St} {H : Hp} {s : Shared} {a b : Addr} {y : V} {u r : Value} {A : Around} {E : Value → Shared → Prop} {kvs : List (NestedKey × Addr × V)} {k : NestedKey}
theorem n_setItem {v : V} {Q : Unit → Shared → Prop} (hu : A.units + 10 < cLine) (I : Inv X pins σ H s) (e : H a = some (NDO X.w a kvs)) (kk : KOk H kvs) (kb : NKey H k b) (hl : kvs.length < sizeLine) (rv : RelV v r)
    (h : ∀ s', Inv X pins σ (upd H a (NDO X.w a (putN kvs k b v))) s' → Q () s') : wpAny (model X.prog X.w) A (PySem.setItem (.ref a) (.ref b) r) Q E s := by
  obtain ⟨z, hd, xs, rel, dd⟩ := nd_rd I.hok (.inl e) kk
  have hz : xs.length ≤ sizeLine := by rw [← rel.length]; exact z
  have hl : (putN kvs k b v).length ≤ sizeLine := by have := length_putN kvs k b v; omega
  refine wpAny_setItem_heap (hsz := hz) (by show A.units + 1 + 8 < cLine; omega) (nk_is I.hok kb) dd fun h' dd' hs => h _ ?_
  have he : ∃ q, h'.get? a = some q := let ⟨q, _, _, hq, _⟩ := dd'; ⟨q, hq⟩
  exact d_write I (by rw [e]; exact True.intro) hs he (nd_ok hl hd (rel.put k b rv) dd')
end

/-! ### rules -/
section
variable {K : PySem.W.Frag} {ca : CA} {F : Addr → Prop} {H : Hp} {as : Nat → Addr} {st st' : Store} {v w : Val} {x y : V}
theorem asND_at (R : Rel K ca F H as st) (h : RV K ca F H as st.nx v x) {ks vs : List Val} (e : asND st v = some (ks, vs)) :
    ∃ a kvs, x = .ref a ∧ Rd H a (NDO ca.w a kvs) ∧ toNKeys ks = some (kvs.map (·.1)) ∧ RVs K ca F H as st.nx ks (kvs.map fun p => V.ref p.2.1) ∧ RVs K ca F H as st.nx vs (kvs.map (·.2.2)) := by
  cases v with
  | ndc ks' ws =>
    simp only [asND, Option.some.injEq, Prod.mk.injEq] at e
    obtain ⟨rfl, rfl⟩ := e
    simp only [RV] at h
    obtain ⟨a, kvs, e, f, h1, h2, h3, h4⟩ := h
    exact ⟨a, kvs, e, .inl h1, h2, h3, h4⟩
  | ref n =>
    simp only [asND] at e
    simp only [RV] at h
    split at e
    · rename_i ks' ws q
      cases e
      obtain ⟨_, _, kvs, h1, h2, h3, h4⟩ := R.live n _ q
      exact ⟨as n, kvs, h.2, .inl h1, h2, h3, h4⟩
    · cases e
  | _ => simp only [asND] at e; cases e
theorem nHas_at (k : NestedKey) (kvs : List (NestedKey × Addr × V)) : nHas (kvs.map (·.1)) k = (valN kvs k).isSome := by
  rw [← valN_any]
  unfold nHas
  rw [List.any_map]
  rfl
theorem toNKeys_len : ∀ {ks : List Val} {kk : List NestedKey}, toNKeys ks = some kk → ks.length = kk.length
  | [], kk, h => by simp only [toNKeys, Option.some.injEq] at h; subst h; rfl
  | k :: r, kk, h => by
    simp only [toNKeys] at h
    cases q3 : toNKey k with
    | none => rw [q3] at h; cases h
    | some j =>
      cases q4 : toNKeys r with
      | none => rw [q3, q4] at h; cases h
      | some jj => rw [q3, q4] at h; cases h; simp only [List.length_cons, toNKeys_len q4]
theorem toNKeys_snoc {k : Val} {j : NestedKey} (hk : toNKey k = some j) : ∀ {ks : List Val} {kk : List NestedKey}, toNKeys ks = some kk → toNKeys (ks ++ [k]) = some (kk ++ [j])
  | [], kk, h => by simp only [toNKeys, Option.some.injEq] at h; subst h; simp [toNKeys, hk]
  | k' :: r, kk, h => by
    simp only [toNKeys] at h
    cases q3 : toNKey k' with
    | none => rw [q3] at h; cases h
    | some i =>
      cases q4 : toNKeys r with
      | none => rw [q3, q4] at h; cases h
      | some jj => rw [q3, q4] at h; cases h; simp only [List.cons_append, toNKeys, q3, toNKeys_snoc hk q4]
theorem nSet_at {k : NestedKey} {nx : Nat} (hy : RV K ca F H as nx w y) : ∀ (kvs : List (NestedKey × Addr × V)) {vs : List Val}, RVs K ca F H as nx vs (kvs.map (·.2.2)) → RVs K ca F H as nx (nSet (kvs.map (·.1)) vs k w) ((kvs.map fun p => if p.1 = k then (p.1, p.2.1, y) else p).map (·.2.2))
  | [], vs, h => by simp [nSet]; exact .nil
  | p :: r, [], h => by have := h.length; simp at this
  | p :: r, v :: vs, h => by
    obtain ⟨x, xr, ex, h1, h2⟩ := h.inv
    simp only [List.map_cons, List.cons.injEq] at ex
    obtain ⟨rfl, rfl⟩ := ex
    simp only [List.map_cons, nSet]
    refine .cons ?_ (nSet_at hy r h2)
    by_cases hk : p.1 = k
    · rw [if_pos hk, if_pos hk]; exact hy
    · rw [if_neg hk, if_neg hk]; exact h1
/-- a store at a key -/
theorem nPut_at {ks vs ks' vs' : List Val} {kvs : List (NestedKey × Addr × V)} {j : Val} {xj : V} {nx : Nat} (h0 : toNKeys ks = some (kvs.map (·.1))) (hk : RVs K ca F H as nx ks (kvs.map fun p => V.ref p.2.1)) (hv : RVs K ca F H as nx vs (kvs.map (·.2.2)))
    (hj : RV K ca F H as nx j xj) (hy : RV K ca F H as nx w y) (e : nPut ks vs j w = some (ks', vs')) : ∃ k b, toNKey j = some k ∧ xj = .ref b ∧ NKey H k b ∧ kvs.length < sizeLine ∧ toNKeys ks' = some ((putN kvs k b y).map (·.1)) ∧
      RVs K ca F H as nx ks' ((putN kvs k b y).map fun p => V.ref p.2.1) ∧ RVs K ca F H as nx vs' ((putN kvs k b y).map (·.2.2)) := by
  unfold nPut at e
  rw [h0] at e
  cases q : toNKey j with
  | none => rw [q] at e; cases e
  | some k =>
    rw [q] at e
    obtain ⟨b, rfl, nb⟩ := toNKey_at hj q
    dsimp only at e
    obtain ⟨⟨hl, hs⟩, e⟩ := if_inv e
    have hs' : kvs.length < sizeLine := by
      have := toNKeys_len h0
      rw [List.length_map] at this
      rw [sizeLine_eq]; omega
    refine ⟨k, b, rfl, rfl, nb, hs', ?_⟩
    rw [nHas_at] at e
    unfold putN
    rw [valN_any]
    cases q2 : (valN kvs k).isSome with
    | true =>
      rw [q2] at e
      simp only [if_true, Option.some.injEq, Prod.mk.injEq] at e
      obtain ⟨rfl, rfl⟩ := e
      rw [if_pos rfl]
      have e1 : (kvs.map fun p => if p.1 = k then (p.1, p.2.1, y) else p).map (·.1) = kvs.map (·.1) := by
        rw [List.map_map]; refine List.map_congr_left fun p _ => ?_
        by_cases h : p.1 = k <;> simp [h]
      have e2 : (kvs.map fun p => if p.1 = k then (p.1, p.2.1, y) else p).map (fun p => V.ref p.2.1) = kvs.map fun p => V.ref p.2.1 := by
        rw [List.map_map]; refine List.map_congr_left fun p _ => ?_
        by_cases h : p.1 = k <;> simp [h]
      rw [e1, e2]
      exact ⟨h0, hk, nSet_at hy kvs hv⟩
    | false =>
      rw [q2] at e
      simp only [Bool.false_eq_true, if_false, Option.some.injEq, Prod.mk.injEq] at e
      obtain ⟨rfl, rfl⟩ := e
      rw [if_neg (by decide)]
      simp only [List.map_append, List.map_cons, List.map_nil]
      exact ⟨toNKeys_snoc q h0, hk.append (.cons hj .nil), hv.append (.cons hy .nil)⟩
end
section
variable {X : Cx} {ca : CA} {W : WX} {e a b c : Expr} {es : List Expr} {fa fb fe : EF} {pos p : Pos}
end
end Pv
/-! Pv, part AL: dicts whose keys are tuples of tuples: made, stored into, listed, their values, their length. -/
namespace Pv
open PySem PySem.Spec L2 PyProof.Rows

section
variable {K : PySem.W.Frag} {ca : CA} {F : Addr → Prop} {H : Hp} {as : Nat → Addr} {st st' : Store} {v w : Val} {x y : V} {σ : L2.St} {W : WX} {Q : VK} {res : Out Val}
theorem newN_at {kvs : List (NestedKey × Addr × V)} {ks vs : List Val} (R : Rel K ca F H as st) (h2 : toNKeys ks = some (kvs.map (·.1))) (h3 : RVs K ca F H as st.nx ks (kvs.map fun p => V.ref p.2.1)) (h4 : RVs K ca F H as st.nx vs (kvs.map (·.2.2)))
    (e : newN ks vs st = some (res, st')) (post : Post K ca (RV K ca) σ Q W F H as st st' res) (p : Addr) (hp : H p = none) : Q (.ref p) (upd H p (NDO ca.w p kvs)) := by
  unfold newN at e
  cases e
  have keep := (new_res R (NDO ca.w p kvs) hp).1
  obtain ⟨x1, R1⟩ := new_live (ob := .ndc ks vs) (u := NDO ca.w p kvs) R hp ⟨kvs, upd_same, h2, h3.ext keep, h4.ext keep⟩
  refine post.at x1 R1 ?_
  simp only [RV]
  exact ⟨Nat.lt_succ_self _, by rw [asN_eq]⟩
theorem nSetItem_at {u : Val} {xu : V} {q : Hp → Prop} {r : Out Unit} (R : Rel K ca F H as st) (hv : RV K ca F H as st.nx v x) (hw : RV K ca F H as st.nx w y) (hu : RV K ca F H as st.nx u xu) (e : nSetItem v w u st = some (r, st'))
    (post : ∀ H1, Ext F H as st F H1 as st' → Rel K ca F H1 as st' → q H1) : (∃ a b kvs k, x = .ref a ∧ y = .ref b ∧ H a = some (NDO ca.w a kvs) ∧ KOk H kvs ∧ NKey H k b ∧ kvs.length < sizeLine ∧ q (upd H a (NDO ca.w a (putN kvs k b xu)))) ∧ r = .ok () := by
  unfold nSetItem at e
  split at e
  · rename_i n
    simp only [RV] at hv
    split at e
    · rename_i ks vs q1
      split at e
      · rename_i ks' vs' q2
        cases e
        obtain ⟨_, _, kvs, h1, h2, h3, h4⟩ := R.live n _ q1
        obtain ⟨k, b, _, rfl, nb, hl, z1, z2, z3⟩ := nPut_at h2 h3 h4 hw hu q2
        obtain ⟨x1, R1⟩ := put_at (o' := .ndc ks' vs') (u := NDO ca.w (as n) (putN kvs k b xu)) R q1 fun x1 => ⟨_, upd_same, z1, (z2 : RVs K ca F H as st.nx _ _).mono x1.sub x1.keep x1.ags (Nat.le_refl _), (z3 : RVs K ca F H as st.nx _ _).mono x1.sub x1.keep x1.ags (Nat.le_refl _)⟩
        exact ⟨⟨as n, b, kvs, k, hv.2, rfl, h1, KOk.of h3 h2, nb, hl, post _ x1 R1⟩, rfl⟩
      · cases e
    · cases e
  · cases e
end

/-! ### the layer's rules -/
theorem pe_dnewN {X : Cx} {pos : Pos} : PE X (.Dict [] [] pos) (fun σ H Q => ∀ p, H p = none → Q (.ref p) (upd H p (NDO X.w p []))) := ⟨fun pins s σ H Q I h =>
  wpAny_Dict_empty ⟨.ref s.heap.objs.size, _, I.laid (a := s.heap.objs.size) (o := NDO X.w s.heap.objs.size []) (t' := s.toks) (fun _ _ q => Heap.get?_push_of_some _ q) (Nat.le_refl _)
    (nd_ok (Nat.zero_le _) (beq_eq_false_iff_ne.mpr (Nat.ne_of_gt I.big)) (.nil : NT [] []) (Heap.DictOfH.new s.heap)), rfl, h _ (I.hok.fresh (Nat.le_refl _))⟩⟩
theorem set_N {X : Cx} (hu : X.A.units + 10 < cLine) : PSet X (fun o i v H Q => ∃ a b kvs k, o = .ref a ∧ i = .ref b ∧ H a = some (NDO X.w a kvs) ∧ KOk H kvs ∧ NKey H k b ∧ kvs.length < sizeLine ∧ Q (upd H a (NDO X.w a (putN kvs k b v)))) := by
  intro pins s σ H o i v ov iv u Q I ro ri rv ⟨a, b, kvs, k, e1, e2, g1, g2, g3, g4, q⟩
  subst e1 e2
  cases ro
  cases ri
  exact n_setItem hu I g1 g2 g3 g4 rv fun s4 I4 => ⟨_, I4, q⟩
theorem nd_raw {P : Program} {w : World} {H : Hp} {h : Heap} {a : Addr} {kvs : List (NestedKey × Addr × V)} (ok : HOk P w H h) (e : Rd H a (NDO w a kvs)) : kvs.length ≤ sizeLine ∧ (a == sysModules) = false ∧ ∃ (es : Array DictEntry) (ep : Nat) (xs : List (NestedKey × Addr × Value)), h.DictRaw a es ep ∧ NT kvs xs ∧ es.toList = xs.map (fun x => (⟨x.1.hash w, .ref x.2.1, x.2.2⟩ : DictEntry)) := by
  obtain ⟨⟨z, y, xs, r, o, es, ep, h1, h2, h3, h4, h5⟩, _⟩ := (show ObjOk P w H h a (NDO w a kvs) from e.ok ok)
  exact ⟨z, y, es, ep, xs, ⟨o, h1, h2, h3⟩, r, h4⟩
def tValsN (td : TE) (w : World) : TE := fun σ H Q => td σ H fun x H1 => ∃ d kvs, x = .ref d ∧ Rd H1 d (NDO w d kvs) ∧ ∀ p, H1 p = none → Q (.ref p) (upd H1 p (viewO "dict_values" p d))
theorem pe_valsN {X : Cx} {e : Expr} {td : TE} {apos cpos : Pos} (he : PE X e td) (hbase : attributeBase e "values" X.env (eval e X.env) = eval e X.env := by rfl) (hline : (apos.endLine == cpos.line) = true := by rfl) : PE X (.Call (.Attribute e "values" apos) [] [] cpos) (tValsN td X.w) := by
  refine ⟨fun pins s σ H Q I h => ?_⟩
  refine wpAny_Call_method (T := "dict") (id := "dict.values") hbase rfl hline F.plainAttrs_dict F.slot_dict_values F.type_dict_values (thn (he.run pins s σ H _ I h) fun u s1 ⟨x, H1, I1, rx, d, kvs, ex, hd, q⟩ => ?_)
  subst ex
  obtain rfl : u = Value.ref d := rx
  obtain ⟨z, hs, es, ep, xs, hm, r, he⟩ := nd_raw I1.hok hd
  refine ⟨hm.typeIs, (fun a e => by cases e; exact let ⟨o, ho, hx, _⟩ := hm; ⟨o, ho, hx.2.1⟩), ?_⟩
  have fin : EP X pins σ Q (.ref s1.heap.objs.size) { s1 with heap := s1.heap.push { cls := .type "dict_values", data := .fields #[.ref d] } } :=
    ⟨.ref s1.heap.objs.size, _, I1.laid (t' := s1.toks) (fun b o q => Heap.get?_push_of_some _ q) (Nat.le_refl _) (viewO_ok (Heap.get?_push_size _ rfl)), rfl, q _ (I1.hok.fresh (Nat.le_refl _))⟩
  show wpAny _ _ (callWith cpos (.builtin "dict.values") [.ref d] [] []) _ X.xe s1
  exact method_meetsIn F.slot_dict_values F.entry_dict_values rfl (PySem.evalArgs_none ⟨rfl, hm.typeIs, F.args_dict_values_1 _, _, meets_dict_values_raw d hs, ⟨es, ep, hm⟩, fin⟩)
/-- what is walked of the entries, in order -/
theorem nd_items {kvs : List (NestedKey × Addr × V)} {xs : List (NestedKey × Addr × Value)} {es : Array DictEntry} {w : World} (r : NT kvs xs) (he : es.toList = xs.map (fun x => (⟨x.1.hash w, .ref x.2.1, x.2.2⟩ : DictEntry))) :
    es.size = kvs.length ∧ ∀ i (hi : i < es.size) p, kvs[i]? = some p → es[i].key = .ref p.2.1 ∧ RelV p.2.2 es[i].val := by
  have l1 : es.size = xs.length := by
    have := congrArg List.length he
    simpa using this
  refine ⟨by rw [l1, r.length], fun i hi p hp => ?_⟩
  have hx : i < xs.length := by omega
  have e1 : es[i] = ⟨xs[i].1.hash w, .ref xs[i].2.1, xs[i].2.2⟩ := by
    have : es.toList[i]? = (xs.map (fun x => (⟨x.1.hash w, .ref x.2.1, x.2.2⟩ : DictEntry)))[i]? := by rw [he]
    rw [List.getElem?_map, List.getElem?_eq_getElem hx, Array.getElem?_toList, Array.getElem?_eq_getElem hi] at this
    exact Option.some.inj this
  obtain ⟨q1, q2, q3⟩ := paired_get r hp (List.getElem?_eq_getElem hx)
  rw [e1]
  exact ⟨by rw [q2], q3⟩
def rListVN (w : World) : List V → Hp → VK → Prop := fun xs H Q => ∃ p d, ∃ kvs : List (NestedKey × Addr × V), xs = [.ref p] ∧ H p = some (viewO "dict_values" p d) ∧ Rd H d (NDO w d kvs) ∧ ∀ l, H l = none → Q (.ref l) (upd H l (.lst (kvs.map (·.2.2))))
theorem call_listVN {X : Cx} (hc : X.calm = true) : CallR X (.type "list") (rListVN X.w) := by
  intro pins s σ H xs us Q I rx h
  obtain ⟨p, d, kvs, rfl, hp, hd, q⟩ := h
  rw [Vals.ref1 rx]
  obtain ⟨z, hs, es, ep, ys, hm, r, he⟩ := nd_raw I.hok hd
  obtain ⟨hl, hi⟩ := nd_items r he
  have hv : s.heap.get? p = some (DSub.viewOb "dict_values" d) := (show ObjOk X.prog X.w H s.heap p (viewO "dict_values" p d) from I.hok p _ hp).1
  refine PySem.W.kdl_call (KdlSrc.rawValues (es := es) (ep := ep)) (I.ok.hd hc) ⟨⟨_, hv, rfl, rfl⟩, hm⟩ (by rw [hl]; exact z) fun h' tk acc' c' hkeep hS hacc => ?_
  refine ⟨.ref s.heap.objs.size, upd H s.heap.objs.size (.lst (kvs.map (·.2.2))), I.laid hkeep (Nat.le_refl _) (show ObjOk X.prog X.w _ _ _ (.lst (kvs.map (·.2.2))) from ⟨?_, acc'.toList, c', ?_, ?_⟩), rfl, q _ (I.hok.fresh (Nat.le_refl _))⟩
  · rw [List.length_map]; exact z
  · have el : acc'.toList.length = acc'.size := by simp
    refine vals_of_at (by rw [List.length_map, el, hacc.1, hl]) fun j x w h1 h2 => ?_
    obtain ⟨hj, e2⟩ := hacc.2 j w (by rw [← Array.getElem?_toList]; exact h2)
    rw [List.getElem?_map] at h1
    cases q1 : kvs[j]? with
    | none => rw [q1] at h1; cases h1
    | some p =>
      rw [q1] at h1
      cases h1
      rw [e2]
      exact (hi j hj p q1).2
  · rw [Array.toArray_toList]; exact hS
def rSumT (K : PySem.W.Frag) : List V → Hp → VK → Prop := fun vs H Q => ∃ (a : Addr) (ns : List Int), vs = [V.ref a] ∧ SqT K H a (ns.map V.int) ∧ Q (.int ns.sum) H
theorem cr_sumT {X : Cx} (hc : X.calm = true) : CallR X (.builtin "sum") (rSumT X.K) := by
  intro pins s σ H vs us Q I r h
  obtain ⟨a, ns, rfl, hs, q⟩ := h
  obtain ⟨its, rv, ht, _⟩ := I.tuple hs
  rw [Vals.ref1 r]
  have hi := rv.ints
  obtain ⟨xs, e⟩ := hi.allInts.items
  have hn : numsOf (intItems xs).toList = ns := by rw [← e]; exact hi.numsOf
  rw [nums_intItems] at hn
  rw [e] at ht
  obtain ⟨o, h1, h2, n, h3⟩ := ht
  refine PySem.W.ktm_sumG (xs := xs) (I.ok.hd hc) ⟨o, h1, h2, n, h3⟩ fun h' tk t' hk => ?_
  refine ⟨.int ns.sum, H, I.kept hk, ⟨t', ?_⟩, q⟩
  rw [preSum_eq, List.take_of_length_le (by simp), hn]
/-! ### the rules of the functions -/
section
variable {K : PySem.W.Frag} {ca : CA}
theorem at_fSumT : BAt K ca fSumT (rSumT K) := by
  intro F H as st st' vs xs res σ W Q R rvs e post
  unfold fSumT at e
  split at e
  · rename_i v
    obtain ⟨x, rfl, rx⟩ := one_rv rvs
    cases q : asT v with
    | none => rw [q] at e; cases e
    | some ws =>
      rw [q] at e
      dsimp only at e
      cases q2 : intL ws with
      | none => rw [q2] at e; cases e
      | some is =>
        rw [q2] at e; cases e
        obtain ⟨a, ys, rfl, h1, h2⟩ := asT_at rx q
        have := intL_at h2 q2
        subst this
        exact ⟨a, is, rfl, h1, post.here R (by simp only [RV])⟩
  · cases e
end
section
variable {X : Cx} {ca : CA} {W : WX} {e a b c : Expr} {es : List Expr} {fa fb fe : EF} {pos p : Pos}
theorem se_repL (ha : SE ca X W a fa) (hb : SE ca X W b fb) : SE ca X W (.BinOp a .Mult b pos) (eRepL fa fb) := (pe_op (op_bin X .Mult) ha hb).weak fun σ H Q ⟨F, as, env, st, r, st', re, R, e, post⟩ =>
  step_bind re R e post fun v s1 e F1 H1 as1 x1 R1 x rx post => step_bind (re.ext x1) R1 e post fun w s2 e F2 H2 as2 x2 R2 y ry post => by
    split at e
    · rename_i k
      split at e
      · rename_i vs q1
        obtain ⟨a, xs, e1, h1, r1⟩ := asM_at R2 (rx.ext x2) q1
        obtain ⟨hc, e⟩ := if_inv e
        obtain ⟨z, k⟩ := newL_at R2 (r1.rep _) e post
        simp only [RV] at ry
        exact .inr ⟨a, _, xs, e1, ry, h1, hc.1, hc.2.1, by rw [← r1.length, sizeLine_eq]; exact hc.2.2, k⟩
      · cases e
    · cases e
theorem se_nnew (hw : ca.w = X.w) : SE ca X W (.Dict [] [] pos) eNNew := pe_dnewN.weak fun σ H Q ⟨F, as, env, st, r, st', re, R, e, post⟩ p hp => by
  have z := newN_at (kvs := []) R (by simp [toNKeys]) .nil .nil (show newN [] [] st = some (r, st') from e) post p hp
  rw [hw] at z
  exact z
theorem ss_nsub (hu : X.A.units + 65 < cLine) (hW : ca.w = X.w) (ha : SE ca X W a fa) (hb : SE ca X W b fb) (he : SE ca X W e fe) (hs : swapsWithSole [.Subscript a b p] e pos.line X.env = pure false := by rfl) (hw : swappedStores [.Subscript a b p] e X.env = pure none := by rfl)
    (h1 : (assignEach [.Subscript a b p] X.env).map (·.2) = [assign (.Subscript a b p) X.env] := by rfl)
    (hx : ∀ v, assign (.Subscript a b p) X.env v = (do
      let ov ← holding [v] (eval a X.env)
      let iv ← holding [v, ov] (eval b X.env)
      standAt p
      holding [v, ov, iv] (PySem.setItem ov iv v)
      release [v, ov, iv] []) := by intro _; rfl) : SS ca X W (.Assign [.Subscript a b p] e pos) (sNSub fa fb fe) :=
  (ps_asg he (pg_sub ha hb (set_N (by omega)) hx) hs hw h1).weak fun D σ H ⟨F, as, env, st, r, st', re, R, e, post⟩ =>
  step_bs re R e post fun v s1 e F1 H1 as1 x1 R1 x rx post => step_bs (re.ext x1) R1 e post fun o s2 e F2 H2 as2 x2 R2 xo ro post => step_bs ((re.ext x1).ext x2) R2 e post fun i s3 e F3 H3 as3 x3 R3 xi ri post => by
    unfold bs at e
    cases q : nSetItem o i v s3 with
    | none => rw [q] at e; cases e
    | some p =>
      obtain ⟨u, s4⟩ := p
      rw [q] at e
      have re3 := ((re.ext x1).ext x2).ext x3
      have hu : u = .ok () := (nSetItem_at (q := fun _ => True) R3 (ro.ext x3) ri ((rx.ext x2).ext x3) q fun _ _ _ => trivial).2
      subst hu
      obtain ⟨rfl, rfl⟩ := done_inv e
      have z := (nSetItem_at (q := fun H' => D.nx σ H') R3 (ro.ext x3) ri ((rx.ext x2).ext x3) q fun H4 x4 R4 => post F3 H4 as3 x4 R4 σ (re3.ext x4)).1
      rw [hW] at z
      exact z
theorem se_nvals {m : Bool} {apos cpos : Pos} (hc : X.calm = true) (hg : Gl X "list") (hm : X.mg "list" = none) (hW : ca.w = X.w) (ha : SE ca X W a fa) (hbase : attributeBase a "values" X.env (eval a X.env) = eval a X.env := by rfl) (hline : (apos.endLine == cpos.line) = true := by rfl)
    (he : starEach [.Call (.Attribute a "values" apos) [] [] cpos] X.env = (false, eval (.Call (.Attribute a "values" apos) [] [] cpos) X.env) :: starEach [] X.env := by rfl) (hpl : (backTo pos (starEach [] X.env)).any (·.1) = false := by rfl) :
    SE ca X W (.Call (.Name "list" p) [.Call (.Attribute a "values" apos) [] [] cpos] [] pos) (eNVals m fa) :=
  (pe_callTy (call_listVN hc) hg hm PyProof.Rows.boot_list (pa_cons (pe_valsN ha hbase hline) pa_nil he) (by decide) (by decide) he hpl).weak fun σ H Q ⟨F, as, env, st, r, st', re, R, e, post⟩ =>
  step_bind re R e post fun v s1 e F1 H1 as1 x1 R1 x rx post => by
    split at e
    · rename_i ks vs q
      obtain ⟨a, kvs, rfl, g1, g2, g3, g4⟩ := asND_at R1 rx q
      rw [hW] at g1
      refine ⟨a, kvs, rfl, g1, fun p hp => ?_⟩
      obtain ⟨x2, R2⟩ := new_any R1 (viewO "dict_values" p a) hp
      have na : a ≠ p := fun z => by rcases g1 with h | ⟨o, h⟩ <;> rw [z, hp] at h <;> cases h
      have g1' : Rd (upd H1 p (viewO "dict_values" p a)) a (NDO X.w a kvs) := by
        unfold Rd
        rw [upd_ne na]; exact g1
      exact ⟨p, a, kvs, rfl, upd_same, g1', (newL_at R2 (g4.ext x2) e (fun F' H' as' y R' => post F' H' as' (x2.trans y) R')).2⟩
    · cases e
end
end Pv
/-! Pv, part AM: zip of a tuple and a list; any of whole numbers. -/
namespace Pv
open PySem PySem.Spec L2 PyProof.Rows

/-! ### any of whole numbers -/
theorem truth_ints {prog : Program} {w : World} {A : Around} {is : List Int} {us : List Value} (hi : IntsAre us is) : TruthOf prog w A (fun i v => us.toArray[i]? = some v) (fun i => is.getD i 0 != 0) := by
  intro i v s Q E hv hq
  have hv2 : us[i]? = some v := by simpa using hv
  obtain ⟨j, t, rfl, hj⟩ : ∃ j t, v = Value.int j t ∧ is[i]? = some j := by
    have key : ∀ {us : List Value} {is : List Int} {i : Nat}, IntsAre us is → us[i]? = some v → ∃ j t, v = Value.int j t ∧ is[i]? = some j := by
      intro us is i h
      induction h generalizing i with
      | nil => intro e; simp at e
      | cons n t h ih =>
        intro e
        cases i with
        | zero => simp at e; exact ⟨_, _, e.symm, rfl⟩
        | succ i => simpa using ih (by simpa using e)
    exact key hi hv2
  have hg : is.getD i 0 = j := by rw [List.getD_eq_getElem?_getD, hj]; rfl
  have hq' : Q (is.getD i 0 != 0) s := hq
  rw [hg] at hq'
  exact PyProof.Rows.truthy_int hq'
theorem any_getD : ∀ is : List Int, ((List.range is.length).any fun i => is.getD i 0 != 0) = is.any fun i => i != 0
  | [] => rfl
  | i :: is => by
    rw [List.length_cons, List.range_succ_eq_map, List.any_cons, List.any_cons, List.any_map, ← any_getD is]
    rfl
def rAnyI (K : PySem.W.Frag) : List V → Hp → VK → Prop := fun vs H Q => ∃ (a : Addr) (is : List Int), vs = [V.ref a] ∧ SqL K H a (is.map V.int) ∧ Q (.bl (is.any fun i => i != 0)) H
theorem cr_anyI {X : Cx} (hc : X.calm = true) : CallR X (.builtin "any") (rAnyI X.K) := by
  intro pins s σ H vs us Q I r h
  obtain ⟨a, is, rfl, hs, q⟩ := h
  obtain ⟨its, rv, pl, _⟩ := I.list hs
  rw [Vals.ref1 r]
  have hi := rv.ints
  have hl : is.length = its.toArray.size := by
    have := rv.length
    rw [List.length_map] at this
    simpa using this
  refine call_any_walk (iter_any pl.isList fun s2 e st hne => ?_)
  subst e
  refine ⟨_, _, _, _, _, _, _, rfl, Walks.list (A := X.A.in1) (I.ok.hd hc) _ a hne its.toArray, st, truth_ints hi, fun h2 tk kp => ?_⟩
  have kept := I.kept (t' := tk) (h' := h2) fun b o eo => kp b o (fun hm => absurd (Heap.lt_size eo) (by rw [List.mem_singleton.mp hm]; exact Nat.lt_irrefl _)) (Heap.get?_push_of_some _ eo)
  refine ⟨.bl _, H, kept, ?_, q⟩
  show Value.bool _ = Value.bool _
  rw [← hl, any_getD]
theorem at_fAnyI {K : PySem.W.Frag} {ca : CA} : BAt K ca fAnyI (rAnyI K) := by
  intro F H as st st' vs xs res σ W Q R rvs e post
  unfold fAnyI at e
  split at e
  · rename_i v
    obtain ⟨x, rfl, rx⟩ := one_rv rvs
    cases q : asL st v with
    | none => rw [q] at e; cases e
    | some ws =>
      rw [q] at e
      dsimp only at e
      cases q2 : intL ws with
      | none => rw [q2] at e; cases e
      | some is =>
        rw [q2] at e; cases e
        obtain ⟨a, ys, rfl, h1, h2⟩ := asL_at R rx q
        have := intL_at h2 q2
        subst this
        exact ⟨a, is, rfl, h1, post.here R (by simp only [RV])⟩
  · cases e

/-! ### zip of a tuple and a list -/
def ItzM (K : PySem.W.Frag) (a b : Addr) : It :=
  ⟨fun i H => ∃ (xs ys : List V) (x y : V), SqT K H a xs ∧ SqL K H b ys ∧ xs[i]? = some x ∧ ys[i]? = some y,
    fun i H v H2 => ∃ T x y, v = .ref T ∧ H T = none ∧ H2 = upd H T (.tup [x, y]) ∧ (∀ xs, SqT K H a xs → xs[i]? = some x) ∧ ∀ ys, SqL K H b ys → ys[i]? = some y,
    fun i H => ∃ xs ys : List V, SqT K H a xs ∧ SqL K H b ys ∧ (xs.length ≤ i ∨ ys.length ≤ i)⟩
/-- an iterator behind its end: one state -/
theorem draws_tupE {prog : Program} {w : World} {A : Around} (hh : A.handled = none) (it t : Addr) (us : Array Value) (i : Nat) (he : us[i]? = none) :
    Draws prog w A it [it, t] i (fun _ _ => True) (fun j h => j = i ∧ h.IsTupleIter it t i ∧ h.IsTuple t us) where
  live := fun _ _ st => st.2.1.imp fun _ q => q.1
  frame := fun _ _ _ st k => ⟨st.1, st.2.1.at fun o => k it (by simp) o, st.2.2.at fun o => k t (by simp) o⟩
  item := fun j _ _ _ hj st _ => absurd st.1 (Nat.ne_of_lt hj)
  done := fun _ _ _ st hE => wpAny_nextOf_tuple_end hh st.2.1 st.2.2 he hE
theorem draws_lstE {prog : Program} {w : World} {A : Around} (hh : A.handled = none) (it l : Addr) (us : Array Value) (i : Nat) (he : us[i]? = none) :
    Draws prog w A it [it, l] i (fun _ _ => True) (fun j h => j = i ∧ h.IsListIter it l i ∧ h.IsList l us) where
  live := fun _ _ st => st.2.1.imp fun _ q => q.1
  frame := fun _ _ _ st k => ⟨st.1, st.2.1.at fun o => k it (by simp) o, st.2.2.at fun o => k l (by simp) o⟩
  item := fun j _ _ _ hj st _ => absurd st.1 (Nat.ne_of_lt hj)
  done := fun _ _ _ st hE => wpAny_nextOf_list_end hh st.2.1 st.2.2 he hE
theorem turn_zipM {P : Program} {w : World} {K : PySem.W.Frag} {elts : List Expr} {kk : Nat} {tpos : Pos} {a b z TI TO i1 i2 : Addr} (S : ZipSep2 z TI TO i1 i2 [i1, a] [i2, b]) :
    Turn P w K (.Tuple elts kk tpos) (ItzM K a b) [z, TI, TO, i1, i2] z (fun i h => IsZip h z TI TO .none ∧ IsTupOf2 h TI (.ref i1) (.ref i2) ∧ (∃ x y, IsTupOf2 h TO x y) ∧ h.IsTupleIter i1 a i ∧ h.IsListIter i2 b i) where
  mem := by simp
  obj := fun i h st c hc => by
    obtain ⟨hz, hTI, ⟨x, y, hTO⟩, ⟨o1, e1, _, d1⟩, ⟨o2, e2, _, d2⟩⟩ := st
    simp only [List.mem_cons, List.not_mem_nil, or_false] at hc
    rcases hc with rfl | rfl | rfl | rfl | rfl
    · exact ⟨_, hz, fun v => nofun⟩
    · exact ⟨_, hTI, fun v => nofun⟩
    · exact ⟨_, hTO, fun v => nofun⟩
    · exact ⟨o1, e1, fun v => by rw [d1]; nofun⟩
    · exact ⟨o2, e2, fun v => by rw [d2]; nofun⟩
  keep := fun i h g st k => by
    obtain ⟨hz, hTI, ⟨x, y, hTO⟩, t1, t2⟩ := st
    exact ⟨k _ (by simp) _ hz, k _ (by simp) _ hTI, ⟨x, y, k _ (by simp) _ hTO⟩, t1.at fun o => k _ (by simp) o, t2.at fun o => k _ (by simp) o⟩
  item := by
    intro X hP hw hK hc i pins s σ H E I hf st hg
    subst hP hw hK
    obtain ⟨hz, hTI, ⟨x0, y0, hTO⟩, t1, t2⟩ := st
    obtain ⟨xs, ys, x, y, qx, qy, ex, ey⟩ := hg
    obtain ⟨us, ru, pu, _⟩ := I.tuple qx
    obtain ⟨ws, rw', pw, _⟩ := I.list qy
    obtain ⟨u, eu, r1⟩ := ru.get ex
    obtain ⟨v, ev, r2⟩ := rw'.get ey
    have lu : i < us.toArray.size := by simpa using (List.getElem?_eq_some_iff.mp eu).1
    have lw : i < ws.toArray.size := by simpa using (List.getElem?_eq_some_iff.mp ev).1
    have na : a ≠ i1 := fun e => by
      obtain ⟨o, q, c, d⟩ := t1
      obtain ⟨o2, q2, c2, _⟩ := pu
      rw [e] at q2; rw [q] at q2; cases q2; rw [c] at c2; injection c2 with c2; exact absurd c2 (by decide)
    have nb : b ≠ i2 := fun e => by
      obtain ⟨o, q, c, d⟩ := t2
      obtain ⟨o2, n2, q2, c2, _⟩ := pw
      rw [e] at q2; rw [q] at q2; cases q2; rw [c] at c2; injection c2 with c2; exact absurd c2 (by decide)
    refine wpAny_pyNext_zipD2_item S (Draws.tuple (A := X.A.in1) (I.ok.hd hc) i1 a na us.toArray) (Draws.list (A := X.A.in1) (I.ok.hd hc) i2 b nb ws.toArray) hz hTI hTO ⟨t1, pu⟩ ⟨t2, pw.isList⟩ lu lw fun x1 x2 h1 tk p1 p2 z1 TO1 s1 s2 T1 sz kp => ?_
    have e1 : x1 = u := by simpa [eu] using p1.symm
    have e2 : x2 = v := by simpa [ev] using p2.symm
    subst e1 e2
    have zl : z < s.heap.objs.size := Heap.lt_size hz
    refine ⟨_, rfl, wpAny_letOwnedTupleGo_zip (s := { s with heap := h1, toks := tk }) z1 fun h2 z2 sb => ?_⟩
    have T2 : h2.get? s.heap.objs.size = some { cls := .type "tuple", data := .seq #[x1, x2] } := (sb.2 _ (Nat.ne_of_gt zl)).trans T1
    have new : ObjOk X.prog X.w (upd H s.heap.objs.size (.tup [x, y])) h2 s.heap.objs.size (.tup [x, y]) := ⟨(by decide : 2 ≤ sizeLine), [x1, x2], .cons r1 (.cons r2 .nil), ⟨_, T2, rfl, _, rfl⟩⟩
    have J : Inv X pins σ (upd H s.heap.objs.size (.tup [x, y])) { s with heap := h2, toks := tk } := I.turnedNew (ch := [z, TI, TO, i1, i2]) (fun c o hn q => by
      simp only [List.mem_cons, List.not_mem_nil, or_false, not_or] at hn
      exact (sb.2 c hn.1).trans (kp c o hn.1 hn.2.2.1 hn.2.2.2.1 hn.2.2.2.2 q)) hf (Nat.le_refl _) new
    have iz1 : i1 ≠ z := S.zi1.symm
    have iz2 : i2 ≠ z := S.zi2.symm
    refine ⟨.ref s.heap.objs.size, _, J, rfl, ⟨_, x, y, rfl, I.hok.fresh (Nat.le_refl _), rfl, fun l hl => (I.tuple_inj hl qx) ▸ ex, fun l hl => (I.list_inj hl qy) ▸ ey⟩, ⟨z2, ?_, ⟨x1, x2, (sb.2 _ S.TOz).trans TO1⟩, s1.1.at fun o q => (sb.2 _ iz1).trans q, s2.1.at fun o q => (sb.2 _ iz2).trans q⟩, fun c hcm => ?_⟩
    · exact (sb.2 _ S.TIz).trans (kp _ _ S.TIz S.TITO S.TIi1 S.TIi2 hTI)
    · have lt : c < s.heap.objs.size := by
        simp only [List.mem_cons, List.not_mem_nil, or_false] at hcm
        rcases hcm with rfl | rfl | rfl | rfl | rfl
        · exact zl
        · exact Heap.lt_size hTI
        · exact Heap.lt_size hTO
        · exact Heap.lt_size t1.choose_spec.1
        · exact Heap.lt_size t2.choose_spec.1
      rw [upd_ne (Nat.ne_of_lt lt)]
      exact (hf c hcm).1
  done := by
    intro X hP hw hK hc i pins s σ H E I hf st hg
    subst hP hw hK
    obtain ⟨hz, hTI, ⟨x0, y0, hTO⟩, t1, t2⟩ := st
    obtain ⟨xs, ys, qx, qy, l3⟩ := hg
    obtain ⟨us, ru, pu, _⟩ := I.tuple qx
    obtain ⟨ws, rw', pw, _⟩ := I.list qy
    have eu : xs.length = us.toArray.size := by simpa using ru.length
    have ew : ys.length = ws.toArray.size := by simpa using rw'.length
    rw [eu, ew] at l3
    have na : a ≠ i1 := fun e => by
      obtain ⟨o, q, c, d⟩ := t1
      obtain ⟨o2, q2, c2, _⟩ := pu
      rw [e] at q2; rw [q] at q2; cases q2; rw [c] at c2; injection c2 with c2; exact absurd c2 (by decide)
    have nb : b ≠ i2 := fun e => by
      obtain ⟨o, q, c, d⟩ := t2
      obtain ⟨o2, n2, q2, c2, _⟩ := pw
      rw [e] at q2; rw [q] at q2; cases q2; rw [c] at c2; injection c2 with c2; exact absurd c2 (by decide)
    have fin : ∀ (h1 : Heap) (tk : Nat), (∀ c o, c ≠ z → c ≠ TO → c ≠ i1 → c ≠ i2 → s.heap.get? c = some o → h1.get? c = some o) → (none : Option Value) = none ∧ Inv X pins σ H { s with heap := h1, toks := tk } := fun h1 tk kp => ⟨rfl, I.turnedL (ch := [z, TI, TO, i1, i2]) (fun c o hn q => by
      simp only [List.mem_cons, List.not_mem_nil, or_false, not_or] at hn
      exact kp c o hn.1 hn.2.2.1 hn.2.2.2.1 hn.2.2.2.2 q) hf⟩
    have hh : X.A.in1.handled = none := I.ok.hd hc
    by_cases c1 : i < us.toArray.size
    · have c2 : ws.toArray.size ≤ i := by omega
      exact wpAny_pyNext_zipD2_end S (Draws.tuple hh i1 a na us.toArray) (draws_lstE hh i2 b ws.toArray i (Array.getElem?_eq_none c2)) hz hTI hTO ⟨t1, pu⟩ ⟨rfl, t2, pw.isList⟩ (Nat.le_of_lt c1) (Nat.le_refl _) (.inr rfl) fun h1 tk kp => fin h1 tk kp
    · have e1 : us.toArray[i]? = none := Array.getElem?_eq_none (by omega)
      by_cases c2 : i < ws.toArray.size
      · exact wpAny_pyNext_zipD2_end S (draws_tupE hh i1 a us.toArray i e1) (Draws.list hh i2 b nb ws.toArray) hz hTI hTO ⟨rfl, t1, pu⟩ ⟨t2, pw.isList⟩ (Nat.le_refl _) (Nat.le_of_lt c2) (.inl rfl) fun h1 tk kp => fin h1 tk kp
      · exact wpAny_pyNext_zipD2_end S (draws_tupE hh i1 a us.toArray i e1) (draws_lstE hh i2 b ws.toArray i (Array.getElem?_eq_none (by omega))) hz hTI hTO ⟨rfl, t1, pu⟩ ⟨rfl, t2, pw.isList⟩ (Nat.le_refl _) (Nat.le_refl _) (.inl rfl) fun h1 tk kp => fin h1 tk kp
  self := fun A i s Q E st q => wpAny_pyIter_zip st.1 q
def iZipT (K : PySem.W.Frag) (ta : TA) : TI := fun σ H R => ta σ H fun vs H1 => ∃ a b xs, vs = [.ref a, .ref b] ∧ SqT K H1 a xs ∧ ((∃ ys, SqT K H1 b ys ∧ R (RZ.ItzT K a b) H1) ∨ ∃ ys, SqL K H1 b ys ∧ R (ItzM K a b) H1)
theorem five_new {X : Cx} {pins : List (Addr × PySem.Obj)} {σ : L2.St} {H : Hp} {t : Shared} (J : Inv X pins σ H t) : ∀ c, c ∈ [t.heap.objs.size + 4, t.heap.objs.size + 2, t.heap.objs.size + 3, t.heap.objs.size, t.heap.objs.size + 1] → FpOk X pins H c := fun c h => by
  have le : t.heap.objs.size ≤ c := by
    simp only [List.mem_cons, List.not_mem_nil, or_false] at h
    omega
  exact J.fpOk le (J.hok.fresh le)
theorem zip_sep {N a b : Nat} (la : a < N) (lb : b < N) : ZipSep2 (N + 4) (N + 2) (N + 3) N (N + 1) [N, a] [N + 1, b] := by
  have n2 : ∀ {x y z : Nat}, x ≠ y → x ≠ z → x ∉ [y, z] := fun h1 h2 => by simp only [List.mem_cons, List.not_mem_nil, or_false, not_or]; exact ⟨h1, h2⟩
  exact ⟨PySem.W.neN (by omega), PySem.W.neN (by omega), PySem.W.neN (by omega), PySem.W.neN (by omega), List.mem_cons_self .., n2 (by omega) (by omega), n2 (by omega) (by omega), PySem.W.neN (by omega), List.mem_cons_self .., n2 (by omega) (by omega), n2 (by omega) (by omega), n2 (by omega) (by omega), n2 (by omega) (by omega)⟩
theorem pi_zipM {X : Cx} {e e2 : Expr} {ta : TA} {p pos tpos : Pos} {elts : List Expr} {kk : Nat} (hg : Gl X "zip") (hm : X.mg "zip" = none) (ha : PA X [e, e2] ta)
    (hs : starEach [e, e2] X.env = (false, eval e X.env) :: starEach [e2] X.env) (hpl : (backTo pos (starEach [e2] X.env)).any (·.1) = false) : PI X (.Tuple elts kk tpos) (.Call (.Name "zip" p) [e, e2] [] pos) (iZipT X.K ta) := ⟨fun pins s σ H R I h => by
  refine Call_ (ld_blt I hg hm PyProof.Rows.boot_zip (PyProof.Rows.callWith_type1 (thn (ha.run pos pins s σ H _ I h) fun zs t ⟨vs, G, J, r, a, b, xs, ev, qx, rest⟩ => ?_) hs hpl))
  subst ev
  obtain ⟨u1, u2, ez, r1, r2⟩ := vals2 r
  subst ez
  cases r1
  cases r2
  obtain ⟨us, ru, pu, _⟩ := J.tuple qx
  have la : a < t.heap.objs.size := Heap.lt_size pu.choose_spec.1
  rcases rest with ⟨ys, qy, k⟩ | ⟨ys, qy, k⟩
  · obtain ⟨ws, rw', pw, _⟩ := J.tuple qy
    have lb : b < t.heap.objs.size := Heap.lt_size pw.choose_spec.1
    refine RZ.call_zipT (show t.heap.IsTuple a us.toArray from pu) (show t.heap.IsTuple b ws.toArray from pw) fun h1 hz hTI hTO t1 t2 _ kp => wpAny_pyIter_zip hz ?_
    exact ⟨_, [t.heap.objs.size + 4, t.heap.objs.size + 2, t.heap.objs.size + 3, t.heap.objs.size, t.heap.objs.size + 1], _, _, G, rfl, J.kept (t' := t.toks) kp, RZ.turn_zipT (PySem.W.ktu_apart _ a b la lb), ⟨hz, hTI, ⟨_, _, hTO⟩, t1, t2⟩, five_new J, k⟩
  · obtain ⟨ws, rw', pw, _⟩ := J.list qy
    have lb : b < t.heap.objs.size := pw.lt
    refine zip_begins2 (begins_tuple a us.toArray) (begins_list b ws.toArray) pu pw.isList fun h1 hz hTI hTO g1 g2 _ kp => wpAny_pyIter_zip hz ?_
    have S := zip_sep (N := t.heap.objs.size) la lb
    exact ⟨_, [t.heap.objs.size + 4, t.heap.objs.size + 2, t.heap.objs.size + 3, t.heap.objs.size, t.heap.objs.size + 1], _, _, G, rfl, J.kept (t' := t.toks) kp, turn_zipM S, ⟨hz, hTI, ⟨_, _, hTO⟩, ⟨_, g1, rfl, rfl⟩, ⟨_, g2, rfl, rfl⟩⟩, five_new J, k⟩⟩
theorem wk_zipM {K : PySem.W.Frag} {ca : CA} {F : Addr → Prop} {H : Hp} {as : Nat → Addr} {nx : Nat} {a b : Addr} {vs ws : List Val} {xs : List V} {gd : Gd} (hs : ∀ (F2 : Addr → Prop) H2, (∀ x, F x → F2 x) → Keep F H H2 → SqT K H2 a xs) (h : RVs K ca F H as nx vs xs)
    (h' : ∀ (st0 : Store) F2 H2 as2 st2, st0.nx = nx → Ext F H as st0 F2 H2 as2 st2 → Rel K ca F2 H2 as2 st2 → gd st2 = true → ∃ ys, H2 b = some (.lst ys) ∧ RVs K ca F2 H2 as2 st2.nx ws ys) : Wk K ca F H as nx (zipV vs ws, gd) (ItzM K a b) := by
  intro st F2 H2 as2 st2 hn x1 R1 hg
  obtain ⟨ys, q0, r2⟩ := h' st F2 H2 as2 st2 hn x1 R1 hg
  subst hn
  have qx : SqT K H2 a xs := hs _ _ x1.sub x1.keep
  have qy : SqL K H2 b ys := .inl (.inl q0)
  have r1 : RVs K ca F2 H2 as2 st2.nx vs xs := RVs.mono x1.sub x1.keep x1.ags x1.nx _ _ h
  refine ⟨fun i hi => ?_, fun i v e => ?_⟩
  · have hi : (zipV vs ws).length ≤ i := hi
    rw [zipV_len, r1.length, r2.length] at hi
    exact ⟨xs, ys, qx, qy, by omega⟩
  · obtain ⟨u, u2, e1, e2, rfl⟩ := zipV_get _ _ _ _ e
    obtain ⟨y, e3, ry⟩ := r1.get e1
    obtain ⟨y2, e4, ry2⟩ := r2.get e2
    refine ⟨⟨xs, ys, y, y2, qx, qy, e3, e4⟩, fun x H3 ⟨T, z, z2, ex, hT, eH, k, k2⟩ => ?_⟩
    subst ex eH
    have w1 := k xs qx
    rw [e3] at w1; cases w1
    have w2 := k2 ys qy
    rw [e4] at w2; cases w2
    exact new_pair R1 hT ry ry2
section
variable {X : Cx} {ca : CA} {W : WX} {a b : Expr} {fa fb : EF} {pos p tpos : Pos} {elts : List Expr} {kk : Nat}
theorem asT_keep {K : PySem.W.Frag} {F : Addr → Prop} {H : Hp} {as : Nat → Addr} {nx : Nat} {v : Val} {x : V} {vs : List Val} (h : RV K ca F H as nx v x) (e : asT v = some vs) : ∃ a xs, x = .ref a ∧ SqT K H a xs ∧ RVs K ca F H as nx vs xs ∧ ∀ (F2 : Addr → Prop) H2, (∀ x, F x → F2 x) → Keep F H H2 → SqT K H2 a xs := by
  cases v with
  | tup ws => cases e; simp only [RV] at h; obtain ⟨a, xs, rfl, h1, h2⟩ := h; exact ⟨a, xs, rfl, h1.sq, h2, fun _ _ s k => (h1.mono s k).sq⟩
  | rot ws => cases e; simp only [RV] at h; obtain ⟨a, xs, rfl, h1, h2⟩ := h; exact ⟨a, xs, rfl, .inr h1, h2, fun _ _ _ _ => .inr h1⟩
  | _ => cases e
theorem si_zipX (hg : Gl X "zip") (hm : X.mg "zip" = none) (ha : SE ca X W a fa) (hb : SE ca X W b fb) (hs2 : starEach [b] X.env = [(false, eval b X.env)] := by rfl) (hs : starEach [a, b] X.env = (false, eval a X.env) :: starEach [b] X.env := by rfl) (hpl : (backTo pos (starEach [b] X.env)).any (·.1) = false := by rfl) :
    SI ca X W (.Tuple elts kk tpos) (.Call (.Name "zip" p) [a, b] [] pos) (iZipX fa fb) :=
  (pi_zipM hg hm (sa_cons ha (sa_cons hb sa_nil hs2) hs) hs hpl).weak fun σ H Q ⟨F, as, env, st, r, st', re, R, e, post⟩ => by
    refine step_bind re R (rd2 (h := fun x y st => zipX st x y) e) post fun vs s1 e F1 H1 as1 x1 R1 xs rxs post => ?_
    obtain ⟨ws, e2, rfl, rfl⟩ := rd_inv e
    split at e2
    · obtain ⟨x, y, rfl, rx, ry⟩ := two_rv rxs
      unfold zipX at e2
      split at e2
      · rename_i us q1
        obtain ⟨a, zs, rfl, g1, g2, g3⟩ := asT_keep rx q1
        split at e2
        · rename_i us' q2
          cases e2
          obtain ⟨b, zs', rfl, k1, k2, k3⟩ := asT_keep ry q2
          exact ⟨a, b, zs, rfl, g1, .inl ⟨zs', k1, post F1 H1 as1 Ext.refl R1 _ (wk_zipT g3 g2 k3 k2)⟩⟩
        · split at e2
          · rename_i us' gd q3
            cases e2
            obtain ⟨b, zs', rfl, k1, k2⟩ := listOf_at R1 ry q3
            exact ⟨a, b, zs, rfl, g1, .inr ⟨zs', .inl (.inl k1), post F1 H1 as1 Ext.refl R1 _ (wk_zipM g3 g2 k2)⟩⟩
          · cases e2
      · cases e2
    · cases e2
end
end Pv
/-! Pv, part AN: dict(pairs) where the keys are tuples of tuples. -/
namespace Pv
open PySem PySem.Spec L2 PyProof.Rows
section
variable {X : Cx} {pins : List (Addr × PySem.Obj)} {σ : L2.St} {H : Hp} {s : Shared}
end
section
variable {K : PySem.W.Frag} {ca : CA} {F : Addr → Prop} {H : Hp} {as : Nat → Addr} {nx : Nat}
end
end Pv
/-! Pv, part AO: {k: v} with a tuple as key; a walk over a locked dict whose keys are tuples. -/
namespace Pv
open PySem PySem.Spec L2 PyProof.Rows
section
variable {X : Cx} {ca : CA} {W : WX} {a b c tg : Expr} {fa fb fe : EF} {pos p : Pos}
end
end Pv
/-! Pv, top: facts of classes, the written part given. -/
namespace Pv
open PySem PySem.Spec L2 PyProof.Rows
section
variable {K : PySem.W.Frag} {h : Heap} {mg : Str → Option Value} {x cls qual : Str} {st : Stmt} {ps : List Str} {f T C : Addr} {oc : Value} {od an : Option Addr} {osl : Array (Option Value)} {kV doc pm cdv ct : Value} {o : PySem.Obj} {its : Array Value} {n : Nat} {R : Prop}
end
end Pv
/-! The derivations (printed by gen.py). -/
namespace Pv
open PySem PySem.Spec L2
def top (i : Nat) : Stmt := PySem.Challenge.pw_evenfriends_k56_whole_even_families_and.main.body.getD i (.Pass ⟨0, 0, 0, 0⟩)
structure Tx (w : World) (K : PySem.W.Frag) (mg : Str → Option Value) (ca : CA) (ad : Nat → Addr) (fds : Nat → FuncData) : Prop where
  F_is_whole : FunV K "is_whole" "is_whole" (top 4) (ad 0) (fds 0)
  b_is_whole : Binds K (fds 0) ["value"] []
  m_is_whole : mg "is_whole" = some (.ref (ad 0))
  k_is_whole : PySem.W.keepIn K (.ref (ad 0)) = true
  F_is_count : FunV K "is_count" "is_count" (top 5) (ad 1) (fds 1)
  b_is_count : Binds K (fds 1) ["value", "most"] []
  m_is_count : mg "is_count" = some (.ref (ad 1))
  k_is_count : PySem.W.keepIn K (.ref (ad 1)) = true
  F_check_count : FunV K "check_count" "check_count" (top 6) (ad 2) (fds 2)
  b_check_count : Binds K (fds 2) ["value", "most"] []
  m_check_count : mg "check_count" = some (.ref (ad 2))
  k_check_count : PySem.W.keepIn K (.ref (ad 2)) = true
  F_check_many : FunV K "check_many" "check_many" (top 8) (ad 3) (fds 3)
  b_check_many : Binds K (fds 3) ["value"] []
  m_check_many : mg "check_many" = some (.ref (ad 3))
  k_check_many : PySem.W.keepIn K (.ref (ad 3)) = true
  F_power : FunV K "power" "power" (top 10) (ad 4) (fds 4)
  b_power : Binds K (fds 4) ["number"] []
  m_power : mg "power" = some (.ref (ad 4))
  k_power : PySem.W.keepIn K (.ref (ad 4)) = true
  F_narrow_families : FunV K "narrow_families" "narrow_families" (top 11) (ad 5) (fds 5)
  b_narrow_families : Binds K (fds 5) ["many", "size"] []
  m_narrow_families : mg "narrow_families" = some (.ref (ad 5))
  k_narrow_families : PySem.W.keepIn K (.ref (ad 5)) = true
  F_families : FunV K "families" "families" (top 12) (ad 6) (fds 6)
  b_families : Binds K (fds 6) ["many", "size"] []
  m_families : mg "families" = some (.ref (ad 6))
  k_families : PySem.W.keepIn K (.ref (ad 6)) = true
  F_untied : FunV K "untied" "untied" (top 13) (ad 7) (fds 7)
  b_untied : Binds K (fds 7) ["size"] []
  m_untied : mg "untied" = some (.ref (ad 7))
  k_untied : PySem.W.keepIn K (.ref (ad 7)) = true
  F_even_families : FunV K "even_families" "even_families" (top 14) (ad 8) (fds 8)
  b_even_families : Binds K (fds 8) ["many", "size"] []
  m_even_families : mg "even_families" = some (.ref (ad 8))
  k_even_families : PySem.W.keepIn K (.ref (ad 8)) = true
  F_untied_companies : FunV K "untied_companies" "untied_companies" (top 15) (ad 9) (fds 9)
  b_untied_companies : Binds K (fds 9) ["size"] []
  m_untied_companies : mg "untied_companies" = some (.ref (ad 9))
  k_untied_companies : PySem.W.keepIn K (.ref (ad 9)) = true
  F__law_purse : FunV K "_law_purse" "_law_purse" (top 17) (ad 10) (fds 10)
  b__law_purse : Binds K (fds 10) ["_law_script", "_law_at"] []
  m__law_purse : mg "_law_purse" = some (.ref (ad 10))
  k__law_purse : PySem.W.keepIn K (.ref (ad 10)) = true
  F__law_mixed : FunV K "_law_mixed" "_law_mixed" (top 18) (ad 11) (fds 11)
  b__law_mixed : Binds K (fds 11) ["_law_seed", "_law_turn", "_law_at"] []
  m__law_mixed : mg "_law_mixed" = some (.ref (ad 11))
  k__law_mixed : PySem.W.keepIn K (.ref (ad 11)) = true
  F__law_draw : FunV K "_law_draw" "_law_draw" (top 19) (ad 12) (fds 12)
  b__law_draw : Binds K (fds 12) ["_law_purse_here", "_law_many"] []
  m__law_draw : mg "_law_draw" = some (.ref (ad 12))
  k__law_draw : PySem.W.keepIn K (.ref (ad 12)) = true
  F__law_purses : FunV K "_law_purses" "_law_purses" (top 20) (ad 13) (fds 13)
  b__law_purses : Binds K (fds 13) ["_law_script", "_law_few"] []
  m__law_purses : mg "_law_purses" = some (.ref (ad 13))
  k__law_purses : PySem.W.keepIn K (.ref (ad 13)) = true
  F__law_exact : FunV K "_law_exact" "_law_exact" (top 21) (ad 14) (fds 14)
  b__law_exact : Binds K (fds 14) ["_law_mine", "_law_theirs"] []
  m__law_exact : mg "_law_exact" = some (.ref (ad 14))
  k__law_exact : PySem.W.keepIn K (.ref (ad 14)) = true
  F__law_pairs : FunV K "_law_pairs" "_law_pairs" (top 22) (ad 15) (fds 15)
  b__law_pairs : Binds K (fds 15) ["_law_crowd"] []
  m__law_pairs : mg "_law_pairs" = some (.ref (ad 15))
  k__law_pairs : PySem.W.keepIn K (.ref (ad 15)) = true
  F__law_power : FunV K "_law_power" "_law_power" (top 23) (ad 16) (fds 16)
  b__law_power : Binds K (fds 16) ["_law_number"] []
  m__law_power : mg "_law_power" = some (.ref (ad 16))
  k__law_power : PySem.W.keepIn K (.ref (ad 16)) = true
  F__law_untied_to : FunV K "_law_untied_to" "_law_untied_to" (top 24) (ad 17) (fds 17)
  b__law_untied_to : Binds K (fds 17) ["_law_most"] []
  m__law_untied_to : mg "_law_untied_to" = some (.ref (ad 17))
  k__law_untied_to : PySem.W.keepIn K (.ref (ad 17)) = true
  F__law_families : FunV K "_law_families" "_law_families" (top 25) (ad 18) (fds 18)
  b__law_families : Binds K (fds 18) ["_law_many", "_law_size"] []
  m__law_families : mg "_law_families" = some (.ref (ad 18))
  k__law_families : PySem.W.keepIn K (.ref (ad 18)) = true
  F__law_lists : FunV K "_law_lists" "_law_lists" (top 26) (ad 19) (fds 19)
  b__law_lists : Binds K (fds 19) ["_law_many"] []
  m__law_lists : mg "_law_lists" = some (.ref (ad 19))
  k__law_lists : PySem.W.keepIn K (.ref (ad 19)) = true
  F__law_differ : FunV K "_law_differ" "_law_differ" (top 27) (ad 20) (fds 20)
  b__law_differ : Binds K (fds 20) ["_law_first", "_law_second"] []
  m__law_differ : mg "_law_differ" = some (.ref (ad 20))
  k__law_differ : PySem.W.keepIn K (.ref (ad 20)) = true
  F__law_share : FunV K "_law_share" "_law_share" (top 28) (ad 21) (fds 21)
  b__law_share : Binds K (fds 21) ["_law_first", "_law_second"] []
  m__law_share : mg "_law_share" = some (.ref (ad 21))
  k__law_share : PySem.W.keepIn K (.ref (ad 21)) = true
  F__law_counted_families : FunV K "_law_counted_families" "_law_counted_families" (top 29) (ad 22) (fds 22)
  b__law_counted_families : Binds K (fds 22) ["_law_many"] []
  m__law_counted_families : mg "_law_counted_families" = some (.ref (ad 22))
  k__law_counted_families : PySem.W.keepIn K (.ref (ad 22)) = true
  F__law_counted_untied : FunV K "_law_counted_untied" "_law_counted_untied" (top 30) (ad 23) (fds 23)
  b__law_counted_untied : Binds K (fds 23) ["_law_size"] []
  m__law_counted_untied : mg "_law_counted_untied" = some (.ref (ad 23))
  k__law_counted_untied : PySem.W.keepIn K (.ref (ad 23)) = true
  F_law : FunV K "law" "law" (top 31) (ad 24) (fds 24)
  b_law : Binds K (fds 24) ["_law_script"] []
  m_law : mg "law" = some (.ref (ad 24))
  k_law : PySem.W.keepIn K (.ref (ad 24)) = true
  kc : KC K ca cs0
  z_all : mg "all" = none
  z_any : mg "any" = none
  z_bool : mg "bool" = none
  z_dict : mg "dict" = none
  z_int : mg "int" = none
  z_isinstance : mg "isinstance" = none
  z_len : mg "len" = none
  z_list : mg "list" = none
  z_max : mg "max" = none
  z_min : mg "min" = none
  z_range : mg "range" = none
  z_sorted : mg "sorted" = none
  z_sum : mg "sum" = none
  z_tuple : mg "tuple" = none
  z_zip : mg "zip" = none
  bD_check_count : Binds K (fds 2) ["value", "most"] [.none]
  bD_is_count : Binds K (fds 1) ["value", "most"] [.none]
  hW : ca.w = w
section
variable {P : Program} {w : World} {K : PySem.W.Frag} {mg : Str → Option Value} {base : Heap} {ca : CA} {ad : Nat → Addr} {fds : Nat → FuncData}
theorem sc_is_whole : FnScope ["value"] ["value"] (defScope (top 4)) := ⟨rfl, rfl, rfl, by decide +kernel, rfl, by decide +kernel, by decide +kernel⟩
theorem ok_is_whole (T : Tx w K mg ca ad fds) : FnOk P w K mg base (L2.CX P w) 1 (ad 0) (fds 0) ["value"] (spF K ca f_is_whole) := by
  have S := sc_is_whole
  refine loc_ok (ok_fnV (N := ["value"]) T.F_is_whole S rfl fun cdv A outer s H E hr tk => ?_)
  exact (sb_cons (ss_ret (se_and (se_callB (at_fIsi T.kc) call_isiA rfl T.z_isinstance PyProof.Rows.boot_isinstance (sa_cons (sv 0) (sa_cons (se_ty rfl T.z_int PyProof.Rows.boot_int) sa_nil))) (se_one (se_not (se_callB (at_fIsi T.kc) call_isiA rfl T.z_isinstance PyProof.Rows.boot_isinstance (sa_cons (sv 0) (sa_cons (se_ty rfl T.z_bool PyProof.Rows.boot_bool) sa_nil)))))))
    sb_nil)

theorem sc_is_count : FnScope ["value", "most"] ["value", "most"] (defScope (top 5)) := ⟨rfl, rfl, rfl, by decide +kernel, rfl, by decide +kernel, by decide +kernel⟩
theorem ok_is_count (T : Tx w K mg ca ad fds) : FnOk P w K mg base (L2.CX P w) 2 (ad 1) (fds 1) ["value", "most"] (spF K ca f_is_count) := by
  have S := sc_is_count
  refine loc_ok (ok_fnV (N := ["value", "most"]) T.F_is_count S rfl fun cdv A outer s H E hr tk => ?_)
  exact (sb_cons (ss_ret (se_and (se_call tk (ok_is_whole T) (hr.mono (by decide)) rfl T.m_is_whole T.k_is_whole T.b_is_whole (sa_cons (sv 0) sa_nil)) (se_and (se_cmp (hu65 hr) (sv 0) se_int (nomark _)) (se_one (se_or (se_cmp (hu65 hr) (sv 1) se_non (nomark _)) (se_one (se_cmp (hu65 hr) (sv 0) (sv 1) (nomark _))))))))
    sb_nil)

theorem sc_check_count : FnScope ["value", "most"] ["value", "most"] (defScope (top 6)) := ⟨rfl, rfl, rfl, by decide +kernel, rfl, by decide +kernel, by decide +kernel⟩
theorem ok_check_count (T : Tx w K mg ca ad fds) : FnOk P w K mg base (L2.CX P w) 3 (ad 2) (fds 2) ["value", "most"] (spF K ca f_check_count) := by
  have S := sc_check_count
  refine loc_ok (ok_fnV (N := ["value", "most"]) T.F_check_count S rfl fun cdv A outer s H E hr tk => ?_)
  exact (sb_cons (ss_if (st_not (st_tru (se_call tk (ok_is_count T) (hr.mono (by decide)) rfl T.m_is_count T.k_is_count T.b_is_count (sa_cons (sv 0) (sa_cons (sv 1) sa_nil)))))
    (sb_cons ss_bad
    sb_nil)
    sb_nil)
    sb_nil)

theorem sc_check_many : FnScope ["value"] ["value"] (defScope (top 8)) := ⟨rfl, rfl, rfl, by decide +kernel, rfl, by decide +kernel, by decide +kernel⟩
theorem ok_check_many (T : Tx w K mg ca ad fds) : FnOk P w K mg base (L2.CX P w) 3 (ad 3) (fds 3) ["value"] (spF K ca f_check_many) := by
  have S := sc_check_many
  refine loc_ok (ok_fnV (N := ["value"]) T.F_check_many S rfl fun cdv A outer s H E hr tk => ?_)
  exact (sb_cons (ss_if (L2.PW.pt (sw_or (st_not (st_tru (se_callD tk (ok_is_count T) (hr.mono (by decide)) rfl T.m_is_count T.k_is_count T.bD_is_count (sa_cons (sv 0) sa_nil)))) (sw_or1 (st_cmp (hu65 hr) (sv 0) se_int (nomark _)))))
    (sb_cons ss_bad
    sb_nil)
    sb_nil)
    sb_nil)

theorem sc_power : FnScope ["number", "found", "_"] ["number"] (defScope (top 10)) := ⟨rfl, rfl, rfl, by decide +kernel, rfl, by decide +kernel, by decide +kernel⟩
theorem ok_power (T : Tx w K mg ca ad fds) : FnOk P w K mg base (L2.CX P w) 1 (ad 4) (fds 4) ["number"] (spF K ca f_power) := by
  have S := sc_power
  refine loc_ok (ok_fnV (N := ["number", "found", "_"]) T.F_power S rfl fun cdv A outer s H E hr tk => ?_)
  exact (sb_cons (ss_set se_int (sg 1 S.nd))
    (sb_cons (ss_for (passes_of rfl) rfl (si_range1 rfl T.z_range (sv 0)) (sg 2 S.nd)
    (sb_cons (ss_mul (i := 1) se_int S.nd)
    sb_nil))
    (sb_cons (ss_ret (sv 1))
    sb_nil)))

theorem sc_narrow_families : FnScope ["many", "size", "above", "below", "at"] ["many", "size"] (defScope (top 11)) := ⟨rfl, rfl, rfl, by decide +kernel, rfl, by decide +kernel, by decide +kernel⟩
theorem ok_narrow_families (T : Tx w K mg ca ad fds) : FnOk P w K mg base (L2.CX P w) 2 (ad 5) (fds 5) ["many", "size"] (spF K ca f_narrow_families) := by
  have S := sc_narrow_families
  refine loc_ok (ok_fnV (N := ["many", "size", "above", "below", "at"]) T.F_narrow_families S rfl fun cdv A outer s H E hr tk => ?_)
  exact (sb_cons (ss_set (se_tup (sa_cons se_int (sa_cons se_int sa_nil))) (sg_tup rfl (sgs_cons (sg 2 S.nd) (sgs_cons (sg 3 S.nd) sgs_nil))))
    (sb_cons (ss_for (passes_of rfl) rfl (si_range1 rfl T.z_range (sv 1)) (sg 4 S.nd)
    (sb_cons (ss_mul (i := 2) (se_bin (se_call tk (ok_power T) (hr.mono (by decide)) rfl T.m_power T.k_power T.b_power (sa_cons (se_callB at_fMax2 (call_max2 rfl) rfl T.z_max PyProof.Rows.boot_max (sa_cons se_int (sa_cons (se_bin (sv 0) (se_bin se_int (sv 4))) sa_nil))) sa_nil)) se_int) S.nd)
    (sb_cons (ss_mul (i := 3) (se_bin (se_call tk (ok_power T) (hr.mono (by decide)) rfl T.m_power T.k_power T.b_power (sa_cons (se_bin (sv 4) se_int) sa_nil)) se_int) S.nd)
    sb_nil)))
    (sb_cons (ss_ret (se_bin (sv 2) (sv 3)))
    sb_nil)))

theorem sc_families : FnScope ["many", "size", "wide"] ["many", "size"] (defScope (top 12)) := ⟨rfl, rfl, rfl, by decide +kernel, rfl, by decide +kernel, by decide +kernel⟩
theorem ok_families (T : Tx w K mg ca ad fds) : FnOk P w K mg base (L2.CX P w) 3 (ad 6) (fds 6) ["many", "size"] (spF K ca f_families) := by
  have S := sc_families
  refine loc_ok (ok_fnV (N := ["many", "size", "wide"]) T.F_families S rfl fun cdv A outer s H E hr tk => ?_)
  exact (sb_cons (ss_if (st_cmp (hu65 hr) (sv 0) se_int (nomark _))
    (sb_cons (ss_ret (se_callTy at_fInt call_int1 rfl T.z_int PyProof.Rows.boot_int (sa_cons (se_cmp (hu65 hr) (sv 1) se_int (nomark _)) sa_nil)))
    sb_nil)
    sb_nil)
    (sb_cons (ss_if (st_cmp (hu65 hr) (se_bin (sv 0) se_int) se_int (nomark _))
    (sb_cons (ss_ret (se_call tk (ok_narrow_families T) (hr.mono (by decide)) rfl T.m_narrow_families T.k_narrow_families T.b_narrow_families (sa_cons (se_bin (sv 0) se_int) (sa_cons (sv 1) sa_nil))))
    sb_nil)
    sb_nil)
    (sb_cons (ss_set (se_if (st_cmp (hu65 hr) (sv 1) se_int (nomark _)) (se_call tk (ok_narrow_families T) (hr.mono (by decide)) rfl T.m_narrow_families T.k_narrow_families T.b_narrow_families (sa_cons (se_bin (sv 0) se_int) (sa_cons (se_bin (sv 1) se_int) sa_nil))) se_int) (sg 2 S.nd))
    (sb_cons (ss_ret (se_bin (sv 2) (se_bin (se_call tk (ok_power T) (hr.mono (by decide)) rfl T.m_power T.k_power T.b_power (sa_cons (sv 1) sa_nil)) (se_call tk (ok_narrow_families T) (hr.mono (by decide)) rfl T.m_narrow_families T.k_narrow_families T.b_narrow_families (sa_cons (se_bin (sv 0) se_int) (sa_cons (sv 1) sa_nil))))))
    sb_nil))))

theorem sc_untied : FnScope ["size", "found", "at"] ["size"] (defScope (top 13)) := ⟨rfl, rfl, rfl, by decide +kernel, rfl, by decide +kernel, by decide +kernel⟩
theorem ok_untied (T : Tx w K mg ca ad fds) : FnOk P w K mg base (L2.CX P w) 2 (ad 7) (fds 7) ["size"] (spF K ca f_untied) := by
  have S := sc_untied
  refine loc_ok (ok_fnV (N := ["size", "found", "at"]) T.F_untied S rfl fun cdv A outer s H E hr tk => ?_)
  exact (sb_cons (ss_if (st_cmp (hu65 hr) (se_bin (sv 0) se_int) se_int (nomark _))
    (sb_cons (ss_ret se_int)
    sb_nil)
    sb_nil)
    (sb_cons (ss_set se_int (sg 1 S.nd))
    (sb_cons (ss_for (passes_of rfl) rfl (si_range3 rfl T.z_range se_int (sv 0) se_int) (sg 2 S.nd)
    (sb_cons (ss_mul (i := 1) (se_bin (se_bin (se_call tk (ok_power T) (hr.mono (by decide)) rfl T.m_power T.k_power T.b_power (sa_cons (sv 2) sa_nil)) se_int) (se_call tk (ok_power T) (hr.mono (by decide)) rfl T.m_power T.k_power T.b_power (sa_cons (se_bin (sv 2) se_int) sa_nil))) S.nd)
    sb_nil))
    (sb_cons (ss_ret (sv 1))
    sb_nil))))

theorem sc_even_families : FnScope ["many", "size"] ["many", "size"] (defScope (top 14)) := ⟨rfl, rfl, rfl, by decide +kernel, rfl, by decide +kernel, by decide +kernel⟩
theorem ok_even_families (T : Tx w K mg ca ad fds) : FnOk P w K mg base (L2.CX P w) 4 (ad 8) (fds 8) ["many", "size"] (spF K ca f_even_families) := by
  have S := sc_even_families
  refine loc_ok (ok_fnV (N := ["many", "size"]) T.F_even_families S rfl fun cdv A outer s H E hr tk => ?_)
  exact (sb_cons (ss_expr (se_call tk (ok_check_many T) (hr.mono (by decide)) rfl T.m_check_many T.k_check_many T.b_check_many (sa_cons (sv 0) sa_nil)))
    (sb_cons (ss_expr (se_callD tk (ok_check_count T) (hr.mono (by decide)) rfl T.m_check_count T.k_check_count T.bD_check_count (sa_cons (sv 1) sa_nil)))
    (sb_cons (ss_ret (se_call tk (ok_families T) (hr.mono (by decide)) rfl T.m_families T.k_families T.b_families (sa_cons (sv 0) (sa_cons (sv 1) sa_nil))))
    sb_nil)))

theorem sc_untied_companies : FnScope ["size"] ["size"] (defScope (top 15)) := ⟨rfl, rfl, rfl, by decide +kernel, rfl, by decide +kernel, by decide +kernel⟩
theorem ok_untied_companies (T : Tx w K mg ca ad fds) : FnOk P w K mg base (L2.CX P w) 4 (ad 9) (fds 9) ["size"] (spF K ca f_untied_companies) := by
  have S := sc_untied_companies
  refine loc_ok (ok_fnV (N := ["size"]) T.F_untied_companies S rfl fun cdv A outer s H E hr tk => ?_)
  exact (sb_cons (ss_expr (se_callD tk (ok_check_count T) (hr.mono (by decide)) rfl T.m_check_count T.k_check_count T.bD_check_count (sa_cons (sv 0) sa_nil)))
    (sb_cons (ss_ret (se_call tk (ok_untied T) (hr.mono (by decide)) rfl T.m_untied T.k_untied T.b_untied (sa_cons (sv 0) sa_nil)))
    sb_nil))

theorem sc__law_purse : FnScope ["_law_script", "_law_at", "_law_seed"] ["_law_script", "_law_at"] (defScope (top 17)) := ⟨rfl, rfl, rfl, by decide +kernel, rfl, by decide +kernel, by decide +kernel⟩
theorem ok__law_purse (T : Tx w K mg ca ad fds) : FnOk P w K mg base (L2.CX P w) 1 (ad 10) (fds 10) ["_law_script", "_law_at"] (spF K ca f__law_purse) := by
  have S := sc__law_purse
  refine ok_fnV (N := ["_law_script", "_law_at", "_law_seed"]) T.F__law_purse S rfl fun cdv A outer s H E hr tk => ?_
  exact (sb_cons (ss_set (se_callB at_fSum (cr_sum rfl) rfl T.z_sum PyProof.Rows.boot_sum (sa_cons (se_slc (sv 0) (so_some (sv 1)) (so_some (se_bin (sv 1) se_int))) sa_nil)) (sg 2 S.nd))
    (sb_cons (ss_ret (se_lst (sa_cons (se_bin (se_callTy at_fInt call_int1 rfl T.z_int PyProof.Rows.boot_int (sa_cons (se_callB at_fMax2 (call_max2 rfl) rfl T.z_max PyProof.Rows.boot_max (sa_cons (se_bin (sv 2) (se_bin se_int se_int)) (sa_cons se_int sa_nil))) sa_nil)) (se_bin (se_bin se_int se_int) se_int)) (sa_cons (se_bin (se_callTy at_fInt call_int1 rfl T.z_int PyProof.Rows.boot_int (sa_cons (sv 2) sa_nil)) se_int) (sa_cons se_int (sa_cons (sv 1) sa_nil))))))
    sb_nil))

theorem sc__law_mixed : FnScope ["_law_seed", "_law_turn", "_law_at", "_law_mixed_here"] ["_law_seed", "_law_turn", "_law_at"] (defScope (top 18)) := ⟨rfl, rfl, rfl, by decide +kernel, rfl, by decide +kernel, by decide +kernel⟩
theorem ok__law_mixed (T : Tx w K mg ca ad fds) : FnOk P w K mg base (L2.CX P w) 1 (ad 11) (fds 11) ["_law_seed", "_law_turn", "_law_at"] (spF K ca f__law_mixed) := by
  have S := sc__law_mixed
  refine loc_ok (ok_fnV (N := ["_law_seed", "_law_turn", "_law_at", "_law_mixed_here"]) T.F__law_mixed S rfl fun cdv A outer s H E hr tk => ?_)
  exact (sb_cons (ss_set (se_bin (se_bin (sv 0) se_int) (se_bin (se_bin se_int (sv 1)) (sv 1))) (sg 3 S.nd))
    (sb_cons (ss_set (se_bin (se_callTy at_fInt call_int1 rfl T.z_int PyProof.Rows.boot_int (sa_cons (se_bin (se_bin (sv 3) (se_bin se_int (sv 2))) (sv 1)) sa_nil)) se_int) (sg 3 S.nd))
    (sb_cons (ss_set (se_bin (se_callTy at_fInt call_int1 rfl T.z_int PyProof.Rows.boot_int (sa_cons (se_bin (se_bin (sv 3) (sv 3)) se_int) sa_nil)) se_int) (sg 3 S.nd))
    (sb_cons (ss_ret (se_bin (se_callTy at_fInt call_int1 rfl T.z_int PyProof.Rows.boot_int (sa_cons (se_bin (sv 3) se_int) sa_nil)) se_int))
    sb_nil))))

theorem sc__law_draw : FnScope ["_law_purse_here", "_law_many", "_law_drawn", "_law_found", "_law_piece"] ["_law_purse_here", "_law_many"] (defScope (top 19)) := ⟨rfl, rfl, rfl, by decide +kernel, rfl, by decide +kernel, by decide +kernel⟩
theorem ok__law_draw (T : Tx w K mg ca ad fds) : FnOk P w K mg base (L2.CX P w) 2 (ad 12) (fds 12) ["_law_purse_here", "_law_many"] (spF K ca f__law_draw) := by
  have S := sc__law_draw
  refine ok_fnV (N := ["_law_purse_here", "_law_many", "_law_drawn", "_law_found", "_law_piece"]) T.F__law_draw S rfl fun cdv A outer s H E hr tk => ?_
  exact (sb_cons (ss_if (st_cmp (hu65 hr) (se_sub (hu65 hr) (sv 0) se_int (fun _ _ => by with_unfolding_all rfl)) se_int (nomark _))
    (sb_cons (ss_set (se_bin (se_callTy at_fInt call_int1 rfl T.z_int PyProof.Rows.boot_int (sa_cons (se_sub (hu65 hr) (sv 0) se_int (fun _ _ => by with_unfolding_all rfl)) sa_nil)) (sv 1)) (sg 2 S.nd))
    (sb_cons (ss_sub (hu1 hr) (sv 0) se_int (se_bin (se_sub (hu65 hr) (sv 0) se_int (fun _ _ => by with_unfolding_all rfl)) (sv 1)))
    (sb_cons (ss_ret (sv 2))
    sb_nil)))
    sb_nil)
    (sb_cons (ss_set se_int (sg 3 S.nd))
    (sb_cons (ss_for (passes_of rfl) rfl (si_range1 rfl T.z_range (se_bin se_int (se_bin (se_bits (sv 1)) se_int))) (sg 4 S.nd)
    (sb_cons (ss_sub (hu1 hr) (sv 0) se_int (se_bin (se_sub (hu65 hr) (sv 0) se_int (fun _ _ => by with_unfolding_all rfl)) se_int))
    (sb_cons (ss_set (se_bin (se_bin (sv 3) se_int) (se_call tk (ok__law_mixed T) (hr.mono (by decide)) rfl T.m__law_mixed T.k__law_mixed T.b__law_mixed (sa_cons (se_sub (hu65 hr) (sv 0) se_int (fun _ _ => by with_unfolding_all rfl)) (sa_cons (se_sub (hu65 hr) (sv 0) se_int (fun _ _ => by with_unfolding_all rfl)) (sa_cons (se_sub (hu65 hr) (sv 0) se_int (fun _ _ => by with_unfolding_all rfl)) sa_nil))))) (sg 3 S.nd))
    sb_nil)))
    (sb_cons (ss_ret (se_bin (se_callTy at_fInt call_int1 rfl T.z_int PyProof.Rows.boot_int (sa_cons (sv 3) sa_nil)) (sv 1)))
    sb_nil))))

theorem sc__law_purses : FnScope ["_law_script", "_law_few", "_law_at"] ["_law_script", "_law_few"] (defScope (top 20)) := ⟨rfl, rfl, rfl, by decide +kernel, rfl, by decide +kernel, by decide +kernel⟩
theorem ok__law_purses (T : Tx w K mg ca ad fds) : FnOk P w K mg base (L2.CX P w) 2 (ad 13) (fds 13) ["_law_script", "_law_few"] (spF K ca f__law_purses) := by
  have S := sc__law_purses
  refine ok_fnV (N := ["_law_script", "_law_few", "_law_at"]) T.F__law_purses S rfl fun cdv A outer s H E hr tk => ?_
  exact (sb_cons (ss_ret (se_comp (own := [("_law_at", 2)]) rfl S.nd (si_range1 rfl T.z_range (se_callB at_fMax2 (call_max2 rfl) rfl T.z_max PyProof.Rows.boot_max (sa_cons se_int (sa_cons (se_callB at_fMin2 (call_min2 rfl) rfl T.z_min PyProof.Rows.boot_min (sa_cons (sv 1) (sa_cons (se_callB at_fLen call_len rfl T.z_len PySem.boot_len (sa_cons (sv 0) sa_nil)) sa_nil))) sa_nil)))) (blkOk_by rfl) (by decide) (fun _ _ _ _ _ => (sg 2 S.nd)) (fun _ _ _ _ _ => sts_nil) (fun _ _ _ _ _ => (se_call tk0 (ok__law_purse T) (hr.mono (by decide)) rfl T.m__law_purse T.k__law_purse T.b__law_purse (sa_cons (sv 0) (sa_cons (sv 2) sa_nil))))))
    sb_nil)

theorem sc__law_exact : FnScope ["_law_mine", "_law_theirs", "_law_alike", "_law_a", "_law_b", "_law_key"] ["_law_mine", "_law_theirs"] (defScope (top 21)) := ⟨rfl, rfl, rfl, by decide +kernel, rfl, by decide +kernel, by decide +kernel⟩
theorem ok__law_exact (T : Tx w K mg ca ad fds) : ∀ n, FnOk P w K mg base (L2.CX P w) (1 + n) (ad 14) (fds 14) ["_law_mine", "_law_theirs"] (spF K ca (f__law_exact n))
  | 0 => fn_none
  | n + 1 => by
    have ok := ok__law_exact T n
    have S := sc__law_exact
    refine loc_ok (ok_fnV (N := ["_law_mine", "_law_theirs", "_law_alike", "_law_a", "_law_b", "_law_key"]) T.F__law_exact S rfl fun cdv A outer s H E hr tk => ?_)
    exact (sb_cons (ss_if (st_tru (se_callB (at_fIsi T.kc) call_isiA rfl T.z_isinstance PyProof.Rows.boot_isinstance (sa_cons (sv 0) (sa_cons (se_tup (sa_cons (se_ty rfl T.z_list PyProof.Rows.boot_list) (sa_cons (se_ty rfl T.z_tuple PyProof.Rows.boot_tuple) sa_nil))) sa_nil))))
    (sb_cons (ss_set (se_and (se_cmp (hu65 hr) (se_callB (at_fIsi T.kc) call_isiA rfl T.z_isinstance PyProof.Rows.boot_isinstance (sa_cons (sv 1) (sa_cons (se_ty rfl T.z_list PyProof.Rows.boot_list) sa_nil))) (se_callB (at_fIsi T.kc) call_isiA rfl T.z_isinstance PyProof.Rows.boot_isinstance (sa_cons (sv 0) (sa_cons (se_ty rfl T.z_list PyProof.Rows.boot_list) sa_nil))) (nomark _)) (se_one (se_cmp (hu65 hr) (se_callB (at_fIsi T.kc) call_isiA rfl T.z_isinstance PyProof.Rows.boot_isinstance (sa_cons (sv 1) (sa_cons (se_ty rfl T.z_tuple PyProof.Rows.boot_tuple) sa_nil))) (se_callB (at_fIsi T.kc) call_isiA rfl T.z_isinstance PyProof.Rows.boot_isinstance (sa_cons (sv 0) (sa_cons (se_ty rfl T.z_tuple PyProof.Rows.boot_tuple) sa_nil))) (nomark _)))) (sg 2 S.nd))
    (sb_cons (ss_ret (se_and (sv 2) (se_and (se_cmp (hu65 hr) (se_callB at_fLen call_len rfl T.z_len PySem.boot_len (sa_cons (sv 0) sa_nil)) (se_callB at_fLen call_len rfl T.z_len PySem.boot_len (sa_cons (sv 1) sa_nil)) (nomark _)) (se_one (se_callB at_fAll (cr_all rfl) rfl T.z_all PyProof.Rows.boot_all (sa_cons (se_comp (own := [("_law_a", 3), ("_law_b", 4)]) rfl S.nd (si_zip rfl T.z_zip (sv 0) (sv 1)) (blkOk_by rfl) (by decide) (fun _ _ _ _ _ => (sg_tup rfl (sgs_cons (sg 3 S.nd) (sgs_cons (sg 4 S.nd) sgs_nil)))) (fun _ _ _ _ _ => sts_nil) (fun _ _ _ _ _ => (se_call tk0 ok (hr.mono (by first | omega | (simp only [Nat.add_eq]; omega))) rfl T.m__law_exact T.k__law_exact T.b__law_exact (sa_cons (sv 3) (sa_cons (sv 4) sa_nil))))) sa_nil))))))
    sb_nil))
    sb_nil)
    (sb_cons (ss_if (st_tru (se_callB (at_fIsi T.kc) call_isiA rfl T.z_isinstance PyProof.Rows.boot_isinstance (sa_cons (sv 0) (sa_cons (se_ty rfl T.z_dict PyProof.Rows.boot_dict) sa_nil))))
    (sb_cons (ss_set (se_and (se_callB (at_fIsi T.kc) call_isiA rfl T.z_isinstance PyProof.Rows.boot_isinstance (sa_cons (sv 1) (sa_cons (se_ty rfl T.z_dict PyProof.Rows.boot_dict) sa_nil))) (se_one (se_call tk ok (hr.mono (by first | omega | (simp only [Nat.add_eq]; omega))) rfl T.m__law_exact T.k__law_exact T.b__law_exact (sa_cons (se_callTy at_fListD (call_listD rfl) rfl T.z_list PyProof.Rows.boot_list (sa_cons (sv 0) sa_nil)) (sa_cons (se_callTy at_fListD (call_listD rfl) rfl T.z_list PyProof.Rows.boot_list (sa_cons (sv 1) sa_nil)) sa_nil))))) (sg 2 S.nd))
    (sb_cons (ss_ret (se_and (sv 2) (se_one (se_callB at_fAll (cr_all rfl) rfl T.z_all PyProof.Rows.boot_all (sa_cons (se_comp (own := [("_law_key", 5)]) rfl S.nd (si_keys (sv 0)) (blkOk_by rfl) (by decide) (fun _ _ _ _ _ => (sg 5 S.nd)) (fun _ _ _ _ _ => sts_nil) (fun _ _ _ _ _ => (se_call tk0 ok (hr.mono (by first | omega | (simp only [Nat.add_eq]; omega))) rfl T.m__law_exact T.k__law_exact T.b__law_exact (sa_cons (se_sub (hu65 hr) (sv 0) (sv 5) (fun _ _ => by with_unfolding_all rfl)) (sa_cons (se_sub (hu65 hr) (sv 1) (sv 5) (fun _ _ => by with_unfolding_all rfl)) sa_nil))))) sa_nil)))))
    sb_nil))
    sb_nil)
    (sb_cons (ss_set (se_cmp (hu65 hr) (se_callB (at_fIsi T.kc) call_isiA rfl T.z_isinstance PyProof.Rows.boot_isinstance (sa_cons (sv 0) (sa_cons (se_ty rfl T.z_int PyProof.Rows.boot_int) sa_nil))) (se_callB (at_fIsi T.kc) call_isiA rfl T.z_isinstance PyProof.Rows.boot_isinstance (sa_cons (sv 1) (sa_cons (se_ty rfl T.z_int PyProof.Rows.boot_int) sa_nil))) (nomark _)) (sg 2 S.nd))
    (sb_cons (ss_ret (se_and (sv 2) (se_and (se_cmp (hu65 hr) (se_callB (at_fIsi T.kc) call_isiA rfl T.z_isinstance PyProof.Rows.boot_isinstance (sa_cons (sv 0) (sa_cons (se_ty rfl T.z_bool PyProof.Rows.boot_bool) sa_nil))) (se_callB (at_fIsi T.kc) call_isiA rfl T.z_isinstance PyProof.Rows.boot_isinstance (sa_cons (sv 1) (sa_cons (se_ty rfl T.z_bool PyProof.Rows.boot_bool) sa_nil))) (nomark _)) (se_one (se_cmp (hu65 hr) (sv 0) (sv 1) (nomark _))))))
    sb_nil))))

theorem sc__law_pairs : FnScope ["_law_crowd", "_law_found", "_law_at", "_law_late"] ["_law_crowd"] (defScope (top 22)) := ⟨rfl, rfl, rfl, by decide +kernel, rfl, by decide +kernel, by decide +kernel⟩
theorem ok__law_pairs (T : Tx w K mg ca ad fds) : FnOk P w K mg base (L2.CX P w) 1 (ad 15) (fds 15) ["_law_crowd"] (spF K ca f__law_pairs) := by
  have S := sc__law_pairs
  refine loc_ok (ok_fnV (N := ["_law_crowd", "_law_found", "_law_at", "_law_late"]) T.F__law_pairs S rfl fun cdv A outer s H E hr tk => ?_)
  exact (sb_cons (ss_set (se_lst sa_nil) (sg 1 S.nd))
    (sb_cons (ss_for (passes_of rfl) rfl (si_range1 rfl T.z_range (se_callB at_fLen call_len rfl T.z_len PySem.boot_len (sa_cons (sv 0) sa_nil))) (sg 2 S.nd)
    (sb_cons (ss_set (se_bin (sv 1) (se_comp (own := [("_law_late", 3)]) rfl S.nd (si_seq (se_slc (sv 0) (so_some (se_bin (sv 2) se_int)) so_none)) (blkOk_by rfl) (by decide) (fun _ _ _ _ _ => (sg 3 S.nd)) (fun _ _ _ _ _ => sts_nil) (fun _ _ _ _ _ => (se_tup (sa_cons (se_sub (hu65 hr) (sv 0) (sv 2) (fun _ _ => by with_unfolding_all rfl)) (sa_cons (sv 3) sa_nil)))))) (sg 1 S.nd))
    sb_nil))
    (sb_cons (ss_ret (sv 1))
    sb_nil)))

theorem sc__law_power : FnScope ["_law_number", "_law_found", "_law_turn"] ["_law_number"] (defScope (top 23)) := ⟨rfl, rfl, rfl, by decide +kernel, rfl, by decide +kernel, by decide +kernel⟩
theorem ok__law_power (T : Tx w K mg ca ad fds) : FnOk P w K mg base (L2.CX P w) 1 (ad 16) (fds 16) ["_law_number"] (spF K ca f__law_power) := by
  have S := sc__law_power
  refine loc_ok (ok_fnV (N := ["_law_number", "_law_found", "_law_turn"]) T.F__law_power S rfl fun cdv A outer s H E hr tk => ?_)
  exact (sb_cons (ss_set se_int (sg 1 S.nd))
    (sb_cons (ss_for (passes_of rfl) rfl (si_range1 rfl T.z_range (sv 0)) (sg 2 S.nd)
    (sb_cons (ss_set (se_bin (sv 1) se_int) (sg 1 S.nd))
    sb_nil))
    (sb_cons (ss_ret (sv 1))
    sb_nil)))

theorem sc__law_untied_to : FnScope ["_law_most", "_law_powers", "_law_table", "_law_found", "_law_many", "_law_last", "_law_at"] ["_law_most"] (defScope (top 24)) := ⟨rfl, rfl, rfl, by decide +kernel, rfl, by decide +kernel, by decide +kernel⟩
theorem ok__law_untied_to (T : Tx w K mg ca ad fds) : FnOk P w K mg base (L2.CX P w) 2 (ad 17) (fds 17) ["_law_most"] (spF K ca f__law_untied_to) := by
  have S := sc__law_untied_to
  refine loc_ok (ok_fnV (N := ["_law_most", "_law_powers", "_law_table", "_law_found", "_law_many", "_law_last", "_law_at"]) T.F__law_untied_to S rfl fun cdv A outer s H E hr tk => ?_)
  exact (sb_cons (ss_set (se_tup (sa_cons (se_comp (own := [("_law_at", 6)]) rfl S.nd (si_range1 rfl T.z_range (se_bin (sv 0) se_int)) (blkOk_by rfl) (by decide) (fun _ _ _ _ _ => (sg 6 S.nd)) (fun _ _ _ _ _ => sts_nil) (fun _ _ _ _ _ => (se_call tk0 (ok__law_power T) (hr.mono (by decide)) rfl T.m__law_power T.k__law_power T.b__law_power (sa_cons (sv 6) sa_nil)))) (sa_cons (se_lst (sa_cons se_int sa_nil)) (sa_cons (se_lst (sa_cons se_int sa_nil)) sa_nil)))) (sg_tup rfl (sgs_cons (sg 1 S.nd) (sgs_cons (sg 2 S.nd) (sgs_cons (sg 3 S.nd) sgs_nil)))))
    (sb_cons (ss_for (passes_of rfl) rfl (si_range2 rfl T.z_range se_int (se_bin (sv 0) se_int)) (sg 4 S.nd)
    (sb_cons (ss_set (se_bin (sv 2) (se_lst (sa_cons se_int sa_nil))) (sg 5 S.nd))
    (sb_cons (ss_set (se_bin (se_lst (sa_cons se_int sa_nil)) (se_comp (own := [("_law_at", 6)]) rfl S.nd (si_range2 rfl T.z_range se_int (se_bin (sv 4) se_int)) (blkOk_by rfl) (by decide) (fun _ _ _ _ _ => (sg 6 S.nd)) (fun _ _ _ _ _ => sts_nil) (fun _ _ _ _ _ => (se_bin (se_sub (hu65 hr) (sv 5) (se_bin (sv 6) se_int) (fun _ _ => by with_unfolding_all rfl)) (se_bin (se_sub (hu65 hr) (sv 1) (sv 6) (fun _ _ => by with_unfolding_all rfl)) (se_sub (hu65 hr) (sv 5) (sv 6) (fun _ _ => by with_unfolding_all rfl))))))) (sg 2 S.nd))
    (sb_cons (ss_expr (se_ml at_mAppend F.slot_list_append F.type_list_append mt_append (sv 3) (sa_cons (se_bin (se_call tk (ok__law_power T) (hr.mono (by decide)) rfl T.m__law_power T.k__law_power T.b__law_power (sa_cons (se_bin (se_bin (sv 4) (se_bin (sv 4) se_int)) se_int) sa_nil)) (se_callB at_fSum (cr_sum rfl) rfl T.z_sum PyProof.Rows.boot_sum (sa_cons (se_comp (own := [("_law_at", 6)]) rfl S.nd (si_range1 rfl T.z_range (sv 4)) (blkOk_by rfl) (by decide) (fun _ _ _ _ _ => (sg 6 S.nd)) (fun _ _ _ _ _ => sts_nil) (fun _ _ _ _ _ => (se_bin (se_sub (hu65 hr) (sv 2) (sv 6) (fun _ _ => by with_unfolding_all rfl)) (se_sub (hu65 hr) (sv 3) (sv 6) (fun _ _ => by with_unfolding_all rfl))))) sa_nil))) sa_nil)))
    sb_nil))))
    (sb_cons (ss_ret (se_frz (sv 3)))
    sb_nil)))

theorem sc__law_families : FnScope ["_law_many", "_law_size", "_law_ways", "_law_orders", "_law_at", "_law_below"] ["_law_many", "_law_size"] (defScope (top 25)) := ⟨rfl, rfl, rfl, by decide +kernel, rfl, by decide +kernel, by decide +kernel⟩
theorem ok__law_families (T : Tx w K mg ca ad fds) : ∀ n, FnOk P w K mg base (L2.CX P w) (2 + n) (ad 18) (fds 18) ["_law_many", "_law_size"] (spF K ca (f__law_families n))
  | 0 => fn_none
  | n + 1 => by
    have ok := ok__law_families T n
    have S := sc__law_families
    refine loc_ok (ok_fnV (N := ["_law_many", "_law_size", "_law_ways", "_law_orders", "_law_at", "_law_below"]) T.F__law_families S rfl fun cdv A outer s H E hr tk => ?_)
    exact (sb_cons (ss_if (st_cmp (hu65 hr) (se_bin (se_callTy at_fInt call_int1 rfl T.z_int PyProof.Rows.boot_int (sa_cons (sv 0) sa_nil)) se_int) se_int (nomark _))
    (sb_cons (ss_set (se_tup (sa_cons se_int (sa_cons se_int sa_nil))) (sg_tup rfl (sgs_cons (sg 2 S.nd) (sgs_cons (sg 3 S.nd) sgs_nil))))
    (sb_cons (ss_for (passes_of rfl) rfl (si_range1 rfl T.z_range (sv 1)) (sg 4 S.nd)
    (sb_cons (ss_set (se_if (st_cmp (hu65 hr) (se_bin (se_bin (sv 0) se_int) (sv 4)) (sv 4) (nomark _)) (se_bin (sv 2) (se_bin (se_call tk (ok__law_power T) (hr.mono (by first | omega | (simp only [Nat.add_eq]; omega))) rfl T.m__law_power T.k__law_power T.b__law_power (sa_cons (se_bin (se_bin (sv 0) se_int) (sv 4)) sa_nil)) (se_call tk (ok__law_power T) (hr.mono (by first | omega | (simp only [Nat.add_eq]; omega))) rfl T.m__law_power T.k__law_power T.b__law_power (sa_cons (sv 4) sa_nil)))) se_int) (sg 2 S.nd))
    (sb_cons (ss_set (se_bin (sv 3) (se_bin (se_call tk (ok__law_power T) (hr.mono (by first | omega | (simp only [Nat.add_eq]; omega))) rfl T.m__law_power T.k__law_power T.b__law_power (sa_cons (sv 1) sa_nil)) (se_call tk (ok__law_power T) (hr.mono (by first | omega | (simp only [Nat.add_eq]; omega))) rfl T.m__law_power T.k__law_power T.b__law_power (sa_cons (sv 4) sa_nil)))) (sg 3 S.nd))
    sb_nil)))
    (sb_cons (ss_ret (se_bin (sv 2) (sv 3)))
    sb_nil)))
    sb_nil)
    (sb_cons (ss_set (se_if (st_cmp (hu65 hr) (sv 1) se_int (nomark _)) (se_call tk ok (hr.mono (by first | omega | (simp only [Nat.add_eq]; omega))) rfl T.m__law_families T.k__law_families T.b__law_families (sa_cons (se_bin (sv 0) se_int) (sa_cons (se_bin (sv 1) se_int) sa_nil))) se_int) (sg 5 S.nd))
    (sb_cons (ss_ret (se_bin (se_bin (se_call tk (ok__law_power T) (hr.mono (by first | omega | (simp only [Nat.add_eq]; omega))) rfl T.m__law_power T.k__law_power T.b__law_power (sa_cons (sv 1) sa_nil)) (se_call tk ok (hr.mono (by first | omega | (simp only [Nat.add_eq]; omega))) rfl T.m__law_families T.k__law_families T.b__law_families (sa_cons (se_bin (sv 0) se_int) (sa_cons (sv 1) sa_nil)))) (sv 5)))
    sb_nil)))

theorem sc__law_lists : FnScope ["_law_many", "_law_found", "_law_turn", "_law_row"] ["_law_many"] (defScope (top 26)) := ⟨rfl, rfl, rfl, by decide +kernel, rfl, by decide +kernel, by decide +kernel⟩
theorem ok__law_lists (T : Tx w K mg ca ad fds) : FnOk P w K mg base (L2.CX P w) 1 (ad 19) (fds 19) ["_law_many"] (spF K ca f__law_lists) := by
  have S := sc__law_lists
  refine loc_ok (ok_fnV (N := ["_law_many", "_law_found", "_law_turn", "_law_row"]) T.F__law_lists S rfl fun cdv A outer s H E hr tk => ?_)
  exact (sb_cons (ss_set (se_lst (sa_cons (se_tup sa_nil) sa_nil)) (sg 1 S.nd))
    (sb_cons (ss_for (passes_of rfl) rfl (si_range1 rfl T.z_range (sv 0)) (sg 2 S.nd)
    (sb_cons (ss_set (se_bin (se_comp (own := [("_law_row", 3)]) rfl S.nd (si_seq (sv 1)) (blkOk_by rfl) (by decide) (fun _ _ _ _ _ => (sg 3 S.nd)) (fun _ _ _ _ _ => sts_nil) (fun _ _ _ _ _ => (se_bin (sv 3) (se_tup (sa_cons se_int sa_nil))))) (se_comp (own := [("_law_row", 3)]) rfl S.nd (si_seq (sv 1)) (blkOk_by rfl) (by decide) (fun _ _ _ _ _ => (sg 3 S.nd)) (fun _ _ _ _ _ => sts_nil) (fun _ _ _ _ _ => (se_bin (sv 3) (se_tup (sa_cons se_int sa_nil)))))) (sg 1 S.nd))
    sb_nil))
    (sb_cons (ss_ret (sv 1))
    sb_nil)))

theorem sc__law_differ : FnScope ["_law_first", "_law_second", "_law_late", "_law_one"] ["_law_first", "_law_second"] (defScope (top 27)) := ⟨rfl, rfl, rfl, by decide +kernel, rfl, by decide +kernel, by decide +kernel⟩
theorem ok__law_differ (T : Tx w K mg ca ad fds) : FnOk P w K mg base (L2.CX P w) 1 (ad 20) (fds 20) ["_law_first", "_law_second"] (spF K ca f__law_differ) := by
  have S := sc__law_differ
  refine loc_ok (ok_fnV (N := ["_law_first", "_law_second", "_law_late", "_law_one"]) T.F__law_differ S rfl fun cdv A outer s H E hr tk => ?_)
  exact (sb_cons (ss_ret (se_callTy at_fTuple call_tuple_of rfl T.z_tuple PyProof.Rows.boot_tuple (sa_cons (se_comp (own := [("_law_one", 3), ("_law_late", 2)]) rfl S.nd (si_zip rfl T.z_zip (sv 0) (sv 1)) (blkOk_by rfl) (by decide) (fun _ _ _ _ _ => (sg_tup rfl (sgs_cons (sg 3 S.nd) (sgs_cons (sg 2 S.nd) sgs_nil)))) (fun _ _ _ _ _ => sts_nil) (fun _ _ _ _ _ => (se_callTy at_fInt call_int1 rfl T.z_int PyProof.Rows.boot_int (sa_cons (se_cmp (hu65 hr) (sv 3) (sv 2) (nomark _)) sa_nil)))) sa_nil)))
    sb_nil)

theorem sc__law_share : FnScope ["_law_first", "_law_second", "_law_late", "_law_one"] ["_law_first", "_law_second"] (defScope (top 28)) := ⟨rfl, rfl, rfl, by decide +kernel, rfl, by decide +kernel, by decide +kernel⟩
theorem ok__law_share (T : Tx w K mg ca ad fds) : FnOk P w K mg base (L2.CX P w) 1 (ad 21) (fds 21) ["_law_first", "_law_second"] (spF K ca f__law_share) := by
  have S := sc__law_share
  refine loc_ok (ok_fnV (N := ["_law_first", "_law_second", "_law_late", "_law_one"]) T.F__law_share S rfl fun cdv A outer s H E hr tk => ?_)
  exact (sb_cons (ss_ret (se_bin (se_callTy at_fInt call_int1 rfl T.z_int PyProof.Rows.boot_int (sa_cons (se_callB at_fSum (cr_sum rfl) rfl T.z_sum PyProof.Rows.boot_sum (sa_cons (se_comp (own := [("_law_one", 3), ("_law_late", 2)]) rfl S.nd (si_zipX rfl T.z_zip (sv 0) (sv 1)) (blkOk_by rfl) (by decide) (fun _ _ _ _ _ => (sg_tup rfl (sgs_cons (sg 3 S.nd) (sgs_cons (sg 2 S.nd) sgs_nil)))) (fun _ _ _ _ _ => sts_nil) (fun _ _ _ _ _ => (se_bin (sv 3) (sv 2)))) sa_nil)) sa_nil)) se_int))
    sb_nil)

theorem sc__law_counted_families : FnScope ["_law_many", "_law_even", "_law_layer", "_law_numbers", "_law_found", "_law_family", "_law_row", "_law_more", "_law_late"] ["_law_many"] (defScope (top 29)) := ⟨rfl, rfl, rfl, by decide +kernel, rfl, by decide +kernel, by decide +kernel⟩
theorem ok__law_counted_families (T : Tx w K mg ca ad fds) : FnOk P w K mg base (L2.CX P w) 2 (ad 22) (fds 22) ["_law_many"] (spF K ca f__law_counted_families) := by
  have S := sc__law_counted_families
  refine loc_ok (ok_fnV (N := ["_law_many", "_law_even", "_law_layer", "_law_numbers", "_law_found", "_law_family", "_law_row", "_law_more", "_law_late"]) T.F__law_counted_families S rfl fun cdv A outer s H E hr tk => ?_)
  exact (sb_cons (ss_setC (own := [("_law_row", 6)]) (i := 1) rfl S.nd rfl rfl rfl (si_seq (se_call tk (ok__law_lists T) (hr.mono (by decide)) rfl T.m__law_lists T.k__law_lists T.b__law_lists (sa_cons (sv 0) sa_nil))) (blkOk_by rfl) (by decide) (fun _ _ _ _ _ => (sg 6 S.nd)) (fun _ _ _ _ _ => sts_one (st_cmp (hu65 hr) (se_bin (se_callTy at_fInt call_int1 rfl T.z_int PyProof.Rows.boot_int (sa_cons (se_callB at_fSumT (cr_sumT rfl) rfl T.z_sum PyProof.Rows.boot_sum (sa_cons (sv 6) sa_nil)) sa_nil)) se_int) se_int (nomark _))) (fun _ _ _ _ _ => (sv 6)))
    (sb_cons (ss_par2 (i := 2) (j := 3) rfl S.nd rfl rfl (by decide) rfl rfl (sa_cons (se_lst (sa_cons (se_lst (sa_cons (se_sub (hu65 hr) (sv 1) se_int (fun _ _ => by with_unfolding_all rfl)) sa_nil)) sa_nil)) (sa_cons (se_lst sa_nil) sa_nil)) rfl)
    (sb_cons (ss_while (passes_of rfl) (st_cmp (hu65 hr) (sv 2) (se_lst sa_nil) (nomark _))
    (sb_cons (ss_expr (se_ml at_mAppend F.slot_list_append F.type_list_append mt_append (sv 3) (sa_cons (se_callB at_fLen call_len rfl T.z_len PySem.boot_len (sa_cons (sv 2) sa_nil)) sa_nil)))
    (sb_cons (ss_set (se_nnew T.hW) (sg 4 S.nd))
    (sb_cons (ss_for (passes_of rfl) rfl (si_seq (sv 2)) (sg 5 S.nd)
    (sb_cons (ss_for (passes_of rfl) rfl (si_seq (sv 1)) (sg 6 S.nd)
    (sb_cons (ss_if (L2.PW.pt (sw_and (st_cmp (hu65 hr) (sv 6) (sv 5) (by with_unfolding_all rfl)) (sw_and1 (st_not (st_tru (se_callB at_fAnyI (cr_anyI rfl) rfl T.z_any PyProof.Rows.boot_any (sa_cons (se_comp (own := [("_law_late", 8)]) rfl S.nd (si_seq (sv 5)) (blkOk_by rfl) (by decide) (fun _ _ _ _ _ => (sg 8 S.nd)) (fun _ _ _ _ _ => sts_nil) (fun _ _ _ _ _ => (se_call tk0 (ok__law_share T) (hr.mono (by decide)) rfl T.m__law_share T.k__law_share T.b__law_share (sa_cons (sv 6) (sa_cons (sv 8) sa_nil))))) sa_nil)))))))
    (sb_cons (ss_set (se_callB at_fSorted (call_sortD (hu100 hr)) rfl T.z_sorted PyProof.Rows.boot_sorted (sa_cons (se_bin (sv 5) (se_comp (own := [("_law_late", 8)]) rfl S.nd (si_seq (sv 5)) (blkOk_by rfl) (by decide) (fun _ _ _ _ _ => (sg 8 S.nd)) (fun _ _ _ _ _ => sts_nil) (fun _ _ _ _ _ => (se_call tk0 (ok__law_differ T) (hr.mono (by decide)) rfl T.m__law_differ T.k__law_differ T.b__law_differ (sa_cons (sv 6) (sa_cons (sv 8) sa_nil)))))) sa_nil)) (sg 7 S.nd))
    (sb_cons (ss_nsub (hu65 hr) T.hW (sv 4) (se_callTy at_fTuple call_tuple_of rfl T.z_tuple PyProof.Rows.boot_tuple (sa_cons (sv 7) sa_nil)) (sv 7))
    sb_nil))
    sb_nil)
    sb_nil))
    sb_nil))
    (sb_cons (ss_set (se_nvals rfl rfl T.z_list T.hW (sv 4)) (sg 2 S.nd))
    sb_nil)))))
    (sb_cons (ss_ret (se_frz (sv 3)))
    sb_nil))))

theorem sc__law_counted_untied : FnScope ["_law_size", "_law_pairs_here", "_law_found", "_law_flags", "_law_pair", "_law_lists_here", "_law_flag", "_law_friends", "_law_at", "_law_mine", "_law_person", "_law_row"] ["_law_size"] (defScope (top 30)) := ⟨rfl, rfl, rfl, by decide +kernel, rfl, by decide +kernel, by decide +kernel⟩
theorem ok__law_counted_untied (T : Tx w K mg ca ad fds) : FnOk P w K mg base (L2.CX P w) 2 (ad 23) (fds 23) ["_law_size"] (spF K ca f__law_counted_untied) := by
  have S := sc__law_counted_untied
  refine loc_ok (ok_fnV (N := ["_law_size", "_law_pairs_here", "_law_found", "_law_flags", "_law_pair", "_law_lists_here", "_law_flag", "_law_friends", "_law_at", "_law_mine", "_law_person", "_law_row"]) T.F__law_counted_untied S rfl fun cdv A outer s H E hr tk => ?_)
  exact (sb_cons (ss_par3 (i := 1) (j := 2) (k := 3) rfl S.nd rfl rfl rfl rfl rfl rfl (sa_cons (se_call tk (ok__law_pairs T) (hr.mono (by decide)) rfl T.m__law_pairs T.k__law_pairs T.b__law_pairs (sa_cons (se_listRg rfl rfl T.z_list rfl T.z_range (sv 0)) sa_nil)) (sa_cons se_int (sa_cons (se_lst (sa_cons (se_tup sa_nil) sa_nil)) sa_nil))) rfl)
    (sb_cons (ss_for (passes_of rfl) rfl (si_seq (sv 1)) (sg 4 S.nd)
    (sb_cons (ss_set (se_bin (se_comp (own := [("_law_flag", 6)]) rfl S.nd (si_seq (sv 3)) (blkOk_by rfl) (by decide) (fun _ _ _ _ _ => (sg 6 S.nd)) (fun _ _ _ _ _ => sts_nil) (fun _ _ _ _ _ => (se_bin (sv 6) (se_tup (sa_cons se_int sa_nil))))) (se_comp (own := [("_law_flag", 6)]) rfl S.nd (si_seq (sv 3)) (blkOk_by rfl) (by decide) (fun _ _ _ _ _ => (sg 6 S.nd)) (fun _ _ _ _ _ => sts_nil) (fun _ _ _ _ _ => (se_bin (sv 6) (se_tup (sa_cons se_int sa_nil)))))) (sg 3 S.nd))
    sb_nil))
    (sb_cons (ss_setC (own := [("_law_row", 11)]) (i := 5) rfl S.nd rfl rfl rfl (si_seq (se_call tk (ok__law_lists T) (hr.mono (by decide)) rfl T.m__law_lists T.k__law_lists T.b__law_lists (sa_cons (sv 0) sa_nil))) (blkOk_by rfl) (by decide) (fun _ _ _ _ _ => (sg 11 S.nd)) (fun _ _ _ _ _ => sts_one (st_cmp (hu65 hr) (se_callB at_fSumT (cr_sumT rfl) rfl T.z_sum PyProof.Rows.boot_sum (sa_cons (sv 11) sa_nil)) se_int (nomark _))) (fun _ _ _ _ _ => (sv 11)))
    (sb_cons (ss_for (passes_of rfl) rfl (si_seq (sv 3)) (sg 6 S.nd)
    (sb_cons (ss_set (se_comp (own := [("_law_person", 10)]) rfl S.nd (si_range1 rfl T.z_range (sv 0)) (blkOk_by rfl) (by decide) (fun _ _ _ _ _ => (sg 10 S.nd)) (fun _ _ _ _ _ => sts_nil) (fun _ _ _ _ _ => (se_repL (se_lst (sa_cons se_int sa_nil)) (sv 0)))) (sg 7 S.nd))
    (sb_cons (ss_for (passes_of rfl) rfl (si_range1 rfl T.z_range (se_callB at_fLen call_len rfl T.z_len PySem.boot_len (sa_cons (sv 1) sa_nil))) (sg 8 S.nd)
    (sb_cons (ss_sub (hu1 hr) (se_sub (hu65 hr) (sv 7) (se_sub (hu65 hr) (se_sub (hu65 hr) (sv 1) (sv 8) (fun _ _ => by with_unfolding_all rfl)) se_int (fun _ _ => by with_unfolding_all rfl)) (fun _ _ => by with_unfolding_all rfl)) (se_sub (hu65 hr) (se_sub (hu65 hr) (sv 1) (sv 8) (fun _ _ => by with_unfolding_all rfl)) se_int (fun _ _ => by with_unfolding_all rfl)) (se_sub (hu65 hr) (sv 6) (sv 8) (fun _ _ => by with_unfolding_all rfl)))
    (sb_cons (ss_sub (hu1 hr) (se_sub (hu65 hr) (sv 7) (se_sub (hu65 hr) (se_sub (hu65 hr) (sv 1) (sv 8) (fun _ _ => by with_unfolding_all rfl)) se_int (fun _ _ => by with_unfolding_all rfl)) (fun _ _ => by with_unfolding_all rfl)) (se_sub (hu65 hr) (se_sub (hu65 hr) (sv 1) (sv 8) (fun _ _ => by with_unfolding_all rfl)) se_int (fun _ _ => by with_unfolding_all rfl)) (se_sub (hu65 hr) (sv 6) (sv 8) (fun _ _ => by with_unfolding_all rfl)))
    sb_nil)))
    (sb_cons (ss_set (se_bin (sv 2) (se_callTy at_fInt call_int1 rfl T.z_int PyProof.Rows.boot_int (sa_cons (se_peek (se_callB at_fAll (cr_all rfl) rfl T.z_all PyProof.Rows.boot_all (sa_cons (se_comp (own := [("_law_row", 11)]) rfl S.nd (si_seq (sv 5)) (blkOk_by rfl) (by decide) (fun _ _ _ _ _ => (sg 11 S.nd)) (fun _ _ _ _ _ => sts_nil) (fun _ _ _ _ _ => (se_callB at_fAnyI (cr_anyI rfl) rfl T.z_any PyProof.Rows.boot_any (sa_cons (se_comp (own := [("_law_mine", 9)]) rfl S.nd (si_seq (sv 7)) (blkOk_by rfl) (by decide) (fun _ _ _ _ _ => (sg 9 S.nd)) (fun _ _ _ _ _ => sts_nil) (fun _ _ _ _ _ => (se_call tk0 (ok__law_share T) (hr.mono (by decide)) rfl T.m__law_share T.k__law_share T.b__law_share (sa_cons (sv 11) (sa_cons (sv 9) sa_nil))))) sa_nil)))) sa_nil))) sa_nil))) (sg 2 S.nd))
    sb_nil))))
    (sb_cons (ss_ret (sv 2))
    sb_nil)))))

theorem sc_law : FnScope ["_law_script", "_law_purse_here", "_law_many", "_law_numbers", "_law_size", "_law_untied", "_law_turn", "_law_told"] ["_law_script"] (defScope (top 31)) := ⟨rfl, rfl, rfl, by decide +kernel, rfl, by decide +kernel, by decide +kernel⟩
theorem ok_law (T : Tx w K mg ca ad fds) : FnOk P w K mg base (L2.CX P w) 8 (ad 24) (fds 24) ["_law_script"] (spF K ca f_law) := by
  have S := sc_law
  refine ok_fnV (N := ["_law_script", "_law_purse_here", "_law_many", "_law_numbers", "_law_size", "_law_untied", "_law_turn", "_law_told"]) T.F_law S rfl fun cdv A outer s H E hr tk => ?_
  exact (sb_cons (ss_for (passes_of rfl) rfl (si_seq (se_call tk (ok__law_purses T) (hr.mono (by decide)) rfl T.m__law_purses T.k__law_purses T.b__law_purses (sa_cons (sv 0) (sa_cons se_int sa_nil)))) (sg 1 S.nd)
    (sb_cons (ss_set (se_if (st_cmp (hu65 hr) (se_call tk (ok__law_draw T) (hr.mono (by decide)) rfl T.m__law_draw T.k__law_draw T.b__law_draw (sa_cons (sv 1) (sa_cons se_int sa_nil))) se_int (nomark _)) se_int (se_bin se_int (se_call tk (ok__law_draw T) (hr.mono (by decide)) rfl T.m__law_draw T.k__law_draw T.b__law_draw (sa_cons (sv 1) (sa_cons se_int sa_nil))))) (sg 2 S.nd))
    (sb_cons (ss_set (se_bin (se_call tk (ok__law_counted_families T) (hr.mono (by decide)) rfl T.m__law_counted_families T.k__law_counted_families T.b__law_counted_families (sa_cons (sv 2) sa_nil)) (se_bin (se_lst (sa_cons se_int sa_nil)) se_int)) (sg 3 S.nd))
    (sb_cons (ss_if (st_not (st_tru (se_call tk (ok__law_exact T 6) (hr.mono (by decide)) rfl T.m__law_exact T.k__law_exact T.b__law_exact (sa_cons (se_comp (own := [("_law_size", 4)]) rfl S.nd (si_range1 rfl T.z_range se_int) (blkOk_by rfl) (by decide) (fun _ _ _ _ _ => (sg 4 S.nd)) (fun _ _ _ _ _ => sts_nil) (fun _ _ _ _ _ => (se_call tk0 (ok_even_families T) (hr.mono (by decide)) rfl T.m_even_families T.k_even_families T.b_even_families (sa_cons (sv 2) (sa_cons (sv 4) sa_nil))))) (sa_cons (se_slc (sv 3) so_none (so_some se_int)) sa_nil)))))
    (sb_cons (ss_ret se_bl)
    sb_nil)
    sb_nil)
    (sb_cons (ss_set (se_if (st_cmp (hu65 hr) (se_call tk (ok__law_draw T) (hr.mono (by decide)) rfl T.m__law_draw T.k__law_draw T.b__law_draw (sa_cons (sv 1) (sa_cons se_int sa_nil))) se_int (nomark _)) se_int (se_call tk (ok__law_draw T) (hr.mono (by decide)) rfl T.m__law_draw T.k__law_draw T.b__law_draw (sa_cons (sv 1) (sa_cons se_int sa_nil)))) (sg 4 S.nd))
    (sb_cons (ss_if (st_not (st_tru (se_call tk (ok__law_exact T 6) (hr.mono (by decide)) rfl T.m__law_exact T.k__law_exact T.b__law_exact (sa_cons (se_call tk (ok_untied_companies T) (hr.mono (by decide)) rfl T.m_untied_companies T.k_untied_companies T.b_untied_companies (sa_cons (sv 4) sa_nil)) (sa_cons (se_call tk (ok__law_counted_untied T) (hr.mono (by decide)) rfl T.m__law_counted_untied T.k__law_counted_untied T.b__law_counted_untied (sa_cons (sv 4) sa_nil)) sa_nil)))))
    (sb_cons (ss_ret se_bl)
    sb_nil)
    sb_nil)
    (sb_cons (ss_set (se_call tk (ok__law_untied_to T) (hr.mono (by decide)) rfl T.m__law_untied_to T.k__law_untied_to T.b__law_untied_to (sa_cons se_int sa_nil)) (sg 5 S.nd))
    (sb_cons (ss_for (passes_of rfl) rfl (si_range1 rfl T.z_range se_int) (sg 6 S.nd)
    (sb_cons (ss_set (se_tup (sa_cons (se_bin se_int (se_call tk (ok__law_draw T) (hr.mono (by decide)) rfl T.m__law_draw T.k__law_draw T.b__law_draw (sa_cons (sv 1) (sa_cons se_int sa_nil)))) (sa_cons (se_call tk (ok__law_draw T) (hr.mono (by decide)) rfl T.m__law_draw T.k__law_draw T.b__law_draw (sa_cons (sv 1) (sa_cons se_int sa_nil))) sa_nil))) (sg_tup rfl (sgs_cons (sg 2 S.nd) (sgs_cons (sg 4 S.nd) sgs_nil))))
    (sb_cons (ss_if (st_not (st_tru (se_call tk (ok__law_exact T 6) (hr.mono (by decide)) rfl T.m__law_exact T.k__law_exact T.b__law_exact (sa_cons (se_lst (sa_cons (se_call tk (ok_even_families T) (hr.mono (by decide)) rfl T.m_even_families T.k_even_families T.b_even_families (sa_cons (sv 2) (sa_cons (sv 4) sa_nil))) (sa_cons (se_call tk (ok_untied_companies T) (hr.mono (by decide)) rfl T.m_untied_companies T.k_untied_companies T.b_untied_companies (sa_cons (sv 2) sa_nil)) sa_nil))) (sa_cons (se_lst (sa_cons (se_call tk (ok__law_families T 3) (hr.mono (by decide)) rfl T.m__law_families T.k__law_families T.b__law_families (sa_cons (sv 2) (sa_cons (sv 4) sa_nil))) (sa_cons (se_sub (hu65 hr) (sv 5) (sv 2) (fun _ _ => by with_unfolding_all rfl)) sa_nil))) sa_nil)))))
    (sb_cons (ss_ret se_bl)
    sb_nil)
    sb_nil)
    sb_nil)))
    sb_nil))))))))
    (sb_cons (ss_set (se_lst (sa_cons (se_call tk (ok_even_families T) (hr.mono (by decide)) rfl T.m_even_families T.k_even_families T.b_even_families (sa_cons se_int (sa_cons se_int sa_nil))) (sa_cons (se_call tk (ok_even_families T) (hr.mono (by decide)) rfl T.m_even_families T.k_even_families T.b_even_families (sa_cons se_int (sa_cons se_int sa_nil))) (sa_cons (se_call tk (ok_even_families T) (hr.mono (by decide)) rfl T.m_even_families T.k_even_families T.b_even_families (sa_cons se_int (sa_cons se_int sa_nil))) (sa_cons (se_call tk (ok_even_families T) (hr.mono (by decide)) rfl T.m_even_families T.k_even_families T.b_even_families (sa_cons se_int (sa_cons se_int sa_nil))) (sa_cons (se_call tk (ok_untied_companies T) (hr.mono (by decide)) rfl T.m_untied_companies T.k_untied_companies T.b_untied_companies (sa_cons se_int sa_nil)) (sa_cons (se_call tk (ok_untied_companies T) (hr.mono (by decide)) rfl T.m_untied_companies T.k_untied_companies T.b_untied_companies (sa_cons se_int sa_nil)) sa_nil))))))) (sg 7 S.nd))
    (sb_cons (ss_ret (se_call tk (ok__law_exact T 6) (hr.mono (by decide)) rfl T.m__law_exact T.k__law_exact T.b__law_exact (sa_cons (sv 7) (sa_cons (se_lst (sa_cons se_int (sa_cons se_int (sa_cons se_int (sa_cons se_int (sa_cons se_int (sa_cons se_int sa_nil))))))) sa_nil))))
    sb_nil)))
end
end Pv
open PySem PySem.W PyProof.Rows
set_option maxHeartbeats 0 in
theorem PySem.Challenge.cw_evenfriends_k56_whole_even_families_and_holds : PySem.Challenge.rw_evenfriends_k56_whole_even_families_and.Holds := by
  w_on; o_law; k_head; (case hw => w_witness2)
  k_fill
  refine Pv.walk (l := PySem.Challenge.rw_evenfriends_k56_whole_even_families_and) (f := Pv.f_law) (k := 8) (x := "_law_script") rfl rfl ⟨rfl, by decide, by decide⟩ (fun w h Y => PySem.W.kIn_of Y) Pv.plain_law ?F
  case F =>
    intro w mg fa h KX G hmg
    refine' Pv.def_then (x := "is_whole") (st := (Pv.top 4)) (ps := ["value"]) KX G ?a ?l ?c ?k (fun _ _ _ _ _ _ us hl => match us, hl with | [_], _ => rfl) ?_; (case a => k_is); (case l => k_is); (case c => k_is); (case k => k_is)
    intro f0 fd0 D0 m0 k0
    refine' Pv.def_thenN (x := "is_count") (st := (Pv.top 5)) (ps := ["value", "most"]) KX G ?a ?l ?c ?k ?lT ?oT ?hs (fun T v _ _ _ _ _ _ us hl => match us, hl with | [_, _], _ => ⟨_, rfl, rfl⟩) (fun T _ _ _ _ _ _ us hl => match us, hl with | [_], _ => ⟨_, rfl, rfl⟩) ?_; (case a => k_is); (case l => k_is); (case c => k_is); (case k => k_is); (case lT => k_is); (case oT => rfl); (case hs => rfl)
    intro f1 fd1 D1 m1 k1 bD1
    refine' Pv.def_thenN (x := "check_count") (st := (Pv.top 6)) (ps := ["value", "most"]) KX G ?a ?l ?c ?k ?lT ?oT ?hs (fun T v _ _ _ _ _ _ us hl => match us, hl with | [_, _], _ => ⟨_, rfl, rfl⟩) (fun T _ _ _ _ _ _ us hl => match us, hl with | [_], _ => ⟨_, rfl, rfl⟩) ?_; (case a => k_is); (case l => k_is); (case c => k_is); (case k => k_is); (case lT => k_is); (case oT => rfl); (case hs => rfl)
    intro f2 fd2 D2 m2 k2 bD2
    refine' Pv.def_then (x := "check_many") (st := (Pv.top 8)) (ps := ["value"]) KX G ?a ?l ?c ?k (fun _ _ _ _ _ _ us hl => match us, hl with | [_], _ => rfl) ?_; (case a => k_is); (case l => k_is); (case c => k_is); (case k => k_is)
    intro f3 fd3 D3 m3 k3
    refine' Pv.def_then (x := "power") (st := (Pv.top 10)) (ps := ["number"]) KX G ?a ?l ?c ?k (fun _ _ _ _ _ _ us hl => match us, hl with | [_], _ => rfl) ?_; (case a => k_is); (case l => k_is); (case c => k_is); (case k => k_is)
    intro f4 fd4 D4 m4 k4
    refine' Pv.def_then (x := "narrow_families") (st := (Pv.top 11)) (ps := ["many", "size"]) KX G ?a ?l ?c ?k (fun _ _ _ _ _ _ us hl => match us, hl with | [_, _], _ => rfl) ?_; (case a => k_is); (case l => k_is); (case c => k_is); (case k => k_is)
    intro f5 fd5 D5 m5 k5
    refine' Pv.def_then (x := "families") (st := (Pv.top 12)) (ps := ["many", "size"]) KX G ?a ?l ?c ?k (fun _ _ _ _ _ _ us hl => match us, hl with | [_, _], _ => rfl) ?_; (case a => k_is); (case l => k_is); (case c => k_is); (case k => k_is)
    intro f6 fd6 D6 m6 k6
    refine' Pv.def_then (x := "untied") (st := (Pv.top 13)) (ps := ["size"]) KX G ?a ?l ?c ?k (fun _ _ _ _ _ _ us hl => match us, hl with | [_], _ => rfl) ?_; (case a => k_is); (case l => k_is); (case c => k_is); (case k => k_is)
    intro f7 fd7 D7 m7 k7
    refine' Pv.def_then (x := "even_families") (st := (Pv.top 14)) (ps := ["many", "size"]) KX G ?a ?l ?c ?k (fun _ _ _ _ _ _ us hl => match us, hl with | [_, _], _ => rfl) ?_; (case a => k_is); (case l => k_is); (case c => k_is); (case k => k_is)
    intro f8 fd8 D8 m8 k8
    refine' Pv.def_then (x := "untied_companies") (st := (Pv.top 15)) (ps := ["size"]) KX G ?a ?l ?c ?k (fun _ _ _ _ _ _ us hl => match us, hl with | [_], _ => rfl) ?_; (case a => k_is); (case l => k_is); (case c => k_is); (case k => k_is)
    intro f9 fd9 D9 m9 k9
    refine' Pv.def_then (x := "_law_purse") (st := (Pv.top 17)) (ps := ["_law_script", "_law_at"]) KX G ?a ?l ?c ?k (fun _ _ _ _ _ _ us hl => match us, hl with | [_, _], _ => rfl) ?_; (case a => k_is); (case l => k_is); (case c => k_is); (case k => k_is)
    intro f10 fd10 D10 m10 k10
    refine' Pv.def_then (x := "_law_mixed") (st := (Pv.top 18)) (ps := ["_law_seed", "_law_turn", "_law_at"]) KX G ?a ?l ?c ?k (fun _ _ _ _ _ _ us hl => match us, hl with | [_, _, _], _ => rfl) ?_; (case a => k_is); (case l => k_is); (case c => k_is); (case k => k_is)
    intro f11 fd11 D11 m11 k11
    refine' Pv.def_then (x := "_law_draw") (st := (Pv.top 19)) (ps := ["_law_purse_here", "_law_many"]) KX G ?a ?l ?c ?k (fun _ _ _ _ _ _ us hl => match us, hl with | [_, _], _ => rfl) ?_; (case a => k_is); (case l => k_is); (case c => k_is); (case k => k_is)
    intro f12 fd12 D12 m12 k12
    refine' Pv.def_then (x := "_law_purses") (st := (Pv.top 20)) (ps := ["_law_script", "_law_few"]) KX G ?a ?l ?c ?k (fun _ _ _ _ _ _ us hl => match us, hl with | [_, _], _ => rfl) ?_; (case a => k_is); (case l => k_is); (case c => k_is); (case k => k_is)
    intro f13 fd13 D13 m13 k13
    refine' Pv.def_then (x := "_law_exact") (st := (Pv.top 21)) (ps := ["_law_mine", "_law_theirs"]) KX G ?a ?l ?c ?k (fun _ _ _ _ _ _ us hl => match us, hl with | [_, _], _ => rfl) ?_; (case a => k_is); (case l => k_is); (case c => k_is); (case k => k_is)
    intro f14 fd14 D14 m14 k14
    refine' Pv.def_then (x := "_law_pairs") (st := (Pv.top 22)) (ps := ["_law_crowd"]) KX G ?a ?l ?c ?k (fun _ _ _ _ _ _ us hl => match us, hl with | [_], _ => rfl) ?_; (case a => k_is); (case l => k_is); (case c => k_is); (case k => k_is)
    intro f15 fd15 D15 m15 k15
    refine' Pv.def_then (x := "_law_power") (st := (Pv.top 23)) (ps := ["_law_number"]) KX G ?a ?l ?c ?k (fun _ _ _ _ _ _ us hl => match us, hl with | [_], _ => rfl) ?_; (case a => k_is); (case l => k_is); (case c => k_is); (case k => k_is)
    intro f16 fd16 D16 m16 k16
    refine' Pv.def_then (x := "_law_untied_to") (st := (Pv.top 24)) (ps := ["_law_most"]) KX G ?a ?l ?c ?k (fun _ _ _ _ _ _ us hl => match us, hl with | [_], _ => rfl) ?_; (case a => k_is); (case l => k_is); (case c => k_is); (case k => k_is)
    intro f17 fd17 D17 m17 k17
    refine' Pv.def_then (x := "_law_families") (st := (Pv.top 25)) (ps := ["_law_many", "_law_size"]) KX G ?a ?l ?c ?k (fun _ _ _ _ _ _ us hl => match us, hl with | [_, _], _ => rfl) ?_; (case a => k_is); (case l => k_is); (case c => k_is); (case k => k_is)
    intro f18 fd18 D18 m18 k18
    refine' Pv.def_then (x := "_law_lists") (st := (Pv.top 26)) (ps := ["_law_many"]) KX G ?a ?l ?c ?k (fun _ _ _ _ _ _ us hl => match us, hl with | [_], _ => rfl) ?_; (case a => k_is); (case l => k_is); (case c => k_is); (case k => k_is)
    intro f19 fd19 D19 m19 k19
    refine' Pv.def_then (x := "_law_differ") (st := (Pv.top 27)) (ps := ["_law_first", "_law_second"]) KX G ?a ?l ?c ?k (fun _ _ _ _ _ _ us hl => match us, hl with | [_, _], _ => rfl) ?_; (case a => k_is); (case l => k_is); (case c => k_is); (case k => k_is)
    intro f20 fd20 D20 m20 k20
    refine' Pv.def_then (x := "_law_share") (st := (Pv.top 28)) (ps := ["_law_first", "_law_second"]) KX G ?a ?l ?c ?k (fun _ _ _ _ _ _ us hl => match us, hl with | [_, _], _ => rfl) ?_; (case a => k_is); (case l => k_is); (case c => k_is); (case k => k_is)
    intro f21 fd21 D21 m21 k21
    refine' Pv.def_then (x := "_law_counted_families") (st := (Pv.top 29)) (ps := ["_law_many"]) KX G ?a ?l ?c ?k (fun _ _ _ _ _ _ us hl => match us, hl with | [_], _ => rfl) ?_; (case a => k_is); (case l => k_is); (case c => k_is); (case k => k_is)
    intro f22 fd22 D22 m22 k22
    refine' Pv.def_then (x := "_law_counted_untied") (st := (Pv.top 30)) (ps := ["_law_size"]) KX G ?a ?l ?c ?k (fun _ _ _ _ _ _ us hl => match us, hl with | [_], _ => rfl) ?_; (case a => k_is); (case l => k_is); (case c => k_is); (case k => k_is)
    intro f23 fd23 D23 m23 k23
    refine' Pv.law_then (x := "law") (st := (Pv.top 31)) (p := "_law_script") KX G ?a ?l ?c ?k (fun _ _ _ _ _ _ us hl => match us, hl with | [_], _ => rfl) ?_; (case a => k_is); (case l => k_is); (case c => k_is); (case k => k_is)
    intro f24 fd24 D24 m24 k24 BL
    refine' Pv.kc_nil (w := w) KX ?_
    intro kc
    refine' Pv.none_then (x := "all") KX G ?a ?_; (case a => k_is)
    intro z_all
    refine' Pv.none_then (x := "any") KX G ?a ?_; (case a => k_is)
    intro z_any
    refine' Pv.none_then (x := "bool") KX G ?a ?_; (case a => k_is)
    intro z_bool
    refine' Pv.none_then (x := "dict") KX G ?a ?_; (case a => k_is)
    intro z_dict
    refine' Pv.none_then (x := "int") KX G ?a ?_; (case a => k_is)
    intro z_int
    refine' Pv.none_then (x := "isinstance") KX G ?a ?_; (case a => k_is)
    intro z_isinstance
    refine' Pv.none_then (x := "len") KX G ?a ?_; (case a => k_is)
    intro z_len
    refine' Pv.none_then (x := "list") KX G ?a ?_; (case a => k_is)
    intro z_list
    refine' Pv.none_then (x := "max") KX G ?a ?_; (case a => k_is)
    intro z_max
    refine' Pv.none_then (x := "min") KX G ?a ?_; (case a => k_is)
    intro z_min
    refine' Pv.none_then (x := "range") KX G ?a ?_; (case a => k_is)
    intro z_range
    refine' Pv.none_then (x := "sorted") KX G ?a ?_; (case a => k_is)
    intro z_sorted
    refine' Pv.none_then (x := "sum") KX G ?a ?_; (case a => k_is)
    intro z_sum
    refine' Pv.none_then (x := "tuple") KX G ?a ?_; (case a => k_is)
    intro z_tuple
    refine' Pv.none_then (x := "zip") KX G ?a ?_; (case a => k_is)
    intro z_zip
    have T : Pv.Tx w _ mg (Pv.clsC w _) (fun i => [f0, f1, f2, f3, f4, f5, f6, f7, f8, f9, f10, f11, f12, f13, f14, f15, f16, f17, f18, f19, f20, f21, f22, f23, f24].getD i 0) (fun i => [fd0, fd1, fd2, fd3, fd4, fd5, fd6, fd7, fd8, fd9, fd10, fd11, fd12, fd13, fd14, fd15, fd16, fd17, fd18, fd19, fd20, fd21, fd22, fd23, fd24].getD i fd0) := ⟨D0.F, D0.b, m0, k0, D1.F, D1.b, m1, k1, D2.F, D2.b, m2, k2, D3.F, D3.b, m3, k3, D4.F, D4.b, m4, k4, D5.F, D5.b, m5, k5, D6.F, D6.b, m6, k6, D7.F, D7.b, m7, k7, D8.F, D8.b, m8, k8, D9.F, D9.b, m9, k9, D10.F, D10.b, m10, k10, D11.F, D11.b, m11, k11, D12.F, D12.b, m12, k12, D13.F, D13.b, m13, k13, D14.F, D14.b, m14, k14, D15.F, D15.b, m15, k15, D16.F, D16.b, m16, k16, D17.F, D17.b, m17, k17, D18.F, D18.b, m18, k18, D19.F, D19.b, m19, k19, D20.F, D20.b, m20, k20, D21.F, D21.b, m21, k21, D22.F, D22.b, m22, k22, D23.F, D23.b, m23, k23, D24.F, D24.b, m24, k24, kc, z_all, z_any, z_bool, z_dict, z_int, z_isinstance, z_len, z_list, z_max, z_min, z_range, z_sorted, z_sum, z_tuple, z_zip, bD2, bD1, rfl⟩
    have e := m24.symm.trans hmg
    cases e
    exact ⟨fd24, BL, fun base _ _ => Pv.ok_law T⟩
